import PyProof.Rows.All
import Wide.All
import OpenK.AllK
import Wide.FinOn
import KE.KStateDown
import Lean
import KE.HD3
import HandS.Base
import HandS.Call
import HandS.Ends
import HandS.More
import HandS.Words
import HandS.WordsExc
import HandS.Defaults
import HandS.HeadEnd
import HandS.HeadHook1
import HandS.HeadHook2
import PySem.Challenge.RW_headsheard_k32_whole_each_spoiled_paper
import HandS.ForMost
import HandS.ForExc
import HandS.Deep
import HandS.DictComp
import HandS.DictTup
import HandS.Conv
import HandS.IsInst
import HandS.Gcd
import HandS.Wide
import HandS.TupLe
import HandS.TupAny
import HandS.SortRule
import HandS.SortInts
import HandS.OwnEq
import HandS.NoneIn
import HandS.Strs
import HandS.Set
import HandS.Flow
import HandS.Codes
import KE.SortData
import KE.DataCmp
import KE.KTupSum
import KE.GoesEnum
import KE.GoesMore
import HandS.SetFor
set_option Elab.async false
set_option linter.all false
set_option maxRecDepth 100000
set_option maxHeartbeats 0
namespace HH
open PySem PySem.Spec PyProof.Rows L2
def top (i : Nat) : Stmt := PySem.Challenge.pw_headsheard_k32_whole_each_spoiled_paper.main.body.getD i (.Pass ⟨0, 0, 0, 0⟩)
/-! ### the defs of the text -/
abbrev s_is_whole : Stmt := top 9
abbrev s_is_start : Stmt := top 10
abbrev s_is_number : Stmt := top 13
abbrev s_check_strength : Stmt := top 14
abbrev s_lowest : Stmt := top 15
abbrev s_times : Stmt := top 16
abbrev s_check_level_stilllevels : Stmt := top 18
abbrev s_only_children : Stmt := top 20
abbrev s_heard_amount : Stmt := top 21
abbrev s_heard_table : Stmt := top 22
abbrev s_hangs_together : Stmt := top 23
abbrev s_is_balanced : Stmt := top 24
abbrev s_counts_at : Stmt := top 25
abbrev s_numbers_agree : Stmt := top 26
abbrev s_is_couple : Stmt := top 30
abbrev s_check_heard : Stmt := top 31
abbrev s_check_node : Stmt := top 32
abbrev s_check_level_views : Stmt := top 33
abbrev s_reached_below : Stmt := top 35
abbrev s_check_levels : Stmt := top 36
abbrev s_cut_levels : Stmt := top 37
abbrev s_earlier_view : Stmt := top 38
abbrev s_View_init : Stmt := inClass (top 39) 0
abbrev s_View_check_place : Stmt := inClass (top 39) 2
abbrev s_View_check_node : Stmt := inClass (top 39) 3
abbrev s_View_path : Stmt := inClass (top 39) 4
abbrev s_View_start_of : Stmt := inClass (top 39) 5
abbrev s_ShortPaper_init : Stmt := inClass (top 41) 0
abbrev s_ShortFault_init : Stmt := inClass (top 42) 0
abbrev s_ShortFault_eq : Stmt := inClass (top 42) 1
abbrev s_level_fault : Stmt := top 43
abbrev s_levels_are_right : Stmt := top 44
abbrev s_short_fault : Stmt := top 45
abbrev s_law_open : Stmt := top 47
abbrev s_law_draw : Stmt := top 48
abbrev s_law_order : Stmt := top 49
abbrev s_law_strength : Stmt := top 50
abbrev s_law_links : Stmt := top 51
abbrev s_law_shape : Stmt := top 52
abbrev s_law_course : Stmt := top 53
abbrev s_law_starts : Stmt := top 54
abbrev s_law_low : Stmt := top 55
abbrev s_law_plus : Stmt := top 56
abbrev s_law_heard : Stmt := top 57
abbrev s_law_levels : Stmt := top 58
abbrev s_law_standing : Stmt := top 59
abbrev s_law_seen : Stmt := top 60
abbrev s_law_view : Stmt := top 61
abbrev s_law_node : Stmt := top 62
abbrev s_law_kids : Stmt := top 63
abbrev s_law_amount : Stmt := top 64
abbrev s_law_table : Stmt := top 65
abbrev s_law_hangs : Stmt := top 66
abbrev s_law_balanced : Stmt := top 67
abbrev s_law_divisor : Stmt := top 68
abbrev s_law_ratio : Stmt := top 69
abbrev s_law_still : Stmt := top 70
abbrev s_law_root : Stmt := top 71
abbrev s_law_start : Stmt := top 72
abbrev s_law_lit_sum : Stmt := top 73
abbrev s_law_scaled : Stmt := top 74
abbrev s_law_counts_at : Stmt := top 75
abbrev s_law_sums : Stmt := top 76
abbrev s_law_agree : Stmt := top 77
abbrev s_law_chain : Stmt := top 78
abbrev s_law_judge : Stmt := top 79
abbrev s_law_level_fault : Stmt := top 80
abbrev s_law_cut : Stmt := top 81
abbrev s_law_free : Stmt := top 82
abbrev s_law_any_nodes : Stmt := top 83
abbrev s_law_straight : Stmt := top 84
abbrev s_law_real : Stmt := top 85
abbrev s_law_some : Stmt := top 86
abbrev s_law_same : Stmt := top 87
abbrev s_law_paper : Stmt := top 88
abbrev s_law_due : Stmt := top 89
abbrev s_law_spoil : Stmt := top 90
abbrev s_law_bend : Stmt := top 91
abbrev s_law : Stmt := top 92
def d_is_whole : He.DefD := ⟨("is_whole", none), "is_whole", "is_whole", defArgs s_is_whole, defBody s_is_whole, defScope s_is_whole, [.non, .non], []⟩
def d_is_start : He.DefD := ⟨("is_start", none), "is_start", "is_start", defArgs s_is_start, defBody s_is_start, defScope s_is_start, [], []⟩
def d_is_number : He.DefD := ⟨("is_number", none), "is_number", "is_number", defArgs s_is_number, defBody s_is_number, defScope s_is_number, [], []⟩
def d_check_strength : He.DefD := ⟨("check_strength", none), "check_strength", "check_strength", defArgs s_check_strength, defBody s_check_strength, defScope s_check_strength, [], []⟩
def d_lowest : He.DefD := ⟨("lowest", none), "lowest", "lowest", defArgs s_lowest, defBody s_lowest, defScope s_lowest, [], []⟩
def d_times : He.DefD := ⟨("times", none), "times", "times", defArgs s_times, defBody s_times, defScope s_times, [], []⟩
def d_check_level_stilllevels : He.DefD := ⟨("check_level_stilllevels", none), "check_level", "check_level", defArgs s_check_level_stilllevels, defBody s_check_level_stilllevels, defScope s_check_level_stilllevels, [], []⟩
def d_only_children : He.DefD := ⟨("only_children", none), "only_children", "only_children", defArgs s_only_children, defBody s_only_children, defScope s_only_children, [], []⟩
def d_heard_amount : He.DefD := ⟨("heard_amount", none), "heard_amount", "heard_amount", defArgs s_heard_amount, defBody s_heard_amount, defScope s_heard_amount, [], []⟩
def d_heard_table : He.DefD := ⟨("heard_table", none), "heard_table", "heard_table", defArgs s_heard_table, defBody s_heard_table, defScope s_heard_table, [], []⟩
def d_hangs_together : He.DefD := ⟨("hangs_together", none), "hangs_together", "hangs_together", defArgs s_hangs_together, defBody s_hangs_together, defScope s_hangs_together, [], []⟩
def d_is_balanced : He.DefD := ⟨("is_balanced", none), "is_balanced", "is_balanced", defArgs s_is_balanced, defBody s_is_balanced, defScope s_is_balanced, [], []⟩
def d_counts_at : He.DefD := ⟨("counts_at", none), "counts_at", "counts_at", defArgs s_counts_at, defBody s_counts_at, defScope s_counts_at, [], []⟩
def d_numbers_agree : He.DefD := ⟨("numbers_agree", none), "numbers_agree", "numbers_agree", defArgs s_numbers_agree, defBody s_numbers_agree, defScope s_numbers_agree, [], []⟩
def d_is_couple : He.DefD := ⟨("is_couple", none), "is_couple", "is_couple", defArgs s_is_couple, defBody s_is_couple, defScope s_is_couple, [], []⟩
def d_check_heard : He.DefD := ⟨("check_heard", none), "check_heard", "check_heard", defArgs s_check_heard, defBody s_check_heard, defScope s_check_heard, [], []⟩
def d_check_node : He.DefD := ⟨("check_node", none), "check_node", "check_node", defArgs s_check_node, defBody s_check_node, defScope s_check_node, [], []⟩
def d_check_level_views : He.DefD := ⟨("check_level_views", none), "check_level", "check_level", defArgs s_check_level_views, defBody s_check_level_views, defScope s_check_level_views, [], []⟩
def d_reached_below : He.DefD := ⟨("reached_below", none), "reached_below", "reached_below", defArgs s_reached_below, defBody s_reached_below, defScope s_reached_below, [], []⟩
def d_check_levels : He.DefD := ⟨("check_levels", none), "check_levels", "check_levels", defArgs s_check_levels, defBody s_check_levels, defScope s_check_levels, [], []⟩
def d_cut_levels : He.DefD := ⟨("cut_levels", none), "cut_levels", "cut_levels", defArgs s_cut_levels, defBody s_cut_levels, defScope s_cut_levels, [], []⟩
def d_earlier_view : He.DefD := ⟨("earlier_view", none), "earlier_view", "earlier_view", defArgs s_earlier_view, defBody s_earlier_view, defScope s_earlier_view, [], []⟩
def d_View_init : He.DefD := ⟨("View", some "__init__"), "__init__", "View.__init__", defArgs s_View_init, defBody s_View_init, defScope s_View_init, [], []⟩
def d_View_check_place : He.DefD := ⟨("View", some "check_place"), "check_place", "View.check_place", defArgs s_View_check_place, defBody s_View_check_place, defScope s_View_check_place, [], []⟩
def d_View_check_node : He.DefD := ⟨("View", some "check_node"), "check_node", "View.check_node", defArgs s_View_check_node, defBody s_View_check_node, defScope s_View_check_node, [], []⟩
def d_View_path : He.DefD := ⟨("View", some "path"), "path", "View.path", defArgs s_View_path, defBody s_View_path, defScope s_View_path, [], []⟩
def d_View_start_of : He.DefD := ⟨("View", some "start_of"), "start_of", "View.start_of", defArgs s_View_start_of, defBody s_View_start_of, defScope s_View_start_of, [], []⟩
def d_ShortPaper_init : He.DefD := ⟨("ShortPaper", some "__init__"), "__init__", "ShortPaper.__init__", defArgs s_ShortPaper_init, defBody s_ShortPaper_init, defScope s_ShortPaper_init, [], []⟩
def d_ShortFault_init : He.DefD := ⟨("ShortFault", some "__init__"), "__init__", "ShortFault.__init__", defArgs s_ShortFault_init, defBody s_ShortFault_init, defScope s_ShortFault_init, [], []⟩
def d_ShortFault_eq : He.DefD := ⟨("ShortFault", some "__eq__"), "__eq__", "ShortFault.__eq__", defArgs s_ShortFault_eq, defBody s_ShortFault_eq, defScope s_ShortFault_eq, [], []⟩
def d_level_fault : He.DefD := ⟨("level_fault", none), "level_fault", "level_fault", defArgs s_level_fault, defBody s_level_fault, defScope s_level_fault, [], []⟩
def d_levels_are_right : He.DefD := ⟨("levels_are_right", none), "levels_are_right", "levels_are_right", defArgs s_levels_are_right, defBody s_levels_are_right, defScope s_levels_are_right, [], []⟩
def d_short_fault : He.DefD := ⟨("short_fault", none), "short_fault", "short_fault", defArgs s_short_fault, defBody s_short_fault, defScope s_short_fault, [], []⟩
def d_law_open : He.DefD := ⟨("_law_open", none), "_law_open", "_law_open", defArgs s_law_open, defBody s_law_open, defScope s_law_open, [], []⟩
def d_law_draw : He.DefD := ⟨("_law_draw", none), "_law_draw", "_law_draw", defArgs s_law_draw, defBody s_law_draw, defScope s_law_draw, [], []⟩
def d_law_order : He.DefD := ⟨("_law_order", none), "_law_order", "_law_order", defArgs s_law_order, defBody s_law_order, defScope s_law_order, [], []⟩
def d_law_strength : He.DefD := ⟨("_law_strength", none), "_law_strength", "_law_strength", defArgs s_law_strength, defBody s_law_strength, defScope s_law_strength, [], []⟩
def d_law_links : He.DefD := ⟨("_law_links", none), "_law_links", "_law_links", defArgs s_law_links, defBody s_law_links, defScope s_law_links, [], []⟩
def d_law_shape : He.DefD := ⟨("_law_shape", none), "_law_shape", "_law_shape", defArgs s_law_shape, defBody s_law_shape, defScope s_law_shape, [], []⟩
def d_law_course : He.DefD := ⟨("_law_course", none), "_law_course", "_law_course", defArgs s_law_course, defBody s_law_course, defScope s_law_course, [], []⟩
def d_law_starts : He.DefD := ⟨("_law_starts", none), "_law_starts", "_law_starts", defArgs s_law_starts, defBody s_law_starts, defScope s_law_starts, [], []⟩
def d_law_low : He.DefD := ⟨("_law_low", none), "_law_low", "_law_low", defArgs s_law_low, defBody s_law_low, defScope s_law_low, [], []⟩
def d_law_plus : He.DefD := ⟨("_law_plus", none), "_law_plus", "_law_plus", defArgs s_law_plus, defBody s_law_plus, defScope s_law_plus, [], []⟩
def d_law_heard : He.DefD := ⟨("_law_heard", none), "_law_heard", "_law_heard", defArgs s_law_heard, defBody s_law_heard, defScope s_law_heard, [], []⟩
def d_law_levels : He.DefD := ⟨("_law_levels", none), "_law_levels", "_law_levels", defArgs s_law_levels, defBody s_law_levels, defScope s_law_levels, [], []⟩
def d_law_standing : He.DefD := ⟨("_law_standing", none), "_law_standing", "_law_standing", defArgs s_law_standing, defBody s_law_standing, defScope s_law_standing, [], []⟩
def d_law_seen : He.DefD := ⟨("_law_seen", none), "_law_seen", "_law_seen", defArgs s_law_seen, defBody s_law_seen, defScope s_law_seen, [], []⟩
def d_law_view : He.DefD := ⟨("_law_view", none), "_law_view", "_law_view", defArgs s_law_view, defBody s_law_view, defScope s_law_view, [], []⟩
def d_law_node : He.DefD := ⟨("_law_node", none), "_law_node", "_law_node", defArgs s_law_node, defBody s_law_node, defScope s_law_node, [], []⟩
def d_law_kids : He.DefD := ⟨("_law_kids", none), "_law_kids", "_law_kids", defArgs s_law_kids, defBody s_law_kids, defScope s_law_kids, [], []⟩
def d_law_amount : He.DefD := ⟨("_law_amount", none), "_law_amount", "_law_amount", defArgs s_law_amount, defBody s_law_amount, defScope s_law_amount, [], []⟩
def d_law_table : He.DefD := ⟨("_law_table", none), "_law_table", "_law_table", defArgs s_law_table, defBody s_law_table, defScope s_law_table, [], []⟩
def d_law_hangs : He.DefD := ⟨("_law_hangs", none), "_law_hangs", "_law_hangs", defArgs s_law_hangs, defBody s_law_hangs, defScope s_law_hangs, [], []⟩
def d_law_balanced : He.DefD := ⟨("_law_balanced", none), "_law_balanced", "_law_balanced", defArgs s_law_balanced, defBody s_law_balanced, defScope s_law_balanced, [], []⟩
def d_law_divisor : He.DefD := ⟨("_law_divisor", none), "_law_divisor", "_law_divisor", defArgs s_law_divisor, defBody s_law_divisor, defScope s_law_divisor, [], []⟩
def d_law_ratio : He.DefD := ⟨("_law_ratio", none), "_law_ratio", "_law_ratio", defArgs s_law_ratio, defBody s_law_ratio, defScope s_law_ratio, [], []⟩
def d_law_still : He.DefD := ⟨("_law_still", none), "_law_still", "_law_still", defArgs s_law_still, defBody s_law_still, defScope s_law_still, [], []⟩
def d_law_root : He.DefD := ⟨("_law_root", none), "_law_root", "_law_root", defArgs s_law_root, defBody s_law_root, defScope s_law_root, [], []⟩
def d_law_start : He.DefD := ⟨("_law_start", none), "_law_start", "_law_start", defArgs s_law_start, defBody s_law_start, defScope s_law_start, [], []⟩
def d_law_lit_sum : He.DefD := ⟨("_law_lit_sum", none), "_law_lit_sum", "_law_lit_sum", defArgs s_law_lit_sum, defBody s_law_lit_sum, defScope s_law_lit_sum, [], []⟩
def d_law_scaled : He.DefD := ⟨("_law_scaled", none), "_law_scaled", "_law_scaled", defArgs s_law_scaled, defBody s_law_scaled, defScope s_law_scaled, [], []⟩
def d_law_counts_at : He.DefD := ⟨("_law_counts_at", none), "_law_counts_at", "_law_counts_at", defArgs s_law_counts_at, defBody s_law_counts_at, defScope s_law_counts_at, [], []⟩
def d_law_sums : He.DefD := ⟨("_law_sums", none), "_law_sums", "_law_sums", defArgs s_law_sums, defBody s_law_sums, defScope s_law_sums, [], []⟩
def d_law_agree : He.DefD := ⟨("_law_agree", none), "_law_agree", "_law_agree", defArgs s_law_agree, defBody s_law_agree, defScope s_law_agree, [], []⟩
def d_law_chain : He.DefD := ⟨("_law_chain", none), "_law_chain", "_law_chain", defArgs s_law_chain, defBody s_law_chain, defScope s_law_chain, [], []⟩
def d_law_judge : He.DefD := ⟨("_law_judge", none), "_law_judge", "_law_judge", defArgs s_law_judge, defBody s_law_judge, defScope s_law_judge, [], []⟩
def d_law_level_fault : He.DefD := ⟨("_law_level_fault", none), "_law_level_fault", "_law_level_fault", defArgs s_law_level_fault, defBody s_law_level_fault, defScope s_law_level_fault, [], []⟩
def d_law_cut : He.DefD := ⟨("_law_cut", none), "_law_cut", "_law_cut", defArgs s_law_cut, defBody s_law_cut, defScope s_law_cut, [], []⟩
def d_law_free : He.DefD := ⟨("_law_free", none), "_law_free", "_law_free", defArgs s_law_free, defBody s_law_free, defScope s_law_free, [], []⟩
def d_law_any_nodes : He.DefD := ⟨("_law_any_nodes", none), "_law_any_nodes", "_law_any_nodes", defArgs s_law_any_nodes, defBody s_law_any_nodes, defScope s_law_any_nodes, [], []⟩
def d_law_straight : He.DefD := ⟨("_law_straight", none), "_law_straight", "_law_straight", defArgs s_law_straight, defBody s_law_straight, defScope s_law_straight, [], []⟩
def d_law_real : He.DefD := ⟨("_law_real", none), "_law_real", "_law_real", defArgs s_law_real, defBody s_law_real, defScope s_law_real, [], []⟩
def d_law_some : He.DefD := ⟨("_law_some", none), "_law_some", "_law_some", defArgs s_law_some, defBody s_law_some, defScope s_law_some, [], []⟩
def d_law_same : He.DefD := ⟨("_law_same", none), "_law_same", "_law_same", defArgs s_law_same, defBody s_law_same, defScope s_law_same, [], []⟩
def d_law_paper : He.DefD := ⟨("_law_paper", none), "_law_paper", "_law_paper", defArgs s_law_paper, defBody s_law_paper, defScope s_law_paper, [], []⟩
def d_law_due : He.DefD := ⟨("_law_due", none), "_law_due", "_law_due", defArgs s_law_due, defBody s_law_due, defScope s_law_due, [], []⟩
def d_law_spoil : He.DefD := ⟨("_law_spoil", none), "_law_spoil", "_law_spoil", defArgs s_law_spoil, defBody s_law_spoil, defScope s_law_spoil, [], []⟩
def d_law_bend : He.DefD := ⟨("_law_bend", none), "_law_bend", "_law_bend", defArgs s_law_bend, defBody s_law_bend, defScope s_law_bend, [], []⟩
def d_law : He.DefD := ⟨("law", none), "law", "law", defArgs s_law, defBody s_law, defScope s_law, [], []⟩
def fn : List He.DefD := [d_is_whole, d_is_start, d_is_number, d_check_strength, d_lowest, d_times, d_check_level_stilllevels, d_only_children, d_heard_amount, d_heard_table, d_hangs_together, d_is_balanced, d_counts_at, d_numbers_agree, d_is_couple, d_check_heard, d_check_node, d_check_level_views, d_reached_below, d_check_levels, d_cut_levels, d_earlier_view, d_View_init, d_View_check_place, d_View_check_node, d_View_path, d_View_start_of, d_ShortPaper_init, d_ShortFault_init, d_ShortFault_eq, d_level_fault, d_levels_are_right, d_short_fault, d_law_open, d_law_draw, d_law_order, d_law_strength, d_law_links, d_law_shape, d_law_course, d_law_starts, d_law_low, d_law_plus, d_law_heard, d_law_levels, d_law_standing, d_law_seen, d_law_view, d_law_node, d_law_kids, d_law_amount, d_law_table, d_law_hangs, d_law_balanced, d_law_divisor, d_law_ratio, d_law_still, d_law_root, d_law_start, d_law_lit_sum, d_law_scaled, d_law_counts_at, d_law_sums, d_law_agree, d_law_chain, d_law_judge, d_law_level_fault, d_law_cut, d_law_free, d_law_any_nodes, d_law_straight, d_law_real, d_law_some, d_law_same, d_law_paper, d_law_due, d_law_spoil, d_law_bend, d_law]
def fa0 : List He.Fa := [.glo "is_whole", .glo "is_start", .glo "is_number", .glo "check_strength", .glo "lowest", .glo "times", .glo "only_children", .glo "heard_amount", .glo "heard_table", .glo "hangs_together", .glo "is_balanced", .glo "counts_at", .glo "numbers_agree", .glo "is_couple", .glo "check_heard", .glo "check_node", .glo "reached_below", .glo "check_levels", .glo "cut_levels", .glo "earlier_view", .glo "level_fault", .glo "levels_are_right", .glo "short_fault", .glo "_law_open", .glo "_law_draw", .glo "_law_order", .glo "_law_strength", .glo "_law_links", .glo "_law_shape", .glo "_law_course"]
def fa1 : List He.Fa := [.glo "_law_starts", .glo "_law_low", .glo "_law_plus", .glo "_law_heard", .glo "_law_levels", .glo "_law_standing", .glo "_law_seen", .glo "_law_view", .glo "_law_node", .glo "_law_kids", .glo "_law_amount", .glo "_law_table", .glo "_law_hangs", .glo "_law_balanced", .glo "_law_divisor", .glo "_law_ratio", .glo "_law_still", .glo "_law_root", .glo "_law_start", .glo "_law_lit_sum", .glo "_law_scaled", .glo "_law_counts_at", .glo "_law_sums", .glo "_law_agree", .glo "_law_chain", .glo "_law_judge", .glo "_law_level_fault", .glo "_law_cut", .glo "_law_free", .glo "_law_any_nodes"]
def fa2 : List He.Fa := [.glo "_law_straight", .glo "_law_real", .glo "_law_some", .glo "_law_same", .glo "_law_paper", .glo "_law_due", .glo "_law_spoil", .glo "_law_bend", .glo "law", .glo "check_level_stilllevels", .glo "check_level_views", .free "len", .free "isinstance", .free "int", .free "bool", .free "list", .free "tuple", .free "enumerate", .free "range", .free "sorted", .free "sum", .free "any", .free "all", .free "set", .free "min", .int "MOST_WORDS" 4, .int "MOST_LEVELS" 37, .int "MOST_NODES" 12, .glo "View", .cls "View"]
def fa3 : List He.Fa := [.mkr "View", .noat "View" "levels", .noat "View" "round", .glo "ShortPaper", .cls "ShortPaper", .mkr "ShortPaper", .noat "ShortPaper" "found", .noat "ShortPaper" "levels", .noat "ShortPaper" "numbers", .noat "ShortPaper" "houses", .noat "ShortPaper" "counts", .noat "ShortPaper" "told", .glo "ShortFault", .cls "ShortFault", .mkr "ShortFault", .noat "ShortFault" "what", .noat "ShortFault" "level", .meth "View" "check_place", .meth "View" "check_node", .meth "View" "path", .meth "View" "start_of", .meth "ShortFault" "__eq__"]
def fa : List He.Fa := fa0 ++ fa1 ++ fa2 ++ fa3
def loose0 : List PySem.Str := ["HeadError", "BadStrength", "NoLevel", "BadView", "NoNode", "MOST_WORDS", "is_whole", "is_start", "NONE", "is_number", "check_strength", "lowest", "times", "check_level", "check_level_stilllevels", "only_children", "heard_amount", "heard_table", "hangs_together", "is_balanced", "counts_at", "numbers_agree", "MOST_LEVELS", "MOST_NODES", "is_couple", "check_heard", "check_node", "check_level_views", "reached_below"]
def loose1 : List PySem.Str := ["check_levels", "cut_levels", "earlier_view", "View", "ShortPaper", "ShortFault", "level_fault", "levels_are_right", "short_fault", "_law_open", "_law_draw", "_law_order", "_law_strength", "_law_links", "_law_shape", "_law_course", "_law_starts", "_law_low", "_law_plus", "_law_heard", "_law_levels", "_law_standing", "_law_seen", "_law_view", "_law_node", "_law_kids", "_law_amount", "_law_table", "_law_hangs", "_law_balanced"]
def loose2 : List PySem.Str := ["_law_divisor", "_law_ratio", "_law_still", "_law_root", "_law_start", "_law_lit_sum", "_law_scaled", "_law_counts_at", "_law_sums", "_law_agree", "_law_chain", "_law_judge", "_law_level_fault", "_law_cut", "_law_free", "_law_any_nodes", "_law_straight", "_law_real", "_law_some", "_law_same", "_law_paper", "_law_due", "_law_spoil", "_law_bend"]
def loose : List PySem.Str := loose0 ++ loose1 ++ loose2
abbrev R : PySem.W.OpenRow := PySem.W.OpenLaw.row PySem.Challenge.rw_headsheard_k32_whole_each_spoiled_paper
/-- the module's names for what is no def: gcd, NONE -/
def xtra (K : PySem.W.Frag) : Bool := He.eqO (PySem.W.nsIn K mainGlobals "gcd") (some (some (.builtin "math.gcd"))) && (He.eqO (PySem.W.nsIn K mainGlobals "NONE") (some (some (.ref (He.ga K "NONE")))) && He.tupB K "NONE" [.int 0, .int 1])
def obsM (K : PySem.W.Frag) : He.AlD := ((He.obsD fa fn K).1 && xtra K, (He.obsD fa fn K).2)
/-- the objects that the module's names reach: themselves, what they name, the methods of the classes and what these name -/
def refsA (g : Addr → Option Obj) (a : Addr) : List Addr := match g a with
  | some o => He.refsD o
  | none => []
def nsA (g : Addr → Option Obj) (a : Addr) : List Addr := match g a with
  | some ⟨_, _, .cls cd, _⟩ => refsA g cd.ns
  | _ => []
def fromL1 (g : Addr → Option Obj) (l : List Addr) : List Addr := mainGlobals :: (l ++ (l.flatMap (refsA g) ++ (l.flatMap (nsA g) ++ (l.flatMap (nsA g)).flatMap (refsA g))))
def asM (g : Addr → Option Obj) : List Addr := fromL1 g (refsA g mainGlobals)
def obsMG (g : Addr → Option Obj) : He.AlD := obsM (He.frG g (asM g))
def hk : PySem.W.Hook where
  α := He.AlD
  obs := fun s => obsMG s.heap.get?
  val := fun _ => He.valD fn
  says := fun _ h => ∃ K : PySem.W.Frag, K.In h ∧ obsM K = He.valD fn
  of := fun _ _ e => ⟨_, He.frG_in, e⟩
  keeps := fun _ _ _ ⟨K, hK, c⟩ k => ⟨K, PySem.W.Frag.In.keeps hK k, c⟩
def ob (s : PySem.W.SharedT) : He.AlD := obsMG (HeadRun.getT s)
theorem ob_eq (s : PySem.W.SharedT) : ob s = hk.obs s.abs := by
  have e : HeadRun.getT s = s.abs.heap.get? := funext fun a => HeadRun.getT_eq s a
  show obsMG (HeadRun.getT s) = obsMG s.abs.heap.get?
  rw [e]
abbrev qv : PySem.Program := PySem.W.view R.prog [0, 92]
end HH
set_option Elab.async false
set_option linter.all false
set_option maxRecDepth 100000
set_option maxHeartbeats 4000000
/-! LV1: plain data over the heap. What a value stands for (Rep), how the heap grows (Ext), what a frame holds (Rel). -/
namespace LV
open PySem PySem.Spec PyProof.Rows L2

/-- plain data -/
inductive D where
  | non | bl (b : Bool) | int (i : Int) | str (x : Str) | lst (xs : List D) | tup (xs : List D)
  /-- an instance of the module's class c, its attributes by name -/
  | obj (c : Str) (ns : List Str) (ds : List D)
  /-- the one object that draws change -/
  | tok
  /-- the module's tuple (0, 1) -/
  | cst

section
variable (K : PySem.W.Frag) (dA : Option Addr) (F : Hp)
mutual
/-- the value v stands for the data, by what F holds for ever -/
def Rep : D → V → Prop
  | .non, v => v = .non
  | .bl b, v => v = .bl b
  | .int i, v => v = .int i
  | .str x, v => v = .str x
  | .lst xs, v => ∃ a vs, v = .ref a ∧ SqL K F a vs ∧ RepL xs vs
  | .tup xs, v => ∃ a vs, v = .ref a ∧ F a = some (.tup vs) ∧ RepL xs vs
  | .obj c ns ds, v => ∃ a dx fs, v = .ref a ∧ F a = some (.ins (He.ga K c) dx fs) ∧ fs.map (·.1) = ns ∧ RepL ds (fs.map (·.2))
  | .tok, v => ∃ a, v = .ref a ∧ dA = some a
  | .cst, v => ∃ a, v = .ref a ∧ ∀ H, SqT K H a [.int 0, .int 1]
def RepL : List D → List V → Prop
  | [], vs => vs = []
  | x :: xs, vs => ∃ v r, vs = v :: r ∧ Rep x v ∧ RepL xs r
end
/-- the token's object: cells, place, great cell, mixed number, draws -/
def Draw (H : Hp) (a : Addr) : Prop := ∃ (l : Addr) (ns : List Int) (p g m c : Int), H a = some (.lst [.ref l, .int p, .int g, .int m, .int c]) ∧ SqL K F l (ns.map V.int) ∧ 0 ≤ p
structure Ok (H : Hp) : Prop where
  sub : Same F H
  tok : ∀ a, dA = some a → F a = none ∧ Draw K F H a
end

/-- no tuple -/
def nt (o : HO) : Prop := ∀ xs, o ≠ .tup xs
/-- F, H became F', H': nothing old changed but the token; what is new in F' is new, or a tuple -/
structure Ext (dA : Option Addr) (F H F' H' : Hp) : Prop where
  ff : Same F F'
  keep : ∀ c o, H c = some o → dA ≠ some c → H' c = some o
  new : ∀ c o, F' c = some o → F c = some o ∨ H c = none ∨ (dA ≠ some c ∧ ∃ xs, H c = some (.tup xs))
  dom : ∀ c o, H c = some o → ∃ o', H' c = some o'

section
variable {K : PySem.W.Frag} {dA : Option Addr} {F F' F2 H H' H2 : Hp}
theorem Ext.refl : Ext dA F H F H := ⟨Same.refl F, fun _ _ h _ => h, fun _ _ h => .inl h, fun _ o h => ⟨o, h⟩⟩
theorem Ext.trans (a : Ext dA F H F' H') (b : Ext dA F' H' F2 H2) : Ext dA F H F2 H2 where
  ff := a.ff.trans b.ff
  keep := fun c o h n => b.keep c o (a.keep c o h n) n
  new := fun c o h => by
    rcases b.new c o h with h1 | h1 | ⟨n, xs, h1⟩
    · exact a.new c o h1
    · cases q : H c with
      | none => exact .inr (.inl rfl)
      | some u =>
        obtain ⟨u', e⟩ := a.dom c u q
        rw [h1] at e
        cases e
    · cases q : H c with
      | none => exact .inr (.inl rfl)
      | some u =>
        have e := a.keep c u q n
        rw [h1] at e
        cases e
        exact .inr (.inr ⟨n, xs, rfl⟩)
  dom := fun c o h => by
    obtain ⟨o', h1⟩ := a.dom c o h
    exact b.dom c o' h1
theorem Ext.fkeep (e : Ext dA F H F' H') {c : Addr} {o : HO} (h : H c = some o) (hf : F c = none) (hn : nt o := by exact fun _ z => nomatch z) : F' c = none := by
  cases q : F' c with
  | none => rfl
  | some u =>
    rcases e.new c u q with h1 | h1 | ⟨_, xs, h1⟩
    · rw [hf] at h1; cases h1
    · rw [h] at h1; cases h1
    · rw [h] at h1; exact absurd (Option.some.inj h1) (hn xs)

theorem sqL_mono {a : Addr} {vs : List V} (s : Same F F') (h : SqL K F a vs) : SqL K F' a vs := s.seq h
theorem sqT_of {a : Addr} {vs : List V} (s : Same F F') (h : F a = some (.tup vs)) : SqT K F' a vs := SqT.of (s _ _ h)
theorem sqT_mono {a : Addr} {vs : List V} (e : Same F F') (h : SqT K F a vs) : SqT K F' a vs := by
  rcases h with (h | ⟨o, h⟩) | h
  · exact .inl (.inl (e _ _ h))
  · exact .inl (.inr ⟨o, e _ _ h⟩)
  · exact .inr h
mutual
theorem Rep.mono (s : Same F F') : ∀ (d : D) (v : V), Rep K dA F d v → Rep K dA F' d v
  | .non, _, h => h
  | .bl _, _, h => h
  | .int _, _, h => h
  | .str _, _, h => h
  | .lst xs, v, h => by
    obtain ⟨a, vs, e, hs, hr⟩ := h
    exact ⟨a, vs, e, sqL_mono s hs, RepL.mono s xs vs hr⟩
  | .tup xs, v, h => by
    obtain ⟨a, vs, e, hs, hr⟩ := h
    exact ⟨a, vs, e, s _ _ hs, RepL.mono s xs vs hr⟩
  | .obj c ns ds, v, h => by
    obtain ⟨a, dx, fs, e, hs, hn, hr⟩ := h
    exact ⟨a, dx, fs, e, s _ _ hs, hn, RepL.mono s ds _ hr⟩
  | .tok, _, h => h
  | .cst, _, h => h
theorem RepL.mono (s : Same F F') : ∀ (xs : List D) (vs : List V), RepL K dA F xs vs → RepL K dA F' xs vs
  | [], _, h => h
  | x :: xs, vs, h => by
    obtain ⟨v, r, e, h1, h2⟩ := h
    exact ⟨v, r, e, Rep.mono s x v h1, RepL.mono s xs r h2⟩
end
theorem RepL.length : ∀ {xs : List D} {vs : List V}, RepL K dA F xs vs → vs.length = xs.length
  | [], _, h => by cases h; rfl
  | x :: xs, _, h => by
    obtain ⟨v, r, rfl, _, h2⟩ := h
    simp [RepL.length h2]
theorem RepL.get : ∀ {xs : List D} {vs : List V} {i : Nat} {x : D}, RepL K dA F xs vs → xs[i]? = some x → ∃ v, vs[i]? = some v ∧ Rep K dA F x v
  | [], _, _, _, _, e => by simp at e
  | y :: ys, _, 0, x, h, e => by
    obtain ⟨v, r, rfl, h1, _⟩ := h
    simp at e
    subst e
    exact ⟨v, rfl, h1⟩
  | y :: ys, _, i + 1, x, h, e => by
    obtain ⟨v, r, rfl, _, h2⟩ := h
    obtain ⟨u, e1, h3⟩ := RepL.get (i := i) (x := x) h2 (by simpa using e)
    exact ⟨u, by simpa using e1, h3⟩
theorem RepL.getV : ∀ {xs : List D} {vs : List V} {i : Nat} {v : V}, RepL K dA F xs vs → vs[i]? = some v → ∃ x, xs[i]? = some x ∧ Rep K dA F x v
  | [], _, _, _, h, e => by cases h; simp at e
  | y :: ys, _, 0, v, h, e => by
    obtain ⟨u, r, rfl, h1, _⟩ := h
    simp at e
    subst e
    exact ⟨y, rfl, h1⟩
  | y :: ys, _, i + 1, v, h, e => by
    obtain ⟨u, r, rfl, _, h2⟩ := h
    obtain ⟨x, e1, h3⟩ := RepL.getV (i := i) (v := v) h2 (by simpa using e)
    exact ⟨x, by simpa using e1, h3⟩
theorem RepL.append : ∀ {xs ys : List D} {vs ws : List V}, RepL K dA F xs vs → RepL K dA F ys ws → RepL K dA F (xs ++ ys) (vs ++ ws)
  | [], _, _, _, h, h' => by cases h; exact h'
  | x :: xs, _, _, _, h, h' => by
    obtain ⟨v, r, rfl, h1, h2⟩ := h
    exact ⟨v, _, rfl, h1, RepL.append h2 h'⟩
theorem RepL.one {x : D} {v : V} (h : Rep K dA F x v) : RepL K dA F [x] [v] := ⟨v, [], rfl, h, rfl⟩
theorem RepL.nil : RepL K dA F [] [] := rfl
theorem RepL.cons {x : D} {v : V} {xs : List D} {vs : List V} (h : Rep K dA F x v) (t : RepL K dA F xs vs) : RepL K dA F (x :: xs) (v :: vs) := ⟨v, vs, rfl, h, t⟩
theorem RepL.set : ∀ {xs : List D} {vs : List V} {x : D} {v : V} (i : Nat), RepL K dA F xs vs → Rep K dA F x v → RepL K dA F (xs.set i x) (vs.set i v)
  | [], _, _, _, _, h, _ => by cases h; rfl
  | y :: ys, _, x, v, 0, h, hx => by
    obtain ⟨u, r, rfl, _, h2⟩ := h
    exact ⟨v, r, rfl, hx, h2⟩
  | y :: ys, _, x, v, i + 1, h, hx => by
    obtain ⟨u, r, rfl, h1, h2⟩ := h
    exact ⟨u, _, rfl, h1, RepL.set i h2 hx⟩
theorem RepL.ints : ∀ {ns : List Int} {vs : List V}, RepL K dA F (ns.map D.int) vs → vs = ns.map V.int
  | [], _, h => h
  | n :: ns, _, h => by
    obtain ⟨v, r, rfl, h1, h2⟩ := h
    rw [RepL.ints h2]
    show v :: _ = _
    rw [show v = .int n from h1]
    rfl
theorem RepL.of_ints : ∀ (ns : List Int), RepL K dA F (ns.map D.int) (ns.map V.int)
  | [] => rfl
  | n :: ns => ⟨.int n, _, rfl, rfl, RepL.of_ints ns⟩

/-! ### a frame's slots -/
/-- what a slot holds: nothing that is known; data that stands for ever; a list of one's own; a list of lists of one's own; a dict of one's own (by ints, by couples of ints), the same while it is walked -/
inductive Sl where
  | no
  | im (d : D)
  | ow (xs : List D)
  | on (xss : List (List D))
  | od (kvs : List (Key × D))
  | ot (kvs : List (List Key × D))
  | fd (kvs : List (Key × D))
  | ft (kvs : List (List Key × D))
  /-- an instance that is being made -/
  | ob (a : Addr) (c : Str) (ns : List Str) (ds : List D)

def RepK {κ : Type} (K : PySem.W.Frag) (dA : Option Addr) (F : Hp) : List (κ × D) → List (κ × V) → Prop
  | [], vs => vs = []
  | p :: ps, vs => ∃ v r, vs = (p.1, v) :: r ∧ Rep K dA F p.2 v ∧ RepK K dA F ps r
theorem RepK.mono {κ : Type} (s : Same F F') : ∀ {xs : List (κ × D)} {vs : List (κ × V)}, RepK K dA F xs vs → RepK K dA F' xs vs
  | [], _, h => h
  | x :: xs, vs, h => by
    obtain ⟨v, r, e, h1, h2⟩ := h
    exact ⟨v, r, e, Rep.mono s x.2 v h1, RepK.mono s h2⟩

/-- the inner lists of an own list of lists -/
def OwnL (K : PySem.W.Frag) (dA : Option Addr) (F H : Hp) (ok : Addr → Prop) : List (List D) → List Addr → Prop
  | [], as => as = []
  | xs :: xss, as => ∃ a r vs, as = a :: r ∧ ok a ∧ H a = some (.lst vs) ∧ RepL K dA F xs vs ∧ OwnL K dA F H ok xss r

/-- slot i's value v is what s says; own tells whose the mutable objects are -/
def SlOk (K : PySem.W.Frag) (dA : Option Addr) (F H : Hp) (own : Addr → Option Nat) (i : Nat) (o : Option V) : Sl → Prop
  | .no => True
  | .im d => ∃ v, o = some v ∧ Rep K dA F d v
  | .ow xs => ∃ a vs, o = some (.ref a) ∧ own a = some i ∧ H a = some (.lst vs) ∧ RepL K dA F xs vs
  | .on xss => ∃ a as, o = some (.ref a) ∧ own a = some i ∧ H a = some (.lst (as.map V.ref)) ∧ (a :: as).Nodup ∧ OwnL K dA F H (fun b => own b = some i) xss as
  | .od kvs => ∃ a vs, o = some (.ref a) ∧ own a = some i ∧ H a = some (.dK vs) ∧ RepK K dA F kvs vs
  | .ot kvs => ∃ a vs, o = some (.ref a) ∧ own a = some i ∧ H a = some (.dT vs) ∧ RepK K dA F kvs vs
  | .fd kvs => ∃ a ob vs, o = some (.ref a) ∧ own a = some i ∧ H a = some (.frz ob (.dK vs)) ∧ RepK K dA F kvs vs
  | .ft kvs => ∃ a ob vs, o = some (.ref a) ∧ own a = some i ∧ H a = some (.frz ob (.dT vs)) ∧ RepK K dA F kvs vs
  | .ob a c ns ds => ∃ dx fs, o = some (.ref a) ∧ own a = some i ∧ H a = some (.ins (He.ga K c) dx fs) ∧ fs.map (·.1) = ns ∧ RepL K dA F ds (fs.map (·.2))

abbrev Ev := List Sl
/-- the frame: F0, H0 at its entry, F, H now -/
structure Rel (K : PySem.W.Frag) (dA : Option Addr) (F0 H0 F H : Hp) (σ : L2.St) (Γ : Ev) : Prop where
  ok : Ok K dA F H
  ext : Ext dA F0 H0 F H
  len : σ.length = Γ.length
  sl : ∃ own : Addr → Option Nat, (∀ a i, own a = some i → (∃ o, H a = some o ∧ nt o) ∧ F a = none ∧ H0 a = none ∧ dA ≠ some a) ∧
    ∀ (i : Nat) (s : Sl), Γ[i]? = some s → ∃ o, σ[i]? = some o ∧ SlOk K dA F H own i o s

theorem OwnL.mono {ok ok' : Addr → Prop} (s : Same F F') (hk : ∀ a, ok a → ok' a) (hh : ∀ a o, ok a → H a = some o → H' a = some o) : ∀ {xss : List (List D)} {as : List Addr}, OwnL K dA F H ok xss as → OwnL K dA F' H' ok' xss as
  | [], _, h => h
  | xs :: xss, as, h => by
    obtain ⟨a, r, vs, e, h1, h2, h3, h4⟩ := h
    exact ⟨a, r, vs, e, hk a h1, hh a _ h1 h2, RepL.mono s _ _ h3, OwnL.mono s hk hh h4⟩
theorem SlOk.mono {own own' : Addr → Option Nat} {i : Nat} {o : Option V} (s : Same F F') (hk : ∀ a, own a = some i → own' a = some i) (hh : ∀ a u, own a = some i → H a = some u → H' a = some u) :
    ∀ {t : Sl}, SlOk K dA F H own i o t → SlOk K dA F' H' own' i o t
  | .no, _ => trivial
  | .im d, h => by
    obtain ⟨v, e, h⟩ := h
    exact ⟨v, e, Rep.mono s d v h⟩
  | .ow xs, h => by
    obtain ⟨a, vs, e, h1, h2, h3⟩ := h
    exact ⟨a, vs, e, hk a h1, hh a _ h1 h2, RepL.mono s _ _ h3⟩
  | .on xss, h => by
    obtain ⟨a, as, e, h1, h2, h3, h4⟩ := h
    exact ⟨a, as, e, hk a h1, hh a _ h1 h2, h3, OwnL.mono s hk hh h4⟩
  | .od kvs, h => by
    obtain ⟨a, vs, e, h1, h2, h3⟩ := h
    exact ⟨a, vs, e, hk a h1, hh a _ h1 h2, h3.mono s⟩
  | .ot kvs, h => by
    obtain ⟨a, vs, e, h1, h2, h3⟩ := h
    exact ⟨a, vs, e, hk a h1, hh a _ h1 h2, h3.mono s⟩
  | .fd kvs, h => by
    obtain ⟨a, ob, vs, e, h1, h2, h3⟩ := h
    exact ⟨a, ob, vs, e, hk a h1, hh a _ h1 h2, h3.mono s⟩
  | .ft kvs, h => by
    obtain ⟨a, ob, vs, e, h1, h2, h3⟩ := h
    exact ⟨a, ob, vs, e, hk a h1, hh a _ h1 h2, h3.mono s⟩
  | .ob a c ns ds, h => by
    obtain ⟨dx, fs, e, h1, h2, h3, h4⟩ := h
    exact ⟨dx, fs, e, hk a h1, hh a _ h1 h2, h3, RepL.mono s _ _ h4⟩
/-- the frame behind an expression -/
theorem Rel.step {F0 H0 : Hp} {σ : L2.St} {Γ : Ev} (R : Rel K dA F0 H0 F H σ Γ) (e : Ext dA F H F' H') (ok : Ok K dA F' H') : Rel K dA F0 H0 F' H' σ Γ := by
  obtain ⟨own, ho, hs⟩ := R.sl
  refine ⟨ok, R.ext.trans e, R.len, own, fun a i h => ?_, fun i s h => ?_⟩
  · obtain ⟨⟨o, h1, hn⟩, h2, h3, h4⟩ := ho a i h
    exact ⟨⟨o, e.keep a o h1 h4, hn⟩, e.fkeep h1 h2 hn, h3, h4⟩
  · obtain ⟨o, h1, h2⟩ := hs i s h
    exact ⟨o, h1, h2.mono e.ff (fun _ q => q) fun a u q q2 => e.keep a u q2 (ho a i q).2.2.2⟩
theorem Rel.get {F0 H0 : Hp} {σ : L2.St} {Γ : Ev} (R : Rel K dA F0 H0 F H σ Γ) {i : Nat} {d : D} (h : Γ[i]? = some (.im d)) : ∃ v, σ[i]? = some (some v) ∧ Rep K dA F d v := by
  obtain ⟨own, ho, hs⟩ := R.sl
  obtain ⟨o, h1, v, h2, h3⟩ := hs i _ h
  exact ⟨v, by rw [h1, h2], h3⟩
/-- a slot is set to data -/
theorem Rel.setIm {F0 H0 : Hp} {σ : L2.St} {Γ : Ev} (R : Rel K dA F0 H0 F H σ Γ) (i : Nat) {d : D} {v : V} (h : Rep K dA F d v) : Rel K dA F0 H0 F H (σ.set i (some v)) (Γ.set i (.im d)) := by
  obtain ⟨own, ho, hs⟩ := R.sl
  refine ⟨R.ok, R.ext, by simpa using R.len, own, ho, fun j s e => ?_⟩
  by_cases hj : i = j
  · subst hj
    by_cases hi : i < Γ.length
    · rw [List.getElem?_set_self hi] at e
      cases e
      exact ⟨some v, List.getElem?_set_self (by rw [R.len]; exact hi), v, rfl, h⟩
    · rw [List.getElem?_eq_none (by simpa using hi)] at e
      cases e
  · rw [List.getElem?_set_ne hj] at e
    obtain ⟨o, h1, h2⟩ := hs j s e
    exact ⟨o, by rw [List.getElem?_set_ne hj]; exact h1, h2⟩
/-- forgetting a slot -/
theorem Rel.drop {F0 H0 : Hp} {σ : L2.St} {Γ : Ev} (R : Rel K dA F0 H0 F H σ Γ) (i : Nat) (o : Option V) : Rel K dA F0 H0 F H (σ.set i o) (Γ.set i .no) := by
  obtain ⟨own, ho, hs⟩ := R.sl
  refine ⟨R.ok, R.ext, by simpa using R.len, own, ho, fun j s e => ?_⟩
  by_cases hj : i = j
  · subst hj
    by_cases hi : i < Γ.length
    · rw [List.getElem?_set_self hi] at e
      cases e
      exact ⟨o, List.getElem?_set_self (by rw [R.len]; exact hi), trivial⟩
    · rw [List.getElem?_eq_none (by simpa using hi)] at e
      cases e
  · rw [List.getElem?_set_ne hj] at e
    obtain ⟨o, h1, h2⟩ := hs j s e
    exact ⟨o, by rw [List.getElem?_set_ne hj]; exact h1, h2⟩
end

/-! ### growing -/
section
variable {K : PySem.W.Frag} {dA : Option Addr} {F H : Hp} {p : Addr} {o : HO}
theorem Ok.fnone (k : Ok K dA F H) (h : H p = none) : F p = none := by
  cases q : F p with
  | none => rfl
  | some u =>
    rw [k.sub p u q] at h
    cases h
theorem Ok.tne (k : Ok K dA F H) (h : H p = none) : dA ≠ some p := fun e => by
  obtain ⟨_, l, ns, q, g, m, c, h1, _⟩ := k.tok p e
  rw [h] at h1
  cases h1
theorem same_new (h : H p = none) : Same H (upd H p o) := fun b x e => by
  rw [upd_ne (ne_of_none e h)]
  exact e
theorem Draw.mono {F' H' : Hp} {a : Addr} (s : Same F F') (e : H' a = H a) (d : Draw K F H a) : Draw K F' H' a := by
  obtain ⟨l, ns, q, g, m, c, h1, h2, h3⟩ := d
  exact ⟨l, ns, q, g, m, c, by rw [e]; exact h1, sqL_mono s h2, h3⟩
/-- a new object that stands for ever -/
theorem grow (k : Ok K dA F H) (h : H p = none) : Ext dA F H (upd F p o) (upd H p o) ∧ Ok K dA (upd F p o) (upd H p o) := by
  have hf := k.fnone h
  refine ⟨⟨same_new hf, fun c u e _ => same_new h c u e, fun c u e => ?_, fun c u e => ⟨u, same_new h c u e⟩⟩, fun c u e => ?_, fun a e => ?_⟩
  · by_cases hc : c = p
    · subst hc; exact .inr (.inl h)
    · rw [upd_ne hc] at e; exact .inl e
  · by_cases hc : c = p
    · subst hc
      rw [upd_same] at e ⊢
      exact e
    · rw [upd_ne hc] at e ⊢
      exact k.sub c u e
  · obtain ⟨h1, h2⟩ := k.tok a e
    have ne : a ≠ p := fun z => k.tne h (by rw [← z]; exact e)
    exact ⟨by rw [upd_ne ne]; exact h1, h2.mono (same_new hf) (upd_ne ne)⟩
/-- a new object of one's own -/
theorem growOwn (k : Ok K dA F H) (h : H p = none) : Ext dA F H F (upd H p o) ∧ Ok K dA F (upd H p o) := by
  refine ⟨⟨Same.refl F, fun c u e _ => same_new h c u e, fun c u e => .inl e, fun c u e => ⟨u, same_new h c u e⟩⟩, fun c u e => same_new h c u (k.sub c u e), fun a e => ?_⟩
  obtain ⟨h1, h2⟩ := k.tok a e
  have ne : a ≠ p := fun z => k.tne h (by rw [← z]; exact e)
  exact ⟨h1, h2.mono (Same.refl F) (upd_ne ne)⟩
end
end LV
set_option Elab.async false
set_option linter.all false
set_option maxRecDepth 100000
set_option maxHeartbeats 4000000
/-! LV2: expressions over plain data. -/
namespace LV
open PySem PySem.Spec PyProof.Rows L2

abbrev Vm := Ev → (D → Prop) → Prop
abbrev Vt := Ev → (Bool → Prop) → Prop
abbrev Va := Ev → (List D → Prop) → Prop

def Fin (K : PySem.W.Frag) (dA : Option Addr) (F H : Hp) (Q : D → Prop) (Qk : VK) : Prop := ∀ F' H' d v, Ext dA F H F' H' → Ok K dA F' H' → Rep K dA F' d v → Q d → Qk v H'
def FinT (K : PySem.W.Frag) (dA : Option Addr) (F H : Hp) (Q : Bool → Prop) (Qk : Bool → Hp → Prop) : Prop := ∀ F' H' b, Ext dA F H F' H' → Ok K dA F' H' → Q b → Qk b H'
def FinA (K : PySem.W.Frag) (dA : Option Addr) (F H : Hp) (n : Nat) (Q : List D → Prop) (Qk : List V → Hp → Prop) : Prop := ∀ F' H' ds vs, Ext dA F H F' H' → Ok K dA F' H' → RepL K dA F' ds vs → ds.length = n → Q ds → Qk vs H'
/-- a new list, still one's own -/
def FinL (K : PySem.W.Frag) (dA : Option Addr) (F H : Hp) (Q : List D → Prop) (Qk : VK) : Prop :=
  ∀ F' H' p ds vs, Ext dA F H F' H' → Ok K dA F' H' → H p = none → F' p = none → H' p = some (.lst vs) → RepL K dA F' ds vs → Q ds → Qk (.ref p) H'

structure VE (X : Cx) (e : Expr) (t : TE) (m : Vm) : Prop where
  pe : PE X e t
  sim : ∀ {dA F0 H0 F H σ Γ Q Qk}, Rel X.K dA F0 H0 F H σ Γ → m Γ Q → Fin X.K dA F H Q Qk → t σ H Qk
structure VT (X : Cx) (e : Expr) (t : TT) (m : Vt) : Prop where
  pt : PT X e t
  sim : ∀ {dA F0 H0 F H σ Γ Q Qk}, Rel X.K dA F0 H0 F H σ Γ → m Γ Q → FinT X.K dA F H Q Qk → t σ H Qk
structure VW (X : Cx) (e : Expr) (t : TT) (m : Vt) : Prop where
  pw : PW X e t
  sim : ∀ {dA F0 H0 F H σ Γ Q Qk}, Rel X.K dA F0 H0 F H σ Γ → m Γ Q → FinT X.K dA F H Q Qk → t σ H Qk
structure VA (X : Cx) (es : List Expr) (t : TA) (m : Va) : Prop where
  pa : PA X es t
  sim : ∀ {dA F0 H0 F H σ Γ Q Qk}, Rel X.K dA F0 H0 F H σ Γ → m Γ Q → FinA X.K dA F H es.length Q Qk → t σ H Qk
/-- an expression that gives a new list -/
structure VL (X : Cx) (e : Expr) (t : TE) (m : Va) : Prop where
  pe : PE X e t
  sim : ∀ {dA F0 H0 F H σ Γ Q Qk}, Rel X.K dA F0 H0 F H σ Γ → m Γ Q → FinL X.K dA F H Q Qk → t σ H Qk

section
variable {K : PySem.W.Frag} {dA : Option Addr} {F F' H H' : Hp}
theorem Fin.at {Q : D → Prop} {Qk : VK} (f : Fin K dA F H Q Qk) (e : Ext dA F H F' H') : Fin K dA F' H' Q Qk := fun F2 H2 d v e2 k r q => f F2 H2 d v (e.trans e2) k r q
theorem FinT.at {Q : Bool → Prop} {Qk : Bool → Hp → Prop} (f : FinT K dA F H Q Qk) (e : Ext dA F H F' H') : FinT K dA F' H' Q Qk := fun F2 H2 b e2 k q => f F2 H2 b (e.trans e2) k q
theorem Ext.none {c : Addr} (e : Ext dA F H F' H') (h : H' c = none) : H c = none := by
  cases q : H c with
  | none => rfl
  | some o =>
    obtain ⟨o', e'⟩ := e.dom c o q
    rw [h] at e'
    cases e'
theorem FinL.at {Q : List D → Prop} {Qk : VK} (f : FinL K dA F H Q Qk) (e : Ext dA F H F' H') : FinL K dA F' H' Q Qk := fun F2 H2 p ds vs e2 k n fn hp r q => f F2 H2 p ds vs (e.trans e2) k (e.none n) fn hp r q
/-- a list of one's own stands from now on for ever -/
theorem freeze (k : Ok K dA F H) {a : Addr} {o : HO} (hf : F a = none) (ha : H a = some o) (hd : dA ≠ some a) : Ok K dA (upd F a o) H := by
  have s : Same F (upd F a o) := fun b x e => by
    have ne : b ≠ a := fun z => by
      rw [z, hf] at e
      cases e
    rw [upd_ne ne]
    exact e
  refine ⟨fun c u e => ?_, fun b e => ?_⟩
  · by_cases hc : c = a
    · subst hc
      rw [upd_same] at e
      cases e
      exact ha
    · rw [upd_ne hc] at e
      exact k.sub c u e
  · obtain ⟨h1, h2⟩ := k.tok b e
    have ne : b ≠ a := fun z => hd (by rw [← z]; exact e)
    exact ⟨by rw [upd_ne ne]; exact h1, h2.mono s rfl⟩
theorem freezeExt {F1 H1 : Hp} (e : Ext dA F1 H1 F H) {a : Addr} {o : HO} (hn : H1 a = none) : Ext dA F1 H1 (upd F a o) H ∨ F a ≠ none := by
  by_cases hf : F a = none
  · refine .inl ⟨fun b x q => ?_, e.keep, fun c u q => ?_, e.dom⟩
    · have q2 := e.ff b x q
      have ne : b ≠ a := fun z => by
        rw [z, hf] at q2
        cases q2
      rw [upd_ne ne]
      exact q2
    · by_cases hc : c = a
      · rw [hc]; exact .inr (.inl hn)
      · rw [upd_ne hc] at q
        exact e.new c u q
  · exact .inr hf
/-- a new list, put away -/
theorem FinL.of {Q : List D → Prop} {Qk : VK} (k0 : Ok K dA F H) (f : Fin K dA F H (fun d => ∃ xs, d = .lst xs ∧ Q xs) Qk) : FinL K dA F H Q Qk := fun F2 H2 p ds vs e k n fn hp r q => by
  have hd : dA ≠ some p := k0.tne n
  rcases freezeExt (o := .lst vs) e n with e2 | z
  · refine f _ _ (.lst ds) _ e2 (freeze k fn hp hd) ⟨p, vs, rfl, SqL.of upd_same, RepL.mono (fun b x h => ?_) _ _ r⟩ ⟨ds, rfl, q⟩
    have ne : b ≠ p := fun z => by
      rw [z, fn] at h
      cases h
    rw [upd_ne ne]
    exact h
  · exact absurd fn z
end

section
variable {X : Cx} {e a b c : Expr} {es : List Expr} {t ta tb tc : TE} {m ma mb mc : Vm} {pos : Pos}
/-- a new list as data -/
theorem ve_of {n : Va} (h : VL X e t n) : VE X e t (fun Γ Q => n Γ fun xs => Q (.lst xs)) :=
  ⟨h.pe, fun R q f => h.sim R q (FinL.of R.ok fun F' H' d v e k r ⟨xs, z, q⟩ => f F' H' d v e k r (by rw [z]; exact q))⟩

/-! ### names, constants -/
def vVar (i : Nat) : Vm := fun Γ Q => match Γ[i]? with
  | some (.im d) => Q d
  | _ => False
theorem vv (i : Nat) {x : Str} {pos : Pos} (hN : X.N[i]? = some x := by rfl) (hv : Vis X.env.scope x := by first | exact Or.inl rfl | exact Or.inr (Or.inl rfl) | exact Or.inr (Or.inr rfl)) (hd : (x == ("__debug__" : Str)) = false := by decide)
    (hcd : (x == ("__classdict__" : Str)) = false := by decide) : VE X (.Name x pos) (tVar i) (vVar i) :=
  ⟨pe_var hN hv hd hcd, fun {dA F0 H0 F H σ Γ Q Qk} R q f => by
    unfold vVar at q
    split at q
    · rename_i d h
      obtain ⟨v, h1, h2⟩ := R.get h
      exact ⟨v, h1, f F H d v Ext.refl R.ok h2 q⟩
    · exact q.elim⟩
def vC (d : D) : Vm := fun _ Q => Q d
theorem v_int {i : Int} {j} : VE X (.Constant (.int i) j pos) (tC (.int i)) (vC (.int i)) := ⟨pe_int, fun {dA F0 H0 F H σ Γ Q Qk} R q f => f F H (.int i) _ Ext.refl R.ok rfl q⟩
theorem v_bl {i : Bool} {j} : VE X (.Constant (.bool i) j pos) (tC (.bl i)) (vC (.bl i)) := ⟨pe_bl, fun {dA F0 H0 F H σ Γ Q Qk} R q f => f F H (.bl i) _ Ext.refl R.ok rfl q⟩
theorem v_non {j} : VE X (.Constant .none j pos) (tC .non) (vC .non) := ⟨pe_non, fun {dA F0 H0 F H σ Γ Q Qk} R q f => f F H .non _ Ext.refl R.ok rfl q⟩
theorem v_str {x : Str} {j} : VE X (.Constant (.str x) j pos) (tC (.str x)) (vC (.str x)) := ⟨pe_str, fun {dA F0 H0 F H σ Γ Q Qk} R q f => f F H (.str x) _ Ext.refl R.ok rfl q⟩
/-- a module's whole number -/
theorem v_glob {x : Str} {i : Int} (hm : ∃ t, X.mg x = some (.int i t)) (hg : Gl X x := by rfl) (hd : (x == ("__debug__" : Str)) = false := by decide) : VE X (.Name x pos) (tC (.int i)) (vC (.int i)) :=
  ⟨by obtain ⟨t, h⟩ := hm; exact pe_glob hg h ⟨t, rfl⟩ hd, fun {dA F0 H0 F H σ Γ Q Qk} R q f => f F H (.int i) _ Ext.refl R.ok rfl q⟩
/-- a module's tuple -/
theorem v_globT {x : Str} {g : Addr} (hm : X.mg x = some (.ref g)) (ht : ∀ H, SqT X.K H g [.int 0, .int 1]) (hg : Gl X x := by rfl) (hd : (x == ("__debug__" : Str)) = false := by decide) : VE X (.Name x pos) (tC (.ref g)) (vC .cst) :=
  ⟨pe_glob hg hm rfl hd, fun {dA F0 H0 F H σ Γ Q Qk} R q f => f F H .cst _ Ext.refl R.ok ⟨g, rfl, ht⟩ q⟩

/-- an operation over data that a reading over values follows -/
def OSim (K : PySem.W.Frag) (r : R2) (o : D → D → (D → Prop) → Prop) : Prop :=
  ∀ {dA F H dx dy x y Q Qk}, Ok K dA F H → Rep K dA F dx x → Rep K dA F dy y → o dx dy Q → Fin K dA F H Q Qk → r x y H Qk
def vOp (o : D → D → (D → Prop) → Prop) (ma mb : Vm) : Vm := fun Γ Q => ma Γ fun x => mb Γ fun y => o x y Q
theorem simOp {K : PySem.W.Frag} {r : R2} {o : D → D → (D → Prop) → Prop} (ho : OSim K r o)
    (sa : ∀ {dA F0 H0 F H σ Γ Q Qk}, Rel K dA F0 H0 F H σ Γ → ma Γ Q → Fin K dA F H Q Qk → ta σ H Qk) (sb : ∀ {dA F0 H0 F H σ Γ Q Qk}, Rel K dA F0 H0 F H σ Γ → mb Γ Q → Fin K dA F H Q Qk → tb σ H Qk) :
    ∀ {dA F0 H0 F H σ Γ Q Qk}, Rel K dA F0 H0 F H σ Γ → vOp o ma mb Γ Q → Fin K dA F H Q Qk → tOp r ta tb σ H Qk := fun R q f =>
  sa R q fun F1 H1 dx x e1 k1 r1 q1 => sb (R.step e1 k1) q1 fun F2 H2 dy y e2 k2 r2 q2 => ho k2 (Rep.mono e2.ff _ _ r1) r2 q2 (f.at (e1.trans e2))
theorem v_op {op : Operator} {r : R2} {o : D → D → (D → Prop) → Prop} (h : OpR X (binaryOp op) r) (ho : OSim X.K r o) (ha : VE X a ta ma) (hb : VE X b tb mb) : VE X (.BinOp a op b pos) (tOp r ta tb) (vOp o ma mb) :=
  ⟨pe_op h ha.pe hb.pe, simOp ho ha.sim hb.sim⟩
/-- a comparison, as a value and as a test -/
structure VCp (X : Cx) (e : Expr) (t : TE) (m : Vm) : Prop where
  pe : PE X e t
  pt : PT X e (tTest t)
  sim : ∀ {dA F0 H0 F H σ Γ Q Qk}, Rel X.K dA F0 H0 F H σ Γ → m Γ Q → Fin X.K dA F H Q Qk → t σ H Qk
theorem VCp.ve {X : Cx} {e : Expr} {t : TE} {m : Vm} (h : VCp X e t m) : VE X e t m := ⟨h.pe, h.sim⟩
theorem v_cmp {op : CmpOp} {r : R2} {o : D → D → (D → Prop) → Prop} (h : OpR X (compareOp op) r) (ho : OSim X.K r o) (ha : VE X a ta ma) (hb : VE X b tb mb) (hm : behindInMarks op b = false := by first | exact nomark _ | rfl) : VCp X (.Compare a [op] [b] pos) (tOp r ta tb) (vOp o ma mb) :=
  ⟨pe_cmpR h ha.pe hb.pe hm, pt_cmpR h ha.pe hb.pe hm, simOp ho ha.sim hb.sim⟩
/-- two ways -/
def brn (P : Prop) (Q : Bool → Prop) : Prop := (P → Q true) ∧ (¬ P → Q false)
theorem brn_dec {P : Prop} [h : Decidable P] {Q : Bool → Prop} (q : brn P Q) : Q (decide P) := by
  by_cases z : P
  · rw [decide_eq_true z]
    exact q.1 z
  · rw [decide_eq_false z]
    exact q.2 z
theorem brn_iff {P : Prop} {Q : Bool → Prop} (q : brn P Q) {b : Bool} (h : b = true ↔ P) : Q b := by
  cases b with
  | true => exact q.1 (h.mp rfl)
  | false => exact q.2 fun z => Bool.noConfusion (h.mpr z)
theorem brn_not {P : Prop} {Q : Bool → Prop} (q : brn (¬ P) Q) {b : Bool} (h : b = true ↔ P) : Q (!b) := by
  cases b with
  | true => exact q.2 fun z => z (h.mp rfl)
  | false => exact q.1 fun z => Bool.noConfusion (h.mpr z)
/-- two whole numbers, under C -/
def oI (C : Int → Int → Prop) (g : Int → Int → D) : D → D → (D → Prop) → Prop := fun x y Q => match x, y with
  | .int i, .int j => C i j ∧ Q (g i j)
  | _, _ => False
def oI0 (g : Int → Int → D) : D → D → (D → Prop) → Prop := fun x y Q => match x, y with
  | .int i, .int j => Q (g i j)
  | _, _ => False
theorem os_I {K : PySem.W.Frag} {C C' : Int → Int → Prop} {g : Int → Int → V} {g' : Int → Int → D} (hc : ∀ i j, C' i j → C i j) (hg : ∀ {dA F} i j, Rep K dA F (g' i j) (g i j)) : OSim K (rI C g) (oI C' g') := fun {dA F H dx dy x y Q Qk} k rx ry q f => by
  unfold oI at q
  split at q
  · rename_i i j
    exact ⟨i, j, rx, ry, hc i j q.1, f F H _ _ Ext.refl k (hg i j) q.2⟩
  · exact q.elim
theorem os_I0 {K : PySem.W.Frag} {g : Int → Int → V} {g' : Int → Int → D} (hg : ∀ {dA F} i j, Rep K dA F (g' i j) (g i j)) : OSim K (rI0 g) (oI0 g') := fun {dA F H dx dy x y Q Qk} k rx ry q f => by
  unfold oI0 at q
  split at q
  · rename_i i j
    exact ⟨i, j, rx, ry, f F H _ _ Ext.refl k (hg i j) q⟩
  · exact q.elim
abbrev oAdd := oI0 fun i j => .int (i + j)
abbrev oSub := oI0 fun i j => .int (i - j)
/-- below two thousand bits each, or one of them small -/
abbrev oMul := oI (fun i j => (i.natAbs < 2 ^ 64 ∨ j.natAbs < 2 ^ 64)) fun i j => .int (i * j)
abbrev oMulW := oI (fun i j => (i.natAbs < 2 ^ 8000 ∧ j.natAbs < 2 ^ 8000)) fun i j => .int (i * j)
abbrev oDiv := oI (fun _ j => 0 < j ∧ j < 1073741824) fun i j => .int (i / j)
abbrev oDivW := oI (fun _ j => 0 < j ∧ j.natAbs < 2 ^ 8000) fun i j => .int (i / j)
abbrev oMod := oI (fun _ j => 0 < j) fun i j => .int (i % j)
abbrev oPow := oI (fun i j => 0 ≤ j ∧ j ≤ 1000000 ∧ i.natAbs < 2 ^ 64) fun i j => .int (i ^ j.toNat)
abbrev oShr := oI (fun _ j => 0 ≤ j) fun i j => .int (i / 2 ^ j.toNat)
abbrev oAnd := oI0 fun i j => .int (Builtin.bitAnd i j)
def oLt : D → D → (D → Prop) → Prop := fun x y Q => match x, y with
  | .int i, .int j => brn (i < j) fun b => Q (.bl b)
  | _, _ => False
def oLe : D → D → (D → Prop) → Prop := fun x y Q => match x, y with
  | .int i, .int j => brn (i ≤ j) fun b => Q (.bl b)
  | _, _ => False
def oGt : D → D → (D → Prop) → Prop := fun x y Q => match x, y with
  | .int i, .int j => brn (j < i) fun b => Q (.bl b)
  | _, _ => False
def oGe : D → D → (D → Prop) → Prop := fun x y Q => match x, y with
  | .int i, .int j => brn (j ≤ i) fun b => Q (.bl b)
  | _, _ => False
theorem v_add (ha : VE X a ta ma) (hb : VE X b tb mb) : VE X (.BinOp a .Add b pos) (tOp (rI0 fun i j => .int (i + j)) ta tb) (vOp oAdd ma mb) := v_op op_add (os_I0 fun {dA F} _ _ => by rfl) ha hb
theorem v_sub (ha : VE X a ta ma) (hb : VE X b tb mb) : VE X (.BinOp a .Sub b pos) (tOp (rI0 fun i j => .int (i - j)) ta tb) (vOp oSub ma mb) := v_op op_sub (os_I0 fun {dA F} _ _ => by rfl) ha hb
theorem mul_ok {i j : Int} (h : i.natAbs < 2 ^ 64 ∨ j.natAbs < 2 ^ 64) : CMul i j := by
  unfold CMul
  omega
theorem v_mul (ha : VE X a ta ma) (hb : VE X b tb mb) : VE X (.BinOp a .Mult b pos) (tOp (rI CMul fun i j => .int (i * j)) ta tb) (vOp oMul ma mb) := v_op op_mul (os_I (fun _ _ h => mul_ok h) fun {dA F} _ _ => by rfl) ha hb
theorem v_mulW (ha : VE X a ta ma) (hb : VE X b tb mb) : VE X (.BinOp a .Mult b pos) (tOp (rI CMulW fun i j => .int (i * j)) ta tb) (vOp oMulW ma mb) := v_op op_mulW (os_I (fun _ _ h => wide_mul h.1 h.2 (by decide) (by decide) (by decide)) fun {dA F} _ _ => by rfl) ha hb
theorem v_div (ha : VE X a ta ma) (hb : VE X b tb mb) : VE X (.BinOp a .FloorDiv b pos) (tOp (rI CDiv fun i j => .int (i / j)) ta tb) (vOp oDiv ma mb) := v_op op_fdiv (os_I (fun _ _ h => h) fun {dA F} _ _ => by rfl) ha hb
theorem v_divW (ha : VE X a ta ma) (hb : VE X b tb mb) : VE X (.BinOp a .FloorDiv b pos) (tOp (rI CDivW fun i j => .int (i / j)) ta tb) (vOp oDivW ma mb) := v_op op_fdivW (os_I (fun _ _ h => wide_div h.1 h.2 (by decide) (by decide)) fun {dA F} _ _ => by rfl) ha hb
theorem v_mod (ha : VE X a ta ma) (hb : VE X b tb mb) : VE X (.BinOp a .Mod b pos) (tOp (rI (fun _ j => 0 < j) fun i j => .int (i % j)) ta tb) (vOp oMod ma mb) := v_op op_mod (os_I (fun _ _ h => h) fun {dA F} _ _ => by rfl) ha hb
theorem v_pow (ha : VE X a ta ma) (hb : VE X b tb mb) : VE X (.BinOp a .Pow b pos) (tOp (rI CPow fun i j => .int (i ^ j.toNat)) ta tb) (vOp oPow ma mb) := v_op op_pow (os_I (fun _ _ h => h) fun {dA F} _ _ => by rfl) ha hb
theorem v_shr (ha : VE X a ta ma) (hb : VE X b tb mb) : VE X (.BinOp a .RShift b pos) (tOp (rI (fun _ j => 0 ≤ j) fun i j => .int (i / 2 ^ j.toNat)) ta tb) (vOp oShr ma mb) := v_op op_shr (os_I (fun _ _ h => h) fun {dA F} _ _ => by rfl) ha hb
theorem v_band (ha : VE X a ta ma) (hb : VE X b tb mb) : VE X (.BinOp a .BitAnd b pos) (tOp (rI0 fun i j => .int (Builtin.bitAnd i j)) ta tb) (vOp oAnd ma mb) := v_op op_and (os_I0 fun {dA F} _ _ => by rfl) ha hb
theorem os_C {K : PySem.W.Frag} {P : Int → Int → Prop} [hd : ∀ i j, Decidable (P i j)] {o : D → D → (D → Prop) → Prop} (ho : ∀ x y Q, o x y Q → ∃ i j, x = .int i ∧ y = .int j ∧ brn (P i j) fun b => Q (.bl b)) : OSim K (rI0 fun i j => .bl (decide (P i j))) o := fun {dA F H dx dy x y Q Qk} k rx ry q f => by
  obtain ⟨i, j, rfl, rfl, h⟩ := ho _ _ _ q
  exact ⟨i, j, rx, ry, f F H (.bl (decide (P i j))) _ Ext.refl k rfl (brn_dec (Q := fun b => Q (.bl b)) h)⟩
theorem os_lt {K : PySem.W.Frag} : OSim K (rI0 fun i j => .bl (decide (i < j))) oLt := os_C fun x y Q q => by
  cases x <;> cases y <;> first | exact False.elim q | exact ⟨_, _, rfl, rfl, q⟩
theorem os_le {K : PySem.W.Frag} : OSim K (rI0 fun i j => .bl (decide (i ≤ j))) oLe := os_C fun x y Q q => by
  cases x <;> cases y <;> first | exact False.elim q | exact ⟨_, _, rfl, rfl, q⟩
theorem os_gt {K : PySem.W.Frag} : OSim K (rI0 fun i j => .bl (decide (j < i))) oGt := os_C (P := fun i j => j < i) fun x y Q q => by
  cases x <;> cases y <;> first | exact False.elim q | exact ⟨_, _, rfl, rfl, q⟩
theorem os_ge {K : PySem.W.Frag} : OSim K (rI0 fun i j => .bl (decide (j ≤ i))) oGe := os_C (P := fun i j => j ≤ i) fun x y Q q => by
  cases x <;> cases y <;> first | exact False.elim q | exact ⟨_, _, rfl, rfl, q⟩
theorem v_lt (ha : VE X a ta ma) (hb : VE X b tb mb) : VCp X (.Compare a [.Lt] [b] pos) (tOp (rI0 fun i j => .bl (decide (i < j))) ta tb) (vOp oLt ma mb) := v_cmp op_lt os_lt ha hb
theorem v_le (ha : VE X a ta ma) (hb : VE X b tb mb) : VCp X (.Compare a [.LtE] [b] pos) (tOp (rI0 fun i j => .bl (decide (i ≤ j))) ta tb) (vOp oLe ma mb) := v_cmp op_le os_le ha hb
theorem v_gt (ha : VE X a ta ma) (hb : VE X b tb mb) : VCp X (.Compare a [.Gt] [b] pos) (tOp (rI0 fun i j => .bl (decide (j < i))) ta tb) (vOp oGt ma mb) := v_cmp op_gt os_gt ha hb
theorem v_ge (ha : VE X a ta ma) (hb : VE X b tb mb) : VCp X (.Compare a [.GtE] [b] pos) (tOp (rI0 fun i j => .bl (decide (j ≤ i))) ta tb) (vOp oGe ma mb) := v_cmp op_ge os_ge ha hb
/-- -n -/
def vNeg (ma : Vm) : Vm := fun Γ Q => ma Γ fun x => match x with
  | .int i => Q (.int (-i))
  | _ => False
theorem v_neg (ha : VE X a ta ma) : VE X (.UnaryOp .USub a pos) (tUn (rU fun i => .int (-i)) ta) (vNeg ma) := ⟨pe_un un_neg ha.pe, fun {dA F0 H0 F H σ Γ Q Qk} R q f => ha.sim R q fun F1 H1 dx x e1 k1 r1 q1 => by
  cases dx <;> first | exact False.elim q1 | skip
  rename_i i
  exact ⟨i, r1, f F1 H1 (.int (-i)) _ e1 k1 rfl q1⟩⟩

/-! ### is None -/
def isN : D → Bool
  | .non => true
  | _ => false
theorem rep_isN {K : PySem.W.Frag} {dA : Option Addr} {F : Hp} : ∀ {d : D} {v : V}, Rep K dA F d v → decide (v = .non) = isN d
  | .non, _, h => by cases h; rfl
  | .bl _, _, h => by cases h; rfl
  | .int _, _, h => by cases h; rfl
  | .str _, _, h => by cases h; rfl
  | .lst _, _, h => by obtain ⟨a, vs, rfl, _⟩ := h; rfl
  | .tup _, _, h => by obtain ⟨a, vs, rfl, _⟩ := h; rfl
  | .obj _ _ _, _, h => by obtain ⟨a, dx, fs, rfl, _⟩ := h; rfl
  | .tok, _, h => by obtain ⟨a, rfl, _⟩ := h; rfl
  | .cst, _, h => by obtain ⟨a, rfl, _⟩ := h; rfl
def oIsN : D → D → (D → Prop) → Prop := fun x y Q => match y with
  | .non => Q (.bl (isN x))
  | _ => False
def oNotN : D → D → (D → Prop) → Prop := fun x y Q => match y with
  | .non => Q (.bl (!isN x))
  | _ => False
theorem v_is (ha : VE X a ta ma) (hb : VE X b tb mb) : VCp X (.Compare a [.Is] [b] pos) (tOp (fun x y H Q => y = .non ∧ Q (.bl (decide (x = .non))) H) ta tb) (vOp oIsN ma mb) := v_cmp op_isN (fun {dA F H dx dy x y Q Qk} k rx ry q f => by
  cases dy <;> first | exact False.elim q | skip
  exact ⟨ry, f F H (.bl (isN dx)) _ Ext.refl k (by rw [rep_isN rx]; rfl) q⟩) ha hb
theorem v_isnot (ha : VE X a ta ma) (hb : VE X b tb mb) : VCp X (.Compare a [.IsNot] [b] pos) (tOp (fun x y H Q => y = .non ∧ Q (.bl (!decide (x = .non))) H) ta tb) (vOp oNotN ma mb) := v_cmp op_notN (fun {dA F H dx dy x y Q Qk} k rx ry q f => by
  cases dy <;> first | exact False.elim q | skip
  exact ⟨ry, f F H (.bl (!isN dx)) _ Ext.refl k (by rw [rep_isN rx]; rfl) q⟩) ha hb

/-! ### arguments, displays -/
def vNil : Va := fun _ Q => Q []
def vCons (ma : Vm) (mr : Va) : Va := fun Γ Q => ma Γ fun x => mr Γ fun xs => Q (x :: xs)
theorem va_nil : VA X [] tNil vNil := ⟨pa_nil, fun {dA F0 H0 F H σ Γ Q Qk} R q f => f F H [] [] Ext.refl R.ok rfl rfl q⟩
theorem va_cons {tr : TA} {mr : Va} (ha : VE X a ta ma) (hr : VA X es tr mr) (hs : starEach (a :: es) X.env = (false, eval a X.env) :: starEach es X.env := by rfl) : VA X (a :: es) (tCons ta tr) (vCons ma mr) :=
  ⟨pa_cons ha.pe hr.pa hs, fun {dA F0 H0 F H σ Γ Q Qk} R q f => ha.sim R q fun F1 H1 dx x e1 k1 r1 q1 => hr.sim (R.step e1 k1) q1 fun F2 H2 ds vs e2 k2 r2 hl q2 =>
    f F2 H2 (dx :: ds) (x :: vs) (e1.trans e2) k2 (RepL.cons (Rep.mono e2.ff _ _ r1) r2) (by rw [List.length_cons, List.length_cons, hl]) q2⟩
theorem line_le {n : Nat} (h : n ≤ 1000000) : n ≤ sizeLine := by
  rw [sizeLine_eq]
  omega
theorem line_lt {n : Nat} (h : n < 1000000) : n < sizeLine := by
  rw [sizeLine_eq]
  omega
/-- a tuple of written items -/
theorem v_tup {x1} {tr : TA} {mr : Va} (h : VA X es tr mr) (hl : es.length ≤ 1000000 := by decide) : VE X (.Tuple es x1 pos) (tTup tr) (fun Γ Q => mr Γ fun ds => Q (.tup ds)) :=
  ⟨pe_tup h.pa, fun {dA F0 H0 F H σ Γ Q Qk} R q f => h.sim R q fun F1 H1 ds vs e1 k1 r1 hn q1 => ⟨line_le (by rw [r1.length, hn]; exact hl), fun p hp => by
    obtain ⟨e2, k2⟩ := grow (o := .tup vs) k1 hp
    exact f _ _ (.tup ds) _ (e1.trans e2) k2 ⟨p, vs, rfl, upd_same, RepL.mono e2.ff _ _ r1⟩ q1⟩⟩
/-- a list of written items -/
theorem vl_lst {tr : TA} {mr : Va} (h : VA X es tr mr) (hl : es.length ≤ 1000000 := by decide) : VL X (.List es pos) (tLst tr) mr :=
  ⟨pe_lst h.pa, fun {dA F0 H0 F H σ Γ Q Qk} R q f => h.sim R q fun F1 H1 ds vs e1 k1 r1 hn q1 => ⟨line_le (by rw [r1.length, hn]; exact hl), fun p hp => by
    obtain ⟨e2, k2⟩ := growOwn (o := .lst vs) k1 hp
    exact f F1 _ p ds vs (e1.trans e2) k2 (e1.none hp) (k1.fnone hp) upd_same r1 q1⟩⟩

/-! ### subscripts, fields -/
/-- the item at i -/
def atD (xs : List D) (i : Int) (Q : D → Prop) : Prop := ∃ d, atI xs i = some d ∧ Q d
def oIx : D → D → (D → Prop) → Prop := fun x y Q => match x, y with
  | .lst xs, .int i => atD xs i Q
  | .tup xs, .int i => atD xs i Q
  | .cst, .int i => atD [.int 0, .int 1] i Q
  | _, _ => False
theorem ixN_some {n : Nat} {i : Int} {j : Nat} (h : ixN n i = some j) : j < n := by
  unfold ixN at h
  split at h
  · split at h
    · cases h
      omega
    · cases h
  · split at h
    · cases h
      omega
    · cases h
theorem atI_rep {K : PySem.W.Frag} {dA : Option Addr} {F : Hp} {xs : List D} {vs : List V} {i : Int} {d : D} (r : RepL K dA F xs vs) (h : atI xs i = some d) : ∃ v, atI vs i = some v ∧ Rep K dA F d v := by
  unfold atI at h ⊢
  rw [r.length]
  cases e : ixN xs.length i with
  | none => rw [e] at h; cases h
  | some j =>
    rw [e] at h
    obtain ⟨v, h1, h2⟩ := r.get (i := j) (x := d) h
    exact ⟨v, h1, h2⟩
theorem os_ix {K : PySem.W.Frag} : OSim K (rIx K) oIx := fun {dA F H dx dy x y Q Qk} k rx ry q f => by
  unfold oIx at q
  split at q
  · rename_i xs i
    obtain ⟨a, vs, rfl, hs, hr⟩ := rx
    obtain ⟨d, h, q⟩ := q
    obtain ⟨v, h1, h2⟩ := atI_rep hr h
    exact .inl ⟨a, vs, i, v, rfl, ry, sqL_mono k.sub hs, h1, f F H d v Ext.refl k h2 q⟩
  · rename_i xs i
    obtain ⟨a, vs, rfl, hs, hr⟩ := rx
    obtain ⟨d, h, q⟩ := q
    obtain ⟨v, h1, h2⟩ := atI_rep hr h
    exact .inr (.inl ⟨a, vs, i, v, rfl, ry, sqT_of k.sub hs, h1, f F H d v Ext.refl k h2 q⟩)
  · rename_i i
    obtain ⟨a, rfl, hs⟩ := rx
    obtain ⟨d, h, q⟩ := q
    obtain ⟨v, h1, h2⟩ := atI_rep (K := K) (dA := dA) (F := F) (vs := [.int 0, .int 1]) (show RepL K dA F [D.int 0, D.int 1] [V.int 0, V.int 1] from RepL.cons (show Rep K dA F (.int 0) (.int 0) from rfl) (RepL.one (show Rep K dA F (.int 1) (.int 1) from rfl))) h
    exact .inr (.inl ⟨a, _, i, v, rfl, ry, hs H, h1, f F H d v Ext.refl k h2 q⟩)
  · exact q.elim
theorem v_ix (ha : VE X a ta ma) (hb : VE X b tb mb) (hs : PlainIx b := by exact fun _ _ => rfl) : VE X (.Subscript a b pos) (tOp (rIx X.K) ta tb) (vOp oIx ma mb) := ⟨pe_ix ix_seq ha.pe hb.pe hs, simOp os_ix ha.sim hb.sim⟩
/-- an own list's item -/
def vIxO (i : Nat) (mb : Vm) : Vm := fun Γ Q => match Γ[i]? with
  | some (.ow xs) => mb Γ fun y => match y with
    | .int k => atD xs k Q
    | _ => False
  | _ => False
theorem Rel.getOw {K : PySem.W.Frag} {dA : Option Addr} {F0 H0 F H : Hp} {σ : L2.St} {Γ : Ev} (R : Rel K dA F0 H0 F H σ Γ) {i : Nat} {xs : List D} (h : Γ[i]? = some (.ow xs)) :
    ∃ a vs, σ[i]? = some (some (.ref a)) ∧ H a = some (.lst vs) ∧ RepL K dA F xs vs ∧ dA ≠ some a ∧ F a = none := by
  obtain ⟨own, ho, hs⟩ := R.sl
  obtain ⟨o, h1, a, vs, h2, h3, h4, h5⟩ := hs i _ h
  obtain ⟨_, g1, _, g2⟩ := ho a i h3
  exact ⟨a, vs, by rw [h1, h2], h4, h5, g2, g1⟩
theorem v_ixO (i : Nat) {x : Str} {p : Pos} (hb : VE X b tb mb) (hN : X.N[i]? = some x := by rfl) (hv : Vis X.env.scope x := by first | exact Or.inl rfl | exact Or.inr (Or.inl rfl) | exact Or.inr (Or.inr rfl)) (hd : (x == ("__debug__" : Str)) = false := by decide)
    (hcd : (x == ("__classdict__" : Str)) = false := by decide) (hs : PlainIx b := by exact fun _ _ => rfl) : VE X (.Subscript (.Name x p) b pos) (tOp (rIxL X.K) (tVar i) tb) (vIxO i mb) :=
  ⟨pe_ix ix_list (pe_var hN hv hd hcd) hb.pe hs, fun {dA F0 H0 F H σ Γ Q Qk} R q f => by
    unfold vIxO at q
    split at q
    · rename_i xs h
      obtain ⟨a, vs, h1, h2, h3, h4, _⟩ := R.getOw h
      refine ⟨.ref a, h1, hb.sim R q fun F1 H1 dy y e1 k1 r1 q1 => ?_⟩
      cases dy <;> first | exact False.elim q1 | skip
      rename_i k
      obtain ⟨d, hd, q1⟩ := q1
      obtain ⟨v, g1, g2⟩ := atI_rep h3 hd
      exact ⟨a, vs, k, v, rfl, r1, SqL.of (e1.keep _ _ h2 h4), g1, f F1 H1 d v e1 k1 (Rep.mono e1.ff _ _ g2) q1⟩
    · exact q.elim⟩
/-- a field -/
def fldD (c f : Str) (d : D) (Q : D → Prop) : Prop := match d with
  | .obj c' ns ds => c' = c ∧ ∃ x, (ns.zip ds).lookup f = some x ∧ Q x
  | _ => False
theorem lookup_rep {K : PySem.W.Frag} {dA : Option Addr} {F : Hp} {f : Str} {x : D} : ∀ {ns : List Str} {ds : List D} {fs : List (Str × V)}, fs.map (·.1) = ns → RepL K dA F ds (fs.map (·.2)) → (ns.zip ds).lookup f = some x → ∃ v, fs.lookup f = some v ∧ Rep K dA F x v
  | _, _, [], hn, hr, h => by
    cases hn
    cases h
  | _, [], p :: fs, hn, hr, h => by
    rw [List.zip_nil_right] at h
    cases h
  | _, d :: ds, (n, v) :: fs, hn, hr, h => by
    cases hn
    obtain ⟨v', r, e, h1, h2⟩ := hr
    cases e
    have h' : (match f == n with | true => some d | false => ((fs.map (·.1)).zip ds).lookup f) = some x := h
    show ∃ w, (match f == n with | true => some v | false => fs.lookup f) = some w ∧ _
    cases q : f == n with
    | true =>
      rw [q] at h'
      cases h'
      exact ⟨v, rfl, h1⟩
    | false =>
      rw [q] at h'
      exact lookup_rep rfl h2 h'
theorem v_fld {cn f : Str} (ha : VE X a ta ma) (cl : Cls X.K (He.ga X.K cn)) (na : NoAttr X.K (He.ga X.K cn) f) (hb : attributeBase a f X.env (eval a X.env) = eval a X.env := by rfl) : VE X (.Attribute a f pos) (tFld X.K ta f) (fun Γ Q => ma Γ fun d => fldD cn f d Q) :=
  ⟨pe_fld ha.pe hb, fun {dA F0 H0 F H σ Γ Q Qk} R q f' => ha.sim R q fun F1 H1 dx x e1 k1 r1 q1 => by
    cases dx <;> first | exact False.elim q1 | skip
    rename_i c' ns ds
    obtain ⟨rfl, q1⟩ := q1
    obtain ⟨a, dx, fs, rfl, h1, h2, h3⟩ := r1
    obtain ⟨y, hy, q1⟩ := q1
    obtain ⟨v, g1, g2⟩ := lookup_rep h2 h3 hy
    exact ⟨a, _, dx, fs, v, rfl, k1.sub _ _ h1, cl, na, g1, f' F1 H1 y v e1 k1 g2 q1⟩⟩
end
end LV
set_option Elab.async false
set_option linter.all false
set_option maxRecDepth 100000
set_option maxHeartbeats 4000000
/-! LV3: tests, calls of built-ins, equality, calls of the text's own defs. -/
namespace LV
open PySem PySem.Spec PyProof.Rows L2

section
variable {X : Cx} {e a b c : Expr} {es : List Expr} {t ta tb tc : TE} {m ma mb mc : Vm} {pos : Pos} {tt tu : TT} {mt mu : Vt} {rest : List Expr}

/-! ### tests -/
def vTB (m : Vm) : Vt := fun Γ Q => m Γ fun d => match d with
  | .bl b => Q b
  | _ => False
theorem vt_val (h : VE X e t m) (he : ∀ whole, isTrue e X.env whole = (do let v ← whole; standAt e.pos; holding [v] (truthy v)) := by intro _; rfl) : VT X e (tB t) (vTB m) :=
  ⟨pt_val h.pe he, fun {dA F0 H0 F H σ Γ Q Qk} R q f => h.sim R q fun F1 H1 d v e1 k1 r1 q1 => by
    cases d <;> first | exact False.elim q1 | skip
    rename_i b
    exact ⟨b, r1, f F1 H1 b e1 k1 q1⟩⟩
theorem vt_cmp (h : VCp X e t m) : VT X e (tTest t) (vTB m) :=
  ⟨h.pt, fun {dA F0 H0 F H σ Γ Q Qk} R q f => h.sim R q fun F1 H1 d v e1 k1 r1 q1 => by
    cases d <;> first | exact False.elim q1 | skip
    rename_i b
    exact ⟨b, r1, f F1 H1 b e1 k1 q1⟩⟩
/-- truth of what may be a list or a tuple -/
def truD (d : D) (Q : Bool → Prop) : Prop := match d with
  | .lst xs => brn (¬ xs = []) Q
  | .tup xs => brn (¬ xs = []) Q
  | .bl b => Q b
  | .non => Q false
  | _ => False
theorem brn_emp {xs : List D} {Q : Bool → Prop} (q : brn (¬ xs = []) Q) : Q (!xs.isEmpty) := by
  cases xs with
  | nil => exact q.2 fun z => z rfl
  | cons x xs => exact q.1 fun z => nomatch z
theorem empty_rep {K : PySem.W.Frag} {dA : Option Addr} {F : Hp} {xs : List D} {vs : List V} (r : RepL K dA F xs vs) : xs.isEmpty = vs.isEmpty := by
  cases xs with
  | nil => cases r; rfl
  | cons x xs => obtain ⟨v, r', rfl, _⟩ := r; rfl
theorem tru_rep {K : PySem.W.Frag} {dA : Option Addr} {F H : Hp} {d : D} {v : V} {Q : Bool → Prop} (s : Same F H) (r : Rep K dA F d v) (q : truD d Q) : ∃ k, TruV K v H k ∧ Q k := by
  cases d with
  | lst xs =>
    obtain ⟨a, vs, rfl, hs, hr⟩ := r
    exact ⟨_, .inl ⟨vs, sqL_mono s hs, rfl⟩, by rw [← empty_rep hr]; exact brn_emp q⟩
  | tup xs =>
    obtain ⟨a, vs, rfl, hs, hr⟩ := r
    exact ⟨_, .inr (.inl ⟨vs, sqT_of s hs, rfl⟩), by rw [← empty_rep hr]; exact brn_emp q⟩
  | bl b => cases r; exact ⟨b, rfl, q⟩
  | non => cases r; exact ⟨false, rfl, q⟩
  | _ => exact False.elim q
theorem vt_tru (h : VE X e t m) (he : ∀ whole, isTrue e X.env whole = (do let v ← whole; standAt e.pos; holding [v] (truthy v)) := by intro _; rfl) :
    VT X e (fun σ H Q => t σ H fun x H' => ∃ k, TruV X.K x H' k ∧ Q k H') (fun Γ Q => m Γ fun d => truD d Q) :=
  ⟨pt_truth h.pe he, fun {dA F0 H0 F H σ Γ Q Qk} R q f => h.sim R q fun F1 H1 d v e1 k1 r1 q1 => by
    obtain ⟨k, h1, h2⟩ := tru_rep k1.sub r1 q1
    exact ⟨k, h1, f F1 H1 k e1 k1 h2⟩⟩
/-- truth of an own list -/
def vTruO (i : Nat) : Vt := fun Γ Q => match Γ[i]? with
  | some (.ow xs) => brn (¬ xs = []) Q
  | _ => False
theorem vt_truO (i : Nat) {x : Str} {p : Pos} (hN : X.N[i]? = some x := by rfl) (hv : Vis X.env.scope x := by first | exact Or.inl rfl | exact Or.inr (Or.inl rfl) | exact Or.inr (Or.inr rfl)) (hd : (x == ("__debug__" : Str)) = false := by decide)
    (hcd : (x == ("__classdict__" : Str)) = false := by decide) : VT X (.Name x p) (fun σ H Q => tVar i σ H fun x H' => ∃ k, TruV X.K x H' k ∧ Q k H') (vTruO i) :=
  ⟨pt_truth (pe_var hN hv hd hcd) (fun _ => rfl), fun {dA F0 H0 F H σ Γ Q Qk} R q f => by
    unfold vTruO at q
    split at q
    · rename_i xs h
      obtain ⟨a, vs, h1, h2, h3, h4, _⟩ := R.getOw h
      exact ⟨_, h1, _, .inl ⟨vs, SqL.of h2, rfl⟩, f F H _ Ext.refl R.ok (by rw [← empty_rep h3]; exact brn_emp q)⟩
    · exact q.elim⟩
def vAnd (m n : Vt) : Vt := fun Γ Q => m Γ fun c => if c = true then n Γ Q else Q false
def vOr (m n : Vt) : Vt := fun Γ Q => m Γ fun c => if c = true then Q true else n Γ Q
def vNot (m : Vt) : Vt := fun Γ Q => m Γ fun c => Q (!c)
theorem vt_of (h : VW X e tt mt) : VT X e tt mt := ⟨h.pw.pt, h.sim⟩
theorem vw_and1 (h : VT X a tt mt) : VW X (.BoolOp .And [a] pos) tt mt := ⟨pw_and1 h.pt, h.sim⟩
theorem vw_or1 (h : VT X a tt mt) : VW X (.BoolOp .Or [a] pos) tt mt := ⟨pw_or1 h.pt, h.sim⟩
theorem vw_and (h : VT X a tt mt) (h2 : VW X (.BoolOp .And (b :: rest) pos) tu mu) : VW X (.BoolOp .And (a :: b :: rest) pos) (tAnd tt tu) (vAnd mt mu) :=
  ⟨pw_and h.pt h2.pw, fun {dA F0 H0 F H σ Γ Q Qk} R q f => h.sim R q fun F1 H1 c e1 k1 q1 => by
    cases c with
    | true =>
      have q1 : mu Γ Q := q1
      exact h2.sim (R.step e1 k1) q1 (f.at e1)
    | false =>
      have q1 : Q false := q1
      exact f F1 H1 false e1 k1 q1⟩
theorem vw_or (h : VT X a tt mt) (h2 : VW X (.BoolOp .Or (b :: rest) pos) tu mu) : VW X (.BoolOp .Or (a :: b :: rest) pos) (tOr tt tu) (vOr mt mu) :=
  ⟨pw_or h.pt h2.pw, fun {dA F0 H0 F H σ Γ Q Qk} R q f => h.sim R q fun F1 H1 c e1 k1 q1 => by
    cases c with
    | true =>
      have q1 : Q true := q1
      exact f F1 H1 true e1 k1 q1
    | false =>
      have q1 : mu Γ Q := q1
      exact h2.sim (R.step e1 k1) q1 (f.at e1)⟩
theorem vt_not (h : VT X a tt mt) : VT X (.UnaryOp .Not a pos) (tNot tt) (vNot mt) :=
  ⟨pt_not h.pt, fun {dA F0 H0 F H σ Γ Q Qk} R q f => h.sim R q fun F1 H1 c e1 k1 q1 => f F1 H1 (!c) e1 k1 q1⟩
/-- a op b op' c, as a test -/
def vChain (o o' : D → D → (D → Prop) → Prop) (ma mb mc : Vm) : Vt := fun Γ Q => ma Γ fun x => mb Γ fun y => o x y fun z => match z with
  | .bl true => mc Γ fun w => o' y w fun z' => match z' with
    | .bl k => Q k
    | _ => False
  | .bl false => Q false
  | _ => False
theorem vt_chain {op op' : CmpOp} {r r' : R2} {o o' : D → D → (D → Prop) → Prop} (h1 : OpR X (compareOp op) r) (h2 : OpR X (compareOp op') r') (s1 : OSim X.K r o) (s2 : OSim X.K r' o') (ha : VE X a ta ma) (hb : VE X b tb mb) (hc : VE X c tc mc)
    (hm : lastMarks [op, op'] [b, c] = false := by with_unfolding_all rfl) : VT X (.Compare a [op, op'] [b, c] pos) (tTest (tChain r r' ta tb tc)) (vChain o o' ma mb mc) :=
  ⟨pt_chain h1 h2 ha.pe hb.pe hc.pe hm, fun {dA F0 H0 F H σ Γ Q Qk} R q f => ha.sim R q fun F1 H1 dx x e1 k1 r1 q1 => hb.sim (R.step e1 k1) q1 fun F2 H2 dy y e2 k2 r2 q2 =>
    s1 k2 (Rep.mono e2.ff _ _ r1) r2 q2 fun F3 H3 dz z e3 k3 r3 q3 => by
      cases dz <;> first | exact False.elim q3 | skip
      rename_i kk
      refine ⟨kk, r3, ?_⟩
      cases kk with
      | false =>
        have q3 : Q false := q3
        exact ⟨false, rfl, f F3 H3 false ((e1.trans e2).trans e3) k3 q3⟩
      | true =>
        rw [if_pos rfl]
        refine hc.sim (R.step ((e1.trans e2).trans e3) k3) q3 fun F4 H4 dw w e4 k4 r4 q4 => ?_
        refine s2 k4 (Rep.mono (e3.ff.trans e4.ff) _ _ r2) r4 q4 fun F5 H5 d5 v5 e5 k5 r5 q5 => ?_
        cases d5 <;> first | exact False.elim q5 | skip
        rename_i k6
        exact ⟨k6, r5, f F5 H5 k6 ((((e1.trans e2).trans e3).trans e4).trans e5) k5 q5⟩⟩
theorem vt_lele (ha : VE X a ta ma) (hb : VE X b tb mb) (hc : VE X c tc mc) (hm : lastMarks [.LtE, .LtE] [b, c] = false := by with_unfolding_all rfl) :
    VT X (.Compare a [.LtE, .LtE] [b, c] pos) (tTest (tChain (rI0 fun i j => .bl (decide (i ≤ j))) (rI0 fun i j => .bl (decide (i ≤ j))) ta tb tc)) (vChain oLe oLe ma mb mc) :=
  vt_chain op_le op_le os_le os_le ha hb hc hm
theorem vt_lelt (ha : VE X a ta ma) (hb : VE X b tb mb) (hc : VE X c tc mc) (hm : lastMarks [.LtE, .Lt] [b, c] = false := by with_unfolding_all rfl) :
    VT X (.Compare a [.LtE, .Lt] [b, c] pos) (tTest (tChain (rI0 fun i j => .bl (decide (i ≤ j))) (rI0 fun i j => .bl (decide (i < j))) ta tb tc)) (vChain oLe oLt ma mb mc) :=
  vt_chain op_le op_lt os_le os_lt ha hb hc hm

/-! ### and, or, not as values of truth; the conditional expression -/
def vTD (m : Vm) (Q : D → Prop) (k : Bool → Prop) : Prop := True
def vAndV (ma mb : Vm) : Vm := fun Γ Q => ma Γ fun d => match d with
  | .bl true => mb Γ Q
  | .bl false => Q (.bl false)
  | _ => False
def vOrV (ma mb : Vm) : Vm := fun Γ Q => ma Γ fun d => match d with
  | .bl true => Q (.bl true)
  | .bl false => mb Γ Q
  | _ => False
def vNotV (ma : Vm) : Vm := fun Γ Q => ma Γ fun d => match d with
  | .bl k => Q (.bl (!k))
  | _ => False
theorem v_one {op} (h : VE X a t m) : VE X (.BoolOp op [a] pos) t m := ⟨pe_one h.pe, h.sim⟩
theorem v_and (ha : VE X a ta ma) (hb : VE X (.BoolOp .And (b :: rest) pos) tb mb) : VE X (.BoolOp .And (a :: b :: rest) pos) (tAndV ta tb) (vAndV ma mb) :=
  ⟨pe_and ha.pe hb.pe, fun {dA F0 H0 F H σ Γ Q Qk} R q f => ha.sim R q fun F1 H1 d v e1 k1 r1 q1 => by
    cases d <;> first | exact False.elim q1 | skip
    rename_i k
    refine ⟨k, r1, ?_⟩
    cases k with
    | true => exact hb.sim (R.step e1 k1) q1 (f.at e1)
    | false => exact f F1 H1 (.bl false) _ e1 k1 rfl q1⟩
theorem v_or (ha : VE X a ta ma) (hb : VE X (.BoolOp .Or (b :: rest) pos) tb mb) : VE X (.BoolOp .Or (a :: b :: rest) pos) (tOrV ta tb) (vOrV ma mb) :=
  ⟨pe_or ha.pe hb.pe, fun {dA F0 H0 F H σ Γ Q Qk} R q f => ha.sim R q fun F1 H1 d v e1 k1 r1 q1 => by
    cases d <;> first | exact False.elim q1 | skip
    rename_i k
    refine ⟨k, r1, ?_⟩
    cases k with
    | false => exact hb.sim (R.step e1 k1) q1 (f.at e1)
    | true => exact f F1 H1 (.bl true) _ e1 k1 rfl q1⟩
theorem v_not (ha : VE X a ta ma) : VE X (.UnaryOp .Not a pos) (tNotV ta) (vNotV ma) :=
  ⟨pe_not ha.pe, fun {dA F0 H0 F H σ Γ Q Qk} R q f => ha.sim R q fun F1 H1 d v e1 k1 r1 q1 => by
    cases d <;> first | exact False.elim q1 | skip
    rename_i k
    exact ⟨k, r1, f F1 H1 (.bl (!k)) _ e1 k1 rfl q1⟩⟩
def vIf (mt : Vt) (ma mb : Vm) : Vm := fun Γ Q => mt Γ fun k => if k = true then ma Γ Q else mb Γ Q
theorem v_ifx (h : VT X c tt mt) (ha : VE X a ta ma) (hb : VE X b tb mb) : VE X (.IfExp c a b pos) (tIf tt ta tb) (vIf mt ma mb) :=
  ⟨pe_ifExp h.pt ha.pe hb.pe, fun {dA F0 H0 F H σ Γ Q Qk} R q f => h.sim R q fun F1 H1 k e1 k1 q1 => by
    cases k with
    | true =>
      have q1 : ma Γ Q := q1
      exact ha.sim (R.step e1 k1) q1 (f.at e1)
    | false =>
      have q1 : mb Γ Q := q1
      exact hb.sim (R.step e1 k1) q1 (f.at e1)⟩
/-- .. of two new lists -/
theorem vl_ifx {na nb : Va} (h : VT X c tt mt) (ha : VL X a ta na) (hb : VL X b tb nb) : VL X (.IfExp c a b pos) (tIf tt ta tb) (fun Γ Q => mt Γ fun k => if k = true then na Γ Q else nb Γ Q) :=
  ⟨pe_ifExp h.pt ha.pe hb.pe, fun {dA F0 H0 F H σ Γ Q Qk} R q f => h.sim R q fun F1 H1 k e1 k1 q1 => by
    cases k with
    | true =>
      have q1 : na Γ Q := q1
      exact ha.sim (R.step e1 k1) q1 (f.at e1)
    | false =>
      have q1 : nb Γ Q := q1
      exact hb.sim (R.step e1 k1) q1 (f.at e1)⟩

/-! ### calls of built-ins -/
def CSim (K : PySem.W.Frag) (n : Nat) (r : List V → Hp → VK → Prop) (c : List D → (D → Prop) → Prop) : Prop :=
  ∀ {dA F H ds vs Q Qk}, Ok K dA F H → RepL K dA F ds vs → ds.length = n → c ds Q → Fin K dA F H Q Qk → r vs H Qk
def LSim (K : PySem.W.Frag) (n : Nat) (r : List V → Hp → VK → Prop) (c : List D → (List D → Prop) → Prop) : Prop :=
  ∀ {dA F H ds vs Q Qk}, Ok K dA F H → RepL K dA F ds vs → ds.length = n → c ds Q → FinL K dA F H Q Qk → r vs H Qk
variable {x : Str} {p : Pos} {bid T : String} {r : List V → Hp → VK → Prop} {ta' : TA} {na : Va}
def vCall (c : List D → (D → Prop) → Prop) (na : Va) : Vm := fun Γ Q => na Γ fun ds => c ds Q
def vCallL (c : List D → (List D → Prop) → Prop) (na : Va) : Va := fun Γ Q => na Γ fun ds => c ds Q
theorem v_callB {c : List D → (D → Prop) → Prop} (hc : CallR X (.builtin bid) r) (sm : CSim X.K (e :: es).length r c) (hm : X.mg x = none) (ha : VA X (e :: es) ta' na) (hv : bootBuiltins x = some (.builtin bid) := by decide +kernel) (hg : Gl X x := by rfl) (hn : x ≠ "__name__" := by decide) (hdb : (x == ("__debug__" : Str)) = false := by decide)
    (he : starEach (e :: es) X.env = (false, eval e X.env) :: starEach es X.env := by rfl) (hpl : (backTo pos (starEach es X.env)).any (·.1) = false := by rfl) : VE X (.Call (.Name x p) (e :: es) [] pos) (tCB r ta') (vCall c na) :=
  ⟨pe_callB hc hg hm hv ha.pa hn hdb he hpl, fun {dA F0 H0 F H σ Γ Q Qk} R q f => ha.sim R q fun F1 H1 ds vs e1 k1 r1 hl q1 => sm k1 r1 hl q1 (f.at e1)⟩
theorem v_callTy {c : List D → (D → Prop) → Prop} (hc : CallR X (.type T) r) (sm : CSim X.K (e :: es).length r c) (hm : X.mg x = none) (ha : VA X (e :: es) ta' na) (hv : bootBuiltins x = some (.type T) := by decide +kernel) (hg : Gl X x := by rfl) (hn : x ≠ "__name__" := by decide) (hdb : (x == ("__debug__" : Str)) = false := by decide)
    (he : starEach (e :: es) X.env = (false, eval e X.env) :: starEach es X.env := by rfl) (hpl : (backTo pos (starEach es X.env)).any (·.1) = false := by rfl) : VE X (.Call (.Name x p) (e :: es) [] pos) (tCB r ta') (vCall c na) :=
  ⟨pe_callTy hc hg hm hv ha.pa hn hdb he hpl, fun {dA F0 H0 F H σ Γ Q Qk} R q f => ha.sim R q fun F1 H1 ds vs e1 k1 r1 hl q1 => sm k1 r1 hl q1 (f.at e1)⟩
theorem vl_callB {c : List D → (List D → Prop) → Prop} (hc : CallR X (.builtin bid) r) (sm : LSim X.K (e :: es).length r c) (hm : X.mg x = none) (ha : VA X (e :: es) ta' na) (hv : bootBuiltins x = some (.builtin bid) := by decide +kernel) (hg : Gl X x := by rfl) (hn : x ≠ "__name__" := by decide) (hdb : (x == ("__debug__" : Str)) = false := by decide)
    (he : starEach (e :: es) X.env = (false, eval e X.env) :: starEach es X.env := by rfl) (hpl : (backTo pos (starEach es X.env)).any (·.1) = false := by rfl) : VL X (.Call (.Name x p) (e :: es) [] pos) (tCB r ta') (vCallL c na) :=
  ⟨pe_callB hc hg hm hv ha.pa hn hdb he hpl, fun {dA F0 H0 F H σ Γ Q Qk} R q f => ha.sim R q fun F1 H1 ds vs e1 k1 r1 hl q1 => sm k1 r1 hl q1 (f.at e1)⟩
theorem vl_callTy {c : List D → (List D → Prop) → Prop} (hc : CallR X (.type T) r) (sm : LSim X.K (e :: es).length r c) (hm : X.mg x = none) (ha : VA X (e :: es) ta' na) (hv : bootBuiltins x = some (.type T) := by decide +kernel) (hg : Gl X x := by rfl) (hn : x ≠ "__name__" := by decide) (hdb : (x == ("__debug__" : Str)) = false := by decide)
    (he : starEach (e :: es) X.env = (false, eval e X.env) :: starEach es X.env := by rfl) (hpl : (backTo pos (starEach es X.env)).any (·.1) = false := by rfl) : VL X (.Call (.Name x p) (e :: es) [] pos) (tCB r ta') (vCallL c na) :=
  ⟨pe_callTy hc hg hm hv ha.pa hn hdb he hpl, fun {dA F0 H0 F H σ Γ Q Qk} R q f => ha.sim R q fun F1 H1 ds vs e1 k1 r1 hl q1 => sm k1 r1 hl q1 (f.at e1)⟩
theorem rep1 {K : PySem.W.Frag} {dA : Option Addr} {F : Hp} {d : D} {vs : List V} (r : RepL K dA F [d] vs) : ∃ v, vs = [v] ∧ Rep K dA F d v := by
  obtain ⟨v, r', rfl, h, h2⟩ := r
  cases h2
  exact ⟨v, rfl, h⟩
theorem rep2 {K : PySem.W.Frag} {dA : Option Addr} {F : Hp} {d d' : D} {vs : List V} (r : RepL K dA F [d, d'] vs) : ∃ v v', vs = [v, v'] ∧ Rep K dA F d v ∧ Rep K dA F d' v' := by
  obtain ⟨v, r', rfl, h, h2⟩ := r
  obtain ⟨v', rfl, h3⟩ := rep1 h2
  exact ⟨v, v', rfl, h, h3⟩
/-- len -/
def cLen : List D → (D → Prop) → Prop := fun ds Q => match ds with
  | [.lst xs] => Q (.int xs.length)
  | [.tup xs] => Q (.int xs.length)
  | _ => False
theorem cs_len {K : PySem.W.Frag} {n : Nat} : CSim K n (fun xs H Q => ∃ p ys, xs = [.ref p] ∧ (SqL K H p ys ∨ SqT K H p ys) ∧ Q (.int ys.length) H) cLen := fun {dA F H ds vs Q Qk} k r hl q f => by
  unfold cLen at q
  split at q
  · rename_i xs
    obtain ⟨v, rfl, a, ws, rfl, hs, hr⟩ := rep1 r
    exact ⟨a, ws, rfl, .inl (sqL_mono k.sub hs), f F H (.int xs.length) _ Ext.refl k (by rw [hr.length]; rfl) q⟩
  · rename_i xs
    obtain ⟨v, rfl, a, ws, rfl, hs, hr⟩ := rep1 r
    exact ⟨a, ws, rfl, .inr (sqT_of k.sub hs), f F H (.int xs.length) _ Ext.refl k (by rw [hr.length]; rfl) q⟩
  · exact q.elim
theorem v_len (hm : X.mg "len" = none) (ha : VE X a ta ma) (hg : Gl X "len" := by rfl) (hs : starEach (a :: []) X.env = (false, eval a X.env) :: starEach [] X.env := by rfl) : VE X (.Call (.Name "len" p) [a] [] pos) (tCB (fun xs H Q => ∃ p ys, xs = [.ref p] ∧ (SqL X.K H p ys ∨ SqT X.K H p ys) ∧ Q (.int ys.length) H) (tCons ta tNil)) (vCall cLen (vCons ma vNil)) :=
  v_callB call_len_seq cs_len hm (va_cons ha va_nil hs) PySem.boot_len hg (by decide) (by decide) hs rfl
/-- len of an own list -/
def vLenO (i : Nat) : Vm := fun Γ Q => match Γ[i]? with
  | some (.ow xs) => Q (.int xs.length)
  | _ => False
theorem v_lenO (i : Nat) {y : Str} {p2 : Pos} (hm : X.mg "len" = none) (hg : Gl X "len" := by rfl) (hN : X.N[i]? = some y := by rfl) (hv : Vis X.env.scope y := by first | exact Or.inl rfl | exact Or.inr (Or.inl rfl) | exact Or.inr (Or.inr rfl)) (hd : (y == ("__debug__" : Str)) = false := by decide)
    (hcd : (y == ("__classdict__" : Str)) = false := by decide) (hs : starEach ((Expr.Name y p2) :: []) X.env = (false, eval (Expr.Name y p2) X.env) :: starEach [] X.env := by rfl) :
    VE X (.Call (.Name "len" p) [.Name y p2] [] pos) (tCB (fun xs H Q => ∃ p ys, xs = [.ref p] ∧ (SqL X.K H p ys ∨ SqT X.K H p ys) ∧ Q (.int ys.length) H) (tCons (tVar i) tNil)) (vLenO i) :=
  ⟨pe_callB call_len_seq hg hm PySem.boot_len (pa_cons (pe_var hN hv hd hcd) pa_nil hs) (by decide) (by decide) hs rfl, fun {dA F0 H0 F H σ Γ Q Qk} R q f => by
    unfold vLenO at q
    split at q
    · rename_i xs h
      obtain ⟨a, vs, h1, h2, h3, h4, _⟩ := R.getOw h
      exact ⟨_, h1, a, vs, rfl, .inl (SqL.of h2), f F H (.int xs.length) _ Ext.refl R.ok (by rw [h3.length]; rfl) q⟩
    · exact q.elim⟩
/-- int(n), int(flag) -/
def cInt : List D → (D → Prop) → Prop := fun ds Q => match ds with
  | [.int i] => Q (.int i)
  | [.bl b] => Q (.int (if b then 1 else 0))
  | _ => False
theorem v_intof (hm : X.mg "int" = none) (ha : VE X a ta ma) (hg : Gl X "int" := by rfl) (hs : starEach (a :: []) X.env = (false, eval a X.env) :: starEach [] X.env := by rfl) : VE X (.Call (.Name "int" p) [a] [] pos) (tCB (fun xs H Q => (∃ i, xs = [.int i] ∧ Q (.int i) H) ∨ ∃ k, xs = [.bl k] ∧ Q (.int (if k then 1 else 0)) H) (tCons ta tNil)) (vCall cInt (vCons ma vNil)) :=
  v_callTy call_int1 (fun {dA F H ds vs Q Qk} k r hl q f => by
    unfold cInt at q
    split at q
    · rename_i i
      obtain ⟨v, rfl, h⟩ := rep1 r
      exact .inl ⟨i, by rw [show v = .int i from h], f F H (.int i) _ Ext.refl k rfl q⟩
    · rename_i i
      obtain ⟨v, rfl, h⟩ := rep1 r
      exact .inr ⟨i, by rw [show v = .bl i from h], f F H (.int (if i then 1 else 0)) _ Ext.refl k rfl q⟩
    · exact q.elim) hm (va_cons ha va_nil hs) (by decide +kernel) hg (by decide) (by decide) hs rfl
/-- min(m, n) -/
def cMin : List D → (D → Prop) → Prop := fun ds Q => match ds with
  | [.int i, .int j] => Q (.int (min i j))
  | _ => False
theorem min_if (i j : Int) : (if j < i then j else i) = min i j := by
  by_cases h : j < i
  · rw [if_pos h]
    omega
  · rw [if_neg h]
    omega
theorem cs_min {K : PySem.W.Frag} {n : Nat} : CSim K n (fun xs H Q => ∃ i j, xs = [.int i, .int j] ∧ Q (.int (if j < i then j else i)) H) cMin := fun {dA F H ds vs Q Qk} k r hl q f => by
  unfold cMin at q
  split at q
  · rename_i i j
    obtain ⟨v, w, rfl, h, h'⟩ := rep2 r
    exact ⟨i, j, by rw [show v = .int i from h, show w = .int j from h'], f F H (.int (min i j)) _ Ext.refl k (by rw [min_if]; rfl) q⟩
  · exact q.elim
/-- gcd(m, n) -/
def cGcd : List D → (D → Prop) → Prop := fun ds Q => match ds with
  | [.int i, .int j] => Q (.int ((Nat.gcd i.natAbs j.natAbs : Nat) : Int))
  | _ => False
theorem v_gcd {na : Va} {ta' : TA} (hm : X.mg "gcd" = some (.builtin "math.gcd")) (ha : VA X [a, b] ta' na) (hg : Gl X "gcd" := by rfl) (he : starEach [a, b] X.env = (false, eval a X.env) :: starEach [b] X.env := by rfl) (hpl : (backTo pos (starEach [b] X.env)).any (·.1) = false := by rfl) :
    VE X (.Call (.Name "gcd" p) [a, b] [] pos) (tCB rGcd ta') (vCall cGcd na) :=
  ⟨pe_callBfun cr_gcd hg hm ha.pa (by decide) he hpl, fun {dA F0 H0 F H σ Γ Q Qk} R q f => ha.sim R q fun F1 H1 ds vs e1 k1 r1 hl q1 => by
    unfold cGcd at q1
    split at q1
    · rename_i i j
      obtain ⟨v, w, rfl, h, h'⟩ := rep2 r1
      exact ⟨i, j, by rw [show v = .int i from h, show w = .int j from h'], f F1 H1 (.int ((Nat.gcd i.natAbs j.natAbs : Nat) : Int)) _ e1 k1 rfl q1⟩
    · exact q1.elim⟩
theorem RepL.bls {K : PySem.W.Frag} {dA : Option Addr} {F : Hp} : ∀ {ns : List Bool} {vs : List V}, RepL K dA F (ns.map D.bl) vs → vs = ns.map V.bl
  | [], _, h => h
  | n :: ns, _, h => by
    obtain ⟨v, r, rfl, h1, h2⟩ := h
    rw [RepL.bls h2, show v = .bl n from h1] <;> rfl
/-- sum, any, all of a list -/
def cSum : List D → (D → Prop) → Prop := fun ds Q => match ds with
  | [.lst xs] => ∃ ns : List Int, xs = ns.map D.int ∧ Q (.int ns.sum)
  | _ => False
def cAny : List D → (D → Prop) → Prop := fun ds Q => match ds with
  | [.lst xs] => ∃ ns : List Bool, xs = ns.map D.bl ∧ brn (true ∈ ns) fun b => Q (.bl b)
  | _ => False
def cAll : List D → (D → Prop) → Prop := fun ds Q => match ds with
  | [.lst xs] => ∃ ns : List Bool, xs = ns.map D.bl ∧ brn (¬ false ∈ ns) fun b => Q (.bl b)
  | _ => False
theorem any_mem (ns : List Bool) : ns.any id = true ↔ true ∈ ns := by
  rw [List.any_eq_true]
  exact ⟨fun ⟨x, h1, h2⟩ => by rw [show x = true from h2] at h1; exact h1, fun h => ⟨true, h, rfl⟩⟩
theorem all_mem (ns : List Bool) : ns.all id = true ↔ ¬ false ∈ ns := by
  rw [List.all_eq_true]
  refine ⟨fun h z => Bool.false_ne_true (h false z), fun h x hx => ?_⟩
  cases x with
  | true => rfl
  | false => exact absurd hx h
theorem cs_sum {K : PySem.W.Frag} {n : Nat} : CSim K n (rSum K) cSum := fun {dA F H ds vs Q Qk} k r hl q f => by
  unfold cSum at q
  split at q
  · rename_i xs
    obtain ⟨ns, e, q⟩ := q
    subst e
    obtain ⟨v, rfl, a, ws, rfl, hs, hr⟩ := rep1 r
    have e2 := RepL.ints hr
    subst e2
    exact ⟨a, ns, rfl, sqL_mono k.sub hs, f F H (.int ns.sum) _ Ext.refl k rfl q⟩
  · exact q.elim
theorem cs_any {K : PySem.W.Frag} {n : Nat} : CSim K n (rAny K) cAny := fun {dA F H ds vs Q Qk} k r hl q f => by
  unfold cAny at q
  split at q
  · rename_i xs
    obtain ⟨ns, e, q⟩ := q
    subst e
    obtain ⟨v, rfl, a, ws, rfl, hs, hr⟩ := rep1 r
    have e2 := RepL.bls hr
    subst e2
    exact ⟨a, ns, rfl, sqL_mono k.sub hs, f F H (.bl (ns.any id)) _ Ext.refl k rfl (brn_iff (Q := fun b => Q (.bl b)) q (any_mem ns))⟩
  · exact q.elim
theorem cs_all {K : PySem.W.Frag} {n : Nat} : CSim K n (rAll K) cAll := fun {dA F H ds vs Q Qk} k r hl q f => by
  unfold cAll at q
  split at q
  · rename_i xs
    obtain ⟨ns, e, q⟩ := q
    subst e
    obtain ⟨v, rfl, a, ws, rfl, hs, hr⟩ := rep1 r
    have e2 := RepL.bls hr
    subst e2
    exact ⟨a, ns, rfl, sqL_mono k.sub hs, f F H (.bl (ns.all id)) _ Ext.refl k rfl (brn_iff (Q := fun b => Q (.bl b)) q (all_mem ns))⟩
  · exact q.elim
/-- list(xs), tuple(xs) -/
def cList : List D → (List D → Prop) → Prop := fun ds Q => match ds with
  | [.lst xs] => Q xs
  | [.tup xs] => Q xs
  | _ => False
def cTuple : List D → (D → Prop) → Prop := fun ds Q => match ds with
  | [.lst xs] => Q (.tup xs)
  | [.tup xs] => Q (.tup xs)
  | _ => False
theorem ls_list {K : PySem.W.Frag} {n : Nat} : LSim K n (fun xs H Q => ∃ p ys, xs = [.ref p] ∧ (SqL K H p ys ∨ SqT K H p ys) ∧ ∀ l, H l = none → Q (.ref l) (upd H l (.lst ys))) cList := fun {dA F H ds vs Q Qk} k r hl q f => by
  have fin : ∀ xs ws, RepL K dA F xs ws → Q xs → ∀ l, H l = none → Qk (.ref l) (upd H l (.lst ws)) := fun xs ws hr q l hp => by
    obtain ⟨e2, k2⟩ := growOwn (o := .lst ws) k hp
    exact f F _ l xs ws e2 k2 hp (k.fnone hp) upd_same hr q
  unfold cList at q
  split at q
  · rename_i xs
    obtain ⟨v, rfl, a, ws, rfl, hs, hr⟩ := rep1 r
    exact ⟨a, ws, rfl, .inl (sqL_mono k.sub hs), fin xs ws hr q⟩
  · rename_i xs
    obtain ⟨v, rfl, a, ws, rfl, hs, hr⟩ := rep1 r
    exact ⟨a, ws, rfl, .inr (sqT_of k.sub hs), fin xs ws hr q⟩
  · exact q.elim
theorem cs_tuple {K : PySem.W.Frag} {n : Nat} : CSim K n (fun xs H Q => ∃ p ys, xs = [.ref p] ∧ ((SqL K H p ys ∧ ∀ l, H l = none → Q (.ref l) (upd H l (.tup ys))) ∨ (SqT K H p ys ∧ Q (.ref p) H))) cTuple := fun {dA F H ds vs Q Qk} k r hl q f => by
  unfold cTuple at q
  split at q
  · rename_i xs
    obtain ⟨v, rfl, a, ws, rfl, hs, hr⟩ := rep1 r
    refine ⟨a, ws, rfl, .inl ⟨sqL_mono k.sub hs, fun l hp => ?_⟩⟩
    obtain ⟨e2, k2⟩ := grow (o := .tup ws) k hp
    exact f _ _ (.tup xs) _ e2 k2 ⟨l, ws, rfl, upd_same, RepL.mono e2.ff _ _ hr⟩ q
  · rename_i xs
    obtain ⟨v, rfl, a, ws, rfl, hs, hr⟩ := rep1 r
    exact ⟨a, ws, rfl, .inr ⟨sqT_of k.sub hs, f F H (.tup xs) _ Ext.refl k ⟨a, ws, rfl, hs, hr⟩ q⟩⟩
  · exact q.elim
theorem v_tuple (hm : X.mg "tuple" = none) (ha : VE X a ta ma) (hg : Gl X "tuple" := by rfl) (hs : starEach (a :: []) X.env = (false, eval a X.env) :: starEach [] X.env := by rfl) :
    VE X (.Call (.Name "tuple" p) [a] [] pos) (tCB (fun xs H Q => ∃ p ys, xs = [.ref p] ∧ ((SqL X.K H p ys ∧ ∀ l, H l = none → Q (.ref l) (upd H l (.tup ys))) ∨ (SqT X.K H p ys ∧ Q (.ref p) H))) (tCons ta tNil)) (vCall cTuple (vCons ma vNil)) :=
  v_callTy call_tuple_of cs_tuple hm (va_cons ha va_nil hs) (by decide +kernel) hg (by decide) (by decide) hs rfl
theorem vl_list (hm : X.mg "list" = none) (ha : VE X a ta ma) (hg : Gl X "list" := by rfl) (hs : starEach (a :: []) X.env = (false, eval a X.env) :: starEach [] X.env := by rfl) :
    VL X (.Call (.Name "list" p) [a] [] pos) (tCB (fun xs H Q => ∃ p ys, xs = [.ref p] ∧ (SqL X.K H p ys ∨ SqT X.K H p ys) ∧ ∀ l, H l = none → Q (.ref l) (upd H l (.lst ys))) (tCons ta tNil)) (vCallL cList (vCons ma vNil)) :=
  vl_callTy call_list_of ls_list hm (va_cons ha va_nil hs) (by decide +kernel) hg (by decide) (by decide) hs rfl
theorem v_sum (hc : X.calm = true) (hm : X.mg "sum" = none) (ha : VE X a ta ma) (hg : Gl X "sum" := by rfl) (hs : starEach (a :: []) X.env = (false, eval a X.env) :: starEach [] X.env := by rfl) : VE X (.Call (.Name "sum" p) [a] [] pos) (tCB (rSum X.K) (tCons ta tNil)) (vCall cSum (vCons ma vNil)) :=
  v_callB (cr_sum hc) cs_sum hm (va_cons ha va_nil hs) (by decide +kernel) hg (by decide) (by decide) hs rfl
theorem v_any (hc : X.calm = true) (hm : X.mg "any" = none) (ha : VE X a ta ma) (hg : Gl X "any" := by rfl) (hs : starEach (a :: []) X.env = (false, eval a X.env) :: starEach [] X.env := by rfl) : VE X (.Call (.Name "any" p) [a] [] pos) (tCB (rAny X.K) (tCons ta tNil)) (vCall cAny (vCons ma vNil)) :=
  v_callB (cr_any hc) cs_any hm (va_cons ha va_nil hs) (by decide +kernel) hg (by decide) (by decide) hs rfl
theorem v_all (hc : X.calm = true) (hm : X.mg "all" = none) (ha : VE X a ta ma) (hg : Gl X "all" := by rfl) (hs : starEach (a :: []) X.env = (false, eval a X.env) :: starEach [] X.env := by rfl) : VE X (.Call (.Name "all" p) [a] [] pos) (tCB (rAll X.K) (tCons ta tNil)) (vCall cAll (vCons ma vNil)) :=
  v_callB (cr_all hc) cs_all hm (va_cons ha va_nil hs) (by decide +kernel) hg (by decide) (by decide) hs rfl
end
end LV
set_option Elab.async false
set_option linter.all false
set_option maxRecDepth 100000
set_option maxHeartbeats 4000000
/-! LV4: equality at any depth, in, index, isinstance; calls of the text's defs by contract. -/
namespace LV
open PySem PySem.Spec PyProof.Rows L2

/-! ### plain data of a depth: no truth values, no instances -/
def pl : Nat → D → Prop
  | _, .non => True
  | _, .int _ => True
  | _, .str x => PyData.strOk x = true
  | n + 1, .lst xs => ∀ x ∈ xs, pl n x
  | n + 1, .tup xs => ∀ x ∈ xs, pl n x
  | _, _ => False
mutual
def toP : D → PyData
  | .non => .none
  | .bl b => .bool b
  | .int i => .int i
  | .str x => .str x
  | .lst xs => .list (toPs xs)
  | .tup xs => .tuple (toPs xs)
  | .obj _ _ _ => .dict []
  | .tok => .dict []
  | .cst => .tuple [.int 0, .int 1]
def toPs : List D → List PyData
  | [] => []
  | x :: xs => toP x :: toPs xs
end
theorem toPs_eq (xs : List D) : toPs xs = xs.map toP := by
  induction xs with
  | nil => rfl
  | cons x xs ih => show toP x :: toPs xs = _; rw [ih] <;> rfl
theorem pl_lst {n : Nat} {xs : List D} (h : pl n (.lst xs)) : ∃ m, n = m + 1 ∧ ∀ x ∈ xs, pl m x := by
  cases n with
  | zero => exact False.elim h
  | succ m => exact ⟨m, rfl, h⟩
theorem pl_tup {n : Nat} {xs : List D} (h : pl n (.tup xs)) : ∃ m, n = m + 1 ∧ ∀ x ∈ xs, pl m x := by
  cases n with
  | zero => exact False.elim h
  | succ m => exact ⟨m, rfl, h⟩
theorem pl_mono : ∀ {n m : Nat} {d : D}, n ≤ m → pl n d → pl m d
  | n, m, .non, _, _ => by cases m <;> exact trivial
  | n, m, .int _, _, _ => by cases m <;> exact trivial
  | n, m, .str x, _, h => by
    cases n <;> cases m <;> exact h
  | n, m, .bl _, _, h => by cases n <;> exact False.elim h
  | n, m, .obj _ _ _, _, h => by cases n <;> exact False.elim h
  | n, m, .tok, _, h => by cases n <;> exact False.elim h
  | n, m, .cst, _, h => by cases n <;> exact False.elim h
  | n, m, .lst xs, hl, h => by
    obtain ⟨k, rfl, h⟩ := pl_lst h
    obtain ⟨j, rfl⟩ : ∃ j, m = j + 1 := ⟨m - 1, by omega⟩
    exact fun x hx => pl_mono (by omega) (h x hx)
  | n, m, .tup xs, hl, h => by
    obtain ⟨k, rfl, h⟩ := pl_tup h
    obtain ⟨j, rfl⟩ : ∃ j, m = j + 1 := ⟨m - 1, by omega⟩
    exact fun x hx => pl_mono (by omega) (h x hx)
theorem layAll {xs : List D} (h : ∀ x ∈ xs, (toP x).canLay0 = true) : PyData.canLayAll0 (toPs xs) = true := by
  induction xs with
  | nil => rfl
  | cons x xs ih =>
    show (PyData.canLay0 (toP x) && PyData.canLayAll0 (toPs xs)) = true
    rw [h x List.mem_cons_self, ih fun y hy => h y (List.mem_cons_of_mem _ hy)]
    rfl
theorem depAll {n : Nat} {xs : List D} (h : ∀ x ∈ xs, (toP x).depth ≤ n) : PyData.depthAll (toPs xs) ≤ n := by
  induction xs with
  | nil => exact Nat.zero_le _
  | cons x xs ih =>
    show max (PyData.depth (toP x)) (PyData.depthAll (toPs xs)) ≤ n
    have h1 := h x List.mem_cons_self
    have h2 := ih fun y hy => h y (List.mem_cons_of_mem _ hy)
    omega
theorem pl_lay : ∀ {n : Nat} {d : D}, pl n d → (toP d).canLay0 = true ∧ (toP d).depth ≤ n
  | n, .non, _ => ⟨rfl, Nat.zero_le _⟩
  | n, .int _, _ => ⟨rfl, Nat.zero_le _⟩
  | n, .str x, h => ⟨by cases n <;> exact h, Nat.zero_le _⟩
  | n, .bl _, h => by cases n <;> exact False.elim h
  | n, .obj _ _ _, h => by cases n <;> exact False.elim h
  | n, .tok, h => by cases n <;> exact False.elim h
  | n, .cst, h => by cases n <;> exact False.elim h
  | n, .lst xs, h => by
    obtain ⟨k, rfl, h⟩ := pl_lst h
    exact ⟨layAll fun x hx => (pl_lay (h x hx)).1, Nat.succ_le_succ (depAll fun x hx => (pl_lay (h x hx)).2)⟩
  | n, .tup xs, h => by
    obtain ⟨k, rfl, h⟩ := pl_tup h
    exact ⟨layAll fun x hx => (pl_lay (h x hx)).1, Nat.succ_le_succ (depAll fun x hx => (pl_lay (h x hx)).2)⟩
theorem pl_shaped {d : D} (h : pl 40 d) : SeqAt.shaped (toP d) = true := by
  obtain ⟨h1, h2⟩ := pl_lay h
  show ((toP d).canLay0 && decide ((toP d).depth ≤ 64)) = true
  rw [h1, Bool.true_and]
  exact decide_eq_true (by omega)
theorem eqv_all {n : Nat} (ih : ∀ d e : D, pl n d → pl n e → (PyData.eqv (toP d) (toP e) = true ↔ d = e)) : ∀ {xs ys : List D}, (∀ x ∈ xs, pl n x) → (∀ y ∈ ys, pl n y) → (PyData.eqvAll (toPs xs) (toPs ys) = true ↔ xs = ys)
  | [], [], _, _ => ⟨fun _ => rfl, fun _ => rfl⟩
  | [], _ :: _, _, _ => ⟨fun h => (by cases h), fun h => (by cases h)⟩
  | _ :: _, [], _, _ => ⟨fun h => (by cases h), fun h => (by cases h)⟩
  | x :: xs, y :: ys, hx, hy => by
    have a := ih x y (hx x List.mem_cons_self) (hy y List.mem_cons_self)
    have b := eqv_all ih (xs := xs) (ys := ys) (fun z hz => hx z (List.mem_cons_of_mem _ hz)) fun z hz => hy z (List.mem_cons_of_mem _ hz)
    show (PyData.eqv (toP x) (toP y) && PyData.eqvAll (toPs xs) (toPs ys)) = true ↔ _
    rw [Bool.and_eq_true, a, b, List.cons.injEq]
theorem pl_eqv : ∀ (n : Nat) (d e : D), pl n d → pl n e → (PyData.eqv (toP d) (toP e) = true ↔ d = e)
  | n, d, e, hd, he => by
    cases d with
    | bl _ => cases n <;> exact False.elim hd
    | obj _ _ _ => cases n <;> exact False.elim hd
    | tok => cases n <;> exact False.elim hd
    | cst => cases n <;> exact False.elim hd
    | non =>
      cases e with
      | non => exact ⟨fun _ => rfl, fun _ => rfl⟩
      | bl _ => cases n <;> exact False.elim he
      | obj _ _ _ => cases n <;> exact False.elim he
      | tok => cases n <;> exact False.elim he
      | cst => cases n <;> exact False.elim he
      | _ => exact ⟨fun h => (by simp [toP, PyData.eqv] at h), fun h => (by cases h)⟩
    | int i =>
      cases e with
      | int j =>
        show (i == j) = true ↔ _
        rw [beq_iff_eq, D.int.injEq]
      | bl _ => cases n <;> exact False.elim he
      | obj _ _ _ => cases n <;> exact False.elim he
      | tok => cases n <;> exact False.elim he
      | cst => cases n <;> exact False.elim he
      | _ => exact ⟨fun h => (by simp [toP, PyData.eqv] at h), fun h => (by cases h)⟩
    | str i =>
      cases e with
      | str j =>
        show (i == j) = true ↔ _
        rw [beq_iff_eq, D.str.injEq]
      | bl _ => cases n <;> exact False.elim he
      | obj _ _ _ => cases n <;> exact False.elim he
      | tok => cases n <;> exact False.elim he
      | cst => cases n <;> exact False.elim he
      | _ => exact ⟨fun h => (by simp [toP, PyData.eqv] at h), fun h => (by cases h)⟩
    | lst xs =>
      obtain ⟨m, rfl, hd⟩ := pl_lst hd
      cases e with
      | lst ys =>
        show PyData.eqvAll (toPs xs) (toPs ys) = true ↔ _
        rw [eqv_all (fun d e => pl_eqv m d e) hd he, D.lst.injEq]
      | bl _ => exact False.elim he
      | obj _ _ _ => exact False.elim he
      | tok => exact False.elim he
      | cst => exact False.elim he
      | _ => exact ⟨fun h => (by simp [toP, PyData.eqv] at h), fun h => (by cases h)⟩
    | tup xs =>
      obtain ⟨m, rfl, hd⟩ := pl_tup hd
      cases e with
      | tup ys =>
        show PyData.eqvAll (toPs xs) (toPs ys) = true ↔ _
        rw [eqv_all (fun d e => pl_eqv m d e) hd he, D.tup.injEq]
      | bl _ => exact False.elim he
      | obj _ _ _ => exact False.elim he
      | tok => exact False.elim he
      | cst => exact False.elim he
      | _ => exact ⟨fun h => (by simp [toP, PyData.eqv] at h), fun h => (by cases h)⟩
section
variable {K : PySem.W.Frag} {dA : Option Addr} {F H : Hp}
theorem dpAll_of {xs : List D} (ih : ∀ x ∈ xs, ∀ v, Rep K dA F x v → Dp K H v (toP x)) : ∀ {vs : List V}, RepL K dA F xs vs → DpAll K H vs (toPs xs) := by
  induction xs with
  | nil =>
    intro vs h
    cases h
    exact .nil
  | cons x xs ih2 =>
    intro vs h
    obtain ⟨v, r, rfl, h1, h2⟩ := h
    exact .cons (ih x List.mem_cons_self v h1) (ih2 (fun y hy => ih y (List.mem_cons_of_mem _ hy)) h2)
theorem dp_of (s : Same F H) : ∀ {n : Nat} {d : D} {v : V}, pl n d → Rep K dA F d v → Dp K H v (toP d)
  | n, .non, v, _, h => by cases h; exact .non
  | n, .int _, v, _, h => by cases h; exact .int _
  | n, .str x, v, _, h => by cases h; exact .str _
  | n, .bl _, v, h, _ => by cases n <;> exact False.elim h
  | n, .obj _ _ _, v, h, _ => by cases n <;> exact False.elim h
  | n, .tok, v, h, _ => by cases n <;> exact False.elim h
  | n, .cst, v, h, _ => by cases n <;> exact False.elim h
  | n, .lst xs, v, h, r => by
    obtain ⟨k, rfl, h⟩ := pl_lst h
    obtain ⟨a, vs, rfl, hs, hr⟩ := r
    exact .lst (sqL_mono s hs) (dpAll_of (fun x hx v hv => dp_of s (h x hx) hv) hr)
  | n, .tup xs, v, h, r => by
    obtain ⟨k, rfl, h⟩ := pl_tup h
    obtain ⟨a, vs, rfl, hs, hr⟩ := r
    exact .tup (sqT_of s hs) (dpAll_of (fun x hx v hv => dp_of s (h x hx) hv) hr)
end

section
variable {X : Cx} {e a b c : Expr} {es : List Expr} {t ta tb tc : TE} {m ma mb mc : Vm} {pos p : Pos}
/-! ### == and != -/
def oEq : D → D → (D → Prop) → Prop := fun x y Q => pl 40 x ∧ pl 40 y ∧ brn (x = y) fun b => Q (.bl b)
def oNe : D → D → (D → Prop) → Prop := fun x y Q => pl 40 x ∧ pl 40 y ∧ brn (¬ x = y) fun b => Q (.bl b)
theorem os_eq {K : PySem.W.Frag} : OSim K (rEqD K) oEq := fun {dA F H dx dy x y Q Qk} k rx ry q f => by
  obtain ⟨h1, h2, q⟩ := q
  exact ⟨toP dx, toP dy, dp_of k.sub h1 rx, dp_of k.sub h2 ry, pl_shaped h1, pl_shaped h2, f F H (.bl (PyData.eqv (toP dx) (toP dy))) _ Ext.refl k rfl (brn_iff (Q := fun b => Q (.bl b)) q (pl_eqv 40 dx dy h1 h2))⟩
theorem os_ne {K : PySem.W.Frag} : OSim K (rNeD K) oNe := fun {dA F H dx dy x y Q Qk} k rx ry q f => by
  obtain ⟨h1, h2, q⟩ := q
  exact ⟨toP dx, toP dy, dp_of k.sub h1 rx, dp_of k.sub h2 ry, pl_shaped h1, pl_shaped h2, f F H (.bl (!PyData.eqv (toP dx) (toP dy))) _ Ext.refl k rfl (brn_not (Q := fun b => Q (.bl b)) q (pl_eqv 40 dx dy h1 h2))⟩
theorem v_eq {n : Nat} (hr : Room n X.A) (ha : VE X a ta ma) (hb : VE X b tb mb) : VCp X (.Compare a [.Eq] [b] pos) (tOp (rEqD X.K) ta tb) (vOp oEq ma mb) := v_cmp (op_eqD hr.units) os_eq ha hb
theorem v_ne {n : Nat} (hr : Room n X.A) (ha : VE X a ta ma) (hb : VE X b tb mb) : VCp X (.Compare a [.NotEq] [b] pos) (tOp (rNeD X.K) ta tb) (vOp oNe ma mb) := v_cmp (op_neD hr.units) os_ne ha hb
/-- x != (0, 1), the module's -/
def oNeN : D → (D → Prop) → Prop := fun x Q => match x with
  | .cst => Q (.bl false)
  | .tup xs => pl 40 (.tup xs) ∧ brn (¬ D.tup xs = .tup [.int 0, .int 1]) fun b => Q (.bl b)
  | _ => False
theorem v_neN {n : Nat} (hr : Room n X.A) {x : Str} {g : Addr} {q : Pos} (ha : VE X a ta ma) (hm : X.mg x = some (.ref g)) (ht : ∀ H, SqT X.K H g [.int 0, .int 1]) (hg : Gl X x := by rfl) (hd : (x == ("__debug__" : Str)) = false := by decide) :
    VCp X (.Compare a [.NotEq] [.Name x q] pos) (tOp (rNeD X.K) ta (tC (.ref g))) (fun Γ Q => ma Γ fun d => oNeN d Q) :=
  ⟨pe_cmpR (op_neD hr.units) ha.pe (pe_glob hg hm rfl hd) (nomark _), pt_cmpR (op_neD hr.units) ha.pe (pe_glob hg hm rfl hd) (nomark _), fun {dA F0 H0 F H σ Γ Q Qk} R q f => ha.sim R q fun F1 H1 dx x e1 k1 r1 q1 => by
    have dn : Dp X.K H1 (.ref g) (.tuple [.int 0, .int 1]) := .tup (ht H1) (.cons (.int _) (.cons (.int _) .nil))
    unfold oNeN at q1
    split at q1
    · obtain ⟨a, rfl, hs⟩ := r1
      exact ⟨.tuple [.int 0, .int 1], .tuple [.int 0, .int 1], .tup (hs H1) (.cons (.int _) (.cons (.int _) .nil)), dn, rfl, rfl, f F1 H1 (.bl false) _ e1 k1 rfl q1⟩
    · rename_i xs
      obtain ⟨h1, q1⟩ := q1
      have h2 : pl 40 (.tup [.int 0, .int 1]) := fun x hx => by
        rcases List.mem_cons.mp hx with rfl | hx
        · trivial
        · rcases List.mem_cons.mp hx with rfl | hx
          · trivial
          · exact absurd hx (List.not_mem_nil)
      exact ⟨toP (.tup xs), toP (.tup [.int 0, .int 1]), dp_of k1.sub h1 r1, dn, pl_shaped h1, pl_shaped h2, f F1 H1 (.bl (!PyData.eqv (toP (.tup xs)) (toP (.tup [.int 0, .int 1])))) _ e1 k1 rfl (brn_not (Q := fun b => Q (.bl b)) q1 (pl_eqv 40 _ _ h1 h2))⟩
    · exact q1.elim⟩
/-- of two whole numbers -/
def oEqI : D → D → (D → Prop) → Prop := fun x y Q => match x, y with
  | .int i, .int j => brn (i = j) fun b => Q (.bl b)
  | _, _ => False
def oNeI : D → D → (D → Prop) → Prop := fun x y Q => match x, y with
  | .int i, .int j => brn (¬ i = j) fun b => Q (.bl b)
  | _, _ => False
theorem dec_int (i j : Int) : decide (V.int i = V.int j) = decide (i = j) := by
  by_cases h : i = j
  · rw [h, decide_eq_true rfl, decide_eq_true rfl]
  · rw [decide_eq_false h, decide_eq_false fun z => h (V.int.inj z)]
theorem v_eqI (ha : VE X a ta ma) (hb : VE X b tb mb) : VCp X (.Compare a [.Eq] [b] pos) (tOp rEq ta tb) (vOp oEqI ma mb) := v_cmp op_eq (fun {dA F H dx dy x y Q Qk} k rx ry q f => by
  cases dx <;> cases dy <;> first | exact False.elim q | skip
  rename_i i j
  cases rx
  cases ry
  exact ⟨rfl, f F H (.bl (decide (i = j))) _ Ext.refl k (by rw [dec_int]; rfl) (brn_dec (Q := fun b => Q (.bl b)) q)⟩) ha hb
theorem v_neI (ha : VE X a ta ma) (hb : VE X b tb mb) : VCp X (.Compare a [.NotEq] [b] pos) (tOp rNe ta tb) (vOp oNeI ma mb) := v_cmp op_ne (fun {dA F H dx dy x y Q Qk} k rx ry q f => by
  cases dx <;> cases dy <;> first | exact False.elim q | skip
  rename_i i j
  cases rx
  cases ry
  exact ⟨rfl, f F H (.bl (!decide (i = j))) _ Ext.refl k (by rw [dec_int]; rfl) (brn_not (P := i = j) (Q := fun b => Q (.bl b)) q (by simp))⟩) ha hb
/-- an own list against a written or computed one -/
def vEqO (i : Nat) (g : Bool → Bool) (mb : Vm) : Vm := fun Γ Q => match Γ[i]? with
  | some (.ow xs) => mb Γ fun y => pl 40 (.lst xs) ∧ pl 40 y ∧ brn (D.lst xs = y) fun b => Q (.bl (g b))
  | _ => False
theorem dp_own {K : PySem.W.Frag} {dA : Option Addr} {F H : Hp} {a : Addr} {xs : List D} {vs : List V} (s : Same F H) (ha : H a = some (.lst vs)) (r : RepL K dA F xs vs) (h : pl 40 (.lst xs)) : Dp K H (.ref a) (toP (.lst xs)) := by
  obtain ⟨k, _, h⟩ := pl_lst h
  exact .lst (SqL.of ha) (dpAll_of (fun x hx v hv => dp_of s (h x hx) hv) r)
theorem v_eqO (i : Nat) {x : Str} {q : Pos} {n : Nat} (hr : Room n X.A) (hb : VE X b tb mb) (hN : X.N[i]? = some x := by rfl) (hv : Vis X.env.scope x := by first | exact Or.inl rfl | exact Or.inr (Or.inl rfl) | exact Or.inr (Or.inr rfl)) (hd : (x == ("__debug__" : Str)) = false := by decide)
    (hcd : (x == ("__classdict__" : Str)) = false := by decide) : VCp X (.Compare (.Name x q) [.Eq] [b] pos) (tOp (rEqD X.K) (tVar i) tb) (vEqO i (fun b => b) mb) :=
  ⟨pe_cmpR (op_eqD hr.units) (pe_var hN hv hd hcd) hb.pe (nomark _), pt_cmpR (op_eqD hr.units) (pe_var hN hv hd hcd) hb.pe (nomark _), fun {dA F0 H0 F H σ Γ Q Qk} R q f => by
    unfold vEqO at q
    split at q
    · rename_i xs h
      obtain ⟨a, vs, h1, h2, h3, h4, _⟩ := R.getOw h
      refine ⟨.ref a, h1, hb.sim R q fun F1 H1 dy y e1 k1 r1 ⟨g1, g2, q1⟩ => ?_⟩
      exact ⟨toP (.lst xs), toP dy, dp_own k1.sub (e1.keep _ _ h2 h4) (RepL.mono e1.ff _ _ h3) g1, dp_of k1.sub g2 r1, pl_shaped g1, pl_shaped g2, f F1 H1 (.bl (PyData.eqv (toP (.lst xs)) (toP dy))) _ e1 k1 rfl (brn_iff (Q := fun b => Q (.bl b)) q1 (pl_eqv 40 _ dy g1 g2))⟩
    · exact q.elim⟩
theorem v_neO (i : Nat) {x : Str} {q : Pos} {n : Nat} (hr : Room n X.A) (hb : VE X b tb mb) (hN : X.N[i]? = some x := by rfl) (hv : Vis X.env.scope x := by first | exact Or.inl rfl | exact Or.inr (Or.inl rfl) | exact Or.inr (Or.inr rfl)) (hd : (x == ("__debug__" : Str)) = false := by decide)
    (hcd : (x == ("__classdict__" : Str)) = false := by decide) : VCp X (.Compare (.Name x q) [.NotEq] [b] pos) (tOp (rNeD X.K) (tVar i) tb) (vEqO i (fun b => !b) mb) :=
  ⟨pe_cmpR (op_neD hr.units) (pe_var hN hv hd hcd) hb.pe (nomark _), pt_cmpR (op_neD hr.units) (pe_var hN hv hd hcd) hb.pe (nomark _), fun {dA F0 H0 F H σ Γ Q Qk} R q f => by
    unfold vEqO at q
    split at q
    · rename_i xs h
      obtain ⟨a, vs, h1, h2, h3, h4, _⟩ := R.getOw h
      refine ⟨.ref a, h1, hb.sim R q fun F1 H1 dy y e1 k1 r1 ⟨g1, g2, q1⟩ => ?_⟩
      exact ⟨toP (.lst xs), toP dy, dp_own k1.sub (e1.keep _ _ h2 h4) (RepL.mono e1.ff _ _ h3) g1, dp_of k1.sub g2 r1, pl_shaped g1, pl_shaped g2, f F1 H1 (.bl (!PyData.eqv (toP (.lst xs)) (toP dy))) _ e1 k1 rfl (brn_iff (Q := fun b => Q (.bl (!b))) q1 (pl_eqv 40 _ dy g1 g2))⟩
    · exact q.elim⟩

/-! ### x in xs: a list -/
theorem any_eqv {n : Nat} {d : D} (hd : pl n d) : ∀ {xs : List D}, (∀ x ∈ xs, pl n x) → ((toPs xs).any (fun z => PyData.eqv z (toP d)) = true ↔ d ∈ xs)
  | [], _ => ⟨fun h => (by cases h), fun h => (by cases h)⟩
  | x :: xs, h => by
    show (PyData.eqv (toP x) (toP d) || (toPs xs).any (fun z => PyData.eqv z (toP d))) = true ↔ _
    rw [Bool.or_eq_true, pl_eqv n x d (h x List.mem_cons_self) hd, any_eqv hd fun y hy => h y (List.mem_cons_of_mem _ hy), List.mem_cons]
    exact or_congr ⟨fun e => e.symm, fun e => e.symm⟩ Iff.rfl
theorem pl_lst39 {xs : List D} (h : pl 40 (.lst xs)) : ∀ x ∈ xs, pl 40 x := fun x hx => pl_mono (by omega : 39 ≤ 40) (h x hx)
def oIn (g : Bool → Bool) : D → D → (D → Prop) → Prop := fun x y Q => match y with
  | .lst xs => pl 40 x ∧ pl 40 (.lst xs) ∧ brn (x ∈ xs) fun b => Q (.bl (g b))
  | _ => False
theorem room65 {n : Nat} (hr : Room n X.A) : X.A.units + 65 < cLine := by have := hr.un; omega
theorem v_in {n : Nat} (hr : Room n X.A) (ha : VE X a ta ma) (hb : VE X b tb mb) (hm : behindInMarks .In b = false := by rfl) : VCp X (.Compare a [.In] [b] pos) (tOp (rInD X.K) ta tb) (vOp (oIn fun b => b) ma mb) :=
  v_cmp (op_inD (room65 hr)) (fun {dA F H dx dy x y Q Qk} k rx ry q f => by
    unfold oIn at q
    split at q
    · rename_i xs
      obtain ⟨h1, h2, q⟩ := q
      exact ⟨toP dx, toPs xs, dp_of k.sub h1 rx, dp_of k.sub h2 ry, pl_shaped h1, pl_shaped h2, f F H (.bl ((toPs xs).any (fun z => PyData.eqv z (toP dx)))) _ Ext.refl k rfl (brn_iff (Q := fun b => Q (.bl b)) q (any_eqv h1 (pl_lst39 h2)))⟩
    · exact q.elim) ha hb hm
theorem v_notin {n : Nat} (hr : Room n X.A) (ha : VE X a ta ma) (hb : VE X b tb mb) (hm : behindInMarks .NotIn b = false := by rfl) : VCp X (.Compare a [.NotIn] [b] pos) (tOp (rNotInD X.K) ta tb) (vOp (oIn fun b => !b) ma mb) :=
  v_cmp (op_notInD (room65 hr)) (fun {dA F H dx dy x y Q Qk} k rx ry q f => by
    unfold oIn at q
    split at q
    · rename_i xs
      obtain ⟨h1, h2, q⟩ := q
      exact ⟨toP dx, toPs xs, dp_of k.sub h1 rx, dp_of k.sub h2 ry, pl_shaped h1, pl_shaped h2, f F H (.bl (!(toPs xs).any (fun z => PyData.eqv z (toP dx)))) _ Ext.refl k rfl (brn_iff (Q := fun b => Q (.bl (!b))) q (any_eqv h1 (pl_lst39 h2)))⟩
    · exact q.elim) ha hb hm
/-- in an own list -/
def vInO (i : Nat) (g : Bool → Bool) (ma : Vm) : Vm := fun Γ Q => match Γ[i]? with
  | some (.ow xs) => ma Γ fun x => pl 40 x ∧ pl 40 (.lst xs) ∧ brn (x ∈ xs) fun b => Q (.bl (g b))
  | _ => False
theorem v_inO (i : Nat) {x : Str} {q : Pos} {n : Nat} (hr : Room n X.A) (ha : VE X a ta ma) (hm : behindInMarks .In (.Name x q) = false := by rfl) (hN : X.N[i]? = some x := by rfl) (hv : Vis X.env.scope x := by first | exact Or.inl rfl | exact Or.inr (Or.inl rfl) | exact Or.inr (Or.inr rfl)) (hd : (x == ("__debug__" : Str)) = false := by decide)
    (hcd : (x == ("__classdict__" : Str)) = false := by decide) : VCp X (.Compare a [.In] [.Name x q] pos) (tOp (rInD X.K) ta (tVar i)) (vInO i (fun b => b) ma) :=
  ⟨pe_cmpR (op_inD (room65 hr)) ha.pe (pe_var hN hv hd hcd) hm, pt_cmpR (op_inD (room65 hr)) ha.pe (pe_var hN hv hd hcd) hm, fun {dA F0 H0 F H σ Γ Q Qk} R q f => by
    unfold vInO at q
    split at q
    · rename_i xs h
      obtain ⟨a, vs, h1, h2, h3, h4, _⟩ := R.getOw h
      refine ha.sim R q fun F1 H1 dx x e1 k1 r1 ⟨g1, g2, q1⟩ => ⟨.ref a, h1, ?_⟩
      exact ⟨toP dx, toPs xs, dp_of k1.sub g1 r1, dp_own k1.sub (e1.keep _ _ h2 h4) (RepL.mono e1.ff _ _ h3) g2, pl_shaped g1, pl_shaped g2, f F1 H1 (.bl ((toPs xs).any (fun z => PyData.eqv z (toP dx)))) _ e1 k1 rfl (brn_iff (Q := fun b => Q (.bl b)) q1 (any_eqv g1 (pl_lst39 g2)))⟩
    · exact q.elim⟩
theorem v_notinO (i : Nat) {x : Str} {q : Pos} {n : Nat} (hr : Room n X.A) (ha : VE X a ta ma) (hm : behindInMarks .NotIn (.Name x q) = false := by rfl) (hN : X.N[i]? = some x := by rfl) (hv : Vis X.env.scope x := by first | exact Or.inl rfl | exact Or.inr (Or.inl rfl) | exact Or.inr (Or.inr rfl)) (hd : (x == ("__debug__" : Str)) = false := by decide)
    (hcd : (x == ("__classdict__" : Str)) = false := by decide) : VCp X (.Compare a [.NotIn] [.Name x q] pos) (tOp (rNotInD X.K) ta (tVar i)) (vInO i (fun b => !b) ma) :=
  ⟨pe_cmpR (op_notInD (room65 hr)) ha.pe (pe_var hN hv hd hcd) hm, pt_cmpR (op_notInD (room65 hr)) ha.pe (pe_var hN hv hd hcd) hm, fun {dA F0 H0 F H σ Γ Q Qk} R q f => by
    unfold vInO at q
    split at q
    · rename_i xs h
      obtain ⟨a, vs, h1, h2, h3, h4, _⟩ := R.getOw h
      refine ha.sim R q fun F1 H1 dx x e1 k1 r1 ⟨g1, g2, q1⟩ => ⟨.ref a, h1, ?_⟩
      exact ⟨toP dx, toPs xs, dp_of k1.sub g1 r1, dp_own k1.sub (e1.keep _ _ h2 h4) (RepL.mono e1.ff _ _ h3) g2, pl_shaped g1, pl_shaped g2, f F1 H1 (.bl (!(toPs xs).any (fun z => PyData.eqv z (toP dx)))) _ e1 k1 rfl (brn_iff (Q := fun b => Q (.bl (!b))) q1 (any_eqv g1 (pl_lst39 g2)))⟩
    · exact q.elim⟩

/-! ### isinstance of built-in types -/
/-- the type's name -/
def tyN : D → Option String
  | .non => some "NoneType"
  | .bl _ => some "bool"
  | .int _ => some "int"
  | .str _ => some "str"
  | .lst _ => some "list"
  | .tup _ => some "tuple"
  | _ => none
theorem ty_of {K : PySem.W.Frag} {dA : Option Addr} {F H : Hp} (s : Same F H) {d : D} {v : V} {n : String} (h : tyN d = some n) (r : Rep K dA F d v) : TyX K H v (.type n) := by
  cases d with
  | non => cases h; cases r; exact .base .non
  | bl _ => cases h; cases r; exact .base (.bl _)
  | int _ => cases h; cases r; exact .base (.int _)
  | str _ => cases h; cases r; exact .base (.str _)
  | lst xs =>
    cases h
    obtain ⟨a, vs, rfl, hs, _⟩ := r
    rcases sqL_mono s hs with (hs | ⟨o, hs⟩) | ⟨o, its, k, h1, h2, _⟩
    · exact .base (.lst hs)
    · exact .base (.frz hs)
    · exact .kList h1 h2
  | tup xs =>
    cases h
    obtain ⟨a, vs, rfl, hs, _⟩ := r
    exact .base (.tup (s _ _ hs))
  | _ => cases h
def cIsi (b : String) : List D → (D → Prop) → Prop := fun ds Q => match ds with
  | [d] => ∃ k, ((tyN d).bind fun n => kitB n b) = some k ∧ Q (.bl k)
  | _ => False
/-- isinstance(x, T) -/
theorem v_isi {x : Str} {T : String} {q1 : Pos} (hm : X.mg "isinstance" = none) (hmT : X.mg x = none) (ha : VE X a ta ma) (hvT : bootBuiltins x = some (.type T) := by decide +kernel) (hg : Gl X "isinstance" := by rfl) (hgT : Gl X x := by rfl) (hn : x ≠ "__name__" := by decide) (hdb : (x == ("__debug__" : Str)) = false := by decide)
    (hs : starEach [a, Expr.Name x q1] X.env = (false, eval a X.env) :: starEach [Expr.Name x q1] X.env := by rfl) (hs2 : starEach [Expr.Name x q1] X.env = (false, eval (Expr.Name x q1) X.env) :: starEach [] X.env := by rfl) (hpl : (backTo pos (starEach [Expr.Name x q1] X.env)).any (·.1) = false := by rfl) :
    VE X (.Call (.Name "isinstance" p) [a, .Name x q1] [] pos) (tCB (rIsi X.K) (tCons ta (tCons (tC (.ty T)) tNil))) (fun Γ Q => ma Γ fun d => cIsi T [d] Q) :=
  ⟨pe_callB call_isi hg hm (by decide +kernel) (pa_cons ha.pe (pa_cons (pe_bltn hgT hmT hvT rfl hn hdb) pa_nil hs2) hs) (by decide) (by decide) hs hpl, fun {dA F0 H0 F H σ Γ Q Qk} R q f => ha.sim R q fun F1 H1 d v e1 k1 r1 q1 => by
    obtain ⟨k, h0, q1⟩ := q1
    cases h : tyN d with
    | none => rw [h] at h0; cases h0
    | some n =>
      rw [h] at h0
      have h2 : kitB n T = some k := h0
      exact ⟨v, .ty T, _, _, k, rfl, .ty T, ty_of k1.sub h r1, kit_ty h2, f F1 H1 (.bl k) _ e1 k1 rfl q1⟩⟩
def kit2 (n : String) : Option Bool := match kitB n "list" with
  | some true => some true
  | some false => kitB n "tuple"
  | none => none
/-- isinstance(x, (list, tuple)) -/
theorem v_isi2 {q1 q2 q3 : Pos} {x1} (hm : X.mg "isinstance" = none) (hmL : X.mg "list" = none) (hmT : X.mg "tuple" = none) (ha : VE X a ta ma) (hg : Gl X "isinstance" := by rfl) (hgL : Gl X "list" := by rfl) (hgT : Gl X "tuple" := by rfl)
    (hs : starEach [a, Expr.Tuple [Expr.Name "list" q1, Expr.Name "tuple" q2] x1 q3] X.env = (false, eval a X.env) :: starEach [Expr.Tuple [Expr.Name "list" q1, Expr.Name "tuple" q2] x1 q3] X.env := by rfl)
    (hs2 : starEach [Expr.Tuple [Expr.Name "list" q1, Expr.Name "tuple" q2] x1 q3] X.env = (false, eval (Expr.Tuple [Expr.Name "list" q1, Expr.Name "tuple" q2] x1 q3) X.env) :: starEach [] X.env := by rfl)
    (hs3 : starEach [Expr.Name "list" q1, Expr.Name "tuple" q2] X.env = (false, eval (Expr.Name "list" q1) X.env) :: starEach [Expr.Name "tuple" q2] X.env := by rfl)
    (hs4 : starEach [Expr.Name "tuple" q2] X.env = (false, eval (Expr.Name "tuple" q2) X.env) :: starEach [] X.env := by rfl)
    (hpl : (backTo pos (starEach [Expr.Tuple [Expr.Name "list" q1, Expr.Name "tuple" q2] x1 q3] X.env)).any (·.1) = false := by rfl) :
    VE X (.Call (.Name "isinstance" p) [a, .Tuple [.Name "list" q1, .Name "tuple" q2] x1 q3] [] pos) (tCB (rIsiT X.K) (tCons ta (tCons (tTup (tCons (tC (.ty "list")) (tCons (tC (.ty "tuple")) tNil))) tNil)))
      (fun Γ Q => ma Γ fun d => ∃ k, (tyN d).bind kit2 = some k ∧ Q (.bl k)) :=
  ⟨pe_callB call_isiT hg hm (by decide +kernel) (pa_cons ha.pe (pa_cons (pe_tup (pa_cons (pe_bltn hgL hmL (by decide +kernel) rfl) (pa_cons (pe_bltn hgT hmT (by decide +kernel) rfl) pa_nil hs4) hs3)) pa_nil hs2) hs) (by decide) (by decide) hs hpl,
   fun {dA F0 H0 F H σ Γ Q Qk} R q f => ha.sim R q fun F1 H1 d v e1 k1 r1 q1 => ⟨by show 2 ≤ sizeLine; decide, fun t ht => by
    obtain ⟨e2, k2⟩ := growOwn (o := .tup [.ty "list", .ty "tuple"]) k1 ht
    obtain ⟨k, h0, q1⟩ := q1
    cases h : tyN d with
    | none => rw [h] at h0; cases h0
    | some n =>
        rw [h] at h0
        have h2 : kit2 n = some k := h0
        refine ⟨v, t, _, _, [.type "list", .type "tuple"], k, rfl, upd_same, .cons (.ty _) (.cons (.ty _) .nil), ty_of k2.sub h r1, ?_, f F1 _ (.bl k) _ (e1.trans e2) k2 rfl q1⟩
        unfold kit2 at h2
        cases h3 : kitB n "list" with
        | none => rw [h3] at h2; cases h2
        | some k3 =>
          rw [h3] at h2
          cases k3 with
          | true =>
            cases h2
            exact kitAny_cons (kit_ty h3) (fun z => nomatch z) fun _ => rfl
          | false =>
            have h2 : kitB n "tuple" = some k := h2
            exact kitAny_cons (kit_ty h3) (fun _ => kitAny_cons (kit_ty h2) (fun z => by rw [z]; exact kitAny_nil) fun z => z) fun z => nomatch z⟩⟩
end
end LV
set_option Elab.async false
set_option linter.all false
set_option maxRecDepth 100000
set_option maxHeartbeats 4000000
/-! LV5: contracts of defs, statements, targets, loops. -/
namespace LV
open PySem PySem.Spec PyProof.Rows L2

/-! ### contracts -/
structure Ct where
  n : Nat
  G : Type
  arg : G → List D
  pre : G → Prop
  post : G → D → Prop
  len : ∀ g, (arg g).length = n
def spOf (K : PySem.W.Frag) (c : Ct) : Sp := fun vs H Q _ => ∃ dA F g, Ok K dA F H ∧ RepL K dA F (c.arg g) vs ∧ c.pre g ∧
  ∀ F' H' d v, Ext dA F H F' H' → Ok K dA F' H' → Rep K dA F' d v → c.post g d → Q v H'
/-- the module's name x stands for a def that keeps the contract -/
structure Fn (P : Program) (w : World) (K : PySem.W.Frag) (mg : Str → Option Value) (base : Heap) (k : Nat) (x : Str) (c : Ct) : Prop where
  ex : ∃ f fd ps, FnOk P w K mg base CX0 k f fd ps (spOf K c) ∧ mg x = some (.ref f) ∧ PySem.W.keepIn K (.ref f) = true ∧ Binds K fd ps []
/-- .. the method m of the class cn (itself the first of its arguments) -/
structure Mh (P : Program) (w : World) (K : PySem.W.Frag) (mg : Str → Option Value) (base : Heap) (k : Nat) (cn m : Str) (c : Ct) : Prop where
  ex : ∃ f fd ps, FnOk P w K mg base CX0 k f fd ps (spOf K c) ∧ Cls K (He.ga K cn) ∧ Meth K (He.ga K cn) m f ∧ Binds K fd ps []
/-- .. the making of an instance of cn -/
def spInit (K : PySem.W.Frag) (cn : Str) (c : Ct) : Sp := fun vs H Q _ => ∃ dA F H00 x dx rest g, vs = .ref x :: rest ∧ H = upd (upd H00 dx (.own x)) x (.ins (He.ga K cn) dx []) ∧ H00 x = none ∧ H00 dx = none ∧ dx ≠ x ∧
  Ok K dA F H00 ∧ RepL K dA F (c.arg g) rest ∧ c.pre g ∧ ∀ F' H' d, Ext dA F H00 F' H' → Ok K dA F' H' → Rep K dA F' d (.ref x) → c.post g d → Q .non H'
structure Mkr (P : Program) (w : World) (K : PySem.W.Frag) (mg : Str → Option Value) (base : Heap) (k : Nat) (cn : Str) (c : Ct) : Prop where
  ex : ∃ f fd ps, FnOk P w K mg base CX0 k f fd ps (spInit K cn c) ∧ mg cn = some (.ref (He.ga K cn)) ∧ Mk K (He.ga K cn) f ∧ Binds K fd ps []

section
variable {X : Cx} {e a b c : Expr} {es : List Expr} {t ta tb tc : TE} {m ma mb mc : Vm} {pos p : Pos} {ta' : TA} {na : Va} {x : Str} {k n : Nat} {ct : Ct}
def vFun (ct : Ct) (na : Va) : Vm := fun Γ Q => na Γ fun ds => ∃ g, ds = ct.arg g ∧ ct.pre g ∧ ∀ d, ct.post g d → Q d
/-- the call's reading, whatever the def stands at -/
def tFun (K : PySem.W.Frag) (ct : Ct) (ta' : TA) : TE := tCall (spOf K ct) [] E0 ta'
theorem v_call (G : Fn X.prog X.w X.K X.mg X.base k x ct) (hr : Room n X.A) (ha : VA X (e :: es) ta' na) (hkn : k ≤ n := by decide) (hg : Gl X x := by rfl) (hdb : (x == ("__debug__" : Str)) = false := by decide)
    (he : starEach (e :: es) X.env = (false, eval e X.env) :: starEach es X.env := by rfl) (hpl : (backTo pos (starEach es X.env)).any (·.1) = false := by rfl) : VE X (.Call (.Name x p) (e :: es) [] pos) (tFun X.K ct ta') (vFun ct na) :=
  ⟨by
    obtain ⟨f, fd, ps, h1, h2, h3, h4⟩ := G.ex
    exact pe_call h1 (hr.mono hkn) hg h2 h3 h4 .nil pass0 ha.pa hdb he hpl,
   fun {dA F0 H0 F H σ Γ Q Qk} R q f => ha.sim R q fun F1 H1 ds vs e1 k1 r1 hl ⟨g, eg, q1, q2⟩ => by
    subst eg
    show spOf X.K ct (vs ++ []) H1 Qk _
    rw [List.append_nil]
    exact ⟨dA, F1, g, k1, r1, q1, fun F' H' d v e2 k2 r2 hp => f F' H' d v (e1.trans e2) k2 r2 (q2 d hp)⟩⟩
def objD (cn m : Str) (d : D) (Q : Prop) : Prop := match d with
  | .obj c ns _ => c = cn ∧ m ∉ ns ∧ Q
  | _ => False
theorem lookup_none {m : Str} : ∀ {fs : List (Str × V)}, m ∉ fs.map (·.1) → fs.lookup m = none
  | [], _ => rfl
  | (n, v) :: fs, h => by
    have h1 : (m == n) = false := beq_eq_false_iff_ne.mpr fun z => h (by rw [z]; exact List.mem_cons_self)
    show (match m == n with | true => some v | false => fs.lookup m) = none
    rw [h1]
    exact lookup_none fun z => h (List.mem_cons_of_mem _ z)
theorem v_meth {cn mn : Str} {apos : Pos} (G : Mh X.prog X.w X.K X.mg X.base k cn mn ct) (hr : Room n X.A) (ho : VE X a ta ma) (ha : VA X (e :: es) ta' na) (hkn : k ≤ n := by decide) {pls : Sem Bool}
    (hst : starEach (e :: es) X.env = (false, eval e X.env) :: starEach es X.env := by rfl) (hpl : (backTo pos (starEach es X.env)).any (·.1) = false := by rfl)
    (ht : eval (.Call (.Attribute a mn apos) (e :: es) [] pos) X.env = (do
      let ov ← eval a X.env
      standAt apos.atName
      let (f, first) ← holding [ov] (getMethod ov mn pls)
      callWith pos f first (backTo pos (starEach (e :: es) X.env)) (backToKw pos (keywordEach [] X.env))) := by rfl) :
    VE X (.Call (.Attribute a mn apos) (e :: es) [] pos) (tMeth (He.ga X.K cn) mn (spOf X.K ct) [] E0 ta ta') (fun Γ Q => ma Γ fun d => objD cn mn d (na Γ fun ds => ∃ g, d :: ds = ct.arg g ∧ ct.pre g ∧ ∀ r, ct.post g r → Q r)) :=
  ⟨by
    obtain ⟨f, fd, ps, h1, h2, h3, h4⟩ := G.ex
    exact pe_meth ho.pe h2 h3 h1 (hr.mono hkn) h4 .nil pass0 ha.pa hst hpl ht,
   fun {dA F0 H0 F H σ Γ Q Qk} R q f => ho.sim R q fun F1 H1 d v e1 k1 r1 q1 => by
    cases d <;> first | exact False.elim q1 | skip
    rename_i c' ns dd
    obtain ⟨rfl, hm, q1⟩ := q1
    obtain ⟨a, dx, fs, rfl, h1, h2, h3⟩ := id r1
    refine ⟨a, dx, fs, rfl, k1.sub _ _ h1, lookup_none (by rw [h2]; exact hm), ?_⟩
    refine ha.sim (R.step e1 k1) q1 fun F2 H2 ds vs e2 k2 r2 hl ⟨g, eg, q2, q3⟩ => ?_
    refine ⟨dA, F2, g, k2, by rw [List.append_nil, ← eg]; exact RepL.cons (Rep.mono e2.ff _ _ r1) r2, q2, fun F' H' d v e3 k3 r3 hp => f F' H' d v ((e1.trans e2).trans e3) k3 r3 (q3 d hp)⟩⟩
theorem v_meth0 {cn mn : Str} {apos : Pos} (G : Mh X.prog X.w X.K X.mg X.base k cn mn ct) (hr : Room n X.A) (ho : VE X a ta ma) (hkn : k ≤ n := by decide) {pls : Sem Bool}
    (ht : eval (.Call (.Attribute a mn apos) [] [] pos) X.env = (do
      let ov ← eval a X.env
      standAt apos.atName
      let (f, first) ← holding [ov] (getMethod ov mn pls)
      callWith pos f first (backTo pos (starEach [] X.env)) (backToKw pos (keywordEach [] X.env))) := by rfl) :
    VE X (.Call (.Attribute a mn apos) [] [] pos) (tMeth (He.ga X.K cn) mn (spOf X.K ct) [] E0 ta tNil) (fun Γ Q => ma Γ fun d => objD cn mn d (∃ g, [d] = ct.arg g ∧ ct.pre g ∧ ∀ r, ct.post g r → Q r)) :=
  ⟨by
    obtain ⟨f, fd, ps, h1, h2, h3, h4⟩ := G.ex
    exact pe_meth0 ho.pe h2 h3 h1 (hr.mono hkn) h4 .nil pass0 ht,
   fun {dA F0 H0 F H σ Γ Q Qk} R q f => ho.sim R q fun F1 H1 d v e1 k1 r1 q1 => by
    cases d <;> first | exact False.elim q1 | skip
    rename_i c' ns dd
    obtain ⟨rfl, hm, g, eg, q2, q3⟩ := q1
    obtain ⟨a, dx, fs, rfl, h1, h2, h3⟩ := id r1
    refine ⟨a, dx, fs, rfl, k1.sub _ _ h1, lookup_none (by rw [h2]; exact hm), ?_⟩
    exact ⟨dA, F1, g, k1, by rw [← eg]; exact RepL.one r1, q2, fun F' H' d v e3 k3 r3 hp => f F' H' d v (e1.trans e3) k3 r3 (q3 d hp)⟩⟩
/-- a new instance -/
theorem v_make (G : Mkr X.prog X.w X.K X.mg X.base k x ct) (hr : Room n X.A) (ha : VA X (e :: es) ta' na) (hkn : k + 1 ≤ n := by decide) (hg : Gl X x := by rfl) (hdb : (x == ("__debug__" : Str)) = false := by decide)
    (he : starEach (e :: es) X.env = (false, eval e X.env) :: starEach es X.env := by rfl) (hpl : (backTo pos (starEach es X.env)).any (·.1) = false := by rfl) : VE X (.Call (.Name x p) (e :: es) [] pos) (tMake (He.ga X.K x) (spInit X.K x ct) [] E0 ta') (vFun ct na) :=
  ⟨by
    obtain ⟨f, fd, ps, h1, h2, h3, h4⟩ := G.ex
    exact pe_make h3 h1 (hr.mono hkn) hg h2 h4 .nil pass0 ha.pa hdb he hpl,
   fun {dA F0 H0 F H σ Γ Q Qk} R q f => ha.sim R q fun F1 H1 ds vs e1 k1 r1 hl ⟨g, eg, q1, q2⟩ => fun y dy hy hdy ne => by
    subst eg
    refine ⟨dA, F1, H1, y, dy, vs, g, by rw [List.append_nil], rfl, hy, hdy, ne, k1, r1, q1, fun F' H' d e2 k2 r2 hp => ⟨rfl, f F' H' d _ (e1.trans e2) k2 r2 (q2 d hp)⟩⟩⟩
end

/-! ### statements -/
structure Ve where
  nx : Ev → Prop
  rt : D → Prop
  bk : Ev → Prop := fun _ => False
  ct : Ev → Prop := fun _ => False
abbrev Vs := Ve → Ev → Prop
structure FinS (K : PySem.W.Frag) (dA : Option Addr) (F0 H0 : Hp) (D : Ve) (Dk : Ends) : Prop where
  nx : ∀ F' H' σ' Γ', Rel K dA F0 H0 F' H' σ' Γ' → D.nx Γ' → Dk.nx σ' H'
  rt : ∀ F' H' d v, Ext dA F0 H0 F' H' → Ok K dA F' H' → Rep K dA F' d v → D.rt d → Dk.rt v H'
  bk : ∀ F' H' σ' Γ', Rel K dA F0 H0 F' H' σ' Γ' → D.bk Γ' → Dk.bk σ' H'
  ct : ∀ F' H' σ' Γ', Rel K dA F0 H0 F' H' σ' Γ' → D.ct Γ' → Dk.ct σ' H'
structure VS (X : Cx) (st : Stmt) (t : TS) (m : Vs) : Prop where
  ps : PS X st t
  sim : ∀ {dA F0 H0 F H σ Γ D Dk}, Rel X.K dA F0 H0 F H σ Γ → m D Γ → FinS X.K dA F0 H0 D Dk → t Dk σ H
structure VB (X : Cx) (st : List Stmt) (t : TS) (m : Vs) : Prop where
  pss : PSs X st t
  sim : ∀ {dA F0 H0 F H σ Γ D Dk}, Rel X.K dA F0 H0 F H σ Γ → m D Γ → FinS X.K dA F0 H0 D Dk → t Dk σ H
structure VG (X : Cx) (tg : Expr) (g : TG) (m : D → Ev → (Ev → Prop) → Prop) : Prop where
  pg : PG X tg g
  sim : ∀ {dA F0 H0 F H σ Γ d v Q Qk}, Rel X.K dA F0 H0 F H σ Γ → Rep X.K dA F d v → m d Γ Q → (∀ σ' Γ', Rel X.K dA F0 H0 F H σ' Γ' → Q Γ' → Qk σ' H) → g v σ H Qk
structure VGs (X : Cx) (tg : List Expr) (g : TGs) (m : List D → Ev → (Ev → Prop) → Prop) : Prop where
  pg : PGs X tg g
  sim : ∀ {dA F0 H0 F H σ Γ d v Q Qk}, Rel X.K dA F0 H0 F H σ Γ → RepL X.K dA F d v → m d Γ Q → (∀ σ' Γ', Rel X.K dA F0 H0 F H σ' Γ' → Q Γ' → Qk σ' H) → g v σ H Qk

section
variable {X : Cx} {e a b c : Expr} {es : List Expr} {t ta tb tc te : TE} {m ma mb mc me : Vm} {pos p : Pos} {ta' : TA} {na : Va} {st : Stmt} {sts sts' : List Stmt} {ts tu : TS} {ms mu : Vs} {tt : TT} {mt : Vt}
theorem FinS.seq {K : PySem.W.Frag} {dA : Option Addr} {F0 H0 : Hp} {D : Ve} {Dk : Ends} (f : FinS K dA F0 H0 D Dk) {N : Ev → Prop} {Nk : L2.St → Hp → Prop} (h : ∀ F' H' σ' Γ', Rel K dA F0 H0 F' H' σ' Γ' → N Γ' → Nk σ' H') :
    FinS K dA F0 H0 { D with nx := N } { Dk with nx := Nk } := ⟨h, f.rt, f.bk, f.ct⟩
def vNext : Vs := fun D Γ => D.nx Γ
def vSeq (m u : Vs) : Vs := fun D Γ => m { D with nx := u D } Γ
theorem vb_nil : VB X [] tNext vNext := ⟨pss_nil, fun {dA F0 H0 F H σ Γ D Dk} R q f => f.nx F H σ Γ R q⟩
theorem vb_cons (h1 : VS X st ts ms) (h2 : VB X sts tu mu) : VB X (st :: sts) (tSeq ts tu) (vSeq ms mu) :=
  ⟨pss_cons h1.ps h2.pss, fun {dA F0 H0 F H σ Γ D Dk} R q f => h1.sim R q (f.seq fun F' H' σ' Γ' R' q' => h2.sim R' q' f)⟩
theorem vb_one (h1 : VS X st ts ms) : VB X [st] ts ms := ⟨pss_one h1.ps, h1.sim⟩
def vNever : Vs := fun _ _ => False
theorem vs_never : VS X st tNever vNever := ⟨ps_never, fun _ q _ => q.elim⟩
theorem vb_never : VB X sts tNever vNever := ⟨pss_never, fun _ q _ => q.elim⟩
theorem vs_expr (h : VE X e te me) (hs : swapsWith e none pos.line X.env = pure false := by rfl) : VS X (.Expr e pos) (tDrop te) (fun D Γ => me Γ fun _ => D.nx Γ) :=
  ⟨ps_expr h.pe hs, fun {dA F0 H0 F H σ Γ D Dk} R q f => h.sim R q fun F1 H1 d v e1 k1 r1 q1 => f.nx F1 H1 σ Γ (R.step e1 k1) q1⟩
theorem vs_ret (h : VE X e te me) : VS X (.Return (some e) pos) (tRet te) (fun D Γ => me Γ D.rt) :=
  ⟨ps_ret h.pe, fun {dA F0 H0 F H σ Γ D Dk} R q f => h.sim R q fun F1 H1 d v e1 k1 r1 q1 => f.rt F1 H1 d v (R.ext.trans e1) k1 r1 q1⟩
theorem vs_if (hc : VT X c tt mt) (ha : VB X sts ts ms) (hb : VB X sts' tu mu) : VS X (.If c sts sts' pos) (tIfS tt ts tu) (fun D Γ => mt Γ fun b => if b = true then ms D Γ else mu D Γ) :=
  ⟨ps_if hc.pt ha.pss hb.pss, fun {dA F0 H0 F H σ Γ D Dk} R q f => hc.sim R q fun F1 H1 b e1 k1 q1 => by
    cases b with
    | true =>
      have q1 : ms D Γ := q1
      exact ha.sim (R.step e1 k1) q1 f
    | false =>
      have q1 : mu D Γ := q1
      exact hb.sim (R.step e1 k1) q1 f⟩
/-- x = e -/
theorem vs_set {i : Nat} {x : Str} {pos' : Pos} (hN : X.N.Nodup) (he : VE X e te me) (hi : X.N[i]? = some x := by rfl) (hx : Loc X.env.scope x := by first | exact Or.inl rfl | exact Or.inr rfl) (hs : swapsWith e (some (.Name x pos')) pos.line X.env = pure false := by rfl)
    (hf : X.fn x = true ∨ X.env.scope.names.lookup x = some .local := by first | exact .inl rfl | exact .inr rfl | assumption) : VS X (.Assign [.Name x pos'] e pos) (tAsg te (gName i)) (fun D Γ => me Γ fun d => D.nx (Γ.set i (.im d))) :=
  ⟨ps_set hN hi hx he.pe hs hf, fun {dA F0 H0 F H σ Γ D Dk} R q f => he.sim R q fun F1 H1 d v e1 k1 r1 q1 => f.nx F1 H1 _ _ ((R.step e1 k1).setIm i r1) q1⟩
end

/-! ### own objects: made, changed, put away -/
section
variable {K : PySem.W.Frag} {dA : Option Addr} {F0 H0 F H F1 H1 : Hp} {σ : L2.St} {Γ : Ev}
def OwnOk (dA : Option Addr) (F H H0 : Hp) (own : Addr → Option Nat) : Prop := ∀ a i, own a = some i → (∃ o, H a = some o ∧ nt o) ∧ F a = none ∧ H0 a = none ∧ dA ≠ some a
/-- slot i gets s, built of the new objects S -/
theorem Rel.setNew (R : Rel K dA F0 H0 F H σ Γ) (e : Ext dA F H F1 H1) (k : Ok K dA F1 H1) (i : Nat) (S : Addr → Prop) (hS : ∀ a, S a → H a = none ∧ F1 a = none ∧ ∃ o, H1 a = some o ∧ nt o) {o : Option V} {s : Sl}
    (hs : ∀ own' : Addr → Option Nat, (∀ a, S a → own' a = some i) → SlOk K dA F1 H1 own' i o s) : Rel K dA F0 H0 F1 H1 (σ.set i o) (Γ.set i s) := by
  have R1 := R.step e k
  obtain ⟨own, ho, hsl⟩ := R.sl
  have fresh : ∀ a, S a → own a = none := fun a h => by
    cases q : own a with
    | none => rfl
    | some j =>
      obtain ⟨⟨u, h1, _⟩, _⟩ := ho a j q
      rw [(hS a h).1] at h1
      cases h1
  refine ⟨k, R1.ext, by simpa using R.len, fun b => @ite _ (S b) (Classical.propDecidable _) (some i) (own b), fun b j q => ?_, fun j t q => ?_⟩
  · by_cases hb : S b
    · obtain ⟨h1, h2, h3⟩ := hS b hb
      exact ⟨h3, h2, R.ext.none h1, R.ok.tne h1⟩
    · have q : @ite _ (S b) (Classical.propDecidable _) (some i) (own b) = some j := q
      rw [if_neg hb] at q
      obtain ⟨⟨u, h1, hn⟩, h2, h3, h4⟩ := ho b j q
      exact ⟨⟨u, e.keep b u h1 h4, hn⟩, e.fkeep h1 h2 hn, h3, h4⟩
  · by_cases hj : i = j
    · subst hj
      by_cases hi : i < Γ.length
      · rw [List.getElem?_set_self hi] at q
        cases q
        exact ⟨o, List.getElem?_set_self (by rw [R.len]; exact hi), hs _ fun a h => if_pos h⟩
      · rw [List.getElem?_eq_none (by simpa using hi)] at q
        cases q
    · rw [List.getElem?_set_ne hj] at q
      obtain ⟨u, h1, h2⟩ := hsl j t q
      refine ⟨u, by rw [List.getElem?_set_ne hj]; exact h1, h2.mono e.ff (fun a z => ?_) fun a w z z2 => e.keep a w z2 (ho a j z).2.2.2⟩
      show @ite _ (S a) (Classical.propDecidable _) (some i) (own a) = some j
      have ne : ¬ S a := fun y => by
        rw [fresh a y] at z
        cases z
      rw [if_neg ne]
      exact z
/-- an own object of slot i is changed -/
theorem Rel.write (R : Rel K dA F0 H0 F H σ Γ) {i : Nat} {a : Addr} {o' : HO} {s s' : Sl} (hs : Γ[i]? = some s)
    (hw : ∀ own o, σ[i]? = some o → OwnOk dA F H H0 own → SlOk K dA F H own i o s → own a = some i ∧ SlOk K dA F (upd H a o') own i o s') (hnt : nt o' := by exact fun _ z => nomatch z) : Rel K dA F0 H0 F (upd H a o') σ (Γ.set i s') := by
  obtain ⟨own, ho, hsl⟩ := R.sl
  obtain ⟨o, h1, h2⟩ := hsl i s hs
  obtain ⟨h3, h4⟩ := hw own o h1 ho h2
  obtain ⟨⟨u, g1, _⟩, g2, g3, g4⟩ := ho a i h3
  have k : Ok K dA F (upd H a o') := by
    refine ⟨fun b x q => ?_, fun b q => ?_⟩
    · have ne : b ≠ a := fun z => by
        rw [z, g2] at q
        cases q
      rw [upd_ne ne]
      exact R.ok.sub b x q
    · obtain ⟨t1, t2⟩ := R.ok.tok b q
      have ne : b ≠ a := fun z => g4 (by rw [← z]; exact q)
      exact ⟨t1, t2.mono (Same.refl F) (upd_ne ne)⟩
  refine ⟨k, ⟨R.ext.ff, fun b x q n => ?_, R.ext.new, fun b x q => ?_⟩, by simpa using R.len, own, fun b j q => ?_, fun j t q => ?_⟩
  · have ne : b ≠ a := fun z => by
      rw [z, g3] at q
      cases q
    rw [upd_ne ne]
    exact R.ext.keep b x q n
  · obtain ⟨y, hy⟩ := R.ext.dom b x q
    have ne : b ≠ a := fun z => by
      rw [z, g3] at q
      cases q
    exact ⟨y, by rw [upd_ne ne]; exact hy⟩
  · obtain ⟨⟨x, z1, zn⟩, z2⟩ := ho b j q
    refine ⟨?_, z2⟩
    by_cases hb : b = a
    · exact ⟨o', by rw [hb, upd_same], hnt⟩
    · exact ⟨x, by rw [upd_ne hb]; exact z1, zn⟩
  · by_cases hj : i = j
    · subst hj
      by_cases hi : i < Γ.length
      · rw [List.getElem?_set_self hi] at q
        cases q
        exact ⟨o, h1, h4⟩
      · rw [List.getElem?_eq_none (by simpa using hi)] at q
        cases q
    · rw [List.getElem?_set_ne hj] at q
      obtain ⟨v, y1, y2⟩ := hsl j t q
      refine ⟨v, y1, y2.mono (Same.refl F) (fun _ z => z) fun b x z z2 => ?_⟩
      have ne : b ≠ a := fun y => by
        rw [y, h3] at z
        exact hj (Option.some.inj z)
      rw [upd_ne ne]
      exact z2
/-- what slot i owns stands from now on for ever -/
theorem Rel.settle (R : Rel K dA F0 H0 F H σ Γ) {i : Nat} {s : Sl} {d : D} (hs : Γ[i]? = some s)
    (hw : ∀ own o, σ[i]? = some o → OwnOk dA F H H0 own → SlOk K dA F H own i o s → ∃ F1, Same F F1 ∧ Same F1 H ∧ (∀ c u, F1 c = some u → F c = some u ∨ own c = some i) ∧ ∃ v, o = some v ∧ Rep K dA F1 d v) :
    ∃ F1, Rel K dA F0 H0 F1 H σ (Γ.set i (.im d)) := by
  obtain ⟨own, ho, hsl⟩ := R.sl
  obtain ⟨o, h1, h2⟩ := hsl i s hs
  obtain ⟨F1, a1, a2, a3, v, a4, a5⟩ := hw own o h1 ho h2
  refine ⟨F1, ⟨a2, fun b q => ?_⟩, ⟨R.ext.ff.trans a1, R.ext.keep, fun c u q => ?_, R.ext.dom⟩, by simpa using R.len, fun b => if own b = some i then none else own b, fun b j q => ?_, fun j t q => ?_⟩
  · obtain ⟨t1, t2⟩ := R.ok.tok b q
    refine ⟨?_, t2.mono a1 rfl⟩
    cases z : F1 b with
    | none => rfl
    | some u =>
      rcases a3 b u z with y | y
      · rw [t1] at y; cases y
      · exact absurd q (ho b i y).2.2.2
  · rcases a3 c u q with y | y
    · exact R.ext.new c u y
    · exact .inr (.inl (ho c i y).2.2.1)
  · have q : (if own b = some i then none else own b) = some j := q
    by_cases hb : own b = some i
    · rw [if_pos hb] at q
      cases q
    · rw [if_neg hb] at q
      obtain ⟨z1, z2, z3, z4⟩ := ho b j q
      refine ⟨z1, ?_, z3, z4⟩
      cases z : F1 b with
      | none => rfl
      | some u =>
        rcases a3 b u z with y | y
        · rw [z2] at y; cases y
        · exact absurd y hb
  · by_cases hj : i = j
    · subst hj
      by_cases hi : i < Γ.length
      · rw [List.getElem?_set_self hi] at q
        cases q
        exact ⟨o, h1, v, a4, a5⟩
      · rw [List.getElem?_eq_none (by simpa using hi)] at q
        cases q
    · rw [List.getElem?_set_ne hj] at q
      obtain ⟨u, y1, y2⟩ := hsl j t q
      refine ⟨u, y1, y2.mono a1 (fun b z => ?_) fun _ _ _ z => z⟩
      show (if own b = some i then none else own b) = some j
      have ne : ¬ own b = some i := fun y => by
        rw [y] at z
        exact hj (Option.some.inj z)
      rw [if_neg ne]
      exact z
/-- an own list put away -/
theorem Rel.settleOw (R : Rel K dA F0 H0 F H σ Γ) {i : Nat} {xs : List D} (hs : Γ[i]? = some (.ow xs)) : ∃ F1, Rel K dA F0 H0 F1 H σ (Γ.set i (.im (.lst xs))) :=
  R.settle hs fun own o h1 ho h2 => by
    obtain ⟨a, vs, rfl, h3, h4, h5⟩ := h2
    obtain ⟨_, g2, _, _⟩ := ho a i h3
    have s : Same F (upd F a (.lst vs)) := fun b x q => by
      have ne : b ≠ a := fun z => by
        rw [z, g2] at q
        cases q
      rw [upd_ne ne]
      exact q
    refine ⟨upd F a (.lst vs), s, fun b x q => ?_, fun b x q => ?_, .ref a, rfl, a, vs, rfl, SqL.of upd_same, RepL.mono s _ _ h5⟩
    · by_cases hb : b = a
      · rw [hb] at q ⊢
        rw [upd_same] at q
        cases q
        exact h4
      · rw [upd_ne hb] at q
        exact R.ok.sub b x q
    · by_cases hb : b = a
      · rw [hb]
        exact .inr h3
      · rw [upd_ne hb] at q
        exact .inl q
/-- the inner lists put away -/
theorem settleL {own : Addr → Option Nat} {i : Nat} (ok : Ok K dA F H) : ∀ {xss : List (List D)} {as : List Addr} {F2 : Hp}, Same F F2 → Same F2 H → (∀ c u, F2 c = some u → F c = some u ∨ own c = some i) → OwnL K dA F H (fun b => own b = some i) xss as →
    ∃ F1, Same F2 F1 ∧ Same F1 H ∧ (∀ c u, F1 c = some u → F c = some u ∨ own c = some i) ∧ RepL K dA F1 (xss.map D.lst) (as.map V.ref)
  | [], as, F2, s1, s2, s3, h => by
    cases h
    exact ⟨F2, Same.refl F2, s2, s3, rfl⟩
  | xs :: xss, as, F2, s1, s2, s3, h => by
    obtain ⟨a, r, vs, rfl, h1, h2, h3, h4⟩ := h
    have s : Same F2 (upd F2 a (.lst vs)) := fun b x q => by
      by_cases hb : b = a
      · rw [hb] at q ⊢
        rw [upd_same]
        have z := s2 a x q
        rw [h2] at z
        exact z
      · rw [upd_ne hb]
        exact q
    obtain ⟨F1, a1, a2, a3, a4⟩ := settleL ok (F2 := upd F2 a (.lst vs)) (s1.trans s) (fun b x q => by
      by_cases hb : b = a
      · rw [hb] at q ⊢
        rw [upd_same] at q
        cases q
        exact h2
      · rw [upd_ne hb] at q
        exact s2 b x q) (fun b x q => by
      by_cases hb : b = a
      · rw [hb]
        exact .inr h1
      · rw [upd_ne hb] at q
        exact s3 b x q) h4
    exact ⟨F1, s.trans a1, a2, a3, RepL.cons ⟨a, vs, rfl, SqL.of (a1 _ _ upd_same), RepL.mono ((s1.trans s).trans a1) _ _ h3⟩ a4⟩
theorem Rel.settleOn (R : Rel K dA F0 H0 F H σ Γ) {i : Nat} {xss : List (List D)} (hs : Γ[i]? = some (.on xss)) : ∃ F1, Rel K dA F0 H0 F1 H σ (Γ.set i (.im (.lst (xss.map D.lst)))) :=
  R.settle hs fun own o h1 ho h2 => by
    obtain ⟨a, as, rfl, h3, h4, _, h5⟩ := h2
    obtain ⟨_, g2, _, _⟩ := ho a i h3
    obtain ⟨F1, a1, a2, a3, a4⟩ := settleL R.ok (F2 := F) (Same.refl F) R.ok.sub (fun _ _ q => .inl q) h5
    have s : Same F1 (upd F1 a (.lst (as.map V.ref))) := fun b x q => by
      by_cases hb : b = a
      · rw [hb] at q ⊢
        rw [upd_same]
        have z := a2 a x q
        rw [h4] at z
        exact z
      · rw [upd_ne hb]
        exact q
    refine ⟨upd F1 a (.lst (as.map V.ref)), a1.trans s, fun b x q => ?_, fun b x q => ?_, .ref a, rfl, a, _, rfl, SqL.of upd_same, RepL.mono s _ _ a4⟩
    · by_cases hb : b = a
      · rw [hb] at q ⊢
        rw [upd_same] at q
        cases q
        exact h4
      · rw [upd_ne hb] at q
        exact a2 b x q
    · by_cases hb : b = a
      · rw [hb]
        exact .inr h3
      · rw [upd_ne hb] at q
        exact a3 b x q
end

section
variable {X : Cx} {e a b c : Expr} {es : List Expr} {t ta tb tc te : TE} {m ma mb mc me : Vm} {pos p : Pos} {ta' : TA} {na : Va} {st : Stmt} {sts sts' : List Stmt} {ts tu : TS} {ms mu : Vs} {tt : TT} {mt : Vt}
/-- from here on slot i's list stands for ever -/
def vFrz (i : Nat) (m : Vs) : Vs := fun D Γ => match Γ[i]? with
  | some (.ow xs) => m D (Γ.set i (.im (.lst xs)))
  | some (.on xss) => m D (Γ.set i (.im (.lst (xss.map LV.D.lst))))
  | _ => False
theorem vb_frz (i : Nat) (h : VB X sts ts ms) : VB X sts ts (vFrz i ms) :=
  ⟨h.pss, fun {dA F0 H0 F H σ Γ D Dk} R q f => by
    unfold vFrz at q
    split at q
    · rename_i xs hs
      obtain ⟨F1, R1⟩ := R.settleOw hs
      exact h.sim R1 q f
    · rename_i xs hs
      obtain ⟨F1, R1⟩ := R.settleOn hs
      exact h.sim R1 q f
    · exact q.elim⟩
/-- x = a new list, one's own -/
theorem vs_own {i : Nat} {x : Str} {pos' : Pos} (hN : X.N.Nodup) (he : VL X e te na) (hi : X.N[i]? = some x := by rfl) (hx : Loc X.env.scope x := by first | exact Or.inl rfl | exact Or.inr rfl) (hs : swapsWith e (some (.Name x pos')) pos.line X.env = pure false := by rfl)
    (hf : X.fn x = true ∨ X.env.scope.names.lookup x = some .local := by first | exact .inl rfl | exact .inr rfl | assumption) : VS X (.Assign [.Name x pos'] e pos) (tAsg te (gName i)) (fun D Γ => na Γ fun xs => D.nx (Γ.set i (.ow xs))) :=
  ⟨ps_set hN hi hx he.pe hs hf, fun {dA F0 H0 F H σ Γ D Dk} R q f => he.sim R q fun F1 H1 p ds vs e1 k1 n1 f1 h1 r1 q1 =>
    f.nx F1 H1 _ _ (R.setNew (s := .ow ds) e1 k1 i (fun a => a = p) (fun a z => by rw [z]; exact ⟨n1, f1, _, h1, fun _ z => nomatch z⟩) fun own' ho => ⟨p, vs, rfl, ho p rfl, h1, r1⟩) q1⟩
/-- x.append(e) -/
def vApp (i : Nat) (me : Vm) : Vs := fun D Γ => match Γ[i]? with
  | some (.ow xs) => me Γ fun d => xs.length < 1000000 ∧ D.nx (Γ.set i (.ow (xs ++ [d])))
  | _ => False
theorem vs_append (i : Nat) {x : Str} {q apos cpos : Pos} (he : VE X e te me) (hN : X.N[i]? = some x := by rfl) (hv : Vis X.env.scope x := by first | exact Or.inl rfl | exact Or.inr (Or.inl rfl) | exact Or.inr (Or.inr rfl)) (hd : (x == ("__debug__" : Str)) = false := by decide)
    (hcd : (x == ("__classdict__" : Str)) = false := by decide) (hs : starEach (e :: []) X.env = (false, eval e X.env) :: starEach [] X.env := by rfl)
    (hbase : attributeBase (.Name x q) "append" X.env (eval (.Name x q) X.env) = eval (.Name x q) X.env := by rfl)
    (hfew : ((backTo cpos (starEach (e :: []) X.env)).all (fun x => !x.1) && (backToKw cpos (keywordEach [] X.env)).all (fun x => x.1.isSome)
      && decide ((e :: []).length + ([] : List Keyword).length + (if ([] : List Keyword).isEmpty then 0 else 1) < 30)) = true := by rfl)
    (hline : (apos.endLine == cpos.line) = true := by rfl) (hplain : (backTo cpos (starEach [] X.env)).any (·.1) = false := by rfl)
    (hsw : swapsWith (.Call (.Attribute (.Name x q) "append" apos) [e] [] cpos) none pos.line X.env = pure false := by rfl) :
    VS X (.Expr (.Call (.Attribute (.Name x q) "append" apos) [e] [] cpos) pos) (tDrop (tBM X.K "list" rAppend (tVar i) (tCons te tNil))) (vApp i me) :=
  ⟨ps_expr (pe_bm PySem.F.plainAttrs_list PySem.F.slot_list_append PySem.F.type_list_append mt_append (pe_var hN hv hd hcd) (pa_cons he.pe pa_nil hs) hbase hfew hline hs hplain) hsw, fun {dA F0 H0 F H σ Γ D Dk} R q f => by
    unfold vApp at q
    split at q
    · rename_i xs h
      obtain ⟨a, vs, h1, h2, h3, h4, h6⟩ := R.getOw h
      refine ⟨.ref a, h1, .inl ⟨rfl, vs, SqL.of h2⟩, he.sim R q fun F1 H1 d v e1 k1 r1 ⟨hl, q1⟩ => ?_⟩
      have R1 := R.step e1 k1
      refine ⟨a, vs, v, rfl, rfl, e1.keep _ _ h2 h4, line_lt (by rw [h3.length]; exact hl), f.nx F1 _ σ _ (R1.write (s' := .ow (xs ++ [d])) h fun own o g1 go g2 => ?_) q1⟩
      obtain ⟨a', vs', g3, g4, g5, g6⟩ := g2
      have ea : a' = a := by
        rw [h1] at g1
        cases g1
        cases g3
        rfl
      subst ea
      exact ⟨g4, a', vs ++ [v], g3, g4, upd_same, RepL.append (RepL.mono e1.ff _ _ h3) (RepL.one r1)⟩
    · exact q.elim⟩
end
end LV
set_option Elab.async false
set_option linter.all false
set_option maxRecDepth 100000
set_option maxHeartbeats 4000000
/-! LV6: targets, walks, for, while, comprehensions. -/
namespace LV
open PySem PySem.Spec PyProof.Rows L2

/-! ### targets: L says which slots are touched -/
abbrev Vg := D → Ev → (Ev → Prop) → Prop
abbrev Vgs := List D → Ev → (Ev → Prop) → Prop
def Touch (L : List Nat) (σ σ' : L2.St) : Prop := ∀ vs : List Nat, (∀ i ∈ L, i ∈ vs) → wipe σ' vs = wipe σ vs
structure VT1 (X : Cx) (tg : Expr) (g : TG) (L : List Nat) (m : Vg) : Prop where
  pg : PG X tg g
  sim : ∀ {dA F0 H0 F H σ Γ d v Q Qk}, Rel X.K dA F0 H0 F H σ Γ → Rep X.K dA F d v → m d Γ Q → (∀ σ' Γ', Rel X.K dA F0 H0 F H σ' Γ' → Touch L σ σ' → Q Γ' → Qk σ' H) → g v σ H Qk
structure VTs (X : Cx) (tg : List Expr) (g : TGs) (L : List Nat) (m : Vgs) : Prop where
  pg : PGs X tg g
  sim : ∀ {dA F0 H0 F H σ Γ ds vs Q Qk}, Rel X.K dA F0 H0 F H σ Γ → RepL X.K dA F ds vs → m ds Γ Q → (∀ σ' Γ', Rel X.K dA F0 H0 F H σ' Γ' → Touch L σ σ' → Q Γ' → Qk σ' H) → g vs σ H Qk
theorem wipe_set {σ : L2.St} {i : Nat} {o : Option V} : ∀ {vs : List Nat}, i ∈ vs → wipe (σ.set i o) vs = wipe σ vs
  | v :: vs, h => by
    show (wipe (σ.set i o) vs).set v none = (wipe σ vs).set v none
    by_cases hi : i ∈ vs
    · rw [wipe_set hi]
    · have e : i = v := (List.mem_cons.mp h).resolve_right hi
      subst e
      have z : ∀ (vs : List Nat), i ∉ vs → wipe (σ.set i o) vs = (wipe σ vs).set i o := fun vs => by
        induction vs with
        | nil => intro _; rfl
        | cons w vs ih =>
          intro hn
          show (wipe (σ.set i o) vs).set w none = ((wipe σ vs).set w none).set i o
          rw [ih fun q => hn (List.mem_cons_of_mem _ q), List.set_comm]
          exact fun q => hn (by rw [q]; exact List.mem_cons_self)
      rw [z vs hi, List.set_set]
theorem Touch.refl {σ : L2.St} : Touch [] σ σ := fun _ _ => rfl
theorem Touch.trans {L L' : List Nat} {σ σ' σ2 : L2.St} (a : Touch L σ σ') (b : Touch L' σ' σ2) : Touch (L ++ L') σ σ2 := fun vs h => (b vs fun i hi => h i (List.mem_append_right _ hi)).trans (a vs fun i hi => h i (List.mem_append_left _ hi))
section
variable {X : Cx} {e tg iter : Expr} {es tgs : List Expr} {pos p : Pos} {g : TG} {gs : TGs} {L L' : List Nat} {mg : Vg} {mgs : Vgs}
def vGn (i : Nat) : Vg := fun d Γ Q => Q (Γ.set i (.im d))
theorem vg_name {x : Str} (i : Nat) (hN : X.N.Nodup) (hi : X.N[i]? = some x := by rfl) (hx : Loc X.env.scope x := by first | exact Or.inl rfl | exact Or.inr rfl) (hf : X.fn x = true ∨ X.env.scope.names.lookup x = some .local := by first | exact .inl rfl | exact .inr rfl | assumption) : VT1 X (.Name x pos) (gName i) [i] (vGn i) :=
  ⟨pg_name hN hi hx hf, fun {dA F0 H0 F H σ Γ d v Q Qk} R r q f => f _ _ (R.setIm i r) (fun vs h => wipe_set (h i List.mem_cons_self)) q⟩
def vGnil : Vgs := fun ds Γ Q => match ds with
  | [] => Q Γ
  | _ => False
def vGcons (m : Vg) (u : Vgs) : Vgs := fun ds Γ Q => match ds with
  | d :: r => m d Γ fun Γ' => u r Γ' Q
  | _ => False
theorem vgs_nil : VTs X [] gNil [] vGnil := ⟨pgs_nil, fun {dA F0 H0 F H σ Γ ds vs Q Qk} R r q f => by
  cases ds with
  | nil => cases r; exact ⟨rfl, f σ Γ R Touch.refl q⟩
  | cons _ _ => exact False.elim q⟩
theorem vgs_cons (h1 : VT1 X tg g L mg) (h2 : VTs X tgs gs L' mgs) (hs : (assignEach (tg :: tgs) X.env).map (·.2) = assign tg X.env :: (assignEach tgs X.env).map (·.2) := by rfl) : VTs X (tg :: tgs) (gCons g gs) (L ++ L') (vGcons mg mgs) :=
  ⟨pgs_cons h1.pg h2.pg hs, fun {dA F0 H0 F H σ Γ ds vs Q Qk} R r q f => by
    cases ds with
    | nil => exact False.elim q
    | cons d ds =>
      obtain ⟨v, r', rfl, h, h'⟩ := r
      exact ⟨v, r', rfl, h1.sim R h q fun σ1 Γ1 R1 t1 q1 => h2.sim R1 h' q1 fun σ2 Γ2 R2 t2 q2 => f σ2 Γ2 R2 (t1.trans t2) q2⟩⟩
def vGtup (n : Nat) (mgs : Vgs) : Vg := fun d Γ Q => match d with
  | .tup ds => ds.length = n ∧ mgs ds Γ Q
  | _ => False
theorem vg_tup {k : Nat} {n : Nat} (hc : X.calm = true) (h : VTs X tgs gs L mgs) (hn : (assignEach tgs X.env).length = n := by rfl) (hst : (assignEach tgs X.env).findIdx? (·.1) = none := by rfl) : VT1 X (.Tuple tgs k pos) (gTup X.K n gs) L (vGtup n mgs) :=
  ⟨pg_tup hc h.pg hn hst, fun {dA F0 H0 F H σ Γ d v Q Qk} R r q f => by
    cases d <;> first | exact False.elim q | skip
    rename_i ds
    obtain ⟨a, vs, rfl, hs, hr⟩ := r
    exact ⟨a, vs, rfl, sqT_of R.ok.sub hs, by rw [hr.length]; exact q.1, h.sim R hr q.2 f⟩⟩
/-- target = e -/
theorem vs_asg {te : TE} {me : Vm} (he : VE X e te me) (hg : VT1 X tg g L mg) (hs : swapsWithSole [tg] e pos.line X.env = pure false := by rfl) (hw : swappedStores [tg] e X.env = pure none := by rfl)
    (h1 : (assignEach [tg] X.env).map (·.2) = [assign tg X.env] := by rfl) : VS X (.Assign [tg] e pos) (tAsg te g) (fun D Γ => me Γ fun d => mg d Γ D.nx) :=
  ⟨ps_asg he.pe hg.pg hs hw h1, fun {dA F0 H0 F H σ Γ D Dk} R q f => he.sim R q fun F1 H1 d v e1 k1 r1 q1 => hg.sim (R.step e1 k1) r1 q1 fun σ' Γ' R' _ q' => f.nx F1 H1 σ' Γ' R' q'⟩
/-- a, b = e, e' -/
theorem vs_par {i j : Nat} {x y : Str} {a b : Expr} {ta : TA} {na : Va} {px py pt : Pos} {kt k2 pt2} (hc : X.calm = true) (hN : X.N.Nodup) (ha : VA X [a, b] ta na) (hi : X.N[i]? = some x := by rfl) (hj : X.N[j]? = some y := by rfl) (hij : i ≠ j := by decide)
    (hx : X.env.scope.names.lookup x = some .local := by rfl) (hy : X.env.scope.names.lookup y = some .local := by rfl) (hw : swappedStores [.Tuple [.Name x px, .Name y py] kt pt] (.Tuple [a, b] k2 pt2) X.env = pure (some [x, y]) := by rfl)
    (hs : swapsWithSole [.Tuple [.Name x px, .Name y py] kt pt] (.Tuple [a, b] k2 pt2) pos.line X.env = pure false := by rfl) :
    VS X (.Assign [.Tuple [.Name x px, .Name y py] kt pt] (.Tuple [a, b] k2 pt2) pos) (tPar i j ta) (fun D Γ => na Γ fun ds => match ds with
      | [d, d'] => D.nx ((Γ.set i (.im d)).set j (.im d'))
      | _ => False) :=
  ⟨ps_par hc hN hi hj hij hx hy ha.pa hw hs, fun {dA F0 H0 F H σ Γ D Dk} R q f => ha.sim R q fun F1 H1 ds vs e1 k1 r1 hl q1 => by
    match ds, hl with
    | [d, d'], _ =>
      obtain ⟨v, w, rfl, h, h'⟩ := rep2 r1
      exact ⟨v, w, rfl, f.nx F1 H1 _ _ (((R.step e1 k1).setIm i h).setIm j h') q1⟩⟩

/-! ### what is walked -/
/-- J walks ds, at each state that goes on from F, H -/
def WalkE (K : PySem.W.Frag) (dA : Option Addr) (J : It) (F H : Hp) (ds : List D) : Prop := ∀ F1 H1, Ext dA F H F1 H1 → Ok K dA F1 H1 → ∀ i,
  (i < ds.length → J.go i H1 ∧ ∀ x H2, J.yld i H1 x H2 → ∃ F2 d, Ext dA F1 H1 F2 H2 ∧ Ok K dA F2 H2 ∧ ds[i]? = some d ∧ Rep K dA F2 d x) ∧ (ds.length ≤ i → J.stop i H1)
/-- .. that holds what F holds -/
def WalkF (K : PySem.W.Frag) (dA : Option Addr) (J : It) (F : Hp) (ds : List D) : Prop := ∀ F1 H1, Same F F1 → Ok K dA F1 H1 → ∀ i,
  (i < ds.length → J.go i H1 ∧ ∀ x H2, J.yld i H1 x H2 → ∃ F2 d, Ext dA F1 H1 F2 H2 ∧ Ok K dA F2 H2 ∧ ds[i]? = some d ∧ Rep K dA F2 d x) ∧ (ds.length ≤ i → J.stop i H1)
structure VI (X : Cx) (tg iter : Expr) (wi : TI) (mi : Va) : Prop where
  pi : PI X tg iter wi
  sim : ∀ {dA F0 H0 F H σ Γ Q R}, Rel X.K dA F0 H0 F H σ Γ → mi Γ Q → (∀ J F' H' ds, Ext dA F H F' H' → Ok X.K dA F' H' → WalkF X.K dA J F' ds → Q ds → R J H') → wi σ H R
structure VIe (X : Cx) (tg iter : Expr) (wi : TI) (mi : Va) : Prop where
  pi : PI X tg iter wi
  sim : ∀ {dA F0 H0 F H σ Γ Q R}, Rel X.K dA F0 H0 F H σ Γ → mi Γ Q → (∀ J F' H' ds, Ext dA F H F' H' → Ok X.K dA F' H' → WalkE X.K dA J F' H' ds → Q ds → R J H') → wi σ H R
theorem VI.own {wi : TI} {mi : Va} (h : VI X tg iter wi mi) : VIe X tg iter wi mi := ⟨h.pi, fun {dA F0 H0 F H σ Γ Q Rk} R q f => h.sim R q fun J F' H' ds e k w q => f J F' H' ds e k (fun F1 H1 e1 k1 i => w F1 H1 e1.ff k1 i) q⟩
theorem walk_list {K : PySem.W.Frag} {dA : Option Addr} {F : Hp} {a : Addr} {xs : List D} {vs : List V} (hs : SqL K F a vs) (hr : RepL K dA F xs vs) : WalkF K dA (Itl K a) F xs := fun F1 H1 s k i => by
  have h1 : SqL K H1 a vs := sqL_mono (s.trans k.sub) hs
  refine ⟨fun hi => ?_, fun hi => ⟨vs, h1, by rw [hr.length]; exact hi⟩⟩
  obtain ⟨v, h2, h3⟩ := hr.get (i := i) (List.getElem?_eq_getElem hi)
  refine ⟨⟨vs, v, h1, h2⟩, fun x H2 ⟨e, y⟩ => ?_⟩
  subst e
  have h4 := y vs h1
  rw [h2] at h4
  cases h4
  exact ⟨F1, xs[i], Ext.refl, k, List.getElem?_eq_getElem hi, Rep.mono s _ _ h3⟩
theorem walk_tup {K : PySem.W.Frag} {dA : Option Addr} {F : Hp} {a : Addr} {xs : List D} {vs : List V} (hs : F a = some (.tup vs)) (hr : RepL K dA F xs vs) : WalkF K dA (Itt K a) F xs := fun F1 H1 s k i => by
  have h1 : SqT K H1 a vs := sqT_of (s.trans k.sub) hs
  refine ⟨fun hi => ?_, fun hi => ⟨vs, h1, by rw [hr.length]; exact hi⟩⟩
  obtain ⟨v, h2, h3⟩ := hr.get (i := i) (List.getElem?_eq_getElem hi)
  refine ⟨⟨vs, v, h1, h2⟩, fun x H2 ⟨e, y⟩ => ?_⟩
  subst e
  have h4 := y vs h1
  rw [h2] at h4
  cases h4
  exact ⟨F1, xs[i], Ext.refl, k, List.getElem?_eq_getElem hi, Rep.mono s _ _ h3⟩
def viL (m : Vm) : Va := fun Γ Q => m Γ fun d => match d with
  | .lst xs => Q xs
  | _ => False
def viT (m : Vm) : Va := fun Γ Q => m Γ fun d => match d with
  | .tup xs => Q xs
  | _ => False
theorem vi_list {te : TE} {me : Vm} (h : VE X e te me) : VI X tg e (iList X.K te) (viL me) := ⟨pi_list h.pe, fun {dA F0 H0 F H σ Γ Q Rk} R q f => h.sim R q fun F1 H1 d v e1 k1 r1 q1 => by
  cases d <;> first | exact False.elim q1 | skip
  rename_i xs
  obtain ⟨a, vs, rfl, hs, hr⟩ := r1
  exact ⟨a, rfl, ⟨vs, sqL_mono k1.sub hs⟩, f _ F1 H1 xs e1 k1 (walk_list hs hr) q1⟩⟩
theorem vi_tup {te : TE} {me : Vm} (h : VE X e te me) : VI X tg e (iTup X.K te) (viT me) := ⟨pi_tup h.pe, fun {dA F0 H0 F H σ Γ Q Rk} R q f => h.sim R q fun F1 H1 d v e1 k1 r1 q1 => by
  cases d <;> first | exact False.elim q1 | skip
  rename_i xs
  obtain ⟨a, vs, rfl, hs, hr⟩ := r1
  exact ⟨a, rfl, ⟨vs, sqT_of k1.sub hs⟩, f _ F1 H1 xs e1 k1 (walk_tup hs hr) q1⟩⟩
/-- an own list, where nothing changes it (in a comprehension) -/
def viO (i : Nat) : Va := fun Γ Q => match Γ[i]? with
  | some (.ow xs) => Q xs
  | _ => False
theorem vi_own (i : Nat) {x : Str} {q : Pos} (hN : X.N[i]? = some x := by rfl) (hv : Vis X.env.scope x := by first | exact Or.inl rfl | exact Or.inr (Or.inl rfl) | exact Or.inr (Or.inr rfl)) (hd : (x == ("__debug__" : Str)) = false := by decide)
    (hcd : (x == ("__classdict__" : Str)) = false := by decide) : VIe X tg (.Name x q) (iList X.K (tVar i)) (viO i) := ⟨pi_list (pe_var hN hv hd hcd), fun {dA F0 H0 F H σ Γ Q Rk} R q f => by
  unfold viO at q
  split at q
  · rename_i xs h
    obtain ⟨a, vs, h1, h2, h3, h4, _⟩ := R.getOw h
    refine ⟨.ref a, h1, a, rfl, ⟨vs, SqL.of h2⟩, f _ F H xs Ext.refl R.ok (fun F1 H1 e1 k1 i => ?_) q⟩
    have h5 : H1 a = some (.lst vs) := e1.keep _ _ h2 h4
    refine ⟨fun hi => ?_, fun hi => ⟨vs, SqL.of h5, by rw [h3.length]; exact hi⟩⟩
    obtain ⟨v, g2, g3⟩ := h3.get (i := i) (List.getElem?_eq_getElem hi)
    refine ⟨⟨vs, v, SqL.of h5, g2⟩, fun x H2 ⟨e, y⟩ => ?_⟩
    subst e
    have g4 := y vs (SqL.of h5)
    rw [g2] at g4
    cases g4
    exact ⟨F1, xs[i], Ext.refl, k1, List.getElem?_eq_getElem hi, Rep.mono e1.ff _ _ g3⟩
  · exact q.elim⟩
/-- lo, lo + 1, .. -/
def rng (lo : Int) (n : Nat) : List D := (List.range n).map fun i => D.int (lo + (i : Nat))
theorem rng_len (lo : Int) (n : Nat) : (rng lo n).length = n := by simp [rng]
theorem rng_at {lo : Int} {n i : Nat} (h : i < n) : (rng lo n)[i]? = some (.int (lo + (i : Nat))) := by simp [rng, List.getElem?_map, List.getElem?_range h]
theorem walk_rng {K : PySem.W.Frag} {dA : Option Addr} {F : Hp} (lo : Int) (n : Nat) : WalkF K dA (Itr lo n) F (rng lo n) := fun F1 H1 s k i => by
  rw [rng_len]
  refine ⟨fun hi => ⟨hi, fun x H2 ⟨e, y⟩ => ?_⟩, fun hi => hi⟩
  subst e
  exact ⟨F1, .int (lo + (i : Nat)), Ext.refl, k, rng_at hi, y⟩
/-- lo, lo - 1, .. -/
def rngDn (lo : Int) (n : Nat) : List D := (List.range n).map fun i => D.int (lo - (i : Nat))
theorem rngDn_len (lo : Int) (n : Nat) : (rngDn lo n).length = n := by simp [rngDn]
theorem rngDn_at {lo : Int} {n i : Nat} (h : i < n) : (rngDn lo n)[i]? = some (.int (lo - (i : Nat))) := by simp [rngDn, List.getElem?_map, List.getElem?_range h]
theorem walk_rngDn {K : PySem.W.Frag} {dA : Option Addr} {F : Hp} (lo : Int) (n : Nat) : WalkF K dA (Itc lo (-1) n) F (rngDn lo n) := fun F1 H1 s k i => by
  rw [rngDn_len]
  refine ⟨fun hi => ⟨hi, fun x H2 ⟨e, y⟩ => ?_⟩, fun hi => hi⟩
  subst e
  refine ⟨F1, .int (lo - (i : Nat)), Ext.refl, k, rngDn_at hi, ?_⟩
  show x = .int (lo - (i : Nat))
  rw [y]
  congr 1
  omega
def small (i : Int) : Prop := -1000000000 ≤ i ∧ i ≤ 1000000000
def viR1 (na : Va) : Va := fun Γ Q => na Γ fun ds => match ds with
  | [.int j] => small j ∧ Q (rng 0 j.toNat)
  | _ => False
def viR2 (na : Va) : Va := fun Γ Q => na Γ fun ds => match ds with
  | [.int i, .int j] => small i ∧ small j ∧ Q (rng i (j - i).toNat)
  | _ => False
def viR3 (na : Va) : Va := fun Γ Q => na Γ fun ds => match ds with
  | [.int i, .int j, .int k] => small i ∧ small j ∧ k = -1 ∧ Q (rngDn i (i - j).toNat)
  | _ => False
theorem vi_rng1 {a : Expr} {ta : TA} {na : Va} (hm : X.mg "range" = none) (ha : VA X [a] ta na) (hg : Gl X "range" := by rfl) (hs : starEach [a] X.env = [(false, eval a X.env)] := by rfl) : VI X tg (.Call (.Name "range" p) [a] [] pos) (iRng1 ta) (viR1 na) :=
  ⟨pi_range1 hg hm ha.pa hs, fun {dA F0 H0 F H σ Γ Q Rk} R q f => ha.sim R q fun F1 H1 ds vs e1 k1 r1 hl q1 => by
    split at q1
    · rename_i j
      obtain ⟨v, rfl, h⟩ := rep1 r1
      obtain ⟨⟨h1, h2⟩, q1⟩ := q1
      exact ⟨j, by rw [show v = .int j from h], by omega, by omega, f _ F1 H1 _ e1 k1 (walk_rng 0 _) q1⟩
    · exact q1.elim⟩
theorem vi_rng2 {a b : Expr} {ta : TA} {na : Va} (hm : X.mg "range" = none) (ha : VA X [a, b] ta na) (hg : Gl X "range" := by rfl) (hs : starEach [a, b] X.env = [(false, eval a X.env), (false, eval b X.env)] := by rfl) (hs2 : starEach [b] X.env = [(false, eval b X.env)] := by rfl) : VI X tg (.Call (.Name "range" p) [a, b] [] pos) (iRng2 ta) (viR2 na) :=
  ⟨pi_range2 hg hm ha.pa hs hs2, fun {dA F0 H0 F H σ Γ Q Rk} R q f => ha.sim R q fun F1 H1 ds vs e1 k1 r1 hl q1 => by
    split at q1
    · rename_i i j
      obtain ⟨v, w, rfl, h, h'⟩ := rep2 r1
      obtain ⟨⟨h1, h2⟩, ⟨h3, h4⟩, q1⟩ := q1
      exact ⟨i, j, by rw [show v = .int i from h, show w = .int j from h'], ⟨by omega, by omega, by omega, by omega⟩, f _ F1 H1 _ e1 k1 (walk_rng i _) q1⟩
    · exact q1.elim⟩
theorem vi_rng3 {a b c : Expr} {ta : TA} {na : Va} (hm : X.mg "range" = none) (ha : VA X [a, b, c] ta na) (hg : Gl X "range" := by rfl) (hs : starEach [a, b, c] X.env = (false, eval a X.env) :: starEach [b, c] X.env := by rfl) (hpl : (backTo pos (starEach [b, c] X.env)).any (·.1) = false := by rfl) : VI X tg (.Call (.Name "range" p) [a, b, c] [] pos) (iRng3 ta) (viR3 na) :=
  ⟨pi_range3 hg hm ha.pa hs hpl, fun {dA F0 H0 F H σ Γ Q Rk} R q f => ha.sim R q fun F1 H1 ds vs e1 k1 r1 hl q1 => by
    split at q1
    · rename_i i j k
      obtain ⟨v, r', rfl, h, r2⟩ := r1
      obtain ⟨w, u, rfl, h', h''⟩ := rep2 r2
      obtain ⟨⟨h1, h2⟩, ⟨h3, h4⟩, rfl, q1⟩ := q1
      exact ⟨i, j, -1, _, by rw [show v = .int i from h, show w = .int j from h', show u = .int (-1) from h''], RgC.neg (by omega) (by omega) (by omega) (by omega), f _ F1 H1 _ e1 k1 (walk_rngDn i _) q1⟩
    · exact q1.elim⟩

/-! ### for -/
def wpFor (mg : Vg) (mb : Vs) (D : Ve) : List LV.D → Ev → Prop
  | [], Γ => D.nx Γ
  | d :: ds, Γ => mg d Γ fun Γ' => mb { nx := wpFor mg mb D ds, rt := D.rt, bk := D.nx, ct := wpFor mg mb D ds } Γ'
def vFor (mi : Va) (mg : Vg) (mb : Vs) : Vs := fun D Γ => mi Γ fun ds => wpFor mg mb D ds Γ
theorem Ext.rebase {dA : Option Addr} {F0 H0 F1 H1 : Hp} (e : Ext dA F0 H0 F1 H1) : Ext dA F1 H0 F1 H1 := ⟨Same.refl F1, e.keep, fun _ _ h => .inl h, e.dom⟩
theorem Ext.unbase {dA : Option Addr} {F0 H0 F1 H1 F H : Hp} (e : Ext dA F0 H0 F1 H1) (e2 : Ext dA F1 H0 F H) : Ext dA F0 H0 F H := ⟨e.ff.trans e2.ff, e2.keep, fun c o h => by
  rcases e2.new c o h with h | h
  · exact e.new c o h
  · exact .inr h, e2.dom⟩
theorem Rel.rebase {K : PySem.W.Frag} {dA : Option Addr} {F0 H0 F H : Hp} {σ : L2.St} {Γ : Ev} (R : Rel K dA F0 H0 F H σ Γ) : Rel K dA F H0 F H σ Γ := ⟨R.ok, R.ext.rebase, R.len, R.sl⟩
theorem Rel.unbase {K : PySem.W.Frag} {dA : Option Addr} {F0 H0 F1 H1 F H : Hp} {σ : L2.St} {Γ : Ev} (e : Ext dA F0 H0 F1 H1) (R : Rel K dA F1 H0 F H σ Γ) : Rel K dA F0 H0 F H σ Γ := ⟨R.ok, e.unbase R.ext, R.len, R.sl⟩
theorem vs_for {body : List Stmt} {wi : TI} {mi : Va} {tb : TS} {mb : Vs} (hp : PassesOwn (model X.prog X.w) X.A X.env X.xe) (hc : X.calm = true) (hi : VI X tg iter wi mi) (hg : VT1 X tg g L mg) (hb : VB X body tb mb)
    (hs : ∀ x, foldedSetIterable iter X.env x = pure x := by intro _; rfl) : VS X (.For tg iter body [] pos) (tFor wi g tb) (vFor mi mg mb) :=
  ⟨ps_for hp hc hi.pi hg.pg hb.pss hs, fun {dA F0 H0 F H σ Γ D Dk} R q f => hi.sim R q fun J F1 H1 ds e1 k1 w q1 => by
    have R1 := R.step e1 k1
    refine ⟨fun i m σ H => m = ds.length - i ∧ ∃ F Γ, Rel X.K dA F1 H0 F H σ Γ ∧ wpFor mg mb D (ds.drop i) Γ, ⟨_, rfl, F1, Γ, R1.rebase, by simpa using q1⟩, fun i m σ2 H2 ⟨hm, F2, Γ2, R2, q2⟩ => ?_⟩
    have W := w F2 H2 R2.ext.ff R2.ok i
    by_cases hlt : i < ds.length
    · obtain ⟨go, yl⟩ := W.1 hlt
      refine .inr ⟨go, fun σ' H' => ∃ F Γ, Rel X.K dA F1 H0 F H' σ' Γ ∧ wpFor mg mb D (ds.drop (i + 1)) Γ, fun σ' H' h => ⟨ds.length - (i + 1), by omega, rfl, h⟩, fun x H3 y => ?_⟩
      obtain ⟨F3, d, e3, k3, hd, r3⟩ := yl x H3 y
      have hdd : ds.drop i = d :: ds.drop (i + 1) := by
        rw [List.drop_eq_getElem_cons hlt]
        rw [List.getElem?_eq_getElem hlt] at hd
        rw [Option.some.inj hd]
      rw [hdd] at q2
      have R3 := R2.step e3 k3
      refine hg.sim R3 r3 q2 fun σ4 Γ4 R4 _ q4 => ?_
      refine hb.sim R4 q4 ⟨fun F' H' σ' Γ' R' q' => ⟨F', Γ', R', q'⟩, fun F' H' d v e' k' r' q' => f.rt F' H' d v (R1.ext.unbase e') k' r' q', fun F' H' σ' Γ' R' q' => f.nx F' H' σ' Γ' (Rel.unbase R1.ext R') q', fun F' H' σ' Γ' R' q' => ⟨F', Γ', R', q'⟩⟩
    · refine .inl ⟨W.2 (by omega), ?_⟩
      rw [List.drop_of_length_le (by omega)] at q2
      exact f.nx F2 H2 σ2 Γ2 (Rel.unbase R1.ext R2) q2⟩
/-! ### while -/
def vWhile (mt : Vt) (mb : Vs) : Vs := fun D Γ => ∃ W : Nat → Ev → Prop, (∃ n, W n Γ) ∧ ∀ n Γ, W n Γ → mt Γ fun b => if b = true then mb { nx := fun Γ' => ∃ k, k < n ∧ W k Γ', rt := D.rt, bk := D.nx, ct := fun Γ' => ∃ k, k < n ∧ W k Γ' } Γ else D.nx Γ
theorem vs_while {c : Expr} {body : List Stmt} {tt : TT} {mt : Vt} {tb : TS} {mb : Vs} (hp : PassesOwn (model X.prog X.w) X.A X.env X.xe) (hc : VT X c tt mt) (hb : VB X body tb mb) : VS X (.While c body [] pos) (tWhile tt tb) (vWhile mt mb) :=
  ⟨ps_while hp hc.pt hb.pss, fun {dA F0 H0 F H σ Γ D Dk} R q f => by
    obtain ⟨W, ⟨n0, w0⟩, turn⟩ := q
    refine ⟨fun n σ H => ∃ F Γ, Rel X.K dA F0 H0 F H σ Γ ∧ W n Γ, ⟨n0, F, Γ, R, w0⟩, fun n σ2 H2 ⟨F2, Γ2, R2, w2⟩ => ?_⟩
    refine hc.sim R2 (turn n Γ2 w2) fun F3 H3 b e3 k3 q3 => ?_
    cases b with
    | false =>
      have q3 : D.nx Γ2 := q3
      exact f.nx F3 H3 σ2 Γ2 (R2.step e3 k3) q3
    | true =>
      rw [if_pos rfl] at q3 ⊢
      refine ⟨fun σ' H' => ∃ k, k < n ∧ ∃ F Γ, Rel X.K dA F0 H0 F H' σ' Γ ∧ W k Γ, fun σ' H' h => h, ?_⟩
      refine hb.sim (R2.step e3 k3) q3 ⟨fun F' H' σ' Γ' R' ⟨k, hk, w'⟩ => ⟨k, hk, F', Γ', R', w'⟩, f.rt, fun F' H' σ' Γ' R' q' => f.nx F' H' σ' Γ' R' q', fun F' H' σ' Γ' R' ⟨k, hk, w'⟩ => ⟨k, hk, F', Γ', R', w'⟩⟩⟩

/-! ### comprehensions -/
structure VTq (X : Cx) (ifs : List Expr) (t : TT) (m : Vt) : Prop where
  pts : PTs X ifs t
  sim : ∀ {dA F0 H0 F H σ Γ Q Qk}, Rel X.K dA F0 H0 F H σ Γ → m Γ Q → FinT X.K dA F H Q Qk → t σ H Qk
def vYes : Vt := fun _ Q => Q true
theorem vq_nil : VTq X [] tYes vYes := ⟨pts_nil, fun {dA F0 H0 F H σ Γ Q Qk} R q f => f F H true Ext.refl R.ok q⟩
theorem vq_one {c : Expr} {tt : TT} {mt : Vt} (h : VT X c tt mt) : VTq X [c] tt mt := ⟨pts_one h.pt, h.sim⟩
def wipeG (Γ : Ev) : List Nat → Ev
  | [] => Γ
  | v :: vs => (wipeG Γ vs).set v .no
theorem Rel.wipe {K : PySem.W.Frag} {dA : Option Addr} {F0 H0 F H : Hp} {σ : L2.St} {Γ : Ev} (R : Rel K dA F0 H0 F H σ Γ) : ∀ vs : List Nat, Rel K dA F0 H0 F H (L2.wipe σ vs) (wipeG Γ vs)
  | [] => R
  | v :: vs => (R.wipe vs).drop v none
def wpLc (mg : Vg) (mt : Vt) (me : Vm) (Γ : Ev) (Q : List D → Prop) : List D → List D → Prop
  | [], acc => Q acc
  | d :: ds, acc => mg d Γ fun Γ' => mt Γ' fun b => if b = true then me Γ' fun y => acc.length < 1000000 ∧ wpLc mg mt me Γ Q ds (acc ++ [y]) else wpLc mg mt me Γ Q ds acc
def vLc (mi : Va) (mg : Vg) (mt : Vt) (me : Vm) (vs : List Nat) : Va := fun Γ Q => mi Γ fun ds => wpLc mg mt me (wipeG Γ vs) Q ds []
/-- a new object is changed: what was before it stays -/
theorem Ext.ownStep {dA : Option Addr} {F0 H0 F H : Hp} {p : Addr} {o : HO} (e : Ext dA F0 H0 F H) (hp : H0 p = Option.none) : Ext dA F0 H0 F (upd H p o) := ⟨e.ff, fun c x q n => by
  rw [upd_ne (ne_of_none q hp)]
  exact e.keep c x q n, e.new, fun c x q => by
  obtain ⟨y, z⟩ := e.dom c x q
  exact ⟨y, by rw [upd_ne (ne_of_none q hp)]; exact z⟩⟩
theorem Ok.ownStep {K : PySem.W.Frag} {dA : Option Addr} {F H : Hp} {p : Addr} {o : HO} (k : Ok K dA F H) (hf : F p = Option.none) (hd : dA ≠ some p) : Ok K dA F (upd H p o) := ⟨fun c x q => by
  rw [upd_ne (ne_of_none q hf)]
  exact k.sub c x q, fun a q => by
  obtain ⟨h1, h2⟩ := k.tok a q
  have ne : a ≠ p := fun z => hd (by rw [← z]; exact q)
  exact ⟨h1, h2.mono (Same.refl F) (upd_ne ne)⟩⟩
theorem sim_lc {K : PySem.W.Frag} {wi : TI} {mi : Va} {tt : TT} {mt : Vt} {te : TE} {me : Vm} {vs : List Nat} {g : TG} {mg : Vg} {L : List Nat}
    (hi : ∀ {dA F0 H0 F H σ Γ Q R}, Rel K dA F0 H0 F H σ Γ → mi Γ Q → (∀ J F' H' ds, Ext dA F H F' H' → Ok K dA F' H' → WalkE K dA J F' H' ds → Q ds → R J H') → wi σ H R)
    (hg : ∀ {dA F0 H0 F H σ Γ d v Q Qk}, Rel K dA F0 H0 F H σ Γ → Rep K dA F d v → mg d Γ Q → (∀ σ' Γ', Rel K dA F0 H0 F H σ' Γ' → Touch L σ σ' → Q Γ' → Qk σ' H) → g v σ H Qk)
    (ht : ∀ {dA F0 H0 F H σ Γ Q Qk}, Rel K dA F0 H0 F H σ Γ → mt Γ Q → FinT K dA F H Q Qk → tt σ H Qk)
    (he : ∀ {dA F0 H0 F H σ Γ Q Qk}, Rel K dA F0 H0 F H σ Γ → me Γ Q → Fin K dA F H Q Qk → te σ H Qk) (hL : ∀ i ∈ L, i ∈ vs) :
    ∀ {dA F0 H0 F H σ Γ Q Qk}, Rel K dA F0 H0 F H σ Γ → vLc mi mg mt me vs Γ Q → FinL K dA F H Q Qk → tLc wi g tt te vs σ H Qk := fun {dA F0 H0 F H σ Γ Q Qk} R q f => by
  refine hi R q fun J F1 H1 ds e1 k1 w q1 p hp => ?_
  have R1 := R.step e1 k1
  have hd : dA ≠ some p := k1.tne hp
  refine ⟨fun i m H => m = ds.length - i ∧ ∃ F acc ws, Ext dA F1 H1 F H ∧ Ok K dA F H ∧ H p = some (.lst ws) ∧ F p = none ∧ RepL K dA F acc ws ∧ wpLc mg mt me (wipeG Γ vs) Q (ds.drop i) acc,
    ⟨_, rfl, F1, [], [], (growOwn k1 hp).1, (growOwn k1 hp).2, upd_same, k1.fnone hp, rfl, by simpa using q1⟩, fun i m H2 ⟨hm, F2, acc, ws, e2, k2, h2, f2, r2, q2⟩ => ?_⟩
  have W := w F2 H2 e2 k2 i
  by_cases hlt : i < ds.length
  · obtain ⟨go, yl⟩ := W.1 hlt
    refine .inr ⟨go, fun H => ∃ F acc ws, Ext dA F1 H1 F H ∧ Ok K dA F H ∧ H p = some (.lst ws) ∧ F p = none ∧ RepL K dA F acc ws ∧ wpLc mg mt me (wipeG Γ vs) Q (ds.drop (i + 1)) acc, fun H h => ⟨ds.length - (i + 1), by omega, rfl, h⟩, fun x H3 y => ?_⟩
    obtain ⟨F3, d, e3, k3, hdi, r3⟩ := yl x H3 y
    have hdd : ds.drop i = d :: ds.drop (i + 1) := by
      rw [List.drop_eq_getElem_cons hlt]
      rw [List.getElem?_eq_getElem hlt] at hdi
      rw [Option.some.inj hdi]
    rw [hdd] at q2
    have R3 := (R1.step (e2.trans e3) k3).wipe vs
    refine hg R3 r3 q2 fun σ4 Γ4 R4 t4 q4 => ⟨?_, ?_⟩
    · rw [t4 vs hL]
      have z : ∀ (σ : L2.St) (us : List Nat), (∀ i ∈ us, i ∈ vs) → ∀ (j : Nat), (wipe (wipe σ vs) us)[j]? = (wipe σ vs)[j]? := fun σ us => by
        induction us with
        | nil => intro _ j; rfl
        | cons u us ih =>
          intro hu j
          show ((wipe (wipe σ vs) us).set u none)[j]? = _
          by_cases hj : u = j
          · subst hj
            by_cases hlen : u < (wipe (wipe σ vs) us).length
            · rw [List.getElem?_set_self hlen]
              have h1 : ∀ v, (wipe σ vs)[u]? ≠ some (some v) := fun v hv => (wipe_some hv).2 (hu u List.mem_cons_self)
              rw [wipe_length] at hlen
              rw [List.getElem?_eq_getElem hlen]
              rw [List.getElem?_eq_getElem hlen] at h1
              cases hc : (wipe σ vs)[u] with
              | none => rfl
              | some v => exact absurd (by rw [hc]) (h1 v)
            · rw [List.getElem?_eq_none (by simpa using hlen), List.getElem?_eq_none (by rw [wipe_length] at hlen; omega)]
          · rw [List.getElem?_set_ne hj]
            exact ih (fun i hi => hu i (List.mem_cons_of_mem _ hi)) j
      exact List.ext_getElem? fun j => z σ vs (fun _ h => h) j
    · refine ht R4 q4 fun F5 H5 b e5 k5 q5 => ?_
      have n3 : F3 p = none := e3.fkeep h2 f2
      have h3 : H3 p = some (.lst ws) := e3.keep _ _ h2 hd
      have n5 : F5 p = none := e5.fkeep h3 n3
      have h5 : H5 p = some (.lst ws) := e5.keep _ _ h3 hd
      cases b with
      | false =>
        have q5 : wpLc mg mt me (wipeG Γ vs) Q (ds.drop (i + 1)) acc := q5
        exact ⟨F5, acc, ws, (e2.trans e3).trans e5, k5, h5, n5, RepL.mono (e3.ff.trans e5.ff) _ _ r2, q5⟩
      | true =>
        rw [if_pos rfl] at q5 ⊢
        refine he (R4.step e5 k5) q5 fun F6 H6 dy y6 e6 k6 r6 ⟨hl, q6⟩ => ?_
        have n6 : F6 p = none := e6.fkeep h5 n5
        have h6 : H6 p = some (.lst ws) := e6.keep _ _ h5 hd
        have r2' := RepL.mono ((e3.ff.trans e5.ff).trans e6.ff) _ _ r2
        exact ⟨ws, h6, line_lt (by rw [r2.length]; exact hl), F6, acc ++ [dy], ws ++ [y6], (((e2.trans e3).trans e5).trans e6).ownStep hp, k6.ownStep n6 hd, upd_same, n6, RepL.append r2' (RepL.one r6), q6⟩
  · refine .inl ⟨W.2 (by omega), ?_⟩
    rw [List.drop_of_length_le (by omega)] at q2
    exact f F2 H2 p acc ws (e1.trans e2) k2 (e1.none hp) f2 h2 r2 q2
noncomputable def sh0 : Shared := (PySem.start (PySem.W.plainProg [])).1
/-- what stands for each block -/
abbrev Bk (α : Type) := Shared → Hp → Addr → List (Str × Addr) → List Addr → α
noncomputable def b0 {α : Type} (f : Bk α) : α := f sh0 (fun _ => none) 0 [] []
theorem vl_lc {elt : Expr} {ifs : List Expr} {scope : Scope} {own : List (Str × Nat)} {wi : TI} {mi : Va} {g : Bk TG} {tt : Bk TT} {mt : Vt} {te : Bk TE} {me : Vm} (hc : X.calm = true) (hN : X.N.Nodup) (hi : VIe X tg iter wi mi) (ok : blkC X.N X.env.scope scope own = true)
    (hg : ∀ (s : Shared) (H : Hp) (C : Addr) (cl : List (Str × Addr)) (fp : List Addr), VT1 (X.blk s H scope (compEnvC scope cl C X.env) fp) tg (g s H C cl fp) L mg) (ht : ∀ (s : Shared) (H : Hp) (C : Addr) (cl : List (Str × Addr)) (fp : List Addr), VTq (X.blk s H scope (compEnvC scope cl C X.env) fp) ifs (tt s H C cl fp) mt)
    (he : ∀ (s : Shared) (H : Hp) (C : Addr) (cl : List (Str × Addr)) (fp : List Addr), VE (X.blk s H scope (compEnvC scope cl C X.env) fp) elt (te s H C cl fp) me) (hL : ∀ i ∈ L, i ∈ own.map (·.2) := by decide) (hs : ∀ x, foldedSetIterable iter X.env x = pure x := by intro _; rfl) (eg : ∀ s H C cl fp, g s H C cl fp = b0 g := by intros; rfl) (et : ∀ s H C cl fp, tt s H C cl fp = b0 tt := by intros; rfl) (ee : ∀ s H C cl fp, te s H C cl fp = b0 te := by intros; rfl) :
    VL X (.ListComp elt [⟨tg, iter, ifs, 0⟩] scope pos) (tLc wi (b0 g) (b0 tt) (b0 te) (own.map (·.2))) (vLc mi mg mt me (own.map (·.2))) :=
  ⟨pe_lc hc hN hi.pi (blkOk_by ok) (fun s H C cl fp => eg s H C cl fp ▸ (hg s H C cl fp).pg) (fun s H C cl fp => et s H C cl fp ▸ (ht s H C cl fp).pts) (fun s H C cl fp => ee s H C cl fp ▸ (he s H C cl fp).pe) hs,
   sim_lc (K := X.K) hi.sim (hg sh0 (fun _ => none) 0 [] []).sim (ht sh0 (fun _ => none) 0 [] []).sim (he sh0 (fun _ => none) 0 [] []).sim hL⟩
end
end LV
set_option Elab.async false
set_option linter.all false
set_option maxRecDepth 100000
set_option maxHeartbeats 4000000
/-! LV7: a def keeps its contract; instances made; more statements. -/
namespace LV
open PySem PySem.Spec PyProof.Rows L2

def entry (N : List Str) (ds : List D) : Ev := ds.map Sl.im ++ List.replicate (N.length - ds.length) Sl.no
/-- the context of a def's body -/
abbrev cxd (P : Program) (w : World) (K : PySem.W.Frag) (mg : Str → Option Value) (base : Heap) (N : List Str) (qual : Str) (scope : Scope) (f : Addr) (cd : Value) (A : Around) (outer : List Env) (s : Shared) (H : Hp) (E : XK) : Cx :=
  (cxOf CX0 P w K mg base N qual scope f cd A outer s H E).nox
section
variable {P : Program} {w : World} {K : PySem.W.Frag} {mg : Str → Option Value} {base : Heap}
theorem rel_entry {dA : Option Addr} {F H : Hp} {N : List Str} {ds : List D} {vs : List V} (k : Ok K dA F H) (r : RepL K dA F ds vs) (hl : ds.length ≤ N.length) : Rel K dA F H F H (L2.start N vs) (entry N ds) := by
  have hv := r.length
  refine ⟨k, Ext.refl, ?_, fun _ => none, fun a i h => (by cases h), fun i s h => ?_⟩
  · unfold L2.start entry
    simp only [List.length_append, List.length_map, List.length_replicate, hv]
  · unfold entry at h
    unfold L2.start
    by_cases hi : i < ds.length
    · rw [List.getElem?_append_left (by simpa using hi), List.getElem?_map, List.getElem?_eq_getElem hi] at h
      cases h
      obtain ⟨v, h1, h2⟩ := r.get (i := i) (List.getElem?_eq_getElem hi)
      refine ⟨some v, ?_, v, rfl, h2⟩
      rw [List.getElem?_append_left (by simpa [hv] using hi), List.getElem?_map, h1] <;> rfl
    · rw [List.getElem?_append_right (by simpa using hi), List.getElem?_replicate] at h
      split at h
      · rename_i hj
        cases h
        refine ⟨none, ?_, trivial⟩
        rw [List.getElem?_append_right (by simp only [List.length_map, hv]; omega), List.getElem?_replicate, if_pos (by simp only [List.length_map, hv] at hj ⊢; omega)]
      · cases h
theorem fn_ok {name qual : Str} {params : Arguments} {body : List Stmt} {scope : Scope} {dvs : List V} {kws : List (Str × V)} {f : Addr} {fd : FuncData} {N ps : List Str} {k : Nat} {c : Ct} {m : Vs} (F : FunD K name qual params body scope dvs kws f fd) (S : FnScope N ps scope) (hn : ps.length = c.n)
    (hb : ∀ (cdv : Value) (A : Around) (outer : List Env) (s : Shared) (H : Hp) (E : XK), Room k (A.deeper (envOfC qual scope s.heap.objs.size f cdv)) → ∃ t, VB (cxd P w K mg base N qual scope f cdv A outer s H E) body t m)
    (hm : ∀ g, c.pre g → m { nx := fun _ => c.post g .non, rt := c.post g } (entry N (c.arg g))) : FnOk P w K mg base CX0 (k + 1) f fd ps (spOf K c) := by
  have hpl : ps.length ≤ N.length := by
    have z := congrArg List.length S.pre
    rw [List.length_take] at z
    omega
  refine F.ok S (fun vs H Q E h => ?_) fun cdv A outer s H vs Q E hr h => ?_
  · obtain ⟨dA, F0, g, _, r, _⟩ := h
    rw [r.length, c.len, hn]
  · obtain ⟨dA, F0, g, k0, r, hp, q⟩ := h
    have hl := c.len g
    obtain ⟨t, B⟩ := hb cdv A outer s H E hr
    refine ⟨t, B.pss.nox, B.sim (rel_entry k0 r (by omega)) (hm g hp) ⟨fun F' H' σ' Γ' R' q' => q F' H' .non .non R'.ext R'.ok rfl q', q, fun _ _ _ _ _ z => z.elim, fun _ _ _ _ _ z => z.elim⟩⟩
/-- an instance's own slot at the entry -/
theorem rel_init {dA : Option Addr} {F H00 : Hp} {N : List Str} {cn : Str} {ds : List D} {vs : List V} {x dx : Addr} (k : Ok K dA F H00) (hx : H00 x = none) (hdx : H00 dx = none) (ne : dx ≠ x) (r : RepL K dA F ds vs) (hl : ds.length + 1 ≤ N.length) :
    Rel K dA F H00 F (upd (upd H00 dx (.own x)) x (.ins (He.ga K cn) dx [])) (L2.start N (.ref x :: vs)) ((entry N (.non :: ds)).set 0 (.ob x cn [] [])) := by
  obtain ⟨e1, k1⟩ := growOwn (o := .own x) k hdx
  have hx1 : (upd H00 dx (.own x)) x = none := by
    rw [upd_ne ne.symm]
    exact hx
  obtain ⟨e2, k2⟩ := growOwn (o := .ins (He.ga K cn) dx []) k1 hx1
  have R0 : Rel K dA F H00 F H00 (L2.start N (.non :: vs)) (entry N (.non :: ds)) := rel_entry k (RepL.cons rfl r) (by simpa using hl)
  have R := R0.setNew (s := .ob x cn [] []) (o := some (.ref x)) (e1.trans e2) k2 0 (fun a => a = x) (fun a z => by rw [z]; exact ⟨hx, k.fnone hx, _, upd_same, fun _ z => nomatch z⟩) fun own' ho => ⟨dx, [], rfl, ho x rfl, upd_same, rfl, rfl⟩
  exact R
theorem Rel.settleOb {dA : Option Addr} {F0 H0 F H : Hp} {σ : L2.St} {Γ : Ev} (R : Rel K dA F0 H0 F H σ Γ) {i : Nat} {x : Addr} {cn : Str} {ns : List Str} {ds : List D} (hs : Γ[i]? = some (.ob x cn ns ds)) : ∃ F1, Rel K dA F0 H0 F1 H σ (Γ.set i (.im (.obj cn ns ds))) :=
  R.settle hs fun own o h1 ho h2 => by
    obtain ⟨dx, fs, rfl, h3, h4, h5, h6⟩ := h2
    obtain ⟨_, g2, _, _⟩ := ho x i h3
    have s : Same F (upd F x (.ins (He.ga K cn) dx fs)) := fun b y q => by
      have ne : b ≠ x := fun z => by
        rw [z, g2] at q
        cases q
      rw [upd_ne ne]
      exact q
    refine ⟨upd F x (.ins (He.ga K cn) dx fs), s, fun b y q => ?_, fun b y q => ?_, .ref x, rfl, x, dx, fs, rfl, upd_same, h5, RepL.mono s _ _ h6⟩
    · by_cases hb : b = x
      · rw [hb] at q ⊢
        rw [upd_same] at q
        cases q
        exact h4
      · rw [upd_ne hb] at q
        exact R.ok.sub b y q
    · by_cases hb : b = x
      · rw [hb]
        exact .inr h3
      · rw [upd_ne hb] at q
        exact .inl q
theorem init_ok {name qual cn : Str} {params : Arguments} {body : List Stmt} {scope : Scope} {dvs : List V} {kws : List (Str × V)} {f : Addr} {fd : FuncData} {N ps : List Str} {k : Nat} {c : Ct} {m : Vs} (F : FunD K name qual params body scope dvs kws f fd) (S : FnScope N ps scope) (hn : ps.length = c.n + 1)
    (hb : ∀ (cdv : Value) (A : Around) (outer : List Env) (s : Shared) (H : Hp) (E : XK), Room k (A.deeper (envOfC qual scope s.heap.objs.size f cdv)) → ∃ t, VB (cxd P w K mg base N qual scope f cdv A outer s H E) body t m)
    (hm : ∀ x g, c.pre g → m { nx := fun Γ => ∃ ns ds', Γ[0]? = some (.ob x cn ns ds') ∧ c.post g (.obj cn ns ds'), rt := fun _ => False } ((entry N (.non :: c.arg g)).set 0 (.ob x cn [] []))) : FnOk P w K mg base CX0 (k + 1) f fd ps (spInit K cn c) := by
  have hpl : ps.length ≤ N.length := by
    have z := congrArg List.length S.pre
    rw [List.length_take] at z
    omega
  refine F.ok S (fun vs H Q E h => ?_) fun cdv A outer s H vs Q E hr h => ?_
  · obtain ⟨dA, F0, H00, x, dx, rest, g, rfl, _, _, _, _, _, r, _⟩ := h
    rw [List.length_cons, r.length, c.len, hn]
  · obtain ⟨dA, F0, H00, x, dx, rest, g, rfl, rfl, hx, hdx, ne, k0, r, hp, q⟩ := h
    have hl := c.len g
    obtain ⟨t, B⟩ := hb cdv A outer s (upd (upd H00 dx (.own x)) x (.ins (He.ga K cn) dx [])) E hr
    refine ⟨t, B.pss.nox, B.sim (rel_init (N := N) k0 hx hdx ne r (by omega)) (hm x g hp) ⟨fun F' H' σ' Γ' R' q' => ?_, fun _ _ _ _ _ _ _ z => z.elim, fun _ _ _ _ _ z => z.elim, fun _ _ _ _ _ z => z.elim⟩⟩
    obtain ⟨ns, ds', h0, hpost⟩ := q'
    obtain ⟨F1, R1⟩ := R'.settleOb h0
    obtain ⟨v, h1, h2⟩ := R1.get (i := 0) (d := .obj cn ns ds') (by
      have hlt : 0 < Γ'.length := (List.getElem?_eq_some_iff.mp h0).1
      rw [List.getElem?_set_self hlt])
    obtain ⟨own, ho, hs⟩ := R'.sl
    obtain ⟨o, g1, dx', fs', g2, _⟩ := hs 0 _ h0
    have ev : v = .ref x := by
      rw [g1, g2] at h1
      cases h1
      rfl
    rw [ev] at h2
    exact q F1 H' _ R1.ext R1.ok h2 hpost
end
end LV
set_option Elab.async false
set_option linter.all false
set_option maxRecDepth 100000
set_option maxHeartbeats 4000000
/-! World: what the head leaves, as the defs' proofs take it. -/
namespace LV
open PySem PySem.Spec PyProof.Rows L2

/-- the module's names -/
structure Gb (K : PySem.W.Frag) (mg : Str → Option Value) : Prop where
  len : mg "len" = none
  isinstance : mg "isinstance" = none
  int : mg "int" = none
  bool : mg "bool" = none
  list : mg "list" = none
  tuple : mg "tuple" = none
  enumerate : mg "enumerate" = none
  range : mg "range" = none
  sorted : mg "sorted" = none
  sum : mg "sum" = none
  any : mg "any" = none
  all : mg "all" = none
  set : mg "set" = none
  min : mg "min" = none
  words : ∃ t, mg "MOST_WORDS" = some (.int 4 t)
  levels : ∃ t, mg "MOST_LEVELS" = some (.int 37 t)
  nodes : ∃ t, mg "MOST_NODES" = some (.int 12 t)
  gcd : mg "gcd" = some (.builtin "math.gcd")
  non : mg "NONE" = some (.ref (He.ga K "NONE"))
  nonT : ∀ H, SqT K H (He.ga K "NONE") [.int 0, .int 1]
  cView : Cls K (He.ga K "View")
  cPaper : Cls K (He.ga K "ShortPaper")
  cFault : Cls K (He.ga K "ShortFault")
  aV1 : NoAttr K (He.ga K "View") "levels"
  aV2 : NoAttr K (He.ga K "View") "round"
  aP1 : NoAttr K (He.ga K "ShortPaper") "found"
  aP2 : NoAttr K (He.ga K "ShortPaper") "levels"
  aP3 : NoAttr K (He.ga K "ShortPaper") "numbers"
  aP4 : NoAttr K (He.ga K "ShortPaper") "houses"
  aP5 : NoAttr K (He.ga K "ShortPaper") "counts"
  aP6 : NoAttr K (He.ga K "ShortPaper") "told"
  aF1 : NoAttr K (He.ga K "ShortFault") "what"
  aF2 : NoAttr K (He.ga K "ShortFault") "level"
structure Wd (K : PySem.W.Frag) (mg : Str → Option Value) : Prop where
  gb : Gb K mg
  df : ∀ (i : Nat) (d : He.DefD), HH.fn[i]? = some d → ∃ fd, FunD K d.name d.qual d.params d.body d.scope (d.dvs K) (d.kws K) (He.fAd K d.at_) fd
  glo : ∀ (i : Nat) (x : Str), HH.fa[i]? = some (.glo x) → mg x = some (.ref (He.ga K x))
  fact : ∀ (i : Nat) (f : He.Fa), HH.fa[i]? = some f → f.ok K = true
section
variable {P : Program} {w : World} {K : PySem.W.Frag} {mg : Str → Option Value} {base : Heap}
/-- a def of the module, by its number in fn and its name's in fa -/
theorem Wd.fn (W : Wd K mg) {x : Str} {c : Ct} {k : Nat} (i : Nat) {d : He.DefD} (hd : HH.fn[i]? = some d) (hat : d.at_ = (x, none)) (j : Nat) (hj : HH.fa[j]? = some (.glo x)) (ps : List Str) (h0 : d.dfl = []) (h1 : d.kwd = [])
    (hbd : ∀ (kV doc pm : Value) (an : Option Addr) (cdv ct : Value) (us : List Value), us.length = ps.length → bindArgs (PySem.W.fnOf d.name d.qual d.params d.body d.scope .none kV doc pm an cdv ct) ⟨us, []⟩ = pure (ps.zip us))
    (ok : ∀ (f : Addr) (fd : FuncData), FunD K d.name d.qual d.params d.body d.scope [] [] f fd → FnOk P w K mg base CX0 k f fd ps (spOf K c)) : Fn P w K mg base k x c := by
  obtain ⟨fd, F⟩ := W.df i d hd
  have e1 : d.dvs K = [] := by
    unfold He.DefD.dvs
    rw [h0] <;> rfl
  have e2 : d.kws K = [] := by
    unfold He.DefD.kws
    rw [h1] <;> rfl
  have e3 : He.fAd K d.at_ = He.ga K x := by
    rw [hat] <;> rfl
  rw [e1, e2, e3] at F
  exact ⟨_, fd, ps, ok _ _ F, W.glo j x hj, F.kp, FunD.bindsN F hbd⟩
/-- the making of a class's instance -/
theorem Wd.mkr (W : Wd K mg) {x : Str} {c : Ct} {k : Nat} (i : Nat) {d : He.DefD} (hd : HH.fn[i]? = some d) (hat : d.at_ = (x, some ("__init__" : Str))) (j : Nat) (hj : HH.fa[j]? = some (.glo x)) (j2 : Nat) (hj2 : HH.fa[j2]? = some (.mkr x)) (ps : List Str) (h0 : d.dfl = []) (h1 : d.kwd = [])
    (hbd : ∀ (kV doc pm : Value) (an : Option Addr) (cdv ct : Value) (us : List Value), us.length = ps.length → bindArgs (PySem.W.fnOf d.name d.qual d.params d.body d.scope .none kV doc pm an cdv ct) ⟨us, []⟩ = pure (ps.zip us))
    (ok : ∀ (f : Addr) (fd : FuncData), FunD K d.name d.qual d.params d.body d.scope [] [] f fd → FnOk P w K mg base CX0 k f fd ps (spInit K x c)) : Mkr P w K mg base k x c := by
  obtain ⟨fd, F⟩ := W.df i d hd
  have e1 : d.dvs K = [] := by
    unfold He.DefD.dvs
    rw [h0] <;> rfl
  have e2 : d.kws K = [] := by
    unfold He.DefD.kws
    rw [h1] <;> rfl
  have e3 : He.fAd K d.at_ = He.ma K (He.ga K x) "__init__" := by
    rw [hat] <;> rfl
  rw [e1, e2, e3] at F
  exact ⟨_, fd, ps, ok _ _ F, W.glo j x hj, He.mkr_ok (W.fact j2 _ hj2), FunD.bindsN F hbd⟩
/-- a method -/
theorem Wd.mh (W : Wd K mg) {x m : Str} {c : Ct} {k : Nat} (i : Nat) {d : He.DefD} (hd : HH.fn[i]? = some d) (hat : d.at_ = (x, some m)) (cl : Cls K (He.ga K x)) (j2 : Nat) (hj2 : HH.fa[j2]? = some (.meth x m)) (ps : List Str) (h0 : d.dfl = []) (h1 : d.kwd = [])
    (hbd : ∀ (kV doc pm : Value) (an : Option Addr) (cdv ct : Value) (us : List Value), us.length = ps.length → bindArgs (PySem.W.fnOf d.name d.qual d.params d.body d.scope .none kV doc pm an cdv ct) ⟨us, []⟩ = pure (ps.zip us))
    (ok : ∀ (f : Addr) (fd : FuncData), FunD K d.name d.qual d.params d.body d.scope [] [] f fd → FnOk P w K mg base CX0 k f fd ps (spOf K c)) : Mh P w K mg base k x m c := by
  obtain ⟨fd, F⟩ := W.df i d hd
  have e1 : d.dvs K = [] := by
    unfold He.DefD.dvs
    rw [h0] <;> rfl
  have e2 : d.kws K = [] := by
    unfold He.DefD.kws
    rw [h1] <;> rfl
  have e3 : He.fAd K d.at_ = He.ma K (He.ga K x) m := by
    rw [hat] <;> rfl
  rw [e1, e2, e3] at F
  exact ⟨_, fd, ps, ok _ _ F, cl, He.meth_ok (W.fact j2 _ hj2), FunD.bindsN F hbd⟩
end
end LV
set_option Elab.async false
set_option linter.all false
set_option maxRecDepth 100000
set_option maxHeartbeats 4000000
namespace HH
open PySem PySem.Spec PyProof.Rows L2 HeadRun PySem.W
/-- what isinstance asks of an own class -/
def insB (K : PySem.W.Frag) (x : Str) : Bool := He.eqO (PySem.W.findIn K (.ref (He.ga K x)) "__class__") (some (some (.builtin "object.__class__"))) && (He.eqO (PySem.W.specialIn K (.builtin "object.__class__") "__get__") (some (some (.builtin "getset_descriptor.__get__"))) &&
  (decide (PySem.W.takesIn K (.builtin "object.__class__") = some true) && (decide (PySem.W.mroIn K (He.ga K x) (.type "object") = some true) && decide (PySem.W.kitOne K (.ref (He.ga K x)) (.ref (He.ga K x)) = some true))))
theorem ins_ok {K : PySem.W.Frag} {x : Str} (cl : Cls K (He.ga K x)) (c : insB K x = true) : C8.InsC K (He.ga K x) := by
  obtain ⟨c1, c⟩ := He.ba c
  obtain ⟨c2, c⟩ := He.ba c
  obtain ⟨c3, c⟩ := He.ba c
  obtain ⟨c4, c5⟩ := He.ba c
  exact ⟨cl, He.eqO_ok c1, He.eqO_ok c2, of_decide_eq_true c3, of_decide_eq_true c4, of_decide_eq_true c5⟩
def xtra2 (K : PySem.W.Frag) : Bool := xtra K && insB K "ShortFault"
def obsM2 (K : PySem.W.Frag) : He.AlD := ((He.obsD fa fn K).1 && xtra2 K, (He.obsD fa fn K).2)
def obsMG2 (g : Addr → Option Obj) : He.AlD := obsM2 (He.frG g (asM g))
def hk2 : PySem.W.Hook where
  α := He.AlD
  obs := fun s => obsMG2 s.heap.get?
  val := fun _ => He.valD fn
  says := fun _ h => ∃ K : PySem.W.Frag, K.In h ∧ obsM2 K = He.valD fn
  of := fun _ _ e => ⟨_, He.frG_in, e⟩
  keeps := fun _ _ _ ⟨K, hK, c⟩ k => ⟨K, PySem.W.Frag.In.keeps hK k, c⟩
def ob2 (s : PySem.W.SharedT) : He.AlD := obsMG2 (HeadRun.getT s)
theorem ob2_eq (s : PySem.W.SharedT) : ob2 s = hk2.obs s.abs := by
  have e : HeadRun.getT s = s.abs.heap.get? := funext fun a => HeadRun.getT_eq s a
  show obsMG2 (HeadRun.getT s) = obsMG2 s.abs.heap.get?
  rw [e]
end HH
set_option Elab.async false
set_option linter.all false
set_option maxRecDepth 100000
set_option maxHeartbeats 4000000
/-! Fin0: the head's observation as the defs' proofs take it. -/
namespace LV
open PySem PySem.Spec PyProof.Rows L2
theorem wd_ok {K : PySem.W.Frag} {h : Heap} {mg : Str → Option Value} (X : K.In h) (G : h.Ns mainGlobals mg) (c : HH.obsM2 K = He.valD HH.fn) : Wd K mg ∧ C8.InsC K (He.ga K "ShortFault") := by
  have c1 : ((He.obsD HH.fa HH.fn K).1 && HH.xtra2 K) = true := congrArg (fun z : He.AlD => z.1) c
  obtain ⟨c2, c3⟩ := He.ba c1
  obtain ⟨c4, c5⟩ := He.ba c3
  obtain ⟨x1, c6⟩ := He.ba c4
  obtain ⟨x2, x3⟩ := He.ba c6
  have c8 := congrArg (fun z : He.AlD => z.2) c
  have c7 : (He.obsD HH.fa HH.fn K).2 = (He.valD HH.fn).2 := c8
  have fc : He.SaysD HH.fa HH.fn K := Prod.ext c2 c7
  have gb : Gb K mg := ⟨(He.free_ok X G (fc.fact 71 (f := .free "len") rfl)),
    (He.free_ok X G (fc.fact 72 (f := .free "isinstance") rfl)),
    (He.free_ok X G (fc.fact 73 (f := .free "int") rfl)),
    (He.free_ok X G (fc.fact 74 (f := .free "bool") rfl)),
    (He.free_ok X G (fc.fact 75 (f := .free "list") rfl)),
    (He.free_ok X G (fc.fact 76 (f := .free "tuple") rfl)),
    (He.free_ok X G (fc.fact 77 (f := .free "enumerate") rfl)),
    (He.free_ok X G (fc.fact 78 (f := .free "range") rfl)),
    (He.free_ok X G (fc.fact 79 (f := .free "sorted") rfl)),
    (He.free_ok X G (fc.fact 80 (f := .free "sum") rfl)),
    (He.free_ok X G (fc.fact 81 (f := .free "any") rfl)),
    (He.free_ok X G (fc.fact 82 (f := .free "all") rfl)),
    (He.free_ok X G (fc.fact 83 (f := .free "set") rfl)),
    (He.free_ok X G (fc.fact 84 (f := .free "min") rfl)),
    (He.int_ok X G (fc.fact 85 (f := .int "MOST_WORDS" 4) rfl)),
    (He.int_ok X G (fc.fact 86 (f := .int "MOST_LEVELS" 37) rfl)),
    (He.int_ok X G (fc.fact 87 (f := .int "MOST_NODES" 12) rfl)),
    (PySem.W.mg_of X G (He.eqO_ok x1)),
    (PySem.W.mg_of X G (He.eqO_ok x2)),
    (fun H => He.tupB_ok x3 H),
    (He.cls_ok (fc.fact 89 (f := .cls "View") rfl)),
    (He.cls_ok (fc.fact 94 (f := .cls "ShortPaper") rfl)),
    (He.cls_ok (fc.fact 103 (f := .cls "ShortFault") rfl)),
    (He.noat_ok (fc.fact 91 (f := .noat "View" "levels") rfl)),
    (He.noat_ok (fc.fact 92 (f := .noat "View" "round") rfl)),
    (He.noat_ok (fc.fact 96 (f := .noat "ShortPaper" "found") rfl)),
    (He.noat_ok (fc.fact 97 (f := .noat "ShortPaper" "levels") rfl)),
    (He.noat_ok (fc.fact 98 (f := .noat "ShortPaper" "numbers") rfl)),
    (He.noat_ok (fc.fact 99 (f := .noat "ShortPaper" "houses") rfl)),
    (He.noat_ok (fc.fact 100 (f := .noat "ShortPaper" "counts") rfl)),
    (He.noat_ok (fc.fact 101 (f := .noat "ShortPaper" "told") rfl)),
    (He.noat_ok (fc.fact 105 (f := .noat "ShortFault" "what") rfl)),
    (He.noat_ok (fc.fact 106 (f := .noat "ShortFault" "level") rfl))⟩
  exact ⟨⟨gb, fun i d hd => fc.def_ i hd, fun i x hx => He.glo_ok X G (fc.fact i hx), fun i f hf => fc.fact i hf⟩, HH.ins_ok gb.cFault c5⟩
end LV
set_option Elab.async false
set_option linter.all false
set_option maxRecDepth 100000
set_option maxHeartbeats 0
namespace HH
open PySem PySem.Spec PyProof.Rows L2 HeadRun PySem.W

theorem run (w : World) : HeadRun.RunEqI R qv hk2 ob2 9000 loose w := by
  unfold HeadRun.RunEqI
  kernel_rfl
end HH
set_option Elab.async false
set_option linter.all false
set_option maxRecDepth 100000
set_option maxHeartbeats 4000000
/-! LV8: own lists changed, popped, repeated; fields of an instance that is being made; try; enumerate. -/
namespace LV
open PySem PySem.Spec PyProof.Rows L2
section
variable {X : Cx} {e a b c : Expr} {es : List Expr} {t ta tb tc te : TE} {m ma mb mc me : Vm} {pos p : Pos} {ta' : TA} {na nb : Va} {st : Stmt} {sts sts' : List Stmt} {ts tu : TS} {ms mu : Vs} {tt : TT} {mt : Vt}

/-- slot i's own list, its address -/
theorem ow_addr {K : PySem.W.Frag} {dA : Option Addr} {F H : Hp} {own : Addr → Option Nat} {i : Nat} {xs : List D} {a : Addr} {vs : List V} {σ : L2.St} {o : Option V} (h1 : σ[i]? = some (some (.ref a))) (g1 : σ[i]? = some o) (h2 : H a = some (.lst vs)) (g2 : SlOk K dA F H own i o (.ow xs)) : o = some (.ref a) ∧ own a = some i := by
  obtain ⟨a', vs', g3, g4, _⟩ := g2
  rw [h1] at g1
  cases g1
  cases g3
  exact ⟨rfl, g4⟩
/-- x[k] = v -/
def vSetIx (i : Nat) (mk mv : Vm) : Vs := fun D Γ => match Γ[i]? with
  | some (.ow xs) => mv Γ fun d => mk Γ fun y => match y with
    | .int k => ∃ j, ixN xs.length k = some j ∧ D.nx (Γ.set i (.ow (xs.set j d)))
    | _ => False
  | _ => False
theorem vs_setIx (i : Nat) {x : Str} {q pos' : Pos} {tk tv : TE} {mk mv : Vm} {kx vx : Expr} (hk : VE X kx tk mk) (hv : VE X vx tv mv) (hN : X.N[i]? = some x := by rfl) (hvi : Vis X.env.scope x := by first | exact Or.inl rfl | exact Or.inr (Or.inl rfl) | exact Or.inr (Or.inr rfl)) (hd : (x == ("__debug__" : Str)) = false := by decide)
    (hcd : (x == ("__classdict__" : Str)) = false := by decide)
    (ha : ∀ v, assign (.Subscript (.Name x q) kx pos') X.env v = (do
      let ov ← holding [v] (eval (.Name x q) X.env)
      let iv ← holding [v, ov] (eval kx X.env)
      standAt pos'
      holding [v, ov, iv] (setItem ov iv v)
      release [v, ov, iv] []) := by intro _; rfl)
    (hs : swapsWithSole [.Subscript (.Name x q) kx pos'] vx pos.line X.env = pure false := by rfl) (hw : swappedStores [.Subscript (.Name x q) kx pos'] vx X.env = pure none := by rfl)
    (h1 : (assignEach [.Subscript (.Name x q) kx pos'] X.env).map (·.2) = [assign (.Subscript (.Name x q) kx pos') X.env] := by rfl) :
    VS X (.Assign [.Subscript (.Name x q) kx pos'] vx pos) (tAsg tv (gSub (tVar i) tk rSetL)) (vSetIx i mk mv) :=
  ⟨ps_asg hv.pe (pg_sub (pe_var hN hvi hd hcd) hk.pe set_list ha) hs hw h1, fun {dA F0 H0 F H σ Γ D Dk} R q f => by
    unfold vSetIx at q
    split at q
    · rename_i xs h
      obtain ⟨a, vs, h1, h2, h3, h4, _⟩ := R.getOw h
      refine hv.sim R q fun F1 H1 d v e1 k1 r1 q1 => ⟨.ref a, h1, hk.sim (R.step e1 k1) q1 fun F2 H2 dy y e2 k2 r2 q2 => ?_⟩
      cases dy <;> first | exact False.elim q2 | skip
      rename_i k
      obtain ⟨j, hj, q2⟩ := q2
      · have h5 : H2 a = some (.lst vs) := e2.keep _ _ (e1.keep _ _ h2 h4) h4
        refine ⟨a, vs, k, j, rfl, r2, h5, by rw [h3.length]; exact hj, f.nx F2 _ σ _ ((R.step (e1.trans e2) k2).write (s' := .ow (xs.set j d)) h fun own o g1 go g2 => ?_) q2⟩
        obtain ⟨g3, g4⟩ := ow_addr h1 g1 h5 g2
        exact ⟨g4, a, vs.set j v, g3, g4, upd_same, RepL.set j (RepL.mono (e1.ff.trans e2.ff) _ _ h3) (Rep.mono e2.ff _ _ r1)⟩
    · exact q.elim⟩
/-- [x] * n -/
def vRep (mx mn : Vm) : Va := fun Γ Q => mx Γ fun d => mn Γ fun y => match y with
  | .int k => small k ∧ k ≤ 1000000 ∧ Q (List.replicate k.toNat d)
  | _ => False
theorem flat_rep {α : Type} (x : α) : ∀ n : Nat, (List.replicate n [x]).flatten = List.replicate n x
  | 0 => rfl
  | n + 1 => by
    rw [List.replicate_succ, List.replicate_succ, List.flatten_cons, flat_rep x n] <;> rfl
theorem RepL.replicate {K : PySem.W.Frag} {dA : Option Addr} {F : Hp} {d : D} {v : V} (r : Rep K dA F d v) : ∀ n : Nat, RepL K dA F (List.replicate n d) (List.replicate n v)
  | 0 => rfl
  | n + 1 => by
    rw [List.replicate_succ, List.replicate_succ]
    exact RepL.cons r (RepL.replicate r n)
theorem vl_rep {lp : Pos} (ha : VE X a ta ma) (hb : VE X b tb mb) (hs : starEach (a :: []) X.env = (false, eval a X.env) :: starEach [] X.env := by rfl) : VL X (.BinOp (.List [a] lp) .Mult b pos) (tOp rRep (tLst (tCons ta tNil)) tb) (vRep ma mb) :=
  ⟨pe_op op_rep (pe_lst (pa_cons ha.pe pa_nil hs)) hb.pe, fun {dA F0 H0 F H σ Γ Q Qk} R q f => ha.sim R q fun F1 H1 d v e1 k1 r1 q1 => ⟨by show 1 ≤ sizeLine; decide, fun l hl => by
    obtain ⟨e2, k2⟩ := growOwn (o := .lst [v]) k1 hl
    refine hb.sim (R.step (e1.trans e2) k2) q1 fun F3 H3 dy y e3 k3 r3 q3 => ?_
    cases dy <;> first | exact False.elim q3 | skip
    rename_i k
    obtain ⟨⟨s1, s2⟩, s3, q3⟩ := q3
    refine ⟨l, k, [v], rfl, r3, e3.keep _ _ upd_same (k1.tne hl), by omega, by omega, line_le (by simp; omega), fun p hp => ?_⟩
    obtain ⟨e4, k4⟩ := growOwn (o := .lst (List.replicate k.toNat [v]).flatten) k3 hp
    exact f F3 _ p _ _ (((e1.trans e2).trans e3).trans e4) k4 (((e1.trans e2).trans e3).none hp) (k3.fnone hp) upd_same (by rw [flat_rep]; exact RepL.replicate (Rep.mono (e2.ff.trans e3.ff) _ _ r1) _) q3⟩⟩
/-- x.insert(0, e) -/
def vIns (i : Nat) (me : Vm) : Vs := fun D Γ => match Γ[i]? with
  | some (.ow xs) => me Γ fun d => xs.length < 1000000 ∧ D.nx (Γ.set i (.ow (d :: xs)))
  | _ => False
theorem vs_insert0 (i : Nat) {x : Str} {q apos cpos zp : Pos} {zj} (he : VE X e te me) (hN : X.N[i]? = some x := by rfl) (hv : Vis X.env.scope x := by first | exact Or.inl rfl | exact Or.inr (Or.inl rfl) | exact Or.inr (Or.inr rfl)) (hd : (x == ("__debug__" : Str)) = false := by decide)
    (hcd : (x == ("__classdict__" : Str)) = false := by decide) (hs : starEach [Expr.Constant (.int 0) zj zp, e] X.env = (false, eval (Expr.Constant (.int 0) zj zp) X.env) :: starEach [e] X.env := by rfl) (hs1 : starEach (e :: []) X.env = (false, eval e X.env) :: starEach [] X.env := by rfl)
    (hbase : attributeBase (.Name x q) "insert" X.env (eval (.Name x q) X.env) = eval (.Name x q) X.env := by rfl)
    (hfew : ((backTo cpos (starEach [Expr.Constant (.int 0) zj zp, e] X.env)).all (fun x => !x.1) && (backToKw cpos (keywordEach [] X.env)).all (fun x => x.1.isSome)
      && decide ([Expr.Constant (.int 0) zj zp, e].length + ([] : List Keyword).length + (if ([] : List Keyword).isEmpty then 0 else 1) < 30)) = true := by rfl)
    (hline : (apos.endLine == cpos.line) = true := by rfl) (hplain : (backTo cpos (starEach [e] X.env)).any (·.1) = false := by rfl)
    (hsw : swapsWith (.Call (.Attribute (.Name x q) "insert" apos) [.Constant (.int 0) zj zp, e] [] cpos) none pos.line X.env = pure false := by rfl) :
    VS X (.Expr (.Call (.Attribute (.Name x q) "insert" apos) [.Constant (.int 0) zj zp, e] [] cpos) pos) (tDrop (tBM X.K "list" (fun x vs H Q => ∃ (l : Addr) (xs : List V) (i : Int) (y : V), x = .ref l ∧ vs = [.int i, y] ∧ H l = some (.lst xs) ∧ xs.length < sizeLine ∧ 0 ≤ i ∧ i < 2 ^ 63 ∧
    Q .non (upd H l (.lst (xs.take i.toNat ++ [y] ++ xs.drop i.toNat)))) (tVar i) (tCons (tC (.int 0)) (tCons te tNil)))) (vIns i me) :=
  ⟨ps_expr (pe_bm PySem.F.plainAttrs_list PySem.F.slot_list_insert PySem.F.type_list_insert mt_insert (pe_var hN hv hd hcd) (pa_cons pe_int (pa_cons he.pe pa_nil hs1) hs) hbase hfew hline hs hplain) hsw, fun {dA F0 H0 F H σ Γ D Dk} R q f => by
    unfold vIns at q
    split at q
    · rename_i xs h
      obtain ⟨a, vs, h1, h2, h3, h4, h6⟩ := R.getOw h
      refine ⟨.ref a, h1, .inl ⟨rfl, vs, SqL.of h2⟩, he.sim R q fun F1 H1 d v e1 k1 r1 ⟨hl, q1⟩ => ?_⟩
      have R1 := R.step e1 k1
      have h5 : H1 a = some (.lst vs) := e1.keep _ _ h2 h4
      refine ⟨a, vs, 0, v, rfl, rfl, h5, line_lt (by rw [h3.length]; exact hl), by decide, by decide, f.nx F1 _ σ _ (R1.write (s' := .ow (d :: xs)) h fun own o g1 go g2 => ?_) q1⟩
      obtain ⟨g3, g4⟩ := ow_addr h1 g1 h5 g2
      exact ⟨g4, a, v :: vs, g3, g4, upd_same, RepL.cons r1 (RepL.mono e1.ff _ _ h3)⟩
    · exact q.elim⟩
/-- x = [..], a comprehension, stored within its block; kept as one's own -/
theorem vs_ownLc {i : Nat} {x : Str} {pos' : Pos} {elt tg iter : Expr} {ifs : List Expr} {scope : Scope} {own : List (Str × Nat)} {wi : TI} {mi : Va} {g : Bk TG} {tt : Bk TT} {te : Bk TE} {mt : Vt} {me : Vm} {L : List Nat} {mg : Vg} (hc : X.calm = true) (hN : X.N.Nodup) (hi : VIe X tg iter wi mi) (ok : blkC X.N X.env.scope scope own = true)
    (hg : ∀ (s : Shared) (H : Hp) (C : Addr) (cl : List (Str × Addr)) (fp : List Addr), VT1 (X.blk s H scope (compEnvC scope cl C X.env) fp) tg (g s H C cl fp) L mg) (ht : ∀ (s : Shared) (H : Hp) (C : Addr) (cl : List (Str × Addr)) (fp : List Addr), VTq (X.blk s H scope (compEnvC scope cl C X.env) fp) ifs (tt s H C cl fp) mt)
    (he : ∀ (s : Shared) (H : Hp) (C : Addr) (cl : List (Str × Addr)) (fp : List Addr), VE (X.blk s H scope (compEnvC scope cl C X.env) fp) elt (te s H C cl fp) me) (hsw : swapsWith (.ListComp elt [⟨tg, iter, ifs, 0⟩] scope p) (some (.Name x pos')) pos.line X.env = pure true) (hx : X.N[i]? = some x := by rfl) (hl : X.env.scope.names.lookup x = some .local := by rfl)
    (hL : ∀ i ∈ L, i ∈ own.map (·.2) := by decide) (hs : ∀ x, foldedSetIterable iter X.env x = pure x := by intro _; rfl) (eg : ∀ s H C cl fp, g s H C cl fp = b0 g := by intros; rfl) (et : ∀ s H C cl fp, tt s H C cl fp = b0 tt := by intros; rfl) (ee : ∀ s H C cl fp, te s H C cl fp = b0 te := by intros; rfl) :
    VS X (.Assign [.Name x pos'] (.ListComp elt [⟨tg, iter, ifs, 0⟩] scope p) pos) (tAsg (tLc wi (b0 g) (b0 tt) (b0 te) (own.map (·.2))) (gName i)) (fun D Γ => vLc mi mg mt me (own.map (·.2)) Γ fun xs => D.nx (Γ.set i (.ow xs))) :=
  ⟨ps_setLc hc hN hx hl hsw hi.pi (blkOk_by ok) (fun s H C cl fp => eg s H C cl fp ▸ (hg s H C cl fp).pg) (fun s H C cl fp => et s H C cl fp ▸ (ht s H C cl fp).pts) (fun s H C cl fp => ee s H C cl fp ▸ (he s H C cl fp).pe) hs,
   fun {dA F0 H0 F H σ Γ D Dk} R q f => (vl_lc hc hN hi ok hg ht he hL hs eg et ee (pos := p)).sim R q fun F1 H1 p ds vs e1 k1 n1 f1 h1 r1 q1 =>
    f.nx F1 H1 _ _ (R.setNew (s := .ow ds) e1 k1 i (fun a => a = p) (fun a z => by rw [z]; exact ⟨n1, f1, _, h1, fun _ z => nomatch z⟩) fun own' ho => ⟨p, vs, rfl, ho p rfl, h1, r1⟩) q1⟩
/-- .. for ever -/
theorem vs_setLc {i : Nat} {x : Str} {pos' : Pos} {elt tg iter : Expr} {ifs : List Expr} {scope : Scope} {own : List (Str × Nat)} {wi : TI} {mi : Va} {g : Bk TG} {tt : Bk TT} {te : Bk TE} {mt : Vt} {me : Vm} {L : List Nat} {mg : Vg} (hc : X.calm = true) (hN : X.N.Nodup) (hi : VIe X tg iter wi mi) (ok : blkC X.N X.env.scope scope own = true)
    (hg : ∀ (s : Shared) (H : Hp) (C : Addr) (cl : List (Str × Addr)) (fp : List Addr), VT1 (X.blk s H scope (compEnvC scope cl C X.env) fp) tg (g s H C cl fp) L mg) (ht : ∀ (s : Shared) (H : Hp) (C : Addr) (cl : List (Str × Addr)) (fp : List Addr), VTq (X.blk s H scope (compEnvC scope cl C X.env) fp) ifs (tt s H C cl fp) mt)
    (he : ∀ (s : Shared) (H : Hp) (C : Addr) (cl : List (Str × Addr)) (fp : List Addr), VE (X.blk s H scope (compEnvC scope cl C X.env) fp) elt (te s H C cl fp) me) (hsw : swapsWith (.ListComp elt [⟨tg, iter, ifs, 0⟩] scope p) (some (.Name x pos')) pos.line X.env = pure true) (hx : X.N[i]? = some x := by rfl) (hl : X.env.scope.names.lookup x = some .local := by rfl)
    (hL : ∀ i ∈ L, i ∈ own.map (·.2) := by decide) (hs : ∀ x, foldedSetIterable iter X.env x = pure x := by intro _; rfl) (eg : ∀ s H C cl fp, g s H C cl fp = b0 g := by intros; rfl) (et : ∀ s H C cl fp, tt s H C cl fp = b0 tt := by intros; rfl) (ee : ∀ s H C cl fp, te s H C cl fp = b0 te := by intros; rfl) :
    VS X (.Assign [.Name x pos'] (.ListComp elt [⟨tg, iter, ifs, 0⟩] scope p) pos) (tAsg (tLc wi (b0 g) (b0 tt) (b0 te) (own.map (·.2))) (gName i)) (fun D Γ => vLc mi mg mt me (own.map (·.2)) Γ fun xs => D.nx (Γ.set i (.im (.lst xs)))) :=
  ⟨ps_setLc hc hN hx hl hsw hi.pi (blkOk_by ok) (fun s H C cl fp => eg s H C cl fp ▸ (hg s H C cl fp).pg) (fun s H C cl fp => et s H C cl fp ▸ (ht s H C cl fp).pts) (fun s H C cl fp => ee s H C cl fp ▸ (he s H C cl fp).pe) hs,
   fun {dA F0 H0 F H σ Γ D Dk} R q f => (ve_of (vl_lc hc hN hi ok hg ht he hL hs eg et ee (pos := p))).sim R q fun F1 H1 d v e1 k1 r1 q1 => f.nx F1 H1 _ _ ((R.step e1 k1).setIm i r1) q1⟩
/-- try, where the body raises nothing -/
theorem vs_try {body : List Stmt} {h₀ : ExceptHandler} {hs : List ExceptHandler} (hb : VB X.nox body ts ms) : VS X (.Try body (h₀ :: hs) [] [] pos) ts ms := ⟨ps_try_thru0 hb.pss, hb.sim⟩
/-- self.f = e, self being made -/
theorem putF_new {f : Str} {v : V} : ∀ {fs : List (Str × V)}, f ∉ fs.map (·.1) → putF f v fs = fs ++ [(f, v)]
  | [], _ => rfl
  | (g, x) :: r, h => by
    have h1 : ¬ g = f := fun z => h (by rw [z]; exact List.mem_cons_self)
    show (if g = f then (g, v) :: r else (g, x) :: putF f v r) = _
    rw [if_neg h1, putF_new fun z => h (List.mem_cons_of_mem _ z)] <;> rfl
theorem vs_fld {cn f : Str} (i : Nat) {x : Str} {q pos' : Pos} (he : VE X e te me) (cl : Cls X.K (He.ga X.K cn)) (nat : NoAttr X.K (He.ga X.K cn) f)
    (hN : X.N[i]? = some x := by rfl) (hv : Vis X.env.scope x := by first | exact Or.inl rfl | exact Or.inr (Or.inl rfl) | exact Or.inr (Or.inr rfl)) (hd : (x == ("__debug__" : Str)) = false := by decide)
    (hcd : (x == ("__classdict__" : Str)) = false := by decide) (hs : swapsWith e (some (.Attribute (.Name x q) f pos')) pos.line X.env = pure false := by rfl) :
    VS X (.Assign [.Attribute (.Name x q) f pos'] e pos) (sFld X.K (tVar i) te f) (fun D Γ => me Γ fun d => match Γ[i]? with
      | some (.ob a c ns ds) => c = cn ∧ ns.length < 900 ∧ f ∉ ns ∧ D.nx (Γ.set i (.ob a c (ns ++ [f]) (ds ++ [d])))
      | _ => False) :=
  ⟨ps_fld (pe_var hN hv hd hcd) he.pe hs, fun {dA F0 H0 F H σ Γ D Dk} R q f' => he.sim R q fun F1 H1 d v e1 k1 r1 q1 => by
    have R1 := R.step e1 k1
    split at q1
    · rename_i a c ns ds h
      obtain ⟨rfl, hl, hf, q1⟩ := q1
      obtain ⟨own, ho, hsl⟩ := id R1.sl
      obtain ⟨o, g1, dx, fs, g2, g3, g4, g5, g6⟩ := hsl i _ h
      refine ⟨.ref a, by rw [g1, g2], a, _, dx, fs, rfl, g4, cl, nat, ?_, f'.nx F1 _ σ _ (R1.write (a := a) (o' := .ins (He.ga X.K c) dx (putF f v fs)) (s' := .ob a c (ns ++ [f]) (ds ++ [d])) h fun own' o' z1 zo z2 => ?_) q1⟩
      · have e := congrArg List.length g5
        rw [List.length_map] at e
        omega
      · obtain ⟨dx', fs', y1, y2, y3, y4, y5⟩ := z2
        rw [g4] at y3
        cases y3
        have ep : putF f v fs = fs ++ [(f, v)] := putF_new (by rw [g5]; exact hf)
        exact ⟨y2, dx, _, y1, y2, upd_same, by rw [ep, List.map_append, y4] <;> rfl, by rw [ep, List.map_append]; exact RepL.append y5 (RepL.one r1)⟩
    · exact q1.elim⟩
/-- self.f read, self being made -/
theorem v_fldO {cn f : Str} (i : Nat) {x : Str} {q : Pos} (cl : Cls X.K (He.ga X.K cn)) (nat : NoAttr X.K (He.ga X.K cn) f) (hN : X.N[i]? = some x := by rfl) (hv : Vis X.env.scope x := by first | exact Or.inl rfl | exact Or.inr (Or.inl rfl) | exact Or.inr (Or.inr rfl)) (hd : (x == ("__debug__" : Str)) = false := by decide)
    (hcd : (x == ("__classdict__" : Str)) = false := by decide) (hb : attributeBase (.Name x q) f X.env (eval (.Name x q) X.env) = eval (.Name x q) X.env := by rfl) :
    VE X (.Attribute (.Name x q) f pos) (tFld X.K (tVar i) f) (fun Γ Q => match Γ[i]? with
      | some (.ob _ c ns ds) => c = cn ∧ ∃ d, (ns.zip ds).lookup f = some d ∧ Q d
      | _ => False) :=
  ⟨pe_fld (pe_var hN hv hd hcd) hb, fun {dA F0 H0 F H σ Γ Q Qk} R q f' => by
    split at q
    · rename_i a c ns ds h
      obtain ⟨rfl, q⟩ := q
      obtain ⟨own, ho, hsl⟩ := id R.sl
      obtain ⟨o, g1, dx, fs, g2, g3, g4, g5, g6⟩ := hsl i _ h
      obtain ⟨d, hd', q⟩ := q
      obtain ⟨v, z1, z2⟩ := lookup_rep g5 g6 hd'
      exact ⟨.ref a, by rw [g1, g2], a, _, dx, fs, v, rfl, g4, cl, nat, z1, f' F H d v Ext.refl R.ok z2 q⟩
    · exact q.elim⟩
end
end LV
set_option Elab.async false
set_option linter.all false
set_option maxRecDepth 100000
set_option maxHeartbeats 4000000
/-! LVM: laws of the transformers: loops, comprehensions, subscripts; the kinds of data. -/
namespace LV
open PySem PySem.Spec PyProof.Rows L2

/-! ### loops -/
theorem wpFor_ix {mg : Vg} {mb : Vs} {D : Ve} (ds : List LV.D) (I : Nat → Ev → Prop) (step : ∀ i d Γ (N : Ev → Prop), ds[i]? = some d → I i Γ → (∀ Γ', I (i + 1) Γ' → N Γ') → mg d Γ fun Γ' => mb { nx := N, rt := D.rt, bk := D.nx, ct := N } Γ')
    (fin : ∀ Γ, I ds.length Γ → D.nx Γ) {Γ : Ev} (h : I 0 Γ) : wpFor mg mb D ds Γ := by
  have key : ∀ (n i : Nat) (Γ : Ev), ds.length = i + n → I i Γ → wpFor mg mb D (ds.drop i) Γ := fun n => by
    induction n with
    | zero =>
      intro i Γ hl hi
      rw [List.drop_of_length_le (by omega)]
      exact fin Γ (by rw [hl]; exact hi)
    | succ n ih =>
      intro i Γ hl hi
      rw [List.drop_eq_getElem_cons (by omega)]
      exact step i _ Γ _ (List.getElem?_eq_getElem (by omega)) hi fun Γ' h' => ih (i + 1) Γ' (by omega) h'
  exact key ds.length 0 Γ (by omega) h
/-- .. over typed things -/
theorem wpFor_map {α : Type} {mg : Vg} {mb : Vs} {D : Ve} (en : α → LV.D) (xs : List α) (I : Nat → Ev → Prop) (step : ∀ i x Γ (N : Ev → Prop), xs[i]? = some x → I i Γ → (∀ Γ', I (i + 1) Γ' → N Γ') → mg (en x) Γ fun Γ' => mb { nx := N, rt := D.rt, bk := D.nx, ct := N } Γ')
    (fin : ∀ Γ, I xs.length Γ → D.nx Γ) {Γ : Ev} (h : I 0 Γ) : wpFor mg mb D (xs.map en) Γ := by
  refine wpFor_ix (xs.map en) I (fun i d Γ N hd hi hn => ?_) (fun Γ h => fin Γ (by simpa using h)) h
  rw [List.getElem?_map] at hd
  cases e : xs[i]? with
  | none => rw [e] at hd; cases hd
  | some x =>
    rw [e] at hd
    cases hd
    exact step i x Γ N e hi hn
theorem wpFor_rng {mg : Vg} {mb : Vs} {D : Ve} (lo : Int) (n : Nat) (I : Nat → Ev → Prop) (step : ∀ i Γ (N : Ev → Prop), i < n → I i Γ → (∀ Γ', I (i + 1) Γ' → N Γ') → mg (.int (lo + (i : Nat))) Γ fun Γ' => mb { nx := N, rt := D.rt, bk := D.nx, ct := N } Γ')
    (fin : ∀ Γ, I n Γ → D.nx Γ) {Γ : Ev} (h : I 0 Γ) : wpFor mg mb D (rng lo n) Γ := by
  unfold rng
  refine wpFor_map (fun i : Nat => LV.D.int (lo + (i : Nat))) (List.range n) I (fun i x Γ N hx hi hn => ?_) (fun Γ h => fin Γ (by simpa using h)) h
  by_cases hlt : i < n
  · rw [List.getElem?_range hlt] at hx
    cases hx
    exact step i Γ N hlt hi hn
  · rw [List.getElem?_eq_none (by simpa using hlt)] at hx
    cases hx
theorem wpFor_rngDn {mg : Vg} {mb : Vs} {D : Ve} (lo : Int) (n : Nat) (I : Nat → Ev → Prop) (step : ∀ i Γ (N : Ev → Prop), i < n → I i Γ → (∀ Γ', I (i + 1) Γ' → N Γ') → mg (.int (lo - (i : Nat))) Γ fun Γ' => mb { nx := N, rt := D.rt, bk := D.nx, ct := N } Γ')
    (fin : ∀ Γ, I n Γ → D.nx Γ) {Γ : Ev} (h : I 0 Γ) : wpFor mg mb D (rngDn lo n) Γ := by
  unfold rngDn
  refine wpFor_map (fun i : Nat => LV.D.int (lo - (i : Nat))) (List.range n) I (fun i x Γ N hx hi hn => ?_) (fun Γ h => fin Γ (by simpa using h)) h
  by_cases hlt : i < n
  · rw [List.getElem?_range hlt] at hx
    cases hx
    exact step i Γ N hlt hi hn
  · rw [List.getElem?_eq_none (by simpa using hlt)] at hx
    cases hx
/-- a comprehension that keeps what f keeps -/
theorem wpLc_fm {α : Type} {mg : Vg} {mt : Vt} {me : Vm} {Γ : Ev} {Q : List D → Prop} (en : α → D) (f : α → Option D) : ∀ (xs : List α) (acc : List D), acc.length + xs.length ≤ 1000000 →
    (∀ x ∈ xs, ∀ (N : D → Prop) (M : Prop), (∀ y, f x = some y → N y) → (f x = none → M) → mg (en x) Γ fun Γ' => mt Γ' fun b => if b = true then me Γ' N else M) → Q (acc ++ xs.filterMap f) → wpLc mg mt me Γ Q (xs.map en) acc
  | [], acc, _, _, q => by
    rw [List.filterMap_nil, List.append_nil] at q
    exact q
  | x :: xs, acc, hl, h, q => by
    rw [List.length_cons] at hl
    refine h x List.mem_cons_self _ _ (fun y hy => ⟨by omega, ?_⟩) fun hn => ?_
    · refine wpLc_fm en f xs (acc ++ [y]) (by simp only [List.length_append, List.length_cons, List.length_nil]; omega) (fun z hz => h z (List.mem_cons_of_mem _ hz)) ?_
      rw [List.filterMap_cons_some hy] at q
      rw [List.append_assoc]
      exact q
    · refine wpLc_fm en f xs acc (by omega) (fun z hz => h z (List.mem_cons_of_mem _ hz)) ?_
      rw [List.filterMap_cons_none hn] at q
      exact q
theorem wpLc_map {α : Type} {mg : Vg} {mt : Vt} {me : Vm} {Γ : Ev} {Q : List D → Prop} (en : α → D) (f : α → D) (xs : List α) (hl : xs.length ≤ 1000000) (h : ∀ x ∈ xs, ∀ (N : D → Prop) (M : Prop), N (f x) → mg (en x) Γ fun Γ' => mt Γ' fun b => if b = true then me Γ' N else M) (q : Q (xs.map f)) : wpLc mg mt me Γ Q (xs.map en) [] := by
  refine wpLc_fm en (fun x => some (f x)) xs [] (by simpa using hl) (fun x hx N M hN _ => h x hx N M (hN _ rfl)) ?_
  rw [List.nil_append, List.filterMap_eq_map']
  exact q
theorem fm_if {α β : Type} (p : α → Bool) (f : α → β) : ∀ xs : List α, xs.filterMap (fun x => if p x = true then some (f x) else none) = (xs.filter p).map f
  | [] => rfl
  | x :: xs => by
    cases hp : p x with
    | true => rw [List.filterMap_cons_some (by rw [if_pos hp]), List.filter_cons_of_pos hp, List.map_cons, fm_if p f xs]
    | false => rw [List.filterMap_cons_none (by rw [if_neg (by rw [hp]; exact Bool.false_ne_true)]), List.filter_cons_of_neg (by rw [hp]; exact Bool.false_ne_true), fm_if p f xs]
theorem wpLc_filter {α : Type} {mg : Vg} {mt : Vt} {me : Vm} {Γ : Ev} {Q : List D → Prop} (en : α → D) (p : α → Bool) (f : α → D) (xs : List α) (hl : xs.length ≤ 1000000) (h : ∀ x ∈ xs, ∀ (N : D → Prop) (M : Prop), (p x = true → N (f x)) → (p x = false → M) → mg (en x) Γ fun Γ' => mt Γ' fun b => if b = true then me Γ' N else M) (q : Q ((xs.filter p).map f)) : wpLc mg mt me Γ Q (xs.map en) [] := by
  refine wpLc_fm en (fun x => if p x = true then some (f x) else none) xs [] (by simpa using hl) (fun x hx N M hN hM => h x hx N M (fun hp => hN _ (if_pos hp)) fun hp => hM (if_neg (by rw [hp]; exact Bool.false_ne_true))) ?_
  rw [List.nil_append, fm_if]
  exact q
/-- .. whose items are known by a property alone -/
theorem wpLc_rel {α β : Type} {mg : Vg} {mt : Vt} {me : Vm} {Γ : Ev} {Q : List D → Prop} (en : α → D) (eo : β → D) (R : α → β → Prop) : ∀ (xs : List α) (acc : List D), acc.length + xs.length ≤ 1000000 →
    (∀ x ∈ xs, ∀ (N : D → Prop) (M : Prop), (∀ y, R x y → N (eo y)) → mg (en x) Γ fun Γ' => mt Γ' fun b => if b = true then me Γ' N else M) → (∀ ys : List β, ys.length = xs.length → (∀ (i : Nat) x y, xs[i]? = some x → ys[i]? = some y → R x y) → Q (acc ++ ys.map eo)) → wpLc mg mt me Γ Q (xs.map en) acc
  | [], acc, _, _, q => by
    have z := q [] rfl fun i x y h => by simp at h
    rw [List.map_nil, List.append_nil] at z
    exact z
  | x :: xs, acc, hl, h, q => by
    rw [List.length_cons] at hl
    refine h x List.mem_cons_self _ _ fun y hy => ⟨by omega, ?_⟩
    refine wpLc_rel en eo R xs (acc ++ [eo y]) (by simp only [List.length_append, List.length_cons, List.length_nil]; omega) (fun z hz => h z (List.mem_cons_of_mem _ hz)) fun ys hy1 hy2 => ?_
    rw [List.append_assoc]
    refine q (y :: ys) (by rw [List.length_cons, List.length_cons, hy1]) fun i x' y' hx' hy' => ?_
    cases i with
    | zero =>
      simp only [List.getElem?_cons_zero] at hx' hy'
      cases hx'
      cases hy'
      exact hy
    | succ i =>
      simp only [List.getElem?_cons_succ] at hx' hy'
      exact hy2 i x' y' hx' hy'
theorem wpLc_rng {mg : Vg} {mt : Vt} {me : Vm} {Γ : Ev} {Q : List D → Prop} (f : Nat → D) (lo : Int) (n : Nat) (hl : n ≤ 1000000) (h : ∀ i, i < n → ∀ (N : D → Prop) (M : Prop), N (f i) → mg (.int (lo + (i : Nat))) Γ fun Γ' => mt Γ' fun b => if b = true then me Γ' N else M) (q : Q ((List.range n).map f)) : wpLc mg mt me Γ Q (rng lo n) [] := by
  unfold rng
  exact wpLc_map (fun i : Nat => D.int (lo + (i : Nat))) f (List.range n) (by simpa using hl) (fun i hi => h i (List.mem_range.mp hi)) q
theorem wpLc_rngF {mg : Vg} {mt : Vt} {me : Vm} {Γ : Ev} {Q : List D → Prop} (p : Nat → Bool) (f : Nat → D) (lo : Int) (n : Nat) (hl : n ≤ 1000000) (h : ∀ i, i < n → ∀ (N : D → Prop) (M : Prop), (p i = true → N (f i)) → (p i = false → M) → mg (.int (lo + (i : Nat))) Γ fun Γ' => mt Γ' fun b => if b = true then me Γ' N else M) (q : Q (((List.range n).filter p).map f)) : wpLc mg mt me Γ Q (rng lo n) [] := by
  unfold rng
  exact wpLc_filter (fun i : Nat => D.int (lo + (i : Nat))) p f (List.range n) (by simpa using hl) (fun i hi => h i (List.mem_range.mp hi)) q

/-! ### subscripts -/
theorem atI_cast {α : Type} (xs : List α) (i : Nat) : atI xs (i : Int) = xs[i]? := by
  unfold atI ixN
  by_cases h : i < xs.length
  · rw [if_pos (by omega), if_pos (by omega)]
    rfl
  · rw [if_pos (by omega), if_neg (by omega), List.getElem?_eq_none (by omega)]
    rfl
theorem atD_some {xs : List D} {i : Nat} {d : D} {Q : D → Prop} (h : xs[i]? = some d) (q : Q d) : atD xs (i : Int) Q := ⟨d, by rw [atI_cast, h], q⟩
theorem atD_map {α : Type} {en : α → D} {xs : List α} {i : Nat} {x : α} {Q : D → Prop} (h : xs[i]? = some x) (q : Q (en x)) : atD (xs.map en) (i : Int) Q := atD_some (by rw [List.getElem?_map, h] <;> rfl) q
theorem at_map {α : Type} {en : α → D} {xs : List α} {i : Nat} {x : α} (h : xs[i]? = some x) : atI (xs.map en) (i : Int) = some (en x) := by
  rw [atI_cast, List.getElem?_map, h] <;> rfl
theorem ixN_cast {n i : Nat} (h : i < n) : ixN n (i : Int) = some i := by
  unfold ixN
  rw [if_pos (by omega), if_pos (by omega)]
  rfl

/-! ### the kinds of data -/
abbrev Amt := Int × Int
def eI (i : Nat) : D := .int i
def eA (a : Amt) : D := .tup [.int a.1, .int a.2]
abbrev Hr := Nat × Amt
def eH (h : Hr) : D := .tup [.int h.1, eA h.2]
abbrev Node := Nat × List Hr
def eHs (h : List Hr) : D := .tup (h.map eH)
def eN (n : Node) : D := .tup [.int n.1, eHs n.2]
abbrev Sta := Nat × Nat
def eS (s : Sta) : D := .tup [.int s.1, .int s.2]
/-- a view's levels, cut or not: the starts; the nodes of each level above -/
structure Vw where
  st : List Sta
  up : List (List Node)
def eNs (l : List Node) : D := .tup (l.map eN)
def eV (v : Vw) : D := .tup (.tup (v.st.map eS) :: v.up.map eNs)
def eView (v : Vw) : D := .obj "View" ["levels", "round"] [eV v, .int v.up.length]
/-- a table of what is heard -/
def eT (t : List (List Amt)) : D := .lst (t.map fun r => .lst (r.map eA))
def eL (ns : List Int) : D := .lst (ns.map D.int)
def eLn (ns : List Nat) : D := .lst (ns.map eI)
end LV
set_option Elab.async false
set_option linter.all false
set_option maxRecDepth 100000
set_option maxHeartbeats 4000000
/-! M1: fractions. -/
namespace LV
open Int
theorem cop_dvd {a b c : Int} (h : a ∣ b * c) (g : Int.gcd a b = 1) : a ∣ c := by
  refine Int.natAbs_dvd_natAbs.mp (Nat.Coprime.dvd_of_dvd_mul_left (m := b.natAbs) g ?_)
  rw [← Int.natAbs_mul]
  exact Int.natAbs_dvd_natAbs.mpr h
theorem low_cross {a b c d : Int} (hb : 0 < b) (hd : 0 < d) : (a / Int.gcd a b = c / Int.gcd c d ∧ b / Int.gcd a b = d / Int.gcd c d) ↔ a * d = c * b := by
  have g1 : 0 < Int.gcd a b := Int.gcd_pos_of_ne_zero_right a (by omega)
  have g2 : 0 < Int.gcd c d := Int.gcd_pos_of_ne_zero_right c (by omega)
  have a1 : (Int.gcd a b : Int) * (a / Int.gcd a b) = a := Int.mul_ediv_cancel' (Int.gcd_dvd_left ..)
  have a2 : (Int.gcd a b : Int) * (b / Int.gcd a b) = b := Int.mul_ediv_cancel' (Int.gcd_dvd_right ..)
  have a3 : (Int.gcd c d : Int) * (c / Int.gcd c d) = c := Int.mul_ediv_cancel' (Int.gcd_dvd_left ..)
  have a4 : (Int.gcd c d : Int) * (d / Int.gcd c d) = d := Int.mul_ediv_cancel' (Int.gcd_dvd_right ..)
  have c1 : Int.gcd (a / Int.gcd a b) (b / Int.gcd a b) = 1 := Int.gcd_ediv_gcd_ediv_gcd g1
  have c2 : Int.gcd (c / Int.gcd c d) (d / Int.gcd c d) = 1 := Int.gcd_ediv_gcd_ediv_gcd g2
  have p0 : (0 : Int) < (Int.gcd a b : Int) := by omega
  have p3 : (0 : Int) < (Int.gcd c d : Int) := by omega
  generalize a / (Int.gcd a b : Int) = a' at *
  generalize b / (Int.gcd a b : Int) = b' at *
  generalize c / (Int.gcd c d : Int) = c' at *
  generalize d / (Int.gcd c d : Int) = d' at *
  generalize (Int.gcd a b : Int) = g at *
  generalize (Int.gcd c d : Int) = k at *
  have p1 : 0 < b' := by
    rcases Int.lt_or_le 0 b' with h | h
    · exact h
    · have : g * b' ≤ 0 := Int.mul_nonpos_of_nonneg_of_nonpos (by omega) h
      omega
  have p2 : 0 < d' := by
    rcases Int.lt_or_le 0 d' with h | h
    · exact h
    · have : k * d' ≤ 0 := Int.mul_nonpos_of_nonneg_of_nonpos (by omega) h
      omega
  subst a1 a2 a3 a4
  constructor
  · rintro ⟨rfl, rfl⟩
    grind
  · intro h
    have h2 : (g * k) * (a' * d') = (g * k) * (c' * b') := by grind
    have h3 : a' * d' = c' * b' := Int.eq_of_mul_eq_mul_left (by have := Int.mul_pos p0 p3; omega) h2
    have h4 : b' ∣ d' := cop_dvd (b := a') (c := d') ⟨c', by rw [h3, Int.mul_comm]⟩ (by rw [Int.gcd_comm]; exact c1)
    have h5 : d' ∣ b' := cop_dvd (b := c') (c := b') ⟨a', by rw [← h3, Int.mul_comm]⟩ (by rw [Int.gcd_comm]; exact c2)
    have h6 : b' = d' := Int.dvd_antisymm (by omega) (by omega) h4 h5
    refine ⟨?_, h6⟩
    rw [h6] at h3
    exact Int.eq_of_mul_eq_mul_right (by omega) h3
end LV
set_option Elab.async false
set_option linter.all false
set_option maxRecDepth 100000
set_option maxHeartbeats 4000000
/-! LV9: order of nested data; sorted; sum of a tuple. -/
namespace LV
open PySem PySem.Spec PyProof.Rows L2

/-- x before y -/
def dlt (x y : D) : Bool := PySem.W.dataLt (toP x) (toP y)
/-- not y before x -/
def dle (x y : D) : Bool := PySem.W.dataLe false toP x y
theorem dle_eq (x y : D) : dle x y = !dlt y x := rfl
/-- can be sorted -/
structure Sb (xs : List D) : Prop where
  pl : ∀ x ∈ xs, pl 40 x
  al : ∀ x ∈ xs, ∀ y ∈ xs, PySem.W.alike (toP x) (toP y) = true
  ok : PySem.W.Sortable (xs.map toP)

section
variable {X : Cx}
def rSortedD (K : PySem.W.Frag) : List V → Hp → VK → Prop := fun vs H Q => ∃ (a : Addr) (ps : List (V × D)), vs = [V.ref a] ∧ SqL K H a (ps.map (·.1)) ∧ (∀ p ∈ ps, Dp K H p.1 (toP p.2)) ∧ Sb (ps.map (·.2)) ∧
  ∀ q : Addr, H q = none → Q (.ref q) (upd H q (.lst ((ps.mergeSort fun p r => dle p.2 r.2).map (·.1))))
theorem each_of {R : Value → (V × D) → Prop} : ∀ {ps : List (V × D)} {us : List Value}, Vals (ps.map (·.1)) us → (∀ p ∈ ps, ∀ u, RelV p.1 u → R u p) → PySem.W.EachIs R us ps
  | [], _, r, _ => by
    cases r
    exact .nil
  | p :: ps, _, r, h => by
    cases r with
    | cons r1 r2 => exact .cons (h p List.mem_cons_self _ r1) (each_of r2 fun q hq => h q (List.mem_cons_of_mem _ hq))
theorem vals_of {us : List Value} {ps : List (V × D)} (h : PySem.W.EachIs (fun u (p : V × D) => RelV p.1 u) us ps) : Vals (ps.map (·.1)) us := by
  induction h with
  | nil => exact .nil
  | cons h1 _ ih => exact .cons h1 ih
theorem cr_sortedD {n : Nat} (hr : Room n X.A) : CallR X (.builtin "sorted") (rSortedD X.K) := by
  intro pins s σ H vs us Q I r h
  obtain ⟨a, ps, rfl, hs, hd, ⟨h1, h2, h3⟩, q⟩ := h
  obtain ⟨its, rv, hl, hz⟩ := I.list hs
  rw [Vals.ref1 r]
  have hm : ∀ p ∈ ps, p.2 ∈ ps.map (·.2) := fun p hp => List.mem_map.mpr ⟨p, hp, rfl⟩
  have e1 : PySem.W.EachIs (fun u (p : V × D) => RelV p.1 u) its ps := each_of rv fun p hp u h => h
  have e2 : PySem.W.EachIs (fun u (p : V × D) => ∃ as, Reads s.heap u (toP p.2) as) its ps := each_of rv fun p hp u h => Dp.reads I (toP p.2) p.1 u (hd p hp) h
  have hlen : ps.length ≤ sizeLine := by
    rw [List.length_map] at hz
    exact hz
  refine PySem.W.sorted_data (enc := fun p : V × D => toP p.2) (R := fun u (p : V × D) => RelV p.1 u) hl.isList e1 e2 (fun d hd d' hd' => ?_) ?_ hlen (fun p hp => ?_) fun out ho eo => ?_
  · obtain ⟨p, hp, rfl⟩ := List.mem_map.mp hd
    obtain ⟨p', hp', rfl⟩ := List.mem_map.mp hd'
    exact h2 _ (hm p hp) _ (hm p' hp')
  · have e : ps.map (fun p : V × D => toP p.2) = (ps.map (·.2)).map toP := by rw [List.map_map] <;> rfl
    rw [e]
    exact h3
  · have := (pl_lay (h1 _ (hm p hp))).2
    have := hr.un
    omega
  · obtain ⟨ep, he'⟩ := PyProof.Rows.sortedAll_at s.heap its out.toArray
    have hlen2 : ((ps.mergeSort fun p r => dle p.2 r.2).map (·.1)).length ≤ sizeLine := by
      rw [List.length_map, List.length_mergeSort]
      exact hlen
    exact ⟨.ref _, upd H (s.heap.objs.size + 1) (.lst ((ps.mergeSort fun p r => dle p.2 r.2).map (·.1))), I.laid (t' := s.toks) (fun _ _ => PyProof.Rows.sortedAll_old) (Nat.le_succ _) ⟨hlen2, out, ep, vals_of eo, he'⟩, rfl, q _ (I.hok.fresh (Nat.le_succ _))⟩
theorem zip_fst : ∀ {vs : List V} {ds : List D}, vs.length = ds.length → (vs.zip ds).map (·.1) = vs
  | [], [], _ => rfl
  | v :: vs, d :: ds, h => by
    rw [List.zip_cons_cons, List.map_cons, zip_fst (by simpa using h)]
  | [], _ :: _, h => by simp at h
  | _ :: _, [], h => by simp at h
theorem zip_snd : ∀ {vs : List V} {ds : List D}, vs.length = ds.length → (vs.zip ds).map (·.2) = ds
  | [], [], _ => rfl
  | v :: vs, d :: ds, h => by
    rw [List.zip_cons_cons, List.map_cons, zip_snd (by simpa using h)]
  | [], _ :: _, h => by simp at h
  | _ :: _, [], h => by simp at h
theorem repL_pairs {K : PySem.W.Frag} {dA : Option Addr} {F : Hp} : ∀ {ps : List (V × D)}, (∀ p ∈ ps, Rep K dA F p.2 p.1) → RepL K dA F (ps.map (·.2)) (ps.map (·.1))
  | [], _ => rfl
  | p :: ps, h => RepL.cons (h p List.mem_cons_self) (repL_pairs fun q hq => h q (List.mem_cons_of_mem _ hq))
theorem pairs_rep {K : PySem.W.Frag} {dA : Option Addr} {F : Hp} : ∀ {vs : List V} {ds : List D}, RepL K dA F ds vs → ∀ p ∈ vs.zip ds, Rep K dA F p.2 p.1
  | [], _, _, p, hp => by simp at hp
  | _ :: _, [], _, p, hp => by simp at hp
  | v :: vs, d :: ds, r, p, hp => by
    obtain ⟨v', r', e, h1, h2⟩ := r
    cases e
    rw [List.zip_cons_cons] at hp
    rcases List.mem_cons.mp hp with rfl | hp
    · exact h1
    · exact pairs_rep h2 p hp
/-- sorted(a list) -/
def cSorted : List D → (List D → Prop) → Prop := fun ds Q => match ds with
  | [.lst xs] => Sb xs ∧ Q (xs.mergeSort dle)
  | _ => False
theorem sort_pairs {vs : List V} {ds : List D} (hl : vs.length = ds.length) : (((vs.zip ds).mergeSort fun p r => dle p.2 r.2).map (·.2)) = ds.mergeSort dle := by
  rw [List.map_mergeSort (s := dle) (fun a _ b _ => rfl), zip_snd hl]
theorem ls_sorted {K : PySem.W.Frag} {n : Nat} : LSim K n (rSortedD K) cSorted := fun {dA F H ds vs Q Qk} k r hl q f => by
  unfold cSorted at q
  split at q
  · rename_i xs
    obtain ⟨sb, q⟩ := q
    obtain ⟨v, rfl, a, ws, rfl, hs, hr⟩ := rep1 r
    have hlen := hr.length
    have e1 := zip_fst hlen
    have e2 := zip_snd hlen
    have hp := pairs_rep hr
    refine ⟨a, ws.zip xs, rfl, by rw [e1]; exact sqL_mono k.sub hs, fun p hpp => dp_of (n := 40) k.sub (sb.pl _ (by rw [← e2]; exact List.mem_map.mpr ⟨p, hpp, rfl⟩)) (hp p hpp), by rw [e2]; exact sb, fun l hq => ?_⟩
    obtain ⟨x1, x2⟩ := growOwn (o := .lst (((ws.zip xs).mergeSort fun p r => dle p.2 r.2).map (·.1))) k hq
    refine f F _ l (xs.mergeSort dle) _ x1 x2 hq (k.fnone hq) upd_same ?_ q
    rw [← sort_pairs hlen]
    exact repL_pairs fun p hpp => hp p ((List.mergeSort_perm _ _).mem_iff.mp hpp)
  · exact q.elim
variable {e a b : Expr} {ta tb : TE} {ma mb : Vm} {pos p : Pos} {ta' : TA} {na : Va}
theorem vl_sorted {n : Nat} (hr : Room n X.A) (hm : X.mg "sorted" = none) (ha : VE X a ta ma) (hg : Gl X "sorted" := by rfl) (hs : starEach (a :: []) X.env = (false, eval a X.env) :: starEach [] X.env := by rfl) :
    VL X (.Call (.Name "sorted" p) [a] [] pos) (tCB (rSortedD X.K) (tCons ta tNil)) (vCallL cSorted (vCons ma vNil)) :=
  vl_callB (cr_sortedD hr) ls_sorted hm (va_cons ha va_nil hs) (by decide +kernel) hg (by decide) (by decide) hs rfl
/-! ### <= of nested data -/
def rLeD (K : PySem.W.Frag) : R2 := fun x y H Q => ∃ d e, Dp K H x d ∧ Dp K H y e ∧ PySem.W.alike d e = true ∧ d ≠ .none ∧ d.depth ≤ 64 ∧ Q (.bl (!PySem.W.dataLt e d)) H
theorem op_leD {n : Nat} (hr : Room n X.A) : OpR X (compareOp .LtE) (rLeD X.K) := by
  intro pins s σ H x y v u Q I rx ry h
  obtain ⟨d, e, hd, he, al, nn, dp, q⟩ := h
  obtain ⟨as, r1⟩ := Dp.reads I d x v hd rx
  obtain ⟨bs, r2⟩ := Dp.reads I e y u he ry
  have := hr.un
  exact PySem.W.rcLe_alike d e X.A s v u _ _ r1 r2 al nn (by omega) _ _ _ _ ⟨.bl _, H, I, rfl, q⟩
def oLeD : D → D → (D → Prop) → Prop := fun x y Q => pl 40 x ∧ pl 40 y ∧ PySem.W.alike (toP x) (toP y) = true ∧ toP x ≠ .none ∧ brn (dle x y = true) fun b => Q (.bl b)
theorem v_leT {n : Nat} (hr : Room n X.A) (ha : VE X a ta ma) (hb : VE X b tb mb) : VCp X (.Compare a [.LtE] [b] pos) (tOp (rLeD X.K) ta tb) (vOp oLeD ma mb) :=
  v_cmp (op_leD hr) (fun {dA F H dx dy x y Q Qk} k rx ry q f => by
    obtain ⟨h1, h2, h3, h4, q⟩ := q
    have h5 := (pl_lay h1).2
    exact ⟨toP dx, toP dy, dp_of k.sub h1 rx, dp_of k.sub h2 ry, h3, h4, by omega, f F H (.bl (dle dx dy)) _ Ext.refl k rfl (brn_iff (Q := fun b => Q (.bl b)) q Iff.rfl)⟩) ha hb
/-! ### sum of a tuple -/
def rSumT (K : PySem.W.Frag) : List V → Hp → VK → Prop := fun vs H Q => ∃ (a : Addr) (ns : List Int), vs = [V.ref a] ∧ SqT K H a (ns.map V.int) ∧ Q (.int ns.sum) H
theorem cr_sumT (hc : X.calm = true) : CallR X (.builtin "sum") (rSumT X.K) := by
  intro pins s σ H vs us Q I r h
  obtain ⟨a, ns, rfl, hs, q⟩ := h
  obtain ⟨its, rv, hl, _⟩ := I.tuple hs
  rw [Vals.ref1 r]
  have hi := rv.ints
  obtain ⟨xs, e⟩ := hi.allInts.items
  have hn : numsOf (intItems xs).toList = ns := by rw [← e]; exact hi.numsOf
  rw [nums_intItems] at hn
  rw [e] at hl
  refine PySem.W.ktm_sumG (I.ok.hd hc) hl fun h' tk t' hk => ?_
  have z : EP X pins σ Q (.int ns.sum t') { s with heap := h', toks := tk } := ⟨.int _, H, I.kept hk, ⟨_, rfl⟩, q⟩
  rw [preSum_eq, List.take_of_length_le (by simp), hn]
  exact z
def cSumT : List D → (D → Prop) → Prop := fun ds Q => match ds with
  | [.tup xs] => ∃ ns : List Int, xs = ns.map D.int ∧ Q (.int ns.sum)
  | _ => False
theorem v_sumT (hc : X.calm = true) (hm : X.mg "sum" = none) (ha : VE X a ta ma) (hg : Gl X "sum" := by rfl) (hs : starEach (a :: []) X.env = (false, eval a X.env) :: starEach [] X.env := by rfl) : VE X (.Call (.Name "sum" p) [a] [] pos) (tCB (rSumT X.K) (tCons ta tNil)) (vCall cSumT (vCons ma vNil)) :=
  v_callB (cr_sumT hc) (fun {dA F H ds vs Q Qk} k r hl q f => by
    unfold cSumT at q
    split at q
    · rename_i xs
      obtain ⟨ns, e, q⟩ := q
      subst e
      obtain ⟨v, rfl, a, ws, rfl, hs, hr⟩ := rep1 r
      have e2 := RepL.ints hr
      subst e2
      exact ⟨a, ns, rfl, sqT_of k.sub hs, f F H (.int ns.sum) _ Ext.refl k rfl q⟩
    · exact q.elim) hm (va_cons ha va_nil hs) (by decide +kernel) hg (by decide) (by decide) hs rfl
end
end LV
set_option Elab.async false
set_option linter.all false
set_option maxRecDepth 100000
set_option maxHeartbeats 4000000
/-! LV10: enumerate; break; return; index; range as a list; any, all of an own list. -/
namespace LV
open PySem PySem.Spec PyProof.Rows L2
open PySem.Calls

/-! ### enumerate(a tuple) -/
set_option maxHeartbeats 1000000 in
theorem en_new {v : Value} {o : Obj} {H : Heap → Prop} (B : PySem.Begins v o H) :
    Meets (Builtin.«enumerate.__new__» ⟨[.type "enumerate", v], []⟩) (fun _ R s => H s.heap ∧
      R (.ok (.ret (.ref (s.heap.push o).objs.size))) { s with heap := (s.heap.push o).push { cls := .type "enumerate", data := .fields #[.none, .bool false, .ref s.heap.objs.size, rawInt 0, .none, .none] } }) :=
  .of_wp fun prog w A R s h => by
    obtain ⟨hp, g, d, tk, os⟩ := s; obtain ⟨h1, h⟩ := h
    have hsub := sub_enumerate
    have q1 : ∀ {A' : Around} {E : Value → Shared → Prop} {Q : Value → Shared → Prop}, Q (.ref hp.objs.size) ⟨hp.push o, g, d, tk, os⟩ → wpAny (model prog w) A' (pyIter v) Q E ⟨hp, g, d, tk, os⟩ :=
      fun q => B.iter prog w _ _ ⟨hp, g, d, tk, os⟩ _ h1 q
    wp_walk using q1
    refine wpAny_stack_any fun st => wpAny_pure ?_
    split
    · rename_i c _ _ _ _ _
      cases (c == Value.type "enumerate")
      · wp_walk using q1
        exact ⟨_, rfl, h⟩
      · wp_walk using q1
        exact ⟨_, rfl, h⟩
    · wp_walk using q1
      exact ⟨_, rfl, h⟩
section
variable {prog : Program} {w : World} {A : Around} {E : Value → Shared → Prop} {s : Shared}
theorem call_enT {l : Addr} {items : Array Value} {Q : Value → Shared → Prop} (hL : s.heap.IsTuple l items)
    (h : ∀ h', IsEnum h' (s.heap.objs.size + 1) s.heap.objs.size 0 .none → h'.IsTupleIter s.heap.objs.size l 0 → h'.objs.size = s.heap.objs.size + 2 →
      (∀ b o, s.heap.get? b = some o → h'.get? b = some o) → Q (.ref (s.heap.objs.size + 1)) { s with heap := h' }) :
    wpAny (model prog w) A (call (.type "enumerate") [.ref l]) Q E s := by
  have B := PySem.begins_tuple l items
  refine callType_new F.called_enumerate (by decide) (F.typeCall_enumerate_1 _) (F.newCall_enumerate_1 _) (fun obj => F.args_object_init_2 obj _) F.entry_enumerate_new (en_new B) ⟨hL, ?_⟩
  have hz : (s.heap.push { cls := .type "tuple_iterator", data := .fields #[.ref l, .int 0 0] }).objs.size = s.heap.objs.size + 1 := Heap.size_push ..
  show _ ∧ _
  rw [hz]
  have he : IsEnum ((s.heap.push { cls := .type "tuple_iterator", data := .fields #[.ref l, .int 0 0] }).push { cls := .type "enumerate", data := .fields #[.none, .bool false, .ref s.heap.objs.size, rawInt 0, .none, .none] }) (s.heap.objs.size + 1) s.heap.objs.size 0 .none := by
    have := Heap.get?_push_size (s.heap.push { cls := .type "tuple_iterator", data := .fields #[.ref l, .int 0 0] }) (o := { cls := .type "enumerate", data := .fields #[.none, .bool false, .ref s.heap.objs.size, rawInt 0, .none, .none] }) rfl
    rw [hz] at this; exact this
  refine ⟨⟨_, he, rfl⟩, h _ he ?_ (by rw [Heap.size_push, hz]) fun b o x => Heap.get?_push_of_some _ (Heap.get?_push_of_some _ x)⟩
  exact ⟨_, Heap.get?_push_of_some _ (Heap.get?_push_size _ B.free), rfl, rfl⟩
end
/-- the tuple at a, each item in a new pair -/
def IteT (K : PySem.W.Frag) (a : Addr) : It :=
  ⟨fun i H => ∃ (xs : List V) (x : V), SqT K H a xs ∧ xs[i]? = some x, fun i H v H' => ∃ T x, v = .ref T ∧ H T = none ∧ H' = upd H T (.tup [.int (i : Nat), x]) ∧ ∀ xs, SqT K H a xs → xs[i]? = some x, fun i H => ∃ xs : List V, SqT K H a xs ∧ xs.length ≤ i⟩
theorem turn_enumT {P : Program} {w : World} {K : PySem.W.Frag} {elts : List Expr} {kk : Nat} {tpos : Pos} (a e it : Addr) :
    Turn P w K (.Tuple elts kk tpos) (IteT K a) [e, it] e (fun i h => (∃ old, IsEnum h e it ((i : Nat) : Int) old) ∧ h.IsTupleIter it a i ∧ e ≠ it) where
  mem := by simp
  obj := fun i h st b hb => by
    obtain ⟨⟨old, he⟩, ⟨o, ho, hc, hd⟩, _⟩ := st
    have e' : b = e ∨ b = it := by simpa using hb
    rcases e' with z | z
    · rw [z]; exact ⟨_, he, fun v q => nomatch q⟩
    · rw [z]; exact ⟨o, ho, fun v q => by rw [hd] at q; cases q⟩
  keep := fun i h h' st k => let ⟨⟨old, he⟩, hi, hne⟩ := st; ⟨⟨old, k e (by simp) _ he⟩, hi.at fun o q => k it (by simp) o q, hne⟩
  item := by
    intro X hP hw hK hc i pins s σ H E I hf st hg
    subst hP hw hK
    obtain ⟨⟨old, he⟩, hit, hne⟩ := st
    obtain ⟨xs, x, hq, hx⟩ := hg
    obtain ⟨its, rv, p, hz⟩ := I.tuple hq
    obtain ⟨u, hu, ru⟩ := rv.get hx
    have hel : e < s.heap.objs.size := Heap.lt_size he
    have hil : it < s.heap.objs.size := by obtain ⟨_, q, _⟩ := hit; exact Heap.lt_size q
    have hae : a ≠ e := fun z => by
      obtain ⟨o, ho, hc', _⟩ := p
      rw [z, show s.heap.get? e = _ from he] at ho
      cases ho
      exact absurd (Value.type.inj (show Value.type "enumerate" = Value.type "tuple" from hc')) (by decide)
    have hai : a ≠ it := fun z => by
      obtain ⟨o, ho, hc', _⟩ := p
      obtain ⟨o2, ho2, hc2, _⟩ := hit
      rw [z, ho2] at ho
      cases ho
      rw [hc2] at hc'
      exact absurd (Value.type.inj hc') (by decide)
    have D := PySem.Draws.tuple (prog := X.prog) (w := X.w) (A := X.A.in1) (I.ok.hd hc) it a hai its.toArray
    have hlt : i < its.toArray.size := by
      obtain ⟨h1, _⟩ := List.getElem?_eq_some_iff.mp hu
      simpa using h1
    refine wpAny_pyNext_enum_itemD D he ⟨hit, p⟩ hlt hne (fun z => ?_) fun x' h' tk hx' ho hst' hT hsz hk => ?_
    · rcases List.mem_cons.mp z with z | z
      · exact hne z
      · exact hae (List.mem_singleton.mp z).symm
    have ex : x' = u := by
      have h1 : its.toArray[i]? = some x' := hx'
      rw [List.getElem?_toArray, hu] at h1
      exact (Option.some.inj h1).symm
    subst ex
    refine ⟨_, rfl, wpAny_letOwnedTupleGo_enum (s := { s with heap := h', toks := tk + 1 }) ho fun h'' he' sb => ?_⟩
    have hT2 : h''.get? s.heap.objs.size = some { cls := .type "tuple", data := .seq #[.int i tk, x'] } := (sb.2 _ (Nat.ne_of_gt hel)).trans hT
    have new : ObjOk X.prog X.w (upd H s.heap.objs.size (.tup [.int (i : Nat), x])) h'' s.heap.objs.size (.tup [.int (i : Nat), x]) :=
      ⟨by show 2 ≤ sizeLine; decide, [.int i tk, x'], .cons ⟨_, rfl⟩ (.cons ru .nil), ⟨_, hT2, rfl, _, rfl⟩⟩
    have I1 : Inv X pins σ (upd H s.heap.objs.size (.tup [.int (i : Nat), x])) { s with heap := h'', toks := tk + 1 } :=
      I.turnedNew (ch := [e, it]) (fun b ob hb q => (sb.2 b (fun z => hb (by simp [z]))).trans (hk b ob (fun z => hb (by simp [z])) (fun z => hb (by simp [z])) q)) hf (Nat.le_refl _) new
    refine ⟨.ref s.heap.objs.size, _, I1, rfl, ⟨_, x, rfl, I.hok.fresh (Nat.le_refl _), rfl, fun ys hy => by rw [I.tuple_inj hy hq]; exact hx⟩, ⟨⟨x', ?_⟩, hst'.1.at fun o q => (sb.2 it (Ne.symm hne)).trans q, hne⟩, fun b hb => ?_⟩
    · have e1 : ((i + 1 : Nat) : Int) = (i : Int) + 1 := by omega
      rw [e1]; exact he'
    · have hb' : b < s.heap.objs.size := by
        have e' : b = e ∨ b = it := by simpa using hb
        rcases e' with z | z
        · rw [z]; exact hel
        · rw [z]; exact hil
      rw [upd_ne (Nat.ne_of_lt hb')]
      exact (hf b hb).1
  done := by
    intro X hP hw hK hc i pins s σ H E I hf st hg
    subst hP hw hK
    obtain ⟨⟨old, he⟩, hit, hne⟩ := st
    obtain ⟨xs, hq, hx⟩ := hg
    obtain ⟨its, rv, p, hz⟩ := I.tuple hq
    obtain ⟨f0, f1, f2, f3, f4, f5⟩ := hf it (by simp)
    have hl := rv.length
    have hT : s.TypeIs (.ref e) "enumerate" := ⟨_, he, rfl⟩
    unfold pyNext
    refine wpAny_bind (wpAny_attempt (wpAny_callSpecial?_slot (name := Str.ofString "__next__") hT F.slot_enumerate_next
      (wpAny_call_entry F.slot_enumerate_next hT F.entry_enumerate_next ?_ (F.args_enumerate_next_1 _))))
    show wpAny _ _ (field (.ref e) 2 >>= _) _ _ _
    refine wpAny_bind (wpAny_field he rfl (x := .ref it) rfl ?_)
    refine wpAny_bind (PySem.wpAny_nextOf_tuple_end (I.ok.hd hc) hit p (by simp; omega) fun h' x he' hx' => ?_)
    obtain ⟨o, ho, hc2⟩ := hx'
    refine wpAny_bind (wpAny_isInstance (T := "StopIteration") (b := true) ⟨o, ho, hc2⟩ isSubtype_stop ?_)
    exact wpAny_pure ⟨rfl, I.turned (t' := s.toks) (fun b o hb q => he' b o hb q) f0 f1 f3 f4 f5⟩
  self := fun A i s Q E st h => let ⟨⟨_, he⟩, _⟩ := st; wpAny_pyIter_enum he h
def iEnumT (K : PySem.W.Frag) (ta : TA) : TI := fun σ H R => ta σ H fun vs H1 => ∃ a xs, vs = [.ref a] ∧ SqT K H1 a xs ∧ R (IteT K a) H1
theorem pi_enumT {X : Cx} {e : Expr} {ta : TA} {p pos tpos : Pos} {elts : List Expr} {kk : Nat} (hg : Gl X "enumerate") (hm : X.mg "enumerate" = none) (ha : PA X [e] ta) (hs : starEach [e] X.env = [(false, eval e X.env)] := by rfl) :
    PI X (.Tuple elts kk tpos) (.Call (.Name "enumerate" p) [e] [] pos) (iEnumT X.K ta) := by
  refine ⟨fun pins s σ H R I h => ?_⟩
  refine Call_ (ld_blt I hg hm boot_enumerate (PyProof.Rows.callWith_type1 (thn (ha.run pos pins s σ H _ I h) fun us s1 ⟨vs, H1, I1, r1, q1⟩ => ?_) hs rfl))
  obtain ⟨a, xs, ex, hq, q⟩ := q1
  subst ex
  cases r1 with
  | cons r rr =>
    cases rr
    cases r
    obtain ⟨its, rv, p', hz⟩ := I1.tuple hq
    refine call_enT p' fun h' he hit hsz hk => wpAny_pyIter_enum he ?_
    have I2 : Inv X pins σ H1 { s1 with heap := h' } := I1.kept (t' := s1.toks) hk
    refine ⟨s1.heap.objs.size + 1, [s1.heap.objs.size + 1, s1.heap.objs.size], _, _, H1, rfl, I2, turn_enumT a (s1.heap.objs.size + 1) s1.heap.objs.size, ⟨⟨.none, he⟩, hit, Nat.succ_ne_self _⟩, fun b hb => ?_, q⟩
    have e' : b = s1.heap.objs.size + 1 ∨ b = s1.heap.objs.size := by simpa using hb
    have hle : s1.heap.objs.size ≤ b := by
      rcases e' with z | z
      · rw [z]; exact Nat.le_add_right _ _
      · rw [z]; exact Nat.le_refl _
    exact I1.fpOk hle (I1.hok.fresh hle)
/-- (0, x0), (1, x1), .. -/
def enumD (xs : List D) : List D := xs.zipIdx.map fun p => .tup [.int (p.2 : Nat), p.1]
theorem enumD_len (xs : List D) : (enumD xs).length = xs.length := by simp [enumD]
theorem enumD_at {xs : List D} {i : Nat} {x : D} (h : xs[i]? = some x) : (enumD xs)[i]? = some (.tup [.int (i : Nat), x]) := by
  unfold enumD
  rw [List.getElem?_map, List.getElem?_zipIdx, h]
  show some (D.tup [.int ((0 + i : Nat) : Int), x]) = _
  rw [Nat.zero_add]
theorem walk_enum {K : PySem.W.Frag} {dA : Option Addr} {F : Hp} {a : Addr} {xs : List D} {vs : List V} (hs : SqL K F a vs) (hr : RepL K dA F xs vs) : WalkF K dA (Ite K a) F (enumD xs) := fun F1 H1 s k i => by
  have h1 : SqL K H1 a vs := sqL_mono (s.trans k.sub) hs
  rw [enumD_len]
  refine ⟨fun hi => ?_, fun hi => ⟨vs, h1, by rw [hr.length]; exact hi⟩⟩
  obtain ⟨v, h2, h3⟩ := hr.get (i := i) (List.getElem?_eq_getElem hi)
  refine ⟨⟨vs, v, h1, h2⟩, fun x H2 ⟨T, y, ex, hT, e, h5⟩ => ?_⟩
  subst ex e
  have h4 := h5 vs h1
  rw [h2] at h4
  cases h4
  obtain ⟨e2, k2⟩ := grow (o := .tup [.int (i : Nat), v]) k hT
  exact ⟨_, .tup [.int (i : Nat), xs[i]], e2, k2, enumD_at (List.getElem?_eq_getElem hi), ⟨T, _, rfl, upd_same, RepL.cons rfl (RepL.one (Rep.mono (s.trans e2.ff) _ _ h3))⟩⟩
theorem walk_enumT {K : PySem.W.Frag} {dA : Option Addr} {F : Hp} {a : Addr} {xs : List D} {vs : List V} (hs : F a = some (.tup vs)) (hr : RepL K dA F xs vs) : WalkF K dA (IteT K a) F (enumD xs) := fun F1 H1 s k i => by
  have h1 : SqT K H1 a vs := sqT_of (s.trans k.sub) hs
  rw [enumD_len]
  refine ⟨fun hi => ?_, fun hi => ⟨vs, h1, by rw [hr.length]; exact hi⟩⟩
  obtain ⟨v, h2, h3⟩ := hr.get (i := i) (List.getElem?_eq_getElem hi)
  refine ⟨⟨vs, v, h1, h2⟩, fun x H2 ⟨T, y, ex, hT, e, h5⟩ => ?_⟩
  subst ex e
  have h4 := h5 vs h1
  rw [h2] at h4
  cases h4
  obtain ⟨e2, k2⟩ := grow (o := .tup [.int (i : Nat), v]) k hT
  exact ⟨_, .tup [.int (i : Nat), xs[i]], e2, k2, enumD_at (List.getElem?_eq_getElem hi), ⟨T, _, rfl, upd_same, RepL.cons rfl (RepL.one (Rep.mono (s.trans e2.ff) _ _ h3))⟩⟩
section
variable {X : Cx} {e a b : Expr} {t te ta tb : TE} {me ma mb : Vm} {pos p tpos : Pos} {elts : List Expr} {kk : Nat}
def viEn (m : Vm) : Va := fun Γ Q => m Γ fun d => match d with
  | .lst xs => Q (enumD xs)
  | _ => False
def viEnT (m : Vm) : Va := fun Γ Q => m Γ fun d => match d with
  | .tup xs => Q (enumD xs)
  | _ => False
theorem vi_enum (hm : X.mg "enumerate" = none) (h : VE X e te me) (hg : Gl X "enumerate" := by rfl) (hs : starEach (e :: []) X.env = (false, eval e X.env) :: starEach [] X.env := by rfl) (hs2 : starEach [e] X.env = [(false, eval e X.env)] := by rfl) :
    VI X (.Tuple elts kk tpos) (.Call (.Name "enumerate" p) [e] [] pos) (iEnum X.K (tCons te tNil)) (viEn me) := ⟨pi_enum hg hm (pa_cons h.pe pa_nil hs) hs2, fun {dA F0 H0 F H σ Γ Q Rk} R q f => h.sim R q fun F1 H1 d v e1 k1 r1 q1 => by
  cases d <;> first | exact False.elim q1 | skip
  rename_i xs
  obtain ⟨a, vs, rfl, hs, hr⟩ := r1
  exact ⟨a, vs, rfl, sqL_mono k1.sub hs, f _ F1 H1 (enumD xs) e1 k1 (walk_enum hs hr) q1⟩⟩
theorem vi_enumT (hm : X.mg "enumerate" = none) (h : VE X e te me) (hg : Gl X "enumerate" := by rfl) (hs : starEach (e :: []) X.env = (false, eval e X.env) :: starEach [] X.env := by rfl) (hs2 : starEach [e] X.env = [(false, eval e X.env)] := by rfl) :
    VI X (.Tuple elts kk tpos) (.Call (.Name "enumerate" p) [e] [] pos) (iEnumT X.K (tCons te tNil)) (viEnT me) := ⟨pi_enumT hg hm (pa_cons h.pe pa_nil hs) hs2, fun {dA F0 H0 F H σ Γ Q Rk} R q f => h.sim R q fun F1 H1 d v e1 k1 r1 q1 => by
  cases d <;> first | exact False.elim q1 | skip
  rename_i xs
  obtain ⟨a, vs, rfl, hs, hr⟩ := r1
  exact ⟨a, vs, rfl, sqT_of k1.sub hs, f _ F1 H1 (enumD xs) e1 k1 (walk_enumT hs hr) q1⟩⟩

/-! ### break, return -/
theorem vs_break : VS X (.Break pos) tBreak (fun D Γ => D.bk Γ) := ⟨ps_break, fun {dA F0 H0 F H σ Γ D Dk} R q f => f.bk F H σ Γ R q⟩
theorem vs_retN : VS X (.Return none pos) tRetN (fun D Γ => D.rt .non) := ⟨ps_retN, fun {dA F0 H0 F H σ Γ D Dk} R q f => f.rt F H .non .non R.ext R.ok rfl q⟩
end
end LV
set_option Elab.async false
set_option linter.all false
set_option maxRecDepth 100000
set_option maxHeartbeats 4000000
/-! LV11: dicts of one's own, by ints, by couples of ints; index; range as a list; any, all of an own list. -/
namespace LV
open PySem PySem.Spec PyProof.Rows L2

/-! ### tables of data -/
section
variable {κ : Type} [DecidableEq κ]
def valD (kvs : List (κ × D)) (k : κ) : Option D := (kvs.find? fun kv => decide (kv.1 = k)).map (·.2)
def putD (kvs : List (κ × D)) (k : κ) (v : D) : List (κ × D) :=
  if (kvs.any fun kv => decide (kv.1 = k)) = true then kvs.map (fun kv => if kv.1 = k then (kv.1, v) else kv) else kvs ++ [(k, v)]
theorem valD_pos {p : κ × D} {r : List (κ × D)} {k : κ} (e : p.1 = k) : valD (p :: r) k = some p.2 := by simp [valD, List.find?_cons, e]
theorem valD_neg {p : κ × D} {r : List (κ × D)} {k : κ} (e : ¬ p.1 = k) : valD (p :: r) k = valD r k := by simp [valD, List.find?_cons, e]
variable {K : PySem.W.Frag} {dA : Option Addr} {F : Hp}
theorem RepK.val (k : κ) : ∀ {kvs : List (κ × D)} {vs : List (κ × V)}, RepK K dA F kvs vs → match valD kvs k with
    | some d => ∃ v, valV vs k = some v ∧ Rep K dA F d v
    | none => valV vs k = none
  | [], _, h => by cases h; rfl
  | p :: ps, _, h => by
    obtain ⟨v, r, rfl, h1, h2⟩ := h
    by_cases e : p.1 = k
    · rw [valD_pos e]
      exact ⟨v, valV_pos (p := (p.1, v)) e, h1⟩
    · rw [valD_neg e, valV_neg (p := (p.1, v)) e]
      exact RepK.val k h2
theorem RepK.any (k : κ) : ∀ {kvs : List (κ × D)} {vs : List (κ × V)}, RepK K dA F kvs vs → (vs.any fun kv => decide (kv.1 = k)) = (kvs.any fun kv => decide (kv.1 = k))
  | [], _, h => by cases h; rfl
  | p :: ps, _, h => by
    obtain ⟨v, r, rfl, h1, h2⟩ := h
    rw [List.any_cons, List.any_cons, RepK.any k h2]
theorem RepK.app {q : κ × D} {v : V} (hv : Rep K dA F q.2 v) : ∀ {kvs : List (κ × D)} {vs : List (κ × V)}, RepK K dA F kvs vs → RepK K dA F (kvs ++ [q]) (vs ++ [(q.1, v)])
  | [], _, h => by
    cases h
    exact ⟨v, [], rfl, hv, rfl⟩
  | p :: ps, _, h => by
    obtain ⟨u, r, rfl, h1, h2⟩ := h
    exact ⟨u, _, rfl, h1, RepK.app hv h2⟩
theorem RepK.repl (k : κ) {d : D} {v : V} (hv : Rep K dA F d v) : ∀ {kvs : List (κ × D)} {vs : List (κ × V)}, RepK K dA F kvs vs → RepK K dA F (kvs.map fun kv => if kv.1 = k then (kv.1, d) else kv) (vs.map fun kv => if kv.1 = k then (kv.1, v) else kv)
  | [], _, h => by cases h; rfl
  | p :: ps, _, h => by
    obtain ⟨u, r, rfl, h1, h2⟩ := h
    have ih := RepK.repl k hv h2
    rw [List.map_cons, List.map_cons]
    by_cases e : p.1 = k
    · rw [if_pos e, if_pos e]
      exact ⟨v, _, rfl, hv, ih⟩
    · rw [if_neg e, if_neg e]
      exact ⟨u, _, rfl, h1, ih⟩
theorem RepK.put (k : κ) {d : D} {v : V} {kvs : List (κ × D)} {vs : List (κ × V)} (h : RepK K dA F kvs vs) (hv : Rep K dA F d v) : RepK K dA F (putD kvs k d) (putK vs k v) := by
  unfold putD putK
  rw [RepK.any k h]
  by_cases e : (kvs.any fun kv => decide (kv.1 = k)) = true
  · rw [if_pos e, if_pos e]
    exact RepK.repl k hv h
  · rw [if_neg e, if_neg e]
    exact RepK.app (q := (k, d)) hv h
theorem RepK.length : ∀ {kvs : List (κ × D)} {vs : List (κ × V)}, RepK K dA F kvs vs → vs.length = kvs.length
  | [], _, h => by cases h; rfl
  | p :: ps, _, h => by
    obtain ⟨u, r, rfl, h1, h2⟩ := h
    rw [List.length_cons, List.length_cons, RepK.length h2]
theorem RepK.keys : ∀ {kvs : List (κ × D)} {vs : List (κ × V)}, RepK K dA F kvs vs → vs.map (·.1) = kvs.map (·.1)
  | [], _, h => by cases h; rfl
  | p :: ps, _, h => by
    obtain ⟨u, r, rfl, h1, h2⟩ := h
    rw [List.map_cons, List.map_cons, RepK.keys h2]
end
/-- the keys -/
abbrev kI (i : Int) : Key := .inl i
abbrev kP (i j : Int) : List Key := [.inl i, .inl j]

section
variable {K : PySem.W.Frag} {dA : Option Addr} {F0 H0 F H F1 H1 : Hp} {σ : L2.St} {Γ : Ev}
/-- a tuple that stands is taken in -/
theorem know (k : Ok K dA F H) {b : Addr} {vs : List V} (h : H b = some (.tup vs)) : ∃ F2, Ext dA F H F2 H ∧ Ok K dA F2 H ∧ F2 b = some (.tup vs) := by
  have hd : dA ≠ some b := fun z => by
    obtain ⟨_, _, _, _, _, _, _, h2, _⟩ := k.tok b z
    rw [h] at h2
    cases h2
  cases q : F b with
  | some o =>
    have h2 := k.sub b o q
    rw [h] at h2
    cases h2
    exact ⟨F, Ext.refl, k, q⟩
  | none =>
    have s : Same F (upd F b (.tup vs)) := fun c x e => by
      have ne : c ≠ b := fun z => by
        rw [z, q] at e
        cases e
      rw [upd_ne ne]
      exact e
    refine ⟨upd F b (.tup vs), ⟨s, fun _ _ e _ => e, fun c o e => ?_, fun _ o e => ⟨o, e⟩⟩, freeze k q h hd, upd_same⟩
    by_cases hc : c = b
    · rw [hc]
      exact .inr (.inr ⟨hd, vs, h⟩)
    · rw [upd_ne hc] at e
      exact .inl e
def dkOf : Sl → Option (List (Key × D))
  | .od kvs => some kvs
  | .fd kvs => some kvs
  | _ => none
def dtOf : Sl → Option (List (List Key × D))
  | .ot kvs => some kvs
  | .ft kvs => some kvs
  | _ => none
theorem Rel.getK (R : Rel K dA F0 H0 F H σ Γ) {i : Nat} {s : Sl} {kvs : List (Key × D)} (h : Γ[i]? = some s) (hs : dkOf s = some kvs) : ∃ a vs, σ[i]? = some (some (.ref a)) ∧ Rd H a (.dK vs) ∧ RepK K dA F kvs vs := by
  obtain ⟨own, ho, hl⟩ := R.sl
  obtain ⟨o, h1, h2⟩ := hl i s h
  cases s <;> first | cases hs | skip
  · obtain ⟨a, vs, rfl, h3, h4, h5⟩ := h2
    exact ⟨a, vs, h1, .inl h4, h5⟩
  · obtain ⟨a, ob, vs, rfl, h3, h4, h5⟩ := h2
    exact ⟨a, vs, h1, .inr ⟨ob, h4⟩, h5⟩
theorem Rel.getT (R : Rel K dA F0 H0 F H σ Γ) {i : Nat} {s : Sl} {kvs : List (List Key × D)} (h : Γ[i]? = some s) (hs : dtOf s = some kvs) : ∃ a vs, σ[i]? = some (some (.ref a)) ∧ Rd H a (.dT vs) ∧ RepK K dA F kvs vs := by
  obtain ⟨own, ho, hl⟩ := R.sl
  obtain ⟨o, h1, h2⟩ := hl i s h
  cases s <;> first | cases hs | skip
  · obtain ⟨a, vs, rfl, h3, h4, h5⟩ := h2
    exact ⟨a, vs, h1, .inl h4, h5⟩
  · obtain ⟨a, ob, vs, rfl, h3, h4, h5⟩ := h2
    exact ⟨a, vs, h1, .inr ⟨ob, h4⟩, h5⟩
theorem rep_kP {i j : Int} {y : V} (k : Ok K dA F H) (r : Rep K dA F (.tup [.int i, .int j]) y) : ∃ b, y = .ref b ∧ H b = some (.tup ((kP i j).map kV)) := by
  obtain ⟨b, vs, rfl, h1, h2⟩ := r
  obtain ⟨v, w, rfl, h3, h4⟩ := rep2 h2
  cases h3
  cases h4
  exact ⟨b, rfl, k.sub _ _ h1⟩
end

section
variable {X : Cx} {e a b c : Expr} {es : List Expr} {t ta tb tc te tk tv : TE} {m ma mb mc me mk mv : Vm} {pos p : Pos} {x : Str} {q : Pos}
/-! ### x = {} -/
theorem vs_dictK {i : Nat} {pos' dp : Pos} (hN : X.N.Nodup) (hi : X.N[i]? = some x := by rfl) (hx : Loc X.env.scope x := by first | exact Or.inl rfl | exact Or.inr rfl) (hs : swapsWith (.Dict [] [] dp) (some (.Name x pos')) pos.line X.env = pure false := by rfl)
    (hf : X.fn x = true ∨ X.env.scope.names.lookup x = some .local := by first | exact .inl rfl | exact .inr rfl | assumption) : VS X (.Assign [.Name x pos'] (.Dict [] [] dp) pos) (tAsg tDNewK (gName i)) (fun D Γ => D.nx (Γ.set i (.od []))) :=
  ⟨ps_set hN hi hx pe_dnewK hs hf, fun {dA F0 H0 F H σ Γ D Dk} R q f => fun p hp => by
    obtain ⟨e1, k1⟩ := growOwn (o := .dK []) R.ok hp
    exact f.nx F _ _ _ (R.setNew (s := .od []) e1 k1 i (fun a => a = p) (fun a z => by rw [z]; exact ⟨hp, R.ok.fnone hp, _, upd_same, fun _ z => nomatch z⟩) fun own' ho => ⟨p, [], rfl, ho p rfl, upd_same, rfl⟩) q⟩
theorem vs_dictT {i : Nat} {pos' dp : Pos} (hN : X.N.Nodup) (hi : X.N[i]? = some x := by rfl) (hx : Loc X.env.scope x := by first | exact Or.inl rfl | exact Or.inr rfl) (hs : swapsWith (.Dict [] [] dp) (some (.Name x pos')) pos.line X.env = pure false := by rfl)
    (hf : X.fn x = true ∨ X.env.scope.names.lookup x = some .local := by first | exact .inl rfl | exact .inr rfl | assumption) : VS X (.Assign [.Name x pos'] (.Dict [] [] dp) pos) (tAsg tDNewT (gName i)) (fun D Γ => D.nx (Γ.set i (.ot []))) :=
  ⟨ps_set hN hi hx pe_dnewT hs hf, fun {dA F0 H0 F H σ Γ D Dk} R q f => fun p hp => by
    obtain ⟨e1, k1⟩ := growOwn (o := .dT []) R.ok hp
    exact f.nx F _ _ _ (R.setNew (s := .ot []) e1 k1 i (fun a => a = p) (fun a z => by rw [z]; exact ⟨hp, R.ok.fnone hp, _, upd_same, fun _ z => nomatch z⟩) fun own' ho => ⟨p, [], rfl, ho p rfl, upd_same, rfl⟩) q⟩
/-! ### d[k] -/
def vDixK (i : Nat) (mb : Vm) : Vm := fun Γ Q => ∃ s kvs, Γ[i]? = some s ∧ dkOf s = some kvs ∧ mb Γ fun y => match y with
  | .int k => ∃ d, valD kvs (kI k) = some d ∧ Q d
  | _ => False
def vDixT (i : Nat) (mb : Vm) : Vm := fun Γ Q => ∃ s kvs, Γ[i]? = some s ∧ dtOf s = some kvs ∧ mb Γ fun y => match y with
  | .tup [.int k, .int l] => ∃ d, valD kvs (kP k l) = some d ∧ Q d
  | _ => False
theorem room1 {n : Nat} (hr : Room n X.A) : X.A.units + 1 < cLine := by have := hr.un; omega
theorem v_dixK {n : Nat} (hr : Room n X.A) (i : Nat) (hb : VE X b tb mb) (hN : X.N[i]? = some x := by rfl) (hv : Vis X.env.scope x := by first | exact Or.inl rfl | exact Or.inr (Or.inl rfl) | exact Or.inr (Or.inr rfl)) (hd : (x == ("__debug__" : Str)) = false := by decide)
    (hcd : (x == ("__classdict__" : Str)) = false := by decide) (hs : NoSl b := by exact fun _ _ => rfl) : VE X (.Subscript (.Name x q) b pos) (tDGet (tVar i) tb) (vDixK i mb) :=
  ⟨pe_dget (room1 hr) (pe_var hN hv hd hcd) hb.pe hs, fun {dA F0 H0 F H σ Γ Q Qk} R q f => by
    obtain ⟨s, kvs, h1, h2, q⟩ := q
    obtain ⟨a, _, h3, _⟩ := R.getK h1 h2
    refine ⟨.ref a, h3, hb.sim R q fun F1 H1 dy y e1 k1 r1 q1 => ?_⟩
    cases dy <;> first | exact False.elim q1 | skip
    rename_i k
    obtain ⟨d, h4, q1⟩ := q1
    obtain ⟨a', vs, g1, g2, g3⟩ := (R.step e1 k1).getK h1 h2
    rw [h3] at g1
    cases g1
    have g4 := g3.val (kI k)
    rw [h4] at g4
    obtain ⟨v, g5, g6⟩ := g4
    exact ⟨a, v, rfl, .inl ⟨vs, kI k, g2, r1, g5.symm⟩, f F1 H1 d v e1 k1 g6 q1⟩⟩
theorem v_dixT {n : Nat} (hr : Room n X.A) (i : Nat) (hb : VE X b tb mb) (hN : X.N[i]? = some x := by rfl) (hv : Vis X.env.scope x := by first | exact Or.inl rfl | exact Or.inr (Or.inl rfl) | exact Or.inr (Or.inr rfl)) (hd : (x == ("__debug__" : Str)) = false := by decide)
    (hcd : (x == ("__classdict__" : Str)) = false := by decide) (hs : NoSl b := by exact fun _ _ => rfl) : VE X (.Subscript (.Name x q) b pos) (tDGet (tVar i) tb) (vDixT i mb) :=
  ⟨pe_dget (room1 hr) (pe_var hN hv hd hcd) hb.pe hs, fun {dA F0 H0 F H σ Γ Q Qk} R q f => by
    obtain ⟨s, kvs, h1, h2, q⟩ := q
    obtain ⟨a, _, h3, _⟩ := R.getT h1 h2
    refine ⟨.ref a, h3, hb.sim R q fun F1 H1 dy y e1 k1 r1 q1 => ?_⟩
    split at q1
    · rename_i k l
      obtain ⟨d, h4, q1⟩ := q1
      obtain ⟨a', vs, g1, g2, g3⟩ := (R.step e1 k1).getT h1 h2
      rw [h3] at g1
      cases g1
      have g4 := g3.val (kP k l)
      rw [h4] at g4
      obtain ⟨v, g5, g6⟩ := g4
      obtain ⟨bb, rfl, hbb⟩ := rep_kP k1 r1
      exact ⟨a, v, rfl, .inr ⟨vs, kP k l, bb, g2, rfl, hbb, g5.symm⟩, f F1 H1 d v e1 k1 g6 q1⟩
    · exact q1.elim⟩
/-! ### k in d -/
def vInDK (i : Nat) (g : Bool → Bool) (mb : Vm) : Vm := fun Γ Q => mb Γ fun y => match y with
  | .int k => ∃ s kvs, Γ[i]? = some s ∧ dkOf s = some kvs ∧ (∀ d, valD kvs (kI k) = some d → Q (.bl (g true))) ∧ (valD kvs (kI k) = none → Q (.bl (g false)))
  | _ => False
def vInDT (i : Nat) (g : Bool → Bool) (mb : Vm) : Vm := fun Γ Q => mb Γ fun y => match y with
  | .tup [.int k, .int l] => ∃ s kvs, Γ[i]? = some s ∧ dtOf s = some kvs ∧ (∀ d, valD kvs (kP k l) = some d → Q (.bl (g true))) ∧ (valD kvs (kP k l) = none → Q (.bl (g false)))
  | _ => False
theorem v_inDK {n : Nat} (hr : Room n X.A) (i : Nat) (hb : VE X b tb mb) (hm : behindInMarks .In (.Name x q) = false := by rfl) (hN : X.N[i]? = some x := by rfl) (hv : Vis X.env.scope x := by first | exact Or.inl rfl | exact Or.inr (Or.inl rfl) | exact Or.inr (Or.inr rfl)) (hd : (x == ("__debug__" : Str)) = false := by decide)
    (hcd : (x == ("__classdict__" : Str)) = false := by decide) : VCp X (.Compare b [.In] [.Name x q] pos) (tDIn tb (tVar i)) (vInDK i (fun b => b) mb) :=
  ⟨pe_cmp (pc_din (room1 hr) hb.pe (pe_var hN hv hd hcd)) hm, pt_cmp (pc_din (room1 hr) hb.pe (pe_var hN hv hd hcd)) hm, fun {dA F0 H0 F H σ Γ Q Qk} R q f => hb.sim R q fun F1 H1 dy y e1 k1 r1 q1 => by
    cases dy <;> first | exact False.elim q1 | skip
    rename_i k
    obtain ⟨s, kvs, h1, h2, q2, q3⟩ := q1
    obtain ⟨a, vs, g1, g2, g3⟩ := (R.step e1 k1).getK h1 h2
    have g4 := g3.val (kI k)
    refine ⟨.ref a, g1, a, valV vs (kI k), rfl, .inl ⟨vs, kI k, g2, r1, rfl⟩, ?_⟩
    cases h4 : valD kvs (kI k) with
    | none =>
      rw [h4] at g4
      rw [show valV vs (kI k) = none from g4]
      exact f F1 H1 (.bl false) _ e1 k1 rfl (q3 h4)
    | some d =>
      rw [h4] at g4
      obtain ⟨v, g5, _⟩ := g4
      rw [g5]
      exact f F1 H1 (.bl true) _ e1 k1 rfl (q2 d h4)⟩
theorem v_notinDT {n : Nat} (hr : Room n X.A) (i : Nat) (hb : VE X b tb mb) (hm : behindInMarks .NotIn (.Name x q) = false := by rfl) (hN : X.N[i]? = some x := by rfl) (hv : Vis X.env.scope x := by first | exact Or.inl rfl | exact Or.inr (Or.inl rfl) | exact Or.inr (Or.inr rfl)) (hd : (x == ("__debug__" : Str)) = false := by decide)
    (hcd : (x == ("__classdict__" : Str)) = false := by decide) : VCp X (.Compare b [.NotIn] [.Name x q] pos) (tDNotIn tb (tVar i)) (vInDT i (fun b => !b) mb) :=
  ⟨pe_cmp (pc_dnotin (room1 hr) hb.pe (pe_var hN hv hd hcd)) hm, pt_cmp (pc_dnotin (room1 hr) hb.pe (pe_var hN hv hd hcd)) hm, fun {dA F0 H0 F H σ Γ Q Qk} R q f => hb.sim R q fun F1 H1 dy y e1 k1 r1 q1 => by
    unfold vInDT at q
    split at q1
    · rename_i k l
      obtain ⟨s, kvs, h1, h2, q2, q3⟩ := q1
      obtain ⟨a, vs, g1, g2, g3⟩ := (R.step e1 k1).getT h1 h2
      have g4 := g3.val (kP k l)
      obtain ⟨bb, rfl, hbb⟩ := rep_kP k1 r1
      refine ⟨.ref a, g1, a, valV vs (kP k l), rfl, .inr ⟨vs, kP k l, bb, g2, rfl, hbb, rfl⟩, ?_⟩
      cases h4 : valD kvs (kP k l) with
      | none =>
        rw [h4] at g4
        rw [show valV vs (kP k l) = none from g4]
        exact f F1 H1 (.bl true) _ e1 k1 rfl (q3 h4)
      | some d =>
        rw [h4] at g4
        obtain ⟨v, g5, _⟩ := g4
        rw [g5]
        exact f F1 H1 (.bl false) _ e1 k1 rfl (q2 d h4)
    · exact q1.elim⟩
/-! ### d.get(k, x) -/
def vDgetT (i : Nat) (mb mc : Vm) : Vm := fun Γ Q => mb Γ fun y => mc Γ fun z => match y with
  | .tup [.int k, .int l] => ∃ s kvs, Γ[i]? = some s ∧ dtOf s = some kvs ∧ Q ((valD kvs (kP k l)).getD z)
  | _ => False
theorem v_dgetT {n : Nat} {apos cpos : Pos} (hr : Room n X.A) (i : Nat) (hb : VE X b tb mb) (hc : VE X c tc mc) (hN : X.N[i]? = some x := by rfl) (hv : Vis X.env.scope x := by first | exact Or.inl rfl | exact Or.inr (Or.inl rfl) | exact Or.inr (Or.inr rfl)) (hd : (x == ("__debug__" : Str)) = false := by decide)
    (hcd : (x == ("__classdict__" : Str)) = false := by decide) (h1 : attributeBase (.Name x q) "get" X.env (eval (.Name x q) X.env) = eval (.Name x q) X.env := by rfl)
    (h2 : ((backTo cpos (starEach [b, c] X.env)).all (fun x => !x.1) && (backToKw cpos (keywordEach [] X.env)).all (fun x => x.1.isSome)
    && decide (([b, c] : List Expr).length + ([] : List Keyword).length + (if ([] : List Keyword).isEmpty then 0 else 1) < 30)) = true := by rfl) (h3 : (apos.endLine == cpos.line) = true := by rfl)
    (h4 : backTo cpos (starEach [b, c] X.env) = [(false, eval b X.env), (false, eval c X.env)] := by rfl) :
    VE X (.Call (.Attribute (.Name x q) "get" apos) [b, c] [] cpos) (tDGet2 (tVar i) tb tc) (fun Γ Q => (∃ s kvs, Γ[i]? = some s ∧ dtOf s = some kvs) ∧ vDgetT i mb mc Γ Q) :=
  ⟨pe_dget2 (room1 hr) (pe_var hN hv hd hcd) hb.pe hc.pe ⟨h1, h2, h3, h4⟩, fun {dA F0 H0 F H σ Γ Q Qk} R q f => by
    obtain ⟨⟨s, kvs, e1, e2⟩, q⟩ := q
    obtain ⟨a, vs, g1, g2, _⟩ := R.getT e1 e2
    refine ⟨.ref a, g1, a, rfl, .inr ⟨vs, g2⟩, hb.sim R q fun F1 H1 dy y x1 k1 r1 q1 => hc.sim (R.step x1 k1) q1 fun F2 H2 dz z x2 k2 r2 q2 => ?_⟩
    split at q2
    · rename_i k l
      obtain ⟨s', kvs', e1', e2', q2⟩ := q2
      obtain ⟨a', vs', g1', g2', g3'⟩ := (R.step (x1.trans x2) k2).getT e1' e2'
      rw [g1] at g1'
      cases g1'
      obtain ⟨bb, rfl, hbb⟩ := rep_kP k2 (Rep.mono x2.ff _ _ r1)
      have g4 := g3'.val (kP k l)
      refine ⟨valV vs' (kP k l), .inr ⟨vs', kP k l, bb, g2', rfl, hbb, rfl⟩, ?_⟩
      cases h4 : valD kvs' (kP k l) with
      | none =>
        rw [h4] at g4 q2
        rw [show valV vs' (kP k l) = none from g4]
        exact f F2 H2 dz z (x1.trans x2) k2 r2 q2
      | some d =>
        rw [h4] at g4 q2
        obtain ⟨v, g5, g6⟩ := g4
        rw [g5]
        exact f F2 H2 d v (x1.trans x2) k2 g6 q2
    · exact q2.elim⟩
/-! ### d[k] = v -/
def vDputK (i : Nat) (mk mv : Vm) : Vs := fun D Γ => mv Γ fun d => mk Γ fun y => match y with
  | .int k => ∃ kvs, Γ[i]? = some (.od kvs) ∧ kvs.length < 1000000 ∧ D.nx (Γ.set i (.od (putD kvs (kI k) d)))
  | _ => False
def vDputT (i : Nat) (mk mv : Vm) : Vs := fun D Γ => mv Γ fun d => mk Γ fun y => match y with
  | .tup [.int k, .int l] => ∃ kvs, Γ[i]? = some (.ot kvs) ∧ kvs.length < 1000000 ∧ D.nx (Γ.set i (.ot (putD kvs (kP k l) d)))
  | _ => False
theorem vs_dputK {n : Nat} {kx vx : Expr} {pos' : Pos} (hr : Room n X.A) (i : Nat) (hk : VE X kx tk mk) (hv' : VE X vx tv mv) (hN : X.N[i]? = some x := by rfl) (hv : Vis X.env.scope x := by first | exact Or.inl rfl | exact Or.inr (Or.inl rfl) | exact Or.inr (Or.inr rfl)) (hd : (x == ("__debug__" : Str)) = false := by decide)
    (hcd : (x == ("__classdict__" : Str)) = false := by decide) (hs : swapsWith vx (some (.Subscript (.Name x q) kx pos')) pos.line X.env = pure false := by rfl) :
    VS X (.Assign [.Subscript (.Name x q) kx pos'] vx pos) (sDPut (tVar i) tk tv) (fun D Γ => (∃ kvs, Γ[i]? = some (.od kvs)) ∧ vDputK i mk mv D Γ) :=
  ⟨ps_dput (room1 hr) (pe_var hN hv hd hcd) hk.pe hv'.pe hs, fun {dA F0 H0 F H σ Γ D Dk} R q f => by
    obtain ⟨⟨kvs0, e0⟩, q⟩ := q
    refine hv'.sim R q fun F1 H1 d v x1 k1 r1 q1 => ?_
    obtain ⟨a, vs0, g1, _⟩ := R.getK e0 rfl
    refine ⟨.ref a, g1, hk.sim (R.step x1 k1) q1 fun F2 H2 dy y x2 k2 r2 q2 => ?_⟩
    cases dy <;> first | exact False.elim q2 | skip
    rename_i k
    obtain ⟨kvs, e1, hl, q2⟩ := q2
    have R2 := R.step (x1.trans x2) k2
    obtain ⟨own, ho, hsl⟩ := id R2.sl
    obtain ⟨o, g3, a', vs, rfl, g4, g5, g6⟩ := hsl i _ e1
    rw [g1] at g3
    cases g3
    refine ⟨a, _, rfl, .inl ⟨vs, kI k, g5, r2, line_lt (by rw [g6.length]; exact hl), rfl⟩, f.nx F2 _ σ _ (R2.write (s' := .od (putD kvs (kI k) d)) e1 fun own' o' z1 zo z2 => ?_) q2⟩
    obtain ⟨a2, vs2, rfl, y1, y2, y3⟩ := z2
    rw [g1] at z1
    cases z1
    rw [g5] at y2
    cases y2
    exact ⟨y1, a, _, rfl, y1, upd_same, y3.put (kI k) (Rep.mono x2.ff _ _ r1)⟩⟩
theorem vs_dputT {n : Nat} {kx vx : Expr} {pos' : Pos} (hr : Room n X.A) (i : Nat) (hk : VE X kx tk mk) (hv' : VE X vx tv mv) (hN : X.N[i]? = some x := by rfl) (hv : Vis X.env.scope x := by first | exact Or.inl rfl | exact Or.inr (Or.inl rfl) | exact Or.inr (Or.inr rfl)) (hd : (x == ("__debug__" : Str)) = false := by decide)
    (hcd : (x == ("__classdict__" : Str)) = false := by decide) (hs : swapsWith vx (some (.Subscript (.Name x q) kx pos')) pos.line X.env = pure false := by rfl) :
    VS X (.Assign [.Subscript (.Name x q) kx pos'] vx pos) (sDPut (tVar i) tk tv) (fun D Γ => (∃ kvs, Γ[i]? = some (.ot kvs)) ∧ vDputT i mk mv D Γ) :=
  ⟨ps_dput (room1 hr) (pe_var hN hv hd hcd) hk.pe hv'.pe hs, fun {dA F0 H0 F H σ Γ D Dk} R q f => by
    obtain ⟨⟨kvs0, e0⟩, q⟩ := q
    refine hv'.sim R q fun F1 H1 d v x1 k1 r1 q1 => ?_
    obtain ⟨a, vs0, g1, _⟩ := R.getT e0 rfl
    refine ⟨.ref a, g1, hk.sim (R.step x1 k1) q1 fun F2 H2 dy y x2 k2 r2 q2 => ?_⟩
    split at q2
    · rename_i k l
      obtain ⟨kvs, e1, hl, q2⟩ := q2
      have R2 := R.step (x1.trans x2) k2
      obtain ⟨own, ho, hsl⟩ := id R2.sl
      obtain ⟨o, g3, a', vs, rfl, g4, g5, g6⟩ := hsl i _ e1
      rw [g1] at g3
      cases g3
      obtain ⟨bb, rfl, hbb⟩ := rep_kP k2 r2
      refine ⟨a, _, rfl, .inr ⟨vs, kP k l, bb, g5, rfl, hbb, line_lt (by rw [g6.length]; exact hl), rfl⟩, f.nx F2 _ σ _ (R2.write (s' := .ot (putD kvs (kP k l) d)) e1 fun own' o' z1 zo z2 => ?_) q2⟩
      obtain ⟨a2, vs2, rfl, y1, y2, y3⟩ := z2
      rw [g1] at z1
      cases z1
      rw [g5] at y2
      cases y2
      exact ⟨y1, a, _, rfl, y1, upd_same, y3.put (kP k l) (Rep.mono x2.ff _ _ r1)⟩
    · exact q2.elim⟩
end
end LV
set_option Elab.async false
set_option linter.all false
set_option maxRecDepth 100000
set_option maxHeartbeats 4000000
/-! LV12: walks over a dict of one's own; sorted of its keys; index; list(range()); any, all of an own list. -/
namespace LV
open PySem PySem.Spec PyProof.Rows L2

section
variable {K : PySem.W.Frag} {dA : Option Addr} {F0 H0 F H F1 H1 : Hp} {σ : L2.St} {Γ : Ev}
theorem Ext.unlock {d : Addr} {x u : HO} (e : Ext dA F (upd H d x) F1 H1) (h : H d = some u) (hx : nt x) : Ext dA F H F1 (upd H1 d u) where
  ff := e.ff
  keep := fun c o q n => by
    by_cases hc : c = d
    · rw [hc] at q ⊢
      rw [upd_same, ← h, q]
    · rw [upd_ne hc]
      exact e.keep c o (by rw [upd_ne hc]; exact q) n
  new := fun c o q => by
    rcases e.new c o q with z | z | ⟨z1, xs, z⟩
    · exact .inl z
    · by_cases hc : c = d
      · rw [hc, upd_same] at z; cases z
      · rw [upd_ne hc] at z; exact .inr (.inl z)
    · by_cases hc : c = d
      · rw [hc, upd_same] at z
        exact absurd (Option.some.inj z) (hx xs)
      · rw [upd_ne hc] at z
        exact .inr (.inr ⟨z1, xs, z⟩)
  dom := fun c o q => by
    by_cases hc : c = d
    · exact ⟨u, by rw [hc, upd_same]⟩
    · obtain ⟨y, hy⟩ := e.dom c o (by rw [upd_ne hc]; exact q)
      exact ⟨y, by rw [upd_ne hc]; exact hy⟩
/-- what is locked -/
def dkF (i : Nat) (mk : List (Key × D) → (List D → Prop) → Prop) : Va := fun Γ Q => ∃ kvs, Γ[i]? = some (.fd kvs) ∧ mk kvs Q
def dtF (i : Nat) : Va := fun Γ Q => ∃ kvs, Γ[i]? = some (.ft kvs) ∧ ∃ ks : List (Int × Int), kvs.map (·.1) = ks.map (fun k => kP k.1 k.2) ∧ Q (ks.map fun k => .tup [.int k.1, .int k.2])
def ksK (kvs : List (Key × D)) (Q : List D → Prop) : Prop := ∃ ks : List Int, kvs.map (·.1) = ks.map kI ∧ Q (ks.map .int)
theorem hi_K (i : Nat) {Q : List D → Prop} {Rk : It → Hp → Prop} (R : Rel K dA F0 H0 F H σ Γ) (q : dkF i ksK Γ Q) (f : ∀ J F' H' ds, Ext dA F H F' H' → Ok K dA F' H' → WalkE K dA J F' H' ds → Q ds → Rk J H') : iKeys (tVar i) σ H Rk := by
  obtain ⟨kvs, h, ks, hk, q⟩ := q
  obtain ⟨own, ho, hsl⟩ := id R.sl
  obtain ⟨o, g1, a, ob, vs, rfl, g2, g3, g4⟩ := hsl i _ h
  have hd := (ho a i g2).2.2.2
  refine ⟨.ref a, g1, a, ob, rfl, .inl ⟨vs, g3, f _ F H (ks.map .int) Ext.refl R.ok (fun F1 H1 e1 k1 j => ?_) q⟩⟩
  have h5 : H1 a = some (.frz ob (.dK vs)) := e1.keep _ _ g3 hd
  have hl : vs.length = ks.length := by
    have := congrArg List.length hk
    rw [List.length_map, List.length_map] at this
    rw [g4.length, this]
  refine ⟨fun hj => ?_, fun hj => ⟨h5, by rw [hl]; simpa using hj⟩⟩
  refine ⟨⟨h5, by rw [hl]; simpa using hj⟩, fun x H2 ⟨e, k, v, y1, y2⟩ => ?_⟩
  subst e
  have hj2 : j < ks.length := by simpa using hj
  have y3 : (vs.map (·.1))[j]? = some k := by rw [List.getElem?_map, y1] <;> rfl
  rw [g4.keys, hk, List.getElem?_map, List.getElem?_eq_getElem hj2] at y3
  cases y3
  exact ⟨F1, .int ks[j], Ext.refl, k1, by rw [List.getElem?_map, List.getElem?_eq_getElem hj2] <;> rfl, y2⟩
theorem hi_T (i : Nat) {Q : List D → Prop} {Rk : It → Hp → Prop} (R : Rel K dA F0 H0 F H σ Γ) (q : dtF i Γ Q) (f : ∀ J F' H' ds, Ext dA F H F' H' → Ok K dA F' H' → WalkE K dA J F' H' ds → Q ds → Rk J H') : iKeys (tVar i) σ H Rk := by
  obtain ⟨kvs, h, ks, hk, q⟩ := q
  obtain ⟨own, ho, hsl⟩ := id R.sl
  obtain ⟨o, g1, a, ob, vs, rfl, g2, g3, g4⟩ := hsl i _ h
  have hd := (ho a i g2).2.2.2
  refine ⟨.ref a, g1, a, ob, rfl, .inr ⟨vs, g3, f _ F H _ Ext.refl R.ok (fun F1 H1 e1 k1 j => ?_) q⟩⟩
  have h5 : H1 a = some (.frz ob (.dT vs)) := e1.keep _ _ g3 hd
  have hl : vs.length = ks.length := by
    have := congrArg List.length hk
    rw [List.length_map, List.length_map] at this
    rw [g4.length, this]
  refine ⟨fun hj => ?_, fun hj => ⟨h5, by rw [hl]; simpa using hj⟩⟩
  refine ⟨⟨h5, by rw [hl]; simpa using hj⟩, fun x H2 ⟨e, k, v, b, y1, y2, y4⟩ => ?_⟩
  subst e
  have hj2 : j < ks.length := by simpa using hj
  have y3 : (vs.map (·.1))[j]? = some k := by rw [List.getElem?_map, y1] <;> rfl
  rw [g4.keys, hk, List.getElem?_map, List.getElem?_eq_getElem hj2] at y3
  cases y3
  obtain ⟨F2, e2, k2, h2⟩ := know k1 y4
  refine ⟨F2, .tup [.int ks[j].1, .int ks[j].2], e2, k2, by rw [List.getElem?_map, List.getElem?_eq_getElem hj2] <;> rfl, ?_⟩
  rw [y2]
  exact ⟨b, _, rfl, h2, RepL.cons (show Rep K dA F2 (.int _) (.int _) from rfl) (RepL.one (show Rep K dA F2 (.int _) (.int _) from rfl))⟩
end

section
variable {X : Cx} {elt tg : Expr} {ifs : List Expr} {scope : Scope} {own : List (Str × Nat)} {tt : Bk TT} {mt : Vt} {te : Bk TE} {me : Vm} {g : Bk TG} {L : List Nat} {mg : Vg} {x : Str} {q : Pos} {pos p : Pos}
def vLcdK (i : Nat) (mg : Vg) (mt : Vt) (me : Vm) (vs : List Nat) : Va := fun Γ Q => ∃ kvs, Γ[i]? = some (.od kvs) ∧ vLc (dkF i ksK) mg mt me vs (Γ.set i (.fd kvs)) Q
def vLcdT (i : Nat) (mg : Vg) (mt : Vt) (me : Vm) (vs : List Nat) : Va := fun Γ Q => ∃ kvs, Γ[i]? = some (.ot kvs) ∧ vLc (dtF i) mg mt me vs (Γ.set i (.ft kvs)) Q
theorem vl_lcdK (hc : X.calm = true) (hN : X.N.Nodup) (i : Nat) (ok : blkC X.N X.env.scope scope own = true)
    (hg : ∀ (s : Shared) (H : Hp) (C : Addr) (cl : List (Str × Addr)) (fp : List Addr), VT1 (X.blk s H scope (compEnvC scope cl C X.env) fp) tg (g s H C cl fp) L mg) (ht : ∀ (s : Shared) (H : Hp) (C : Addr) (cl : List (Str × Addr)) (fp : List Addr), VTq (X.blk s H scope (compEnvC scope cl C X.env) fp) ifs (tt s H C cl fp) mt)
    (he : ∀ (s : Shared) (H : Hp) (C : Addr) (cl : List (Str × Addr)) (fp : List Addr), VE (X.blk s H scope (compEnvC scope cl C X.env) fp) elt (te s H C cl fp) me) (hNx : X.N[i]? = some x := by rfl) (hv : Vis X.env.scope x := by first | exact Or.inl rfl | exact Or.inr (Or.inl rfl) | exact Or.inr (Or.inr rfl)) (hd : (x == ("__debug__" : Str)) = false := by decide)
    (hcd : (x == ("__classdict__" : Str)) = false := by decide) (hL : ∀ i ∈ L, i ∈ own.map (·.2) := by decide) (hs : ∀ y, foldedSetIterable (.Name x q) X.env y = pure y := by intro _; rfl) (eg : ∀ s H C cl fp, g s H C cl fp = b0 g := by intros; rfl) (et : ∀ s H C cl fp, tt s H C cl fp = b0 tt := by intros; rfl) (ee : ∀ s H C cl fp, te s H C cl fp = b0 te := by intros; rfl) :
    VL X (.ListComp elt [⟨tg, .Name x q, ifs, 0⟩] scope pos) (tLockE (tLc (iKeys (tVar i)) (b0 g) (b0 tt) (b0 te) (own.map (·.2)))) (vLcdK i mg mt me (own.map (·.2))) :=
  ⟨pe_lock (pe_lc hc hN (pi_keys (pe_var hNx hv hd hcd)) (blkOk_by ok) (fun s H C cl fp => eg s H C cl fp ▸ (hg s H C cl fp).pg) (fun s H C cl fp => et s H C cl fp ▸ (ht s H C cl fp).pts) (fun s H C cl fp => ee s H C cl fp ▸ (he s H C cl fp).pe) hs),
   fun {dA F0 H0 F H σ Γ Q Qk} R q f => by
    obtain ⟨kvs, h, q⟩ := q
    obtain ⟨own', ho, hsl⟩ := id R.sl
    obtain ⟨o, g1, a, vs, rfl, g2, g3, g4⟩ := hsl i _ h
    obtain ⟨_, hf, _, hda⟩ := ho a i g2
    refine ⟨a, .dK vs, g3, trivial, fun od => ?_⟩
    have R' := R.write (a := a) (o' := .frz od (.dK vs)) (s' := .fd kvs) h fun own2 o2 z1 zo z2 => by
      obtain ⟨a2, vs2, rfl, y1, y2, y3⟩ := z2
      rw [g1] at z1
      cases z1
      rw [g3] at y2
      cases y2
      exact ⟨y1, a, od, vs, rfl, y1, upd_same, y3⟩
    refine sim_lc (K := X.K) (mi := dkF i ksK) (fun {dA F0 H0 F H σ Γ Q R} R1 q1 f1 => hi_K i R1 q1 f1) (hg sh0 (fun _ => none) 0 [] []).sim (ht sh0 (fun _ => none) 0 [] []).sim (he sh0 (fun _ => none) 0 [] []).sim hL R' q fun F2 H2 pp ds ws e k n fn hp r q2 => ?_
    have nx : nt (.frz od (.dK vs)) := fun _ z => nomatch z
    have hpa : pp ≠ a := fun z => by
      rw [z, upd_same] at n
      cases n
    refine ⟨e.keep _ _ upd_same hda, f F2 _ pp ds ws (e.unlock g3 nx) (k.ownStep (e.fkeep upd_same hf) hda) (by rw [upd_ne hpa] at n; exact n) fn (by rw [upd_ne hpa]; exact hp) r q2⟩⟩
theorem vl_lcdT (hc : X.calm = true) (hN : X.N.Nodup) (i : Nat) (ok : blkC X.N X.env.scope scope own = true)
    (hg : ∀ (s : Shared) (H : Hp) (C : Addr) (cl : List (Str × Addr)) (fp : List Addr), VT1 (X.blk s H scope (compEnvC scope cl C X.env) fp) tg (g s H C cl fp) L mg) (ht : ∀ (s : Shared) (H : Hp) (C : Addr) (cl : List (Str × Addr)) (fp : List Addr), VTq (X.blk s H scope (compEnvC scope cl C X.env) fp) ifs (tt s H C cl fp) mt)
    (he : ∀ (s : Shared) (H : Hp) (C : Addr) (cl : List (Str × Addr)) (fp : List Addr), VE (X.blk s H scope (compEnvC scope cl C X.env) fp) elt (te s H C cl fp) me) (hNx : X.N[i]? = some x := by rfl) (hv : Vis X.env.scope x := by first | exact Or.inl rfl | exact Or.inr (Or.inl rfl) | exact Or.inr (Or.inr rfl)) (hd : (x == ("__debug__" : Str)) = false := by decide)
    (hcd : (x == ("__classdict__" : Str)) = false := by decide) (hL : ∀ i ∈ L, i ∈ own.map (·.2) := by decide) (hs : ∀ y, foldedSetIterable (.Name x q) X.env y = pure y := by intro _; rfl) (eg : ∀ s H C cl fp, g s H C cl fp = b0 g := by intros; rfl) (et : ∀ s H C cl fp, tt s H C cl fp = b0 tt := by intros; rfl) (ee : ∀ s H C cl fp, te s H C cl fp = b0 te := by intros; rfl) :
    VL X (.ListComp elt [⟨tg, .Name x q, ifs, 0⟩] scope pos) (tLockE (tLc (iKeys (tVar i)) (b0 g) (b0 tt) (b0 te) (own.map (·.2)))) (vLcdT i mg mt me (own.map (·.2))) :=
  ⟨pe_lock (pe_lc hc hN (pi_keys (pe_var hNx hv hd hcd)) (blkOk_by ok) (fun s H C cl fp => eg s H C cl fp ▸ (hg s H C cl fp).pg) (fun s H C cl fp => et s H C cl fp ▸ (ht s H C cl fp).pts) (fun s H C cl fp => ee s H C cl fp ▸ (he s H C cl fp).pe) hs),
   fun {dA F0 H0 F H σ Γ Q Qk} R q f => by
    obtain ⟨kvs, h, q⟩ := q
    obtain ⟨own', ho, hsl⟩ := id R.sl
    obtain ⟨o, g1, a, vs, rfl, g2, g3, g4⟩ := hsl i _ h
    obtain ⟨_, hf, _, hda⟩ := ho a i g2
    refine ⟨a, .dT vs, g3, trivial, fun od => ?_⟩
    have R' := R.write (a := a) (o' := .frz od (.dT vs)) (s' := .ft kvs) h fun own2 o2 z1 zo z2 => by
      obtain ⟨a2, vs2, rfl, y1, y2, y3⟩ := z2
      rw [g1] at z1
      cases z1
      rw [g3] at y2
      cases y2
      exact ⟨y1, a, od, vs, rfl, y1, upd_same, y3⟩
    refine sim_lc (K := X.K) (mi := dtF i) (fun {dA F0 H0 F H σ Γ Q R} R1 q1 f1 => hi_T i R1 q1 f1) (hg sh0 (fun _ => none) 0 [] []).sim (ht sh0 (fun _ => none) 0 [] []).sim (he sh0 (fun _ => none) 0 [] []).sim hL R' q fun F2 H2 pp ds ws e k n fn hp r q2 => ?_
    have nx : nt (.frz od (.dT vs)) := fun _ z => nomatch z
    have hpa : pp ≠ a := fun z => by
      rw [z, upd_same] at n
      cases n
    refine ⟨e.keep _ _ upd_same hda, f F2 _ pp ds ws (e.unlock g3 nx) (k.ownStep (e.fkeep upd_same hf) hda) (by rw [upd_ne hpa] at n; exact n) fn (by rw [upd_ne hpa]; exact hp) r q2⟩⟩
end

/-! ### sorted(d), d a dict of one's own by ints -/
section
variable {X : Cx} {e a b c : Expr} {es : List Expr} {t ta tb tc te : TE} {m ma mb mc me : Vm} {pos p : Pos} {x : Str} {q : Pos}
def vSortedK (i : Nat) : Va := fun Γ Q => ∃ (kvs : List (Key × D)) (ks : List Int), Γ[i]? = some (.od kvs) ∧ kvs.map (·.1) = ks.map kI ∧ ks.length < 64 ∧ ∀ ys : List Int, ys.Perm ks → ys.Pairwise (· ≤ ·) → Q (ys.map .int)
theorem vl_sortedK (hc : X.calm = true) (hm : X.mg "sorted" = none) (i : Nat) (hN : X.N[i]? = some x := by rfl) (hv : Vis X.env.scope x := by first | exact Or.inl rfl | exact Or.inr (Or.inl rfl) | exact Or.inr (Or.inr rfl)) (hd : (x == ("__debug__" : Str)) = false := by decide)
    (hcd : (x == ("__classdict__" : Str)) = false := by decide) (hg : Gl X "sorted" := by rfl) (hs : starEach ((Expr.Name x q) :: []) X.env = (false, eval (Expr.Name x q) X.env) :: starEach [] X.env := by rfl) :
    VL X (.Call (.Name "sorted" p) [.Name x q] [] pos) (tCB (fun xs H Q => ∃ (a : Addr) (kvs : List (Key × V)) (ks : List Int), xs = [.ref a] ∧ Rd H a (.dK kvs) ∧ kvs.map (·.1) = ks.map Sum.inl ∧ ks.length < 64 ∧
    ∀ (ys : List Int) (p : Addr), ys.Perm ks → ys.Pairwise (· ≤ ·) → H p = none → Q (.ref p) (upd H p (.lst (ys.map V.int)))) (tCons (tVar i) tNil)) (vSortedK i) :=
  ⟨pe_callB (call_sortedDI hc) hg hm (by decide +kernel) (pa_cons (pe_var hN hv hd hcd) pa_nil hs) (by decide) (by decide) hs rfl, fun {dA F0 H0 F H σ Γ Q Qk} R q f => by
    obtain ⟨kvs, ks, h, hk, hl, q⟩ := q
    obtain ⟨a, vs, g1, g2, g3⟩ := R.getK h rfl
    refine ⟨.ref a, g1, a, vs, ks, rfl, g2, by rw [g3.keys, hk], hl, fun ys pp hp ho hn => ?_⟩
    obtain ⟨e1, k1⟩ := growOwn (o := .lst (ys.map V.int)) R.ok hn
    have r : RepL X.K dA F (ys.map D.int) (ys.map V.int) := RepL.of_ints ys
    exact f F _ pp _ _ e1 k1 hn (R.ok.fnone hn) upd_same r (q ys hp ho)⟩
/-! ### xs.index(y) -/
def cIndex (xs : List D) (y : D) (Q : D → Prop) : Prop := pl 40 (.lst xs) ∧ pl 40 y ∧ ∃ j : Nat, xs[j]? = some y ∧ (∀ m, m < j → xs[m]? ≠ some y) ∧ Q (.int (j : Nat))
theorem toPs_get {xs : List D} {j : Nat} : (toPs xs)[j]? = xs[j]?.map toP := by rw [toPs_eq, List.getElem?_map]
theorem v_index {n : Nat} {apos cpos : Pos} (hr : Room n X.A) (ho : VE X a ta ma) (he : VE X e te me) (hs : starEach (e :: []) X.env = (false, eval e X.env) :: starEach [] X.env := by rfl)
    (hbase : attributeBase a "index" X.env (eval a X.env) = eval a X.env := by rfl)
    (hfew : ((backTo cpos (starEach (e :: []) X.env)).all (fun x => !x.1) && (backToKw cpos (keywordEach [] X.env)).all (fun x => x.1.isSome)
      && decide ((e :: []).length + ([] : List Keyword).length + (if ([] : List Keyword).isEmpty then 0 else 1) < 30)) = true := by rfl)
    (hline : (apos.endLine == cpos.line) = true := by rfl) (hplain : (backTo cpos (starEach [] X.env)).any (·.1) = false := by rfl) :
    VE X (.Call (.Attribute a "index" apos) [e] [] cpos) (tBM X.K "list" (rIndexD X.K) ta (tCons te tNil)) (fun Γ Q => ma Γ fun d => match d with
      | .lst xs => me Γ fun y => cIndex xs y Q
      | _ => False) :=
  ⟨pe_bm PySem.F.plainAttrs_list PySem.F.slot_list_index PySem.F.type_list_index (mt_indexD (room65 hr)) ho.pe (pa_cons he.pe pa_nil hs) hbase hfew hline hs hplain, fun {dA F0 H0 F H σ Γ Q Qk} R q f => ho.sim R q fun F1 H1 d v e1 k1 r1 q1 => by
    cases d <;> first | exact False.elim q1 | skip
    rename_i xs
    obtain ⟨a, vs, rfl, h1, h2⟩ := id r1
    refine ⟨.inl ⟨rfl, vs, sqL_mono k1.sub h1⟩, he.sim (R.step e1 k1) q1 fun F2 H2 dy y e2 k2 r2 ⟨p1, p2, j, j1, j2, q2⟩ => ?_⟩
    have r1' := Rep.mono e2.ff _ _ r1
    refine ⟨a, y, toP dy, toPs xs, j, toP dy, rfl, rfl, dp_of k2.sub p1 r1', dp_of k2.sub p2 r2, pl_shaped p1, pl_shaped p2, by rw [toPs_get, j1] <;> rfl, (pl_eqv 40 dy dy p2 p2).mpr rfl, fun m z hm hz => ?_, f F2 H2 (.int (j : Nat)) _ (e1.trans e2) k2 rfl q2⟩
    rw [toPs_get] at hz
    cases hx : xs[m]? with
    | none => rw [hx] at hz; cases hz
    | some w =>
      rw [hx] at hz
      cases hz
      cases hb : PyData.eqv (toP w) (toP dy) with
      | false => rfl
      | true =>
        have := (pl_eqv 40 w dy (pl_lst39 p1 w (List.mem_of_getElem? hx)) p2).mp hb
        rw [this] at hx
        exact absurd hx (j2 m hm)⟩
/-! ### list(range(n)) -/
theorem vl_listR {p2 pos2 : Pos} (hc : X.calm = true) (hl : X.mg "list" = none) (hr : X.mg "range" = none) (ha : VE X a ta ma) (hg : Gl X "list" := by rfl) (hg2 : Gl X "range" := by rfl) (na : starEach (a :: []) X.env = (false, eval a X.env) :: starEach [] X.env := by rfl)
    (na2 : starEach ((.Call (.Name "range" p2) [a] [] pos2) :: []) X.env = (false, eval (.Call (.Name "range" p2) [a] [] pos2) X.env) :: starEach [] X.env := by rfl) :
    VL X (.Call (.Name "list" p) [.Call (.Name "range" p2) [a] [] pos2] [] pos) (tLstRg (tRg1 ta)) (fun Γ Q => ma Γ fun y => match y with
      | .int k => 0 ≤ k ∧ k ≤ 1000000 ∧ Q (rng 0 k.toNat)
      | _ => False) :=
  ⟨pe_listRg hc hg hl (prg_1 hg2 hr ha.pe na) na2, fun {dA F0 H0 F H σ Γ Q Qk} R q f => ha.sim R q fun F1 H1 d v e1 k1 r1 q1 => by
    cases d <;> first | exact False.elim q1 | skip
    rename_i k
    obtain ⟨h1, h2, q1⟩ := q1
    refine ⟨k, r1, ⟨by omega, by omega, by omega, by omega, by omega⟩, fun pp hp => ?_⟩
    obtain ⟨e2, k2⟩ := growOwn (o := .lst (rgV 0 k)) k1 hp
    have r : RepL X.K dA F1 (rng 0 k.toNat) (rgV 0 k) := by
      have e1 : rng 0 k.toNat = ((List.range k.toNat).map fun i : Nat => (0 : Int) + (i : Nat)).map D.int := by rw [List.map_map] <;> rfl
      have e2 : rgV 0 k = ((List.range k.toNat).map fun i : Nat => (0 : Int) + (i : Nat)).map V.int := by
        unfold rgV
        rw [show (k - 0).toNat = k.toNat by omega, List.map_map] <;> rfl
      rw [e1, e2]
      exact RepL.of_ints _
    exact f F1 _ pp _ _ (e1.trans e2) k2 (e1.none hp) (k1.fnone hp) upd_same r q1⟩
/-! ### any(own), all(own) -/
def vAllO (i : Nat) : Vm := fun Γ Q => ∃ ns : List Bool, Γ[i]? = some (.ow (ns.map .bl)) ∧ brn (¬ false ∈ ns) fun b => Q (.bl b)
def vAnyO (i : Nat) : Vm := fun Γ Q => ∃ ns : List Bool, Γ[i]? = some (.ow (ns.map .bl)) ∧ brn (true ∈ ns) fun b => Q (.bl b)
theorem v_allO (i : Nat) (hc : X.calm = true) (hm : X.mg "all" = none) (hN : X.N[i]? = some x := by rfl) (hv : Vis X.env.scope x := by first | exact Or.inl rfl | exact Or.inr (Or.inl rfl) | exact Or.inr (Or.inr rfl)) (hd : (x == ("__debug__" : Str)) = false := by decide)
    (hcd : (x == ("__classdict__" : Str)) = false := by decide) (hg : Gl X "all" := by rfl) (hs : starEach ((Expr.Name x q) :: []) X.env = (false, eval (Expr.Name x q) X.env) :: starEach [] X.env := by rfl) :
    VE X (.Call (.Name "all" p) [.Name x q] [] pos) (tCB (rAll X.K) (tCons (tVar i) tNil)) (vAllO i) :=
  ⟨pe_callB (cr_all hc) hg hm (by decide +kernel) (pa_cons (pe_var hN hv hd hcd) pa_nil hs) (by decide) (by decide) hs rfl, fun {dA F0 H0 F H σ Γ Q Qk} R q f => by
    obtain ⟨ns, h, q⟩ := q
    obtain ⟨a, vs, h1, h2, h3, h4, _⟩ := R.getOw h
    have e2 := RepL.bls h3
    subst e2
    exact ⟨.ref a, h1, a, ns, rfl, SqL.of h2, f F H (.bl (ns.all id)) _ Ext.refl R.ok rfl (brn_iff (Q := fun b => Q (.bl b)) q (all_mem ns))⟩⟩
theorem v_anyO (i : Nat) (hc : X.calm = true) (hm : X.mg "any" = none) (hN : X.N[i]? = some x := by rfl) (hv : Vis X.env.scope x := by first | exact Or.inl rfl | exact Or.inr (Or.inl rfl) | exact Or.inr (Or.inr rfl)) (hd : (x == ("__debug__" : Str)) = false := by decide)
    (hcd : (x == ("__classdict__" : Str)) = false := by decide) (hg : Gl X "any" := by rfl) (hs : starEach ((Expr.Name x q) :: []) X.env = (false, eval (Expr.Name x q) X.env) :: starEach [] X.env := by rfl) :
    VE X (.Call (.Name "any" p) [.Name x q] [] pos) (tCB (rAny X.K) (tCons (tVar i) tNil)) (vAnyO i) :=
  ⟨pe_callB (cr_any hc) hg hm (by decide +kernel) (pa_cons (pe_var hN hv hd hcd) pa_nil hs) (by decide) (by decide) hs rfl, fun {dA F0 H0 F H σ Γ Q Qk} R q f => by
    obtain ⟨ns, h, q⟩ := q
    obtain ⟨a, vs, h1, h2, h3, h4, _⟩ := R.getOw h
    have e2 := RepL.bls h3
    subst e2
    exact ⟨.ref a, h1, a, ns, rfl, SqL.of h2, f F H (.bl (ns.any id)) _ Ext.refl R.ok rfl (brn_iff (Q := fun b => Q (.bl b)) q (any_mem ns))⟩⟩
end
end LV
set_option Elab.async false
set_option linter.all false
set_option maxRecDepth 100000
set_option maxHeartbeats 4000000
/-! LV13: lists of lists of one's own. -/
namespace LV
open PySem PySem.Spec PyProof.Rows L2

theorem wipe_wipe (σ : L2.St) (vs : List Nat) : wipe (wipe σ vs) vs = wipe σ vs := by
  have z : ∀ (us : List Nat), (∀ i ∈ us, i ∈ vs) → ∀ (j : Nat), (wipe (wipe σ vs) us)[j]? = (wipe σ vs)[j]? := fun us => by
    induction us with
    | nil => intro _ j; rfl
    | cons u us ih =>
      intro hu j
      show ((wipe (wipe σ vs) us).set u none)[j]? = _
      by_cases hj : u = j
      · subst hj
        by_cases hlen : u < (wipe (wipe σ vs) us).length
        · rw [List.getElem?_set_self hlen]
          have h1 : ∀ v, (wipe σ vs)[u]? ≠ some (some v) := fun v hv => (wipe_some hv).2 (hu u List.mem_cons_self)
          rw [wipe_length] at hlen
          rw [List.getElem?_eq_getElem hlen]
          rw [List.getElem?_eq_getElem hlen] at h1
          cases hc : (wipe σ vs)[u] with
          | none => rfl
          | some v => exact absurd (by rw [hc]) (h1 v)
        · rw [List.getElem?_eq_none (by simpa using hlen), List.getElem?_eq_none (by rw [wipe_length] at hlen; omega)]
      · rw [List.getElem?_set_ne hj]
        exact ih (fun i hi => hu i (List.mem_cons_of_mem _ hi)) j
  exact List.ext_getElem? fun j => z vs (fun _ h => h) j
section
variable {K : PySem.W.Frag} {dA : Option Addr} {F0 H0 F H F1 H1 : Hp} {σ : L2.St} {Γ : Ev}
theorem ownL_nil {ok : Addr → Prop} : ∀ {as : List Addr}, (∀ a ∈ as, ok a ∧ H a = some (.lst [])) → OwnL K dA F H ok (List.replicate as.length []) as
  | [], _ => rfl
  | a :: as, h => ⟨a, as, [], rfl, (h a List.mem_cons_self).1, (h a List.mem_cons_self).2, rfl, ownL_nil fun b hb => h b (List.mem_cons_of_mem _ hb)⟩
theorem ownL_get {ok : Addr → Prop} : ∀ {xss : List (List D)} {as : List Addr} {j : Nat} {xs : List D}, OwnL K dA F H ok xss as → xss[j]? = some xs → ∃ a vs, as[j]? = some a ∧ ok a ∧ H a = some (.lst vs) ∧ RepL K dA F xs vs
  | [], _, _, _, _, h => by simp at h
  | ys :: xss, _, 0, xs, ⟨a, r, vs, e, h1, h2, h3, h4⟩, h => by
    subst e
    simp only [List.getElem?_cons_zero] at h
    cases h
    exact ⟨a, vs, rfl, h1, h2, h3⟩
  | ys :: xss, _, j + 1, xs, ⟨a, r, vs, e, h1, h2, h3, h4⟩, h => by
    subst e
    simp only [List.getElem?_cons_succ] at h
    obtain ⟨b, ws, g1, g2⟩ := ownL_get (j := j) h4 h
    exact ⟨b, ws, by simpa using g1, g2⟩
theorem ownL_len {ok : Addr → Prop} : ∀ {xss : List (List D)} {as : List Addr}, OwnL K dA F H ok xss as → as.length = xss.length
  | [], _, h => by cases h; rfl
  | ys :: xss, _, ⟨a, r, vs, e, h1, h2, h3, h4⟩ => by
    subst e
    rw [List.length_cons, List.length_cons, ownL_len h4]
theorem ownL_keep {ok : Addr → Prop} {b : Addr} {o : HO} : ∀ {xss : List (List D)} {as : List Addr}, b ∉ as → OwnL K dA F H ok xss as → OwnL K dA F (upd H b o) ok xss as
  | [], _, _, h => h
  | ys :: xss, _, hn, ⟨a, r, vs, e, h1, h2, h3, h4⟩ => by
    subst e
    have ne : a ≠ b := fun z => hn (by rw [z]; exact List.mem_cons_self)
    exact ⟨a, r, vs, rfl, h1, by rw [upd_ne ne]; exact h2, h3, ownL_keep (fun z => hn (List.mem_cons_of_mem _ z)) h4⟩
theorem ownL_set {ok : Addr → Prop} {b : Addr} {xs' : List D} {vs' : List V} (hr : RepL K dA F xs' vs') : ∀ {xss : List (List D)} {as : List Addr} {j : Nat}, as.Nodup → as[j]? = some b → OwnL K dA F H ok xss as → OwnL K dA F (upd H b (.lst vs')) ok (xss.set j xs') as
  | [], _, _, _, e, h => by
    cases h
    simp at e
  | ys :: xss, _, 0, hn, e, ⟨a, r, vs, e', h1, h2, h3, h4⟩ => by
    subst e'
    simp only [List.getElem?_cons_zero] at e
    cases e
    rw [List.nodup_cons] at hn
    exact ⟨b, r, vs', rfl, h1, upd_same, hr, ownL_keep hn.1 h4⟩
  | ys :: xss, _, j + 1, hn, e, ⟨a, r, vs, e', h1, h2, h3, h4⟩ => by
    subst e'
    simp only [List.getElem?_cons_succ] at e
    rw [List.nodup_cons] at hn
    have ne : a ≠ b := fun z => hn.1 (by rw [z]; exact List.mem_of_getElem? e)
    exact ⟨a, r, vs, rfl, h1, by rw [upd_ne ne]; exact h2, h3, ownL_set hr hn.2 e h4⟩
theorem sim_on {wi : TI} {mi : Va} {vs : List Nat} {g : TG} {mg : Vg} {L : List Nat}
    (hi : ∀ {dA F0 H0 F H σ Γ Q R}, Rel K dA F0 H0 F H σ Γ → mi Γ Q → (∀ J F' H' ds, Ext dA F H F' H' → Ok K dA F' H' → WalkE K dA J F' H' ds → Q ds → R J H') → wi σ H R)
    (hg : ∀ {dA F0 H0 F H σ Γ d v Q Qk}, Rel K dA F0 H0 F H σ Γ → Rep K dA F d v → mg d Γ Q → (∀ σ' Γ', Rel K dA F0 H0 F H σ' Γ' → Touch L σ σ' → Q Γ' → Qk σ' H) → g v σ H Qk) (hL : ∀ i ∈ L, i ∈ vs)
    {Q : Nat → Prop} {Qk : VK} (R : Rel K dA F0 H0 F H σ Γ) (q : mi Γ fun ds => ds.length ≤ 1000000 ∧ (∀ d ∈ ds, mg d (wipeG Γ vs) fun _ => True) ∧ Q ds.length)
    (f : ∀ F' H' p as, Ext dA F H F' H' → Ok K dA F' H' → (∀ a ∈ p :: as, H a = none ∧ F' a = none) → (p :: as).Nodup → H' p = some (.lst (as.map V.ref)) → (∀ a ∈ as, H' a = some (.lst [])) → Q as.length → Qk (.ref p) H') : tLc wi g tYes (tLst tNil) vs σ H Qk := by
  refine hi R q fun J F1 H1 ds e1 k1 w ⟨hl, hgd, q1⟩ p hp => ?_
  have R1 := R.step e1 k1
  have hd : dA ≠ some p := k1.tne hp
  refine ⟨fun i m H => m = ds.length - i ∧ ∃ F as, Ext dA F1 H1 F H ∧ Ok K dA F H ∧ H p = some (.lst (as.map V.ref)) ∧ F p = none ∧ as.length = i ∧ (p :: as).Nodup ∧ (∀ a ∈ as, H1 a = none ∧ F a = none ∧ H a = some (.lst [])) ∧ i ≤ ds.length,
    ⟨_, rfl, F1, [], (growOwn k1 hp).1, (growOwn k1 hp).2, upd_same, k1.fnone hp, rfl, by simp, fun a h => absurd h List.not_mem_nil, Nat.zero_le _⟩, fun i m H2 ⟨hm, F2, as, e2, k2, h2, f2, l2, n2, a2, hid⟩ => ?_⟩
  have W := w F2 H2 e2 k2 i
  by_cases hlt : i < ds.length
  · obtain ⟨go, yl⟩ := W.1 hlt
    refine .inr ⟨go, fun H => ∃ F as, Ext dA F1 H1 F H ∧ Ok K dA F H ∧ H p = some (.lst (as.map V.ref)) ∧ F p = none ∧ as.length = i + 1 ∧ (p :: as).Nodup ∧ (∀ a ∈ as, H1 a = none ∧ F a = none ∧ H a = some (.lst [])) ∧ i + 1 ≤ ds.length, fun H h => ⟨ds.length - (i + 1), by omega, rfl, h⟩, fun x H3 y => ?_⟩
    obtain ⟨F3, d, e3, k3, hdi, r3⟩ := yl x H3 y
    have R3 := (R1.step (e2.trans e3) k3).wipe vs
    refine hg R3 r3 (hgd d (List.mem_of_getElem? hdi)) fun σ4 Γ4 R4 t4 _ => ⟨?_, ?_⟩
    · rw [t4 vs hL, wipe_wipe]
    · unfold tYes
      dsimp only
      rw [if_pos rfl]
      have n3 : F3 p = none := e3.fkeep h2 f2
      have h3 : H3 p = some (.lst (as.map V.ref)) := e3.keep _ _ h2 hd
      refine ⟨Nat.zero_le _, fun r hr => ?_⟩
      have hpr : p ≠ r := fun z => by
        rw [z, hr] at h3
        cases h3
      have hr1 : H1 r = none := (e2.trans e3).none hr
      have hra : ∀ a ∈ as, a ≠ r := fun a ha z => by
        have := e3.keep a _ (a2 a ha).2.2 (k1.tne (a2 a ha).1)
        rw [z, hr] at this
        cases this
      obtain ⟨x1, x2⟩ := growOwn (o := .lst []) k3 hr
      refine ⟨as.map V.ref, by rw [upd_ne hpr]; exact h3, line_lt (by rw [List.length_map]; omega), F3, as ++ [r], ?_, ?_, ?_, n3, by rw [List.length_append, l2] <;> rfl, ?_, fun a ha => ?_, hlt⟩
      · exact ((e2.trans e3).trans x1).ownStep hp
      · exact x2.ownStep n3 hd
      · rw [upd_same, List.map_append] <;> rfl
      · rw [← List.cons_append, List.nodup_append]
        refine ⟨n2, by simp, fun a ha b hb => ?_⟩
        rw [List.mem_singleton] at hb
        subst hb
        rcases List.mem_cons.mp ha with rfl | ha
        · exact hpr
        · exact hra a ha
      · rcases List.mem_append.mp ha with ha | ha
        · obtain ⟨b1, b2, b3⟩ := a2 a ha
          have hap : a ≠ p := fun z => by
            rw [List.nodup_cons] at n2
            exact n2.1 (by rw [← z]; exact ha)
          exact ⟨b1, e3.fkeep b3 b2, by rw [upd_ne hap, upd_ne (hra a ha)]; exact e3.keep _ _ b3 (k1.tne b1)⟩
        · rw [List.mem_singleton] at ha
          subst ha
          exact ⟨hr1, k3.fnone hr, by rw [upd_ne hpr.symm, upd_same]⟩
  · refine .inl ⟨W.2 (by omega), f F2 H2 p as (e1.trans e2) k2 (fun a ha => ?_) n2 h2 (fun a ha => (a2 a ha).2.2) (by rw [show as.length = ds.length by omega]; exact q1)⟩
    rcases List.mem_cons.mp ha with rfl | ha
    · exact ⟨e1.none hp, f2⟩
    · exact ⟨e1.none (a2 a ha).1, (a2 a ha).2.1⟩
end
section
variable {X : Cx} {tg iter : Expr} {scope : Scope} {own : List (Str × Nat)} {wi : TI} {mi : Va} {g : TG} {L : List Nat} {mg : Vg} {x : Str} {p pos lp : Pos}
def vOn (i : Nat) (mi : Va) (mg : Vg) (vs : List Nat) : Vs := fun D Γ => mi Γ fun ds => ds.length ≤ 1000000 ∧ (∀ d ∈ ds, mg d (wipeG Γ vs) fun _ => True) ∧ D.nx (Γ.set i (.on (List.replicate ds.length [])))
theorem on_end {K : PySem.W.Frag} {dA : Option Addr} {F0 H0 F H : Hp} {σ : L2.St} {Γ : Ev} {i : Nat} (R : Rel K dA F0 H0 F H σ Γ) {F' H' : Hp} {pp : Addr} {as : List Addr} (e : Ext dA F H F' H') (k : Ok K dA F' H') (ha : ∀ a ∈ pp :: as, H a = none ∧ F' a = none) (hn : (pp :: as).Nodup) (h1 : H' pp = some (.lst (as.map V.ref))) (h2 : ∀ a ∈ as, H' a = some (.lst [])) :
    Rel K dA F0 H0 F' H' (σ.set i (some (.ref pp))) (Γ.set i (.on (List.replicate as.length []))) :=
  R.setNew e k i (fun a => a ∈ pp :: as) (fun a z => ⟨(ha a z).1, (ha a z).2, by
    rcases List.mem_cons.mp z with z | z
    · rw [z]
      exact ⟨_, h1, fun _ y => nomatch y⟩
    · exact ⟨_, h2 a z, fun _ y => nomatch y⟩⟩) fun own' ho => ⟨pp, as, rfl, ho pp List.mem_cons_self, h1, hn, ownL_nil fun a z => ⟨ho a (List.mem_cons_of_mem _ z), h2 a z⟩⟩
/-- x = [[] for ..], stored within its block -/
theorem vs_onLc {i : Nat} {pos' : Pos} {g : Bk TG} (hc : X.calm = true) (hN : X.N.Nodup) (hi : VIe X tg iter wi mi) (ok : blkC X.N X.env.scope scope own = true)
    (hg : ∀ (s : Shared) (H : Hp) (C : Addr) (cl : List (Str × Addr)) (fp : List Addr), VT1 (X.blk s H scope (compEnvC scope cl C X.env) fp) tg (g s H C cl fp) L mg)
    (hsw : swapsWith (.ListComp (.List [] lp) [⟨tg, iter, [], 0⟩] scope p) (some (.Name x pos')) pos.line X.env = pure true) (hx : X.N[i]? = some x := by rfl) (hl : X.env.scope.names.lookup x = some .local := by rfl)
    (hL : ∀ i ∈ L, i ∈ own.map (·.2) := by decide) (hs : ∀ x, foldedSetIterable iter X.env x = pure x := by intro _; rfl) (eg : ∀ s H C cl fp, g s H C cl fp = b0 g := by intros; rfl) :
    VS X (.Assign [.Name x pos'] (.ListComp (.List [] lp) [⟨tg, iter, [], 0⟩] scope p) pos) (tAsg (tLc wi (b0 g) tYes (tLst tNil) (own.map (·.2))) (gName i)) (vOn i mi mg (own.map (·.2))) :=
  ⟨ps_setLc hc hN hx hl hsw hi.pi (blkOk_by ok) (fun s H C cl fp => eg s H C cl fp ▸ (hg s H C cl fp).pg) (fun s H C cl fp => pts_nil) (fun s H C cl fp => pe_lst pa_nil) hs,
   fun {dA F0 H0 F H σ Γ D Dk} R q f => sim_on (K := X.K) hi.sim (hg sh0 (fun _ => none) 0 [] []).sim hL (Q := fun n => D.nx (Γ.set i (.on (List.replicate n [])))) R q fun F' H' pp as e k ha hn h1 h2 q1 => f.nx F' H' _ _ (on_end R e k ha hn h1 h2) q1⟩
theorem vs_onLc2 {i : Nat} {pos' : Pos} {g : Bk TG} (hc : X.calm = true) (hN : X.N.Nodup) (hi : VIe X tg iter wi mi) (ok : blkC X.N X.env.scope scope own = true)
    (hg : ∀ (s : Shared) (H : Hp) (C : Addr) (cl : List (Str × Addr)) (fp : List Addr), VT1 (X.blk s H scope (compEnvC scope cl C X.env) fp) tg (g s H C cl fp) L mg)
    (hx : X.N[i]? = some x := by rfl) (hxl : Loc X.env.scope x := by first | exact Or.inl rfl | exact Or.inr rfl) (hsw : swapsWith (.ListComp (.List [] lp) [⟨tg, iter, [], 0⟩] scope p) (some (.Name x pos')) pos.line X.env = pure false := by rfl)
    (hf : X.fn x = true ∨ X.env.scope.names.lookup x = some .local := by first | exact .inl rfl | exact .inr rfl | assumption)
    (hL : ∀ i ∈ L, i ∈ own.map (·.2) := by decide) (hs : ∀ x, foldedSetIterable iter X.env x = pure x := by intro _; rfl) (eg : ∀ s H C cl fp, g s H C cl fp = b0 g := by intros; rfl) :
    VS X (.Assign [.Name x pos'] (.ListComp (.List [] lp) [⟨tg, iter, [], 0⟩] scope p) pos) (tAsg (tLc wi (b0 g) tYes (tLst tNil) (own.map (·.2))) (gName i)) (vOn i mi mg (own.map (·.2))) :=
  ⟨ps_set hN hx hxl (pe_lc hc hN hi.pi (blkOk_by ok) (fun s H C cl fp => eg s H C cl fp ▸ (hg s H C cl fp).pg) (fun s H C cl fp => pts_nil) (fun s H C cl fp => pe_lst pa_nil) hs) hsw hf,
   fun {dA F0 H0 F H σ Γ D Dk} R q f => sim_on (K := X.K) hi.sim (hg sh0 (fun _ => none) 0 [] []).sim hL (Q := fun n => D.nx (Γ.set i (.on (List.replicate n [])))) R q fun F' H' pp as e k ha hn h1 h2 q1 => f.nx F' H' _ _ (on_end R e k ha hn h1 h2) q1⟩
/-- row = x[e]; row.append(e2) -/
def vRow (i j : Nat) (me m2 : Vm) (mr : Vs) : Vs := fun D Γ => ∃ xss, Γ[i]? = some (.on xss) ∧ i ≠ j ∧ j < Γ.length ∧ me Γ fun y => match y with
  | .int k => ∃ jn xs, ixN xss.length k = some jn ∧ xss[jn]? = some xs ∧ m2 (Γ.set j .no) fun d => xs.length < 1000000 ∧ mr D ((Γ.set j .no).set i (.on (xss.set jn (xs ++ [d]))))
  | _ => False
variable {e e2 : Expr} {te t2 : TE} {me m2 : Vm} {rest : List Stmt} {tr : TS} {mr : Vs} {r : Str} {q q2 q3 apos cpos pos2 : Pos}
theorem vb_row (i j : Nat) (hN : X.N.Nodup) (he : VE X e te me) (h2 : VE X e2 t2 m2) (hr : VB X rest tr mr) (hx : X.N[i]? = some x := by rfl) (hj : X.N[j]? = some r := by rfl) (hrl : Loc X.env.scope r := by first | exact Or.inl rfl | exact Or.inr rfl)
    (hvx : Vis X.env.scope x := by first | exact Or.inl rfl | exact Or.inr (Or.inl rfl) | exact Or.inr (Or.inr rfl)) (hd : (x == ("__debug__" : Str)) = false := by decide) (hcd : (x == ("__classdict__" : Str)) = false := by decide) (hpl : PlainIx e := by exact fun _ _ => rfl)
    (hvr : Vis X.env.scope r := by first | exact Or.inl rfl | exact Or.inr (Or.inl rfl) | exact Or.inr (Or.inr rfl)) (hdr : (r == ("__debug__" : Str)) = false := by decide) (hcr : (r == ("__classdict__" : Str)) = false := by decide)
    (hsw : swapsWith (.Subscript (.Name x q) e p) (some (.Name r q2)) pos.line X.env = pure false := by rfl) (hf : X.fn r = true ∨ X.env.scope.names.lookup r = some .local := by first | exact .inl rfl | exact .inr rfl | assumption)
    (hs : starEach (e2 :: []) X.env = (false, eval e2 X.env) :: starEach [] X.env := by rfl) (hbase : attributeBase (.Name r q3) "append" X.env (eval (.Name r q3) X.env) = eval (.Name r q3) X.env := by rfl)
    (hfew : ((backTo cpos (starEach (e2 :: []) X.env)).all (fun x => !x.1) && (backToKw cpos (keywordEach [] X.env)).all (fun x => x.1.isSome)
      && decide ((e2 :: []).length + ([] : List Keyword).length + (if ([] : List Keyword).isEmpty then 0 else 1) < 30)) = true := by rfl)
    (hline : (apos.endLine == cpos.line) = true := by rfl) (hplain : (backTo cpos (starEach [] X.env)).any (·.1) = false := by rfl)
    (hsw2 : swapsWith (.Call (.Attribute (.Name r q3) "append" apos) [e2] [] cpos) none pos2.line X.env = pure false := by rfl) :
    VB X (.Assign [.Name r q2] (.Subscript (.Name x q) e p) pos :: .Expr (.Call (.Attribute (.Name r q3) "append" apos) [e2] [] cpos) pos2 :: rest)
      (tSeq (tAsg (tOp (rIxL X.K) (tVar i) te) (gName j)) (tSeq (tDrop (tBM X.K "list" rAppend (tVar j) (tCons t2 tNil))) tr)) (vRow i j me m2 mr) :=
  ⟨pss_cons (ps_set hN hj hrl (pe_ix ix_list (pe_var hx hvx hd hcd) he.pe hpl) hsw hf) (pss_cons (ps_expr (pe_bm PySem.F.plainAttrs_list PySem.F.slot_list_append PySem.F.type_list_append mt_append (pe_var hj hvr hdr hcr) (pa_cons h2.pe pa_nil hs) hbase hfew hline hs hplain) hsw2) hr.pss),
   fun {dA F0 H0 F H σ Γ D Dk} R qq f => by
    obtain ⟨xss, hi, hij, hjl, qq⟩ := qq
    obtain ⟨own0, _, hsl0⟩ := id R.sl
    obtain ⟨o0, s1, a, as0, rfl, _⟩ := hsl0 i _ hi
    refine ⟨.ref a, s1, he.sim R qq fun F1 H1 dy y e1 k1 r1 q1 => ?_⟩
    cases dy <;> first | exact False.elim q1 | skip
    rename_i k
    obtain ⟨jn, xs, y1, y2, q1⟩ := q1
    have R1 := R.step e1 k1
    obtain ⟨own, ho, hsl⟩ := id R1.sl
    obtain ⟨o, z1, a', as, rfl, z2, z3, z4, z5⟩ := hsl i _ hi
    rw [s1] at z1
    cases z1
    have hlen := ownL_len z5
    obtain ⟨b, vs, b1, b2, b3, b4⟩ := ownL_get z5 y2
    have hb : atI (as.map V.ref) k = some (.ref b) := by
      unfold atI
      rw [List.length_map, hlen, y1]
      show (as.map V.ref)[jn]? = _
      rw [List.getElem?_map, b1] <;> rfl
    refine ⟨a, as.map V.ref, k, .ref b, rfl, r1, SqL.of z3, hb, ?_⟩
    have R2 := R1.drop j (some (.ref b))
    have hjs : j < σ.length := by rw [R.len]; exact hjl
    have hsj : (σ.set j (some (.ref b)))[j]? = some (some (.ref b)) := List.getElem?_set_self hjs
    refine ⟨.ref b, hsj, .inl ⟨rfl, vs, SqL.of b3⟩, h2.sim R2 q1 fun F2 H2 d v e2' k2 r2 ⟨hl, q2'⟩ => ?_⟩
    have R3 := R2.step e2' k2
    have hdb := (ho b i b2).2.2.2
    have hda := (ho a i z2).2.2.2
    have c3 : H2 b = some (.lst vs) := e2'.keep _ _ b3 hdb
    refine ⟨b, vs, v, rfl, rfl, c3, line_lt (by rw [b4.length]; exact hl), hr.sim (R3.write (a := b) (o' := .lst (vs ++ [v])) (s' := .on (xss.set jn (xs ++ [d]))) (i := i) (s := .on xss) (by rw [List.getElem?_set_ne hij.symm]; exact hi) fun own3 o3 w1 wo w2 => ?_) q2' f⟩
    obtain ⟨a3, as3, rfl, v2, v3, v4, v5⟩ := w2
    rw [List.getElem?_set_ne hij.symm, s1] at w1
    cases w1
    have v6 : H2 a = some (.lst (as.map V.ref)) := e2'.keep _ _ z3 hda
    rw [v6] at v3
    have ea : as = as3 := by
      have := HO.lst.inj (Option.some.inj v3)
      exact (List.map_inj_right (fun _ _ h => V.ref.inj h)).mp this
    subst ea
    obtain ⟨b', vs', g1, g2, g3, g4⟩ := ownL_get v5 y2
    rw [b1] at g1
    cases g1
    rw [List.nodup_cons] at v4
    have hab : a ≠ b := fun z => v4.1 (by rw [z]; exact List.mem_of_getElem? b1)
    rw [c3] at g3
    cases g3
    exact ⟨g2, a, as, rfl, v2, by rw [upd_ne hab]; exact v6, List.nodup_cons.mpr v4, ownL_set (RepL.append g4 (RepL.one r2)) v4.2 b1 v5⟩⟩
end
end LV
set_option Elab.async false
set_option linter.all false
set_option maxRecDepth 100000
set_option maxHeartbeats 4000000
/-! LV14: expressions that change lists of one's own (pop); a dict made by a comprehension. -/
namespace LV
open PySem PySem.Spec PyProof.Rows L2

/-- an expression that may change own lists -/
structure VX (X : Cx) (e : Expr) (t : TE) (m : Ev → (D → Ev → Prop) → Prop) : Prop where
  pe : PE X e t
  sim : ∀ {dA F0 H0 F H σ Γ Q Qk}, Rel X.K dA F0 H0 F H σ Γ → m Γ Q → (∀ F' H' d v Γ', Rel X.K dA F0 H0 F' H' σ Γ' → Rep X.K dA F' d v → Q d Γ' → Qk v H') → t σ H Qk
structure VXL (X : Cx) (e : Expr) (t : TE) (m : Ev → (List D → Ev → Prop) → Prop) : Prop where
  pe : PE X e t
  sim : ∀ {dA F0 H0 F H σ Γ Q Qk}, Rel X.K dA F0 H0 F H σ Γ → m Γ Q → (∀ F1 H1 F2 H2 p ds vs Γ', Rel X.K dA F0 H0 F1 H1 σ Γ' → Ext dA F1 H1 F2 H2 → Ok X.K dA F2 H2 → H1 p = none → F2 p = none → H2 p = some (.lst vs) → RepL X.K dA F2 ds vs → Q ds Γ' → Qk (.ref p) H2) → t σ H Qk
section
variable {K : PySem.W.Frag} {dA : Option Addr} {F0 H0 F H F1 H1 : Hp} {σ : L2.St} {Γ : Ev}
theorem RepL.last {d : D} : ∀ {ys : List D} {vs : List V}, RepL K dA F (ys ++ [d]) vs → ∃ ws v, vs = ws ++ [v] ∧ RepL K dA F ys ws ∧ Rep K dA F d v
  | [], _, h => by
    obtain ⟨v, rfl, h'⟩ := rep1 (d := d) h
    exact ⟨[], v, rfl, rfl, h'⟩
  | y :: ys, _, h => by
    obtain ⟨u, r, rfl, h1, h2⟩ := h
    obtain ⟨ws, v, rfl, h3, h4⟩ := RepL.last h2
    exact ⟨u :: ws, v, rfl, RepL.cons h1 h3, h4⟩
theorem RepL.erase : ∀ {xs : List D} {vs : List V} (j : Nat), RepL K dA F xs vs → RepL K dA F (xs.eraseIdx j) (vs.eraseIdx j)
  | [], _, _, h => by cases h; rfl
  | x :: xs, _, 0, h => by
    obtain ⟨v, r, rfl, h1, h2⟩ := h
    exact h2
  | x :: xs, _, j + 1, h => by
    obtain ⟨v, r, rfl, h1, h2⟩ := h
    exact RepL.cons h1 (RepL.erase j h2)
/-- slot i's own list becomes ys -/
theorem Rel.put (R : Rel K dA F0 H0 F H σ Γ) {i : Nat} {xs ys : List D} {a : Addr} {vs : List V} (h : Γ[i]? = some (.ow xs)) (h1 : σ[i]? = some (some (.ref a))) (hy : RepL K dA F ys vs) : Rel K dA F0 H0 F (upd H a (.lst vs)) σ (Γ.set i (.ow ys)) :=
  R.write (s' := .ow ys) h fun own o g1 go g2 => by
    obtain ⟨a', vs', rfl, g4, _, _⟩ := g2
    rw [h1] at g1
    cases g1
    exact ⟨g4, a, vs, rfl, g4, upd_same, hy⟩
end
section
variable {X : Cx} {e a b c : Expr} {es : List Expr} {t ta tb tc te tx : TE} {m ma mb mc me : Vm} {mx : Ev → (D → Ev → Prop) → Prop} {pos p lp : Pos} {x : Str} {q apos cpos : Pos}
theorem vx_pop (i : Nat) (hN : X.N[i]? = some x := by rfl) (hv : Vis X.env.scope x := by first | exact Or.inl rfl | exact Or.inr (Or.inl rfl) | exact Or.inr (Or.inr rfl)) (hd : (x == ("__debug__" : Str)) = false := by decide)
    (hcd : (x == ("__classdict__" : Str)) = false := by decide) (hbase : attributeBase (.Name x q) "pop" X.env (eval (.Name x q) X.env) = eval (.Name x q) X.env := by rfl) (hline : (apos.endLine == cpos.line) = true := by rfl) :
    VX X (.Call (.Attribute (.Name x q) "pop" apos) [] [] cpos) (tBM0 X.K "list" rPop (tVar i)) (fun Γ Q => ∃ ys d, Γ[i]? = some (.ow (ys ++ [d])) ∧ Q d (Γ.set i (.ow ys))) :=
  ⟨pe_bm0 PySem.F.plainAttrs_list PySem.F.slot_list_pop PySem.F.type_list_pop mt_pop (pe_var hN hv hd hcd) hbase hline, fun {dA F0 H0 F H σ Γ Q Qk} R q f => by
    obtain ⟨ys, d, h, q⟩ := q
    obtain ⟨a, vs, h1, h2, h3, h4, h5⟩ := R.getOw h
    obtain ⟨ws, v, rfl, g1, g2⟩ := RepL.last h3
    refine ⟨.ref a, h1, .inl ⟨rfl, _, SqL.of h2⟩, a, ws ++ [v], v, rfl, rfl, h2, by simp, ?_⟩
    rw [List.dropLast_concat]
    exact f F _ d v _ (R.put h h1 g1) g2 q⟩
theorem vx_popAt (i : Nat) (he : VE X e te me) (hN : X.N[i]? = some x := by rfl) (hv : Vis X.env.scope x := by first | exact Or.inl rfl | exact Or.inr (Or.inl rfl) | exact Or.inr (Or.inr rfl)) (hd : (x == ("__debug__" : Str)) = false := by decide)
    (hcd : (x == ("__classdict__" : Str)) = false := by decide) (hs : starEach (e :: []) X.env = (false, eval e X.env) :: starEach [] X.env := by rfl)
    (hbase : attributeBase (.Name x q) "pop" X.env (eval (.Name x q) X.env) = eval (.Name x q) X.env := by rfl)
    (hfew : ((backTo cpos (starEach (e :: []) X.env)).all (fun x => !x.1) && (backToKw cpos (keywordEach [] X.env)).all (fun x => x.1.isSome)
      && decide ((e :: []).length + ([] : List Keyword).length + (if ([] : List Keyword).isEmpty then 0 else 1) < 30)) = true := by rfl)
    (hline : (apos.endLine == cpos.line) = true := by rfl) (hplain : (backTo cpos (starEach [] X.env)).any (·.1) = false := by rfl) :
    VX X (.Call (.Attribute (.Name x q) "pop" apos) [e] [] cpos) (tBM X.K "list" rPopAt (tVar i) (tCons te tNil)) (fun Γ Q => ∃ xs, Γ[i]? = some (.ow xs) ∧ me Γ fun y => match y with
      | .int k => ∃ (j : Nat) (d : D), k = (j : Nat) ∧ xs[j]? = some d ∧ xs.length ≤ 1000000 ∧ Q d (Γ.set i (.ow (xs.eraseIdx j)))
      | _ => False) :=
  ⟨pe_bm PySem.F.plainAttrs_list PySem.F.slot_list_pop PySem.F.type_list_pop mt_popAt (pe_var hN hv hd hcd) (pa_cons he.pe pa_nil hs) hbase hfew hline hs hplain, fun {dA F0 H0 F H σ Γ Q Qk} R q f => by
    obtain ⟨xs, h, q⟩ := q
    obtain ⟨a, vs0, h1, h2, _⟩ := R.getOw h
    refine ⟨.ref a, h1, .inl ⟨rfl, _, SqL.of h2⟩, he.sim R q fun F1 H1 dy y e1 k1 r1 q1 => ?_⟩
    cases dy <;> first | exact False.elim q1 | skip
    rename_i k
    obtain ⟨j, d, rfl, hj, hl, q1⟩ := q1
    have R1 := R.step e1 k1
    obtain ⟨a', vs, g1, g2, g3, _⟩ := R1.getOw h
    rw [h1] at g1
    cases g1
    obtain ⟨v, y1, y2⟩ := g3.get hj
    obtain ⟨jl, _⟩ := List.getElem?_eq_some_iff.mp hj
    refine ⟨a, vs, (j : Nat), j, v, rfl, by rw [show y = V.int (j : Nat) from r1], g2, by omega, by omega, ?_, y1, f F1 _ d v _ (R1.put h h1 (RepL.erase j g3)) y2 q1⟩
    have c : (decide (0 ≤ (j : Int)) && decide ((j : Int) < (xs.length : Int))) = true := by
      rw [Bool.and_eq_true, decide_eq_true_eq, decide_eq_true_eq]
      omega
    have e0 : (if (j : Int) < 0 then (j : Int) + (xs.length : Int) else (j : Int)) = (j : Int) := if_neg (by omega)
    have e2 : seqIndex? (j : Int) xs.length = if (decide (0 ≤ (if (j : Int) < 0 then (j : Int) + (xs.length : Int) else (j : Int))) && decide ((if (j : Int) < 0 then (j : Int) + (xs.length : Int) else (j : Int)) < (xs.length : Int))) = true then some (if (j : Int) < 0 then (j : Int) + (xs.length : Int) else (j : Int)).toNat else none := rfl
    rw [g3.length, e2, e0, if_pos c]
    congr 1⟩
/-- x = e -/
theorem vs_setX {i : Nat} {pos' : Pos} (hN : X.N.Nodup) (he : VX X e te mx) (hi : X.N[i]? = some x := by rfl) (hx : Loc X.env.scope x := by first | exact Or.inl rfl | exact Or.inr rfl) (hs : swapsWith e (some (.Name x pos')) pos.line X.env = pure false := by rfl)
    (hf : X.fn x = true ∨ X.env.scope.names.lookup x = some .local := by first | exact .inl rfl | exact .inr rfl | assumption) : VS X (.Assign [.Name x pos'] e pos) (tAsg te (gName i)) (fun D Γ => mx Γ fun d Γ' => D.nx (Γ'.set i (.im d))) :=
  ⟨ps_set hN hi hx he.pe hs hf, fun {dA F0 H0 F H σ Γ D Dk} R q f => he.sim R q fun F1 H1 d v Γ' R1 r1 q1 => f.nx F1 H1 _ _ (R1.setIm i r1) q1⟩
/-- x.append(e) -/
theorem vs_appX (i : Nat) (he : VX X e te mx) (hN : X.N[i]? = some x := by rfl) (hv : Vis X.env.scope x := by first | exact Or.inl rfl | exact Or.inr (Or.inl rfl) | exact Or.inr (Or.inr rfl)) (hd : (x == ("__debug__" : Str)) = false := by decide)
    (hcd : (x == ("__classdict__" : Str)) = false := by decide) (hs : starEach (e :: []) X.env = (false, eval e X.env) :: starEach [] X.env := by rfl)
    (hbase : attributeBase (.Name x q) "append" X.env (eval (.Name x q) X.env) = eval (.Name x q) X.env := by rfl)
    (hfew : ((backTo cpos (starEach (e :: []) X.env)).all (fun x => !x.1) && (backToKw cpos (keywordEach [] X.env)).all (fun x => x.1.isSome)
      && decide ((e :: []).length + ([] : List Keyword).length + (if ([] : List Keyword).isEmpty then 0 else 1) < 30)) = true := by rfl)
    (hline : (apos.endLine == cpos.line) = true := by rfl) (hplain : (backTo cpos (starEach [] X.env)).any (·.1) = false := by rfl)
    (hsw : swapsWith (.Call (.Attribute (.Name x q) "append" apos) [e] [] cpos) none pos.line X.env = pure false := by rfl) :
    VS X (.Expr (.Call (.Attribute (.Name x q) "append" apos) [e] [] cpos) pos) (tDrop (tBM X.K "list" rAppend (tVar i) (tCons te tNil))) (fun D Γ => (∃ xs, Γ[i]? = some (.ow xs)) ∧ mx Γ fun d Γ' => ∃ xs, Γ'[i]? = some (.ow xs) ∧ xs.length < 1000000 ∧ D.nx (Γ'.set i (.ow (xs ++ [d])))) :=
  ⟨ps_expr (pe_bm PySem.F.plainAttrs_list PySem.F.slot_list_append PySem.F.type_list_append mt_append (pe_var hN hv hd hcd) (pa_cons he.pe pa_nil hs) hbase hfew hline hs hplain) hsw, fun {dA F0 H0 F H σ Γ D Dk} R q f => by
    obtain ⟨⟨xs0, h0⟩, q⟩ := q
    obtain ⟨a, vs0, h1, h2, _⟩ := R.getOw h0
    refine ⟨.ref a, h1, .inl ⟨rfl, vs0, SqL.of h2⟩, he.sim R q fun F1 H1 d v Γ' R1 r1 ⟨xs, g0, hl, q1⟩ => ?_⟩
    obtain ⟨a', vs, g1, g2, g3, _⟩ := R1.getOw g0
    rw [h1] at g1
    cases g1
    exact ⟨a, vs, v, rfl, rfl, g2, line_lt (by rw [g3.length]; exact hl), f.nx F1 _ σ _ (R1.put g0 h1 (RepL.append g3 (RepL.one r1))) q1⟩⟩
/-- [e] -/
theorem vxl_one (he : VX X e te mx) (hs : starEach (e :: []) X.env = (false, eval e X.env) :: starEach [] X.env := by rfl) : VXL X (.List [e] lp) (tLst (tCons te tNil)) (fun Γ Q => mx Γ fun d Γ' => Q [d] Γ') :=
  ⟨pe_lst (pa_cons he.pe pa_nil hs), fun {dA F0 H0 F H σ Γ Q Qk} R q f => he.sim R q fun F1 H1 d v Γ' R1 r1 q1 => ⟨by show 1 ≤ sizeLine; decide, fun pp hp => by
    obtain ⟨e2, k2⟩ := growOwn (o := .lst [v]) R1.ok hp
    exact f F1 H1 F1 _ pp [d] [v] Γ' R1 e2 k2 hp (R1.ok.fnone hp) upd_same (RepL.one r1) q1⟩⟩
theorem vxl_of {n : Va} (h : VL X e t n) : VXL X e t (fun Γ Q => n Γ fun xs => Q xs Γ) :=
  ⟨h.pe, fun {dA F0 H0 F H σ Γ Q Qk} R q f => h.sim R q fun F1 H1 pp ds vs e1 k1 n1 f1 h1 r1 q1 => f F H F1 H1 pp ds vs Γ R e1 k1 n1 f1 h1 r1 q1⟩
theorem vxl_ifx {tt : TT} {mt : Vt} {na nb : Ev → (List D → Ev → Prop) → Prop} (h : VT X c tt mt) (ha : VXL X a ta na) (hb : VXL X b tb nb) : VXL X (.IfExp c a b pos) (tIf tt ta tb) (fun Γ Q => mt Γ fun k => if k = true then na Γ Q else nb Γ Q) :=
  ⟨pe_ifExp h.pt ha.pe hb.pe, fun {dA F0 H0 F H σ Γ Q Qk} R q f => h.sim R q fun F1 H1 k e1 k1 q1 => by
    cases k with
    | true =>
      have q1 : na Γ Q := q1
      exact ha.sim (R.step e1 k1) q1 f
    | false =>
      have q1 : nb Γ Q := q1
      exact hb.sim (R.step e1 k1) q1 f⟩
theorem vs_ownX {i : Nat} {pos' : Pos} {na : Ev → (List D → Ev → Prop) → Prop} (hN : X.N.Nodup) (he : VXL X e te na) (hi : X.N[i]? = some x := by rfl) (hx : Loc X.env.scope x := by first | exact Or.inl rfl | exact Or.inr rfl) (hs : swapsWith e (some (.Name x pos')) pos.line X.env = pure false := by rfl)
    (hf : X.fn x = true ∨ X.env.scope.names.lookup x = some .local := by first | exact .inl rfl | exact .inr rfl | assumption) : VS X (.Assign [.Name x pos'] e pos) (tAsg te (gName i)) (fun D Γ => na Γ fun xs Γ' => D.nx (Γ'.set i (.ow xs))) :=
  ⟨ps_set hN hi hx he.pe hs hf, fun {dA F0 H0 F H σ Γ D Dk} R q f => he.sim R q fun F1 H1 F2 H2 p ds vs Γ' R1 e1 k1 n1 f1 h1 r1 q1 =>
    f.nx F2 H2 _ _ (R1.setNew (s := .ow ds) e1 k1 i (fun a => a = p) (fun a z => by rw [z]; exact ⟨n1, f1, _, h1, fun _ z => nomatch z⟩) fun own' ho => ⟨p, vs, rfl, ho p rfl, h1, r1⟩) q1⟩
end

/-! ### {k: v for ..} -/
def wpDc (mg : Vg) (mk mv : Vm) (Γ : Ev) (Q : List (Key × D) → Prop) : List D → List (Key × D) → Prop
  | [], acc => Q acc
  | d :: ds, acc => mg d Γ fun Γ' => mk Γ' fun y => mv Γ' fun z => match y with
    | .int k => acc.length < 1000000 ∧ wpDc mg mk mv Γ Q ds (putD acc (kI k) z)
    | _ => False
section
variable {X : Cx} {kx vx tg iter : Expr} {scope : Scope} {own : List (Str × Nat)} {wi : TI} {mi : Va} {g : TG} {L : List Nat} {mg : Vg} {x : Str} {p pos pos' : Pos} {tk tv : TE} {mk mv : Vm}
theorem vs_names {i : Nat} {g : Bk TG} {tk tv : Bk TE} (hc : X.calm = true) (hN : X.N.Nodup) (hi : VIe X tg iter wi mi) (ok : blkC X.N X.env.scope scope own = true)
    (hg : ∀ (s : Shared) (H : Hp) (C : Addr) (cl : List (Str × Addr)) (fp : List Addr), VT1 (X.blk s H scope (compEnvC scope cl C X.env) fp) tg (g s H C cl fp) L mg)
    (hk : ∀ (s : Shared) (H : Hp) (C : Addr) (cl : List (Str × Addr)) (fp : List Addr), VE (X.blk s H scope (compEnvC scope cl C X.env) fp) kx (tk s H C cl fp) mk)
    (hv : ∀ (s : Shared) (H : Hp) (C : Addr) (cl : List (Str × Addr)) (fp : List Addr), VE (X.blk s H scope (compEnvC scope cl C X.env) fp) vx (tv s H C cl fp) mv)
    (hx : X.N[i]? = some x := by rfl) (hxl : Loc X.env.scope x := by first | exact Or.inl rfl | exact Or.inr rfl) (hsw : swapsWith (.DictComp kx vx [⟨tg, iter, [], 0⟩] scope p) (some (.Name x pos')) pos.line X.env = pure false := by rfl)
    (hf : X.fn x = true ∨ X.env.scope.names.lookup x = some .local := by first | exact .inl rfl | exact .inr rfl | assumption)
    (hL : ∀ i ∈ L, i ∈ own.map (·.2) := by decide) (hs : ∀ x, foldedSetIterable iter X.env x = pure x := by intro _; rfl) (eg : ∀ s H C cl fp, g s H C cl fp = b0 g := by intros; rfl) (ek : ∀ s H C cl fp, tk s H C cl fp = b0 tk := by intros; rfl) (ev : ∀ s H C cl fp, tv s H C cl fp = b0 tv := by intros; rfl) :
    VS X (.Assign [.Name x pos'] (.DictComp kx vx [⟨tg, iter, [], 0⟩] scope p) pos) (tAsg (tDc wi (b0 g) tYes (b0 tk) (b0 tv) (own.map (·.2))) (gName i)) (fun D Γ => mi Γ fun ds => wpDc mg mk mv (wipeG Γ (own.map (·.2))) (fun kvs => D.nx (Γ.set i (.od kvs))) ds []) :=
  ⟨ps_set hN hx hxl (pe_dc hc hN hi.pi (blkOk_by ok) (fun s H C cl fp => eg s H C cl fp ▸ (hg s H C cl fp).pg) (fun s H C cl fp => pts_nil) (fun s H C cl fp => ek s H C cl fp ▸ (hk s H C cl fp).pe) (fun s H C cl fp => ev s H C cl fp ▸ (hv s H C cl fp).pe) hs) hsw hf,
   fun {dA F0 H0 F H σ Γ D Dk} R q f => by
    refine hi.sim R q fun J F1 H1 ds e1 k1 w q1 p hp => ?_
    have R1 := R.step e1 k1
    have hd : dA ≠ some p := k1.tne hp
    have hg := hg sh0 (fun _ => none) 0 [] []
    have hk := hk sh0 (fun _ => none) 0 [] []
    have hv := hv sh0 (fun _ => none) 0 [] []
    refine ⟨fun i' m H => m = ds.length - i' ∧ ∃ F acc ws, Ext dA F1 H1 F H ∧ Ok X.K dA F H ∧ H p = some (.dK ws) ∧ F p = none ∧ RepK X.K dA F acc ws ∧ wpDc mg mk mv (wipeG Γ (own.map (·.2))) (fun kvs => D.nx (Γ.set i (.od kvs))) (ds.drop i') acc,
      ⟨_, rfl, F1, [], [], (growOwn k1 hp).1, (growOwn k1 hp).2, upd_same, k1.fnone hp, rfl, by simpa using q1⟩, fun i' m H2 ⟨hm, F2, acc, ws, e2, k2, h2, f2, r2, q2⟩ => ?_⟩
    have W := w F2 H2 e2 k2 i'
    by_cases hlt : i' < ds.length
    · obtain ⟨go, yl⟩ := W.1 hlt
      refine .inr ⟨go, fun H => ∃ F acc ws, Ext dA F1 H1 F H ∧ Ok X.K dA F H ∧ H p = some (.dK ws) ∧ F p = none ∧ RepK X.K dA F acc ws ∧ wpDc mg mk mv (wipeG Γ (own.map (·.2))) (fun kvs => D.nx (Γ.set i (.od kvs))) (ds.drop (i' + 1)) acc, fun H h => ⟨ds.length - (i' + 1), by omega, rfl, h⟩, fun x H3 y => ?_⟩
      obtain ⟨F3, d, e3, k3, hdi, r3⟩ := yl x H3 y
      have hdd : ds.drop i' = d :: ds.drop (i' + 1) := by
        rw [List.drop_eq_getElem_cons hlt]
        rw [List.getElem?_eq_getElem hlt] at hdi
        rw [Option.some.inj hdi]
      rw [hdd] at q2
      have R3 := (R1.step (e2.trans e3) k3).wipe (own.map (·.2))
      refine hg.sim R3 r3 q2 fun σ4 Γ4 R4 t4 q4 => ⟨?_, ?_⟩
      · rw [t4 _ hL, wipe_wipe]
      · unfold tYes
        dsimp only
        rw [if_pos rfl]
        have n3 : F3 p = none := e3.fkeep h2 f2
        have h3 : H3 p = some (.dK ws) := e3.keep _ _ h2 hd
        refine hk.sim R4 q4 fun F5 H5 dy y5 e5 k5 r5 q5 => hv.sim (R4.step e5 k5) q5 fun F6 H6 dz z6 e6 k6 r6 q6 => ?_
        cases dy <;> first | exact False.elim q6 | skip
        rename_i k
        obtain ⟨hl, q6⟩ := q6
        have n6 : F6 p = none := e6.fkeep (e5.keep _ _ h3 hd) (e5.fkeep h3 n3)
        have h6 : H6 p = some (.dK ws) := e6.keep _ _ (e5.keep _ _ h3 hd) hd
        have r2' := r2.mono ((e3.ff.trans e5.ff).trans e6.ff)
        exact ⟨ws, kI k, r5, h6, line_lt (by rw [r2.length]; exact hl), F6, putD acc (kI k) dz, _, (((e2.trans e3).trans e5).trans e6).ownStep hp, k6.ownStep n6 hd, upd_same, n6, r2'.put (kI k) r6, q6⟩
    · refine .inl ⟨W.2 (by omega), ?_⟩
      rw [List.drop_of_length_le (by omega)] at q2
      exact f.nx F2 H2 _ _ (R.setNew (s := .od acc) (e1.trans e2) k2 i (fun a => a = p) (fun a z => by rw [z]; exact ⟨e1.none hp, f2, _, h2, fun _ z => nomatch z⟩) fun own' ho => ⟨p, ws, rfl, ho p rfl, h2, r2⟩) q2⟩
end
end LV
set_option Elab.async false
set_option linter.all false
set_option maxRecDepth 100000
set_option maxHeartbeats 4000000
/-! LV15: sorted(d.items()) of a dict by couples of ints to ints. -/
namespace LV
open PySem PySem.Spec PyProof.Rows L2

abbrev Cn := (Int × Int) × Int
abbrev entP (c : Cn) : List Key × V := (kP c.1.1 c.1.2, V.int c.2)
def eC (c : Cn) : D := .tup [.tup [.int c.1.1, .int c.1.2], .int c.2]
def cle (x y : Cn) : Bool := dle (eC x) (eC y)
def rSortIP : List V → Hp → VK → Prop := fun vs H Q => ∃ (p a : Addr) (cs : List Cn), vs = [.ref p] ∧ H p = some (DX.itemsO p a) ∧ H a = some (.dT (cs.map entP)) ∧ cs.length ≤ 1000 ∧
  ∀ (H' : Hp) (l : Addr) (ps : List (Addr × Cn)), (∀ b o, H b = some o → H' b = some o) → H l = none → (∀ z ∈ ps, H z.1 = none) → ps.map (·.2) = cs.mergeSort cle → H' l = some (.lst (ps.map fun z => V.ref z.1)) →
    (∀ z ∈ ps, ∃ q, H' z.1 = some (.tup [.ref q, .int z.2.2]) ∧ H q = some (.tup [.int z.2.1.1, .int z.2.1.2])) → Q (.ref l) H'
theorem each_zip {R : Value → (Addr × Cn) → Prop} : ∀ {as : List Addr} {cs : List Cn}, as.length = cs.length → (∀ (j : Nat) (b : Addr) (c : Cn), as[j]? = some b → cs[j]? = some c → R (.ref b) (b, c)) → PySem.W.EachIs R (as.map Value.ref) (as.zip cs)
  | [], [], _, _ => .nil
  | a :: as, c :: cs, h, f => .cons (f 0 a c rfl rfl) (each_zip (by simpa using h) fun j b c h1 h2 => f (j + 1) b c (by simpa using h1) (by simpa using h2))
  | [], _ :: _, h, _ => by simp at h
  | _ :: _, [], h, _ => by simp at h
theorem each_refs {us : List Value} {ps : List (Addr × Cn)} (h : PySem.W.EachIs (fun u (z : Addr × Cn) => u = Value.ref z.1) us ps) : us = ps.map fun z => Value.ref z.1 := by
  induction h with
  | nil => rfl
  | cons h1 _ ih => rw [h1, ih] <;> rfl
theorem alike_C (x y : Cn) : PySem.W.alike (toP (eC x)) (toP (eC y)) = true := by
  simp [eC, toP, toPs, PySem.W.alike, PySem.W.alikeAll]
section
variable {X : Cx}
theorem cr_sortedIP {n : Nat} (hc : X.calm = true) (hr : Room n X.A) : CallR X (.builtin "sorted") rSortIP := by
  intro pins s σ H xs us Q I r h
  obtain ⟨p, a, cs, rfl, hp, ha, h1000, q⟩ := h
  obtain rfl := Vals.ref1 r
  have view : s.heap.IsItemsView p a := (show ObjOk X.prog X.w H s.heap p (DX.itemsO p a) from I.hok p _ hp).1
  obtain ⟨z, hd, xs', rel, o, es, ep, ho, hx, hdat, hes, his, hn⟩ := dt_of I.hok ha
  have l1 : (cs.map entP).length = xs'.length := Paired.length rel
  rw [List.length_map] at l1
  have l2 : es.size = xs'.length := size_of_entries hes
  have hh : X.A.handled = none := I.ok.hd hc
  refine DT.sortedI (es := es) (ep := ep) hh view ⟨o, ho, hx, hdat⟩ (by rw [sizeLine_eq]; omega) fun h' tk as hk hlt hl hG => ?_
  have lak : as.length = cs.length := by omega
  have nd : as.Nodup := List.Pairwise.imp (fun h => Nat.ne_of_lt h) hG.rise
  have pr : ∀ (j : Nat) (b : Addr), as[j]? = some b → ∃ (c : Cn) (kq : Addr) (tv : Tok), cs[j]? = some c ∧ H kq = some (.tup [.int c.1.1, .int c.1.2]) ∧ h'.get? b = some { cls := .type "tuple", data := .seq #[Value.ref kq, Value.int c.2 tv] } := by
    intro j b hj
    obtain ⟨en, he, hg⟩ := hG.pairs j b hj
    rw [entry_at hes j] at he
    cases hxj : xs'[j]? with
    | none =>
      rw [hxj] at he
      exact nomatch (show (none : Option DictEntry) = some en from he)
    | some x =>
      rw [hxj] at he
      have een : entryOfKey (tupleKind (mixKind X.prog X.w)) x = en := Option.some.inj he
      obtain ⟨e0, he0, r1, r2, r3⟩ := DX.pget rel hxj
      rw [List.getElem?_map] at he0
      cases hkj : cs[j]? with
      | none =>
        rw [hkj] at he0
        exact nomatch (show (none : Option (List L2.Key × V)) = some e0 from he0)
      | some e =>
        rw [hkj] at he0
        have ee : entP e = e0 := Option.some.inj he0
        rw [← ee] at r2 r3
        obtain ⟨tv, r3'⟩ := (show RelV (V.int e.2) x.2.2 from r3)
        refine ⟨e, x.2.1, tv, rfl, r2, ?_⟩
        rw [hg, ← een, ← r3']
        all_goals rfl
  have hob : (h'.push { cls := .type "list", data := .seq (as.map Value.ref).toArray }).get? h'.objs.size = some (seqObj "list" (as.map Value.ref).toArray 0) := Heap.get?_push_size _ rfl
  have kb : ∀ b o, s.heap.get? b = some o → (h'.push { cls := .type "list", data := .seq (as.map Value.ref).toArray }).get? b = some o := fun b o e => Heap.get?_push_of_some _ (hk b o e)
  have ne0 : ∀ b o, h'.get? b = some o → b ≠ h'.objs.size := fun b o e => Nat.ne_of_lt (Heap.lt_size e)
  generalize hh2 : h'.push { cls := .type "list", data := .seq (as.map Value.ref).toArray } = h2 at hob kb ⊢
  have ka : ∀ b o, h'.get? b = some o → h2.get? b = some o := fun b o e => by rw [← hh2]; exact Heap.get?_push_of_some _ e
  have e1 : PySem.W.EachIs (fun u (z : Addr × Cn) => u = Value.ref z.1) (as.map Value.ref) (as.zip cs) := each_zip lak fun j b c _ _ => rfl
  have e2 : PySem.W.EachIs (fun u (z : Addr × Cn) => ∃ bs, Reads h2 u (toP (eC z.2)) bs ∧ h'.objs.size ∉ bs) (as.map Value.ref) (as.zip cs) := each_zip lak fun j b c hj hcj => by
    obtain ⟨c', kq, tv, hc', hkq, hg⟩ := pr j b hj
    rw [hcj] at hc'
    cases hc'
    obtain ⟨_, its, rv, ot, hot, hct, nt', hdt⟩ := (show ObjOk X.prog X.w H s.heap kq (.tup [.int c.1.1, .int c.1.2]) from I.hok kq _ hkq)
    obtain ⟨u1, u2, rfl, ⟨t1, rfl⟩, ⟨t2, rfl⟩⟩ := vals2 rv
    refine ⟨_, Reads.tuple (ka _ _ hg) rfl rfl (ReadsAll.cons (Reads.tuple (kb _ _ hot) hct hdt (ReadsAll.cons (Reads.int _ _) (ReadsAll.cons (Reads.int _ _) ReadsAll.nil))) (ReadsAll.cons (Reads.int _ _) ReadsAll.nil)), by simp⟩
  refine PySem.W.list_sort_data (s := { s with heap := h2, toks := tk }) (enc := fun z : Addr × Cn => toP (eC z.2)) (R := fun u (z : Addr × Cn) => u = Value.ref z.1) hob e1 e2 (fun d hd d' hd' => ?_) (.inl fun d hd => ?_) ?_ (fun b hb => ?_) fun out ho eo => ?_
  · obtain ⟨z1, _, rfl⟩ := List.mem_map.mp hd
    obtain ⟨z2, _, rfl⟩ := List.mem_map.mp hd'
    exact alike_C _ _
  · obtain ⟨z1, _, rfl⟩ := List.mem_map.mp hd
    exact ⟨_, _, rfl⟩
  · rw [List.length_zip, sizeLine_eq]
    omega
  · have hde : (toP (eC b.2)).depth ≤ 3 := by simp [eC, toP, toPs, PyData.depth, PyData.depthAll]
    have := hr.un
    show X.A.units + 1 + 1 + _ < cLine
    omega
  · have hout := each_refs eo
    generalize hzs : (as.zip cs).mergeSort (PySem.W.dataLe false fun z : Addr × Cn => toP (eC z.2)) = zs at hout
    have pz : zs.Perm (as.zip cs) := by rw [← hzs]; exact List.mergeSort_perm _ _
    have m2 : (as.zip cs).map (·.2) = cs := List.map_snd_zip (by rw [lak]; exact Nat.le_refl _)
    have hps : zs.map (·.2) = cs.mergeSort cle := by
      rw [← hzs]
      have e3 : ((as.zip cs).mergeSort (PySem.W.dataLe false fun z : Addr × Cn => toP (eC z.2))).map (·.2) = ((as.zip cs).map (·.2)).mergeSort cle := List.map_mergeSort fun a _ b _ => rfl
      rw [e3, m2]
    have idx : ∀ z ∈ zs, ∃ j : Nat, as[j]? = some z.1 ∧ cs[j]? = some z.2 := by
      intro z' hz'
      obtain ⟨j, hj⟩ := List.mem_iff_getElem?.mp (pz.mem_iff.mp hz')
      exact ⟨j, List.getElem?_zip_eq_some.mp hj⟩
    have kF : ∀ b o, b ≠ h'.objs.size → h2.get? b = some o → (sortedHeap h2 h'.objs.size (as.map Value.ref) out.toArray).get? b = some o := fun b o hb e => (PyProof.Rows.sortedHeap_old hb (Heap.lt_size e)).trans e
    have kS : ∀ b o, s.heap.get? b = some o → (sortedHeap h2 h'.objs.size (as.map Value.ref) out.toArray).get? b = some o := fun b o e => kF b o (ne0 _ _ (hk b o e)) (kb b o e)
    obtain ⟨eF, heF⟩ := PyProof.Rows.sortedHeap_at (vs := as.map Value.ref) (out := out.toArray) hob
    have I1 : Inv X pins σ H { s with heap := sortedHeap h2 h'.objs.size (as.map Value.ref) out.toArray, toks := tk } := I.kept (t' := tk) kS
    have hn0 : H h'.objs.size = none := I.hok.fresh (Nat.le_of_lt hlt)
    have hlen : (zs.map fun z => V.ref z.1).length ≤ sizeLine := by
      have e := pz.length_eq
      rw [List.length_zip] at e
      rw [List.length_map, sizeLine_eq]
      omega
    have rv : Vals (zs.map fun z => V.ref z.1) out := by
      rw [hout]
      exact vals_maps (fun z : Addr × Cn => V.ref z.1) (fun z => Value.ref z.1) zs fun _ _ => rfl
    have I2 : Inv X pins σ (upd H h'.objs.size (.lst (zs.map fun z => V.ref z.1))) { s with heap := sortedHeap h2 h'.objs.size (as.map Value.ref) out.toArray, toks := tk } :=
      I1.take (h' := sortedHeap h2 h'.objs.size (as.map Value.ref) out.toArray) (t' := tk) (fun b ob _ e => e) (I.fpOk (Nat.le_of_lt hlt) hn0) ⟨hlen, out, eF, rv, heF⟩
    obtain ⟨H2, I3, g, qt⟩ := DX.takeT (P := fun b vs => ∃ (j : Nat) (e : Cn) (kq : Addr), as[j]? = some b ∧ cs[j]? = some e ∧ vs = [.ref kq, .int e.2] ∧ H kq = some (.tup [.int e.1.1, .int e.1.2])) I as _ I2 nd fun b hb => by
      obtain ⟨j, hj⟩ := List.mem_iff_getElem?.mp hb
      obtain ⟨e, kq, tv, he, hkq, hg⟩ := pr j b hj
      have hbl : s.heap.objs.size ≤ b := Nat.le_of_lt (hG.above b hb)
      refine ⟨hbl, ?_, [.ref kq, .int e.2], ⟨j, e, kq, hj, he, rfl, hkq⟩, fun H3 => ⟨(by rw [sizeLine_eq]; show 2 ≤ 16777216; omega), [Value.ref kq, Value.int e.2 tv], .cons rfl (.cons ⟨tv, rfl⟩ .nil), ⟨_, kF _ _ (ne0 _ _ hg) (ka _ _ hg), rfl, 0, rfl⟩⟩⟩
      rw [upd_ne (ne0 _ _ hg)]
      exact I.hok.fresh hbl
    have gr : ∀ b o, H b = some o → H2 b = some o := fun b o e => g b o (by rw [upd_ne (ne_of_none e hn0)]; exact e)
    refine ⟨.ref h'.objs.size, H2, I3, rfl, q H2 h'.objs.size zs gr hn0 (fun z' hz' => ?_) hps (g _ _ upd_same) fun z' hz' => ?_⟩
    · obtain ⟨i, i1, _⟩ := idx z' hz'
      exact I.hok.fresh (Nat.le_of_lt (hG.above _ (List.mem_of_getElem? i1)))
    · obtain ⟨i, i1, i2⟩ := idx z' hz'
      obtain ⟨vs, ⟨j, e, kq, j1, j2, ev, hkq⟩, hH⟩ := qt z'.1 (List.mem_of_getElem? i1)
      have eij : i = j := (List.getElem?_inj (List.getElem?_eq_some_iff.mp i1).1 nd).mp (i1.trans j1.symm)
      subst eij
      have ee : e = z'.2 := Option.some.inj (j2.symm.trans i2)
      rw [ev, ee] at hH
      rw [ee] at hkq
      exact ⟨kq, hH, hkq⟩
variable {x : Str} {p : Pos} {q apos cpos : Pos}
/-- sorted(d.items()) -/
def vSortedIt (i : Nat) : Va := fun Γ Q => ∃ cs : List Cn, Γ[i]? = some (.ot (cs.map fun c => (kP c.1.1 c.1.2, .int c.2))) ∧ cs.length ≤ 1000 ∧ Q ((cs.mergeSort cle).map eC)
theorem repK_cs {K : PySem.W.Frag} {dA : Option Addr} {F : Hp} : ∀ {cs : List Cn} {vs : List (List Key × V)}, RepK K dA F (cs.map fun c => (kP c.1.1 c.1.2, D.int c.2)) vs → vs = cs.map entP
  | [], _, h => h
  | c :: cs, _, h => by
    obtain ⟨v, r, rfl, h1, h2⟩ := h
    rw [repK_cs h2, show v = V.int c.2 from h1] <;> rfl
theorem know_ps {K : PySem.W.Frag} {dA : Option Addr} {H : Hp} : ∀ (ps : List (Addr × Cn)) {F : Hp}, Ok K dA F H → (∀ z ∈ ps, ∃ q, H z.1 = some (.tup [.ref q, .int z.2.2]) ∧ H q = some (.tup [.int z.2.1.1, .int z.2.1.2])) → ∃ F2, Ext dA F H F2 H ∧ Ok K dA F2 H ∧ RepL K dA F2 ((ps.map (·.2)).map eC) (ps.map fun z => V.ref z.1)
  | [], F, k, _ => ⟨F, Ext.refl, k, rfl⟩
  | z :: ps, F, k, h => by
    obtain ⟨q, h1, h2⟩ := h z List.mem_cons_self
    obtain ⟨F1, e1, k1, g1⟩ := know k h1
    obtain ⟨F2, e2, k2, g2⟩ := know k1 h2
    obtain ⟨F3, e3, k3, g3⟩ := know_ps ps k2 fun c hc => h c (List.mem_cons_of_mem _ hc)
    refine ⟨F3, (e1.trans e2).trans e3, k3, RepL.cons ?_ g3⟩
    refine ⟨z.1, _, rfl, e3.ff _ _ (e2.ff _ _ g1), RepL.cons ?_ (RepL.one (show Rep K dA F3 (.int _) (.int _) from rfl))⟩
    exact ⟨q, _, rfl, e3.ff _ _ g2, RepL.cons (show Rep K dA F3 (.int _) (.int _) from rfl) (RepL.one (show Rep K dA F3 (.int _) (.int _) from rfl))⟩
theorem vl_sortedItems {n : Nat} (hr : Room n X.A) (hc : X.calm = true) (hm : X.mg "sorted" = none) (i : Nat) (hN : X.N[i]? = some x := by rfl) (hv : Vis X.env.scope x := by first | exact Or.inl rfl | exact Or.inr (Or.inl rfl) | exact Or.inr (Or.inr rfl)) (hd : (x == ("__debug__" : Str)) = false := by decide)
    (hcd : (x == ("__classdict__" : Str)) = false := by decide) (hg : Gl X "sorted" := by rfl)
    (hs : starEach ((Expr.Call (.Attribute (.Name x q) "items" apos) [] [] cpos) :: []) X.env = (false, eval (Expr.Call (.Attribute (.Name x q) "items" apos) [] [] cpos) X.env) :: starEach [] X.env := by rfl)
    (hbase : attributeBase (.Name x q) "items" X.env (eval (.Name x q) X.env) = eval (.Name x q) X.env := by rfl) (hline : (apos.endLine == cpos.line) = true := by rfl) {pos : Pos} :
    VL X (.Call (.Name "sorted" p) [.Call (.Attribute (.Name x q) "items" apos) [] [] cpos] [] pos) (tCB rSortIP (tCons (tBM0 X.K "dict" DX.rItemsT (tVar i)) tNil)) (vSortedIt i) :=
  ⟨pe_callB (cr_sortedIP hc hr) hg hm (by decide +kernel) (pa_cons (pe_bm0 PySem.F.plainAttrs_dict PySem.F.slot_dict_items PySem.F.type_dict_items DX.mt_itemsT (pe_var hN hv hd hcd) hbase hline) pa_nil hs) (by decide) (by decide) hs rfl, fun {dA F0 H0 F H σ Γ Q Qk} R q f => by
    obtain ⟨cs, h, hl, q⟩ := q
    obtain ⟨own, ho, hsl⟩ := id R.sl
    obtain ⟨o, g1, a, vs, rfl, g2, g3, g4⟩ := hsl i _ h
    have ev := repK_cs g4
    subst ev
    refine ⟨.ref a, g1, .inr (.inr (.inl ⟨rfl, .inr ⟨_, g3⟩⟩)), a, _, rfl, rfl, g3, fun pp hp => ?_⟩
    have hap : a ≠ pp := fun z => by
      rw [z, hp] at g3
      cases g3
    obtain ⟨e1, k1⟩ := growOwn (o := DX.itemsO pp a) R.ok hp
    refine ⟨pp, a, cs, rfl, upd_same, by rw [upd_ne hap]; exact g3, hl, fun H' l ps h1 h2 h3 h4 h5 h6 => ?_⟩
    have x1 : Ext dA F (upd H pp (DX.itemsO pp a)) F H' := ⟨Same.refl F, fun c o q _ => h1 c o q, fun _ _ q => .inl q, fun c o q => ⟨o, h1 c o q⟩⟩
    have k2 : Ok X.K dA F H' := ⟨fun c o q => h1 c o (k1.sub c o q), fun c q => by
      obtain ⟨y1, y2⟩ := k1.tok c q
      obtain ⟨l', ns, pq, g, m, cc, z1, z2⟩ := id y2
      exact ⟨y1, y2.mono (Same.refl F) ((h1 c _ z1).trans z1.symm)⟩⟩
    obtain ⟨F2, e2, k3, r⟩ := know_ps ps k2 fun z hz => by
      obtain ⟨q, y1, y2⟩ := h6 z hz
      exact ⟨q, y1, h1 _ _ y2⟩
    rw [h4] at r
    exact f F2 H' l _ _ ((e1.trans x1).trans e2) k3 (e1.none h2) (e2.fkeep h5 (k1.fnone h2)) h5 r q⟩
end
end LV
set_option Elab.async false
set_option linter.all false
set_option maxRecDepth 100000
set_option maxHeartbeats 4000000
namespace LV
open PySem PySem.Spec PyProof.Rows L2
def eO (a : Amt) : D := if a = (0, 1) then .cst else eA a
theorem eO_or (a : Amt) : eO a = eA a ∨ (a = (0, 1) ∧ eO a = .cst) := by
  unfold eO
  by_cases h : a = (0, 1)
  · rw [if_pos h]
    exact .inr ⟨h, rfl⟩
  · rw [if_neg h]
    exact .inl rfl
theorem eO_of {a : Amt} (h : a.1 ≠ 0) : eO a = eA a := if_neg fun z => h (by rw [z])
def c_lowest : Ct := ⟨2, Int × Int, fun g => [.int g.1, .int g.2], fun g => 0 < g.2 ∧ g.2.natAbs < 2 ^ 8000, fun g d => d = eA (g.1 / Int.gcd g.1 g.2, g.2 / Int.gcd g.1 g.2), fun _ => rfl⟩
theorem gcd_bd {t b : Int} (h1 : 0 < b) (h2 : b.natAbs < 2 ^ 8000) : 0 < ((Nat.gcd t.natAbs b.natAbs : Nat) : Int) ∧ ((Nat.gcd t.natAbs b.natAbs : Nat) : Int).natAbs < 2 ^ 8000 := by
  have h3 : 0 < b.natAbs := by omega
  have h4 := Nat.gcd_le_right (n := b.natAbs) t.natAbs h3
  have h5 := Nat.gcd_pos_of_pos_right t.natAbs h3
  refine ⟨by omega, ?_⟩
  rw [Int.natAbs_natCast]
  exact Nat.lt_of_le_of_lt h4 h2
theorem f_lowest {P : Program} {w : World} {K : PySem.W.Frag} {mg : Str → Option Value} {base : Heap} (W : Wd K mg) : Fn P w K mg base 1 "lowest" c_lowest := by
  refine W.fn 4 (d := HH.d_lowest) rfl rfl 4 rfl ["top", "bottom"] rfl rfl (fun _ _ _ _ _ _ us h => by match us, h with | [a0, a1], _ => rfl) fun f fd F => ?_
  have S : FnScope ["top", "bottom", "shared"] ["top", "bottom"] HH.d_lowest.scope := C8.fnScope_by (by decide +kernel)
  have B := W.gb
  refine fn_ok (N := ["top", "bottom", "shared"]) (k := 0) F S rfl (fun cdv A outer s H E hr => ⟨_, (vb_cons (vs_set (i := 2) S.nd (v_gcd B.gcd (va_cons (vv 0) (va_cons (vv 1) va_nil))))
 (vb_one (vs_ret (v_tup (va_cons (v_divW (vv 0) (vv 2)) (va_cons (v_divW (vv 1) (vv 2)) va_nil))))))⟩) ?_
  rintro ⟨t, b⟩ ⟨h1, h2⟩
  have h3 := gcd_bd (t := t) h1 h2
  (conv => whnf)
  refine ⟨h3, ?_⟩
  (conv => whnf)
  refine ⟨h3, ?_⟩
  rfl
def pA (a : Amt) : Prop := a.1.natAbs < 2 ^ 7600 ∧ 0 < a.2 ∧ a.2.natAbs < 2 ^ 400
def lowT (a b : Amt) : Amt := (a.1 * b.1 / Int.gcd (a.1 * b.1) (a.2 * b.2), a.2 * b.2 / Int.gcd (a.1 * b.1) (a.2 * b.2))
def c_times : Ct := ⟨2, Amt × Amt × D, fun g => [eA g.1, g.2.2], fun g => pA g.1 ∧ g.2.1.1.natAbs < 2 ^ 400 ∧ 0 < g.2.1.2 ∧ g.2.1.2.natAbs < 2 ^ 400 ∧ (g.2.2 = eA g.2.1 ∨ (g.2.1 = (0, 1) ∧ g.2.2 = .cst)), fun g d => d = eA (lowT g.1 g.2.1), fun _ => rfl⟩
theorem mul_bd {a b : Int} {m n : Nat} (h1 : a.natAbs < 2 ^ m) (h2 : b.natAbs < 2 ^ n) : (a * b).natAbs < 2 ^ (m + n) := by
  rw [Int.natAbs_mul, Nat.pow_add]
  exact Nat.mul_lt_mul'' h1 h2
theorem bd_up {a : Nat} {m n : Nat} (h : a < 2 ^ m) (hn : m ≤ n) : a < 2 ^ n := Nat.lt_of_lt_of_le h (Nat.pow_le_pow_right (by omega) hn)
theorem f_times {P : Program} {w : World} {K : PySem.W.Frag} {mg : Str → Option Value} {base : Heap} (W : Wd K mg) : Fn P w K mg base 2 "times" c_times := by
  refine W.fn 5 (d := HH.d_times) rfl rfl 5 rfl ["one", "other"] rfl rfl (fun _ _ _ _ _ _ us h => by match us, h with | [a0, a1], _ => rfl) fun f fd F => ?_
  have S : FnScope ["one", "other"] ["one", "other"] HH.d_times.scope := C8.fnScope_by (by decide +kernel)
  have B := W.gb
  have G_lowest := f_lowest (P := P) (w := w) (base := base) W
  refine fn_ok (N := ["one", "other"]) (k := 1) F S rfl (fun cdv A outer s H E hr => ⟨_, (vb_one (vs_ret (v_call G_lowest hr (va_cons (v_mulW (v_ix (vv 0) v_int) (v_ix (vv 1) v_int)) (va_cons (v_mulW (v_ix (vv 0) v_int) (v_ix (vv 1) v_int)) va_nil)))))⟩) ?_
  rintro ⟨⟨a, b⟩, ⟨c, d⟩, e⟩ ⟨⟨h1, h2, h3⟩, h4, h5, h6, hd⟩
  dsimp only at h1 h2 h3 h4 h5 h6 hd
  rcases hd with rfl | ⟨hd, rfl⟩
  · (repeat ((conv => whnf); refine ⟨_, rfl, ?_⟩))
    (conv => whnf)
    refine ⟨⟨bd_up h1 (by decide), bd_up h4 (by decide)⟩, ?_⟩
    (repeat ((conv => whnf); refine ⟨_, rfl, ?_⟩))
    (conv => whnf)
    refine ⟨⟨bd_up h3 (by decide), bd_up h6 (by decide)⟩, ?_⟩
    (conv => whnf)
    refine ⟨(a * c, b * d), rfl, ⟨Int.mul_pos h2 h5, bd_up (mul_bd h3 h6) (by decide)⟩, ?_⟩
    rintro _ rfl
    rfl
  · cases hd
    (repeat ((conv => whnf); refine ⟨_, rfl, ?_⟩))
    (conv => whnf)
    refine ⟨⟨bd_up h1 (by decide), bd_up h4 (by decide)⟩, ?_⟩
    (repeat ((conv => whnf); refine ⟨_, rfl, ?_⟩))
    (conv => whnf)
    refine ⟨⟨bd_up h3 (by decide), bd_up h6 (by decide)⟩, ?_⟩
    (conv => whnf)
    refine ⟨(a * 0, b * 1), rfl, ⟨Int.mul_pos h2 h5, bd_up (mul_bd h3 h6) (by decide)⟩, ?_⟩
    rintro _ rfl
    rfl
/-- what is heard of a number -/
def heardOf (h : List Hr) (n : Nat) : Amt := match h with
  | [] => (0, 1)
  | x :: r => if x.1 = n then x.2 else heardOf r n
def c_heard_amount : Ct := ⟨2, List Hr × Nat, fun g => [eHs g.1, .int g.2], fun g => ∀ h ∈ g.1, h.2.1 ≠ 0, fun g d => d = eO (heardOf g.1 g.2), fun _ => rfl⟩
theorem heardOf_drop {h : List Hr} {n i : Nat} {x : Hr} (hx : h[i]? = some x) : heardOf (h.drop i) n = if x.1 = n then x.2 else heardOf (h.drop (i + 1)) n := by
  obtain ⟨hl, e⟩ := List.getElem?_eq_some_iff.mp hx
  rw [List.drop_eq_getElem_cons hl, e] <;> rfl
theorem f_heard_amount {P : Program} {w : World} {K : PySem.W.Frag} {mg : Str → Option Value} {base : Heap} (W : Wd K mg) : Fn P w K mg base 1 "heard_amount" c_heard_amount := by
  refine W.fn 8 (d := HH.d_heard_amount) rfl rfl 7 rfl ["heard", "number"] rfl rfl (fun _ _ _ _ _ _ us h => by match us, h with | [a0, a1], _ => rfl) fun f fd F => ?_
  have S : FnScope ["heard", "number", "other", "strength"] ["heard", "number"] HH.d_heard_amount.scope := C8.fnScope_by (by decide +kernel)
  have B := W.gb
  refine fn_ok (N := ["heard", "number", "other", "strength"]) (k := 0) F S rfl (fun cdv A outer s H E hr => ⟨_, (vb_cons (vs_for PassesOwn.never rfl (vi_tup (vv 0)) (vg_tup (n := 2) rfl (vgs_cons (vg_name 2 S.nd) (vgs_cons (vg_name 3 S.nd) vgs_nil)))
 (vb_one (vs_if (vt_cmp (v_eqI (vv 2) (vv 1)))
 (vb_one (vs_ret (vv 3)))
 vb_nil)))
 (vb_one (vs_ret (v_globT B.non B.nonT))))⟩) ?_
  rintro ⟨t, b⟩ hnz
  (conv => whnf)
  refine wpFor_map eH t (fun i Γ => ∃ s u, Γ = [.im (eHs t), .im (.int b), s, u] ∧ heardOf t b = heardOf (t.drop i) b) ?_ ?_ ⟨_, _, rfl, rfl⟩
  · rintro i ⟨x1, x2⟩ Γ N hh ⟨s, u, rfl, hI⟩ hN
    rw [heardOf_drop hh] at hI
    (conv => whnf)
    refine ⟨rfl, ?_⟩
    (conv => whnf)
    refine ⟨fun he => ?_, fun he => ?_⟩
    · (conv => whnf)
      have he' : x1 = b := Int.ofNat_inj.mp he
      rw [hI, if_pos he', eO_of (hnz _ (List.mem_of_getElem? hh))] <;> rfl
    · (conv => whnf)
      refine hN _ ⟨_, _, rfl, ?_⟩
      rw [hI, if_neg fun z => he (Int.ofNat_inj.mpr z)]
  · rintro Γ ⟨s, u, rfl, hI⟩
    (conv => whnf)
    rw [hI, List.drop_length] <;> rfl
end LV
set_option Elab.async false
set_option linter.all false
set_option maxRecDepth 100000
set_option maxHeartbeats 4000000
set_option exponentiation.threshold 100000
/-! M2: tables: balance, hanging together. -/
namespace LV
def pS (a : Amt) : Prop := a.1.natAbs < 2 ^ 400 ∧ 0 < a.2 ∧ a.2.natAbs < 2 ^ 400
/-- square -/
structure Sq (t : List (List Amt)) : Prop where
  lo : 1 ≤ t.length
  hi : t.length ≤ 100
  row : ∀ r ∈ t, r.length = t.length
  ent : ∀ r ∈ t, ∀ a ∈ r, pS a ∧ 0 ≤ a.1 ∧ (a.1 = 0 → a = (0, 1))
/-- entry (v, w) -/
def at2 (t : List (List Amt)) (v w : Nat) : Amt := ((t[v]?.getD [])[w]?).getD (0, 1)
def nth (ns : List Int) (v : Nat) : Int := ns[v]?.getD 0
theorem nth_eq {ns : List Int} {v : Nat} (h : v < ns.length) : ns[v]? = some (nth ns v) := by
  unfold nth
  rw [List.getElem?_eq_getElem h] <;> rfl
theorem sq_get {t : List (List Amt)} (h : Sq t) {v w : Nat} (hv : v < t.length) (hw : w < t.length) : ∃ r, t[v]? = some r ∧ r[w]? = some (at2 t v w) ∧ pS (at2 t v w) ∧ 0 ≤ (at2 t v w).1 ∧ ((at2 t v w).1 = 0 → at2 t v w = (0, 1)) := by
  have h2 := h.row t[v] (List.getElem_mem hv)
  have h3 : w < t[v].length := by omega
  have e : at2 t v w = t[v][w] := by
    unfold at2
    rw [List.getElem?_eq_getElem hv]
    show (t[v][w]?).getD (0, 1) = _
    rw [List.getElem?_eq_getElem h3] <;> rfl
  refine ⟨t[v], List.getElem?_eq_getElem hv, ?_, ?_⟩
  · rw [e, List.getElem?_eq_getElem h3]
  · rw [e]
    exact h.ent _ (List.getElem_mem hv) _ (List.getElem_mem h3)
/-- the numbers keep the balance -/
def Bal1 (t : List (List Amt)) (ns : List Int) (v w : Nat) : Prop := nth ns v * (at2 t v w).1 * (at2 t w v).2 = nth ns w * (at2 t w v).1 * (at2 t v w).2
def Bal (t : List (List Amt)) (ns : List Int) : Prop := ∀ v w, w < v → v < t.length → Bal1 t ns v w
theorem bal1_low {t : List (List Amt)} {ns : List Int} {v w : Nat} (h1 : 0 < (at2 t v w).2) (h2 : 0 < (at2 t w v).2) : lowT (nth ns v, 1) (at2 t v w) = lowT (nth ns w, 1) (at2 t w v) ↔ Bal1 t ns v w := by
  unfold lowT Bal1
  rw [Prod.mk.injEq]
  rw [low_cross (by simpa using h1) (by simpa using h2)]
  dsimp only
  rw [Int.one_mul, Int.one_mul]
theorem bal1_sym {t : List (List Amt)} {ns : List Int} {v w : Nat} : Bal1 t ns v w ↔ Bal1 t ns w v := ⟨fun h => h.symm, fun h => h.symm⟩
/-- linked -/
def Lk (t : List (List Amt)) (v w : Nat) : Prop := (at2 t v w).1 ≠ 0 ∨ (at2 t w v).1 ≠ 0
inductive Rch (t : List (List Amt)) : Nat → Prop
  | zero : Rch t 0
  | step {v w : Nat} : Rch t v → w < t.length → Lk t v w → Rch t w
def Hangs (t : List (List Amt)) : Prop := ∀ v, v < t.length → Rch t v
theorem eO_ne {a : Amt} (h : a.1 = 0 → a = (0, 1)) : (a.1 = 0 ∧ eO a = .cst) ∨ (a.1 ≠ 0 ∧ eO a = eA a) := by
  by_cases z : a.1 = 0
  · refine .inl ⟨z, ?_⟩
    rw [h z]
    exact if_pos rfl
  · exact .inr ⟨z, eO_of z⟩
end LV
set_option Elab.async false
set_option linter.all false
set_option maxRecDepth 100000
set_option maxHeartbeats 4000000
namespace LV
open PySem PySem.Spec PyProof.Rows L2
def eTO (t : List (List Amt)) : D := .lst (t.map fun r => .lst (r.map eO))
def c_is_balanced : Ct := ⟨2, (List (List Amt)) × List Int, fun g => [eTO g.1, .lst (g.2.map fun n => eA (n, 1))], fun g => Sq g.1 ∧ g.1.length = g.2.length ∧ ∀ n ∈ g.2, n.natAbs < 2 ^ 7600, fun g d => ∃ b, d = .bl b ∧ (b = true ↔ Bal g.1 g.2), fun _ => rfl⟩
theorem pA_int {n : Int} (h : n.natAbs < 2 ^ 7600) : pA (n, 1) := ⟨h, Int.one_pos, Nat.one_lt_two_pow (by decide)⟩
theorem pl_eA (a : Amt) : pl 40 (eA a) := fun x hx => by
  rcases List.mem_cons.mp hx with rfl | hx
  · trivial
  · rw [List.mem_singleton.mp hx]
    trivial
theorem eA_inj {a b : Amt} (h : eA a = eA b) : a = b := by
  have h2 := D.tup.inj h
  have h3 := List.cons.inj h2
  have h4 := List.cons.inj h3.2
  exact Prod.ext (D.int.inj h3.1) (D.int.inj h4.1)
theorem f_is_balanced {P : Program} {w : World} {K : PySem.W.Frag} {mg : Str → Option Value} {base : Heap} (W : Wd K mg) : Fn P w K mg base 3 "is_balanced" c_is_balanced := by
  refine W.fn 11 (d := HH.d_is_balanced) rfl rfl 10 rfl ["table", "numbers"] rfl rfl (fun _ _ _ _ _ _ us h => by match us, h with | [a0, a1], _ => rfl) fun f fd F => ?_
  have S : FnScope ["table", "numbers", "v", "w"] ["table", "numbers"] HH.d_is_balanced.scope := C8.fnScope_by (by decide +kernel)
  have B := W.gb
  have G_times := f_times (P := P) (w := w) (base := base) W
  refine fn_ok (N := ["table", "numbers", "v", "w"]) (k := 2) F S rfl (fun cdv A outer s H E hr => ⟨_, (vb_cons (vs_for PassesOwn.never rfl (vi_rng1 B.range (va_cons (v_len B.len (vv 0)) va_nil)) (vg_name 2 S.nd)
 (vb_one (vs_for PassesOwn.never rfl (vi_rng1 B.range (va_cons (vv 2) va_nil)) (vg_name 3 S.nd)
 (vb_one (vs_if (vt_cmp (v_ne hr (v_call G_times hr (va_cons (v_ix (vv 1) (vv 2)) (va_cons (v_ix (v_ix (vv 0) (vv 2)) (vv 3)) va_nil))) (v_call G_times hr (va_cons (v_ix (vv 1) (vv 3)) (va_cons (v_ix (v_ix (vv 0) (vv 3)) (vv 2)) va_nil)))))
 (vb_one (vs_ret v_bl))
 vb_nil)))))
 (vb_one (vs_ret v_bl)))⟩) ?_
  rintro ⟨t, ns⟩ ⟨h1, h2, h3⟩
  dsimp only at h1 h2 h3
  have hn := h1.hi
  have hget : ∀ i, i < t.length → (nth ns i).natAbs < 2 ^ 7600 := fun i hi => h3 _ (List.mem_of_getElem? (nth_eq (by omega)))
  (conv => whnf)
  refine ⟨by unfold small; simp only [List.length_map]; omega, ?_⟩
  show wpFor _ _ _ (rng 0 _) _
  rw [show ((((t.map fun r => D.lst (r.map eO)).length : Nat) : Int)).toNat = t.length by rw [List.length_map] <;> rfl]
  refine wpFor_rng 0 t.length (fun i Γ => ∃ s u, Γ = [.im (eTO t), .im (.lst (ns.map fun n => eA (n, 1))), s, u] ∧ ∀ v w, v < i → w < v → Bal1 t ns v w) ?_ ?_ ⟨_, _, rfl, fun _ _ hv => absurd hv (by omega)⟩
  · rintro i Γ N hi ⟨s, u, rfl, hI⟩ hN
    rw [Int.zero_add]
    (conv => whnf)
    refine ⟨by unfold small; omega, ?_⟩
    show wpFor _ _ _ (rng 0 i) _
    refine wpFor_rng 0 i (fun j Γ => ∃ u, Γ = [.im (eTO t), .im (.lst (ns.map fun n => eA (n, 1))), .im (.int i), u] ∧ ∀ w, w < j → Bal1 t ns i w) ?_ ?_ ⟨_, rfl, fun _ hv => absurd hv (by omega)⟩
    · rintro j Γ N2 hj ⟨u2, rfl, hJ⟩ hN2
      rw [Int.zero_add]
      have hj2 : j < t.length := by omega
      obtain ⟨r1, hr1, ha1, ha3, ha4, ha5⟩ := sq_get h1 hi hj2
      obtain ⟨r2, hr2, hb1, hb3, hb4, hb5⟩ := sq_get h1 hj2 hi
      (conv => whnf)
      refine ⟨_, at_map (nth_eq (by omega)), ?_⟩
      (conv => whnf)
      refine ⟨_, at_map hr1, ?_⟩
      (conv => whnf)
      refine ⟨_, at_map ha1, ?_⟩
      (conv => whnf)
      refine ⟨((nth ns i, 1), at2 t i j, eO (at2 t i j)), rfl, ⟨pA_int (hget i hi), ha3.1, ha3.2.1, ha3.2.2, eO_or _⟩, ?_⟩
      rintro _ rfl
      (conv => whnf)
      refine ⟨_, at_map (nth_eq (by omega)), ?_⟩
      (conv => whnf)
      refine ⟨_, at_map hr2, ?_⟩
      (conv => whnf)
      refine ⟨_, at_map hb1, ?_⟩
      (conv => whnf)
      refine ⟨((nth ns j, 1), at2 t j i, eO (at2 t j i)), rfl, ⟨pA_int (hget j hj2), hb3.1, hb3.2.1, hb3.2.2, eO_or _⟩, ?_⟩
      rintro _ rfl
      (conv => whnf)
      refine ⟨pl_eA _, pl_eA _, fun hne => ?_, fun he => ?_⟩
      · (conv => whnf)
        refine ⟨_, rfl, ⟨fun z => Bool.noConfusion z, fun z => absurd (congrArg eA ((bal1_low ha3.2.1 hb3.2.1).mpr (z i j hj hi))) hne⟩⟩
      · (conv => whnf)
        refine hN2 _ ⟨_, rfl, fun w hw => ?_⟩
        rcases Nat.lt_succ_iff_lt_or_eq.mp hw with hw | rfl
        · exact hJ w hw
        · exact (bal1_low ha3.2.1 hb3.2.1).mp (eA_inj (Classical.not_not.mp he))
    · rintro Γ ⟨u2, rfl, hJ⟩
      (conv => whnf)
      refine hN _ ⟨_, _, rfl, fun v w hv hw => ?_⟩
      rcases Nat.lt_succ_iff_lt_or_eq.mp hv with hv | rfl
      · exact hI v w hv hw
      · exact hJ w hw
  · rintro Γ ⟨s, u, rfl, hI⟩
    (conv => whnf)
    exact ⟨true, rfl, ⟨fun _ v w hw hv => hI v w hv hw, fun _ => rfl⟩⟩
end LV
set_option Elab.async false
set_option linter.all false
set_option maxRecDepth 100000
set_option maxHeartbeats 4000000
/-! M3: the search through a table. -/
namespace LV
def cntF : List Bool → Nat
  | [] => 0
  | true :: r => cntF r
  | false :: r => cntF r + 1
theorem cntF_set : ∀ {rs : List Bool} {w : Nat}, rs[w]? = some false → cntF (rs.set w true) + 1 = cntF rs
  | [], _, h => by simp at h
  | b :: r, 0, h => by
    simp only [List.getElem?_cons_zero] at h
    cases h
    rfl
  | b :: r, w + 1, h => by
    simp only [List.getElem?_cons_succ] at h
    have ih := cntF_set h
    cases b
    · show cntF (r.set w true) + 1 + 1 = cntF r + 1
      omega
    · exact ih
theorem cntF_le : ∀ rs : List Bool, cntF rs ≤ rs.length
  | [] => Nat.le_refl _
  | true :: r => Nat.le_succ_of_le (cntF_le r)
  | false :: r => Nat.succ_le_succ (cntF_le r)
theorem set_true {rs : List Bool} {w v : Nat} (h : (rs.set w true)[v]? = some true) : v = w ∨ rs[v]? = some true := by
  by_cases e : w = v
  · exact .inl e.symm
  · rw [List.getElem?_set_ne e] at h
    exact .inr h
theorem true_set {rs : List Bool} {w v : Nat} (h : rs[v]? = some true) : (rs.set w true)[v]? = some true := by
  by_cases e : w = v
  · subst e
    obtain ⟨hl, _⟩ := List.getElem?_eq_some_iff.mp h
    exact List.getElem?_set_self hl
  · rw [List.getElem?_set_ne e]
    exact h
/-- reached, waiting -/
structure HS (t : List (List Amt)) (rs : List Bool) (ws : List Nat) : Prop where
  len : rs.length = t.length
  zero : rs[0]? = some true
  wr : ∀ w ∈ ws, w < t.length ∧ rs[w]? = some true
  rch : ∀ v, rs[v]? = some true → Rch t v
  cl : ∀ v, rs[v]? = some true → v ∉ ws → ∀ w, w < t.length → Lk t v w → rs[w]? = some true
/-- v's row being looked through, up to j -/
structure HI (t : List (List Amt)) (rs : List Bool) (ws : List Nat) (v j : Nat) : Prop where
  len : rs.length = t.length
  zero : rs[0]? = some true
  wr : ∀ w ∈ ws, w < t.length ∧ rs[w]? = some true
  rch : ∀ v, rs[v]? = some true → Rch t v
  me : rs[v]? = some true
  cl : ∀ u, rs[u]? = some true → u ∉ ws → u ≠ v → ∀ w, w < t.length → Lk t u w → rs[w]? = some true
  go : ∀ w, w < j → Lk t v w → rs[w]? = some true
theorem HS.start {t : List (List Amt)} (h : 1 ≤ t.length) : HS t ((List.replicate t.length false).set 0 true) [0] where
  len := by simp
  zero := List.getElem?_set_self (by rw [List.length_replicate]; exact h)
  wr := fun w hw => by
    rw [List.mem_singleton] at hw
    subst hw
    exact ⟨h, List.getElem?_set_self (by rw [List.length_replicate]; exact h)⟩
  rch := fun v hv => by
    rcases set_true hv with rfl | hv
    · exact .zero
    · rw [List.getElem?_replicate] at hv
      split at hv <;> cases hv
  cl := fun v hv hn => by
    rcases set_true hv with rfl | hv
    · exact absurd (List.mem_singleton.mpr rfl) hn
    · rw [List.getElem?_replicate] at hv
      split at hv <;> cases hv
theorem HS.pop {t : List (List Amt)} {rs : List Bool} {ws : List Nat} {v : Nat} (h : HS t rs (ws ++ [v])) : HI t rs ws v 0 where
  len := h.len
  zero := h.zero
  wr := fun w hw => h.wr w (List.mem_append_left _ hw)
  rch := h.rch
  me := (h.wr v (List.mem_append_right _ (List.mem_singleton.mpr rfl))).2
  cl := fun u hu hn hne => h.cl u hu fun z => by
    rcases List.mem_append.mp z with z | z
    · exact hn z
    · exact hne (List.mem_singleton.mp z)
  go := fun w hw => absurd hw (by omega)
theorem HI.skip {t : List (List Amt)} {rs : List Bool} {ws : List Nat} {v j : Nat} (h : HI t rs ws v j) (hj : rs[j]? = some true ∨ ¬ Lk t v j) : HI t rs ws v (j + 1) :=
  ⟨h.len, h.zero, h.wr, h.rch, h.me, h.cl, fun w hw hl => by
    rcases Nat.lt_succ_iff_lt_or_eq.mp hw with hw | rfl
    · exact h.go w hw hl
    · exact hj.resolve_right fun z => z hl⟩
theorem HI.take {t : List (List Amt)} {rs : List Bool} {ws : List Nat} {v j : Nat} (h : HI t rs ws v j) (hj : j < t.length) (hl : Lk t v j) : HI t (rs.set j true) (ws ++ [j]) v (j + 1) where
  len := by rw [List.length_set]; exact h.len
  zero := true_set h.zero
  wr := fun w hw => by
    rcases List.mem_append.mp hw with hw | hw
    · exact ⟨(h.wr w hw).1, true_set (h.wr w hw).2⟩
    · rw [List.mem_singleton] at hw
      subst hw
      exact ⟨hj, List.getElem?_set_self (by rw [h.len]; exact hj)⟩
  rch := fun u hu => by
    rcases set_true hu with rfl | hu
    · exact .step (h.rch v h.me) hj hl
    · exact h.rch u hu
  me := true_set h.me
  cl := fun u hu hn hne w hw hl => by
    rcases set_true hu with rfl | hu
    · exact absurd (List.mem_append_right _ (List.mem_singleton.mpr rfl)) hn
    · exact true_set (h.cl u hu (fun z => hn (List.mem_append_left _ z)) hne w hw hl)
  go := fun w hw hl => by
    rcases Nat.lt_succ_iff_lt_or_eq.mp hw with hw | rfl
    · exact true_set (h.go w hw hl)
    · exact List.getElem?_set_self (by rw [h.len]; exact hj)
theorem HI.done {t : List (List Amt)} {rs : List Bool} {ws : List Nat} {v : Nat} (h : HI t rs ws v t.length) : HS t rs ws where
  len := h.len
  zero := h.zero
  wr := h.wr
  rch := h.rch
  cl := fun u hu hn w hw hl => by
    by_cases e : u = v
    · subst e
      exact h.go w hw hl
    · exact h.cl u hu hn e w hw hl
theorem HS.fin {t : List (List Amt)} {rs : List Bool} (h : HS t rs []) : ¬ false ∈ rs ↔ Hangs t := by
  have key : ∀ v, v < t.length → Rch t v → rs[v]? = some true := fun v hv r => by
    induction r with
    | zero => exact h.zero
    | step r hw hl ih =>
      rename_i a b
      have ha : a < t.length := by
        cases r with
        | zero => omega
        | step _ h1 _ => exact h1
      exact h.cl a (ih ha) List.not_mem_nil b hw hl
  constructor
  · intro hf v hv
    have hv2 : v < rs.length := by rw [h.len]; exact hv
    refine h.rch v ?_
    rw [List.getElem?_eq_getElem hv2]
    cases e : rs[v] with
    | true => rfl
    | false => exact absurd (by rw [← e]; exact List.getElem_mem hv2) hf
  · intro hh hf
    obtain ⟨v, hv, e⟩ := List.mem_iff_getElem.mp hf
    have := key v (by rw [← h.len]; exact hv) (hh v (by rw [← h.len]; exact hv))
    rw [List.getElem?_eq_getElem hv, e] at this
    cases this
end LV
set_option Elab.async false
set_option linter.all false
set_option maxRecDepth 100000
set_option maxHeartbeats 4000000
namespace LV
open PySem PySem.Spec PyProof.Rows L2
def c_hangs_together : Ct := ⟨1, List (List Amt), fun g => [eTO g], fun g => Sq g, fun g d => ∃ b, d = .bl b ∧ (b = true ↔ Hangs g), fun _ => rfl⟩
theorem set_map {α β : Type} (f : α → β) (xs : List α) (i : Nat) (x : α) : (xs.map f).set i (f x) = (xs.set i x).map f := (List.map_set ..).symm
theorem f_hangs_together {P : Program} {w : World} {K : PySem.W.Frag} {mg : Str → Option Value} {base : Heap} (W : Wd K mg) : Fn P w K mg base 1 "hangs_together" c_hangs_together := by
  refine W.fn 10 (d := HH.d_hangs_together) rfl rfl 9 rfl ["table"] rfl rfl (fun _ _ _ _ _ _ us h => by match us, h with | [a0], _ => rfl) fun f fd F => ?_
  have S : FnScope ["table", "reached", "waiting", "v", "w"] ["table"] HH.d_hangs_together.scope := C8.fnScope_by (by decide +kernel)
  have B := W.gb
  refine fn_ok (N := ["table", "reached", "waiting", "v", "w"]) (k := 0) F S rfl (fun cdv A outer s H E hr => ⟨_, (vb_cons (vs_own (i := 1) S.nd (vl_rep v_bl (v_len B.len (vv 0))))
 (vb_cons (vs_setIx 1 v_int v_bl)
 (vb_cons (vs_own (i := 2) S.nd (vl_lst (va_cons v_int va_nil)))
 (vb_cons (vs_while PassesOwn.never (vt_truO 2)
 (vb_cons (vs_setX (i := 3) S.nd (vx_pop 2))
 (vb_one (vs_for PassesOwn.never rfl (vi_rng1 B.range (va_cons (v_len B.len (vv 0)) va_nil)) (vg_name 4 S.nd)
 (vb_one (vs_if (vt_of (vw_and (vt_not (vt_val (v_ixO 1 (vv 4)))) (vw_and1 (vt_of (vw_or (vt_cmp (v_neN hr (v_ix (v_ix (vv 0) (vv 3)) (vv 4)) B.non B.nonT)) (vw_or1 (vt_cmp (v_neN hr (v_ix (v_ix (vv 0) (vv 4)) (vv 3)) B.non B.nonT))))))))
 (vb_cons (vs_setIx 1 (vv 4) v_bl)
 (vb_one (vs_append 2 (vv 4))))
 vb_nil))))))
 (vb_one (vs_ret (v_allO 1 rfl B.all)))))))⟩) ?_
  intro (t : List (List Amt)) (h1 : Sq t)
  have hn := h1.hi
  have hlo := h1.lo
  have hln : ((t.map fun r => D.lst (r.map eO)).length : Int) = (t.length : Int) := by rw [List.length_map]
  (conv => whnf)
  refine ⟨by unfold small; rw [hln]; omega, by rw [hln]; omega, ?_⟩
  (conv => whnf)
  rw [hln]
  refine ⟨0, ?_, ?_⟩
  · rw [List.length_replicate]
    exact ixN_cast (i := 0) (by omega)
  (conv => whnf)
  have hrep : (List.replicate ((t.length : Int)).toNat (D.bl false)).set 0 (D.bl true) = ((List.replicate t.length false).set 0 true).map D.bl := by
    rw [List.map_set, List.map_replicate] <;> rfl
  rw [hrep]
  refine ⟨fun n Γ => ∃ rs ws s3 s4, Γ = [.im (eTO t), .ow (rs.map .bl), .ow (ws.map eI), s3, s4] ∧ HS t rs ws ∧ n = 2 * cntF rs + ws.length ∧ n ≤ 300, ⟨_, _, [0], _, _, rfl, HS.start hlo, rfl, by
    have := cntF_le ((List.replicate t.length false).set 0 true)
    rw [List.length_set, List.length_replicate] at this
    simp only [List.length_cons, List.length_nil]
    omega⟩, ?_⟩
  rintro n Γ ⟨rs, ws, s3, s4, rfl, hs, rfl, hbd⟩
  (conv => whnf)
  refine ⟨fun hne => ?_, fun he => ?_⟩
  · obtain ⟨ws', v, rfl⟩ : ∃ ws' v, ws = ws' ++ [v] := by
      rcases List.eq_nil_or_concat ws with rfl | ⟨ws', v, e⟩
      · exact absurd rfl hne
      · exact ⟨ws', v, by rw [e, List.concat_eq_append]⟩
    have hv := (hs.wr v (List.mem_append_right _ (List.mem_singleton.mpr rfl))).1
    (conv => whnf)
    refine ⟨ws'.map eI, eI v, by rw [List.map_append] <;> rfl, ?_⟩
    (conv => whnf)
    refine ⟨by unfold small; rw [hln]; omega, ?_⟩
    rw [hln]
    show wpFor _ _ _ (rng 0 t.length) _
    refine wpFor_rng 0 t.length (fun j Γ => ∃ rs' ws2 u, Γ = [.im (eTO t), .ow (rs'.map .bl), .ow (ws2.map eI), .im (.int v), u] ∧ HI t rs' ws2 v j ∧ 2 * cntF rs' + ws2.length < 2 * cntF rs + (ws' ++ [v]).length) ?_ ?_ ⟨rs, ws', _, rfl, hs.pop, by simp⟩
    · rintro j Γ N hj ⟨rs', ws2, u, rfl, hi, hm⟩ hN
      rw [Int.zero_add]
      have hjr : j < rs'.length := by rw [hi.len]; exact hj
      obtain ⟨r1, hr1, ha1, ha3, ha4, ha5⟩ := sq_get h1 hv hj
      obtain ⟨r2, hr2, hb1, hb3, hb4, hb5⟩ := sq_get h1 hj hv
      (conv => whnf)
      refine ⟨_, at_map (List.getElem?_eq_getElem hjr), ?_⟩
      cases e : rs'[j] with
      | true =>
        (conv => whnf)
        refine hN _ ⟨rs', ws2, _, rfl, hi.skip (.inl (by rw [List.getElem?_eq_getElem hjr, e])), hm⟩
      | false =>
        have e' : rs'[j]? = some false := by rw [List.getElem?_eq_getElem hjr, e]
        have yes : Lk t v j → ∃ k, ixN (rs'.map D.bl).length (j : Int) = some k ∧ ((ws2.map eI).length < 1000000 ∧ N [.im (eTO t), .ow ((rs'.map D.bl).set k (.bl true)), .ow (ws2.map eI ++ [.int j]), .im (.int v), .im (.int j)]) := fun hl => by
          refine ⟨j, ixN_cast (by rw [List.length_map]; exact hjr), ?_, hN _ ⟨rs'.set j true, ws2 ++ [j], .im (.int j), ?_, hi.take hj hl, ?_⟩⟩
          · rw [List.length_map]
            omega
          · rw [set_map, List.map_append] <;> rfl
          · have := cntF_set e'
            rw [List.length_append]
            simp only [List.length_cons, List.length_nil]
            omega
        (conv => whnf)
        refine ⟨_, at_map hr1, ?_⟩
        (conv => whnf)
        refine ⟨_, at_map ha1, ?_⟩
        rcases eO_ne ha5 with ⟨z1, z2⟩ | ⟨z1, z2⟩
        · rw [z2]
          (conv => whnf)
          refine ⟨_, at_map hr2, ?_⟩
          (conv => whnf)
          refine ⟨_, at_map hb1, ?_⟩
          rcases eO_ne hb5 with ⟨y1, y2⟩ | ⟨y1, y2⟩
          · rw [y2]
            (conv => whnf)
            refine hN _ ⟨rs', ws2, _, rfl, hi.skip (.inr fun z => z.elim (fun q => q z1) fun q => q y1), hm⟩
          · rw [y2]
            (conv => whnf)
            refine ⟨pl_eA _, fun _ => ?_, fun q => absurd (eA_inj (a := at2 t j v) (b := (0, 1)) (Classical.not_not.mp q)) fun q => y1 (congrArg Prod.fst q)⟩
            (conv => whnf)
            exact yes (.inr y1)
        · rw [z2]
          (conv => whnf)
          refine ⟨pl_eA _, fun _ => ?_, fun q => absurd (eA_inj (a := at2 t v j) (b := (0, 1)) (Classical.not_not.mp q)) fun q => z1 (congrArg Prod.fst q)⟩
          (conv => whnf)
          exact yes (.inl z1)
    · rintro Γ ⟨rs', ws2, u, rfl, hi, hm⟩
      (conv => whnf)
      exact ⟨_, hm, rs', ws2, _, _, rfl, hi.done, rfl, by omega⟩
  · have he' : ws = [] := by
      cases ws with
      | nil => rfl
      | cons a b => exact absurd (fun z => nomatch z) he
    subst he'
    (conv => whnf)
    refine ⟨rs, rfl, fun hf => ?_, fun hf => ?_⟩
    · (conv => whnf)
      exact ⟨true, rfl, ⟨fun _ => hs.fin.mp hf, fun _ => rfl⟩⟩
    · (conv => whnf)
      exact ⟨false, rfl, ⟨fun z => Bool.noConfusion z, fun z => absurd (hs.fin.mpr z) hf⟩⟩
end LV
set_option Elab.async false
set_option linter.all false
set_option maxRecDepth 100000
set_option maxHeartbeats 4000000
set_option exponentiation.threshold 100000
/-! M4: views. -/
namespace LV
open PySem PySem.Spec PyProof.Rows L2
/-- a strength -/
structure pAm (a : Amt) : Prop where
  top : 0 < a.1
  bot : 0 < a.2
  b1 : a.1.natAbs < 2 ^ 240
  b2 : a.2.natAbs < 2 ^ 240
  low : Int.gcd a.1 a.2 = 1
/-- level k's size -/
def sz (v : Vw) : Nat → Nat
  | 0 => v.st.length
  | k + 1 => (v.up[k]?.getD []).length
structure GoodL (below : Nat) (l : List Node) : Prop where
  lo : 1 ≤ l.length
  hi : l.length ≤ 4
  par : ∀ n ∈ l, n.1 < below
  near : ∀ n ∈ l, ∀ h ∈ n.2, h.1 < below ∧ pAm h.2
  asc : ∀ n ∈ l, (n.2.map (·.1)).Pairwise (· < ·)
  srt : l.Pairwise fun a b => dlt (eN a) (eN b) = true
structure Good (v : Vw) : Prop where
  lo : 1 ≤ v.st.length
  hi : v.st.length ≤ 4
  stv : ∀ s ∈ v.st, s.1 ≤ 1 ∧ s.2 ≤ 3
  sts : v.st.Pairwise fun a b => dlt (eS a) (eS b) = true
  rounds : v.up.length ≤ 8
  ups : ∀ k l, v.up[k]? = some l → GoodL (sz v k) l
theorem sz_up {v : Vw} {k : Nat} {l : List Node} (h : v.up[k]? = some l) : sz v (k + 1) = l.length := by
  show (v.up[k]?.getD []).length = _
  rw [h] <;> rfl
theorem up_get {v : Vw} {k : Nat} (h : k < v.up.length) : ∃ l, v.up[k]? = some l := ⟨_, List.getElem?_eq_getElem h⟩
theorem Good.szb {v : Vw} (g : Good v) {k : Nat} (h : k ≤ v.up.length) : 1 ≤ sz v k ∧ sz v k ≤ 4 := by
  cases k with
  | zero => exact ⟨g.lo, g.hi⟩
  | succ k =>
    obtain ⟨l, hl⟩ := up_get (v := v) (k := k) (by omega)
    rw [sz_up hl]
    have := g.ups k l hl
    exact ⟨this.lo, this.hi⟩
/-- the levels as data -/
def lvs (v : Vw) : List D := .tup (v.st.map eS) :: v.up.map eNs
theorem eV_eq (v : Vw) : eV v = .tup (lvs v) := rfl
theorem lvs_len (v : Vw) : (lvs v).length = v.up.length + 1 := by simp [lvs]
theorem lvs_any {v : Vw} {k : Nat} (h : k ≤ v.up.length) : ∃ xs, (lvs v)[k]? = some (.tup xs) ∧ xs.length = sz v k := by
  cases k with
  | zero => exact ⟨_, rfl, by rw [List.length_map] <;> rfl⟩
  | succ k =>
    obtain ⟨l, hl⟩ := up_get (v := v) (k := k) (by omega)
    refine ⟨l.map eN, ?_, by rw [List.length_map, sz_up hl]⟩
    show (v.up.map eNs)[k]? = _
    rw [List.getElem?_map, hl] <;> rfl
theorem lvs_up {v : Vw} {k : Nat} {l : List Node} (h : v.up[k]? = some l) : (lvs v)[k + 1]? = some (eNs l) := by
  show (v.up.map eNs)[k]? = _
  rw [List.getElem?_map, h] <;> rfl
theorem at_of {xs : List D} {k : Nat} {d : D} (h : xs[k]? = some d) : atI xs (k : Int) = some d := by rw [atI_cast, h]
theorem at_of1 {xs : List D} {k : Nat} {d : D} (h : xs[k + 1]? = some d) : atI xs ((k : Int) + 1) = some d := by
  have := at_of h
  rw [show (((k + 1 : Nat)) : Int) = (k : Int) + 1 by omega] at this
  exact this
/-- node j's parent is x -/
def Par (l : List Node) (j x : Nat) : Prop := ∃ n, l[j]? = some n ∧ n.1 = x
/-- each of the n nodes below has one child, ks -/
structure Only (l : List Node) (n : Nat) (ks : List Nat) : Prop where
  len : ks.length = n
  one : ∀ x k, ks[x]? = some k → Par l k x ∧ ∀ j, Par l j x → j = k
theorem Only.uniq {l : List Node} {n : Nat} {ks ks' : List Nat} (h : Only l n ks) (h' : Only l n ks') : ks = ks' := by
  refine List.ext_getElem (by rw [h.len, h'.len]) fun x h1 h2 => ?_
  have a := h.one x _ (List.getElem?_eq_getElem h1)
  have b := h'.one x _ (List.getElem?_eq_getElem h2)
  exact b.2 _ a.1
/-- what is known of the children when i nodes were looked at -/
structure KI (l : List Node) (n i : Nat) (fs : List (Option Nat)) : Prop where
  len : fs.length = n
  no : ∀ x, fs[x]? = some none → ∀ j, j < i → ¬ Par l j x
  yes : ∀ x k, fs[x]? = some (some k) → k < i ∧ Par l k x ∧ ∀ j, j < i → Par l j x → j = k
theorem Par.inj {l : List Node} {j x y : Nat} (h : Par l j x) (h' : Par l j y) : x = y := by
  obtain ⟨n, h1, rfl⟩ := h
  obtain ⟨m, h2, rfl⟩ := h'
  rw [h1] at h2
  cases h2
  rfl
theorem Par.lt {l : List Node} {j x : Nat} (h : Par l j x) : j < l.length := by
  obtain ⟨n, h1, _⟩ := h
  exact (List.getElem?_eq_some_iff.mp h1).1
theorem KI.start (l : List Node) (n : Nat) : KI l n 0 (List.replicate n none) where
  len := List.length_replicate
  no := fun _ _ j hj => absurd hj (by omega)
  yes := fun x k h => by
    rw [List.getElem?_replicate] at h
    split at h <;> cases h
theorem KI.step {l : List Node} {n i x : Nat} {fs : List (Option Nat)} (h : KI l n i fs) (hp : Par l i x) (hx : fs[x]? = some none) : KI l n (i + 1) (fs.set x (some i)) where
  len := by rw [List.length_set]; exact h.len
  no := fun y hy j hj hpj => by
    by_cases e : x = y
    · subst e
      obtain ⟨hl, _⟩ := List.getElem?_eq_some_iff.mp hx
      rw [List.getElem?_set_self hl] at hy
      cases hy
    · rw [List.getElem?_set_ne e] at hy
      rcases Nat.lt_succ_iff_lt_or_eq.mp hj with hj | rfl
      · exact h.no y hy j hj hpj
      · exact e (hp.inj hpj)
  yes := fun y k hy => by
    by_cases e : x = y
    · subst e
      obtain ⟨hl, _⟩ := List.getElem?_eq_some_iff.mp hx
      rw [List.getElem?_set_self hl] at hy
      cases hy
      refine ⟨Nat.lt_succ_self _, hp, fun j hj hpj => ?_⟩
      rcases Nat.lt_succ_iff_lt_or_eq.mp hj with hj | rfl
      · exact absurd hpj (h.no x hx j hj)
      · rfl
    · rw [List.getElem?_set_ne e] at hy
      obtain ⟨h1, h2, h3⟩ := h.yes y k hy
      refine ⟨Nat.lt_succ_of_lt h1, h2, fun j hj hpj => ?_⟩
      rcases Nat.lt_succ_iff_lt_or_eq.mp hj with hj | rfl
      · exact h3 j hj hpj
      · exact absurd (hp.inj hpj) e
theorem KI.two {l : List Node} {n i x k : Nat} {fs : List (Option Nat)} (h : KI l n i fs) (hp : Par l i x) (hx : fs[x]? = some (some k)) : ¬ ∃ ks, Only l n ks := fun ⟨ks, o⟩ => by
  obtain ⟨h1, h2, _⟩ := h.yes x k hx
  obtain ⟨hl, _⟩ := List.getElem?_eq_some_iff.mp hx
  have hxk : x < ks.length := by rw [o.len, ← h.len]; exact hl
  have a := (o.one x _ (List.getElem?_eq_getElem hxk)).2
  have := (a i hp).trans (a k h2).symm
  omega
theorem KI.lack {l : List Node} {n : Nat} {fs : List (Option Nat)} (h : KI l n l.length fs) (hm : none ∈ fs) : ¬ ∃ ks, Only l n ks := fun ⟨ks, o⟩ => by
  obtain ⟨x, hx⟩ := List.mem_iff_getElem?.mp hm
  obtain ⟨hl, _⟩ := List.getElem?_eq_some_iff.mp hx
  have hxk : x < ks.length := by rw [o.len, ← h.len]; exact hl
  have a := (o.one x _ (List.getElem?_eq_getElem hxk)).1
  exact h.no x hx _ a.lt a
theorem KI.full {l : List Node} {n : Nat} {fs : List (Option Nat)} (h : KI l n l.length fs) (hm : ¬ none ∈ fs) : ∃ ks, Only l n ks ∧ fs = ks.map some := by
  have e : fs = (fs.map fun o => o.getD 0).map some := by
    rw [List.map_map]
    refine (List.map_id fs).symm.trans (List.map_congr_left fun o ho => ?_)
    cases o with
    | none => exact absurd ho hm
    | some k => rfl
  refine ⟨fs.map fun o => o.getD 0, ⟨by rw [List.length_map]; exact h.len, fun x k hk => ?_⟩, e⟩
  have h1 : fs[x]? = some (some k) := by
    rw [e, List.getElem?_map, hk] <;> rfl
  obtain ⟨_, h3, h4⟩ := h.yes x k h1
  exact ⟨h3, fun j hj => h4 j hj.lt hj⟩
/-- what is heard of one another -/
def tbl (l : List Node) (ks : List Nat) : List (List Amt) := ks.map fun c => (List.range ks.length).map fun w => heardOf ((l[c]?.getD (0, [])).2) w
theorem heardOf_ok {h : List Hr} {w : Nat} (hp : ∀ x ∈ h, pAm x.2) : heardOf h w = (0, 1) ∨ pAm (heardOf h w) := by
  induction h with
  | nil => exact .inl rfl
  | cons x r ih =>
    show (if x.1 = w then x.2 else heardOf r w) = _ ∨ pAm (if x.1 = w then x.2 else heardOf r w)
    by_cases e : x.1 = w
    · rw [if_pos e]
      exact .inr (hp x List.mem_cons_self)
    · rw [if_neg e]
      exact ih fun y hy => hp y (List.mem_cons_of_mem _ hy)
theorem two240 : (2 : Nat) ^ 240 ≤ 2 ^ 400 := Nat.pow_le_pow_right (by decide) (by decide)
theorem pS_of {a : Amt} (h : a = (0, 1) ∨ pAm a) : pS a ∧ 0 ≤ a.1 ∧ (a.1 = 0 → a = (0, 1)) := by
  rcases h with rfl | h
  · exact ⟨⟨Nat.pow_pos (by decide), Int.one_pos, Nat.one_lt_two_pow (by decide)⟩, Int.le_refl _, fun _ => rfl⟩
  · have h1 := h.top
    exact ⟨⟨Nat.lt_of_lt_of_le h.b1 two240, h.bot, Nat.lt_of_lt_of_le h.b2 two240⟩, by omega, fun z => by omega⟩
theorem tbl_len (l : List Node) (ks : List Nat) : (tbl l ks).length = ks.length := by simp [tbl]
theorem tbl_sq {l : List Node} {ks : List Nat} (h1 : 1 ≤ ks.length) (h2 : ks.length ≤ 4) (hl : ∀ n ∈ l, ∀ h ∈ n.2, pAm h.2) : Sq (tbl l ks) where
  lo := by rw [tbl_len]; exact h1
  hi := by rw [tbl_len]; omega
  row := fun r hr => by
    obtain ⟨c, _, rfl⟩ := List.mem_map.mp hr
    rw [tbl_len, List.length_map, List.length_range]
  ent := fun r hr a ha => by
    obtain ⟨c, _, rfl⟩ := List.mem_map.mp hr
    obtain ⟨w, _, rfl⟩ := List.mem_map.mp ha
    refine pS_of (heardOf_ok fun x hx => ?_)
    cases e : l[c]? with
    | none => rw [e] at hx; exact absurd hx List.not_mem_nil
    | some n =>
      rw [e] at hx
      exact hl n (List.mem_of_getElem? e) x hx
end LV
set_option Elab.async false
set_option linter.all false
set_option maxRecDepth 100000
set_option maxHeartbeats 4000000
namespace LV
open PySem PySem.Spec PyProof.Rows L2
def c_is_whole : Ct := ⟨3, Int × Int × Int, fun g => [.int g.1, .int g.2.1, .int g.2.2], fun _ => True, fun g d => ∃ b, d = .bl b ∧ (b = true ↔ g.2.1 ≤ g.1 ∧ g.1 ≤ g.2.2), fun _ => rfl⟩
theorem kit_ii : L2.kitB "int" "int" = some true := by decide +kernel
theorem kit_ib : L2.kitB "int" "bool" = some false := by decide +kernel
theorem f_is_whole {P : Program} {w : World} {K : PySem.W.Frag} {mg : Str → Option Value} {base : Heap} (W : Wd K mg) : Fn P w K mg base 1 "is_whole" c_is_whole := by
  obtain ⟨fd, F⟩ := W.df 0 HH.d_is_whole rfl
  obtain ⟨ds, hds, hb⟩ := F.binds1 (ps := ["thing", "low", "high"]) 3 2 (by show ([_, _] : List V) ≠ []; exact fun z => nomatch z) rfl (fun T kV doc pm an cdv ct us its h1 h2 => by match us, h1, its, h2 with | [a0, a1, a2], _, [b0, b1], _ => exact ⟨_, rfl, rfl⟩)
  have eds : ds = [] := by
    have hds : Vals [] ds := hds
    cases hds
    rfl
  subst eds
  refine ⟨_, fd, _, ?_, W.glo 0 "is_whole" rfl, F.kp, hb⟩
  have S : FnScope ["thing", "low", "high"] ["thing", "low", "high"] HH.d_is_whole.scope := C8.fnScope_by (by decide +kernel)
  have B := W.gb
  refine fn_ok (N := ["thing", "low", "high"]) (k := 0) F S rfl (fun cdv A outer s H E hr => ⟨_, (vb_cons (vs_if (vt_of (vw_or (vt_not (vt_val (v_isi (T := "int") B.isinstance B.int (vv 0)))) (vw_or1 (vt_val (v_isi (T := "bool") B.isinstance B.bool (vv 0))))))
 (vb_one (vs_ret v_bl))
 vb_nil)
 (vb_one (vs_ret (v_and (v_or (VCp.ve (v_is (vv 1) v_non)) (v_one (VCp.ve (v_ge (vv 0) (vv 1))))) (v_one (v_or (VCp.ve (v_is (vv 2) v_non)) (v_one (VCp.ve (v_le (vv 0) (vv 2))))))))))⟩) ?_
  rintro ⟨x, lo, hi⟩ -
  (conv => whnf)
  refine ⟨true, kit_ii, ?_⟩
  (conv => whnf)
  refine ⟨false, kit_ib, ?_⟩
  (conv => whnf)
  refine ⟨fun h1 => ?_, fun h1 => ?_⟩
  · (conv => whnf)
    refine ⟨fun h2 => ?_, fun h2 => ?_⟩
    · (conv => whnf)
      exact ⟨true, rfl, ⟨fun _ => ⟨h1, h2⟩, fun _ => rfl⟩⟩
    · (conv => whnf)
      exact ⟨false, rfl, ⟨fun z => (by cases z), fun z => absurd z.2 h2⟩⟩
  · (conv => whnf)
    exact ⟨false, rfl, ⟨fun z => (by cases z), fun z => absurd z.1 h1⟩⟩
def c_check_level_stilllevels : Ct := ⟨3, Int × Int × Int, fun g => [.int g.1, .int g.2.1, .int g.2.2], fun g => g.2.1 ≤ g.1 ∧ g.1 ≤ g.2.2, fun g d => d = .non, fun _ => rfl⟩
theorem f_check_level_stilllevels {P : Program} {w : World} {K : PySem.W.Frag} {mg : Str → Option Value} {base : Heap} (W : Wd K mg) : Fn P w K mg base 2 "check_level_stilllevels" c_check_level_stilllevels := by
  refine W.fn 6 (d := HH.d_check_level_stilllevels) rfl rfl 69 rfl ["level", "lowest", "highest"] rfl rfl (fun _ _ _ _ _ _ us h => by match us, h with | [a0, a1, a2], _ => rfl) fun f fd F => ?_
  have S : FnScope ["level", "lowest", "highest"] ["level", "lowest", "highest"] HH.d_check_level_stilllevels.scope := C8.fnScope_by (by decide +kernel)
  have B := W.gb
  have G_is_whole := f_is_whole (P := P) (w := w) (base := base) W
  refine fn_ok (N := ["level", "lowest", "highest"]) (k := 1) F S rfl (fun cdv A outer s H E hr => ⟨_, (vb_one (vs_if (vt_not (vt_val (v_call G_is_whole hr (va_cons (vv 0) (va_cons (vv 1) (va_cons (vv 2) va_nil))))))
 (vb_one vs_never)
 vb_nil))⟩) ?_
  rintro ⟨x, lo, hi⟩ ⟨h1, h2⟩
  (conv => whnf)
  refine ⟨(x, lo, hi), rfl, trivial, ?_⟩
  rintro _ ⟨b, rfl, hb⟩
  cases hb.mpr ⟨h1, h2⟩
  rfl
def c_View_check_place : Ct := ⟨3, Vw × Int × Int, fun g => [eView g.1, .int g.2.1, .int g.2.2], fun g => 0 ≤ g.2.1 ∧ g.2.1 ≤ g.2.2, fun g d => d = .non, fun _ => rfl⟩
theorem f_View_check_place {P : Program} {w : World} {K : PySem.W.Frag} {mg : Str → Option Value} {base : Heap} (W : Wd K mg) : Mh P w K mg base 2 "View" "check_place" c_View_check_place := by
  refine W.mh 23 (d := HH.d_View_check_place) rfl rfl W.gb.cView 107 rfl ["self", "level", "last"] rfl rfl (fun _ _ _ _ _ _ us h => by match us, h with | [a0, a1, a2], _ => rfl) fun f fd F => ?_
  have S : FnScope ["self", "level", "last"] ["self", "level", "last"] HH.d_View_check_place.scope := C8.fnScope_by (by decide +kernel)
  have B := W.gb
  have G_is_whole := f_is_whole (P := P) (w := w) (base := base) W
  refine fn_ok (N := ["self", "level", "last"]) (k := 1) F S rfl (fun cdv A outer s H E hr => ⟨_, (vb_one (vs_if (vt_not (vt_val (v_call G_is_whole hr (va_cons (vv 1) (va_cons v_int (va_cons (vv 2) va_nil))))))
 (vb_one vs_never)
 vb_nil))⟩) ?_
  rintro ⟨v, x, hi⟩ ⟨h1, h2⟩
  (conv => whnf)
  refine ⟨(x, 0, hi), rfl, trivial, ?_⟩
  rintro _ ⟨b, rfl, hb⟩
  cases hb.mpr ⟨h1, h2⟩
  rfl
def c_View_check_node : Ct := ⟨3, Vw × Nat × Nat, fun g => [eView g.1, .int g.2.1, .int g.2.2], fun g => g.2.1 ≤ g.1.up.length ∧ g.2.2 < sz g.1 g.2.1, fun g d => d = .non, fun _ => rfl⟩
theorem f_View_check_node {P : Program} {w : World} {K : PySem.W.Frag} {mg : Str → Option Value} {base : Heap} (W : Wd K mg) : Mh P w K mg base 2 "View" "check_node" c_View_check_node := by
  refine W.mh 24 (d := HH.d_View_check_node) rfl rfl W.gb.cView 108 rfl ["self", "level", "node"] rfl rfl (fun _ _ _ _ _ _ us h => by match us, h with | [a0, a1, a2], _ => rfl) fun f fd F => ?_
  have S : FnScope ["self", "level", "node"] ["self", "level", "node"] HH.d_View_check_node.scope := C8.fnScope_by (by decide +kernel)
  have B := W.gb
  have G_is_whole := f_is_whole (P := P) (w := w) (base := base) W
  refine fn_ok (N := ["self", "level", "node"]) (k := 1) F S rfl (fun cdv A outer s H E hr => ⟨_, (vb_one (vs_if (vt_not (vt_val (v_call G_is_whole hr (va_cons (vv 2) (va_cons v_int (va_cons (v_sub (v_len B.len (v_ix (v_fld (vv 0) B.cView B.aV1) (vv 1))) v_int) va_nil))))))
 (vb_one vs_never)
 vb_nil))⟩) ?_
  rintro ⟨v, k, x⟩ ⟨h1, h2⟩
  dsimp only at h1 h2
  obtain ⟨xs, hx, hl⟩ := lvs_any h1
  (conv => whnf)
  refine ⟨rfl, eV v, rfl, ?_⟩
  (conv => whnf)
  refine ⟨_, at_of hx, ?_⟩
  (conv => whnf)
  refine ⟨(x, 0, (xs.length : Int) - 1), rfl, trivial, ?_⟩
  rintro _ ⟨b, rfl, hb⟩
  dsimp only at hb
  cases hb.mpr (by omega)
  rfl
def c_only_children : Ct := ⟨2, Vw × Nat, fun g => [eView g.1, .int g.2], fun g => Good g.1 ∧ g.2 < g.1.up.length, fun g d => ∃ l, g.1.up[g.2]? = some l ∧ ((∃ ks, Only l (sz g.1 g.2) ks ∧ d = eLn ks) ∨ ((¬ ∃ ks, Only l (sz g.1 g.2) ks) ∧ d = .non)), fun _ => rfl⟩
def eOpt : Option Nat → D
  | none => .non
  | some k => .int k
theorem enumD_map {α : Type} (en : α → D) (xs : List α) : enumD (xs.map en) = xs.zipIdx.map fun p => .tup [.int (p.2 : Nat), en p.1] := by
  unfold enumD
  rw [List.zipIdx_map, List.map_map] <;> rfl
theorem zip_at {α : Type} {xs : List α} {i : Nat} {p : α × Nat} (h : xs.zipIdx[i]? = some p) : xs[i]? = some p.1 ∧ p.2 = i := by
  rw [List.getElem?_zipIdx] at h
  cases e : xs[i]? with
  | none => rw [e] at h; cases h
  | some x =>
    rw [e] at h
    cases h
    exact ⟨rfl, Nat.zero_add i⟩
theorem wpFor_enum {α : Type} {mg : Vg} {mb : Vs} {D : Ve} (en : α → LV.D) (xs : List α) (I : Nat → Ev → Prop) (step : ∀ i x Γ (N : Ev → Prop), xs[i]? = some x → I i Γ → (∀ Γ', I (i + 1) Γ' → N Γ') → mg (.tup [.int (i : Nat), en x]) Γ fun Γ' => mb { nx := N, rt := D.rt, bk := D.nx, ct := N } Γ')
    (fin : ∀ Γ, I xs.length Γ → D.nx Γ) {Γ : Ev} (h : I 0 Γ) : wpFor mg mb D (enumD (xs.map en)) Γ := by
  rw [enumD_map]
  refine wpFor_map _ xs.zipIdx I (fun i p Γ N hp hi hn => ?_) (fun Γ hI => fin Γ (by simpa using hI)) h
  obtain ⟨h1, h2⟩ := zip_at hp
  rw [h2]
  exact step i p.1 Γ N h1 hi hn
theorem pl_opt (fs : List (Option Nat)) : pl 40 (.lst (fs.map eOpt)) := fun d hd => by
  obtain ⟨o, _, rfl⟩ := List.mem_map.mp hd
  cases o <;> trivial
theorem opt_mem (fs : List (Option Nat)) : D.non ∈ fs.map eOpt ↔ none ∈ fs := by
  constructor
  · intro h
    obtain ⟨o, ho, e⟩ := List.mem_map.mp h
    cases o with
    | none => exact ho
    | some k => cases e
  · intro h
    exact List.mem_map.mpr ⟨none, h, rfl⟩
theorem f_only_children {P : Program} {w : World} {K : PySem.W.Frag} {mg : Str → Option Value} {base : Heap} (W : Wd K mg) : Fn P w K mg base 1 "only_children" c_only_children := by
  refine W.fn 7 (d := HH.d_only_children) rfl rfl 6 rfl ["view", "level"] rfl rfl (fun _ _ _ _ _ _ us h => by match us, h with | [a0, a1], _ => rfl) fun f fd F => ?_
  have S : FnScope ["view", "level", "found", "number", "parent", "_"] ["view", "level"] HH.d_only_children.scope := C8.fnScope_by (by decide +kernel)
  have B := W.gb
  refine fn_ok (N := ["view", "level", "found", "number", "parent", "_"]) (k := 0) F S rfl (fun cdv A outer s H E hr => ⟨_, (vb_cons (vs_own (i := 2) S.nd (vl_rep v_non (v_len B.len (v_ix (v_fld (vv 0) B.cView B.aV1) (vv 1)))))
 (vb_cons (vs_for PassesOwn.never rfl (vi_enumT B.enumerate (v_ix (v_fld (vv 0) B.cView B.aV1) (v_add (vv 1) v_int))) (vg_tup (n := 2) rfl (vgs_cons (vg_name 3 S.nd) (vgs_cons (vg_tup (n := 2) rfl (vgs_cons (vg_name 4 S.nd) (vgs_cons (vg_name 5 S.nd) vgs_nil))) vgs_nil)))
 (vb_cons (vs_if (vt_cmp (v_isnot (v_ixO 2 (vv 4)) v_non))
 (vb_one (vs_ret v_non))
 vb_nil)
 (vb_one (vs_setIx 2 (vv 4) (vv 3)))))
 (vb_cons (vs_if (vt_cmp (v_inO 2 hr v_non))
 (vb_one (vs_ret v_non))
 vb_nil)
 (vb_frz 2 (vb_one (vs_ret (vv 2)))))))⟩) ?_
  rintro ⟨v, k⟩ ⟨g, h1⟩
  dsimp only at g h1
  obtain ⟨l, hl⟩ := up_get h1
  have gl := g.ups k l hl
  have gz := g.szb (k := k) (by omega)
  obtain ⟨xs, hx, hxl⟩ := lvs_any (v := v) (k := k) (by omega)
  (conv => whnf)
  refine ⟨rfl, eV v, rfl, ?_⟩
  (conv => whnf)
  refine ⟨_, at_of hx, ?_⟩
  (conv => whnf)
  refine ⟨by unfold small; rw [hxl]; omega, by rw [hxl]; omega, ?_⟩
  (conv => whnf)
  refine ⟨rfl, eV v, rfl, ?_⟩
  (conv => whnf)
  refine ⟨_, at_of1 (lvs_up hl), ?_⟩
  show wpFor _ _ _ (enumD (l.map eN)) _
  have e0 : List.replicate ((xs.length : Int)).toNat D.non = (List.replicate (sz v k) (none : Option Nat)).map eOpt := by
    rw [List.map_replicate, hxl] <;> rfl
  rw [e0]
  refine wpFor_enum eN l (fun i Γ => ∃ fs a b c, Γ = [.im (eView v), .im (.int k), .ow (fs.map eOpt), a, b, c] ∧ KI l (sz v k) i fs) ?_ ?_ ⟨_, _, _, _, rfl, KI.start l (sz v k)⟩
  · rintro i ⟨n1, n2⟩ Γ N hn ⟨fs, a, b, c, rfl, hi⟩ hN
    have hp : Par l i n1 := ⟨_, hn, rfl⟩
    have hlt : n1 < fs.length := by
      rw [hi.len]
      exact gl.par _ (List.mem_of_getElem? hn)
    (conv => whnf)
    refine ⟨rfl, ?_⟩
    (conv => whnf)
    refine ⟨rfl, ?_⟩
    (conv => whnf)
    refine ⟨_, at_map (List.getElem?_eq_getElem hlt), ?_⟩
    cases e : fs[n1] with
    | none =>
      (conv => whnf)
      refine ⟨n1, ixN_cast (by rw [List.length_map]; exact hlt), ?_⟩
      (conv => whnf)
      refine hN _ ⟨fs.set n1 (some i), .im (.int i), .im (.int n1), .im (eHs n2), ?_, hi.step hp (by rw [List.getElem?_eq_getElem hlt, e])⟩
      rw [List.map_set] <;> rfl
    | some j =>
      (conv => whnf)
      exact ⟨l, hl, .inr ⟨hi.two hp (by rw [List.getElem?_eq_getElem hlt, e]), rfl⟩⟩
  · rintro Γ ⟨fs, a, b, c, rfl, hi⟩
    (conv => whnf)
    refine ⟨trivial, pl_opt fs, fun hm => ?_, fun hm => ?_⟩
    · (conv => whnf)
      exact ⟨l, hl, .inr ⟨hi.lack ((opt_mem fs).mp hm), rfl⟩⟩
    · obtain ⟨ks, ho, rfl⟩ := hi.full fun z => hm ((opt_mem fs).mpr z)
      (conv => whnf)
      refine ⟨l, hl, .inl ⟨ks, ho, ?_⟩⟩
      show D.lst ((ks.map some).map eOpt) = eLn ks
      rw [List.map_map] <;> rfl
end LV
set_option Elab.async false
set_option linter.all false
set_option maxRecDepth 100000
set_option maxHeartbeats 4000000
set_option exponentiation.threshold 100000
/-! M5: roots, sums. -/
namespace LV
/-- the parent, at level k, of node x of level k + 1 -/
def par1 (v : Vw) (k x : Nat) : Nat := (((v.up[k]?.getD [])[x]?).map (·.1)).getD 0
/-- n levels below level t -/
def rootN (v : Vw) (t x : Nat) : Nat → Nat
  | 0 => x
  | n + 1 => par1 v (t - n - 1) (rootN v t x n)
def root (v : Vw) (t x s : Nat) : Nat := rootN v t x (t - s)
theorem node_get {v : Vw} {k x : Nat} (h1 : k < v.up.length) (h2 : x < sz v (k + 1)) : ∃ l n, v.up[k]? = some l ∧ l[x]? = some n ∧ n.1 = par1 v k x := by
  obtain ⟨l, hl⟩ := up_get h1
  rw [sz_up hl] at h2
  refine ⟨l, l[x], hl, List.getElem?_eq_getElem h2, ?_⟩
  unfold par1
  rw [hl]
  show _ = (((some l).getD [])[x]?.map _).getD 0
  show _ = (l[x]?.map _).getD 0
  rw [List.getElem?_eq_getElem h2] <;> rfl
theorem par1_lt {v : Vw} (g : Good v) {k x : Nat} (h1 : k < v.up.length) (h2 : x < sz v (k + 1)) : par1 v k x < sz v k := by
  obtain ⟨l, n, hl, hn, e⟩ := node_get h1 h2
  rw [← e]
  exact (g.ups k l hl).par n (List.mem_of_getElem? hn)
theorem rootN_lt {v : Vw} (g : Good v) {t x : Nat} (ht : t ≤ v.up.length) (hx : x < sz v t) : ∀ n, n ≤ t → rootN v t x n < sz v (t - n)
  | 0, _ => hx
  | n + 1, h => by
    have ih := rootN_lt g ht hx n (by omega)
    have e : t - n = t - n - 1 + 1 := by omega
    have := par1_lt g (k := t - n - 1) (x := rootN v t x n) (by omega) (by rw [← e]; exact ih)
    rw [show t - (n + 1) = t - n - 1 by omega]
    exact this
theorem root_lt {v : Vw} (g : Good v) {t x s : Nat} (ht : t ≤ v.up.length) (hx : x < sz v t) (hs : s ≤ t) : root v t x s < sz v s := by
  have := rootN_lt g ht hx (t - s) (by omega)
  rw [show t - (t - s) = s by omega] at this
  exact this
/-- the sum of f over what g sends to y -/
def sumIf (n : Nat) (g : Nat → Nat) (f : Nat → Int) (y : Nat) : Int := ((List.range n).map fun x => if g x = y then f x else 0).sum
theorem sumIf_zero (g : Nat → Nat) (f : Nat → Int) (y : Nat) : sumIf 0 g f y = 0 := rfl
theorem sumIf_succ (n : Nat) (g : Nat → Nat) (f : Nat → Int) (y : Nat) : sumIf (n + 1) g f y = sumIf n g f y + if g n = y then f n else 0 := by
  unfold sumIf
  rw [List.range_succ, List.map_append, List.sum_append]
  simp
theorem sumIf_add (m : Nat) (g : Nat → Nat) (f h : Nat → Int) (y : Nat) : sumIf m g (fun z => f z + h z) y = sumIf m g f y + sumIf m g h y := by
  induction m with
  | zero => rfl
  | succ m ih =>
    rw [sumIf_succ, sumIf_succ, sumIf_succ, ih]
    by_cases e : g m = y
    · rw [if_pos e, if_pos e, if_pos e]
      omega
    · rw [if_neg e, if_neg e, if_neg e]
      omega
theorem sumIf_nil (m : Nat) (g : Nat → Nat) (y : Nat) : sumIf m g (fun _ => 0) y = 0 := by
  induction m with
  | zero => rfl
  | succ m ih =>
    rw [sumIf_succ, ih]
    by_cases e : g m = y
    · rw [if_pos e] <;> rfl
    · rw [if_neg e] <;> rfl
theorem sumIf_far (m : Nat) (g : Nat → Nat) (r : Nat) (a : Int) (y : Nat) (h : m ≤ r) : sumIf m g (fun z => if r = z then a else 0) y = 0 := by
  induction m with
  | zero => rfl
  | succ m ih =>
    rw [sumIf_succ, ih (by omega), if_neg (show ¬ r = m by omega)]
    by_cases e : g m = y
    · rw [if_pos e] <;> rfl
    · rw [if_neg e] <;> rfl
theorem sumIf_one (m : Nat) (g : Nat → Nat) (r : Nat) (a : Int) (y : Nat) (h : r < m) : sumIf m g (fun z => if r = z then a else 0) y = if g r = y then a else 0 := by
  induction m with
  | zero => omega
  | succ m ih =>
    rw [sumIf_succ]
    by_cases e : r = m
    · rw [e, sumIf_far m g m a y (Nat.le_refl _), if_pos rfl, Int.zero_add]
    · rw [ih (by omega), if_neg e]
      by_cases e2 : g m = y
      · rw [if_pos e2, Int.add_zero]
      · rw [if_neg e2, Int.add_zero]
theorem sumIf_comp (m : Nat) (g r : Nat → Nat) (f : Nat → Int) (y : Nat) : ∀ n, (∀ x, x < n → r x < m) → sumIf m g (sumIf n r f) y = sumIf n (fun x => g (r x)) f y
  | 0, _ => sumIf_nil m g y
  | n + 1, h => by
    have e : sumIf (n + 1) r f = fun z => sumIf n r f z + if r n = z then f n else 0 := funext fun z => sumIf_succ n r f z
    rw [e, sumIf_add, sumIf_comp m g r f y n fun x hx => h x (by omega), sumIf_one m g (r n) (f n) y (h n (by omega)), sumIf_succ]
theorem sumIf_id (n : Nat) (f : Nat → Int) (y : Nat) (h : y < n) : sumIf n (fun x => x) f y = f y := by
  have key : ∀ n, (y < n → sumIf n (fun x => x) f y = f y) ∧ (n ≤ y → sumIf n (fun x => x) f y = 0) := fun n => by
    induction n with
    | zero => exact ⟨fun h => absurd h (by omega), fun _ => rfl⟩
    | succ n ih =>
      rw [sumIf_succ]
      refine ⟨fun h => ?_, fun h => ?_⟩
      · by_cases e : n = y
        · rw [if_pos e, ih.2 (by omega), e, Int.zero_add]
        · rw [if_neg e, ih.1 (by omega), Int.add_zero]
      · rw [if_neg (by omega), ih.2 (by omega)] <;> rfl
  exact (key n).1 h
theorem sumIf_congr (n : Nat) {g g' : Nat → Nat} {f f' : Nat → Int} (y : Nat) (hg : ∀ x, x < n → g x = g' x) (hf : ∀ x, x < n → f x = f' x) : sumIf n g f y = sumIf n g' f' y := by
  induction n with
  | zero => rfl
  | succ n ih =>
    rw [sumIf_succ, sumIf_succ, ih (fun x hx => hg x (by omega)) fun x hx => hf x (by omega), hg n (by omega), hf n (by omega)]
/-- level t's numbers summed i levels below -/
def sumsL (v : Vw) (t : Nat) (os : List Int) (i : Nat) : List Int := (List.range (sz v (t - i))).map (sumIf (sz v t) (fun x => rootN v t x i) (nth os))
theorem nth_map {n : Nat} {f : Nat → Int} {y : Nat} (h : y < n) : nth ((List.range n).map f) y = f y := by
  unfold nth
  rw [List.getElem?_map, List.getElem?_range h] <;> rfl
theorem sumsL_len (v : Vw) (t : Nat) (os : List Int) (i : Nat) : (sumsL v t os i).length = sz v (t - i) := by simp [sumsL]
theorem sumsL_zero {v : Vw} {t : Nat} {os : List Int} (h : os.length = sz v t) : sumsL v t os 0 = os := by
  refine List.ext_getElem (by rw [sumsL_len, h] <;> rfl) fun y h1 h2 => ?_
  have hy : y < sz v t := by rw [← h]; exact h2
  have e : nth (sumsL v t os 0) y = nth os y := by
    exact (nth_map (n := sz v (t - 0)) (f := sumIf (sz v t) (fun x => rootN v t x 0) (nth os)) hy).trans (sumIf_id _ _ _ hy)
  have a := nth_eq h1
  have b := nth_eq h2
  rw [List.getElem?_eq_getElem h1] at a
  rw [List.getElem?_eq_getElem h2] at b
  rw [Option.some.inj a, Option.some.inj b, e]
theorem sumsL_succ {v : Vw} (g : Good v) {t : Nat} {os : List Int} (ht : t ≤ v.up.length) {i : Nat} (hi : i < t) : sumsL v t os (i + 1) = (List.range (sz v (t - i - 1))).map (sumIf (sz v (t - i)) (par1 v (t - i - 1)) (nth (sumsL v t os i))) := by
  unfold sumsL
  rw [show t - (i + 1) = t - i - 1 by omega]
  refine List.map_congr_left fun y hy => ?_
  have e : sumIf (sz v (t - i)) (par1 v (t - i - 1)) (nth ((List.range (sz v (t - i))).map (sumIf (sz v t) (fun x => rootN v t x i) (nth os)))) y = sumIf (sz v (t - i)) (par1 v (t - i - 1)) (sumIf (sz v t) (fun x => rootN v t x i) (nth os)) y :=
    sumIf_congr _ y (fun _ _ => rfl) fun x hx => nth_map hx
  rw [e, sumIf_comp _ _ _ _ _ _ fun x hx => rootN_lt g ht hx i (by omega)]
  rfl
/-- a sum grows -/
theorem add_at {b : List Int} {n m : Nat} {g : Nat → Nat} {f : Nat → Int} (hb : b = (List.range m).map (sumIf n g f)) (hg : g n < m) : b.set (g n) (nth b (g n) + f n) = (List.range m).map (sumIf (n + 1) g f) := by
  subst hb
  refine List.ext_getElem? fun y => ?_
  rw [List.getElem?_map]
  by_cases e : g n = y
  · subst e
    rw [List.getElem?_set_self (by simpa using hg), List.getElem?_range hg, nth_map hg]
    show _ = some (sumIf (n + 1) g f (g n))
    rw [sumIf_succ, if_pos rfl]
  · rw [List.getElem?_set_ne e, List.getElem?_map]
    cases h : (List.range m)[y]? with
    | none => rfl
    | some z =>
      have hz : z = y := by
        obtain ⟨hl, h2⟩ := List.getElem?_eq_some_iff.mp h
        rw [List.getElem_range] at h2
        exact h2.symm
      subst hz
      show some _ = some _
      rw [sumIf_succ, if_neg e, Int.add_zero]
end LV
set_option Elab.async false
set_option linter.all false
set_option maxRecDepth 100000
set_option maxHeartbeats 4000000
namespace LV
open PySem PySem.Spec PyProof.Rows L2
theorem at_dn {v : Vw} {k : Nat} {l : List Node} (h : v.up[k]? = some l) {j : Int} (e : j = (k : Int) + 1) : atI (.tup (v.st.map eS) :: v.up.map eNs) j = some (eNs l) := by
  subst e
  exact at_of1 (lvs_up h)
theorem at_0 {x : D} {xs : List D} : atI (x :: xs) 0 = some x := by
  rw [show (0 : Int) = ((0 : Nat) : Int) from rfl, atI_cast] <;> rfl
theorem at_hd (f : Nat → D) (n : Nat) : atI ((List.range (n + 1)).map f) 0 = some (f 0) := by
  rw [show (0 : Int) = ((0 : Nat) : Int) from rfl, atI_cast, List.getElem?_map, List.getElem?_range (by omega)] <;> rfl
def c_heard_table : Ct := ⟨2, Vw × Nat × List Node × List Nat, fun g => [eView g.1, .int g.2.1], fun g => Good g.1 ∧ g.1.up[g.2.1]? = some g.2.2.1 ∧ Only g.2.2.1 (sz g.1 g.2.1) g.2.2.2, fun g d => d = eTO (tbl g.2.2.1 g.2.2.2), fun _ => rfl⟩
theorem eLn_inj {a b : List Nat} (h : eLn a = eLn b) : a = b := by
  have h2 := D.lst.inj h
  exact (List.map_inj_right (fun x y e => Int.ofNat_inj.mp (D.int.inj e))).mp h2
theorem f_heard_table {P : Program} {w : World} {K : PySem.W.Frag} {mg : Str → Option Value} {base : Heap} (W : Wd K mg) : Fn P w K mg base 2 "heard_table" c_heard_table := by
  refine W.fn 9 (d := HH.d_heard_table) rfl rfl 8 rfl ["view", "level"] rfl rfl (fun _ _ _ _ _ _ us h => by match us, h with | [a0, a1], _ => rfl) fun f fd F => ?_
  have S : FnScope ["view", "level", "behind", "rows", "child", "w", "heard"] ["view", "level"] HH.d_heard_table.scope := C8.fnScope_by (by decide +kernel)
  have B := W.gb
  have G_only_children := f_only_children (P := P) (w := w) (base := base) W
  have G_heard_amount := f_heard_amount (P := P) (w := w) (base := base) W
  refine fn_ok (N := ["view", "level", "behind", "rows", "child", "w", "heard"]) (k := 1) F S rfl (fun cdv A outer s H E hr => ⟨_, (vb_cons (vs_set (i := 2) S.nd (v_ix (v_fld (vv 0) B.cView B.aV1) (v_add (vv 1) v_int)))
 (vb_cons (vs_set (i := 3) S.nd (ve_of (vl_lc (own := [("child", 4)]) rfl S.nd (VI.own (vi_list (v_call G_only_children hr (va_cons (vv 0) (va_cons (vv 1) va_nil))))) (by rfl) (fun _ _ _ _ _ => (vg_name 4 S.nd)) (fun _ _ _ _ _ => vq_nil) (fun _ _ _ _ _ => (v_ix (v_ix (vv 2) (vv 4)) v_int)))))
 (vb_one (vs_ret (ve_of (vl_lc (own := [("heard", 6)]) rfl S.nd (VI.own (vi_list (vv 3))) (by rfl) (fun _ _ _ _ _ => (vg_name 6 S.nd)) (fun _ _ _ _ _ => vq_nil) (fun _ _ _ _ _ => (ve_of (vl_lc (own := [("w", 5)]) rfl S.nd (VI.own (vi_rng1 B.range (va_cons (v_len B.len (vv 3)) va_nil))) (by rfl) (fun _ _ _ _ _ => (vg_name 5 S.nd)) (fun _ _ _ _ _ => vq_nil) (fun _ _ _ _ _ => (v_call G_heard_amount hr (va_cons (vv 6) (va_cons (vv 5) va_nil)))))))))))))⟩) ?_
  rintro ⟨v, k, l, ks⟩ ⟨g, hl, ho⟩
  dsimp only at g hl ho
  have hk : k < v.up.length := (List.getElem?_eq_some_iff.mp hl).1
  have gl := g.ups k l hl
  have gz := g.szb (k := k) (by omega)
  have hkl : ks.length ≤ 4 := by rw [ho.len]; exact gz.2
  (conv => whnf)
  refine ⟨rfl, eV v, rfl, ?_⟩
  (conv => whnf)
  refine ⟨_, at_of1 (lvs_up hl), ?_⟩
  (conv => whnf)
  refine ⟨(v, k), rfl, ⟨g, hk⟩, ?_⟩
  rintro _ ⟨l', hl', hd⟩
  dsimp only at hl' hd
  rw [hl] at hl'
  cases hl'
  obtain ⟨ks', ho', rfl⟩ : ∃ ks', Only l (sz v k) ks' ∧ _ := hd.resolve_right fun z => z.1 ⟨ks, ho⟩
  cases ho.uniq ho'
  show wpLc _ _ _ _ _ (ks.map eI) []
  have hget : ∀ c ∈ ks, ∃ n, l[c]? = some n ∧ n = (l[c]?.getD (0, [])) := fun c hc => by
    obtain ⟨x, hx⟩ := List.mem_iff_getElem?.mp hc
    obtain ⟨⟨n, hn, _⟩, _⟩ := ho.one x c hx
    exact ⟨n, hn, by rw [hn] <;> rfl⟩
  refine wpLc_map eI (fun c => eHs (l[c]?.getD (0, [])).2) ks (by omega) (fun c hc N M hN => ?_) ?_
  · obtain ⟨n, hn, e⟩ := hget c hc
    rw [← e] at hN
    (conv => whnf)
    refine ⟨_, at_map hn, ?_⟩
    (conv => whnf)
    exact ⟨_, rfl, hN⟩
  (conv => whnf)
  show wpLc _ _ _ _ _ (ks.map fun c => eHs (l[c]?.getD (0, [])).2) []
  refine wpLc_map (fun c => eHs (l[c]?.getD (0, [])).2) (fun c => .lst ((List.range ks.length).map fun w => eO (heardOf (l[c]?.getD (0, [])).2 w))) ks (by omega) (fun c hc N M hN => ?_) ?_
  · obtain ⟨n, hn, e⟩ := hget c hc
    (conv => whnf)
    refine ⟨by unfold small; rw [List.length_map]; omega, ?_⟩
    show wpLc _ _ _ _ _ (rng 0 _) []
    rw [show ((((ks.map fun c => eHs (l[c]?.getD (0, [])).2).length : Nat) : Int)).toNat = ks.length by rw [List.length_map] <;> rfl]
    refine wpLc_rng (fun w => eO (heardOf (l[c]?.getD (0, [])).2 w)) 0 ks.length (by omega) (fun w hw N' M' hN' => ?_) hN
    rw [Int.zero_add]
    (conv => whnf)
    refine ⟨((l[c]?.getD (0, [])).2, w), rfl, fun h hh => ?_, ?_⟩
    · rw [← e] at hh
      have := (gl.near n (List.mem_of_getElem? hn) h hh).2.top
      omega
    rintro _ rfl
    exact hN'
  (conv => whnf)
  show _ = eTO _
  unfold eTO tbl
  rw [List.map_map]
  congr 1
  refine List.map_congr_left fun c _ => ?_
  show _ = D.lst (((List.range ks.length).map fun w => heardOf ((l[c]?.getD (0, [])).2) w).map eO)
  rw [List.map_map] <;> rfl
def c_View_path : Ct := ⟨1, Vw, fun g => [eView g], fun g => Good g ∧ sz g g.up.length = 1, fun g d => d = .tup ((List.range (g.up.length + 1)).map fun r => eI (root g g.up.length 0 r)), fun _ => rfl⟩
theorem path_step (v : Vw) (R i : Nat) : ((List.range (i + 2)).map fun j => eI (rootN v R 0 (i + 1 - j))) = eI (rootN v R 0 (i + 1)) :: (List.range (i + 1)).map fun j => eI (rootN v R 0 (i - j)) := by
  rw [List.range_succ_eq_map, List.map_cons, List.map_map]
  congr 1
  refine List.map_congr_left fun j _ => ?_
  show eI (rootN v R 0 (i + 1 - (j + 1))) = _
  rw [show i + 1 - (j + 1) = i - j by omega]
theorem f_View_path {P : Program} {w : World} {K : PySem.W.Frag} {mg : Str → Option Value} {base : Heap} (W : Wd K mg) : Mh P w K mg base 1 "View" "path" c_View_path := by
  refine W.mh 25 (d := HH.d_View_path) rfl rfl W.gb.cView 109 rfl ["self"] rfl rfl (fun _ _ _ _ _ _ us h => by match us, h with | [a0], _ => rfl) fun f fd F => ?_
  have S : FnScope ["self", "found", "level"] ["self"] HH.d_View_path.scope := C8.fnScope_by (by decide +kernel)
  have B := W.gb
  refine fn_ok (N := ["self", "found", "level"]) (k := 0) F S rfl (fun cdv A outer s H E hr => ⟨_, (vb_cons (vs_own (i := 1) S.nd (vl_lst (va_cons v_int va_nil)))
 (vb_cons (vs_for PassesOwn.never rfl (vi_rng3 B.range (va_cons (v_fld (vv 0) B.cView B.aV2) (va_cons v_int (va_cons (v_neg v_int) va_nil)))) (vg_name 2 S.nd)
 (vb_one (vs_insert0 1 (v_ix (v_ix (v_ix (v_fld (vv 0) B.cView B.aV1) (vv 2)) (v_ixO 1 v_int)) v_int))))
 (vb_frz 1 (vb_one (vs_ret (v_tuple B.tuple (vv 1)))))))⟩) ?_
  intro (v : Vw) ⟨g, h1⟩
  have hr := g.rounds
  (conv => whnf)
  refine ⟨rfl, .int v.up.length, rfl, ?_⟩
  (conv => whnf)
  refine ⟨by unfold small; omega, by unfold small; omega, rfl, ?_⟩
  show wpFor _ _ _ (rngDn _ _) _
  rw [show ((v.up.length : Int) - 0).toNat = v.up.length by omega]
  refine wpFor_rngDn _ v.up.length (fun i Γ => ∃ u, Γ = [.im (eView v), .ow ((List.range (i + 1)).map fun j => eI (rootN v v.up.length 0 (i - j))), u]) ?_ ?_ ⟨_, rfl⟩
  · rintro i Γ N hi ⟨u, rfl⟩ hN
    have hb := rootN_lt g (Nat.le_refl _) (show 0 < sz v v.up.length by omega) i (by omega)
    have e1 : v.up.length - i = v.up.length - i - 1 + 1 := by omega
    rw [e1] at hb
    obtain ⟨l, n, hl, hn, e⟩ := node_get (v := v) (k := v.up.length - i - 1) (by omega) hb
    (conv => whnf)
    refine ⟨rfl, eV v, rfl, ?_⟩
    (conv => whnf)
    refine ⟨eNs l, at_dn hl (by omega), ?_⟩
    (conv => whnf)
    refine ⟨eI (rootN v v.up.length 0 i), at_hd _ _, ?_⟩
    (conv => whnf)
    refine ⟨_, at_map hn, ?_⟩
    (conv => whnf)
    refine ⟨_, rfl, ?_⟩
    (conv => whnf)
    refine ⟨by rw [List.length_map, List.length_range]; omega, hN _ ⟨.im (.int ((v.up.length : Int) - (i : Int))), ?_⟩⟩
    show [_, _, _] = [_, _, _]
    rw [path_step]
    show _ = [_, Sl.ow (eI (par1 v (v.up.length - i - 1) (rootN v v.up.length 0 i)) :: _), _]
    rw [← e] <;> rfl
  · rintro Γ ⟨u, rfl⟩
    (conv => whnf)
    rfl
def c_View_start_of : Ct := ⟨3, Vw × Nat × Nat, fun g => [eView g.1, .int g.2.1, .int g.2.2], fun g => Good g.1 ∧ g.2.1 ≤ g.1.up.length ∧ g.2.2 < sz g.1 g.2.1, fun g d => ∃ s, g.1.st[root g.1 g.2.1 g.2.2 0]? = some s ∧ d = eS s, fun _ => rfl⟩
theorem f_View_start_of {P : Program} {w : World} {K : PySem.W.Frag} {mg : Str → Option Value} {base : Heap} (W : Wd K mg) : Mh P w K mg base 3 "View" "start_of" c_View_start_of := by
  refine W.mh 26 (d := HH.d_View_start_of) rfl rfl W.gb.cView 110 rfl ["self", "level", "node"] rfl rfl (fun _ _ _ _ _ _ us h => by match us, h with | [a0, a1, a2], _ => rfl) fun f fd F => ?_
  have S : FnScope ["self", "level", "node", "number", "at"] ["self", "level", "node"] HH.d_View_start_of.scope := C8.fnScope_by (by decide +kernel)
  have B := W.gb
  have G_View_check_place := f_View_check_place (P := P) (w := w) (base := base) W
  have G_View_check_node := f_View_check_node (P := P) (w := w) (base := base) W
  refine fn_ok (N := ["self", "level", "node", "number", "at"]) (k := 2) F S rfl (fun cdv A outer s H E hr => ⟨_, (vb_cons (vs_expr (v_meth G_View_check_place hr (vv 0) (va_cons (vv 1) (va_cons (v_fld (vv 0) B.cView B.aV2) va_nil))))
 (vb_cons (vs_expr (v_meth G_View_check_node hr (vv 0) (va_cons (vv 1) (va_cons (vv 2) va_nil))))
 (vb_cons (vs_set (i := 3) S.nd (vv 2))
 (vb_cons (vs_for PassesOwn.never rfl (vi_rng3 B.range (va_cons (vv 1) (va_cons v_int (va_cons (v_neg v_int) va_nil)))) (vg_name 4 S.nd)
 (vb_one (vs_set (i := 3) S.nd (v_ix (v_ix (v_ix (v_fld (vv 0) B.cView B.aV1) (vv 4)) (vv 3)) v_int))))
 (vb_one (vs_ret (v_ix (v_ix (v_fld (vv 0) B.cView B.aV1) v_int) (vv 3))))))))⟩) ?_
  rintro ⟨v, t, x⟩ ⟨g, ht, hx⟩
  dsimp only at g ht hx
  have hr := g.rounds
  (conv => whnf)
  refine ⟨rfl, by decide +kernel, ?_⟩
  (conv => whnf)
  refine ⟨rfl, .int v.up.length, rfl, ?_⟩
  (conv => whnf)
  refine ⟨(v, (t : Int), (v.up.length : Int)), rfl, ⟨by dsimp only; omega, by dsimp only; omega⟩, ?_⟩
  rintro _ rfl
  (conv => whnf)
  refine ⟨rfl, by decide +kernel, ?_⟩
  (conv => whnf)
  refine ⟨(v, t, x), rfl, ⟨ht, hx⟩, ?_⟩
  rintro _ rfl
  (conv => whnf)
  refine ⟨by unfold small; dsimp only; omega, by unfold small; omega, rfl, ?_⟩
  show wpFor _ _ _ (rngDn (t : Int) ((t : Int) - 0).toNat) _
  rw [show ((t : Int) - 0).toNat = t by omega]
  refine wpFor_rngDn _ t (fun i Γ => ∃ u, Γ = [.im (eView v), .im (.int t), .im (.int x), .im (.int (rootN v t x i)), u]) ?_ ?_ ⟨_, rfl⟩
  · rintro i Γ N hi ⟨u, rfl⟩ hN
    have hb := rootN_lt g ht hx i (by omega)
    have e1 : t - i = t - i - 1 + 1 := by omega
    rw [e1] at hb
    obtain ⟨l, n, hl, hn, e⟩ := node_get (v := v) (k := t - i - 1) (by omega) hb
    (conv => whnf)
    refine ⟨rfl, eV v, rfl, ?_⟩
    (conv => whnf)
    refine ⟨eNs l, at_dn hl (by omega), ?_⟩
    (conv => whnf)
    refine ⟨_, at_map hn, ?_⟩
    (conv => whnf)
    refine ⟨_, rfl, ?_⟩
    (conv => whnf)
    refine hN _ ⟨.im (.int ((t : Int) - (i : Int))), ?_⟩
    show [_, _, _, Sl.im (.int n.1), _] = [_, _, _, Sl.im (.int (par1 v (t - i - 1) (rootN v t x i))), _]
    rw [e] <;> rfl
  · rintro Γ ⟨u, rfl⟩
    have hb := root_lt g ht hx (Nat.zero_le t)
    have hb2 : rootN v t x t < v.st.length := hb
    (conv => whnf)
    refine ⟨rfl, eV v, rfl, ?_⟩
    (conv => whnf)
    refine ⟨_, at_0, ?_⟩
    (conv => whnf)
    refine ⟨_, at_map (List.getElem?_eq_getElem hb2), ?_⟩
    (conv => whnf)
    exact ⟨_, List.getElem?_eq_getElem hb2, rfl⟩
end LV
set_option Elab.async false
set_option linter.all false
set_option maxRecDepth 100000
set_option maxHeartbeats 4000000
set_option exponentiation.threshold 100000
/-! M6: counts; the judge. -/
namespace LV
open PySem PySem.Spec PyProof.Rows L2
/-! ### counts -/
def getC (cs : List Cn) (k : Int × Int) : Int := ((cs.find? fun c => decide (c.1 = k)).map (·.2)).getD 0
def putC (cs : List Cn) (k : Int × Int) (n : Int) : List Cn := if (cs.any fun c => decide (c.1 = k)) = true then cs.map (fun c => if c.1 = k then (c.1, n) else c) else cs ++ [(k, n)]
def eKv (c : Cn) : List Key × D := (kP c.1.1 c.1.2, .int c.2)
theorem kP_eq {a b c d : Int} : kP a b = kP c d ↔ (a, b) = (c, d) := by
  constructor
  · intro h
    have h1 := List.cons.inj h
    have h2 := List.cons.inj h1.2
    rw [Sum.inl.inj h1.1, Sum.inl.inj h2.1]
  · intro h
    cases h
    rfl
theorem key_dec (c : Cn) (k : Int × Int) : decide ((eKv c).1 = kP k.1 k.2) = decide (c.1 = k) := by
  by_cases h : c.1 = k
  · rw [decide_eq_true h]
    exact decide_eq_true (by rw [← h] <;> rfl)
  · rw [decide_eq_false h]
    exact decide_eq_false fun z => h (by have := kP_eq.mp z; exact this)
theorem valD_C (k : Int × Int) : ∀ cs : List Cn, (valD (cs.map eKv) (kP k.1 k.2)).getD (.int 0) = .int (getC cs k)
  | [] => rfl
  | c :: cs => by
    have ih := valD_C k cs
    by_cases h : c.1 = k
    · have h1 : (eKv c).1 = kP k.1 k.2 := by rw [← h] <;> rfl
      rw [List.map_cons, valD_pos h1]
      unfold getC
      rw [List.find?_cons_of_pos (by exact decide_eq_true h)] <;> rfl
    · have h1 : ¬ (eKv c).1 = kP k.1 k.2 := fun z => h (by have := kP_eq.mp z; exact this)
      rw [List.map_cons, valD_neg h1, ih]
      unfold getC
      rw [List.find?_cons_of_neg (by rw [decide_eq_false h]; exact Bool.false_ne_true)]
theorem putD_C (cs : List Cn) (k : Int × Int) (n : Int) : putD (cs.map eKv) (kP k.1 k.2) (.int n) = (putC cs k n).map eKv := by
  unfold putD putC
  have e : ((cs.map eKv).any fun kv => decide (kv.1 = kP k.1 k.2)) = cs.any fun c => decide (c.1 = k) := by
    rw [List.any_map]
    exact congrArg (cs.any ·) (funext fun c => key_dec c k)
  rw [e]
  by_cases h : (cs.any fun c => decide (c.1 = k)) = true
  · rw [if_pos h, if_pos h, List.map_map, List.map_map]
    refine List.map_congr_left fun c _ => ?_
    show (if (eKv c).1 = kP k.1 k.2 then ((eKv c).1, D.int n) else eKv c) = eKv (if c.1 = k then (c.1, n) else c)
    by_cases h2 : c.1 = k
    · rw [if_pos h2, if_pos (by rw [← h2] <;> rfl)] <;> rfl
    · rw [if_neg h2, if_neg fun z => h2 (by have := kP_eq.mp z; exact this)]
  · rw [if_neg h, if_neg h, List.map_append] <;> rfl
theorem putC_len (cs : List Cn) (k : Int × Int) (n : Int) : (putC cs k n).length ≤ cs.length + 1 := by
  unfold putC
  by_cases h : (cs.any fun c => decide (c.1 = k)) = true
  · rw [if_pos h, List.length_map]
    omega
  · rw [if_neg h, List.length_append]
    exact Nat.le_refl _
/-- the start behind node x of level s -/
def stOf (v : Vw) (s x : Nat) : Sta := (v.st[root v s x 0]?).getD (0, 0)
def skey (s : Sta) : Int × Int := ((s.1 : Int), (s.2 : Int))
def cntN (v : Vw) (s : Nat) (ns : List Int) : Nat → List Cn
  | 0 => []
  | i + 1 => putC (cntN v s ns i) (skey (stOf v s i)) (getC (cntN v s ns i) (skey (stOf v s i)) + nth ns i)
theorem cntN_len (v : Vw) (s : Nat) (ns : List Int) : ∀ i, (cntN v s ns i).length ≤ i
  | 0 => Nat.le_refl _
  | i + 1 => Nat.le_trans (putC_len _ _ _) (Nat.succ_le_succ (cntN_len v s ns i))
def counts (v : Vw) (s : Nat) (ns : List Int) : List Cn := (cntN v s ns ns.length).mergeSort cle
theorem st_get {v : Vw} (g : Good v) {s x : Nat} (hs : s ≤ v.up.length) (hx : x < sz v s) : v.st[root v s x 0]? = some (stOf v s x) := by
  have h := root_lt g hs hx (Nat.zero_le s)
  have h2 : root v s x 0 < v.st.length := h
  unfold stOf
  rw [List.getElem?_eq_getElem h2] <;> rfl

/-! ### the judge -/
/-- what the lit nodes add up to -/
def lit (v : Vw) (s : Nat) (ns : List Int) : Int := (((List.range ns.length).filter fun x => decide ((stOf v s x).1 = 1)).map (nth ns)).sum
open Classical in
noncomputable def lvlF (v : Vw) (s : Nat) (ns : List Int) : Option Str :=
  if ns.length ≠ sz v s ∨ ∃ n ∈ ns, n < 1 then some ("numbers" : Str)
  else if h : ∃ ks, Only (v.up[s]?.getD []) (sz v s) ks then
    if ¬ Hangs (tbl (v.up[s]?.getD []) h.choose) then some ("apart" : Str)
    else if ¬ Bal (tbl (v.up[s]?.getD []) h.choose) ns then some ("balance" : Str)
    else if lit v s ns ≠ 1 then some ("lamp" : Str)
    else none
  else some ("children" : Str)
theorem lvlF_1 {v : Vw} {s : Nat} {ns : List Int} (h : ns.length ≠ sz v s ∨ ∃ n ∈ ns, n < 1) : lvlF v s ns = some ("numbers" : Str) := by
  unfold lvlF
  rw [if_pos h]
theorem lvlF_2 {v : Vw} {s : Nat} {ns : List Int} {l : List Node} (hl : v.up[s]? = some l) (h : ¬ (ns.length ≠ sz v s ∨ ∃ n ∈ ns, n < 1)) (h2 : ¬ ∃ ks, Only l (sz v s) ks) : lvlF v s ns = some ("children" : Str) := by
  unfold lvlF
  rw [if_neg h, dif_neg (by rw [hl]; exact h2)]
theorem lvlF_3 {v : Vw} {s : Nat} {ns : List Int} {l : List Node} {ks : List Nat} (hl : v.up[s]? = some l) (h : ¬ (ns.length ≠ sz v s ∨ ∃ n ∈ ns, n < 1)) (h2 : Only l (sz v s) ks) :
    (¬ Hangs (tbl l ks) → lvlF v s ns = some ("apart" : Str)) ∧ (Hangs (tbl l ks) → (¬ Bal (tbl l ks) ns → lvlF v s ns = some ("balance" : Str)) ∧ (Bal (tbl l ks) ns → (lit v s ns ≠ 1 → lvlF v s ns = some ("lamp" : Str)) ∧ (lit v s ns = 1 → lvlF v s ns = none))) := by
  have hl' : v.up[s]?.getD [] = l := by rw [hl] <;> rfl
  have hx : ∃ ks, Only (v.up[s]?.getD []) (sz v s) ks := ⟨ks, by rw [hl']; exact h2⟩
  have e : hx.choose = ks := by
    have key : ∀ l', l' = l → ∀ k', Only l' (sz v s) k' → k' = ks := by
      rintro _ rfl k' h
      exact h.uniq h2
    exact key _ hl' _ hx.choose_spec
  have et : tbl (v.up[s]?.getD []) hx.choose = tbl l ks := by
    rw [e]
    exact congrArg (fun z => tbl z ks) hl'
  unfold lvlF
  rw [if_neg h, dif_pos hx, et]
  refine ⟨fun a => if_pos a, fun a => ?_⟩
  rw [if_neg (fun z => z a)]
  refine ⟨fun b => if_pos b, fun b => ?_⟩
  rw [if_neg (fun z => z b)]
  exact ⟨fun c => if_pos c, fun c => if_neg fun z => z c⟩
/-- a paper -/
structure Pap where
  fd : Int
  pl : List Int
  rw : List (List Int)
  ho : Int
  cn : List Cn
def eTi (ns : List Int) : D := .tup (ns.map .int)
def ePa5 (p : Pap) : List D := [.int p.fd, eTi p.pl, .tup (p.rw.map eTi), .int p.ho, .tup (p.cn.map eC)]
def ePap (p : Pap) : D := .obj "ShortPaper" ["found", "levels", "numbers", "houses", "counts", "told"] (ePa5 p ++ [.tup (ePa5 p)])
/-- the levels are right -/
structure LvOk (p : Pap) : Prop where
  ne : p.pl ≠ []
  len : p.pl.length = p.rw.length
  lo : 0 ≤ nth p.pl 0
  hi : nth p.pl (p.pl.length - 1) < p.fd
  up : ∀ k, k + 1 < p.pl.length → nth p.pl k < nth p.pl (k + 1)
theorem LvOk.mono {p : Pap} (h : LvOk p) : ∀ (d k : Nat), k + d < p.pl.length → nth p.pl k + d ≤ nth p.pl (k + d)
  | 0, k, _ => by simp
  | d + 1, k, hk => by
    have a := h.mono d k (by omega)
    have b := h.up (k + d) (by omega)
    rw [show k + (d + 1) = k + d + 1 by omega]
    omega
theorem LvOk.rng {p : Pap} (h : LvOk p) {k : Nat} (hk : k < p.pl.length) : 0 ≤ nth p.pl k ∧ nth p.pl k < p.fd := by
  have a := h.mono k 0 (by omega)
  have b := h.mono (p.pl.length - 1 - k) k (by omega)
  rw [show k + (p.pl.length - 1 - k) = p.pl.length - 1 by omega] at b
  rw [Nat.zero_add] at a
  have := h.lo
  have := h.hi
  omega
def rowAt (p : Pap) (k : Nat) : List Int := (p.rw[k]?).getD []
def lvAt (p : Pap) (k : Nat) : Nat := (nth p.pl k).toNat
open Classical in
/-- what is wrong at place k -/
noncomputable def fltAt (w : Vw) (p : Pap) (k : Nat) : Option Str :=
  match lvlF w (lvAt p k) (rowAt p k) with
  | some x => some x
  | none => if 0 < k ∧ ¬ sumsL w (lvAt p k) (rowAt p k) (lvAt p k - lvAt p (k - 1)) = rowAt p (k - 1) then some ("agree" : Str) else none
abbrev Fl := Str × Option Nat
noncomputable def fltGo (w : Vw) (p : Pap) : Nat → Nat → Option Fl
  | _, 0 => none
  | k, n + 1 => match fltAt w p k with
    | some x => some (x, some (lvAt p k))
    | none => fltGo w p (k + 1) n
open Classical in
noncomputable def judge (w : Vw) (p : Pap) : Option Fl :=
  if ¬ LvOk p then some (("levels" : Str), none)
  else match fltGo w p 0 p.pl.length with
    | some f => some f
    | none => if (rowAt p 0).sum ≠ p.ho then some (("houses" : Str), none) else if (p.pl.length : Int) < p.ho then some (("few" : Str), none) else if p.cn ≠ counts w (lvAt p 0) (rowAt p 0) then some (("counts" : Str), none) else none
def eLvl : Option Nat → D
  | none => .non
  | some k => .int k
def eFlt : Option Fl → D
  | none => .non
  | some f => .obj "ShortFault" ["what", "level"] [.str f.1, eLvl f.2]
def eDue : Option Fl → D
  | none => .non
  | some f => .tup [.str f.1, eLvl f.2]
theorem fltGo_step {w : Vw} {p : Pap} {k n : Nat} (h : fltAt w p k = none) : fltGo w p k (n + 1) = fltGo w p (k + 1) n := by
  show (match fltAt w p k with | some x => _ | none => _) = _
  rw [h]
theorem fltGo_hit {w : Vw} {p : Pap} {k n : Nat} {x : Str} (h : fltAt w p k = some x) : fltGo w p k (n + 1) = some (x, some (lvAt p k)) := by
  show (match fltAt w p k with | some x => _ | none => _) = _
  rw [h]
end LV
set_option Elab.async false
set_option linter.all false
set_option maxRecDepth 100000
set_option maxHeartbeats 4000000
namespace LV
open PySem PySem.Spec PyProof.Rows L2
def c_numbers_agree : Ct := ⟨5, Vw × Nat × List Int × Nat × List Int, fun g => [eView g.1, .int g.2.1, eTi g.2.2.1, .int g.2.2.2.1, eTi g.2.2.2.2], fun g => Good g.1 ∧ g.2.1 ≤ g.2.2.2.1 ∧ g.2.2.2.1 ≤ g.1.up.length ∧ g.2.2.2.2.length = sz g.1 g.2.2.2.1, fun g d => ∃ b, d = .bl b ∧ (b = true ↔ sumsL g.1 g.2.2.2.1 g.2.2.2.2 (g.2.2.2.1 - g.2.1) = g.2.2.1), fun _ => rfl⟩
theorem pl_ints (ns : List Int) : pl 40 (.lst (ns.map D.int)) := fun d hd => by
  obtain ⟨o, _, rfl⟩ := List.mem_map.mp hd
  trivial
theorem eL_inj {a b : List Int} (h : D.lst (a.map D.int) = D.lst (b.map D.int)) : a = b := (List.map_inj_right (fun x y e => D.int.inj e)).mp (D.lst.inj h)
theorem at_int {ns : List Int} {v : Nat} (h : v < ns.length) : atI (ns.map D.int) (v : Int) = some (.int (nth ns v)) := at_map (nth_eq h)
theorem nth_set_lt {ns : List Int} {v : Nat} (h : v < ns.length) : ixN (ns.map D.int).length (v : Int) = some v := ixN_cast (by rw [List.length_map]; exact h)
theorem f_numbers_agree {P : Program} {w : World} {K : PySem.W.Frag} {mg : Str → Option Value} {base : Heap} (W : Wd K mg) : Fn P w K mg base 3 "numbers_agree" c_numbers_agree := by
  refine W.fn 13 (d := HH.d_numbers_agree) rfl rfl 12 rfl ["view", "level", "numbers", "later", "others"] rfl rfl (fun _ _ _ _ _ _ us h => by match us, h with | [a0, a1, a2, a3, a4], _ => rfl) fun f fd F => ?_
  have S : FnScope ["view", "level", "numbers", "later", "others", "sums", "above", "below", "number", "parent", "_"] ["view", "level", "numbers", "later", "others"] HH.d_numbers_agree.scope := C8.fnScope_by (by decide +kernel)
  have B := W.gb
  have G_check_level_stilllevels := f_check_level_stilllevels (P := P) (w := w) (base := base) W
  refine fn_ok (N := ["view", "level", "numbers", "later", "others", "sums", "above", "below", "number", "parent", "_"]) (k := 2) F S rfl (fun cdv A outer s H E hr => ⟨_, (vb_cons (vs_expr (v_call G_check_level_stilllevels hr (va_cons (vv 1) (va_cons v_int (va_cons (v_fld (vv 0) B.cView B.aV2) va_nil)))))
 (vb_cons (vs_expr (v_call G_check_level_stilllevels hr (va_cons (vv 3) (va_cons (vv 1) (va_cons (v_fld (vv 0) B.cView B.aV2) va_nil)))))
 (vb_cons (vs_set (i := 5) S.nd (ve_of (vl_list B.list (vv 4))))
 (vb_cons (vs_for PassesOwn.never rfl (vi_rng3 B.range (va_cons (vv 3) (va_cons (vv 1) (va_cons (v_neg v_int) va_nil)))) (vg_name 6 S.nd)
 (vb_cons (vs_own (i := 7) S.nd (vl_rep v_int (v_len B.len (v_ix (v_fld (vv 0) B.cView B.aV1) (v_sub (vv 6) v_int)))))
 (vb_cons (vs_for PassesOwn.never rfl (vi_enumT B.enumerate (v_ix (v_fld (vv 0) B.cView B.aV1) (vv 6))) (vg_tup (n := 2) rfl (vgs_cons (vg_name 8 S.nd) (vgs_cons (vg_tup (n := 2) rfl (vgs_cons (vg_name 9 S.nd) (vgs_cons (vg_name 10 S.nd) vgs_nil))) vgs_nil)))
 (vb_one (vs_setIx 7 (vv 9) (v_add (v_ixO 7 (vv 9)) (v_ix (vv 5) (vv 8))))))
 (vb_frz 7 (vb_one (vs_set (i := 5) S.nd (vv 7)))))))
 (vb_one (vs_ret (VCp.ve (v_eq hr (vv 5) (ve_of (vl_list B.list (vv 2)))))))))))⟩) ?_
  rintro ⟨v, s, ns, t, os⟩ ⟨g, hst, ht, ho⟩
  dsimp only at g hst ht ho
  have hr := g.rounds
  (conv => whnf)
  refine ⟨rfl, .int v.up.length, rfl, ?_⟩
  (conv => whnf)
  refine ⟨((s : Int), 0, (v.up.length : Int)), rfl, ⟨by dsimp only; omega, by dsimp only; omega⟩, ?_⟩
  rintro _ rfl
  (conv => whnf)
  refine ⟨rfl, .int v.up.length, rfl, ?_⟩
  (conv => whnf)
  refine ⟨((t : Int), (s : Int), (v.up.length : Int)), rfl, ⟨by dsimp only; omega, by dsimp only; omega⟩, ?_⟩
  rintro _ rfl
  (conv => whnf)
  refine ⟨by unfold small; dsimp only; omega, by unfold small; dsimp only; omega, rfl, ?_⟩
  show wpFor _ _ _ (rngDn (t : Int) ((t : Int) - (s : Int)).toNat) _
  rw [show ((t : Int) - (s : Int)).toNat = t - s by omega]
  refine wpFor_rngDn _ (t - s) (fun i Γ => ∃ a b c d e, Γ = [.im (eView v), .im (.int s), .im (eTi ns), .im (.int t), .im (eTi os), .im (eL (sumsL v t os i)), a, b, c, d, e]) ?_ ?_ ⟨_, _, _, _, _, by rw [sumsL_zero ho] <;> rfl⟩
  · rintro i Γ N hi ⟨a, b, c, d, e, rfl⟩ hN
    have hlt : t - i - 1 < v.up.length := by omega
    obtain ⟨l, hl⟩ := up_get hlt
    have gl := g.ups _ l hl
    obtain ⟨xs, hx, hxl⟩ := lvs_any (v := v) (k := t - i - 1) (by omega)
    have hszi : sz v (t - i) = l.length := by
      rw [show t - i = t - i - 1 + 1 by omega, sz_up hl]
    have hz := g.szb (k := t - i - 1) (by omega)
    (conv => whnf)
    refine ⟨rfl, eV v, rfl, ?_⟩
    (conv => whnf)
    refine ⟨.tup xs, ?_, ?_⟩
    · show atI (lvs v) ((t : Int) - (i : Int) - 1) = _
      rw [show (t : Int) - (i : Int) - 1 = ((t - i - 1 : Nat) : Int) by omega]
      exact at_of hx
    (conv => whnf)
    refine ⟨by unfold small; rw [hxl]; omega, by rw [hxl]; omega, ?_⟩
    (conv => whnf)
    refine ⟨rfl, eV v, rfl, ?_⟩
    (conv => whnf)
    refine ⟨eNs l, at_dn hl (by omega), ?_⟩
    show wpFor _ _ _ (enumD (l.map eN)) _
    have e0 : List.replicate ((xs.length : Int)).toNat (D.int 0) = ((List.range (sz v (t - i - 1))).map (sumIf 0 (par1 v (t - i - 1)) (nth (sumsL v t os i)))).map D.int := by
      rw [List.map_map, hxl]
      show List.replicate (sz v (t - i - 1)) (D.int 0) = (List.range (sz v (t - i - 1))).map fun _ => D.int 0
      rw [List.map_const', List.length_range]
    rw [e0]
    refine wpFor_enum eN l (fun j Γ => ∃ c d e, Γ = [.im (eView v), .im (.int s), .im (eTi ns), .im (.int t), .im (eTi os), .im (eL (sumsL v t os i)), .im (.int ((t : Int) - (i : Int))), .ow (((List.range (sz v (t - i - 1))).map (sumIf j (par1 v (t - i - 1)) (nth (sumsL v t os i)))).map D.int), c, d, e]) ?_ ?_ ⟨_, _, _, rfl⟩
    · rintro j ⟨n1, n2⟩ Γ N2 hn ⟨c, d, e, rfl⟩ hN2
      have hjl : j < l.length := (List.getElem?_eq_some_iff.mp hn).1
      have hp : par1 v (t - i - 1) j = n1 := by
        unfold par1
        rw [hl]
        show ((l[j]?).map (·.1)).getD 0 = n1
        rw [hn] <;> rfl
      have hn1 : n1 < sz v (t - i - 1) := gl.par _ (List.mem_of_getElem? hn)
      have hn2 : n1 < ((List.range (sz v (t - i - 1))).map (sumIf j (par1 v (t - i - 1)) (nth (sumsL v t os i)))).length := by
        rw [List.length_map, List.length_range]
        exact hn1
      (conv => whnf)
      refine ⟨rfl, ?_⟩
      (conv => whnf)
      refine ⟨rfl, ?_⟩
      (conv => whnf)
      refine ⟨_, at_int hn2, ?_⟩
      (conv => whnf)
      refine ⟨_, at_int (show j < (sumsL v t os i).length by rw [sumsL_len]; omega), ?_⟩
      (conv => whnf)
      refine ⟨n1, nth_set_lt hn2, ?_⟩
      (conv => whnf)
      refine hN2 _ ⟨.im (.int j), .im (.int n1), .im (eHs n2), ?_⟩
      have e3 := add_at (n := j) (f := nth (sumsL v t os i)) (g := par1 v (t - i - 1)) (m := sz v (t - i - 1)) rfl (by rw [hp]; exact hn1)
      rw [hp] at e3
      show [_, _, _, _, _, _, _, Sl.ow ((((List.range (sz v (t - i - 1))).map (sumIf j (par1 v (t - i - 1)) (nth (sumsL v t os i)))).map D.int).set n1 (D.int _)), _, _, _] = _
      rw [set_map, e3] <;> rfl
    · rintro Γ ⟨c, d, e, rfl⟩
      (conv => whnf)
      exact hN _ ⟨_, _, _, _, _, by rw [sumsL_succ g ht (by omega), hszi] <;> rfl⟩
  · rintro Γ ⟨a, b, c, d, e, rfl⟩
    (conv => whnf)
    refine ⟨pl_ints _, pl_ints _, fun h => ?_, fun h => ?_⟩
    · (conv => whnf)
      exact ⟨true, rfl, ⟨fun _ => eL_inj h, fun _ => rfl⟩⟩
    · (conv => whnf)
      exact ⟨false, rfl, ⟨fun z => Bool.noConfusion z, fun z => absurd (congrArg (fun q : List Int => D.lst (q.map D.int)) z) h⟩⟩
def c_counts_at : Ct := ⟨3, Vw × Nat × List Int, fun g => [eView g.1, .int g.2.1, eTi g.2.2], fun g => Good g.1 ∧ g.2.1 ≤ g.1.up.length ∧ g.2.2.length = sz g.1 g.2.1, fun g d => d = .tup ((counts g.1 g.2.1 g.2.2).map eC), fun _ => rfl⟩
theorem eKv_map (cs : List Cn) : cs.map eKv = cs.map fun c => (kP c.1.1 c.1.2, D.int c.2) := rfl
theorem dtOf_ot (kvs : List (List Key × D)) : dtOf (.ot kvs) = some kvs := rfl
theorem f_counts_at {P : Program} {w : World} {K : PySem.W.Frag} {mg : Str → Option Value} {base : Heap} (W : Wd K mg) : Fn P w K mg base 4 "counts_at" c_counts_at := by
  refine W.fn 12 (d := HH.d_counts_at) rfl rfl 11 rfl ["view", "level", "numbers"] rfl rfl (fun _ _ _ _ _ _ us h => by match us, h with | [a0, a1, a2], _ => rfl) fun f fd F => ?_
  have S : FnScope ["view", "level", "numbers", "sums", "node", "number", "start"] ["view", "level", "numbers"] HH.d_counts_at.scope := C8.fnScope_by (by decide +kernel)
  have B := W.gb
  have G_check_level_stilllevels := f_check_level_stilllevels (P := P) (w := w) (base := base) W
  have G_View_start_of := f_View_start_of (P := P) (w := w) (base := base) W
  refine fn_ok (N := ["view", "level", "numbers", "sums", "node", "number", "start"]) (k := 3) F S rfl (fun cdv A outer s H E hr => ⟨_, (vb_cons (vs_expr (v_call G_check_level_stilllevels hr (va_cons (vv 1) (va_cons v_int (va_cons (v_fld (vv 0) B.cView B.aV2) va_nil)))))
 (vb_cons (vs_dictT (i := 3) S.nd)
 (vb_cons (vs_for PassesOwn.never rfl (vi_enumT B.enumerate (vv 2)) (vg_tup (n := 2) rfl (vgs_cons (vg_name 4 S.nd) (vgs_cons (vg_name 5 S.nd) vgs_nil)))
 (vb_cons (vs_set (i := 6) S.nd (v_meth G_View_start_of hr (vv 0) (va_cons (vv 1) (va_cons (vv 4) va_nil))))
 (vb_one (vs_dputT hr 3 (vv 6) (v_add (v_dgetT hr 3 (vv 6) v_int) (vv 5))))))
 (vb_one (vs_ret (v_tuple B.tuple (ve_of (vl_sortedItems hr rfl B.sorted 3))))))))⟩) ?_
  rintro ⟨v, s, ns⟩ ⟨g, hs, hl⟩
  dsimp only at g hs hl
  have hr := g.rounds
  have hz := g.szb hs
  (conv => whnf)
  refine ⟨rfl, .int v.up.length, rfl, ?_⟩
  (conv => whnf)
  refine ⟨((s : Int), 0, (v.up.length : Int)), rfl, ⟨by dsimp only; omega, by dsimp only; omega⟩, ?_⟩
  rintro _ rfl
  (conv => whnf)
  refine wpFor_enum D.int ns (fun i Γ => ∃ a b c, Γ = [.im (eView v), .im (.int s), .im (eTi ns), .ot ((cntN v s ns i).map eKv), a, b, c]) ?_ ?_ ⟨_, _, _, rfl⟩
  · rintro i n Γ N hn ⟨a, b, c, rfl⟩ hN
    have hil : i < ns.length := (List.getElem?_eq_some_iff.mp hn).1
    have hn' : n = nth ns i := by
      rw [nth_eq hil] at hn
      exact (Option.some.inj hn).symm
    have hst := st_get g hs (show i < sz v s by omega)
    (conv => whnf)
    refine ⟨rfl, ?_⟩
    (conv => whnf)
    refine ⟨rfl, by decide +kernel, ?_⟩
    (conv => whnf)
    refine ⟨(v, s, i), rfl, ⟨g, hs, by dsimp only; omega⟩, ?_⟩
    rintro _ ⟨st, hst', rfl⟩
    dsimp only at hst'
    rw [hst] at hst'
    cases hst'
    (conv => whnf)
    refine ⟨⟨_, rfl⟩, ?_⟩
    (conv => whnf)
    refine ⟨⟨_, _, rfl, rfl⟩, ?_⟩
    (conv => whnf)
    refine ⟨_, _, rfl, rfl, ?_⟩
    have e1 : (valD ((cntN v s ns i).map eKv) (kP ((stOf v s i).1 : Int) ((stOf v s i).2 : Int))).getD (.int 0) = .int (getC (cntN v s ns i) (skey (stOf v s i))) := valD_C (skey (stOf v s i)) (cntN v s ns i)
    rw [e1]
    (conv => whnf)
    refine ⟨_, rfl, ?_, ?_⟩
    · rw [List.length_map]
      have := cntN_len v s ns i
      omega
    (conv => whnf)
    refine hN _ ⟨.im (.int i), .im (.int n), .im (eS (stOf v s i)), ?_⟩
    have e2 : putD ((cntN v s ns i).map eKv) (kP ((stOf v s i).1 : Int) ((stOf v s i).2 : Int)) (.int (getC (cntN v s ns i) (skey (stOf v s i)) + n)) = (putC (cntN v s ns i) (skey (stOf v s i)) (getC (cntN v s ns i) (skey (stOf v s i)) + n)).map eKv := putD_C _ (skey (stOf v s i)) _
    show [_, _, _, Sl.ot (putD ((cntN v s ns i).map eKv) (kP ((stOf v s i).1 : Int) ((stOf v s i).2 : Int)) (.int (getC (cntN v s ns i) (skey (stOf v s i)) + n))), _, _, _] = _
    rw [e2, hn'] <;> rfl
  · rintro Γ ⟨a, b, c, rfl⟩
    (conv => whnf)
    refine ⟨cntN v s ns ns.length, rfl, ?_, ?_⟩
    · have := cntN_len v s ns ns.length
      omega
    (conv => whnf)
    rfl
end LV
set_option Elab.async false
set_option linter.all false
set_option maxRecDepth 100000
set_option maxHeartbeats 4000000
namespace LV
open PySem PySem.Spec PyProof.Rows L2
def eOS : Option Str → D
  | none => .non
  | some x => .str x
theorem enum_ints (ns : List Int) : enumD (ns.map D.int) = (List.range ns.length).map fun i : Nat => D.tup [.int (i : Nat), .int (nth ns i)] := by
  refine List.ext_getElem? fun i => ?_
  by_cases h : i < ns.length
  · rw [enumD_at (x := .int (nth ns i)) (by rw [List.getElem?_map, nth_eq h] <;> rfl), List.getElem?_map, List.getElem?_range h] <;> rfl
  · rw [List.getElem?_eq_none (by rw [enumD_len, List.length_map]; omega), List.getElem?_eq_none (by rw [List.length_map, List.length_range]; omega)]
theorem bl_map {α : Type} (xs : List α) (p : α → Bool) : (xs.map fun x => D.bl (p x)) = (xs.map p).map D.bl := by rw [List.map_map] <;> rfl
theorem int_map {α : Type} (xs : List α) (p : α → Int) : (xs.map fun x => D.int (p x)) = (xs.map p).map D.int := by rw [List.map_map] <;> rfl
def c_level_fault : Ct := ⟨3, Vw × Nat × List Int, fun g => [eView g.1, .int g.2.1, eTi g.2.2], fun g => Good g.1 ∧ g.2.1 < g.1.up.length ∧ ∀ n ∈ g.2.2, n.natAbs < 2 ^ 7600, fun g d => d = eOS (lvlF g.1 g.2.1 g.2.2), fun _ => rfl⟩
theorem f_level_fault {P : Program} {w : World} {K : PySem.W.Frag} {mg : Str → Option Value} {base : Heap} (W : Wd K mg) : Fn P w K mg base 4 "level_fault" c_level_fault := by
  refine W.fn 30 (d := HH.d_level_fault) rfl rfl 20 rfl ["view", "level", "numbers"] rfl rfl (fun _ _ _ _ _ _ us h => by match us, h with | [a0, a1, a2], _ => rfl) fun f fd F => ?_
  have S : FnScope ["view", "level", "numbers", "number", "table", "node"] ["view", "level", "numbers"] HH.d_level_fault.scope := C8.fnScope_by (by decide +kernel)
  have B := W.gb
  have G_only_children := f_only_children (P := P) (w := w) (base := base) W
  have G_heard_table := f_heard_table (P := P) (w := w) (base := base) W
  have G_hangs_together := f_hangs_together (P := P) (w := w) (base := base) W
  have G_is_balanced := f_is_balanced (P := P) (w := w) (base := base) W
  have G_View_start_of := f_View_start_of (P := P) (w := w) (base := base) W
  refine fn_ok (N := ["view", "level", "numbers", "number", "table", "node"]) (k := 3) F S rfl (fun cdv A outer s H E hr => ⟨_, (vb_cons (vs_if (vt_of (vw_or (vt_cmp (v_neI (v_len B.len (vv 2)) (v_len B.len (v_ix (v_fld (vv 0) B.cView B.aV1) (vv 1))))) (vw_or1 (vt_val (v_any rfl B.any (ve_of (vl_lc (own := [("number", 3)]) rfl S.nd (VI.own (vi_tup (vv 2))) (by rfl) (fun _ _ _ _ _ => (vg_name 3 S.nd)) (fun _ _ _ _ _ => vq_nil) (fun _ _ _ _ _ => (VCp.ve (v_lt (vv 3) v_int))))))))))
 (vb_one (vs_ret v_str))
 vb_nil)
 (vb_cons (vs_if (vt_cmp (v_is (v_call G_only_children hr (va_cons (vv 0) (va_cons (vv 1) va_nil))) v_non))
 (vb_one (vs_ret v_str))
 vb_nil)
 (vb_cons (vs_set (i := 4) S.nd (v_call G_heard_table hr (va_cons (vv 0) (va_cons (vv 1) va_nil))))
 (vb_cons (vs_if (vt_not (vt_val (v_call G_hangs_together hr (va_cons (vv 4) va_nil))))
 (vb_one (vs_ret v_str))
 vb_nil)
 (vb_cons (vs_if (vt_not (vt_val (v_call G_is_balanced hr (va_cons (vv 4) (va_cons (ve_of (vl_lc (own := [("number", 3)]) rfl S.nd (VI.own (vi_tup (vv 2))) (by rfl) (fun _ _ _ _ _ => (vg_name 3 S.nd)) (fun _ _ _ _ _ => vq_nil) (fun _ _ _ _ _ => (v_tup (va_cons (vv 3) (va_cons v_int va_nil)))))) va_nil)))))
 (vb_one (vs_ret v_str))
 vb_nil)
 (vb_cons (vs_if (vt_cmp (v_neI (v_sum rfl B.sum (ve_of (vl_lc (own := [("node", 5), ("number", 3)]) rfl S.nd (VI.own (vi_enumT B.enumerate (vv 2))) (by rfl) (fun _ _ _ _ _ => (vg_tup (n := 2) rfl (vgs_cons (vg_name 5 S.nd) (vgs_cons (vg_name 3 S.nd) vgs_nil)))) (fun _ _ _ _ _ => (vq_one (vt_cmp (v_eqI (v_ix (v_meth G_View_start_of hr (vv 0) (va_cons (vv 1) (va_cons (vv 5) va_nil))) v_int) v_int)))) (fun _ _ _ _ _ => (vv 3))))) v_int))
 (vb_one (vs_ret v_str))
 vb_nil)
 (vb_one (vs_ret v_non))))))))⟩) ?_
  rintro ⟨v, s, ns⟩ ⟨g, hs, hb⟩
  dsimp only at g hs hb
  have hr := g.rounds
  have hz := g.szb (k := s) (by omega)
  obtain ⟨l, hl⟩ := up_get hs
  have gl := g.ups _ l hl
  obtain ⟨xs, hx, hxl⟩ := lvs_any (v := v) (k := s) (by omega)
  (conv => whnf)
  refine ⟨rfl, eV v, rfl, ?_⟩
  (conv => whnf)
  refine ⟨.tup xs, at_of hx, ?_⟩
  (conv => whnf)
  refine ⟨fun h1 => ?_, fun h1 => ?_⟩
  · have h1' : ns.length ≠ sz v s := fun z => h1 (by rw [List.length_map, hxl, z])
    (conv => whnf)
    exact congrArg eOS (lvlF_1 (.inl h1')).symm
  have h1' : ns.length = sz v s := by
    have h1 := Classical.not_not.mp h1
    rw [List.length_map, hxl] at h1
    exact Int.ofNat_inj.mp h1
  (conv => whnf)
  show wpLc _ _ _ _ _ (ns.map D.int) []
  refine wpLc_map D.int (fun n => .bl (decide (n < 1))) ns (by omega) (fun n _ N M hN => ?_) ?_
  · (conv => whnf)
    refine ⟨fun h => ?_, fun h => ?_⟩
    · rw [decide_eq_true h] at hN
      exact hN
    · rw [decide_eq_false h] at hN
      exact hN
  (conv => whnf)
  refine ⟨ns.map fun n => decide (n < 1), bl_map ns _, fun h2 => ?_, fun h2 => ?_⟩
  · obtain ⟨n, hn, h3⟩ := List.mem_map.mp h2
    (conv => whnf)
    exact congrArg eOS (lvlF_1 (.inr ⟨n, hn, of_decide_eq_true h3⟩)).symm
  have hbad : ¬ (ns.length ≠ sz v s ∨ ∃ n ∈ ns, n < 1) := by
    rintro (z | ⟨n, hn, z⟩)
    · exact z h1'
    · exact h2 (List.mem_map.mpr ⟨n, hn, decide_eq_true z⟩)
  (conv => whnf)
  refine ⟨(v, s), rfl, ⟨g, hs⟩, ?_⟩
  rintro _ ⟨l', hl', hd⟩
  dsimp only at hl' hd
  rw [hl] at hl'
  cases hl'
  rcases hd with ⟨ks, ho, rfl⟩ | ⟨hno, rfl⟩
  rotate_left
  · (conv => whnf)
    exact congrArg eOS (lvlF_2 hl hbad hno).symm
  have hks : ks.length = sz v s := ho.len
  have sq : Sq (tbl l ks) := tbl_sq (by omega) (by omega) fun n hn h hh => (gl.near n hn h hh).2
  obtain ⟨lf1, lf2⟩ := lvlF_3 hl hbad ho
  (conv => whnf)
  refine ⟨(v, s, l, ks), rfl, ⟨g, hl, ho⟩, ?_⟩
  rintro _ rfl
  (conv => whnf)
  refine ⟨tbl l ks, rfl, sq, ?_⟩
  rintro _ ⟨b, rfl, hb1⟩
  cases b with
  | false =>
    (conv => whnf)
    exact congrArg eOS (lf1 fun z => Bool.noConfusion (hb1.mpr z)).symm
  | true =>
    obtain ⟨lf3, lf4⟩ := lf2 (hb1.mp rfl)
    (conv => whnf)
    show wpLc _ _ _ _ _ (ns.map D.int) []
    refine wpLc_map D.int (fun n => eA (n, 1)) ns (by omega) (fun n _ N M hN => hN) ?_
    (conv => whnf)
    refine ⟨(tbl l ks, ns), rfl, ⟨sq, by rw [tbl_len]; exact hks.trans h1'.symm, hb⟩, ?_⟩
    rintro _ ⟨b, rfl, hb2⟩
    cases b with
    | false =>
      (conv => whnf)
      exact congrArg eOS (lf3 fun z => Bool.noConfusion (hb2.mpr z)).symm
    | true =>
      obtain ⟨lf5, lf6⟩ := lf4 (hb2.mp rfl)
      (conv => whnf)
      show wpLc _ _ _ _ _ (enumD (ns.map D.int)) []
      rw [enum_ints]
      refine wpLc_filter _ (fun i => decide ((stOf v s i).1 = 1)) (fun i => D.int (nth ns i)) (List.range ns.length) (by rw [List.length_range]; omega) (fun i hi N M hN hM => ?_) ?_
      · have hi' : i < ns.length := List.mem_range.mp hi
        (conv => whnf)
        refine ⟨rfl, ?_⟩
        (conv => whnf)
        refine ⟨rfl, by decide +kernel, ?_⟩
        (conv => whnf)
        refine ⟨(v, s, i), rfl, ⟨g, Nat.le_of_lt hs, by dsimp only; omega⟩, ?_⟩
        rintro _ ⟨st, hst', rfl⟩
        dsimp only at hst'
        rw [st_get g (Nat.le_of_lt hs) (by omega)] at hst'
        cases hst'
        (conv => whnf)
        refine ⟨_, rfl, ?_⟩
        (conv => whnf)
        refine ⟨fun h => ?_, fun h => ?_⟩
        · (conv => whnf)
          exact hN (decide_eq_true (by omega))
        · (conv => whnf)
          exact hM (decide_eq_false (by omega))
      (conv => whnf)
      refine ⟨_, int_map _ _, ?_⟩
      (conv => whnf)
      refine ⟨fun h => ?_, fun h => ?_⟩
      · (conv => whnf)
        exact congrArg eOS (lf5 h).symm
      · (conv => whnf)
        exact congrArg eOS (lf6 (Classical.not_not.mp h)).symm
def c_levels_are_right : Ct := ⟨1, Pap, fun g => [ePap g], fun g => g.pl.length ≤ 100 ∧ g.rw.length ≤ 100, fun g d => ∃ b, d = .bl b ∧ (b = true ↔ LvOk g), fun _ => rfl⟩
theorem at_last {ns : List Int} (h : ns ≠ []) : atI (ns.map D.int) (-1) = some (.int (nth ns (ns.length - 1))) := by
  have hl : 0 < ns.length := List.length_pos_iff.mpr h
  unfold atI ixN
  rw [List.length_map, if_neg (by omega), if_pos (by omega)]
  show (ns.map D.int)[((ns.length : Int) + -1).toNat]? = _
  rw [show ((ns.length : Int) + -1).toNat = ns.length - 1 by omega, List.getElem?_map, nth_eq (by omega)] <;> rfl
theorem f_levels_are_right {P : Program} {w : World} {K : PySem.W.Frag} {mg : Str → Option Value} {base : Heap} (W : Wd K mg) : Fn P w K mg base 1 "levels_are_right" c_levels_are_right := by
  refine W.fn 31 (d := HH.d_levels_are_right) rfl rfl 21 rfl ["paper"] rfl rfl (fun _ _ _ _ _ _ us h => by match us, h with | [a0], _ => rfl) fun f fd F => ?_
  have S : FnScope ["paper", "levels", "place"] ["paper"] HH.d_levels_are_right.scope := C8.fnScope_by (by decide +kernel)
  have B := W.gb
  refine fn_ok (N := ["paper", "levels", "place"]) (k := 0) F S rfl (fun cdv A outer s H E hr => ⟨_, (vb_cons (vs_set (i := 1) S.nd (v_fld (vv 0) B.cPaper B.aP2))
 (vb_cons (vs_if (vt_of (vw_or (vt_not (vt_tru (vv 1))) (vw_or1 (vt_cmp (v_neI (v_len B.len (vv 1)) (v_len B.len (v_fld (vv 0) B.cPaper B.aP3)))))))
 (vb_one (vs_ret v_bl))
 vb_nil)
 (vb_cons (vs_if (vt_of (vw_or (vt_cmp (v_lt (v_ix (vv 1) v_int) v_int)) (vw_or1 (vt_cmp (v_gt (v_ix (vv 1) (v_neg v_int)) (v_sub (v_fld (vv 0) B.cPaper B.aP1) v_int))))))
 (vb_one (vs_ret v_bl))
 vb_nil)
 (vb_one (vs_ret (v_all rfl B.all (ve_of (vl_lc (own := [("place", 2)]) rfl S.nd (VI.own (vi_rng2 B.range (va_cons v_int (va_cons (v_len B.len (vv 1)) va_nil)))) (by rfl) (fun _ _ _ _ _ => (vg_name 2 S.nd)) (fun _ _ _ _ _ => vq_nil) (fun _ _ _ _ _ => (VCp.ve (v_lt (v_ix (vv 1) (v_sub (vv 2) v_int)) (v_ix (vv 1) (vv 2)))))))))))))⟩) ?_
  intro (p : Pap) ⟨hb1, hb2⟩
  (conv => whnf)
  refine ⟨rfl, eTi p.pl, rfl, ?_⟩
  (conv => whnf)
  refine ⟨fun h1 => ?_, fun h1 => ?_⟩
  rotate_left
  · have e : p.pl = [] := List.map_eq_nil_iff.mp (Classical.not_not.mp h1)
    (conv => whnf)
    exact ⟨false, rfl, ⟨fun z => Bool.noConfusion z, fun z => absurd e z.ne⟩⟩
  have hne : p.pl ≠ [] := fun z => h1 (by rw [z] <;> rfl)
  have hpos : 0 < p.pl.length := List.length_pos_iff.mpr hne
  (conv => whnf)
  refine ⟨rfl, .tup (p.rw.map eTi), rfl, ?_⟩
  (conv => whnf)
  refine ⟨fun h2 => ?_, fun h2 => ?_⟩
  · (conv => whnf)
    refine ⟨false, rfl, ⟨fun z => Bool.noConfusion z, fun z => absurd ?_ h2⟩⟩
    rw [List.length_map, List.length_map, z.len]
  have hlen : p.pl.length = p.rw.length := by
    have h2 := Classical.not_not.mp h2
    rw [List.length_map, List.length_map] at h2
    exact Int.ofNat_inj.mp h2
  (conv => whnf)
  refine ⟨_, at_int (v := 0) hpos, ?_⟩
  (conv => whnf)
  refine ⟨fun h3 => ?_, fun h3 => ?_⟩
  · (conv => whnf)
    refine ⟨false, rfl, ⟨fun z => Bool.noConfusion z, fun z => absurd z.lo (by omega)⟩⟩
  (conv => whnf)
  refine ⟨_, at_last hne, ?_⟩
  (conv => whnf)
  refine ⟨rfl, .int p.fd, rfl, ?_⟩
  (conv => whnf)
  refine ⟨fun h4 => ?_, fun h4 => ?_⟩
  · (conv => whnf)
    refine ⟨false, rfl, ⟨fun z => Bool.noConfusion z, fun z => absurd z.hi (by omega)⟩⟩
  (conv => whnf)
  refine ⟨by unfold small; omega, by unfold small; rw [List.length_map]; omega, ?_⟩
  show wpLc _ _ _ _ _ (rng 1 (((p.pl.map D.int).length : Int) - 1).toNat) []
  rw [show (((p.pl.map D.int).length : Int) - 1).toNat = p.pl.length - 1 by rw [List.length_map]; omega]
  refine wpLc_rng (fun k => .bl (decide (nth p.pl k < nth p.pl (k + 1)))) 1 (p.pl.length - 1) (by omega) (fun k hk N M hN => ?_) ?_
  · (conv => whnf)
    refine ⟨_, (by show atI (p.pl.map D.int) ((1 : Int) + (k : Nat) - 1) = _; rw [show (1 : Int) + (k : Nat) - 1 = (k : Nat) by omega]; exact at_int (by omega)), ?_⟩
    (conv => whnf)
    refine ⟨_, (by show atI (p.pl.map D.int) ((1 : Int) + (k : Nat)) = _; rw [show (1 : Int) + (k : Nat) = ((k + 1 : Nat) : Int) by omega]; exact at_int (by omega)), ?_⟩
    (conv => whnf)
    refine ⟨fun h => ?_, fun h => ?_⟩
    · rw [decide_eq_true h] at hN
      exact hN
    · rw [decide_eq_false h] at hN
      exact hN
  (conv => whnf)
  refine ⟨_, bl_map _ _, fun h5 => ?_, fun h5 => ?_⟩
  · (conv => whnf)
    refine ⟨true, rfl, ⟨fun _ => ⟨hne, hlen, by omega, by omega, fun k hk => ?_⟩, fun _ => rfl⟩⟩
    have := fun z => h5 (List.mem_map.mpr ⟨k, List.mem_range.mpr (by omega), decide_eq_false z⟩)
    exact Classical.not_not.mp this
  · (conv => whnf)
    refine ⟨false, rfl, ⟨fun z => Bool.noConfusion z, fun z => absurd (fun h => ?_) h5⟩⟩
    obtain ⟨k, hk, h6⟩ := List.mem_map.mp h
    exact absurd (z.up k (by have := List.mem_range.mp hk; omega)) (of_decide_eq_false h6)
end LV
set_option Elab.async false
set_option linter.all false
set_option maxRecDepth 100000
set_option maxHeartbeats 4000000
set_option exponentiation.threshold 100000
/-! M7: renaming keeps the order; the view of an earlier round. -/
namespace LV
open PySem PySem.Spec PyProof.Rows L2 PySem.W
/-- g keeps the order on S -/
def Mon (S : Nat → Prop) (g : Nat → Nat) : Prop := ∀ a b, S a → S b → (g a < g b ↔ a < b)
theorem Mon.inj {S : Nat → Prop} {g : Nat → Nat} (h : Mon S g) {a b : Nat} (ha : S a) (hb : S b) : g a = g b ↔ a = b := by
  have h1 := h a b ha hb
  have h2 := h b a hb ha
  omega
def cutH (g : Nat → Nat) (h : Hr) : Hr := (g h.1, h.2)
def cutNd (g : Nat → Nat) (n : Node) : Node := (g n.1, n.2.map (cutH g))
theorem toPs_map {α : Type} (en : α → D) : ∀ xs : List α, toPs (xs.map en) = xs.map fun x => toP (en x)
  | [] => rfl
  | x :: xs => by
    show toP (en x) :: toPs (xs.map en) = _
    rw [toPs_map en xs] <;> rfl
theorem eqv_int (a b : Int) : PyData.eqv (.int a) (.int b) = decide (a = b) := by
  show (a == b) = _
  by_cases h : a = b
  · rw [h]
    simp
  · simp [h]
theorem int_cut {S : Nat → Prop} {g : Nat → Nat} (m : Mon S g) {a b : Nat} (ha : S a) (hb : S b) : PyData.eqv (.int (g a : Nat)) (.int (g b : Nat)) = PyData.eqv (.int (a : Nat)) (.int (b : Nat)) ∧ dataLt (.int (g a : Nat)) (.int (g b : Nat)) = dataLt (.int (a : Nat)) (.int (b : Nat)) := by
  rw [eqv_int, eqv_int, dataLt_int, dataLt_int]
  have h1 := m.inj ha hb
  have h2 := m a b ha hb
  refine ⟨?_, ?_⟩
  · exact decide_eq_decide.mpr (by omega)
  · exact decide_eq_decide.mpr (by omega)
def pH (h : Hr) : PyData := .tuple [.int (h.1 : Nat), .tuple [.int h.2.1, .int h.2.2]]
def pN (n : Node) : PyData := .tuple [.int (n.1 : Nat), .tuple (n.2.map pH)]
theorem pH_eq (h : Hr) : toP (eH h) = pH h := rfl
theorem pN_eq (n : Node) : toP (eN n) = pN n := by
  show PyData.tuple [.int (n.1 : Nat), .tuple (toPs (n.2.map eH))] = _
  rw [toPs_map] <;> rfl
theorem alike_A (a b : Amt) : alike (.tuple [.int a.1, .int a.2]) (.tuple [.int b.1, .int b.2]) = true := by simp [alike, alikeAll]
theorem alike_H (a b : Hr) : alike (pH a) (pH b) = true := by simp [pH, alike, alikeAll]
theorem alike_Hs : ∀ a b : List Hr, alikeAll (a.map pH) (b.map pH) = true
  | [], _ => by simp [alikeAll]
  | _ :: _, [] => by simp [alikeAll]
  | x :: xs, y :: ys => by
    rw [List.map_cons, List.map_cons, alikeAll, alike_H, alike_Hs xs ys] <;> rfl
theorem alike_N (a b : Node) : alike (pN a) (pN b) = true := by
  simp [pN, alike, alikeAll, alike_Hs]
theorem eqv_pair (x y x' y' : PyData) : PyData.eqv (.tuple [x, y]) (.tuple [x', y']) = (PyData.eqv x x' && PyData.eqv y y') := by
  show (PyData.eqv x x' && (PyData.eqv y y' && true)) = _
  rw [Bool.and_true]
theorem H_cut {S : Nat → Prop} {g : Nat → Nat} (m : Mon S g) {a b : Hr} (ha : S a.1) (hb : S b.1) : PyData.eqv (pH (cutH g a)) (pH (cutH g b)) = PyData.eqv (pH a) (pH b) ∧ dataLt (pH (cutH g a)) (pH (cutH g b)) = dataLt (pH a) (pH b) := by
  obtain ⟨h1, h2⟩ := int_cut m ha hb
  unfold pH cutH
  dsimp only
  refine ⟨?_, ?_⟩
  · show (PyData.eqv _ _ && (PyData.eqv _ _ && true)) = (PyData.eqv _ _ && (PyData.eqv _ _ && true))
    rw [h1]
  · rw [dataLt_pair (by simp [alike]) (alike_A _ _), dataLt_pair (by simp [alike]) (alike_A _ _), h1, h2]
theorem row_nil_cons (y : PyData) (ys : List PyData) : rowLt [] (y :: ys) = true := by
  unfold rowLt
  rw [toks_all_cons]
  simp only [keyToksAll]
  rw [lex_diff (O := itemOrd) (by simp)]
  rfl
theorem row_cons_nil (y : PyData) (ys : List PyData) : rowLt (y :: ys) [] = false := by
  unfold rowLt
  rw [toks_all_cons]
  simp only [keyToksAll]
  rw [lex_diff (O := itemOrd) (by simp)]
  rfl
theorem Hs_cut {S : Nat → Prop} {g : Nat → Nat} (m : Mon S g) : ∀ {a b : List Hr}, (∀ h ∈ a, S h.1) → (∀ h ∈ b, S h.1) → PyData.eqvAll ((a.map (cutH g)).map pH) ((b.map (cutH g)).map pH) = PyData.eqvAll (a.map pH) (b.map pH) ∧ rowLt ((a.map (cutH g)).map pH) ((b.map (cutH g)).map pH) = rowLt (a.map pH) (b.map pH)
  | [], [], _, _ => ⟨rfl, rfl⟩
  | [], y :: ys, _, _ => ⟨rfl, by rw [List.map_nil, List.map_cons, List.map_cons, List.map_nil, List.map_cons, row_nil_cons, row_nil_cons]⟩
  | x :: xs, [], _, _ => ⟨rfl, by rw [List.map_nil, List.map_cons, List.map_cons, List.map_nil, List.map_cons, row_cons_nil, row_cons_nil]⟩
  | x :: xs, y :: ys, ha, hb => by
    obtain ⟨h1, h2⟩ := H_cut m (ha x List.mem_cons_self) (hb y List.mem_cons_self)
    obtain ⟨h3, h4⟩ := Hs_cut m (a := xs) (b := ys) (fun h hh => ha h (List.mem_cons_of_mem _ hh)) fun h hh => hb h (List.mem_cons_of_mem _ hh)
    simp only [List.map_cons]
    refine ⟨?_, ?_⟩
    · show (PyData.eqv _ _ && PyData.eqvAll _ _) = (PyData.eqv _ _ && PyData.eqvAll _ _)
      rw [h1, h3]
    · unfold rowLt at h4 ⊢
      rw [dataLt_cons (alike_H _ _), dataLt_cons (alike_H _ _), h1, h2, h4]
theorem N_cut {S : Nat → Prop} {g : Nat → Nat} (m : Mon S g) {a b : Node} (ha : S a.1) (hb : S b.1) (ha2 : ∀ h ∈ a.2, S h.1) (hb2 : ∀ h ∈ b.2, S h.1) : dlt (eN (cutNd g a)) (eN (cutNd g b)) = dlt (eN a) (eN b) := by
  unfold dlt
  rw [pN_eq, pN_eq, pN_eq, pN_eq]
  obtain ⟨h1, h2⟩ := int_cut m ha hb
  obtain ⟨h3, h4⟩ := Hs_cut m ha2 hb2
  unfold pN cutNd
  dsimp only
  have al : ∀ x y : List Hr, alike (.tuple (x.map pH)) (.tuple (y.map pH)) = true := fun x y => by
    show alikeAll _ _ = true
    exact alike_Hs x y
  rw [dataLt_pair (by simp [alike]) (al _ _), dataLt_pair (by simp [alike]) (al _ _), h1, h2]
  have e1 : ∀ x y : List PyData, PyData.eqv (.tuple x) (.tuple y) = PyData.eqvAll x y := fun _ _ => rfl
  rw [e1, e1, h3, dataLt_tuple, dataLt_tuple]
  have h4' : PyProof.Rows.lexLt itemOrd (keyToksAll ((a.2.map (cutH g)).map pH)) (keyToksAll ((b.2.map (cutH g)).map pH)) = PyProof.Rows.lexLt itemOrd (keyToksAll (a.2.map pH)) (keyToksAll (b.2.map pH)) := h4
  rw [h4']

/-! ### what is reached below -/
def hits (n : Node) (y : Nat) : Bool := n.1 == y || n.2.any fun h => h.1 == y
def rchB (l : List Node) (xs : List Nat) (y : Nat) : Bool := xs.any fun x => match l[x]? with
  | some n => hits n y
  | none => false
def rchL (l : List Node) (xs : List Nat) (below : Nat) : List Nat := (List.range below).filter (rchB l xs)
theorem hits_iff {n : Node} {y : Nat} : hits n y = true ↔ n.1 = y ∨ ∃ h ∈ n.2, h.1 = y := by
  unfold hits
  rw [Bool.or_eq_true, beq_iff_eq, List.any_eq_true]
  exact or_congr Iff.rfl ⟨fun ⟨h, h1, h2⟩ => ⟨h, h1, beq_iff_eq.mp h2⟩, fun ⟨h, h1, h2⟩ => ⟨h, h1, beq_iff_eq.mpr h2⟩⟩
theorem rchB_iff {l : List Node} {xs : List Nat} {y : Nat} : rchB l xs y = true ↔ ∃ x ∈ xs, ∃ n, l[x]? = some n ∧ hits n y = true := by
  unfold rchB
  rw [List.any_eq_true]
  constructor
  · rintro ⟨x, hx, h⟩
    cases e : l[x]? with
    | none => rw [e] at h; cases h
    | some n =>
      rw [e] at h
      exact ⟨x, hx, n, e, h⟩
  · rintro ⟨x, hx, n, e, h⟩
    exact ⟨x, hx, by rw [e]; exact h⟩
theorem rchL_mem {l : List Node} {xs : List Nat} {below y : Nat} : y ∈ rchL l xs below ↔ y < below ∧ rchB l xs y = true := by
  unfold rchL
  rw [List.mem_filter, List.mem_range]
theorem rchL_asc (l : List Node) (xs : List Nat) (below : Nat) : (rchL l xs below).Pairwise (· < ·) := List.Pairwise.filter _ List.pairwise_lt_range
theorem rchL_len (l : List Node) (xs : List Nat) (below : Nat) : (rchL l xs below).length ≤ below := by
  unfold rchL
  exact Nat.le_trans (List.length_filter_le _ _) (Nat.le_of_eq List.length_range)
/-- seen n levels below level r from its node x -/
def seenN (v : Vw) (r x : Nat) : Nat → List Nat
  | 0 => [x]
  | n + 1 => rchL (v.up[r - n - 1]?.getD []) (seenN v r x n) (sz v (r - n - 1))
def seenAt (v : Vw) (r x s : Nat) : List Nat := seenN v r x (r - s)
def nodeAt (v : Vw) (k y : Nat) : Node := ((v.up[k]?.getD [])[y]?).getD (0, [])
def staAt (v : Vw) (y : Nat) : Sta := (v.st[y]?).getD (0, 0)
/-- what is seen from node x of level r -/
def cutV (v : Vw) (r x : Nat) : Vw := ⟨(seenAt v r x 0).map (staAt v), (List.range r).map fun k => (seenAt v r x (k + 1)).map fun y => cutNd (fun z => (seenAt v r x k).idxOf z) (nodeAt v k y)⟩
structure Full (v : Vw) : Prop where
  good : Good v
  top : sz v v.up.length = 1
  all : ∀ k l, v.up[k]? = some l → ∀ y, y < sz v k → ∃ n ∈ l, hits n y = true
end LV
set_option Elab.async false
set_option linter.all false
set_option maxRecDepth 100000
set_option maxHeartbeats 4000000
set_option exponentiation.threshold 100000
/-! M8: the view of an earlier round is a view. -/
namespace LV
open PySem PySem.Spec PyProof.Rows L2
theorem idx_get {ks : List Nat} {a : Nat} (h : a ∈ ks) : ∃ hl : ks.idxOf a < ks.length, ks[ks.idxOf a] = a := ⟨List.idxOf_lt_length_of_mem h, List.getElem_idxOf _⟩
theorem asc_get {ks : List Nat} (h : ks.Pairwise (· < ·)) {i j : Nat} (hi : i < ks.length) (hj : j < ks.length) : ks[i] < ks[j] ↔ i < j := by
  have p := List.pairwise_iff_getElem.mp h
  rcases Nat.lt_trichotomy i j with c | c | c
  · exact ⟨fun _ => c, fun _ => p i j hi hj c⟩
  · subst c
    exact ⟨fun z => absurd z (Nat.lt_irrefl _), fun z => absurd z (Nat.lt_irrefl _)⟩
  · have := p j i hj hi c
    exact ⟨fun z => by omega, fun z => by omega⟩
theorem idx_mon {ks : List Nat} (h : ks.Pairwise (· < ·)) : Mon (· ∈ ks) (fun z => ks.idxOf z) := fun a b ha hb => by
  obtain ⟨la, ea⟩ := idx_get ha
  obtain ⟨lb, eb⟩ := idx_get hb
  have := asc_get h la lb
  rw [ea, eb] at this
  exact this.symm
theorem idx_at {ks : List Nat} (h : ks.Pairwise (· < ·)) {i : Nat} (hi : i < ks.length) : ks.idxOf ks[i] = i := by
  obtain ⟨la, ea⟩ := idx_get (List.getElem_mem hi)
  have h1 := asc_get h la hi
  have h2 := asc_get h hi la
  rw [ea] at h1 h2
  have := Nat.lt_irrefl ks[i]
  omega
section
variable {v : Vw} (g : Good v) {r x : Nat} (hr : r ≤ v.up.length) (hx : x < sz v r)
theorem seenN_asc (v : Vw) (r x : Nat) : ∀ n, (seenN v r x n).Pairwise (· < ·)
  | 0 => List.pairwise_singleton _ _
  | n + 1 => rchL_asc _ _ _
include g hr hx in
theorem seenN_lt : ∀ n, n ≤ r → ∀ y ∈ seenN v r x n, y < sz v (r - n)
  | 0, _, y, hy => by
    rw [List.mem_singleton.mp hy]
    exact hx
  | n + 1, h, y, hy => by
    have := (rchL_mem.mp hy).1
    rw [show r - (n + 1) = r - n - 1 by omega]
    exact this
theorem node_at {k y : Nat} {l : List Node} (hl : v.up[k]? = some l) (hy : y < l.length) : l[y]? = some (nodeAt v k y) := by
  unfold nodeAt
  rw [hl]
  show _ = some ((l[y]?).getD (0, []))
  rw [List.getElem?_eq_getElem hy] <;> rfl
theorem up_at {k : Nat} {l : List Node} (hl : v.up[k]? = some l) : v.up[k]?.getD [] = l := by rw [hl] <;> rfl
theorem seenAt_succ {k : Nat} (hk : k < r) : seenAt v r x k = rchL (v.up[k]?.getD []) (seenAt v r x (k + 1)) (sz v k) := by
  unfold seenAt
  rw [show r - k = (r - (k + 1)) + 1 by omega]
  show rchL (v.up[r - (r - (k + 1)) - 1]?.getD []) _ (sz v (r - (r - (k + 1)) - 1)) = _
  rw [show r - (r - (k + 1)) - 1 = k by omega]
theorem seenAt_asc (v : Vw) (r x k : Nat) : (seenAt v r x k).Pairwise (· < ·) := seenN_asc v r x _
include g hr hx in
theorem seenAt_lt {k : Nat} (hk : k ≤ r) : ∀ y ∈ seenAt v r x k, y < sz v k := fun y hy => by
  have := seenN_lt g hr hx (r - k) (by omega) y hy
  rw [show r - (r - k) = k by omega] at this
  exact this
include g hr hx in
/-- a node that is seen: its parent, its near ones are seen -/
theorem seen_below {k y z : Nat} (hk : k < r) (hy : y ∈ seenAt v r x (k + 1)) (hz : hits (nodeAt v k y) z = true) : z ∈ seenAt v r x k := by
  obtain ⟨l, hl⟩ := up_get (v := v) (k := k) (by omega)
  have gl := g.ups k l hl
  have hyl := seenAt_lt g hr hx (k := k + 1) (by omega) y hy
  rw [sz_up hl] at hyl
  have hn := node_at hl hyl
  have hm := List.mem_of_getElem? hn
  rw [seenAt_succ hk, up_at hl]
  refine rchL_mem.mpr ⟨?_, rchB_iff.mpr ⟨y, hy, _, hn, hz⟩⟩
  rcases hits_iff.mp hz with e | ⟨h, hh, e⟩
  · rw [← e]
    exact gl.par _ hm
  · rw [← e]
    exact (gl.near _ hm h hh).1
include g hr hx in
theorem seenAt_pos : ∀ n, n ≤ r → 0 < (seenAt v r x (r - n)).length
  | 0, _ => by
    unfold seenAt
    rw [show r - (r - 0) = 0 by omega]
    exact Nat.one_pos
  | n + 1, h => by
    have ih := seenAt_pos n (by omega)
    rw [show r - n = (r - (n + 1)) + 1 by omega] at ih
    have := seen_below g hr hx (k := r - (n + 1)) (y := (seenAt v r x (r - (n + 1) + 1))[0]) (z := (nodeAt v (r - (n + 1)) ((seenAt v r x (r - (n + 1) + 1))[0])).1) (by omega) (List.getElem_mem ih) (hits_iff.mpr (.inl rfl))
    exact List.length_pos_of_mem this
include g hr hx in
theorem seenAt_len {k : Nat} (hk : k ≤ r) : 1 ≤ (seenAt v r x k).length ∧ (seenAt v r x k).length ≤ 4 := by
  have h1 := seenAt_pos g hr hx (r - k) (by omega)
  rw [show r - (r - k) = k by omega] at h1
  refine ⟨h1, ?_⟩
  by_cases e : k = r
  · subst e
    unfold seenAt
    rw [Nat.sub_self]
    exact Nat.le_of_lt (by decide : 1 < 4)
  · rw [seenAt_succ (by omega)]
    exact Nat.le_trans (rchL_len _ _ _) (g.szb (by omega)).2
theorem cut_up {k : Nat} (hk : k < r) : (cutV v r x).up[k]? = some ((seenAt v r x (k + 1)).map fun y => cutNd (fun z => (seenAt v r x k).idxOf z) (nodeAt v k y)) := by
  unfold cutV
  dsimp only
  rw [List.getElem?_map, List.getElem?_range hk] <;> rfl
theorem cut_len (v : Vw) (r x : Nat) : (cutV v r x).up.length = r := by
  unfold cutV
  rw [List.length_map, List.length_range]
theorem cut_sz {k : Nat} (hk : k ≤ r) : sz (cutV v r x) k = (seenAt v r x k).length := by
  cases k with
  | zero =>
    show ((seenAt v r x 0).map (staAt v)).length = _
    rw [List.length_map]
  | succ k =>
    rw [sz_up (cut_up (by omega)), List.length_map]
include g hr hx in
theorem cut_full : Full (cutV v r x) where
  good := by
    have h0 := seenAt_len g hr hx (k := 0) (Nat.zero_le _)
    have hlt := seenAt_lt g hr hx (k := 0) (Nat.zero_le _)
    have sta : ∀ y, y < v.st.length → v.st[y]? = some (staAt v y) := fun y hy => by
      unfold staAt
      rw [List.getElem?_eq_getElem hy] <;> rfl
    refine ⟨?_, ?_, fun s hs => ?_, ?_, ?_, fun k l hl => ?_⟩
    · show 1 ≤ ((seenAt v r x 0).map (staAt v)).length
      rw [List.length_map]
      exact h0.1
    · show ((seenAt v r x 0).map (staAt v)).length ≤ 4
      rw [List.length_map]
      exact h0.2
    · obtain ⟨y, hy, rfl⟩ := List.mem_map.mp hs
      exact g.stv _ (List.mem_of_getElem? (sta y (hlt y hy)))
    · show ((seenAt v r x 0).map (staAt v)).Pairwise _
      rw [List.pairwise_map]
      refine List.Pairwise.imp_of_mem (fun {a b} ha hb hab => ?_) (seenAt_asc v r x 0)
      have p := List.pairwise_iff_getElem.mp g.sts a b (hlt a ha) (hlt b hb) hab
      have e1 := sta a (hlt a ha)
      have e2 := sta b (hlt b hb)
      rw [List.getElem?_eq_getElem (hlt a ha)] at e1
      rw [List.getElem?_eq_getElem (hlt b hb)] at e2
      rw [← Option.some.inj e1, ← Option.some.inj e2]
      exact p
    · rw [cut_len]
      exact Nat.le_trans hr g.rounds
    · have hk : k < r := by
        have := (List.getElem?_eq_some_iff.mp hl).1
        rw [cut_len] at this
        exact this
      rw [cut_up hk] at hl
      have hl := (Option.some.inj hl).symm
      subst hl
      rw [cut_sz (by omega)]
      obtain ⟨l, hl⟩ := up_get (v := v) (k := k) (by omega)
      have gl := g.ups k l hl
      have hyl : ∀ y ∈ seenAt v r x (k + 1), y < l.length := fun y hy => by
        have := seenAt_lt g hr hx (k := k + 1) (by omega) y hy
        rw [sz_up hl] at this
        exact this
      have hmem : ∀ y ∈ seenAt v r x (k + 1), nodeAt v k y ∈ l := fun y hy => List.mem_of_getElem? (node_at hl (hyl y hy))
      have hin : ∀ y ∈ seenAt v r x (k + 1), ∀ z, hits (nodeAt v k y) z = true → z ∈ seenAt v r x k := fun y hy z hz => seen_below g hr hx hk hy hz
      have hsn := seenAt_len g hr hx (k := k + 1) (by omega)
      have mon := idx_mon (seenAt_asc v r x k)
      refine ⟨by rw [List.length_map]; exact hsn.1, by rw [List.length_map]; exact hsn.2, fun n hn => ?_, fun n hn h hh => ?_, fun n hn => ?_, ?_⟩
      · obtain ⟨y, hy, rfl⟩ := List.mem_map.mp hn
        exact (idx_get (hin y hy _ (hits_iff.mpr (.inl rfl)))).1
      · obtain ⟨y, hy, rfl⟩ := List.mem_map.mp hn
        obtain ⟨h0, hh0, rfl⟩ := List.mem_map.mp hh
        exact ⟨(idx_get (hin y hy _ (hits_iff.mpr (.inr ⟨h0, hh0, rfl⟩)))).1, (gl.near _ (hmem y hy) h0 hh0).2⟩
      · obtain ⟨y, hy, rfl⟩ := List.mem_map.mp hn
        show (((nodeAt v k y).2.map (cutH _)).map (·.1)).Pairwise _
        rw [List.map_map, List.pairwise_map]
        have a := gl.asc _ (hmem y hy)
        rw [List.pairwise_map] at a
        refine List.Pairwise.imp_of_mem (fun {p q} hp hq hpq => ?_) a
        exact (mon p.1 q.1 (hin y hy _ (hits_iff.mpr (.inr ⟨p, hp, rfl⟩))) (hin y hy _ (hits_iff.mpr (.inr ⟨q, hq, rfl⟩)))).mpr hpq
      · rw [List.pairwise_map]
        refine List.Pairwise.imp_of_mem (fun {a b} ha hb hab => ?_) (seenAt_asc v r x (k + 1))
        rw [N_cut mon (hin a ha _ (hits_iff.mpr (.inl rfl))) (hin b hb _ (hits_iff.mpr (.inl rfl))) (fun h hh => hin a ha _ (hits_iff.mpr (.inr ⟨h, hh, rfl⟩))) fun h hh => hin b hb _ (hits_iff.mpr (.inr ⟨h, hh, rfl⟩))]
        have p := List.pairwise_iff_getElem.mp gl.srt a b (hyl a ha) (hyl b hb) hab
        have e1 := node_at hl (hyl a ha)
        have e2 := node_at hl (hyl b hb)
        rw [List.getElem?_eq_getElem (hyl a ha)] at e1
        rw [List.getElem?_eq_getElem (hyl b hb)] at e2
        rw [← Option.some.inj e1, ← Option.some.inj e2]
        exact p
  top := by
    rw [cut_len, cut_sz (Nat.le_refl _)]
    unfold seenAt
    rw [Nat.sub_self] <;> rfl
  all := fun k l hl y hy => by
    have hk : k < r := by
      have := (List.getElem?_eq_some_iff.mp hl).1
      rw [cut_len] at this
      exact this
    rw [cut_up hk] at hl
    have hl := (Option.some.inj hl).symm
    subst hl
    rw [cut_sz (by omega)] at hy
    obtain ⟨l, hl⟩ := up_get (v := v) (k := k) (by omega)
    have hz : (seenAt v r x k)[y] ∈ seenAt v r x k := List.getElem_mem hy
    have e := idx_at (seenAt_asc v r x k) hy
    generalize (seenAt v r x k)[y] = zz at hz e
    have hz2 := hz
    rw [seenAt_succ hk, up_at hl] at hz2
    obtain ⟨w, hw, n, hn, hh⟩ := rchB_iff.mp (rchL_mem.mp hz2).2
    have hwl : w < l.length := (List.getElem?_eq_some_iff.mp hn).1
    rw [node_at hl hwl] at hn
    cases hn
    refine ⟨_, List.mem_map.mpr ⟨w, hw, rfl⟩, ?_⟩
    rcases hits_iff.mp hh with q | ⟨h, hh, q⟩
    · refine hits_iff.mpr (.inl ?_)
      show (seenAt v r x k).idxOf (nodeAt v k w).1 = y
      rw [q]
      exact e
    · refine hits_iff.mpr (.inr ⟨cutH _ h, List.mem_map.mpr ⟨h, hh, rfl⟩, ?_⟩)
      show (seenAt v r x k).idxOf h.1 = y
      rw [q]
      exact e
end
end LV
set_option Elab.async false
set_option linter.all false
set_option maxRecDepth 100000
set_option maxHeartbeats 4000000
/-! M9: keys of a dict by numbers. -/
namespace LV
open PySem PySem.Spec PyProof.Rows L2
theorem nodup_len : ∀ (n : Nat) (ks : List Nat), ks.Nodup → (∀ y ∈ ks, y < n) → ks.length ≤ n
  | 0, ks, _, h => by
    cases ks with
    | nil => exact Nat.le_refl _
    | cons a r => exact absurd (h a List.mem_cons_self) (by omega)
  | n + 1, ks, hn, h => by
    by_cases e : n ∈ ks
    · have h1 := nodup_len n (ks.erase n) (hn.erase n) fun y hy => by
        obtain ⟨h2, h3⟩ := (hn.mem_erase_iff).mp hy
        have := h y h3
        omega
      rw [List.length_erase_of_mem e] at h1
      omega
    · have h1 := nodup_len n ks hn fun y hy => by
        have := h y hy
        have : y ≠ n := fun z => e (by rw [← z]; exact hy)
        omega
      omega
def insK (ks : List Nat) (y : Nat) : List Nat := if y ∈ ks then ks else ks ++ [y]
theorem insK_nodup {ks : List Nat} {y : Nat} (h : ks.Nodup) : (insK ks y).Nodup := by
  unfold insK
  by_cases e : y ∈ ks
  · rw [if_pos e]
    exact h
  · rw [if_neg e, List.nodup_append]
    exact ⟨h, by simp, fun a ha b hb z => e (by rw [List.mem_singleton] at hb; rw [← hb, ← z]; exact ha)⟩
theorem insK_mem {ks : List Nat} {y z : Nat} : z ∈ insK ks y ↔ z ∈ ks ∨ z = y := by
  unfold insK
  by_cases e : y ∈ ks
  · rw [if_pos e]
    exact ⟨.inl, fun h => h.elim id fun q => by rw [q]; exact e⟩
  · rw [if_neg e, List.mem_append, List.mem_singleton]
def eK (ks : List Nat) : List (Key × D) := ks.map fun y => (kI (y : Nat), .bl true)
theorem kI_inj {a b : Nat} : kI (a : Nat) = kI (b : Nat) ↔ a = b := ⟨fun h => Int.ofNat_inj.mp (Sum.inl.inj h), fun h => by rw [h]⟩
theorem eK_put (ks : List Nat) (y : Nat) : putD (eK ks) (kI (y : Nat)) (.bl true) = eK (insK ks y) := by
  unfold putD insK
  have e : ((eK ks).any fun kv => decide (kv.1 = kI (y : Nat))) = decide (y ∈ ks) := by
    unfold eK
    rw [List.any_map, Bool.eq_iff_iff, List.any_eq_true, decide_eq_true_eq]
    constructor
    · rintro ⟨z, hz, h⟩
      have := kI_inj.mp (of_decide_eq_true h)
      rw [← this]
      exact hz
    · intro h
      exact ⟨y, h, decide_eq_true rfl⟩
  rw [e]
  by_cases h : y ∈ ks
  · rw [if_pos (decide_eq_true h), if_pos h]
    unfold eK
    rw [List.map_map]
    refine List.map_congr_left fun z _ => ?_
    show (if kI (z : Nat) = kI (y : Nat) then (kI (z : Nat), D.bl true) else (kI (z : Nat), D.bl true)) = _
    by_cases q : kI (z : Nat) = kI (y : Nat)
    · rw [if_pos q]
    · rw [if_neg q]
  · rw [if_neg (by rw [decide_eq_false h]; exact Bool.false_ne_true), if_neg h]
    unfold eK
    rw [List.map_append] <;> rfl
theorem eK_keys (ks : List Nat) : (eK ks).map (·.1) = (ks.map fun y : Nat => (y : Int)).map kI := by
  unfold eK
  rw [List.map_map, List.map_map] <;> rfl
theorem sorted_keys {ks zs : List Nat} (h1 : ks.Nodup) (h2 : zs.Pairwise (· < ·)) (h3 : ∀ y, y ∈ ks ↔ y ∈ zs) {ys : List Int} (hp : ys.Perm (ks.map fun y : Nat => (y : Int))) (ho : ys.Pairwise (· ≤ ·)) : ys = zs.map fun y : Nat => (y : Int) := by
  have hz : zs.Nodup := List.Pairwise.imp (fun h => Nat.ne_of_lt h) h2
  have p : ks.Perm zs := (List.perm_ext_iff_of_nodup h1 hz).mpr h3
  refine List.Perm.eq_of_pairwise (le := fun a b : Int => a ≤ b) (fun a b _ _ x y => Int.le_antisymm x y) ho ?_ (hp.trans (p.map _))
  rw [List.pairwise_map]
  exact h2.imp fun {a b} h => by omega
end LV
set_option Elab.async false
set_option linter.all false
set_option maxRecDepth 100000
set_option maxHeartbeats 4000000
namespace LV
open PySem PySem.Spec PyProof.Rows L2
theorem take_one {α : Type} {xs : List α} {i : Nat} {x : α} (h : xs[i]? = some x) : xs.take (i + 1) = xs.take i ++ [x] := by
  rw [List.take_succ, h] <;> rfl
theorem rchB_take {l : List Node} {xs : List Nat} {i x y : Nat} {n : Node} (h : xs[i]? = some x) (hn : l[x]? = some n) : rchB l (xs.take (i + 1)) y = true ↔ rchB l (xs.take i) y = true ∨ hits n y = true := by
  rw [take_one h, rchB_iff, rchB_iff]
  constructor
  · rintro ⟨z, hz, m, hm, hh⟩
    rcases List.mem_append.mp hz with hz | hz
    · exact .inl ⟨z, hz, m, hm, hh⟩
    · rw [List.mem_singleton.mp hz, hn] at hm
      cases hm
      exact .inr hh
  · rintro (⟨z, hz, m, hm, hh⟩ | hh)
    · exact ⟨z, List.mem_append_left _ hz, m, hm, hh⟩
    · exact ⟨x, List.mem_append_right _ (List.mem_singleton.mpr rfl), n, hn, hh⟩
def c_reached_below : Ct := ⟨2, List Node × List Nat × Nat, fun g => [eNs g.1, eLn g.2.1], fun g => (∀ x ∈ g.2.1, x < g.1.length) ∧ g.2.2 ≤ 60 ∧ (∀ n ∈ g.1, n.1 < g.2.2 ∧ ∀ h ∈ n.2, h.1 < g.2.2), fun g d => d = eLn (rchL g.1 g.2.1 g.2.2), fun _ => rfl⟩
theorem f_reached_below {P : Program} {w : World} {K : PySem.W.Frag} {mg : Str → Option Value} {base : Heap} (W : Wd K mg) : Fn P w K mg base 1 "reached_below" c_reached_below := by
  refine W.fn 18 (d := HH.d_reached_below) rfl rfl 16 rfl ["nodes", "numbers"] rfl rfl (fun _ _ _ _ _ _ us h => by match us, h with | [a0, a1], _ => rfl) fun f fd F => ?_
  have S : FnScope ["nodes", "numbers", "found", "number", "parent", "heard", "near", "strength"] ["nodes", "numbers"] HH.d_reached_below.scope := C8.fnScope_by (by decide +kernel)
  have B := W.gb
  refine fn_ok (N := ["nodes", "numbers", "found", "number", "parent", "heard", "near", "strength"]) (k := 0) F S rfl (fun cdv A outer s H E hr => ⟨_, (vb_cons (vs_dictK (i := 2) S.nd)
 (vb_cons (vs_for PassesOwn.never rfl (vi_list (vv 1)) (vg_name 3 S.nd)
 (vb_cons (vs_asg (v_ix (vv 0) (vv 3)) (vg_tup (n := 2) rfl (vgs_cons (vg_name 4 S.nd) (vgs_cons (vg_name 5 S.nd) vgs_nil))))
 (vb_cons (vs_dputK hr 2 (vv 4) v_bl)
 (vb_one (vs_for PassesOwn.never rfl (vi_tup (vv 5)) (vg_tup (n := 2) rfl (vgs_cons (vg_name 6 S.nd) (vgs_cons (vg_name 7 S.nd) vgs_nil)))
 (vb_one (vs_dputK hr 2 (vv 6) v_bl)))))))
 (vb_one (vs_ret (ve_of (vl_sortedK rfl B.sorted 2))))))⟩) ?_
  rintro ⟨l, xs, b⟩ ⟨hx, hb, hl⟩
  dsimp only at hx hb hl
  (conv => whnf)
  show wpFor _ _ _ (xs.map eI) _
  refine wpFor_map eI xs (fun i Γ => ∃ ks a1 a2 a3 a4 a5, Γ = [.im (eNs l), .im (eLn xs), .od (eK ks), a1, a2, a3, a4, a5] ∧ ks.Nodup ∧ ∀ y, y ∈ ks ↔ rchB l (xs.take i) y = true) ?_ ?_ ⟨[], _, _, _, _, _, rfl, List.nodup_nil, fun y => ⟨fun h => absurd h List.not_mem_nil, fun h => (by cases h)⟩⟩
  · rintro i x Γ N hi ⟨ks, a1, a2, a3, a4, a5, rfl, hn, hm⟩ hN
    have hxl := hx x (List.mem_of_getElem? hi)
    obtain ⟨n, hln⟩ : ∃ n, l[x]? = some n := ⟨_, List.getElem?_eq_getElem hxl⟩
    obtain ⟨hn1, hn2⟩ := hl n (List.mem_of_getElem? hln)
    have bd : ∀ y ∈ ks, y < b := fun y hy => by
      obtain ⟨z, _, m, hm', hh⟩ := rchB_iff.mp ((hm y).mp hy)
      obtain ⟨q1, q2⟩ := hl m (List.mem_of_getElem? hm')
      rcases hits_iff.mp hh with e | ⟨h, hh, e⟩
      · rw [← e]; exact q1
      · rw [← e]; exact q2 h hh
    have ll := nodup_len b ks hn bd
    (conv => whnf)
    refine ⟨_, at_map hln, ?_⟩
    (conv => whnf)
    refine ⟨rfl, ?_⟩
    (conv => whnf)
    refine ⟨⟨_, rfl⟩, ?_⟩
    (conv => whnf)
    refine ⟨_, rfl, by unfold eK; rw [List.length_map]; omega, ?_⟩
    (conv => whnf)
    show wpFor _ _ _ (n.2.map eH) _
    refine wpFor_map eH n.2 (fun j Γ => ∃ ks' a3 a4, Γ = [.im (eNs l), .im (eLn xs), .od (eK ks'), .im (.int x), .im (.int n.1), .im (eHs n.2), a3, a4] ∧ ks'.Nodup ∧ (∀ y ∈ ks', y < b) ∧ ∀ y, y ∈ ks' ↔ (rchB l (xs.take i) y = true ∨ n.1 = y) ∨ ∃ h ∈ n.2.take j, h.1 = y) ?_ ?_ ?_
    · rintro j ⟨h1, h2⟩ Γ N2 hj ⟨ks', a3, a4, rfl, hn', hb', hm'⟩ hN2
      have hh1 := hn2 _ (List.mem_of_getElem? hj)
      have ll := nodup_len b ks' hn' hb'
      (conv => whnf)
      refine ⟨rfl, ?_⟩
      (conv => whnf)
      refine ⟨⟨_, rfl⟩, ?_⟩
      (conv => whnf)
      refine ⟨_, rfl, by unfold eK; rw [List.length_map]; omega, ?_⟩
      (conv => whnf)
      refine hN2 _ ⟨insK ks' h1, .im (.int h1), .im (eA h2), ?_, insK_nodup hn', fun y hy => ?_, fun y => ?_⟩
      · show [_, _, Sl.od (putD (eK ks') (kI (h1 : Nat)) (.bl true)), _, _, _, _, _] = _
        rw [eK_put] <;> rfl
      · rcases insK_mem.mp hy with hy | rfl
        · exact hb' y hy
        · exact hh1
      · rw [insK_mem, hm', take_one hj]
        constructor
        · rintro ((q | ⟨h, q1, q2⟩) | rfl)
          · exact .inl q
          · exact .inr ⟨h, List.mem_append_left _ q1, q2⟩
          · exact .inr ⟨_, List.mem_append_right _ (List.mem_singleton.mpr rfl), rfl⟩
        · rintro (q | ⟨h, q1, q2⟩)
          · exact .inl (.inl q)
          · rcases List.mem_append.mp q1 with q1 | q1
            · exact .inl (.inr ⟨h, q1, q2⟩)
            · rw [List.mem_singleton.mp q1] at q2
              exact .inr q2.symm
    · rintro Γ ⟨ks', a3, a4, rfl, hn', hb', hm'⟩
      (conv => whnf)
      refine hN _ ⟨ks', _, _, _, _, _, rfl, hn', fun y => ?_⟩
      rw [hm', rchB_take hi hln, hits_iff, List.take_length]
      constructor
      · rintro ((q | q) | q)
        · exact .inl q
        · exact .inr (.inl q)
        · exact .inr (.inr q)
      · rintro (q | q | q)
        · exact .inl (.inl q)
        · exact .inl (.inr q)
        · exact .inr q
    · refine ⟨insK ks n.1, a4, a5, ?_, insK_nodup hn, fun y hy => ?_, fun y => ?_⟩
      · show [_, _, Sl.od (putD (eK ks) (kI (n.1 : Nat)) (.bl true)), _, _, _, _, _] = _
        rw [eK_put] <;> rfl
      · rcases insK_mem.mp hy with hy | rfl
        · exact bd y hy
        · exact hn1
      · rw [insK_mem, hm]
        constructor
        · rintro (q | rfl)
          · exact .inl (.inl q)
          · exact .inl (.inr rfl)
        · rintro ((q | q) | ⟨h, q, _⟩)
          · exact .inl q
          · exact .inr q.symm
          · exact absurd q List.not_mem_nil
  · rintro Γ ⟨ks, a1, a2, a3, a4, a5, rfl, hn, hm⟩
    rw [List.take_length] at hm
    have bd : ∀ y ∈ ks, y < b := fun y hy => by
      obtain ⟨z, _, m, hm', hh⟩ := rchB_iff.mp ((hm y).mp hy)
      obtain ⟨q1, q2⟩ := hl m (List.mem_of_getElem? hm')
      rcases hits_iff.mp hh with e | ⟨h, hh, e⟩
      · rw [← e]; exact q1
      · rw [← e]; exact q2 h hh
    have ll := nodup_len b ks hn bd
    (conv => whnf)
    refine ⟨eK ks, ks.map fun y : Nat => (y : Int), rfl, eK_keys ks, by rw [List.length_map]; omega, fun ys hp ho => ?_⟩
    have e := sorted_keys hn (rchL_asc l xs b) (fun y => ⟨fun h => rchL_mem.mpr ⟨bd y h, (hm y).mp h⟩, fun h => (hm y).mpr (rchL_mem.mp h).2⟩) hp ho
    subst e
    (conv => whnf)
    show _ = eLn _
    rw [List.map_map] <;> rfl
def c_is_number : Ct := ⟨1, Int, fun g => [.int g], fun _ => True, fun _ d => d = .bl true, fun _ => rfl⟩
theorem f_is_number {P : Program} {w : World} {K : PySem.W.Frag} {mg : Str → Option Value} {base : Heap} (W : Wd K mg) : Fn P w K mg base 1 "is_number" c_is_number := by
  refine W.fn 2 (d := HH.d_is_number) rfl rfl 2 rfl ["thing"] rfl rfl (fun _ _ _ _ _ _ us h => by match us, h with | [a0], _ => rfl) fun f fd F => ?_
  have S : FnScope ["thing"] ["thing"] HH.d_is_number.scope := C8.fnScope_by (by decide +kernel)
  have B := W.gb
  refine fn_ok (N := ["thing"]) (k := 0) F S rfl (fun cdv A outer s H E hr => ⟨_, (vb_one (vs_ret (v_and (v_isi (T := "int") B.isinstance B.int (vv 0)) (v_one (v_not (v_isi (T := "bool") B.isinstance B.bool (vv 0)))))))⟩) ?_
  rintro x -
  (conv => whnf)
  refine ⟨true, kit_ii, ?_⟩
  (conv => whnf)
  refine ⟨false, kit_ib, ?_⟩
  rfl
theorem kit2_t : kit2 "tuple" = some true := by decide +kernel
def c_is_couple : Ct := ⟨1, D × D, fun g => [.tup [g.1, g.2]], fun _ => True, fun _ d => d = .bl true, fun _ => rfl⟩
theorem f_is_couple {P : Program} {w : World} {K : PySem.W.Frag} {mg : Str → Option Value} {base : Heap} (W : Wd K mg) : Fn P w K mg base 1 "is_couple" c_is_couple := by
  refine W.fn 14 (d := HH.d_is_couple) rfl rfl 13 rfl ["thing"] rfl rfl (fun _ _ _ _ _ _ us h => by match us, h with | [a0], _ => rfl) fun f fd F => ?_
  have S : FnScope ["thing"] ["thing"] HH.d_is_couple.scope := C8.fnScope_by (by decide +kernel)
  have B := W.gb
  refine fn_ok (N := ["thing"]) (k := 0) F S rfl (fun cdv A outer s H E hr => ⟨_, (vb_one (vs_ret (v_and (v_isi2 B.isinstance B.list B.tuple (vv 0)) (v_one (VCp.ve (v_eqI (v_len B.len (vv 0)) v_int))))))⟩) ?_
  rintro ⟨x, y⟩ -
  (conv => whnf)
  refine ⟨true, kit2_t, ?_⟩
  (conv => whnf)
  refine ⟨fun _ => ?_, fun h => absurd rfl h⟩
  rfl
def c_is_start : Ct := ⟨1, Sta, fun g => [eS g], fun g => g.1 ≤ 1 ∧ g.2 ≤ 3, fun _ d => d = .bl true, fun _ => rfl⟩
theorem f_is_start {P : Program} {w : World} {K : PySem.W.Frag} {mg : Str → Option Value} {base : Heap} (W : Wd K mg) : Fn P w K mg base 2 "is_start" c_is_start := by
  refine W.fn 1 (d := HH.d_is_start) rfl rfl 1 rfl ["thing"] rfl rfl (fun _ _ _ _ _ _ us h => by match us, h with | [a0], _ => rfl) fun f fd F => ?_
  have S : FnScope ["thing"] ["thing"] HH.d_is_start.scope := C8.fnScope_by (by decide +kernel)
  have B := W.gb
  have G_is_whole := f_is_whole (P := P) (w := w) (base := base) W
  refine fn_ok (N := ["thing"]) (k := 1) F S rfl (fun cdv A outer s H E hr => ⟨_, (vb_cons (vs_if (vt_of (vw_or (vt_not (vt_val (v_isi2 B.isinstance B.list B.tuple (vv 0)))) (vw_or1 (vt_cmp (v_neI (v_len B.len (vv 0)) v_int)))))
 (vb_one (vs_ret v_bl))
 vb_nil)
 (vb_one (vs_ret (v_and (v_call G_is_whole hr (va_cons (v_ix (vv 0) v_int) (va_cons v_int (va_cons v_int va_nil)))) (v_one (v_call G_is_whole hr (va_cons (v_ix (vv 0) v_int) (va_cons v_int (va_cons (v_sub (v_glob B.words) v_int) va_nil)))))))))⟩) ?_
  rintro ⟨x, y⟩ ⟨h1, h2⟩
  dsimp only at h1 h2
  (conv => whnf)
  refine ⟨true, kit2_t, ?_⟩
  (conv => whnf)
  refine ⟨fun h => absurd rfl h, fun _ => ?_⟩
  (conv => whnf)
  refine ⟨_, at_0, ?_⟩
  (conv => whnf)
  refine ⟨((x : Int), 0, 1), rfl, trivial, ?_⟩
  rintro _ ⟨b, rfl, hb⟩
  dsimp only at hb
  cases hb.mpr (by omega)
  (conv => whnf)
  refine ⟨.int y, rfl, ?_⟩
  (conv => whnf)
  refine ⟨((y : Int), 0, 4 - 1), rfl, trivial, ?_⟩
  rintro _ ⟨b, rfl, hb⟩
  dsimp only at hb
  cases hb.mpr (by omega)
  rfl
def c_check_strength : Ct := ⟨1, Amt, fun g => [eA g], fun g => pAm g, fun g d => d = eA g, fun _ => rfl⟩
theorem f_check_strength {P : Program} {w : World} {K : PySem.W.Frag} {mg : Str → Option Value} {base : Heap} (W : Wd K mg) : Fn P w K mg base 2 "check_strength" c_check_strength := by
  refine W.fn 3 (d := HH.d_check_strength) rfl rfl 3 rfl ["thing"] rfl rfl (fun _ _ _ _ _ _ us h => by match us, h with | [a0], _ => rfl) fun f fd F => ?_
  have S : FnScope ["thing"] ["thing"] HH.d_check_strength.scope := C8.fnScope_by (by decide +kernel)
  have B := W.gb
  have G_is_number := f_is_number (P := P) (w := w) (base := base) W
  refine fn_ok (N := ["thing"]) (k := 1) F S rfl (fun cdv A outer s H E hr => ⟨_, (vb_cons (vs_if (vt_of (vw_or (vt_not (vt_val (v_isi2 B.isinstance B.list B.tuple (vv 0)))) (vw_or1 (vt_cmp (v_neI (v_len B.len (vv 0)) v_int)))))
 (vb_one vs_never)
 vb_nil)
 (vb_cons (vs_if (vt_of (vw_or (vt_not (vt_val (v_call G_is_number hr (va_cons (v_ix (vv 0) v_int) va_nil)))) (vw_or1 (vt_not (vt_val (v_call G_is_number hr (va_cons (v_ix (vv 0) v_int) va_nil)))))))
 (vb_one vs_never)
 vb_nil)
 (vb_cons (vs_if (vt_of (vw_or (vt_cmp (v_lt (v_ix (vv 0) v_int) v_int)) (vw_or1 (vt_cmp (v_lt (v_ix (vv 0) v_int) v_int)))))
 (vb_one vs_never)
 vb_nil)
 (vb_cons (vs_if (vt_cmp (v_neI (v_gcd B.gcd (va_cons (v_ix (vv 0) v_int) (va_cons (v_ix (vv 0) v_int) va_nil))) v_int))
 (vb_one vs_never)
 vb_nil)
 (vb_one (vs_ret (v_tup (va_cons (v_ix (vv 0) v_int) (va_cons (v_ix (vv 0) v_int) va_nil)))))))))⟩) ?_
  rintro ⟨x, y⟩ h
  have h1 := h.top
  have h2 := h.bot
  have h3 := h.low
  dsimp only at h1 h2 h3
  (conv => whnf)
  refine ⟨true, kit2_t, ?_⟩
  (conv => whnf)
  refine ⟨fun h => absurd rfl h, fun _ => ?_⟩
  (conv => whnf)
  refine ⟨.int x, rfl, ?_⟩
  (conv => whnf)
  refine ⟨x, rfl, trivial, ?_⟩
  rintro _ rfl
  (conv => whnf)
  refine ⟨.int y, rfl, ?_⟩
  (conv => whnf)
  refine ⟨y, rfl, trivial, ?_⟩
  rintro _ rfl
  (conv => whnf)
  refine ⟨.int x, rfl, ?_⟩
  (conv => whnf)
  refine ⟨fun h => absurd h (by omega), fun _ => ?_⟩
  (conv => whnf)
  refine ⟨.int y, rfl, ?_⟩
  (conv => whnf)
  refine ⟨fun h => absurd h (by omega), fun _ => ?_⟩
  (conv => whnf)
  refine ⟨.int x, rfl, ?_⟩
  (conv => whnf)
  refine ⟨.int y, rfl, ?_⟩
  (conv => whnf)
  refine ⟨fun h => absurd (show ((Nat.gcd x.natAbs y.natAbs : Nat) : Int) = 1 from by exact congrArg (fun z : Nat => (z : Int)) h3) h, fun _ => ?_⟩
  (conv => whnf)
  refine ⟨.int x, rfl, ?_⟩
  (conv => whnf)
  refine ⟨.int y, rfl, ?_⟩
  rfl
end LV
set_option Elab.async false
set_option linter.all false
set_option maxRecDepth 100000
set_option maxHeartbeats 4000000
namespace LV
open PySem PySem.Spec PyProof.Rows L2
def c_check_heard : Ct := ⟨4, List Hr × Nat × Int × Int, fun g => [eHs g.1, .int g.2.1, .int g.2.2.1, .int g.2.2.2], fun g => g.1.length ≤ 1000 ∧ (g.1.map (·.1)).Pairwise (· < ·) ∧ ∀ h ∈ g.1, h.1 < g.2.1 ∧ pAm h.2, fun g d => d = eHs g.1, fun _ => rfl⟩
theorem asc_near {hs : List Hr} (h : (hs.map (·.1)).Pairwise (· < ·)) {i j : Nat} {a b : Hr} (hi : hs[i]? = some a) (hj : hs[j]? = some b) (hij : i < j) : a.1 < b.1 := by
  obtain ⟨li, ei⟩ := List.getElem?_eq_some_iff.mp hi
  obtain ⟨lj, ej⟩ := List.getElem?_eq_some_iff.mp hj
  have := List.pairwise_iff_getElem.mp h i j (by simpa using li) (by simpa using lj) hij
  rw [List.getElem_map, List.getElem_map, ei, ej] at this
  exact this
theorem f_check_heard {P : Program} {w : World} {K : PySem.W.Frag} {mg : Str → Option Value} {base : Heap} (W : Wd K mg) : Fn P w K mg base 3 "check_heard" c_check_heard := by
  refine W.fn 15 (d := HH.d_check_heard) rfl rfl 14 rfl ["heard", "below", "level", "node"] rfl rfl (fun _ _ _ _ _ _ us h => by match us, h with | [a0, a1, a2, a3], _ => rfl) fun f fd F => ?_
  have S : FnScope ["heard", "below", "level", "node", "least", "entry", "found", "number", "strength"] ["heard", "below", "level", "node"] HH.d_check_heard.scope := C8.fnScope_by (by decide +kernel)
  have B := W.gb
  have G_is_whole := f_is_whole (P := P) (w := w) (base := base) W
  have G_is_couple := f_is_couple (P := P) (w := w) (base := base) W
  have G_check_strength := f_check_strength (P := P) (w := w) (base := base) W
  refine fn_ok (N := ["heard", "below", "level", "node", "least", "entry", "found", "number", "strength"]) (k := 2) F S rfl (fun cdv A outer s H E hr => ⟨_, (vb_cons (vs_if (vt_not (vt_val (v_isi2 B.isinstance B.list B.tuple (vv 0))))
 (vb_one vs_never)
 vb_nil)
 (vb_cons (vs_set (i := 4) S.nd v_int)
 (vb_cons (vs_for PassesOwn.never rfl (vi_tup (vv 0)) (vg_name 5 S.nd)
 (vb_cons (vs_if (vt_of (vw_or (vt_not (vt_val (v_call G_is_couple hr (va_cons (vv 5) va_nil)))) (vw_or1 (vt_not (vt_val (v_call G_is_whole hr (va_cons (v_ix (vv 5) v_int) (va_cons (vv 4) (va_cons (v_sub (vv 1) v_int) va_nil)))))))))
 (vb_one vs_never)
 vb_nil)
 (vb_one (vs_set (i := 4) S.nd (v_add (v_ix (vv 5) v_int) v_int)))))
 (vb_cons (vs_own (i := 6) S.nd (vl_lst va_nil))
 (vb_cons (vs_for PassesOwn.never rfl (vi_tup (vv 0)) (vg_tup (n := 2) rfl (vgs_cons (vg_name 7 S.nd) (vgs_cons (vg_name 8 S.nd) vgs_nil)))
 (vb_one (vs_try (vb_one (vs_append 6 (v_tup (va_cons (vv 7) (va_cons (v_call G_check_strength hr (va_cons (vv 8) va_nil)) va_nil))))))))
 (vb_frz 6 (vb_one (vs_ret (v_tuple B.tuple (vv 6))))))))))⟩) ?_
  rintro ⟨hs, b, lv, nd⟩ ⟨h0, h1, h2⟩
  dsimp only at h0 h1 h2
  (conv => whnf)
  refine ⟨true, kit2_t, ?_⟩
  (conv => whnf)
  refine wpFor_map eH hs (fun i Γ => ∃ m u a1 a2 a3, Γ = [.im (eHs hs), .im (.int b), .im (.int lv), .im (.int nd), .im (.int m), u, a1, a2, a3] ∧ 0 ≤ m ∧ ∀ j x, i ≤ j → hs[j]? = some x → m ≤ x.1) ?_ ?_ ⟨0, _, _, _, _, rfl, Int.le_refl _, fun j x _ _ => by omega⟩
  · rintro i ⟨n, a⟩ Γ N hi ⟨m, u, a1, a2, a3, rfl, hm0, hm⟩ hN
    have hb := (h2 _ (List.mem_of_getElem? hi)).1
    have hmn := hm i _ (Nat.le_refl _) hi
    dsimp only at hb hmn
    (conv => whnf)
    refine ⟨(.int n, eA a), rfl, trivial, ?_⟩
    rintro _ rfl
    (conv => whnf)
    refine ⟨_, at_0, ?_⟩
    (conv => whnf)
    refine ⟨((n : Int), m, (b : Int) - 1), rfl, trivial, ?_⟩
    rintro _ ⟨c, rfl, hc⟩
    dsimp only at hc
    cases hc.mpr (by omega)
    (conv => whnf)
    refine ⟨_, at_0, ?_⟩
    (conv => whnf)
    refine hN _ ⟨(n : Int) + 1, _, _, _, _, rfl, by omega, fun j x hj hx => ?_⟩
    have := asc_near h1 hi hx (by omega)
    dsimp only at this
    omega
  · rintro Γ ⟨m, u, a1, a2, a3, rfl, _, _⟩
    (conv => whnf)
    refine wpFor_map eH hs (fun i Γ => ∃ a2 a3, Γ = [.im (eHs hs), .im (.int b), .im (.int lv), .im (.int nd), .im (.int m), u, .ow ((hs.take i).map eH), a2, a3]) ?_ ?_ ⟨_, _, rfl⟩
    · rintro i ⟨n, a⟩ Γ N hi ⟨a2, a3, rfl⟩ hN
      have ha := (h2 _ (List.mem_of_getElem? hi)).2
      (conv => whnf)
      refine ⟨rfl, ?_⟩
      (conv => whnf)
      refine ⟨a, rfl, ha, ?_⟩
      rintro _ rfl
      (conv => whnf)
      refine ⟨?_, ?_⟩
      · rw [List.length_map, List.length_take]
        omega
      (conv => whnf)
      exact hN _ ⟨_, _, by rw [take_one hi, List.map_append] <;> rfl⟩
    · rintro Γ ⟨a2, a3, rfl⟩
      rw [List.take_length]
      (conv => whnf)
      rfl
def c_check_node : Ct := ⟨4, Node × Nat × Int × Int, fun g => [eN g.1, .int g.2.1, .int g.2.2.1, .int g.2.2.2], fun g => g.1.1 < g.2.1 ∧ g.1.2.length ≤ 1000 ∧ (g.1.2.map (·.1)).Pairwise (· < ·) ∧ ∀ h ∈ g.1.2, h.1 < g.2.1 ∧ pAm h.2, fun g d => d = eN g.1, fun _ => rfl⟩
theorem f_check_node {P : Program} {w : World} {K : PySem.W.Frag} {mg : Str → Option Value} {base : Heap} (W : Wd K mg) : Fn P w K mg base 4 "check_node" c_check_node := by
  refine W.fn 16 (d := HH.d_check_node) rfl rfl 15 rfl ["thing", "below", "level", "node"] rfl rfl (fun _ _ _ _ _ _ us h => by match us, h with | [a0, a1, a2, a3], _ => rfl) fun f fd F => ?_
  have S : FnScope ["thing", "below", "level", "node"] ["thing", "below", "level", "node"] HH.d_check_node.scope := C8.fnScope_by (by decide +kernel)
  have B := W.gb
  have G_is_couple := f_is_couple (P := P) (w := w) (base := base) W
  have G_is_whole := f_is_whole (P := P) (w := w) (base := base) W
  have G_check_heard := f_check_heard (P := P) (w := w) (base := base) W
  refine fn_ok (N := ["thing", "below", "level", "node"]) (k := 3) F S rfl (fun cdv A outer s H E hr => ⟨_, (vb_cons (vs_if (vt_not (vt_val (v_call G_is_couple hr (va_cons (vv 0) va_nil))))
 (vb_one vs_never)
 vb_nil)
 (vb_cons (vs_if (vt_not (vt_val (v_call G_is_whole hr (va_cons (v_ix (vv 0) v_int) (va_cons v_int (va_cons (v_sub (vv 1) v_int) va_nil))))))
 (vb_one vs_never)
 vb_nil)
 (vb_one (vs_ret (v_tup (va_cons (v_ix (vv 0) v_int) (va_cons (v_call G_check_heard hr (va_cons (v_ix (vv 0) v_int) (va_cons (vv 1) (va_cons (vv 2) (va_cons (vv 3) va_nil))))) va_nil)))))))⟩) ?_
  rintro ⟨⟨n, hs⟩, b, lv, nd⟩ ⟨h1, h2, h3, h4⟩
  dsimp only at h1 h2 h3 h4
  (conv => whnf)
  refine ⟨(.int n, eHs hs), rfl, trivial, ?_⟩
  rintro _ rfl
  (conv => whnf)
  refine ⟨_, at_0, ?_⟩
  (conv => whnf)
  refine ⟨((n : Int), 0, (b : Int) - 1), rfl, trivial, ?_⟩
  rintro _ ⟨c, rfl, hc⟩
  dsimp only at hc
  cases hc.mpr (by omega)
  (conv => whnf)
  refine ⟨_, at_0, ?_⟩
  (conv => whnf)
  refine ⟨eHs hs, rfl, ?_⟩
  (conv => whnf)
  refine ⟨(hs, b, lv, nd), rfl, ⟨h2, h3, h4⟩, ?_⟩
  rintro _ rfl
  rfl
def argL : List Sta ⊕ (List Node × Nat × Nat) → List D
  | .inl st => [.tup (st.map eS), .int 0, .int 0]
  | .inr (l, b, k) => [eNs l, .int b, .int ((k + 1 : Nat) : Int)]
def resL : List Sta ⊕ (List Node × Nat × Nat) → D
  | .inl st => .tup (st.map eS)
  | .inr (l, _, _) => eNs l
def preL : List Sta ⊕ (List Node × Nat × Nat) → Prop
  | .inl st => 1 ≤ st.length ∧ st.length ≤ 4 ∧ (∀ s ∈ st, s.1 ≤ 1 ∧ s.2 ≤ 3) ∧ st.Pairwise fun a b => dlt (eS a) (eS b) = true
  | .inr (l, b, _) => GoodL b l ∧ b ≤ 60
def c_check_level_views : Ct := ⟨3, List Sta ⊕ (List Node × Nat × Nat), argL, preL, fun g d => d = resL g, fun g => by rcases g with st | ⟨l, b, k⟩ <;> rfl⟩
theorem asc_len {hs : List Hr} {b : Nat} (h : (hs.map (·.1)).Pairwise (· < ·)) (hb : ∀ x ∈ hs, x.1 < b) : hs.length ≤ b := by
  have := nodup_len b (hs.map (·.1)) (List.Pairwise.imp (fun h => Nat.ne_of_lt h) h) fun y hy => by
    obtain ⟨x, hx, rfl⟩ := List.mem_map.mp hy
    exact hb x hx
  rw [List.length_map] at this
  exact this
theorem pl_eN (n : Node) : pl 40 (eN n) := fun x hx => by
  rcases List.mem_cons.mp hx with rfl | hx
  · trivial
  · rw [List.mem_singleton.mp hx]
    intro y hy
    obtain ⟨h, _, rfl⟩ := List.mem_map.mp hy
    intro z hz
    rcases List.mem_cons.mp hz with rfl | hz
    · trivial
    · rw [List.mem_singleton.mp hz]
      exact pl_mono (by omega : 1 ≤ 37) fun w hw => by
        rcases List.mem_cons.mp hw with rfl | hw
        · trivial
        · rw [List.mem_singleton.mp hw]
          trivial
theorem pl_eS (s : Sta) : pl 40 (eS s) := fun x hx => by
  rcases List.mem_cons.mp hx with rfl | hx
  · trivial
  · rw [List.mem_singleton.mp hx]
    trivial
theorem alike_S (a b : Sta) : PySem.W.alike (toP (eS a)) (toP (eS b)) = true := by
  show PySem.W.alike (.tuple [.int a.1, .int a.2]) (.tuple [.int b.1, .int b.2]) = true
  simp [PySem.W.alike, PySem.W.alikeAll]
theorem pair_at {α : Type} {R : α → α → Prop} {xs : List α} (h : xs.Pairwise R) {i j : Nat} {a b : α} (hi : xs[i]? = some a) (hj : xs[j]? = some b) (hij : i < j) : R a b := by
  obtain ⟨li, ei⟩ := List.getElem?_eq_some_iff.mp hi
  obtain ⟨lj, ej⟩ := List.getElem?_eq_some_iff.mp hj
  have := List.pairwise_iff_getElem.mp h i j li lj hij
  rw [ei, ej] at this
  exact this
theorem f_check_level_views {P : Program} {w : World} {K : PySem.W.Frag} {mg : Str → Option Value} {base : Heap} (W : Wd K mg) : Fn P w K mg base 5 "check_level_views" c_check_level_views := by
  refine W.fn 17 (d := HH.d_check_level_views) rfl rfl 70 rfl ["things", "below", "level"] rfl rfl (fun _ _ _ _ _ _ us h => by match us, h with | [a0, a1, a2], _ => rfl) fun f fd F => ?_
  have S : FnScope ["things", "below", "level", "found", "node", "thing", "checked"] ["things", "below", "level"] HH.d_check_level_views.scope := C8.fnScope_by (by decide +kernel)
  have B := W.gb
  have G_check_node := f_check_node (P := P) (w := w) (base := base) W
  have G_is_start := f_is_start (P := P) (w := w) (base := base) W
  refine fn_ok (N := ["things", "below", "level", "found", "node", "thing", "checked"]) (k := 4) F S rfl (fun cdv A outer s H E hr => ⟨_, (vb_cons (vs_if (vt_of (vw_or (vt_not (vt_val (v_isi2 B.isinstance B.list B.tuple (vv 0)))) (vw_or1 (vt_not (vt_lele v_int (v_len B.len (vv 0)) (v_glob B.nodes))))))
 (vb_one vs_never)
 vb_nil)
 (vb_cons (vs_own (i := 3) S.nd (vl_lst va_nil))
 (vb_cons (vs_for PassesOwn.never rfl (vi_enumT B.enumerate (vv 0)) (vg_tup (n := 2) rfl (vgs_cons (vg_name 4 S.nd) (vgs_cons (vg_name 5 S.nd) vgs_nil)))
 (vb_cons (vs_if (vt_cmp (v_gt (vv 2) v_int))
 (vb_one (vs_set (i := 6) S.nd (v_call G_check_node hr (va_cons (vv 5) (va_cons (vv 1) (va_cons (vv 2) (va_cons (vv 4) va_nil)))))))
 (vb_one (vs_if (vt_val (v_call G_is_start hr (va_cons (vv 5) va_nil)))
 (vb_one (vs_set (i := 6) S.nd (v_tup (va_cons (v_ix (vv 5) v_int) (va_cons (v_ix (vv 5) v_int) va_nil)))))
 (vb_one vs_never))))
 (vb_cons (vs_if (vt_of (vw_and (vt_cmp (v_gt (vv 4) v_int)) (vw_and1 (vt_cmp (v_leT hr (vv 6) (v_ixO 3 (v_sub (vv 4) v_int)))))))
 (vb_one vs_never)
 vb_nil)
 (vb_one (vs_append 3 (vv 6))))))
 (vb_frz 3 (vb_one (vs_ret (v_tuple B.tuple (vv 3))))))))⟩) ?_
  rintro (st | ⟨l, b, k⟩) hp
  · obtain ⟨h1, h2, h3, h4⟩ := hp
    (conv => whnf)
    refine ⟨true, kit2_t, ?_⟩
    (conv => whnf)
    refine ⟨fun _ => ?_, fun h => absurd (by rw [List.length_map]; omega) h⟩
    (conv => whnf)
    refine ⟨fun _ => ?_, fun h => absurd (by rw [List.length_map]; omega) h⟩
    (conv => whnf)
    refine wpFor_enum eS st (fun i Γ => ∃ a1 a2 a3, Γ = [.im (.tup (st.map eS)), .im (.int 0), .im (.int 0), .ow ((st.take i).map eS), a1, a2, a3]) ?_ ?_ ⟨_, _, _, rfl⟩
    · rintro i s Γ N hi ⟨a1, a2, a3, rfl⟩ hN
      have hil : i < st.length := (List.getElem?_eq_some_iff.mp hi).1
      have hs := h3 s (List.mem_of_getElem? hi)
      (conv => whnf)
      refine ⟨rfl, ?_⟩
      (conv => whnf)
      refine ⟨fun h => absurd h (by omega), fun _ => ?_⟩
      (conv => whnf)
      refine ⟨s, rfl, hs, ?_⟩
      rintro _ rfl
      (conv => whnf)
      refine ⟨_, at_0, ?_⟩
      (conv => whnf)
      refine ⟨.int s.2, rfl, ?_⟩
      (conv => whnf)
      refine ⟨fun hpos => ?_, fun hz => ?_⟩
      · (conv => whnf)
        obtain ⟨p, hpv⟩ : ∃ p, st[i - 1]? = some p := ⟨_, List.getElem?_eq_getElem (by omega)⟩
        refine ⟨eS p, ?_, ?_⟩
        · rw [show (i : Int) - 1 = ((i - 1 : Nat) : Int) by omega]
          exact at_map (by rw [List.getElem?_take_of_lt (by omega)]; exact hpv)
        have hlt : dlt (eS p) (eS s) = true := pair_at h4 hpv hi (by omega)
        (conv => whnf)
        refine ⟨pl_eS s, pl_eS p, alike_S s p, (fun z => nomatch z), fun z => ?_, fun _ => ?_⟩
        · rw [dle_eq, show D.tup [.int s.1, .int s.2] = eS s from rfl, hlt] at z
          cases z
        · (conv => whnf)
          refine ⟨?_, ?_⟩
          · rw [List.length_map, List.length_take]
            omega
          (conv => whnf)
          exact hN _ ⟨_, _, _, by rw [take_one hi, List.map_append] <;> rfl⟩
      · (conv => whnf)
        refine ⟨?_, ?_⟩
        · rw [List.length_map, List.length_take]
          omega
        (conv => whnf)
        exact hN _ ⟨_, _, _, by rw [take_one hi, List.map_append] <;> rfl⟩
    · rintro Γ ⟨a1, a2, a3, rfl⟩
      rw [List.take_length]
      (conv => whnf)
      rfl
  · obtain ⟨gl, hb⟩ := hp
    have h1 := gl.lo
    have h2 := gl.hi
    (conv => whnf)
    refine ⟨true, kit2_t, ?_⟩
    (conv => whnf)
    refine ⟨fun _ => ?_, fun h => absurd (by rw [List.length_map]; omega) h⟩
    (conv => whnf)
    refine ⟨fun _ => ?_, fun h => absurd (by rw [List.length_map]; omega) h⟩
    (conv => whnf)
    refine wpFor_enum eN l (fun i Γ => ∃ a1 a2 a3, Γ = [.im (eNs l), .im (.int b), .im (.int ((k + 1 : Nat) : Int)), .ow ((l.take i).map eN), a1, a2, a3]) ?_ ?_ ⟨_, _, _, rfl⟩
    · rintro i s Γ N hi ⟨a1, a2, a3, rfl⟩ hN
      have hil : i < l.length := (List.getElem?_eq_some_iff.mp hi).1
      have hm := List.mem_of_getElem? hi
      have hnr := gl.near s hm
      have has := gl.asc s hm
      have hle := asc_len has fun x hx => (hnr x hx).1
      (conv => whnf)
      refine ⟨rfl, ?_⟩
      (conv => whnf)
      refine ⟨fun _ => ?_, fun h => absurd (by omega) h⟩
      (conv => whnf)
      refine ⟨(s, b, ((k + 1 : Nat) : Int), (i : Int)), rfl, ⟨gl.par s hm, by dsimp only; omega, has, hnr⟩, ?_⟩
      rintro _ rfl
      (conv => whnf)
      refine ⟨fun hpos => ?_, fun hz => ?_⟩
      · (conv => whnf)
        obtain ⟨p, hpv⟩ : ∃ p, l[i - 1]? = some p := ⟨_, List.getElem?_eq_getElem (by omega)⟩
        refine ⟨eN p, ?_, ?_⟩
        · rw [show (i : Int) - 1 = ((i - 1 : Nat) : Int) by omega]
          exact at_map (by rw [List.getElem?_take_of_lt (by omega)]; exact hpv)
        have hlt : dlt (eN p) (eN s) = true := pair_at gl.srt hpv hi (by omega)
        (conv => whnf)
        refine ⟨pl_eN s, pl_eN p, by rw [pN_eq, pN_eq]; exact alike_N s p, (fun z => nomatch z), fun z => ?_, fun _ => ?_⟩
        · rw [dle_eq, hlt] at z
          cases z
        · (conv => whnf)
          refine ⟨?_, ?_⟩
          · rw [List.length_map, List.length_take]
            omega
          (conv => whnf)
          exact hN _ ⟨_, _, _, by rw [take_one hi, List.map_append] <;> rfl⟩
      · (conv => whnf)
        refine ⟨?_, ?_⟩
        · rw [List.length_map, List.length_take]
          omega
        (conv => whnf)
        exact hN _ ⟨_, _, _, by rw [take_one hi, List.map_append] <;> rfl⟩
    · rintro Γ ⟨a1, a2, a3, rfl⟩
      rw [List.take_length]
      (conv => whnf)
      rfl
end LV
set_option Elab.async false
set_option linter.all false
set_option maxRecDepth 100000
set_option maxHeartbeats 4000000
namespace LV
open PySem PySem.Spec PyProof.Rows L2
def c_check_levels : Ct := ⟨1, Vw × List D, fun g => [.tup g.2], fun g => g.2 = lvs g.1 ∧ Full g.1, fun g d => d = eV g.1, fun _ => rfl⟩
theorem rng0 (n : Nat) : rng 0 n = (List.range n).map eI := by
  unfold rng
  refine List.map_congr_left fun i _ => ?_
  rw [Int.zero_add] <;> rfl
theorem pl_eLn (ns : List Nat) : pl 40 (eLn ns) := fun d hd => by
  obtain ⟨o, _, rfl⟩ := List.mem_map.mp hd
  trivial
theorem enumD_get {xs : List D} {i : Nat} {d : D} (h : (enumD xs)[i]? = some d) : ∃ x, xs[i]? = some x ∧ d = .tup [.int (i : Nat), x] := by
  have hl := (List.getElem?_eq_some_iff.mp h).1
  rw [enumD_len] at hl
  have e := List.getElem?_eq_getElem hl
  rw [enumD_at e] at h
  exact ⟨_, e, (Option.some.inj h).symm⟩
/-- the size below level i -/
def szB (v : Vw) : Nat → Nat
  | 0 => 0
  | i + 1 => sz v i
theorem f_check_levels {P : Program} {w : World} {K : PySem.W.Frag} {mg : Str → Option Value} {base : Heap} (W : Wd K mg) : Fn P w K mg base 6 "check_levels" c_check_levels := by
  refine W.fn 19 (d := HH.d_check_levels) rfl rfl 17 rfl ["levels"] rfl rfl (fun _ _ _ _ _ _ us h => by match us, h with | [a0], _ => rfl) fun f fd F => ?_
  have S : FnScope ["levels", "found", "below", "level", "things", "above", "reached", "node"] ["levels"] HH.d_check_levels.scope := C8.fnScope_by (by decide +kernel)
  have B := W.gb
  have G_check_level_views := f_check_level_views (P := P) (w := w) (base := base) W
  have G_reached_below := f_reached_below (P := P) (w := w) (base := base) W
  refine fn_ok (N := ["levels", "found", "below", "level", "things", "above", "reached", "node"]) (k := 5) F S rfl (fun cdv A outer s H E hr => ⟨_, (vb_cons (vs_if (vt_of (vw_or (vt_not (vt_val (v_isi2 B.isinstance B.list B.tuple (vv 0)))) (vw_or1 (vt_not (vt_lele v_int (v_len B.len (vv 0)) (v_glob B.levels))))))
 (vb_one vs_never)
 vb_nil)
 (vb_cons (vs_own (i := 1) S.nd (vl_lst va_nil))
 (vb_cons (vs_set (i := 2) S.nd v_int)
 (vb_cons (vs_for PassesOwn.never rfl (vi_enumT B.enumerate (vv 0)) (vg_tup (n := 2) rfl (vgs_cons (vg_name 3 S.nd) (vgs_cons (vg_name 4 S.nd) vgs_nil)))
 (vb_cons (vs_append 1 (v_call G_check_level_views hr (va_cons (vv 4) (va_cons (vv 2) (va_cons (vv 3) va_nil)))))
 (vb_one (vs_set (i := 2) S.nd (v_len B.len (v_ixO 1 (vv 3)))))))
 (vb_cons (vs_if (vt_cmp (v_gt (vv 2) v_int))
 (vb_one vs_never)
 vb_nil)
 (vb_cons (vs_for PassesOwn.never rfl (vi_rng1 B.range (va_cons (v_sub (v_lenO 1 B.len) v_int) va_nil)) (vg_name 3 S.nd)
 (vb_cons (vs_set (i := 5) S.nd (v_ixO 1 (v_add (vv 3) v_int)))
 (vb_cons (vs_set (i := 6) S.nd (v_call G_reached_below hr (va_cons (vv 5) (va_cons (ve_of (vl_listR rfl B.list B.range (v_len B.len (vv 5)))) va_nil))))
 (vb_one (vs_for PassesOwn.never rfl (vi_rng1 B.range (va_cons (v_len B.len (v_ixO 1 (vv 3))) va_nil)) (vg_name 7 S.nd)
 (vb_one (vs_if (vt_cmp (v_notin hr (vv 7) (vv 6)))
 (vb_one vs_never)
 vb_nil)))))))
 (vb_frz 1 (vb_one (vs_ret (v_tuple B.tuple (vv 1)))))))))))⟩) ?_
  rintro ⟨v, vs⟩ ⟨hvs, h⟩
  dsimp only at hvs h
  have g := h.good
  have hr := g.rounds
  have hln : vs.length = v.up.length + 1 := by rw [hvs]; exact lvs_len v
  have lup : ∀ {k l}, v.up[k]? = some l → vs[k + 1]? = some (eNs l) := fun hl => by rw [hvs]; exact lvs_up hl
  (conv => whnf)
  refine ⟨true, kit2_t, ?_⟩
  (conv => whnf)
  refine ⟨fun _ => ?_, fun q => absurd (by dsimp only; omega) q⟩
  (conv => whnf)
  refine ⟨fun _ => ?_, fun q => absurd (by dsimp only; omega) q⟩
  (conv => whnf)
  refine wpFor_ix (enumD vs) (fun i Γ => ∃ a1 a2 a3 a4 a5, Γ = [.im (D.tup vs), .ow (vs.take i), .im (.int (szB v i)), a1, a2, a3, a4, a5]) ?_ ?_ ⟨_, _, _, _, _, rfl⟩
  · rintro i d Γ N hd ⟨a1, a2, a3, a4, a5, rfl⟩ hN
    obtain ⟨x, hx, rfl⟩ := enumD_get hd
    have hil : i < vs.length := (List.getElem?_eq_some_iff.mp hx).1
    have key : ∃ gh, [x, D.int (szB v i), D.int (i : Nat)] = argL gh ∧ preL gh ∧ resL gh = x ∧ ∃ xs, x = .tup xs ∧ xs.length = sz v i := by
      cases i with
      | zero =>
        have hx' : x = .tup (v.st.map eS) := by
          rw [hvs] at hx
          exact (Option.some.inj hx).symm
        subst hx'
        exact ⟨.inl v.st, rfl, ⟨g.lo, g.hi, g.stv, g.sts⟩, rfl, _, rfl, by rw [List.length_map] <;> rfl⟩
      | succ k =>
        obtain ⟨l, hl⟩ := up_get (v := v) (k := k) (by omega)
        rw [lup hl] at hx
        cases hx
        have := (g.szb (k := k) (by omega)).2
        exact ⟨.inr (l, sz v k, k), rfl, ⟨g.ups k l hl, by omega⟩, rfl, _, rfl, by rw [List.length_map, sz_up hl]⟩
    obtain ⟨gh, k1, k2, k3, xs, k4, k5⟩ := key
    (conv => whnf)
    refine ⟨rfl, ?_⟩
    (conv => whnf)
    refine ⟨gh, k1, k2, ?_⟩
    rintro _ rfl
    rw [k3]
    refine ⟨by rw [List.length_take]; omega, ?_⟩
    (conv => whnf)
    have e1 : vs.take i ++ [x] = vs.take (i + 1) := (take_one hx).symm
    refine ⟨.tup xs, ?_, ?_⟩
    · show atI (vs.take i ++ [x]) (i : Nat) = _
      rw [e1, atI_cast, List.getElem?_take_of_lt (by omega), hx, k4]
    (conv => whnf)
    exact hN _ ⟨_, _, _, _, _, by rw [e1, k5] <;> rfl⟩
  · rintro Γ ⟨a1, a2, a3, a4, a5, rfl⟩
    rw [enumD_len, hln]
    have e0 : szB v (v.up.length + 1) = 1 := h.top
    rw [e0, ← hln, List.take_length]
    (conv => whnf)
    refine ⟨fun q => absurd q (by decide), fun _ => ?_⟩
    (conv => whnf)
    have e5 : ((vs.length : Nat) : Int) - 1 = (v.up.length : Int) := by omega
    rw [e5]
    refine ⟨by unfold small; omega, ?_⟩
    show wpFor _ _ _ (rng 0 v.up.length) _
    refine wpFor_rng 0 v.up.length (fun i Γ => ∃ a1 a3 a4 a5, Γ = [.im (D.tup vs), .ow vs, .im (.int ((1 : Nat) : Int)), a1, .no, a3, a4, a5] ∨ ∃ a1 a2 a3 a4 a5, Γ = [.im (D.tup vs), .ow vs, .im (.int ((1 : Nat) : Int)), a1, a2, a3, a4, a5]) ?_ ?_ ?_
    · rintro i Γ N hi hI hN
      obtain ⟨a1, a2, a3, a4, a5, rfl⟩ : ∃ a1 a2 a3 a4 a5, Γ = [.im (D.tup vs), .ow vs, .im (.int ((1 : Nat) : Int)), a1, a2, a3, a4, a5] := by
        rcases hI with ⟨_, _, _, _, rfl | h⟩
        · exact ⟨_, _, _, _, _, rfl⟩
        · exact h
      rw [Int.zero_add]
      obtain ⟨l, hl⟩ := up_get (v := v) (k := i) hi
      have gl := g.ups i l hl
      have gz := g.szb (k := i) (by omega)
      obtain ⟨ys, hy, hyl⟩ := lvs_any (v := v) (k := i) (by omega)
      have gl2 := gl.hi
      (conv => whnf)
      refine ⟨eNs l, at_of1 (lup hl), ?_⟩
      (conv => whnf)
      refine ⟨by rw [List.length_map]; omega, by rw [List.length_map]; omega, ?_⟩
      (conv => whnf)
      refine ⟨(l, List.range l.length, sz v i), ?_, ⟨fun x hx => List.mem_range.mp hx, by dsimp only; omega, fun n hn => ⟨gl.par n hn, fun h hh => (gl.near n hn h hh).1⟩⟩, ?_⟩
      · show [eNs l, D.lst (rng 0 (((l.map eN).length : Nat) : Int).toNat)] = [eNs l, eLn (List.range l.length)]
        rw [rng0, List.length_map] <;> rfl
      rintro _ rfl
      (conv => whnf)
      refine ⟨.tup ys, at_of (by rw [hvs]; exact hy), ?_⟩
      (conv => whnf)
      refine ⟨by unfold small; rw [hyl]; omega, ?_⟩
      show wpFor _ _ _ (rng 0 ys.length) _
      rw [hyl]
      refine wpFor_rng 0 (sz v i) (fun j Γ => ∃ a5, Γ = [.im (D.tup vs), .ow vs, .im (.int ((1 : Nat) : Int)), .im (.int i), a2, .im (eNs l), .im (eLn (rchL l (List.range l.length) (sz v i))), a5]) ?_ ?_ ⟨_, rfl⟩
      · rintro j Γ N2 hj ⟨a5, rfl⟩ hN2
        rw [Int.zero_add]
        (conv => whnf)
        refine ⟨trivial, pl_eLn _, fun _ => ?_, fun q => absurd ?_ q⟩
        · (conv => whnf)
          exact hN2 _ ⟨_, rfl⟩
        · refine List.mem_map.mpr ⟨j, rchL_mem.mpr ⟨hj, ?_⟩, rfl⟩
          obtain ⟨n, hn, hh⟩ := h.all i l hl j hj
          obtain ⟨x, hx⟩ := List.mem_iff_getElem?.mp hn
          exact rchB_iff.mpr ⟨x, List.mem_range.mpr (List.getElem?_eq_some_iff.mp hx).1, n, hx, hh⟩
      · rintro Γ ⟨a5, rfl⟩
        (conv => whnf)
        exact hN _ ⟨a1, a3, a4, a5, .inr ⟨_, _, _, _, _, rfl⟩⟩
    · rintro Γ hI
      obtain ⟨a1, a2, a3, a4, a5, rfl⟩ : ∃ a1 a2 a3 a4 a5, Γ = [.im (D.tup vs), .ow vs, .im (.int ((1 : Nat) : Int)), a1, a2, a3, a4, a5] := by
        rcases hI with ⟨_, _, _, _, rfl | h⟩
        · exact ⟨_, _, _, _, _, rfl⟩
        · exact h
      (conv => whnf)
      exact congrArg D.tup hvs
    · exact ⟨a1, a1, a1, a1, .inr ⟨_, _, _, _, _, rfl⟩⟩
def c_View_init : Ct := ⟨1, Vw, fun g => [eV g], fun g => Full g, fun g d => d = eView g, fun _ => rfl⟩
theorem f_View_init {P : Program} {w : World} {K : PySem.W.Frag} {mg : Str → Option Value} {base : Heap} (W : Wd K mg) : Mkr P w K mg base 7 "View" c_View_init := by
  refine W.mkr 22 (d := HH.d_View_init) rfl rfl 88 rfl 90 rfl ["self", "levels"] rfl rfl (fun _ _ _ _ _ _ us h => by match us, h with | [a0, a1], _ => rfl) fun f fd F => ?_
  have S : FnScope ["self", "levels"] ["self", "levels"] HH.d_View_init.scope := C8.fnScope_by (by decide +kernel)
  have B := W.gb
  have G_check_levels := f_check_levels (P := P) (w := w) (base := base) W
  refine init_ok (N := ["self", "levels"]) (k := 6) F S rfl (fun cdv A outer s H E hr => ⟨_, (vb_cons (vs_fld 0 (v_call G_check_levels hr (va_cons (vv 1) va_nil)) B.cView B.aV1)
 (vb_one (vs_fld 0 (v_sub (v_len B.len (v_fldO 0 B.cView B.aV1)) v_int) B.cView B.aV2)))⟩) ?_
  rintro x (v : Vw) (h : Full v)
  (conv => whnf)
  refine ⟨(v, lvs v), rfl, ⟨rfl, h⟩, ?_⟩
  rintro _ rfl
  (conv => whnf)
  refine ⟨rfl, by decide, by decide +kernel, ?_⟩
  (conv => whnf)
  refine ⟨rfl, eV v, rfl, ?_⟩
  (conv => whnf)
  refine ⟨rfl, by decide, by decide +kernel, ?_⟩
  (conv => whnf)
  refine ⟨_, _, rfl, ?_⟩
  show D.obj _ _ [eV v, D.int ((((D.tup (v.st.map eS) :: v.up.map eNs).length : Nat) : Int) - 1)] = eView v
  rw [List.length_cons, List.length_map, show ((v.up.length + 1 : Nat) : Int) - 1 = (v.up.length : Int) by omega] <;> rfl
def c_ShortFault_init : Ct := ⟨2, D × D, fun g => [g.1, g.2], fun _ => True, fun g d => d = .obj "ShortFault" ["what", "level"] [g.1, g.2], fun _ => rfl⟩
theorem f_ShortFault_init {P : Program} {w : World} {K : PySem.W.Frag} {mg : Str → Option Value} {base : Heap} (W : Wd K mg) : Mkr P w K mg base 1 "ShortFault" c_ShortFault_init := by
  refine W.mkr 28 (d := HH.d_ShortFault_init) rfl rfl 102 rfl 104 rfl ["self", "what", "level"] rfl rfl (fun _ _ _ _ _ _ us h => by match us, h with | [a0, a1, a2], _ => rfl) fun f fd F => ?_
  have S : FnScope ["self", "what", "level"] ["self", "what", "level"] HH.d_ShortFault_init.scope := C8.fnScope_by (by decide +kernel)
  have B := W.gb
  refine init_ok (N := ["self", "what", "level"]) (k := 0) F S rfl (fun cdv A outer s H E hr => ⟨_, (vb_cons (vs_fld 0 (vv 1) B.cFault B.aF1)
 (vb_one (vs_fld 0 (vv 2) B.cFault B.aF2)))⟩) ?_
  rintro x ⟨a, b⟩ -
  (conv => whnf)
  refine ⟨rfl, by decide, by decide +kernel, ?_⟩
  (conv => whnf)
  refine ⟨rfl, by decide, by decide +kernel, ?_⟩
  (conv => whnf)
  exact ⟨_, _, rfl, rfl⟩
def c_ShortPaper_init : Ct := ⟨5, D × D × D × D × D, fun g => [g.1, g.2.1, g.2.2.1, g.2.2.2.1, g.2.2.2.2], fun _ => True, fun g d => d = .obj "ShortPaper" ["found", "levels", "numbers", "houses", "counts", "told"] [g.1, g.2.1, g.2.2.1, g.2.2.2.1, g.2.2.2.2, .tup [g.1, g.2.1, g.2.2.1, g.2.2.2.1, g.2.2.2.2]], fun _ => rfl⟩
theorem f_ShortPaper_init {P : Program} {w : World} {K : PySem.W.Frag} {mg : Str → Option Value} {base : Heap} (W : Wd K mg) : Mkr P w K mg base 1 "ShortPaper" c_ShortPaper_init := by
  refine W.mkr 27 (d := HH.d_ShortPaper_init) rfl rfl 93 rfl 95 rfl ["self", "found", "levels", "numbers", "houses", "counts"] rfl rfl (fun _ _ _ _ _ _ us h => by match us, h with | [a0, a1, a2, a3, a4, a5], _ => rfl) fun f fd F => ?_
  have S : FnScope ["self", "found", "levels", "numbers", "houses", "counts"] ["self", "found", "levels", "numbers", "houses", "counts"] HH.d_ShortPaper_init.scope := C8.fnScope_by (by decide +kernel)
  have B := W.gb
  refine init_ok (N := ["self", "found", "levels", "numbers", "houses", "counts"]) (k := 0) F S rfl (fun cdv A outer s H E hr => ⟨_, (vb_cons (vs_fld 0 (vv 1) B.cPaper B.aP1)
 (vb_cons (vs_fld 0 (vv 2) B.cPaper B.aP2)
 (vb_cons (vs_fld 0 (vv 3) B.cPaper B.aP3)
 (vb_cons (vs_fld 0 (vv 4) B.cPaper B.aP4)
 (vb_cons (vs_fld 0 (vv 5) B.cPaper B.aP5)
 (vb_one (vs_fld 0 (v_tup (va_cons (vv 1) (va_cons (vv 2) (va_cons (vv 3) (va_cons (vv 4) (va_cons (vv 5) va_nil)))))) B.cPaper B.aP6)))))))⟩) ?_
  rintro x ⟨a, b, c, d, e⟩ -
  (conv => whnf)
  refine ⟨rfl, by decide, by decide +kernel, ?_⟩
  (conv => whnf)
  refine ⟨rfl, by decide, by decide +kernel, ?_⟩
  (conv => whnf)
  refine ⟨rfl, by decide, by decide +kernel, ?_⟩
  (conv => whnf)
  refine ⟨rfl, by decide, by decide +kernel, ?_⟩
  (conv => whnf)
  refine ⟨rfl, by decide, by decide +kernel, ?_⟩
  (conv => whnf)
  refine ⟨rfl, by decide, by decide +kernel, ?_⟩
  (conv => whnf)
  exact ⟨_, _, rfl, rfl⟩
end LV
set_option Elab.async false
set_option linter.all false
set_option maxRecDepth 100000
set_option maxHeartbeats 4000000
namespace LV
open PySem PySem.Spec PyProof.Rows L2
def eNmF (o : Nat) (ks : List Nat) : List (Key × D) := (ks.zipIdx o).map fun p => (kI (p.1 : Nat), .int (p.2 : Nat))
abbrev eNm (ks : List Nat) : List (Key × D) := eNmF 0 ks
theorem eNm_val : ∀ (ks : List Nat) (o y : Nat), y ∈ ks → valD (eNmF o ks) (kI (y : Nat)) = some (.int ((o + ks.idxOf y : Nat) : Int))
  | [], _, _, h => absurd h List.not_mem_nil
  | a :: ks, o, y, h => by
    have e : eNmF o (a :: ks) = (kI (a : Nat), .int (o : Nat)) :: eNmF (o + 1) ks := rfl
    rw [e]
    by_cases q : a = y
    · subst q
      rw [valD_pos rfl, List.idxOf_cons_self] <;> rfl
    · have hm : y ∈ ks := (List.mem_cons.mp h).resolve_left fun z => q z.symm
      rw [valD_neg fun z => q (kI_inj.mp z), eNm_val ks (o + 1) y hm]
      have e2 : (a :: ks).idxOf y = ks.idxOf y + 1 := by
        rw [List.idxOf_cons, beq_false_of_ne q] <;> rfl
      rw [e2]
      congr 2
      omega
theorem eNm_app (ks : List Nat) (o y : Nat) : eNmF o (ks ++ [y]) = eNmF o ks ++ [(kI (y : Nat), .int ((o + ks.length : Nat) : Int))] := by
  unfold eNmF
  rw [List.zipIdx_append, List.map_append] <;> rfl
theorem eNm_put {ks : List Nat} {y : Nat} (h : y ∉ ks) : putD (eNm ks) (kI (y : Nat)) (.int (ks.length : Nat)) = eNm (ks ++ [y]) := by
  unfold putD
  have e : ((eNm ks).any fun kv => decide (kv.1 = kI (y : Nat))) = false := by
    rw [List.any_eq_false]
    rintro kv hkv
    obtain ⟨p, hp, rfl⟩ := List.mem_map.mp hkv
    intro z
    have h1 := kI_inj.mp (of_decide_eq_true z)
    refine h ?_
    rw [← h1]
    obtain ⟨i, hi⟩ := List.mem_iff_getElem?.mp hp
    exact List.mem_of_getElem? (zip_at hi).1
  rw [e, if_neg Bool.false_ne_true]
  unfold eNm
  rw [eNm_app, Nat.zero_add]
theorem eNm_len (ks : List Nat) : (eNm ks).length = ks.length := by simp [eNmF]
/-- names of a row of numbers -/
theorem wpDc_names {mg : Vg} {mk mv : Vm} {Γ : Ev} {Q : List (Key × D) → Prop} (ks : List Nat) (hn : ks.Nodup) (hl : ks.length ≤ 1000)
    (h : ∀ (i y : Nat) (N : D → D → Prop), N (.int (y : Nat)) (.int (i : Nat)) → mg (.tup [.int (i : Nat), .int (y : Nat)]) Γ fun Γ' => mk Γ' fun a => mv Γ' fun b => N a b) (q : Q (eNm ks)) : wpDc mg mk mv Γ Q (enumD (ks.map eI)) [] := by
  have key : ∀ (n i : Nat), ks.length = i + n → wpDc mg mk mv Γ Q ((enumD (ks.map eI)).drop i) (eNm (ks.take i)) := fun n => by
    induction n with
    | zero =>
      intro i hi
      rw [List.drop_of_length_le (by rw [enumD_len, List.length_map]; omega), List.take_of_length_le (by omega)]
      exact q
    | succ n ih =>
      intro i hi
      have hlt : i < ks.length := by omega
      have hd : (enumD (ks.map eI))[i]? = some (.tup [.int (i : Nat), .int (ks[i] : Nat)]) := enumD_at (by rw [List.getElem?_map, List.getElem?_eq_getElem hlt] <;> rfl)
      have hlen : i < (enumD (ks.map eI)).length := by rw [enumD_len, List.length_map]; exact hlt
      have e1 : (enumD (ks.map eI)).drop i = .tup [.int (i : Nat), .int (ks[i] : Nat)] :: (enumD (ks.map eI)).drop (i + 1) := by
        rw [List.drop_eq_getElem_cons hlen]
        rw [List.getElem?_eq_getElem hlen] at hd
        rw [Option.some.inj hd]
      rw [e1]
      refine h i ks[i] _ ?_
      refine ⟨by rw [eNm_len, List.length_take]; omega, ?_⟩
      have hnot : ks[i] ∉ ks.take i := fun z => by
        obtain ⟨j, hj, e⟩ := List.mem_iff_getElem.mp z
        rw [List.getElem_take] at e
        rw [List.length_take] at hj
        have p := List.pairwise_iff_getElem.mp hn j i (by omega) hlt (by omega)
        exact p e
      have e2 := eNm_put hnot
      rw [List.length_take, Nat.min_eq_left (by omega), ← take_one (List.getElem?_eq_getElem hlt)] at e2
      rw [e2]
      exact ih (i + 1) (by omega)
  exact key ks.length 0 (by omega)
theorem lvs_cut0 (v : Vw) (r x : Nat) : (lvs (cutV v r x))[0]? = some (.tup ((seenAt v r x 0).map fun y => eS (staAt v y))) := by
  show some (D.tup (((seenAt v r x 0).map (staAt v)).map eS)) = _
  rw [List.map_map] <;> rfl
theorem lvs_cut1 {v : Vw} {r x k : Nat} (hk : k < r) : (lvs (cutV v r x))[k + 1]? = some (.tup ((seenAt v r x (k + 1)).map fun y => eN (cutNd (fun z => (seenAt v r x k).idxOf z) (nodeAt v k y)))) := by
  rw [lvs_up (cut_up hk)]
  unfold eNs
  rw [List.map_map] <;> rfl
theorem eN_cut (g : Nat → Nat) (n : Node) : eN (cutNd g n) = .tup [.int (g n.1 : Nat), .tup (n.2.map fun h => .tup [.int (g h.1 : Nat), eA h.2])] := by
  show D.tup [_, .tup ((n.2.map (cutH g)).map eH)] = _
  rw [List.map_map] <;> rfl
def c_cut_levels : Ct := ⟨3, Vw × Nat × Nat × List D, fun g => [.tup g.2.2.2, .int g.2.1, .int g.2.2.1], fun g => g.2.2.2 = lvs g.1 ∧ Good g.1 ∧ g.2.1 ≤ g.1.up.length ∧ g.2.2.1 < sz g.1 g.2.1, fun g d => d = eV (cutV g.1 g.2.1 g.2.2.1), fun _ => rfl⟩
theorem kept_step (v : Vw) (r x i : Nat) : ((List.range (i + 2)).map fun j => eLn (seenN v r x (i + 1 - j))) = eLn (seenN v r x (i + 1)) :: (List.range (i + 1)).map fun j => eLn (seenN v r x (i - j)) := by
  rw [List.range_succ_eq_map, List.map_cons, List.map_map]
  congr 1
  refine List.map_congr_left fun j _ => ?_
  show eLn (seenN v r x (i + 1 - (j + 1))) = _
  rw [show i + 1 - (j + 1) = i - j by omega]
theorem kept_at (v : Vw) (r x : Nat) {k : Nat} (hk : k ≤ r) : atI ((List.range (r + 1)).map fun j => eLn (seenN v r x (r - j))) (k : Int) = some (eLn (seenAt v r x k)) := by
  rw [atI_cast, List.getElem?_map, List.getElem?_range (by omega)] <;> rfl
theorem f_cut_levels {P : Program} {w : World} {K : PySem.W.Frag} {mg : Str → Option Value} {base : Heap} (W : Wd K mg) : Fn P w K mg base 2 "cut_levels" c_cut_levels := by
  refine W.fn 20 (d := HH.d_cut_levels) rfl rfl 18 rfl ["levels", "top", "node"] rfl rfl (fun _ _ _ _ _ _ us h => by match us, h with | [a0, a1, a2], _ => rfl) fun f fd F => ?_
  have S : FnScope ["levels", "top", "node", "kept", "level", "found", "number", "names", "name", "nodes", "parent", "heard", "near", "strength"] ["levels", "top", "node"] HH.d_cut_levels.scope := C8.fnScope_by (by decide +kernel)
  have B := W.gb
  have G_reached_below := f_reached_below (P := P) (w := w) (base := base) W
  refine fn_ok (N := ["levels", "top", "node", "kept", "level", "found", "number", "names", "name", "nodes", "parent", "heard", "near", "strength"]) (k := 1) F S rfl (fun cdv A outer s H E hr => ⟨_, (vb_cons (vs_own (i := 3) S.nd (vl_lst (va_cons (ve_of (vl_lst (va_cons (vv 2) va_nil))) va_nil)))
 (vb_cons (vs_for PassesOwn.never rfl (vi_rng3 B.range (va_cons (vv 1) (va_cons v_int (va_cons (v_neg v_int) va_nil)))) (vg_name 4 S.nd)
 (vb_one (vs_insert0 3 (v_call G_reached_below hr (va_cons (v_ix (vv 0) (vv 4)) (va_cons (v_ixO 3 v_int) va_nil))))))
 (vb_cons (vs_own (i := 5) S.nd (vl_lst (va_cons (v_tuple B.tuple (ve_of (vl_lc (own := [("number", 6)]) rfl S.nd (VI.own (vi_list (v_ixO 3 v_int))) (by rfl) (fun _ _ _ _ _ => (vg_name 6 S.nd)) (fun _ _ _ _ _ => vq_nil) (fun _ _ _ _ _ => (v_ix (v_ix (vv 0) v_int) (vv 6)))))) va_nil)))
 (vb_cons (vs_for PassesOwn.never rfl (vi_rng2 B.range (va_cons v_int (va_cons (v_add (vv 1) v_int) va_nil))) (vg_name 4 S.nd)
 (vb_cons (vs_names (i := 7) (own := [("name", 8), ("number", 6)]) rfl S.nd (VI.own (vi_enum B.enumerate (v_ixO 3 (v_sub (vv 4) v_int)))) (by rfl) (fun _ _ _ _ _ => (vg_tup (n := 2) rfl (vgs_cons (vg_name 8 S.nd) (vgs_cons (vg_name 6 S.nd) vgs_nil)))) (fun _ _ _ _ _ => (vv 6)) (fun _ _ _ _ _ => (vv 8)))
 (vb_cons (vs_own (i := 9) S.nd (vl_lst va_nil))
 (vb_cons (vs_for PassesOwn.never rfl (vi_list (v_ixO 3 (vv 4))) (vg_name 6 S.nd)
 (vb_cons (vs_asg (v_ix (v_ix (vv 0) (vv 4)) (vv 6)) (vg_tup (n := 2) rfl (vgs_cons (vg_name 10 S.nd) (vgs_cons (vg_name 11 S.nd) vgs_nil))))
 (vb_one (vs_append 9 (v_tup (va_cons (v_dixK hr 7 (vv 10)) (va_cons (v_tuple B.tuple (ve_of (vl_lc (own := [("near", 12), ("strength", 13)]) rfl S.nd (VI.own (vi_tup (vv 11))) (by rfl) (fun _ _ _ _ _ => (vg_tup (n := 2) rfl (vgs_cons (vg_name 12 S.nd) (vgs_cons (vg_name 13 S.nd) vgs_nil)))) (fun _ _ _ _ _ => vq_nil) (fun _ _ _ _ _ => (v_tup (va_cons (v_dixK hr 7 (vv 12)) (va_cons (vv 13) va_nil))))))) va_nil)))))))
 (vb_frz 9 (vb_one (vs_append 5 (v_tuple B.tuple (vv 9)))))))))
 (vb_frz 5 (vb_one (vs_ret (v_tuple B.tuple (vv 5)))))))))⟩) ?_
  rintro ⟨v, r, x, vs⟩ ⟨hvs, g, hr, hx⟩
  dsimp only at hvs g hr hx
  have h8 := g.rounds
  have lup : ∀ {k l}, v.up[k]? = some l → vs[k + 1]? = some (eNs l) := fun hl => by rw [hvs]; exact lvs_up hl
  have lst0 : atI vs 0 = some (.tup (v.st.map eS)) := by rw [hvs]; exact at_0
  (conv => whnf)
  refine ⟨by unfold small; dsimp only; omega, by unfold small; omega, rfl, ?_⟩
  show wpFor _ _ _ (rngDn (r : Int) ((r : Int) - 0).toNat) _
  rw [show ((r : Int) - 0).toNat = r by omega]
  refine wpFor_rngDn _ r (fun i Γ => ∃ a, Γ = [.im (.tup vs), .im (.int r), .im (.int x), .ow ((List.range (i + 1)).map fun j => eLn (seenN v r x (i - j))), a, .no, .no, .no, .no, .no, .no, .no, .no, .no]) ?_ ?_ ⟨_, rfl⟩
  · rintro i Γ N hi ⟨a, rfl⟩ hN
    obtain ⟨l, hl⟩ := up_get (v := v) (k := r - i - 1) (by omega)
    have gl := g.ups _ l hl
    have gz := g.szb (k := r - i - 1) (by omega)
    (conv => whnf)
    refine ⟨eNs l, ?_, ?_⟩
    · rw [show (r : Int) - (i : Int) = ((r - i - 1 : Nat) : Int) + 1 by omega]
      exact at_of1 (lup hl)
    (conv => whnf)
    refine ⟨eLn (seenN v r x i), at_hd _ _, ?_⟩
    (conv => whnf)
    refine ⟨(l, seenN v r x i, sz v (r - i - 1)), rfl, ⟨fun y hy => ?_, by dsimp only; omega, fun n hn => ⟨gl.par n hn, fun h hh => (gl.near n hn h hh).1⟩⟩, ?_⟩
    · have := seenN_lt g hr hx i (by omega) y hy
      rw [show r - i = r - i - 1 + 1 by omega, sz_up hl] at this
      exact this
    rintro _ rfl
    have e2 : rchL l (seenN v r x i) (sz v (r - i - 1)) = seenN v r x (i + 1) := by
      show _ = rchL (v.up[r - i - 1]?.getD []) _ _
      rw [up_at hl]
    dsimp only
    rw [e2]
    refine ⟨by rw [List.length_map, List.length_range]; omega, ?_⟩
    (conv => whnf)
    exact hN _ ⟨_, by rw [kept_step] <;> rfl⟩
  · rintro Γ ⟨a, rfl⟩
    generalize hK : ((List.range (r + 1)).map fun j => eLn (seenN v r x (r - j))) = KK
    have kat : ∀ {k : Nat}, k ≤ r → atI KK (k : Int) = some (eLn (seenAt v r x k)) := fun hk => by
      rw [← hK]
      exact kept_at v r x hk
    (conv => whnf)
    refine ⟨eLn (seenAt v r x 0), kat (Nat.zero_le _), ?_⟩
    (conv => whnf)
    show wpLc _ _ _ _ _ ((seenAt v r x 0).map eI) []
    have hb0 := seenAt_len g hr hx (k := 0) (Nat.zero_le _)
    refine wpLc_map eI (fun y => eS (staAt v y)) (seenAt v r x 0) (by omega) (fun y hy M' M hM => ?_) ?_
    · have hyl := seenAt_lt g hr hx (k := 0) (Nat.zero_le _) y hy
      have hyl2 : y < v.st.length := hyl
      have est : v.st[y]? = some (staAt v y) := by
        unfold staAt
        rw [List.getElem?_eq_getElem hyl2] <;> rfl
      (conv => whnf)
      refine ⟨_, lst0, ?_⟩
      (conv => whnf)
      exact ⟨_, at_map est, hM⟩
    (conv => whnf)
    refine ⟨by unfold small; omega, by unfold small; omega, ?_⟩
    show wpFor _ _ _ (rng 1 ((r : Int) + 1 - 1).toNat) _
    rw [show ((r : Int) + 1 - 1).toNat = r by omega]
    generalize hT : lvs (cutV v r x) = T
    have hTl : T.length = r + 1 := by rw [← hT, lvs_len, cut_len]
    have hT0 : T[0]? = some (.tup ((seenAt v r x 0).map fun y => eS (staAt v y))) := by rw [← hT]; exact lvs_cut0 v r x
    have hT1 : ∀ {k}, k < r → T[k + 1]? = some (.tup ((seenAt v r x (k + 1)).map fun y => eN (cutNd (fun z => (seenAt v r x k).idxOf z) (nodeAt v k y)))) := fun hk => by rw [← hT]; exact lvs_cut1 hk
    refine wpFor_rng 1 r (fun i Γ => ∃ a1 a2 a3 a4 a5 a6 a7 a8 a9, Γ = [.im (.tup vs), .im (.int r), .im (.int x), .ow KK, a1, .ow (T.take (i + 1)), a2, a3, a4, a5, a6, a7, a8, a9]) ?_ ?_ ⟨_, _, _, _, _, _, _, _, _, by rw [take_one hT0] <;> rfl⟩
    · rintro i Γ N hi ⟨a1, a2, a3, a4, a5, a6, a7, a8, a9, rfl⟩ hN
      rw [show (1 : Int) + (i : Nat) = ((i + 1 : Nat) : Int) by omega]
      have hasc := seenAt_asc v r x i
      have hb1 := seenAt_len g hr hx (k := i) (by omega)
      have hb2 := seenAt_len g hr hx (k := i + 1) (by omega)
      obtain ⟨l, hl⟩ := up_get (v := v) (k := i) (by omega)
      (conv => whnf)
      refine ⟨eLn (seenAt v r x i), ?_, ?_⟩
      · rw [show ((i + 1 : Nat) : Int) - 1 = (i : Nat) by omega]
        exact kat (by omega)
      (conv => whnf)
      show wpDc _ _ _ _ _ (enumD ((seenAt v r x i).map eI)) []
      refine wpDc_names (seenAt v r x i) (List.Pairwise.imp (fun h => Nat.ne_of_lt h) hasc) (by omega) (fun j y N' hN' => ⟨rfl, hN'⟩) ?_
      (conv => whnf)
      refine ⟨eLn (seenAt v r x (i + 1)), kat (by omega), ?_⟩
      (conv => whnf)
      show wpFor _ _ _ ((seenAt v r x (i + 1)).map eI) _
      refine wpFor_map eI (seenAt v r x (i + 1)) (fun j Γ => ∃ a2 a4 a6 a7 a8 a9, Γ = [.im (.tup vs), .im (.int r), .im (.int x), .ow KK, .im (.int ((i + 1 : Nat) : Int)), .ow (T.take (i + 1)), a2, .od (eNm (seenAt v r x i)), a4, .ow (((seenAt v r x (i + 1)).take j).map fun y => eN (cutNd (fun z => (seenAt v r x i).idxOf z) (nodeAt v i y))), a6, a7, a8, a9]) ?_ ?_ ⟨_, _, _, _, _, _, rfl⟩
      · rintro j y Γ N2 hj ⟨a2, a4, a6, a7, a8, a9, rfl⟩ hN2
        have hy := List.mem_of_getElem? hj
        have hyl := seenAt_lt g hr hx (k := i + 1) (by omega) y hy
        rw [sz_up hl] at hyl
        have hn := node_at hl hyl
        have hin := fun z hz => seen_below g hr hx (z := z) hi hy hz
        have hle := asc_len ((g.ups i l hl).asc _ (List.mem_of_getElem? hn)) fun h hh => ((g.ups i l hl).near _ (List.mem_of_getElem? hn) h hh).1
        have gz := g.szb (k := i) (by omega)
        have vd : ∀ z, hits (nodeAt v i y) z = true → valD (eNm (seenAt v r x i)) (kI (z : Nat)) = some (.int ((seenAt v r x i).idxOf z : Nat)) := fun z hz => by
          rw [eNm_val _ _ _ (hin z hz), Nat.zero_add]
        have vd1 := vd _ (hits_iff.mpr (.inl rfl))
        have vd2 : ∀ h ∈ (nodeAt v i y).2, valD (eNm (seenAt v r x i)) (kI (h.1 : Nat)) = some (.int ((seenAt v r x i).idxOf h.1 : Nat)) := fun h hh => vd _ (hits_iff.mpr (.inr ⟨h, hh, rfl⟩))
        generalize hnn : nodeAt v i y = n at hn hle vd1 vd2
        obtain ⟨n1, n2⟩ := n
        (conv => whnf)
        refine ⟨eNs l, at_of (lup hl), ?_⟩
        (conv => whnf)
        refine ⟨_, at_map hn, ?_⟩
        (conv => whnf)
        refine ⟨rfl, ?_⟩
        (conv => whnf)
        refine ⟨_, _, rfl, rfl, ?_⟩
        (conv => whnf)
        refine ⟨_, vd1, ?_⟩
        (conv => whnf)
        show wpLc _ _ _ _ _ (n2.map eH) []
        refine wpLc_map eH (fun h => .tup [.int ((seenAt v r x i).idxOf h.1 : Nat), eA h.2]) n2 (by dsimp only at hle; omega) (fun h hh M' M hM => ?_) ?_
        · (conv => whnf)
          refine ⟨rfl, ?_⟩
          (conv => whnf)
          refine ⟨_, _, rfl, rfl, ?_⟩
          (conv => whnf)
          refine ⟨_, vd2 h hh, ?_⟩
          exact hM
        (conv => whnf)
        refine ⟨by rw [List.length_map, List.length_take]; omega, ?_⟩
        (conv => whnf)
        exact hN2 _ ⟨_, _, _, _, _, _, by rw [take_one hj, List.map_append, List.map_cons, hnn, eN_cut] <;> rfl⟩
      · rintro Γ ⟨a2, a4, a6, a7, a8, a9, rfl⟩
        rw [List.take_length]
        (conv => whnf)
        refine ⟨by rw [List.length_take]; omega, ?_⟩
        (conv => whnf)
        exact hN _ ⟨_, _, _, _, _, _, _, _, _, by rw [take_one (hT1 hi)] <;> rfl⟩
    · rintro Γ ⟨a1, a2, a3, a4, a5, a6, a7, a8, a9, rfl⟩
      rw [← hTl, List.take_length, ← hT]
      (conv => whnf)
      rfl
end LV
set_option Elab.async false
set_option linter.all false
set_option maxRecDepth 100000
set_option maxHeartbeats 4000000
namespace LV
open PySem PySem.Spec PyProof.Rows L2
def c_earlier_view : Ct := ⟨2, Vw × Nat, fun g => [eView g.1, .int g.2], fun g => Good g.1 ∧ sz g.1 g.1.up.length = 1 ∧ g.2 ≤ g.1.up.length, fun g d => d = eView (cutV g.1 g.2 (root g.1 g.1.up.length 0 g.2)), fun _ => rfl⟩
theorem path_at {v : Vw} {r : Nat} (h : r ≤ v.up.length) : atI ((List.range (v.up.length + 1)).map fun r => eI (root v v.up.length 0 r)) (r : Int) = some (.int (root v v.up.length 0 r : Nat)) := by
  rw [atI_cast, List.getElem?_map, List.getElem?_range (by omega)] <;> rfl
theorem f_earlier_view {P : Program} {w : World} {K : PySem.W.Frag} {mg : Str → Option Value} {base : Heap} (W : Wd K mg) : Fn P w K mg base 9 "earlier_view" c_earlier_view := by
  refine W.fn 21 (d := HH.d_earlier_view) rfl rfl 19 rfl ["view", "level"] rfl rfl (fun _ _ _ _ _ _ us h => by match us, h with | [a0, a1], _ => rfl) fun f fd F => ?_
  have S : FnScope ["view", "level"] ["view", "level"] HH.d_earlier_view.scope := C8.fnScope_by (by decide +kernel)
  have B := W.gb
  have G_View_check_place := f_View_check_place (P := P) (w := w) (base := base) W
  have G_View := f_View_init (P := P) (w := w) (base := base) W
  have G_cut_levels := f_cut_levels (P := P) (w := w) (base := base) W
  have G_View_path := f_View_path (P := P) (w := w) (base := base) W
  refine fn_ok (N := ["view", "level"]) (k := 8) F S rfl (fun cdv A outer s H E hr => ⟨_, (vb_cons (vs_expr (v_meth G_View_check_place hr (vv 0) (va_cons (vv 1) (va_cons (v_fld (vv 0) B.cView B.aV2) va_nil))))
 (vb_one (vs_ret (v_make G_View hr (va_cons (v_call G_cut_levels hr (va_cons (v_fld (vv 0) B.cView B.aV1) (va_cons (vv 1) (va_cons (v_ix (v_meth0 G_View_path hr (vv 0)) (vv 1)) va_nil)))) va_nil)))))⟩) ?_
  rintro ⟨v, r⟩ ⟨g, h1, h2⟩
  dsimp only at g h1 h2
  (conv => whnf)
  refine ⟨rfl, by decide +kernel, ?_⟩
  (conv => whnf)
  refine ⟨rfl, .int v.up.length, rfl, ?_⟩
  (conv => whnf)
  refine ⟨(v, (r : Int), (v.up.length : Int)), rfl, ⟨by dsimp only; omega, by dsimp only; omega⟩, ?_⟩
  rintro _ rfl
  (conv => whnf)
  refine ⟨rfl, eV v, rfl, ?_⟩
  (conv => whnf)
  refine ⟨rfl, by decide +kernel, ?_⟩
  refine ⟨v, rfl, ⟨g, h1⟩, ?_⟩
  rintro _ rfl
  (conv => whnf)
  refine ⟨.int (root v v.up.length 0 r : Nat), path_at h2, ?_⟩
  (conv => whnf)
  refine ⟨(v, r, root v v.up.length 0 r, lvs v), rfl, ⟨rfl, g, h2, root_lt g (Nat.le_refl _) (by omega) h2⟩, ?_⟩
  rintro _ rfl
  (conv => whnf)
  refine ⟨cutV v r (root v v.up.length 0 r), rfl, cut_full g h2 (root_lt g (Nat.le_refl _) (by omega) h2), ?_⟩
  rintro _ rfl
  rfl
open Classical in
noncomputable def shortF (v : Vw) (p : Pap) : Option Fl := if p.fd < 0 ∨ p.fd > v.up.length then some (("found" : Str), none) else judge (cutV v p.fd.toNat (root v v.up.length 0 p.fd.toNat)) p
structure PapOk (p : Pap) : Prop where
  l1 : p.pl.length ≤ 100
  l2 : p.rw.length ≤ 100
  bd : ∀ r ∈ p.rw, ∀ n ∈ r, n.natAbs < 2 ^ 7600
theorem pl_eC (c : Cn) : pl 39 (eC c) := fun x hx => by
  rcases List.mem_cons.mp hx with rfl | hx
  · intro y hy
    rcases List.mem_cons.mp hy with rfl | hy
    · trivial
    · rw [List.mem_singleton.mp hy]
      trivial
  · rw [List.mem_singleton.mp hx]
    trivial
theorem pl_eCs (cs : List Cn) : pl 40 (.tup (cs.map eC)) := fun d hd => by
  obtain ⟨c, _, rfl⟩ := List.mem_map.mp hd
  exact pl_eC c
theorem eC_inj {a b : Cn} (h : eC a = eC b) : a = b := by
  have h2 := List.cons.inj (D.tup.inj h)
  have h3 := List.cons.inj (D.tup.inj h2.1)
  have h4 := List.cons.inj h3.2
  have h5 := List.cons.inj h2.2
  exact Prod.ext (Prod.ext (D.int.inj h3.1) (D.int.inj h4.1)) (D.int.inj h5.1)
theorem eCs_inj {a b : List Cn} (h : D.tup (a.map eC) = D.tup (b.map eC)) : a = b := (List.map_inj_right (fun x y e => eC_inj e)).mp (D.tup.inj h)
theorem row_at {p : Pap} {k : Nat} (h : k < p.rw.length) : p.rw[k]? = some (rowAt p k) := by
  unfold rowAt
  rw [List.getElem?_eq_getElem h] <;> rfl
theorem lvlF_len {w : Vw} {s : Nat} {ns : List Int} (h : lvlF w s ns = none) : ns.length = sz w s := by
  by_cases q : ns.length ≠ sz w s ∨ ∃ n ∈ ns, n < 1
  · rw [lvlF_1 q] at h
    cases h
  · exact Classical.not_not.mp fun z => q (.inl z)
theorem fltAt_some {w : Vw} {p : Pap} {k : Nat} {x : Str} (h : lvlF w (lvAt p k) (rowAt p k) = some x) : fltAt w p k = some x := by
  unfold fltAt
  rw [h]
theorem fltAt_none {w : Vw} {p : Pap} {k : Nat} (h : lvlF w (lvAt p k) (rowAt p k) = none) : (0 < k → ¬ sumsL w (lvAt p k) (rowAt p k) (lvAt p k - lvAt p (k - 1)) = rowAt p (k - 1) → fltAt w p k = some ("agree" : Str)) ∧ ((k = 0 ∨ sumsL w (lvAt p k) (rowAt p k) (lvAt p k - lvAt p (k - 1)) = rowAt p (k - 1)) → fltAt w p k = none) := by
  unfold fltAt
  rw [h]
  refine ⟨fun a b => if_pos ⟨a, b⟩, fun a => if_neg fun z => ?_⟩
  rcases a with a | a
  · omega
  · exact z.2 a
theorem judge_1 {w : Vw} {p : Pap} (h : ¬ LvOk p) : judge w p = some (("levels" : Str), none) := if_pos h
theorem judge_2 {w : Vw} {p : Pap} (h : LvOk p) {f : Fl} (hf : fltGo w p 0 p.pl.length = some f) : judge w p = some f := by
  unfold judge
  rw [if_neg (fun z => z h), hf]
theorem judge_3 {w : Vw} {p : Pap} (h : LvOk p) (hf : fltGo w p 0 p.pl.length = none) :
    ((rowAt p 0).sum ≠ p.ho → judge w p = some (("houses" : Str), none)) ∧ ((rowAt p 0).sum = p.ho → ((p.pl.length : Int) < p.ho → judge w p = some (("few" : Str), none)) ∧ (¬ (p.pl.length : Int) < p.ho → (p.cn ≠ counts w (lvAt p 0) (rowAt p 0) → judge w p = some (("counts" : Str), none)) ∧ (p.cn = counts w (lvAt p 0) (rowAt p 0) → judge w p = none))) := by
  unfold judge
  rw [if_neg (fun z => z h), hf]
  refine ⟨fun a => if_pos a, fun a => ?_⟩
  dsimp only
  rw [if_neg (fun z => z a)]
  refine ⟨fun b => if_pos b, fun b => ?_⟩
  rw [if_neg b]
  exact ⟨fun c => if_pos c, fun c => if_neg fun z => z c⟩
theorem fltGo_eq {w : Vw} {p : Pap} : ∀ {i n : Nat}, i ≤ n → (∀ j, j < i → fltAt w p j = none) → fltGo w p 0 n = fltGo w p i (n - i)
  | 0, _, _, _ => rfl
  | i + 1, n, h, hj => by
    rw [fltGo_eq (i := i) (by omega) fun j hj' => hj j (by omega), show n - i = (n - (i + 1)) + 1 by omega, fltGo_step (hj i (by omega))]
def c_short_fault : Ct := ⟨2, Vw × Pap, fun g => [eView g.1, ePap g.2], fun g => Good g.1 ∧ sz g.1 g.1.up.length = 1 ∧ PapOk g.2, fun g d => d = eFlt (shortF g.1 g.2), fun _ => rfl⟩
theorem f_short_fault {P : Program} {w : World} {K : PySem.W.Frag} {mg : Str → Option Value} {base : Heap} (W : Wd K mg) : Fn P w K mg base 10 "short_fault" c_short_fault := by
  refine W.fn 32 (d := HH.d_short_fault) rfl rfl 22 rfl ["view", "paper"] rfl rfl (fun _ _ _ _ _ _ us h => by match us, h with | [a0, a1], _ => rfl) fun f fd F => ?_
  have S : FnScope ["view", "paper", "own", "place", "level", "what"] ["view", "paper"] HH.d_short_fault.scope := C8.fnScope_by (by decide +kernel)
  have B := W.gb
  have G_ShortFault := f_ShortFault_init (P := P) (w := w) (base := base) W
  have G_earlier_view := f_earlier_view (P := P) (w := w) (base := base) W
  have G_levels_are_right := f_levels_are_right (P := P) (w := w) (base := base) W
  have G_level_fault := f_level_fault (P := P) (w := w) (base := base) W
  have G_numbers_agree := f_numbers_agree (P := P) (w := w) (base := base) W
  have G_counts_at := f_counts_at (P := P) (w := w) (base := base) W
  refine fn_ok (N := ["view", "paper", "own", "place", "level", "what"]) (k := 9) F S rfl (fun cdv A outer s H E hr => ⟨_, (vb_cons (vs_if (vt_of (vw_or (vt_cmp (v_lt (v_fld (vv 1) B.cPaper B.aP1) v_int)) (vw_or1 (vt_cmp (v_gt (v_fld (vv 1) B.cPaper B.aP1) (v_fld (vv 0) B.cView B.aV2))))))
 (vb_one (vs_ret (v_make G_ShortFault hr (va_cons v_str (va_cons v_non va_nil)))))
 vb_nil)
 (vb_cons (vs_set (i := 2) S.nd (v_call G_earlier_view hr (va_cons (vv 0) (va_cons (v_fld (vv 1) B.cPaper B.aP1) va_nil))))
 (vb_cons (vs_if (vt_not (vt_val (v_call G_levels_are_right hr (va_cons (vv 1) va_nil))))
 (vb_one (vs_ret (v_make G_ShortFault hr (va_cons v_str (va_cons v_non va_nil)))))
 vb_nil)
 (vb_cons (vs_for PassesOwn.never rfl (vi_enumT B.enumerate (v_fld (vv 1) B.cPaper B.aP2)) (vg_tup (n := 2) rfl (vgs_cons (vg_name 3 S.nd) (vgs_cons (vg_name 4 S.nd) vgs_nil)))
 (vb_cons (vs_set (i := 5) S.nd (v_call G_level_fault hr (va_cons (vv 2) (va_cons (vv 4) (va_cons (v_ix (v_fld (vv 1) B.cPaper B.aP3) (vv 3)) va_nil)))))
 (vb_cons (vs_if (vt_cmp (v_isnot (vv 5) v_non))
 (vb_one (vs_ret (v_make G_ShortFault hr (va_cons (vv 5) (va_cons (vv 4) va_nil)))))
 vb_nil)
 (vb_one (vs_if (vt_of (vw_and (vt_cmp (v_gt (vv 3) v_int)) (vw_and1 (vt_not (vt_val (v_call G_numbers_agree hr (va_cons (vv 2) (va_cons (v_ix (v_fld (vv 1) B.cPaper B.aP2) (v_sub (vv 3) v_int)) (va_cons (v_ix (v_fld (vv 1) B.cPaper B.aP3) (v_sub (vv 3) v_int)) (va_cons (vv 4) (va_cons (v_ix (v_fld (vv 1) B.cPaper B.aP3) (vv 3)) va_nil)))))))))))
 (vb_one (vs_ret (v_make G_ShortFault hr (va_cons v_str (va_cons (vv 4) va_nil)))))
 vb_nil)))))
 (vb_cons (vs_if (vt_cmp (v_neI (v_sumT rfl B.sum (v_ix (v_fld (vv 1) B.cPaper B.aP3) v_int)) (v_fld (vv 1) B.cPaper B.aP4)))
 (vb_one (vs_ret (v_make G_ShortFault hr (va_cons v_str (va_cons v_non va_nil)))))
 vb_nil)
 (vb_cons (vs_if (vt_cmp (v_lt (v_len B.len (v_fld (vv 1) B.cPaper B.aP2)) (v_fld (vv 1) B.cPaper B.aP4)))
 (vb_one (vs_ret (v_make G_ShortFault hr (va_cons v_str (va_cons v_non va_nil)))))
 vb_nil)
 (vb_cons (vs_if (vt_cmp (v_ne hr (v_fld (vv 1) B.cPaper B.aP5) (v_call G_counts_at hr (va_cons (vv 2) (va_cons (v_ix (v_fld (vv 1) B.cPaper B.aP2) v_int) (va_cons (v_ix (v_fld (vv 1) B.cPaper B.aP3) v_int) va_nil))))))
 (vb_one (vs_ret (v_make G_ShortFault hr (va_cons v_str (va_cons v_non va_nil)))))
 vb_nil)
 (vb_one (vs_ret v_non)))))))))⟩) ?_
  rintro ⟨v, p⟩ ⟨g, h1, h2⟩
  dsimp only at g h1 h2
  have hb1 := h2.l1
  have hb2 := h2.l2
  (conv => whnf)
  refine ⟨rfl, .int p.fd, rfl, ?_⟩
  (conv => whnf)
  refine ⟨fun q1 => ?_, fun q1 => ?_⟩
  · (conv => whnf)
    refine ⟨(.str "found", .non), rfl, trivial, ?_⟩
    rintro _ rfl
    have e : shortF v p = some (("found" : Str), none) := if_pos (.inl q1)
    show _ = eFlt (shortF v p)
    rw [e] <;> rfl
  (conv => whnf)
  refine ⟨rfl, .int p.fd, rfl, ?_⟩
  (conv => whnf)
  refine ⟨rfl, .int v.up.length, rfl, ?_⟩
  (conv => whnf)
  refine ⟨fun q2 => ?_, fun q2 => ?_⟩
  · (conv => whnf)
    refine ⟨(.str "found", .non), rfl, trivial, ?_⟩
    rintro _ rfl
    have e : shortF v p = some (("found" : Str), none) := if_pos (.inr q2)
    show _ = eFlt (shortF v p)
    rw [e] <;> rfl
  have eF : shortF v p = judge (cutV v p.fd.toNat (root v v.up.length 0 p.fd.toNat)) p := if_neg fun z => z.elim q1 q2
  have hfd : ((p.fd.toNat : Nat) : Int) = p.fd := by omega
  have hrt := root_lt g (Nat.le_refl _) (by omega : 0 < sz v v.up.length) (s := p.fd.toNat) (by omega)
  have fw := cut_full g (r := p.fd.toNat) (by omega) hrt
  have hwl : (cutV v p.fd.toNat (root v v.up.length 0 p.fd.toNat)).up.length = p.fd.toNat := cut_len _ _ _
  (conv => whnf)
  refine ⟨rfl, .int p.fd, rfl, ?_⟩
  (conv => whnf)
  refine ⟨(v, p.fd.toNat), (by show [eView v, D.int p.fd] = [eView v, D.int ((p.fd.toNat : Nat) : Int)]; rw [hfd]), ⟨g, h1, by dsimp only; omega⟩, ?_⟩
  rintro _ rfl
  generalize cutV v p.fd.toNat (root v v.up.length 0 p.fd.toNat) = w at eF fw hwl
  have gw := fw.good
  (conv => whnf)
  refine ⟨p, rfl, ⟨h2.l1, h2.l2⟩, ?_⟩
  rintro _ ⟨b, rfl, hb⟩
  cases b with
  | false =>
    (conv => whnf)
    refine ⟨(.str "levels", .non), rfl, trivial, ?_⟩
    rintro _ rfl
    show _ = eFlt (shortF v p)
    rw [eF, judge_1 fun z => Bool.noConfusion (hb.mpr z)] <;> rfl
  | true =>
    have ok := hb.mp rfl
    have hlen := ok.len
    have hpos : 0 < p.pl.length := List.length_pos_iff.mpr ok.ne
    have hlv : ∀ k, k < p.pl.length → ((lvAt p k : Nat) : Int) = nth p.pl k ∧ lvAt p k < w.up.length := fun k hk => by
      have := ok.rng hk
      unfold lvAt
      omega
    (conv => whnf)
    refine ⟨rfl, eTi p.pl, rfl, ?_⟩
    (conv => whnf)
    show wpFor _ _ _ (enumD (p.pl.map D.int)) _
    refine wpFor_enum D.int p.pl (fun i Γ => ∃ a1 a2 a3, Γ = [.im (eView v), .im (ePap p), .im (eView w), a1, a2, a3] ∧ ∀ j, j < i → fltAt w p j = none) ?_ ?_ ⟨_, _, _, rfl, fun j hj => absurd hj (by omega)⟩
    · rintro i n Γ N hi ⟨a1, a2, a3, rfl, hI⟩ hN
      have hil : i < p.pl.length := (List.getElem?_eq_some_iff.mp hi).1
      have hn : n = ((lvAt p i : Nat) : Int) := by
        rw [nth_eq hil] at hi
        rw [(hlv i hil).1]
        exact (Option.some.inj hi).symm
      have hrow := row_at (p := p) (k := i) (by omega)
      have hrb := h2.bd _ (List.mem_of_getElem? hrow)
      subst hn
      have fin : ∀ x, fltAt w p i = some x → eFlt (shortF v p) = eFlt (some (x, some (lvAt p i))) := fun x hx => by
        rw [eF, judge_2 ok (f := (x, some (lvAt p i))) (by rw [fltGo_eq (Nat.le_of_lt hil) hI, show p.pl.length - i = (p.pl.length - i - 1) + 1 by omega, fltGo_hit hx])]
      (conv => whnf)
      refine ⟨rfl, ?_⟩
      (conv => whnf)
      refine ⟨rfl, .tup (p.rw.map eTi), rfl, ?_⟩
      (conv => whnf)
      refine ⟨_, at_map hrow, ?_⟩
      (conv => whnf)
      refine ⟨(w, lvAt p i, rowAt p i), rfl, ⟨gw, (hlv i hil).2, hrb⟩, ?_⟩
      rintro _ rfl
      dsimp only
      cases hf : lvlF w (lvAt p i) (rowAt p i) with
      | some x =>
        (conv => whnf)
        refine ⟨(.str x, .int (lvAt p i : Nat)), rfl, trivial, ?_⟩
        rintro _ rfl
        exact (fin x (fltAt_some hf)).symm
      | none =>
        obtain ⟨fn1, fn2⟩ := fltAt_none hf
        (conv => whnf)
        refine ⟨fun q => ?_, fun q => ?_⟩
        · have hi0 : 0 < i := by omega
          have hrow1 := row_at (p := p) (k := i - 1) (by omega)
          have e1 : (i : Int) - 1 = ((i - 1 : Nat) : Int) := by omega
          have hm := ok.up (i - 1) (by omega)
          rw [show i - 1 + 1 = i by omega, ← (hlv i hil).1, ← (hlv (i - 1) (by omega)).1] at hm
          (conv => whnf)
          refine ⟨rfl, eTi p.pl, rfl, ?_⟩
          (conv => whnf)
          refine ⟨.int (lvAt p (i - 1) : Nat), ?_, ?_⟩
          · rw [e1, (hlv (i - 1) (by omega)).1]
            exact at_int (by omega)
          (conv => whnf)
          refine ⟨rfl, .tup (p.rw.map eTi), rfl, ?_⟩
          (conv => whnf)
          refine ⟨eTi (rowAt p (i - 1)), ?_, ?_⟩
          · rw [e1]
            exact at_map hrow1
          (conv => whnf)
          refine ⟨rfl, .tup (p.rw.map eTi), rfl, ?_⟩
          (conv => whnf)
          refine ⟨_, at_map hrow, ?_⟩
          (conv => whnf)
          refine ⟨(w, lvAt p (i - 1), rowAt p (i - 1), lvAt p i, rowAt p i), rfl, ⟨gw, by dsimp only; omega, by have := (hlv i hil).2; dsimp only; omega, lvlF_len hf⟩, ?_⟩
          rintro _ ⟨b, rfl, hb2⟩
          cases b with
          | true =>
            (conv => whnf)
            refine hN _ ⟨_, _, _, rfl, fun j hj => ?_⟩
            rcases Nat.lt_succ_iff_lt_or_eq.mp hj with hj | rfl
            · exact hI j hj
            · exact fn2 (.inr (hb2.mp rfl))
          | false =>
            (conv => whnf)
            refine ⟨(.str "agree", .int (lvAt p i : Nat)), rfl, trivial, ?_⟩
            rintro _ rfl
            exact (fin _ (fn1 hi0 fun z => Bool.noConfusion (hb2.mpr z))).symm
        · (conv => whnf)
          refine hN _ ⟨_, _, _, rfl, fun j hj => ?_⟩
          rcases Nat.lt_succ_iff_lt_or_eq.mp hj with hj | rfl
          · exact hI j hj
          · exact fn2 (.inl (by omega))
    · rintro Γ ⟨a1, a2, a3, rfl, hI⟩
      have hgo : fltGo w p 0 p.pl.length = none := by
        rw [fltGo_eq (Nat.le_refl _) hI, Nat.sub_self] <;> rfl
      obtain ⟨j1, j2⟩ := judge_3 ok hgo
      have hrow := row_at (p := p) (k := 0) (by omega)
      have hl0 : fltAt w p 0 = none := hI 0 hpos
      have hf0 : lvlF w (lvAt p 0) (rowAt p 0) = none := by
        cases hf : lvlF w (lvAt p 0) (rowAt p 0) with
        | none => rfl
        | some x =>
          rw [fltAt_some hf] at hl0
          cases hl0
      have at0 : atI (p.rw.map eTi) 0 = some (eTi (rowAt p 0)) := at_map (i := 0) hrow
      (conv => whnf)
      refine ⟨rfl, .tup (p.rw.map eTi), rfl, ?_⟩
      (conv => whnf)
      refine ⟨_, at0, ?_⟩
      (conv => whnf)
      refine ⟨rowAt p 0, rfl, ?_⟩
      (conv => whnf)
      refine ⟨rfl, .int p.ho, rfl, ?_⟩
      (conv => whnf)
      refine ⟨fun q => ?_, fun q => ?_⟩
      · (conv => whnf)
        refine ⟨(.str "houses", .non), rfl, trivial, ?_⟩
        rintro _ rfl
        show _ = eFlt (shortF v p)
        rw [eF, j1 q] <;> rfl
      obtain ⟨j3, j4⟩ := j2 (Classical.not_not.mp q)
      (conv => whnf)
      refine ⟨rfl, eTi p.pl, rfl, ?_⟩
      (conv => whnf)
      refine ⟨rfl, .int p.ho, rfl, ?_⟩
      (conv => whnf)
      rw [List.length_map]
      refine ⟨fun q => ?_, fun q => ?_⟩
      · (conv => whnf)
        refine ⟨(.str "few", .non), rfl, trivial, ?_⟩
        rintro _ rfl
        show _ = eFlt (shortF v p)
        rw [eF, j3 q] <;> rfl
      obtain ⟨j5, j6⟩ := j4 q
      (conv => whnf)
      refine ⟨rfl, .tup (p.cn.map eC), rfl, ?_⟩
      (conv => whnf)
      refine ⟨rfl, eTi p.pl, rfl, ?_⟩
      (conv => whnf)
      refine ⟨.int (lvAt p 0 : Nat), (by rw [(hlv 0 hpos).1]; exact at_int (v := 0) hpos), ?_⟩
      (conv => whnf)
      refine ⟨rfl, .tup (p.rw.map eTi), rfl, ?_⟩
      (conv => whnf)
      refine ⟨_, at0, ?_⟩
      (conv => whnf)
      refine ⟨(w, lvAt p 0, rowAt p 0), rfl, ⟨gw, Nat.le_of_lt (hlv 0 hpos).2, lvlF_len hf0⟩, ?_⟩
      rintro _ rfl
      (conv => whnf)
      refine ⟨pl_eCs _, pl_eCs _, fun q => ?_, fun q => ?_⟩
      · (conv => whnf)
        refine ⟨(.str "counts", .non), rfl, trivial, ?_⟩
        rintro _ rfl
        show _ = eFlt (shortF v p)
        rw [eF, j5 fun z => q (by rw [z])] <;> rfl
      · (conv => whnf)
        show _ = eFlt (shortF v p)
        rw [eF, j6 (eCs_inj (Classical.not_not.mp q))] <;> rfl
end LV
set_option Elab.async false
set_option linter.all false
set_option maxRecDepth 100000
set_option maxHeartbeats 4000000
namespace LV
open PySem PySem.Spec PyProof.Rows L2
def c_law_root : Ct := ⟨4, Vw × Nat × Nat × Nat, fun g => [eV g.1, .int g.2.1, .int g.2.2.1, .int g.2.2.2], fun g => Good g.1 ∧ g.2.1 ≤ g.1.up.length ∧ g.2.2.1 < sz g.1 g.2.1 ∧ g.2.2.2 ≤ g.2.1, fun g d => d = .int (root g.1 g.2.1 g.2.2.1 g.2.2.2 : Nat), fun _ => rfl⟩
theorem f_law_root {P : Program} {w : World} {K : PySem.W.Frag} {mg : Str → Option Value} {base : Heap} (W : Wd K mg) : Fn P w K mg base 1 "_law_root" c_law_root := by
  refine W.fn 57 (d := HH.d_law_root) rfl rfl 47 rfl ["_law_levels_here", "_law_t", "_law_x", "_law_s"] rfl rfl (fun _ _ _ _ _ _ us h => by match us, h with | [a0, a1, a2, a3], _ => rfl) fun f fd F => ?_
  have S : FnScope ["_law_levels_here", "_law_t", "_law_x", "_law_s", "_law_node_here", "_law_k"] ["_law_levels_here", "_law_t", "_law_x", "_law_s"] HH.d_law_root.scope := C8.fnScope_by (by decide +kernel)
  have B := W.gb
  refine fn_ok (N := ["_law_levels_here", "_law_t", "_law_x", "_law_s", "_law_node_here", "_law_k"]) (k := 0) F S rfl (fun cdv A outer s H E hr => ⟨_, (vb_cons (vs_set (i := 4) S.nd (vv 2))
 (vb_cons (vs_for PassesOwn.never rfl (vi_rng3 B.range (va_cons (vv 1) (va_cons (vv 3) (va_cons (v_neg v_int) va_nil)))) (vg_name 5 S.nd)
 (vb_one (vs_set (i := 4) S.nd (v_ix (v_ix (v_ix (vv 0) (vv 5)) (vv 4)) v_int))))
 (vb_one (vs_ret (vv 4)))))⟩) ?_
  rintro ⟨v, t, x, s⟩ ⟨g, ht, hx, hs⟩
  dsimp only at g ht hx hs
  have hr := g.rounds
  (conv => whnf)
  refine ⟨by unfold small; dsimp only; omega, by unfold small; dsimp only; omega, rfl, ?_⟩
  show wpFor _ _ _ (rngDn (t : Int) ((t : Int) - (s : Int)).toNat) _
  rw [show ((t : Int) - (s : Int)).toNat = t - s by omega]
  refine wpFor_rngDn _ (t - s) (fun i Γ => ∃ u, Γ = [.im (eV v), .im (.int t), .im (.int x), .im (.int s), .im (.int (rootN v t x i)), u]) ?_ ?_ ⟨_, rfl⟩
  · rintro i Γ N hi ⟨u, rfl⟩ hN
    have hb := rootN_lt g ht hx i (by omega)
    have e1 : t - i = t - i - 1 + 1 := by omega
    rw [e1] at hb
    obtain ⟨l, n, hl, hn, e⟩ := node_get (v := v) (k := t - i - 1) (by omega) hb
    (conv => whnf)
    refine ⟨eNs l, at_dn hl (by omega), ?_⟩
    (conv => whnf)
    refine ⟨_, at_map hn, ?_⟩
    (conv => whnf)
    refine ⟨_, at_0, ?_⟩
    (conv => whnf)
    refine hN _ ⟨.im (.int ((t : Int) - (i : Int))), ?_⟩
    show [_, _, _, _, Sl.im (.int n.1), _] = [_, _, _, _, Sl.im (.int (par1 v (t - i - 1) (rootN v t x i))), _]
    rw [e] <;> rfl
  · rintro Γ ⟨u, rfl⟩
    (conv => whnf)
    rfl
def c_law_start : Ct := ⟨3, Vw × Nat × Nat, fun g => [eV g.1, .int g.2.1, .int g.2.2], fun g => Good g.1 ∧ g.2.1 ≤ g.1.up.length ∧ g.2.2 < sz g.1 g.2.1, fun g d => d = eS (stOf g.1 g.2.1 g.2.2), fun _ => rfl⟩
theorem f_law_start {P : Program} {w : World} {K : PySem.W.Frag} {mg : Str → Option Value} {base : Heap} (W : Wd K mg) : Fn P w K mg base 2 "_law_start" c_law_start := by
  refine W.fn 58 (d := HH.d_law_start) rfl rfl 48 rfl ["_law_levels_here", "_law_s", "_law_node_here"] rfl rfl (fun _ _ _ _ _ _ us h => by match us, h with | [a0, a1, a2], _ => rfl) fun f fd F => ?_
  have S : FnScope ["_law_levels_here", "_law_s", "_law_node_here"] ["_law_levels_here", "_law_s", "_law_node_here"] HH.d_law_start.scope := C8.fnScope_by (by decide +kernel)
  have B := W.gb
  have G_law_root := f_law_root (P := P) (w := w) (base := base) W
  refine fn_ok (N := ["_law_levels_here", "_law_s", "_law_node_here"]) (k := 1) F S rfl (fun cdv A outer s H E hr => ⟨_, (vb_one (vs_ret (v_ix (v_ix (vv 0) v_int) (v_call G_law_root hr (va_cons (vv 0) (va_cons (vv 1) (va_cons (vv 2) (va_cons v_int va_nil))))))))⟩) ?_
  rintro ⟨v, t, x⟩ ⟨g, ht, hx⟩
  dsimp only at g ht hx
  have hst := st_get g ht hx
  (conv => whnf)
  refine ⟨_, at_0, ?_⟩
  (conv => whnf)
  refine ⟨(v, t, x, 0), rfl, ⟨g, ht, hx, Nat.zero_le _⟩, ?_⟩
  rintro _ rfl
  (conv => whnf)
  refine ⟨_, at_map hst, ?_⟩
  rfl
def c_law_amount : Ct := ⟨2, List Hr × Nat, fun g => [eHs g.1, .int g.2], fun g => True, fun g d => d = eA (heardOf g.1 g.2), fun _ => rfl⟩
theorem f_law_amount {P : Program} {w : World} {K : PySem.W.Frag} {mg : Str → Option Value} {base : Heap} (W : Wd K mg) : Fn P w K mg base 1 "_law_amount" c_law_amount := by
  refine W.fn 50 (d := HH.d_law_amount) rfl rfl 40 rfl ["_law_heard_here", "_law_w"] rfl rfl (fun _ _ _ _ _ _ us h => by match us, h with | [a0, a1], _ => rfl) fun f fd F => ?_
  have S : FnScope ["_law_heard_here", "_law_w", "_law_pair"] ["_law_heard_here", "_law_w"] HH.d_law_amount.scope := C8.fnScope_by (by decide +kernel)
  have B := W.gb
  refine fn_ok (N := ["_law_heard_here", "_law_w", "_law_pair"]) (k := 0) F S rfl (fun cdv A outer s H E hr => ⟨_, (vb_cons (vs_for PassesOwn.never rfl (vi_tup (vv 0)) (vg_name 2 S.nd)
 (vb_one (vs_if (vt_cmp (v_eqI (v_ix (vv 2) v_int) (vv 1)))
 (vb_one (vs_ret (v_ix (vv 2) v_int)))
 vb_nil)))
 (vb_one (vs_ret (v_tup (va_cons v_int (va_cons v_int va_nil))))))⟩) ?_
  rintro ⟨t, b⟩ -
  (conv => whnf)
  refine wpFor_map eH t (fun i Γ => ∃ s, Γ = [.im (eHs t), .im (.int b), s] ∧ heardOf t b = heardOf (t.drop i) b) ?_ ?_ ⟨_, rfl, rfl⟩
  · rintro i ⟨x1, x2⟩ Γ N hh ⟨s, rfl, hI⟩ hN
    rw [heardOf_drop hh] at hI
    (conv => whnf)
    refine ⟨_, at_0, ?_⟩
    (conv => whnf)
    refine ⟨fun he => ?_, fun he => ?_⟩
    · (conv => whnf)
      refine ⟨eA x2, rfl, ?_⟩
      have he' : x1 = b := Int.ofNat_inj.mp he
      (conv => whnf)
      rw [hI, if_pos he']
    · (conv => whnf)
      refine hN _ ⟨_, rfl, ?_⟩
      rw [hI, if_neg fun z => he (Int.ofNat_inj.mpr z)]
  · rintro Γ ⟨s, rfl, hI⟩
    (conv => whnf)
    rw [hI, List.drop_length] <;> rfl
def parL (l : List Node) (j : Nat) : Nat := ((l[j]?).map (·.1)).getD 0
def kidsN (l : List Node) (i x : Nat) : List Nat := (List.range i).filter fun j => decide (parL l j = x)
theorem kidsN_succ (l : List Node) (i x : Nat) : kidsN l (i + 1) x = if parL l i = x then kidsN l i x ++ [i] else kidsN l i x := by
  unfold kidsN
  rw [List.range_succ, List.filter_append]
  by_cases h : parL l i = x
  · have e : [i].filter (fun j => decide (parL l j = x)) = [i] := by simp [h]
    rw [if_pos h, e]
  · have e : [i].filter (fun j => decide (parL l j = x)) = [] := by simp [h]
    rw [if_neg h, e, List.append_nil]
def kidsL (l : List Node) (n i : Nat) : List (List D) := (List.range n).map fun x => (kidsN l i x).map eI
theorem kidsL_set {l : List Node} {n i : Nat} (h : parL l i < n) : (kidsL l n i).set (parL l i) ((kidsN l i (parL l i)).map eI ++ [eI i]) = kidsL l n (i + 1) := by
  unfold kidsL
  refine List.ext_getElem? fun y => ?_
  rw [List.getElem?_map]
  by_cases e : parL l i = y
  · subst e
    rw [List.getElem?_set_self (by simpa using h), List.getElem?_range h]
    show _ = some ((kidsN l (i + 1) (parL l i)).map eI)
    rw [kidsN_succ, if_pos rfl, List.map_append] <;> rfl
  · rw [List.getElem?_set_ne e, List.getElem?_map]
    cases q : (List.range n)[y]? with
    | none => rfl
    | some z =>
      have hz : z = y := by
        obtain ⟨hl, h2⟩ := List.getElem?_eq_some_iff.mp q
        rw [List.getElem_range] at h2
        exact h2.symm
      subst hz
      show some ((kidsN l i z).map eI) = some ((kidsN l (i + 1) z).map eI)
      rw [kidsN_succ, if_neg e]
theorem kidsN_len (l : List Node) (i x : Nat) : (kidsN l i x).length ≤ i := by
  unfold kidsN
  exact Nat.le_trans (List.length_filter_le _ _) (Nat.le_of_eq List.length_range)
def c_law_kids : Ct := ⟨2, Vw × Nat × List Node, fun g => [eV g.1, .int g.2.1], fun g => Good g.1 ∧ g.1.up[g.2.1]? = some g.2.2, fun g d => d = .lst ((kidsL g.2.2 (sz g.1 g.2.1) g.2.2.length).map .lst), fun _ => rfl⟩
theorem kids0 (l : List Node) (n : Nat) : List.replicate n ([] : List D) = kidsL l n 0 := by
  unfold kidsL
  rw [show (fun x => (kidsN l 0 x).map eI) = fun _ => [] from rfl, List.map_const', List.length_range]
theorem f_law_kids {P : Program} {w : World} {K : PySem.W.Frag} {mg : Str → Option Value} {base : Heap} (W : Wd K mg) : Fn P w K mg base 1 "_law_kids" c_law_kids := by
  refine W.fn 49 (d := HH.d_law_kids) rfl rfl 39 rfl ["_law_levels_here", "_law_s"] rfl rfl (fun _ _ _ _ _ _ us h => by match us, h with | [a0, a1], _ => rfl) fun f fd F => ?_
  have S : FnScope ["_law_levels_here", "_law_s", "_law_found", "_law_node_here", "_law_x", "_law_row"] ["_law_levels_here", "_law_s"] HH.d_law_kids.scope := C8.fnScope_by (by decide +kernel)
  have B := W.gb
  refine fn_ok (N := ["_law_levels_here", "_law_s", "_law_found", "_law_node_here", "_law_x", "_law_row"]) (k := 0) F S rfl (fun cdv A outer s H E hr => ⟨_, (vb_cons (vs_onLc (i := 2) (own := [("_law_node_here", 3)]) rfl S.nd (VI.own (vi_tup (v_ix (vv 0) (vv 1)))) (by rfl) (fun _ _ _ _ _ => (vg_name 3 S.nd)) (sw_true rfl rfl rfl (by decide +kernel)))
 (vb_cons (vs_for PassesOwn.never rfl (vi_rng1 B.range (va_cons (v_len B.len (v_ix (vv 0) (v_add (vv 1) v_int))) va_nil)) (vg_name 4 S.nd)
 (vb_row 2 5 S.nd (v_ix (v_ix (v_ix (vv 0) (v_add (vv 1) v_int)) (vv 4)) v_int) (vv 4) vb_nil))
 (vb_frz 2 (vb_one (vs_ret (vv 2))))))⟩) ?_
  rintro ⟨v, s, l⟩ ⟨g, hl⟩
  dsimp only at g hl
  have hs : s < v.up.length := (List.getElem?_eq_some_iff.mp hl).1
  have gl := g.ups s l hl
  have gl2 := gl.hi
  have gz := g.szb (k := s) (by omega)
  obtain ⟨xs, hx, hxl⟩ := lvs_any (v := v) (k := s) (by omega)
  (conv => whnf)
  refine ⟨.tup xs, at_of hx, ?_⟩
  refine ⟨by omega, fun d _ => trivial, ?_⟩
  rw [hxl, kids0 l]
  (conv => whnf)
  refine ⟨eNs l, at_of1 (lvs_up hl), ?_⟩
  (conv => whnf)
  refine ⟨by unfold small; rw [List.length_map]; omega, ?_⟩
  show wpFor _ _ _ (rng 0 ((l.map eN).length : Int).toNat) _
  rw [show (((l.map eN).length : Nat) : Int).toNat = l.length by rw [List.length_map] <;> rfl]
  refine wpFor_rng 0 l.length (fun i Γ => ∃ a b c, Γ = [.im (eV v), .im (.int s), .on (kidsL l (sz v s) i), a, b, c]) ?_ ?_ ⟨_, _, _, rfl⟩
  · rintro i Γ N hi ⟨a, b, c, rfl⟩ hN
    rw [Int.zero_add]
    obtain ⟨n, hn⟩ : ∃ n, l[i]? = some n := ⟨_, List.getElem?_eq_getElem hi⟩
    have hp : n.1 = parL l i := by
      unfold parL
      rw [hn] <;> rfl
    have hlt : parL l i < sz v s := by
      rw [← hp]
      exact gl.par n (List.mem_of_getElem? hn)
    (conv => whnf)
    refine ⟨_, rfl, by decide, by simp, ?_⟩
    (conv => whnf)
    refine ⟨eNs l, at_of1 (lvs_up hl), ?_⟩
    (conv => whnf)
    refine ⟨_, at_map hn, ?_⟩
    (conv => whnf)
    refine ⟨_, at_0, ?_⟩
    rw [hp]
    have hk : (kidsL l (sz v s) i)[parL l i]? = some ((kidsN l i (parL l i)).map eI) := by
      unfold kidsL
      rw [List.getElem?_map, List.getElem?_range hlt] <;> rfl
    have hkl : (kidsL l (sz v s) i).length = sz v s := by simp [kidsL]
    refine ⟨parL l i, _, ixN_cast (by rw [hkl]; exact hlt), hk, ?_⟩
    (conv => whnf)
    refine ⟨by rw [List.length_map]; have := kidsN_len l i (parL l i); omega, ?_⟩
    (conv => whnf)
    exact hN _ ⟨_, _, _, by rw [← kidsL_set hlt] <;> rfl⟩
  · rintro Γ ⟨a, b, c, rfl⟩
    (conv => whnf)
def eTL (t : List (List Amt)) : D := .lst (t.map fun r => .lst (r.map eA))
def c_law_table : Ct := ⟨3, Vw × Nat × List Node × List Nat, fun g => [eV g.1, .int g.2.1, .lst (g.2.2.2.map fun k => .lst [eI k])], fun g => Good g.1 ∧ g.1.up[g.2.1]? = some g.2.2.1 ∧ g.2.2.2.length ≤ 4 ∧ ∀ k ∈ g.2.2.2, k < g.2.2.1.length, fun g d => d = eTL (tbl g.2.2.1 g.2.2.2), fun _ => rfl⟩
theorem f_law_table {P : Program} {w : World} {K : PySem.W.Frag} {mg : Str → Option Value} {base : Heap} (W : Wd K mg) : Fn P w K mg base 2 "_law_table" c_law_table := by
  refine W.fn 51 (d := HH.d_law_table) rfl rfl 41 rfl ["_law_levels_here", "_law_s", "_law_kids_here"] rfl rfl (fun _ _ _ _ _ _ us h => by match us, h with | [a0, a1, a2], _ => rfl) fun f fd F => ?_
  have S : FnScope ["_law_levels_here", "_law_s", "_law_kids_here", "_law_n", "_law_w", "_law_v"] ["_law_levels_here", "_law_s", "_law_kids_here"] HH.d_law_table.scope := C8.fnScope_by (by decide +kernel)
  have B := W.gb
  have G_law_amount := f_law_amount (P := P) (w := w) (base := base) W
  refine fn_ok (N := ["_law_levels_here", "_law_s", "_law_kids_here", "_law_n", "_law_w", "_law_v"]) (k := 1) F S rfl (fun cdv A outer s H E hr => ⟨_, (vb_cons (vs_set (i := 3) S.nd (v_len B.len (vv 2)))
 (vb_one (vs_ret (ve_of (vl_lc (own := [("_law_v", 5)]) rfl S.nd (VI.own (vi_rng1 B.range (va_cons (vv 3) va_nil))) (by rfl) (fun _ _ _ _ _ => (vg_name 5 S.nd)) (fun _ _ _ _ _ => vq_nil) (fun _ _ _ _ _ => (ve_of (vl_lc (own := [("_law_w", 4)]) rfl S.nd (VI.own (vi_rng1 B.range (va_cons (vv 3) va_nil))) (by rfl) (fun _ _ _ _ _ => (vg_name 4 S.nd)) (fun _ _ _ _ _ => vq_nil) (fun _ _ _ _ _ => (v_call G_law_amount hr (va_cons (v_ix (v_ix (v_ix (vv 0) (v_add (vv 1) v_int)) (v_ix (v_ix (vv 2) (vv 5)) v_int)) v_int) (va_cons (vv 4) va_nil))))))))))))⟩) ?_
  rintro ⟨v, s, l, ks⟩ ⟨g, hl, hk4, hk⟩
  dsimp only at g hl hk4 hk
  (conv => whnf)
  have e0 : ((ks.map fun k => D.lst [eI k]).length : Int).toNat = ks.length := by rw [List.length_map] <;> rfl
  refine ⟨by unfold small; dsimp only; rw [List.length_map]; omega, ?_⟩
  show wpLc _ _ _ _ _ (rng 0 ((ks.map fun k => D.lst [eI k]).length : Int).toNat) []
  rw [e0]
  refine wpLc_rng (fun i => .lst ((List.range ks.length).map fun w => eA (heardOf (l[ks[i]?.getD 0]?.getD (0, [])).2 w))) 0 ks.length (by omega) (fun i hi N M hN => ?_) ?_
  · rw [Int.zero_add]
    (conv => whnf)
    refine ⟨by unfold small; dsimp only; rw [List.length_map]; omega, ?_⟩
    show wpLc _ _ _ _ _ (rng 0 ((ks.map fun k => D.lst [eI k]).length : Int).toNat) []
    rw [e0]
    have hki : ks[i]? = some (ks[i]?.getD 0) := by rw [List.getElem?_eq_getElem hi] <;> rfl
    have hkl := hk _ (List.mem_of_getElem? hki)
    have hn : l[ks[i]?.getD 0]? = some (l[ks[i]?.getD 0]?.getD (0, [])) := by
      rw [List.getElem?_eq_getElem hkl] <;> rfl
    refine wpLc_rng (fun w => eA (heardOf (l[ks[i]?.getD 0]?.getD (0, [])).2 w)) 0 ks.length (by omega) (fun w hw N' M' hN' => ?_) hN
    rw [Int.zero_add]
    (conv => whnf)
    refine ⟨eNs l, at_of1 (lvs_up hl), ?_⟩
    (conv => whnf)
    refine ⟨_, at_map hki, ?_⟩
    (conv => whnf)
    refine ⟨eI (ks[i]?.getD 0), at_0, ?_⟩
    (conv => whnf)
    refine ⟨_, at_map hn, ?_⟩
    (conv => whnf)
    refine ⟨_, rfl, ?_⟩
    (conv => whnf)
    refine ⟨((l[ks[i]?.getD 0]?.getD (0, [])).2, w), rfl, trivial, ?_⟩
    rintro _ rfl
    exact hN'
  (conv => whnf)
  show D.lst _ = eTL _
  unfold eTL tbl
  rw [List.map_map]
  congr 1
  refine List.ext_getElem? fun i => ?_
  rw [List.getElem?_map, List.getElem?_map]
  by_cases h : i < ks.length
  · rw [List.getElem?_range h, List.getElem?_eq_getElem h]
    have e7 : ks[i]?.getD 0 = ks[i] := by rw [List.getElem?_eq_getElem h] <;> rfl
    show some (D.lst ((List.range ks.length).map fun w => eA (heardOf (l[ks[i]?.getD 0]?.getD (0, [])).2 w))) = some (D.lst (((List.range ks.length).map fun w => heardOf (l[ks[i]]?.getD (0, [])).2 w).map eA))
    rw [List.map_map, e7] <;> rfl
  · rw [List.getElem?_eq_none (by simpa using h), List.getElem?_eq_none (by dsimp only; omega)] <;> rfl
end LV
set_option Elab.async false
set_option linter.all false
set_option maxRecDepth 100000
set_option maxHeartbeats 4000000
/-! M10: the search by turns. -/
namespace LV
structure LH (t : List (List Amt)) (rs : List Nat) : Prop where
  nd : rs.Nodup
  zero : 0 ∈ rs
  lt : ∀ v ∈ rs, v < t.length
  rch : ∀ v ∈ rs, Rch t v
def nearTo (t : List (List Amt)) (rs : List Nat) (v : Nat) : Prop := ∃ w ∈ rs, Lk t v w
def Cl (t : List (List Amt)) (rs : List Nat) : Prop := ∀ v, v < t.length → nearTo t rs v → v ∈ rs
def LI (t : List (List Amt)) (T : Nat) (rs : List Nat) : Prop := LH t rs ∧ (Cl t rs ∨ T + 1 ≤ rs.length)
def LJ (t : List (List Amt)) (T j : Nat) (rs : List Nat) : Prop := LH t rs ∧ (((Cl t rs ∨ T + 1 ≤ rs.length) ∧ ∀ v, v < j → nearTo t rs v → v ∈ rs) ∨ T + 2 ≤ rs.length)
theorem Lk.symm {t : List (List Amt)} {v w : Nat} (h : Lk t v w) : Lk t w v := Or.symm h
theorem LI.start {t : List (List Amt)} (h : 1 ≤ t.length) : LI t 0 [0] := ⟨⟨by simp, by simp, fun v hv => by rw [List.mem_singleton.mp hv]; exact h, fun v hv => by rw [List.mem_singleton.mp hv]; exact .zero⟩, .inr (Nat.le_refl _)⟩
theorem LI.turn {t : List (List Amt)} {T : Nat} {rs : List Nat} (h : LI t T rs) : LJ t T 0 rs := ⟨h.1, .inl ⟨h.2, fun v hv => absurd hv (by omega)⟩⟩
theorem LJ.skip {t : List (List Amt)} {T j : Nat} {rs : List Nat} (h : LJ t T j rs) (hj : nearTo t rs j → j ∈ rs) : LJ t T (j + 1) rs := by
  refine ⟨h.1, h.2.imp_left fun ⟨a, b⟩ => ⟨a, fun v hv hn => ?_⟩⟩
  rcases Nat.lt_succ_iff_lt_or_eq.mp hv with hv | rfl
  · exact b v hv hn
  · exact hj hn
theorem LJ.take {t : List (List Amt)} {T j : Nat} {rs : List Nat} (h : LJ t T j rs) (hj : j < t.length) (hn : nearTo t rs j) (hm : j ∉ rs) : LJ t T (j + 1) (rs ++ [j]) := by
  obtain ⟨⟨h1, h2, h3, h4⟩, h5⟩ := h
  refine ⟨⟨?_, List.mem_append_left _ h2, fun v hv => ?_, fun v hv => ?_⟩, .inr ?_⟩
  · rw [List.nodup_append]
    refine ⟨h1, by simp, fun a ha b hb z => ?_⟩
    rw [List.mem_singleton] at hb
    exact hm (by rw [← hb, ← z]; exact ha)
  · rcases List.mem_append.mp hv with hv | hv
    · exact h3 v hv
    · rw [List.mem_singleton.mp hv]
      exact hj
  · rcases List.mem_append.mp hv with hv | hv
    · exact h4 v hv
    · rw [List.mem_singleton.mp hv]
      obtain ⟨w, hw, hl⟩ := hn
      exact .step (h4 w hw) hj hl.symm
  · rw [List.length_append]
    show T + 2 ≤ rs.length + 1
    rcases h5 with ⟨a | a, _⟩ | a
    · exact absurd (a j hj hn) hm
    · omega
    · omega
theorem LJ.done {t : List (List Amt)} {T : Nat} {rs : List Nat} (h : LJ t T t.length rs) : LI t (T + 1) rs := by
  refine ⟨h.1, ?_⟩
  rcases h.2 with ⟨_, b⟩ | b
  · exact .inl b
  · exact .inr b
theorem nodup_sub : ∀ (xs ys : List Nat), xs.Nodup → (∀ y ∈ xs, y ∈ ys) → xs.length ≤ ys.length
  | [], _, _, _ => Nat.zero_le _
  | x :: xs, ys, h, hs => by
    have hx : x ∈ ys := hs x List.mem_cons_self
    have := nodup_sub xs (ys.erase x) (List.nodup_cons.mp h).2 fun y hy => by
      refine (List.mem_erase_of_ne ?_).mpr (hs y (List.mem_cons_of_mem _ hy))
      rintro rfl
      exact (List.nodup_cons.mp h).1 hy
    rw [List.length_erase_of_mem hx] at this
    have hp : 0 < ys.length := List.length_pos_of_mem hx
    rw [List.length_cons]
    omega
theorem LI.fin {t : List (List Amt)} {rs : List Nat} (h : LI t t.length rs) : rs.length = t.length ↔ Hangs t := by
  obtain ⟨⟨h1, h2, h3, h4⟩, h5⟩ := h
  have hle := nodup_len t.length rs h1 h3
  have cl : Cl t rs := h5.resolve_right fun z => by omega
  have key : ∀ v, Rch t v → v ∈ rs := fun v r => by
    induction r with
    | zero => exact h2
    | step r hw hl ih =>
      rename_i a b
      exact cl b hw ⟨a, ih, hl.symm⟩
  constructor
  · intro e v hv
    by_cases hm : v ∈ rs
    · exact h4 v hm
    · have := nodup_len t.length (v :: rs) (List.nodup_cons.mpr ⟨hm, h1⟩) fun y hy => by
        rcases List.mem_cons.mp hy with rfl | hy
        · exact hv
        · exact h3 y hy
      rw [List.length_cons] at this
      omega
  · intro hh
    have hsub : ∀ y ∈ List.range t.length, y ∈ rs := fun y hy => key y (hh y (List.mem_range.mp hy))
    have p := List.nodup_range (n := t.length)
    have : t.length ≤ rs.length := by
      have q := nodup_sub (List.range t.length) rs p hsub
      rw [List.length_range] at q
      exact q
    omega
end LV
set_option Elab.async false
set_option linter.all false
set_option maxRecDepth 100000
set_option maxHeartbeats 4000000
namespace LV
open PySem PySem.Spec PyProof.Rows L2
def c_law_hangs : Ct := ⟨1, List (List Amt), fun g => [eTL g], fun g => Sq g, fun g d => ∃ b, d = .bl b ∧ (b = true ↔ Hangs g), fun _ => rfl⟩
theorem lk_pos {t : List (List Amt)} {v w : Nat} (h1 : 0 ≤ (at2 t v w).1) (h2 : 0 ≤ (at2 t w v).1) : 0 < (at2 t v w).1 + (at2 t w v).1 ↔ Lk t v w := by
  unfold Lk
  omega
theorem f_law_hangs {P : Program} {w : World} {K : PySem.W.Frag} {mg : Str → Option Value} {base : Heap} (W : Wd K mg) : Fn P w K mg base 1 "_law_hangs" c_law_hangs := by
  refine W.fn 52 (d := HH.d_law_hangs) rfl rfl 42 rfl ["_law_table_here"] rfl rfl (fun _ _ _ _ _ _ us h => by match us, h with | [a0], _ => rfl) fun f fd F => ?_
  have S : FnScope ["_law_table_here", "_law_n", "_law_reached", "_law_turn", "_law_v", "_law_near", "_law_w"] ["_law_table_here"] HH.d_law_hangs.scope := C8.fnScope_by (by decide +kernel)
  have B := W.gb
  refine fn_ok (N := ["_law_table_here", "_law_n", "_law_reached", "_law_turn", "_law_v", "_law_near", "_law_w"]) (k := 0) F S rfl (fun cdv A outer s H E hr => ⟨_, (vb_cons (vs_set (i := 1) S.nd (v_len B.len (vv 0)))
 (vb_cons (vs_own (i := 2) S.nd (vl_lst (va_cons v_int va_nil)))
 (vb_cons (vs_for PassesOwn.never rfl (vi_rng1 B.range (va_cons (vv 1) va_nil)) (vg_name 3 S.nd)
 (vb_one (vs_for PassesOwn.never rfl (vi_rng1 B.range (va_cons (vv 1) va_nil)) (vg_name 4 S.nd)
 (vb_cons (vs_setLc (i := 5) (own := [("_law_w", 6)]) rfl S.nd (vi_own 2) (by rfl) (fun _ _ _ _ _ => (vg_name 6 S.nd)) (fun _ _ _ _ _ => (vq_one (vt_cmp (v_gt (v_add (v_ix (v_ix (v_ix (vv 0) (vv 4)) (vv 6)) v_int) (v_ix (v_ix (v_ix (vv 0) (vv 6)) (vv 4)) v_int)) v_int)))) (fun _ _ _ _ _ => (vv 6)) (sw_true rfl rfl rfl (by decide +kernel)))
 (vb_one (vs_if (vt_of (vw_and (vt_cmp (v_notinO 2 hr (vv 4))) (vw_and1 (vt_cmp (v_ne hr (vv 5) (ve_of (vl_lst va_nil)))))))
 (vb_one (vs_append 2 (vv 4)))
 vb_nil))))))
 (vb_one (vs_ret (VCp.ve (v_eqI (v_lenO 2 B.len) (vv 1))))))))⟩) ?_
  intro (t : List (List Amt)) (h1 : Sq t)
  have hn := h1.hi
  have hlo := h1.lo
  have hln : ((t.map fun r => D.lst (r.map eA)).length : Int) = (t.length : Int) := by rw [List.length_map]
  (conv => whnf)
  rw [hln]
  refine ⟨by unfold small; omega, ?_⟩
  show wpFor _ _ _ (rng 0 t.length) _
  refine wpFor_rng 0 t.length (fun T Γ => ∃ rs a b c d, Γ = [.im (eTL t), .im (.int t.length), .ow (rs.map eI), a, b, c, d] ∧ LI t T rs) ?_ ?_ ⟨[0], _, _, _, _, rfl, LI.start hlo⟩
  · rintro T Γ N hT ⟨rs, a, b, c, d, rfl, hI⟩ hN
    (conv => whnf)
    refine ⟨by unfold small; omega, ?_⟩
    show wpFor _ _ _ (rng 0 t.length) _
    refine wpFor_rng 0 t.length (fun j Γ => ∃ rs a b c d, Γ = [.im (eTL t), .im (.int t.length), .ow (rs.map eI), a, b, c, d] ∧ LJ t T j rs) ?_ ?_ ⟨rs, _, _, _, _, rfl, hI.turn⟩
    · rintro j Γ N2 hj ⟨rs, a, b, c, d, rfl, hJ⟩ hN2
      rw [Int.zero_add]
      have hll := nodup_len t.length rs hJ.1.nd hJ.1.lt
      (conv => whnf)
      refine wpLc_filter eI (fun w => decide (0 < (at2 t j w).1 + (at2 t w j).1)) eI rs (by omega) (fun w hw N' M hN' hM => ?_) ?_
      · have hwl := hJ.1.lt w hw
        obtain ⟨r1, hr1, ha1, ha3, ha4, ha5⟩ := sq_get h1 hj hwl
        obtain ⟨r2, hr2, hb1, hb3, hb4, hb5⟩ := sq_get h1 hwl hj
        (conv => whnf)
        refine ⟨_, at_map hr1, ?_⟩
        (conv => whnf)
        refine ⟨_, at_map ha1, ?_⟩
        (conv => whnf)
        refine ⟨_, at_0, ?_⟩
        (conv => whnf)
        refine ⟨_, at_map hr2, ?_⟩
        (conv => whnf)
        refine ⟨_, at_map hb1, ?_⟩
        (conv => whnf)
        refine ⟨_, at_0, ?_⟩
        (conv => whnf)
        refine ⟨fun q => ?_, fun q => ?_⟩
        · (conv => whnf)
          exact hN' (decide_eq_true q)
        · (conv => whnf)
          exact hM (decide_eq_false q)
      · have near : rs.filter (fun w => decide (0 < (at2 t j w).1 + (at2 t w j).1)) = [] ↔ ¬ nearTo t rs j := by
          rw [List.filter_eq_nil_iff]
          constructor
          · rintro h ⟨w, hw, hl⟩
            have hwl := hJ.1.lt w hw
            obtain ⟨_, _, _, _, ha4, _⟩ := sq_get h1 hj hwl
            obtain ⟨_, _, _, _, hb4, _⟩ := sq_get h1 hwl hj
            exact h w hw (decide_eq_true ((lk_pos ha4 hb4).mpr hl))
          · intro h w hw z
            have hwl := hJ.1.lt w hw
            obtain ⟨_, _, _, _, ha4, _⟩ := sq_get h1 hj hwl
            obtain ⟨_, _, _, _, hb4, _⟩ := sq_get h1 hwl hj
            exact h ⟨w, hw, (lk_pos ha4 hb4).mp (of_decide_eq_true z)⟩
        generalize hf : rs.filter (fun w => decide (0 < (at2 t j w).1 + (at2 t w j).1)) = fs at near
        (conv => whnf)
        refine ⟨trivial, pl_eLn _, fun hm => ?_, fun hm => ?_⟩
        · obtain ⟨z, hz, e⟩ := List.mem_map.mp hm
          have e2 : z = j := Int.ofNat_inj.mp (D.int.inj e)
          subst e2
          (conv => whnf)
          exact hN2 _ ⟨rs, _, _, _, _, rfl, hJ.skip fun _ => hz⟩
        · have hm2 : j ∉ rs := fun z => hm (List.mem_map.mpr ⟨j, z, rfl⟩)
          (conv => whnf)
          refine ⟨pl_eLn _, fun d hd => absurd hd List.not_mem_nil, fun hne => ?_, fun he => ?_⟩
          · have hnr : nearTo t rs j := Classical.not_not.mp fun z => hne (by rw [near.mpr z] <;> rfl)
            (conv => whnf)
            refine ⟨by rw [List.length_map]; omega, ?_⟩
            exact hN2 _ ⟨rs ++ [j], _, _, _, _, by rw [List.map_append] <;> rfl, hJ.take hj hnr hm2⟩
          · have he2 : fs = [] := List.map_eq_nil_iff.mp (D.lst.inj (Classical.not_not.mp he))
            (conv => whnf)
            exact hN2 _ ⟨rs, _, _, _, _, rfl, hJ.skip fun z => absurd z (near.mp he2)⟩
    · rintro Γ ⟨rs, a, b, c, d, rfl, hJ⟩
      (conv => whnf)
      exact hN _ ⟨rs, _, _, _, _, rfl, hJ.done⟩
  · rintro Γ ⟨rs, a, b, c, d, rfl, hI⟩
    have hfin := hI.fin
    (conv => whnf)
    rw [List.length_map]
    refine ⟨fun h => ⟨true, rfl, fun _ => hfin.mp (Int.ofNat_inj.mp h), fun _ => rfl⟩, fun h => ⟨false, rfl, fun z => Bool.noConfusion z, fun z => absurd (congrArg Nat.cast (hfin.mpr z)) h⟩⟩
theorem at_1 {x y : D} {xs : List D} : atI (x :: y :: xs) 1 = some y := by
  rw [show (1 : Int) = ((1 : Nat) : Int) from rfl, atI_cast] <;> rfl
theorem mul_b {a b : Int} {p q r : Nat} (h1 : a.natAbs < 2 ^ p) (h2 : b.natAbs < 2 ^ q) (h : p + q ≤ r) : (a * b).natAbs < 2 ^ r := by
  rw [Int.natAbs_mul]
  exact Nat.lt_of_lt_of_le (Nat.mul_lt_mul'' h1 h2) (by rw [← Nat.pow_add]; exact Nat.pow_le_pow_right (by decide) h)
theorem up_b {a : Int} {p r : Nat} (h1 : a.natAbs < 2 ^ p) (h : p ≤ r) : a.natAbs < 2 ^ r := Nat.lt_of_lt_of_le h1 (Nat.pow_le_pow_right (by decide) h)
def c_law_balanced : Ct := ⟨2, (List (List Amt)) × List Int, fun g => [eTL g.1, .lst (g.2.map .int)], fun g => Sq g.1 ∧ g.1.length = g.2.length ∧ ∀ n ∈ g.2, n.natAbs < 2 ^ 7600, fun g d => ∃ b, d = .bl b ∧ (b = true ↔ Bal g.1 g.2), fun _ => rfl⟩
theorem f_law_balanced {P : Program} {w : World} {K : PySem.W.Frag} {mg : Str → Option Value} {base : Heap} (W : Wd K mg) : Fn P w K mg base 1 "_law_balanced" c_law_balanced := by
  refine W.fn 53 (d := HH.d_law_balanced) rfl rfl 43 rfl ["_law_table_here", "_law_numbers"] rfl rfl (fun _ _ _ _ _ _ us h => by match us, h with | [a0, a1], _ => rfl) fun f fd F => ?_
  have S : FnScope ["_law_table_here", "_law_numbers", "_law_n", "_law_v", "_law_w", "_law_m", "_law_k"] ["_law_table_here", "_law_numbers"] HH.d_law_balanced.scope := C8.fnScope_by (by decide +kernel)
  have B := W.gb
  refine fn_ok (N := ["_law_table_here", "_law_numbers", "_law_n", "_law_v", "_law_w", "_law_m", "_law_k"]) (k := 0) F S rfl (fun cdv A outer s H E hr => ⟨_, (vb_cons (vs_set (i := 2) S.nd (v_len B.len (vv 0)))
 (vb_cons (vs_for PassesOwn.never rfl (vi_rng1 B.range (va_cons (vv 2) va_nil)) (vg_name 3 S.nd)
 (vb_one (vs_for PassesOwn.never rfl (vi_rng2 B.range (va_cons (v_add (vv 3) v_int) (va_cons (vv 2) va_nil))) (vg_name 4 S.nd)
 (vb_cons (vs_set (i := 5) S.nd (v_ix (v_ix (vv 0) (vv 3)) (vv 4)))
 (vb_cons (vs_set (i := 6) S.nd (v_ix (v_ix (vv 0) (vv 4)) (vv 3)))
 (vb_one (vs_if (vt_cmp (v_neI (v_mulW (v_mulW (v_ix (vv 1) (vv 3)) (v_ix (vv 5) v_int)) (v_ix (vv 6) v_int)) (v_mulW (v_mulW (v_ix (vv 1) (vv 4)) (v_ix (vv 6) v_int)) (v_ix (vv 5) v_int))))
 (vb_one (vs_ret v_bl))
 vb_nil)))))))
 (vb_one (vs_ret v_bl))))⟩) ?_
  rintro ⟨t, ns⟩ ⟨h1, h2, h3⟩
  dsimp only at h1 h2 h3
  have hn := h1.hi
  have hget : ∀ i, i < t.length → (nth ns i).natAbs < 2 ^ 7600 := fun i hi => h3 _ (List.mem_of_getElem? (nth_eq (by omega)))
  have hln : ((t.map fun r => D.lst (r.map eA)).length : Int) = (t.length : Int) := by rw [List.length_map]
  (conv => whnf)
  rw [hln]
  refine ⟨by unfold small; omega, ?_⟩
  show wpFor _ _ _ (rng 0 t.length) _
  refine wpFor_rng 0 t.length (fun i Γ => ∃ a b c d, Γ = [.im (eTL t), .im (.lst (ns.map .int)), .im (.int t.length), a, b, c, d] ∧ ∀ v w, v < i → v < w → w < t.length → Bal1 t ns v w) ?_ ?_ ⟨_, _, _, _, rfl, fun _ _ hv => absurd hv (by omega)⟩
  · rintro i Γ N hi ⟨a, b, c, d, rfl, hI⟩ hN
    rw [Int.zero_add]
    (conv => whnf)
    refine ⟨by unfold small; omega, by unfold small; omega, ?_⟩
    show wpFor _ _ _ (rng ((i : Int) + 1) _) _
    rw [show ((t.length : Int) - ((i : Int) + 1)).toNat = t.length - (i + 1) by omega]
    refine wpFor_rng ((i : Int) + 1) (t.length - (i + 1)) (fun j Γ => ∃ b c d, Γ = [.im (eTL t), .im (.lst (ns.map .int)), .im (.int t.length), .im (.int i), b, c, d] ∧ ∀ w, i < w → w < i + 1 + j → Bal1 t ns i w) ?_ ?_ ⟨_, _, _, rfl, fun _ hv hw => absurd hv (by omega)⟩
    · rintro j Γ N2 hj ⟨b2, c2, d2, rfl, hJ⟩ hN2
      rw [show (i : Int) + 1 + (j : Nat) = ((i + 1 + j : Nat) : Int) by omega]
      have hj2 : i + 1 + j < t.length := by omega
      obtain ⟨r1, hr1, ha1, ha3, ha4, ha5⟩ := sq_get h1 hi hj2
      obtain ⟨r2, hr2, hb1, hb3, hb4, hb5⟩ := sq_get h1 hj2 hi
      (conv => whnf)
      refine ⟨_, at_map hr1, ?_⟩
      (conv => whnf)
      refine ⟨_, at_map ha1, ?_⟩
      (conv => whnf)
      refine ⟨_, at_map hr2, ?_⟩
      (conv => whnf)
      refine ⟨_, at_map hb1, ?_⟩
      (conv => whnf)
      refine ⟨_, at_map (nth_eq (by omega)), ?_⟩
      (conv => whnf)
      refine ⟨_, at_0, ?_⟩
      (conv => whnf)
      have hA := hget i hi
      have hB := hget _ hj2
      refine ⟨⟨up_b hA (by omega), up_b ha3.1 (by omega)⟩, ?_⟩
      (conv => whnf)
      refine ⟨_, at_1, ?_⟩
      (conv => whnf)
      refine ⟨⟨mul_b hA ha3.1 (by omega), up_b hb3.2.2 (by omega)⟩, ?_⟩
      (conv => whnf)
      refine ⟨_, at_map (nth_eq (by omega)), ?_⟩
      (conv => whnf)
      refine ⟨_, at_0, ?_⟩
      (conv => whnf)
      refine ⟨⟨up_b hB (by omega), up_b hb3.1 (by omega)⟩, ?_⟩
      (conv => whnf)
      refine ⟨_, at_1, ?_⟩
      (conv => whnf)
      refine ⟨⟨mul_b hB hb3.1 (by omega), up_b ha3.2.2 (by omega)⟩, ?_⟩
      (conv => whnf)
      refine ⟨fun h => ?_, fun h => ?_⟩
      · (conv => whnf)
        exact ⟨false, rfl, ⟨fun z => Bool.noConfusion z, fun z => absurd (bal1_sym.mp (z (i + 1 + j) i (by omega) hj2)) h⟩⟩
      · (conv => whnf)
        refine hN2 _ ⟨_, _, _, rfl, fun w hv hw => ?_⟩
        rcases Nat.lt_succ_iff_lt_or_eq.mp (show w < (i + 1 + j) + 1 by omega) with hw | rfl
        · exact hJ w hv hw
        · exact Classical.not_not.mp h
    · rintro Γ ⟨b2, c2, d2, rfl, hJ⟩
      (conv => whnf)
      refine hN _ ⟨_, _, _, _, rfl, fun v w hv hvw hw => ?_⟩
      rcases Nat.lt_succ_iff_lt_or_eq.mp hv with hv | rfl
      · exact hI v w hv hvw hw
      · exact hJ w hvw (by omega)
  · rintro Γ ⟨a, b, c, d, rfl, hI⟩
    (conv => whnf)
    exact ⟨true, rfl, ⟨fun _ v w hw hv => bal1_sym.mp (hI w v (Nat.lt_trans hw hv) hw hv), fun _ => rfl⟩⟩
def c_law_lit_sum : Ct := ⟨3, Vw × Nat × List Int, fun g => [eV g.1, .int g.2.1, .lst (g.2.2.map .int)], fun g => Good g.1 ∧ g.2.1 ≤ g.1.up.length ∧ g.2.2.length = sz g.1 g.2.1, fun g d => d = .int (lit g.1 g.2.1 g.2.2), fun _ => rfl⟩
theorem f_law_lit_sum {P : Program} {w : World} {K : PySem.W.Frag} {mg : Str → Option Value} {base : Heap} (W : Wd K mg) : Fn P w K mg base 3 "_law_lit_sum" c_law_lit_sum := by
  refine W.fn 59 (d := HH.d_law_lit_sum) rfl rfl 49 rfl ["_law_levels_here", "_law_s", "_law_numbers"] rfl rfl (fun _ _ _ _ _ _ us h => by match us, h with | [a0, a1, a2], _ => rfl) fun f fd F => ?_
  have S : FnScope ["_law_levels_here", "_law_s", "_law_numbers", "_law_v"] ["_law_levels_here", "_law_s", "_law_numbers"] HH.d_law_lit_sum.scope := C8.fnScope_by (by decide +kernel)
  have B := W.gb
  have G_law_start := f_law_start (P := P) (w := w) (base := base) W
  refine fn_ok (N := ["_law_levels_here", "_law_s", "_law_numbers", "_law_v"]) (k := 2) F S rfl (fun cdv A outer s H E hr => ⟨_, (vb_one (vs_ret (v_sum rfl B.sum (ve_of (vl_lc (own := [("_law_v", 3)]) rfl S.nd (VI.own (vi_rng1 B.range (va_cons (v_len B.len (vv 2)) va_nil))) (by rfl) (fun _ _ _ _ _ => (vg_name 3 S.nd)) (fun _ _ _ _ _ => (vq_one (vt_cmp (v_eqI (v_ix (v_call G_law_start hr (va_cons (vv 0) (va_cons (vv 1) (va_cons (vv 3) va_nil)))) v_int) v_int)))) (fun _ _ _ _ _ => (v_ix (vv 2) (vv 3))))))))⟩) ?_
  rintro ⟨v, s, ns⟩ ⟨g, hs, hl⟩
  dsimp only at g hs hl
  have hz := g.szb hs
  have hln : ((ns.map D.int).length : Int) = (ns.length : Int) := by rw [List.length_map]
  (conv => whnf)
  rw [hln]
  refine ⟨by unfold small; omega, ?_⟩
  show wpLc _ _ _ _ _ (rng 0 ns.length) []
  refine wpLc_rngF (fun x => decide ((stOf v s x).1 = 1)) (fun x => .int (nth ns x)) 0 ns.length (by omega) (fun i hi N M hN hM => ?_) ?_
  · rw [Int.zero_add]
    (conv => whnf)
    refine ⟨(v, s, i), rfl, ⟨g, hs, by dsimp only; omega⟩, ?_⟩
    rintro _ rfl
    (conv => whnf)
    refine ⟨_, at_0, ?_⟩
    (conv => whnf)
    refine ⟨fun h => ?_, fun h => ?_⟩
    · (conv => whnf)
      refine ⟨_, at_int hi, ?_⟩
      exact hN (decide_eq_true (Int.ofNat_inj.mp h))
    · (conv => whnf)
      exact hM (decide_eq_false fun z => h (congrArg Nat.cast z))
  · (conv => whnf)
    refine ⟨_, (List.map_map ..).symm, ?_⟩
    rfl
theorem putC_nodup {cs : List Cn} {k : Int × Int} {n : Int} (h : (cs.map (·.1)).Nodup) : ((putC cs k n).map (·.1)).Nodup := by
  unfold putC
  by_cases hc : (cs.any fun c => decide (c.1 = k)) = true
  · rw [if_pos hc, List.map_map]
    have e : ((fun c : Cn => c.1) ∘ fun c : Cn => if c.1 = k then (c.1, n) else c) = fun c : Cn => c.1 := funext fun c => by
      show (if c.1 = k then (c.1, n) else c).1 = c.1
      by_cases h : c.1 = k
      · rw [if_pos h]
      · rw [if_neg h]
    rw [e]
    exact h
  · rw [if_neg hc, List.map_append, List.nodup_append]
    refine ⟨h, by simp, fun a ha b hb z => ?_⟩
    have hb2 : b = k := List.mem_singleton.mp hb
    obtain ⟨c, hc2, e⟩ := List.mem_map.mp ha
    exact hc (List.any_eq_true.mpr ⟨c, hc2, decide_eq_true (by rw [e, z, hb2])⟩)
theorem cntN_nodup (v : Vw) (s : Nat) (ns : List Int) : ∀ i, ((cntN v s ns i).map (·.1)).Nodup
  | 0 => List.nodup_nil
  | i + 1 => putC_nodup (cntN_nodup v s ns i)
theorem valD_mem {cs : List Cn} {c : Cn} (h : (cs.map (·.1)).Nodup) (hm : c ∈ cs) : valD (cs.map eKv) (kP c.1.1 c.1.2) = some (.int c.2) := by
  induction cs with
  | nil => exact absurd hm List.not_mem_nil
  | cons d cs ih =>
    rw [List.map_cons, List.nodup_cons] at h
    rw [List.map_cons]
    rcases List.mem_cons.mp hm with rfl | hm
    · exact valD_pos rfl
    · rw [valD_neg fun z => h.1 (by
        have e : d.1 = c.1 := kP_eq.mp z
        rw [e]
        exact List.mem_map.mpr ⟨c, hm, rfl⟩)]
      exact ih h.2 hm
theorem sb_C (cs : List Cn) : Sb (cs.map eC) where
  pl := fun x hx => by
    obtain ⟨c, _, rfl⟩ := List.mem_map.mp hx
    intro y hy
    rcases List.mem_cons.mp hy with rfl | hy
    · intro z hz
      rcases List.mem_cons.mp hz with rfl | hz
      · trivial
      · rw [List.mem_singleton.mp hz]
        trivial
    · rw [List.mem_singleton.mp hy]
      trivial
  al := fun x hx y hy => by
    obtain ⟨c, _, rfl⟩ := List.mem_map.mp hx
    obtain ⟨d, _, rfl⟩ := List.mem_map.mp hy
    exact alike_C _ _
  ok := .inl fun d hd => by
    obtain ⟨x, hx, rfl⟩ := List.mem_map.mp hd
    obtain ⟨c, _, rfl⟩ := List.mem_map.mp hx
    exact ⟨_, _, rfl⟩
def c_law_counts_at : Ct := ⟨3, Vw × Nat × List Int, fun g => [eV g.1, .int g.2.1, .lst (g.2.2.map .int)], fun g => Good g.1 ∧ g.2.1 ≤ g.1.up.length ∧ g.2.2.length = sz g.1 g.2.1, fun g d => d = .tup ((counts g.1 g.2.1 g.2.2).map eC), fun _ => rfl⟩
theorem f_law_counts_at {P : Program} {w : World} {K : PySem.W.Frag} {mg : Str → Option Value} {base : Heap} (W : Wd K mg) : Fn P w K mg base 3 "_law_counts_at" c_law_counts_at := by
  refine W.fn 61 (d := HH.d_law_counts_at) rfl rfl 51 rfl ["_law_levels_here", "_law_s", "_law_numbers"] rfl rfl (fun _ _ _ _ _ _ us h => by match us, h with | [a0, a1, a2], _ => rfl) fun f fd F => ?_
  have S : FnScope ["_law_levels_here", "_law_s", "_law_numbers", "_law_found", "_law_v", "_law_start_here"] ["_law_levels_here", "_law_s", "_law_numbers"] HH.d_law_counts_at.scope := C8.fnScope_by (by decide +kernel)
  have B := W.gb
  have G_law_start := f_law_start (P := P) (w := w) (base := base) W
  refine fn_ok (N := ["_law_levels_here", "_law_s", "_law_numbers", "_law_found", "_law_v", "_law_start_here"]) (k := 2) F S rfl (fun cdv A outer s H E hr => ⟨_, (vb_cons (vs_dictT (i := 3) S.nd)
 (vb_cons (vs_for PassesOwn.never rfl (vi_rng1 B.range (va_cons (v_len B.len (vv 2)) va_nil)) (vg_name 4 S.nd)
 (vb_cons (vs_set (i := 5) S.nd (v_call G_law_start hr (va_cons (vv 0) (va_cons (vv 1) (va_cons (vv 4) va_nil)))))
 (vb_one (vs_dputT hr 3 (vv 5) (v_add (v_dgetT hr 3 (vv 5) v_int) (v_ix (vv 2) (vv 4)))))))
 (vb_one (vs_ret (v_tuple B.tuple (ve_of (vl_sorted hr B.sorted (ve_of (vl_lcdT (own := [("_law_start_here", 5)]) rfl S.nd 3 (by rfl) (fun _ _ _ _ _ => (vg_name 5 S.nd)) (fun _ _ _ _ _ => vq_nil) (fun _ _ _ _ _ => (v_tup (va_cons (vv 5) (va_cons (v_dixT hr 3 (vv 5)) va_nil)))))))))))))⟩) ?_
  rintro ⟨v, s, ns⟩ ⟨g, hs, hl⟩
  dsimp only at g hs hl
  have hz := g.szb hs
  have hln : ((ns.map D.int).length : Int) = (ns.length : Int) := by rw [List.length_map]
  (conv => whnf)
  rw [hln]
  refine ⟨by unfold small; omega, ?_⟩
  show wpFor _ _ _ (rng 0 ns.length) _
  refine wpFor_rng 0 ns.length (fun i Γ => ∃ a b, Γ = [.im (eV v), .im (.int s), .im (.lst (ns.map .int)), .ot ((cntN v s ns i).map eKv), a, b]) ?_ ?_ ⟨_, _, rfl⟩
  · rintro i Γ N hil ⟨a, b, rfl⟩ hN
    rw [Int.zero_add]
    (conv => whnf)
    refine ⟨(v, s, i), rfl, ⟨g, hs, by dsimp only; omega⟩, ?_⟩
    rintro _ rfl
    (conv => whnf)
    refine ⟨⟨_, rfl⟩, ?_⟩
    (conv => whnf)
    refine ⟨⟨_, _, rfl, rfl⟩, ?_⟩
    (conv => whnf)
    refine ⟨_, _, rfl, rfl, ?_⟩
    have e1 : (valD ((cntN v s ns i).map eKv) (kP ((stOf v s i).1 : Int) ((stOf v s i).2 : Int))).getD (.int 0) = .int (getC (cntN v s ns i) (skey (stOf v s i))) := valD_C (skey (stOf v s i)) (cntN v s ns i)
    rw [e1]
    (conv => whnf)
    refine ⟨_, at_int hil, ?_⟩
    (conv => whnf)
    refine ⟨_, rfl, ?_, ?_⟩
    · rw [List.length_map]
      have := cntN_len v s ns i
      omega
    (conv => whnf)
    refine hN _ ⟨.im (.int i), .im (eS (stOf v s i)), ?_⟩
    have e2 : putD ((cntN v s ns i).map eKv) (kP ((stOf v s i).1 : Int) ((stOf v s i).2 : Int)) (.int (getC (cntN v s ns i) (skey (stOf v s i)) + nth ns i)) = (putC (cntN v s ns i) (skey (stOf v s i)) (getC (cntN v s ns i) (skey (stOf v s i)) + nth ns i)).map eKv := putD_C _ (skey (stOf v s i)) _
    show [_, _, _, Sl.ot (putD ((cntN v s ns i).map eKv) (kP ((stOf v s i).1 : Int) ((stOf v s i).2 : Int)) (.int (getC (cntN v s ns i) (skey (stOf v s i)) + nth ns i))), _, _] = _
    rw [e2] <;> rfl
  · rintro Γ ⟨a, b, rfl⟩
    have hcl := cntN_len v s ns ns.length
    (conv => whnf)
    refine ⟨_, rfl, _, rfl, (cntN v s ns ns.length).map (·.1), ?_, ?_⟩
    · rw [List.map_map, List.map_map] <;> rfl
    rw [List.map_map]
    refine wpLc_map (fun c : Cn => D.tup [.int c.1.1, .int c.1.2]) eC (cntN v s ns ns.length) (by omega) (fun c hc N M hN => ?_) ?_
    · (conv => whnf)
      refine ⟨_, _, rfl, rfl, ?_⟩
      (conv => whnf)
      refine ⟨_, valD_mem (cntN_nodup v s ns _) hc, ?_⟩
      exact hN
    (conv => whnf)
    refine ⟨sb_C _, ?_⟩
    (conv => whnf)
    show D.tup _ = D.tup _
    rw [← List.map_mergeSort (r := cle) (s := dle) (f := eC) fun a _ b _ => rfl] <;> rfl
def c_law_sums : Ct := ⟨4, Vw × Nat × Nat × List Int, fun g => [eV g.1, .int g.2.1, .int g.2.2.1, .lst (g.2.2.2.map .int)], fun g => Good g.1 ∧ g.2.1 ≤ g.2.2.1 ∧ g.2.2.1 ≤ g.1.up.length ∧ g.2.2.2.length = sz g.1 g.2.2.1, fun g d => d = .lst ((sumsL g.1 g.2.2.1 g.2.2.2 (g.2.2.1 - g.2.1)).map .int), fun _ => rfl⟩
theorem f_law_sums {P : Program} {w : World} {K : PySem.W.Frag} {mg : Str → Option Value} {base : Heap} (W : Wd K mg) : Fn P w K mg base 2 "_law_sums" c_law_sums := by
  refine W.fn 62 (d := HH.d_law_sums) rfl rfl 52 rfl ["_law_levels_here", "_law_s", "_law_t", "_law_others"] rfl rfl (fun _ _ _ _ _ _ us h => by match us, h with | [a0, a1, a2, a3], _ => rfl) fun f fd F => ?_
  have S : FnScope ["_law_levels_here", "_law_s", "_law_t", "_law_others", "_law_found", "_law_node_here", "_law_x", "_law_root_here"] ["_law_levels_here", "_law_s", "_law_t", "_law_others"] HH.d_law_sums.scope := C8.fnScope_by (by decide +kernel)
  have B := W.gb
  have G_law_root := f_law_root (P := P) (w := w) (base := base) W
  refine fn_ok (N := ["_law_levels_here", "_law_s", "_law_t", "_law_others", "_law_found", "_law_node_here", "_law_x", "_law_root_here"]) (k := 1) F S rfl (fun cdv A outer s H E hr => ⟨_, (vb_cons (vs_ownLc (i := 4) (own := [("_law_node_here", 5)]) rfl S.nd (VI.own (vi_tup (v_ix (vv 0) (vv 1)))) (by rfl) (fun _ _ _ _ _ => (vg_name 5 S.nd)) (fun _ _ _ _ _ => vq_nil) (fun _ _ _ _ _ => v_int) (sw_true rfl rfl rfl (by decide +kernel)))
 (vb_cons (vs_for PassesOwn.never rfl (vi_rng1 B.range (va_cons (v_len B.len (v_ix (vv 0) (vv 2))) va_nil)) (vg_name 6 S.nd)
 (vb_cons (vs_set (i := 7) S.nd (v_call G_law_root hr (va_cons (vv 0) (va_cons (vv 2) (va_cons (vv 6) (va_cons (vv 1) va_nil))))))
 (vb_one (vs_setIx 4 (vv 7) (v_add (v_ixO 4 (vv 7)) (v_ix (vv 3) (vv 6)))))))
 (vb_frz 4 (vb_one (vs_ret (vv 4))))))⟩) ?_
  rintro ⟨v, s, t, os⟩ ⟨g, hst, ht, ho⟩
  dsimp only at g hst ht ho
  obtain ⟨xs, hx, hxl⟩ := lvs_any (v := v) (k := s) (by omega)
  obtain ⟨ys, hy, hyl⟩ := lvs_any (v := v) (k := t) (by omega)
  have hzs := g.szb (k := s) (by omega)
  have hzt := g.szb (k := t) (by omega)
  (conv => whnf)
  refine ⟨.tup xs, at_of hx, ?_⟩
  have e0 : xs.map (fun _ => D.int 0) = ((List.range (sz v s)).map (sumIf 0 (fun x => root v t x s) (nth os))).map D.int := by
    rw [List.map_map, List.map_const', hxl]
    show _ = (List.range (sz v s)).map fun _ => D.int 0
    rw [List.map_const', List.length_range]
  rw [← List.map_id xs]
  refine wpLc_map id (fun _ => D.int 0) xs (by omega) (fun x hx N M hN => hN) ?_
  rw [e0]
  (conv => whnf)
  refine ⟨.tup ys, at_of hy, ?_⟩
  (conv => whnf)
  refine ⟨by unfold small; rw [hyl]; omega, ?_⟩
  show wpFor _ _ _ (rng 0 ys.length) _
  rw [hyl]
  refine wpFor_rng 0 (sz v t) (fun i Γ => ∃ a b c, Γ = [.im (eV v), .im (.int s), .im (.int t), .im (.lst (os.map .int)), .ow (((List.range (sz v s)).map (sumIf i (fun x => root v t x s) (nth os))).map D.int), a, b, c]) ?_ ?_ ⟨_, _, _, rfl⟩
  · rintro i Γ N hi ⟨a, b, c, rfl⟩ hN
    rw [Int.zero_add]
    have hrt := root_lt g ht hi hst
    have hl2 : root v t i s < ((List.range (sz v s)).map (sumIf i (fun x => root v t x s) (nth os))).length := by
      rw [List.length_map, List.length_range]
      exact hrt
    (conv => whnf)
    refine ⟨(v, t, i, s), rfl, ⟨g, ht, hi, hst⟩, ?_⟩
    rintro _ rfl
    (conv => whnf)
    refine ⟨_, at_int hl2, ?_⟩
    (conv => whnf)
    refine ⟨_, at_int (show i < os.length by omega), ?_⟩
    (conv => whnf)
    refine ⟨_, nth_set_lt hl2, ?_⟩
    refine hN _ ⟨a, .im (.int i), .im (.int (root v t i s : Nat)), ?_⟩
    show [_, _, _, _, Sl.ow ((((List.range (sz v s)).map (sumIf i (fun x => root v t x s) (nth os))).map D.int).set (root v t i s) (D.int _)), _, _, _] = _
    rw [set_map, add_at (n := i) (m := sz v s) (f := nth os) (g := fun x => root v t x s) rfl hrt] <;> rfl
  · rintro Γ ⟨a, b, c, rfl⟩
    (conv => whnf)
    show D.lst _ = D.lst _
    unfold sumsL
    rw [show t - (t - s) = s by omega] <;> rfl
def c_law_agree : Ct := ⟨5, Vw × Nat × List Int × Nat × List Int, fun g => [eV g.1, .int g.2.1, .lst (g.2.2.1.map .int), .int g.2.2.2.1, .lst (g.2.2.2.2.map .int)], fun g => Good g.1 ∧ g.2.1 ≤ g.2.2.2.1 ∧ g.2.2.2.1 ≤ g.1.up.length ∧ g.2.2.2.2.length = sz g.1 g.2.2.2.1, fun g d => ∃ b, d = .bl b ∧ (b = true ↔ sumsL g.1 g.2.2.2.1 g.2.2.2.2 (g.2.2.2.1 - g.2.1) = g.2.2.1), fun _ => rfl⟩
theorem f_law_agree {P : Program} {w : World} {K : PySem.W.Frag} {mg : Str → Option Value} {base : Heap} (W : Wd K mg) : Fn P w K mg base 3 "_law_agree" c_law_agree := by
  refine W.fn 63 (d := HH.d_law_agree) rfl rfl 53 rfl ["_law_levels_here", "_law_s", "_law_numbers", "_law_t", "_law_others"] rfl rfl (fun _ _ _ _ _ _ us h => by match us, h with | [a0, a1, a2, a3, a4], _ => rfl) fun f fd F => ?_
  have S : FnScope ["_law_levels_here", "_law_s", "_law_numbers", "_law_t", "_law_others"] ["_law_levels_here", "_law_s", "_law_numbers", "_law_t", "_law_others"] HH.d_law_agree.scope := C8.fnScope_by (by decide +kernel)
  have B := W.gb
  have G_law_sums := f_law_sums (P := P) (w := w) (base := base) W
  refine fn_ok (N := ["_law_levels_here", "_law_s", "_law_numbers", "_law_t", "_law_others"]) (k := 2) F S rfl (fun cdv A outer s H E hr => ⟨_, (vb_one (vs_ret (VCp.ve (v_eq hr (v_call G_law_sums hr (va_cons (vv 0) (va_cons (vv 1) (va_cons (vv 3) (va_cons (vv 4) va_nil))))) (ve_of (vl_list B.list (vv 2)))))))⟩) ?_
  rintro ⟨v, s, ns, t, os⟩ ⟨g, hst, ht, ho⟩
  dsimp only at g hst ht ho
  (conv => whnf)
  refine ⟨(v, s, t, os), rfl, ⟨g, hst, ht, ho⟩, ?_⟩
  rintro _ rfl
  (conv => whnf)
  refine ⟨pl_ints _, pl_ints _, fun h => ?_, fun h => ?_⟩
  · (conv => whnf)
    exact ⟨true, rfl, ⟨fun _ => eL_inj h, fun _ => rfl⟩⟩
  · (conv => whnf)
    exact ⟨false, rfl, ⟨fun z => Bool.noConfusion z, fun z => absurd (congrArg (fun q : List Int => D.lst (q.map D.int)) z) h⟩⟩
end LV
set_option Elab.async false
set_option linter.all false
set_option maxRecDepth 100000
set_option maxHeartbeats 4000000
namespace LV
open PySem PySem.Spec PyProof.Rows L2
theorem par_iff {l : List Node} {j x : Nat} : Par l j x ↔ j < l.length ∧ parL l j = x := by
  constructor
  · rintro ⟨n, hn, rfl⟩
    refine ⟨(List.getElem?_eq_some_iff.mp hn).1, ?_⟩
    unfold parL
    rw [hn] <;> rfl
  · rintro ⟨h, e⟩
    refine ⟨l[j], List.getElem?_eq_getElem h, ?_⟩
    unfold parL at e
    rw [List.getElem?_eq_getElem h] at e
    exact e
theorem kidsN_mem {l : List Node} {j x : Nat} : j ∈ kidsN l l.length x ↔ Par l j x := by
  unfold kidsN
  rw [List.mem_filter, List.mem_range, par_iff, decide_eq_true_eq]
theorem kidsN_nodup (l : List Node) (i x : Nat) : (kidsN l i x).Nodup := List.Pairwise.filter _ List.nodup_range
theorem kids_yes {l : List Node} {n : Nat} (h : ∀ r ∈ kidsL l n l.length, r.length = 1) : ∃ ks, Only l n ks ∧ kidsL l n l.length = ks.map fun k => [eI k] := by
  have h1 : ∀ x, x < n → kidsN l l.length x = [(kidsN l l.length x).headD 0] := fun x hx => by
    have := h ((kidsN l l.length x).map eI) (List.mem_map.mpr ⟨x, List.mem_range.mpr hx, rfl⟩)
    rw [List.length_map] at this
    obtain ⟨k, hk⟩ := List.length_eq_one_iff.mp this
    rw [hk] <;> rfl
  refine ⟨(List.range n).map fun x => (kidsN l l.length x).headD 0, ⟨by simp, fun x k hk => ?_⟩, ?_⟩
  · rw [List.getElem?_map] at hk
    obtain ⟨y, hy, rfl⟩ := Option.map_eq_some_iff.mp hk
    obtain ⟨hl, e⟩ := List.getElem?_eq_some_iff.mp hy
    rw [List.getElem_range] at e
    subst e
    rw [List.length_range] at hl
    have e := h1 x hl
    refine ⟨kidsN_mem.mp (by rw [e]; exact List.mem_singleton.mpr rfl), fun j hj => ?_⟩
    have := kidsN_mem.mpr hj
    rw [e] at this
    exact List.mem_singleton.mp this
  · unfold kidsL
    rw [List.map_map]
    refine List.map_congr_left fun x hx => ?_
    rw [h1 x (List.mem_range.mp hx)] <;> rfl
theorem kids_no {l : List Node} {n : Nat} {ks : List Nat} (h : Only l n ks) : ∀ r ∈ kidsL l n l.length, r.length = 1 := by
  intro r hr
  obtain ⟨x, hx, rfl⟩ := List.mem_map.mp hr
  have hxk : x < ks.length := by rw [h.len]; exact List.mem_range.mp hx
  obtain ⟨h1, h2⟩ := h.one x _ (List.getElem?_eq_getElem hxk)
  have a := List.length_pos_of_mem (kidsN_mem.mpr h1)
  have b := nodup_sub _ [ks[x]] (kidsN_nodup l l.length x) fun y hy => List.mem_singleton.mpr (h2 y (kidsN_mem.mp hy))
  rw [List.length_map]
  have c : [ks[x]].length = 1 := rfl
  omega
def c_law_level_fault : Ct := ⟨3, Vw × Nat × List Int, fun g => [eV g.1, .int g.2.1, .lst (g.2.2.map .int)], fun g => Good g.1 ∧ g.2.1 < g.1.up.length ∧ ∀ n ∈ g.2.2, n.natAbs < 2 ^ 7600, fun g d => d = eOS (lvlF g.1 g.2.1 g.2.2), fun _ => rfl⟩
theorem pl_lls {α : Type} (f : α → List D) (h : ∀ x, pl 39 (.lst (f x))) (xs : List α) : pl 40 (.lst (xs.map fun x => .lst (f x))) := fun d hd => by
  obtain ⟨x, _, rfl⟩ := List.mem_map.mp hd
  exact h x
theorem f_law_level_fault {P : Program} {w : World} {K : PySem.W.Frag} {mg : Str → Option Value} {base : Heap} (W : Wd K mg) : Fn P w K mg base 4 "_law_level_fault" c_law_level_fault := by
  refine W.fn 66 (d := HH.d_law_level_fault) rfl rfl 56 rfl ["_law_levels_here", "_law_s", "_law_numbers"] rfl rfl (fun _ _ _ _ _ _ us h => by match us, h with | [a0, a1, a2], _ => rfl) fun f fd F => ?_
  have S : FnScope ["_law_levels_here", "_law_s", "_law_numbers", "_law_x", "_law_kids_here", "_law_row", "_law_table_here"] ["_law_levels_here", "_law_s", "_law_numbers"] HH.d_law_level_fault.scope := C8.fnScope_by (by decide +kernel)
  have B := W.gb
  have G_law_kids := f_law_kids (P := P) (w := w) (base := base) W
  have G_law_table := f_law_table (P := P) (w := w) (base := base) W
  have G_law_hangs := f_law_hangs (P := P) (w := w) (base := base) W
  have G_law_balanced := f_law_balanced (P := P) (w := w) (base := base) W
  have G_law_lit_sum := f_law_lit_sum (P := P) (w := w) (base := base) W
  refine fn_ok (N := ["_law_levels_here", "_law_s", "_law_numbers", "_law_x", "_law_kids_here", "_law_row", "_law_table_here"]) (k := 3) F S rfl (fun cdv A outer s H E hr => ⟨_, (vb_cons (vs_if (vt_of (vw_or (vt_cmp (v_neI (v_len B.len (vv 2)) (v_len B.len (v_ix (vv 0) (vv 1))))) (vw_or1 (vt_cmp (v_ne hr (ve_of (vl_lc (own := [("_law_x", 3)]) rfl S.nd (VI.own (vi_list (vv 2))) (by rfl) (fun _ _ _ _ _ => (vg_name 3 S.nd)) (fun _ _ _ _ _ => (vq_one (vt_cmp (v_lt (vv 3) v_int)))) (fun _ _ _ _ _ => (vv 3)))) (ve_of (vl_lst va_nil)))))))
 (vb_one (vs_ret v_str))
 vb_nil)
 (vb_cons (vs_set (i := 4) S.nd (v_call G_law_kids hr (va_cons (vv 0) (va_cons (vv 1) va_nil))))
 (vb_cons (vs_if (vt_cmp (v_ne hr (ve_of (vl_lc (own := [("_law_row", 5)]) rfl S.nd (VI.own (vi_list (vv 4))) (by rfl) (fun _ _ _ _ _ => (vg_name 5 S.nd)) (fun _ _ _ _ _ => (vq_one (vt_cmp (v_neI (v_len B.len (vv 5)) v_int)))) (fun _ _ _ _ _ => (vv 5)))) (ve_of (vl_lst va_nil))))
 (vb_one (vs_ret v_str))
 vb_nil)
 (vb_cons (vs_set (i := 6) S.nd (v_call G_law_table hr (va_cons (vv 0) (va_cons (vv 1) (va_cons (vv 4) va_nil)))))
 (vb_cons (vs_if (vt_not (vt_val (v_call G_law_hangs hr (va_cons (vv 6) va_nil))))
 (vb_one (vs_ret v_str))
 vb_nil)
 (vb_cons (vs_if (vt_not (vt_val (v_call G_law_balanced hr (va_cons (vv 6) (va_cons (vv 2) va_nil)))))
 (vb_one (vs_ret v_str))
 vb_nil)
 (vb_cons (vs_if (vt_cmp (v_neI (v_call G_law_lit_sum hr (va_cons (vv 0) (va_cons (vv 1) (va_cons (vv 2) va_nil)))) v_int))
 (vb_one (vs_ret v_str))
 vb_nil)
 (vb_one (vs_ret v_non)))))))))⟩) ?_
  rintro ⟨v, s, ns⟩ ⟨g, hs, hb⟩
  dsimp only at g hs hb
  have hr := g.rounds
  have hz := g.szb (k := s) (by omega)
  obtain ⟨l, hl⟩ := up_get hs
  have gl := g.ups _ l hl
  obtain ⟨xs, hx, hxl⟩ := lvs_any (v := v) (k := s) (by omega)
  (conv => whnf)
  refine ⟨.tup xs, at_of hx, ?_⟩
  (conv => whnf)
  refine ⟨fun h1 => ?_, fun h1 => ?_⟩
  · have h1' : ns.length ≠ sz v s := fun z => h1 (by rw [List.length_map, hxl, z])
    (conv => whnf)
    exact congrArg eOS (lvlF_1 (.inl h1')).symm
  have h1' : ns.length = sz v s := by
    have h1 := Classical.not_not.mp h1
    rw [List.length_map, hxl] at h1
    exact Int.ofNat_inj.mp h1
  (conv => whnf)
  show wpLc _ _ _ _ _ (ns.map D.int) []
  refine wpLc_filter D.int (fun n => decide (n < 1)) D.int ns (by omega) (fun n _ N M hN hM => ?_) ?_
  · (conv => whnf)
    refine ⟨fun h => ?_, fun h => ?_⟩
    · exact hN (decide_eq_true h)
    · exact hM (decide_eq_false h)
  (conv => whnf)
  refine ⟨pl_ints _, fun d hd => absurd hd List.not_mem_nil, fun h2 => ?_, fun h2 => ?_⟩
  · (conv => whnf)
    refine congrArg eOS (lvlF_1 (.inr ?_)).symm
    refine Classical.byContradiction fun z => h2 ?_
    rw [List.filter_eq_nil_iff.mpr fun a ha hh => z ⟨a, ha, of_decide_eq_true hh⟩] <;> rfl
  have h2 := List.map_eq_nil_iff.mp (D.lst.inj (Classical.not_not.mp h2))
  have hbad : ¬ (ns.length ≠ sz v s ∨ ∃ n ∈ ns, n < 1) := by
    rintro (z | ⟨n, hn, z⟩)
    · exact z h1'
    · exact (List.filter_eq_nil_iff.mp h2) n hn (decide_eq_true z)
  clear h2
  (conv => whnf)
  refine ⟨(v, s, l), rfl, ⟨g, hl⟩, ?_⟩
  rintro _ rfl
  dsimp only
  have hkl : (kidsL l (sz v s) l.length).length = sz v s := by simp [kidsL]
  (conv => whnf)
  refine wpLc_filter D.lst (fun r => decide (r.length ≠ 1)) D.lst (kidsL l (sz v s) l.length) (by omega) (fun r _ N M hN hM => ?_) ?_
  · (conv => whnf)
    refine ⟨fun h => hN (decide_eq_true (by omega)), fun h => hM (decide_eq_false (by omega))⟩
  (conv => whnf)
  have hpl : pl 40 (D.lst (((kidsL l (sz v s) l.length).filter fun r => decide (r.length ≠ 1)).map D.lst)) := fun d hd => by
    obtain ⟨r, hr, rfl⟩ := List.mem_map.mp hd
    obtain ⟨x, _, rfl⟩ := List.mem_map.mp (List.mem_filter.mp hr).1
    intro y hy
    obtain ⟨k, _, rfl⟩ := List.mem_map.mp hy
    trivial
  refine ⟨hpl, fun d hd => absurd hd List.not_mem_nil, fun h3 => ?_, fun h3 => ?_⟩
  · (conv => whnf)
    refine congrArg eOS (lvlF_2 hl hbad ?_).symm
    rintro ⟨ks, ho⟩
    refine h3 ?_
    rw [List.filter_eq_nil_iff.mpr fun a ha hh => (of_decide_eq_true hh : a.length ≠ 1) (kids_no ho a ha)] <;> rfl
  have h3 := List.map_eq_nil_iff.mp (D.lst.inj (Classical.not_not.mp h3))
  obtain ⟨ks, ho, ek⟩ := kids_yes (l := l) (n := sz v s) fun r hr => Classical.not_not.mp fun z => (List.filter_eq_nil_iff.mp h3) r hr (decide_eq_true z)
  clear h3 hpl
  have hks : ks.length = sz v s := ho.len
  have sq : Sq (tbl l ks) := tbl_sq (by omega) (by omega) fun n hn h hh => (gl.near n hn h hh).2
  obtain ⟨lf1, lf2⟩ := lvlF_3 hl hbad ho
  (conv => whnf)
  refine ⟨(v, s, l, ks), ?_, ⟨g, hl, by dsimp only; omega, fun k hk => ?_⟩, ?_⟩
  · show [_, _, _] = [_, _, _]
    rw [ek, List.map_map] <;> rfl
  · obtain ⟨x, hx2, rfl⟩ := List.mem_iff_getElem.mp hk
    exact (ho.one x _ (List.getElem?_eq_getElem hx2)).1.lt
  rintro _ rfl
  (conv => whnf)
  refine ⟨tbl l ks, rfl, sq, ?_⟩
  rintro _ ⟨b, rfl, hb1⟩
  cases b with
  | false =>
    (conv => whnf)
    exact congrArg eOS (lf1 fun z => Bool.noConfusion (hb1.mpr z)).symm
  | true =>
    obtain ⟨lf3, lf4⟩ := lf2 (hb1.mp rfl)
    (conv => whnf)
    refine ⟨(tbl l ks, ns), rfl, ⟨sq, by rw [tbl_len]; exact hks.trans h1'.symm, hb⟩, ?_⟩
    rintro _ ⟨b, rfl, hb2⟩
    cases b with
    | false =>
      (conv => whnf)
      exact congrArg eOS (lf3 fun z => Bool.noConfusion (hb2.mpr z)).symm
    | true =>
      obtain ⟨lf5, lf6⟩ := lf4 (hb2.mp rfl)
      (conv => whnf)
      refine ⟨(v, s, ns), rfl, ⟨g, Nat.le_of_lt hs, h1'⟩, ?_⟩
      rintro _ rfl
      (conv => whnf)
      refine ⟨fun h => ?_, fun h => ?_⟩
      · (conv => whnf)
        exact congrArg eOS (lf5 h).symm
      · (conv => whnf)
        exact congrArg eOS (lf6 (Classical.not_not.mp h)).symm
end LV
set_option Elab.async false
set_option linter.all false
set_option maxRecDepth 100000
set_option maxHeartbeats 4000000
namespace LV
open PySem PySem.Spec PyProof.Rows L2
def eRows (rs : List (List Int)) : D := .lst (rs.map fun r => .lst (r.map .int))
def c_law_judge : Ct := ⟨2, Vw × Pap, fun g => [eV g.1, .tup [.int g.2.fd, eTi g.2.pl, eRows g.2.rw, .int g.2.ho, .tup (g.2.cn.map eC)]], fun g => Good g.1 ∧ PapOk g.2 ∧ g.2.fd = g.1.up.length, fun g d => d = eDue (judge g.1 g.2), fun _ => rfl⟩
theorem pl_tis (ns : List Int) : pl 40 (.tup (ns.map D.int)) := fun d hd => by
  obtain ⟨o, _, rfl⟩ := List.mem_map.mp hd
  trivial
theorem pl_rng {α : Type} (f : α → Int) (xs : List α) : pl 40 (.lst (xs.map fun k => D.int (f k))) := fun d hd => by
  obtain ⟨o, _, rfl⟩ := List.mem_map.mp hd
  trivial
def goodB (p : Pap) (s : Int) : Bool := decide (0 ≤ s ∧ s < p.fd)
def riseB (p : Pap) (k : Nat) : Bool := decide (nth p.pl (k + 1) ≤ nth p.pl k)
theorem lvOk_iff {p : Pap} (h1 : p.pl ≠ []) (h2 : (p.pl.filter (goodB p)).length = p.pl.length) (h3 : (List.range (p.pl.length - 1)).filter (riseB p) = []) (h4 : p.rw.length = p.pl.length) : LvOk p := by
  have hpos : 0 < p.pl.length := List.length_pos_iff.mpr h1
  have hg : ∀ s ∈ p.pl, goodB p s = true := List.filter_eq_self.mp (List.filter_sublist.eq_of_length h2)
  have hm : ∀ k, k < p.pl.length → 0 ≤ nth p.pl k ∧ nth p.pl k < p.fd := fun k hk => of_decide_eq_true (hg _ (List.mem_of_getElem? (nth_eq hk)))
  refine ⟨h1, h4.symm, (hm 0 hpos).1, (hm _ (by omega)).2, fun k hk => ?_⟩
  have := List.filter_eq_nil_iff.mp h3 k (List.mem_range.mpr (by omega))
  unfold riseB at this
  rw [decide_eq_true_eq] at this
  omega
theorem lvOk_2 {p : Pap} (h : LvOk p) : (p.pl.filter (goodB p)).length = p.pl.length := by
  rw [List.filter_eq_self.mpr fun s hs => ?_]
  obtain ⟨k, hk, rfl⟩ := List.mem_iff_getElem.mp hs
  have := h.rng hk
  have e := nth_eq hk
  rw [List.getElem?_eq_getElem hk] at e
  rw [Option.some.inj e]
  exact decide_eq_true this
theorem lvOk_3 {p : Pap} (h : LvOk p) : (List.range (p.pl.length - 1)).filter (riseB p) = [] := by
  refine List.filter_eq_nil_iff.mpr fun k hk => ?_
  have := h.up k (by have := List.mem_range.mp hk; omega)
  unfold riseB
  rw [decide_eq_true_eq]
  omega
theorem f_law_judge {P : Program} {w : World} {K : PySem.W.Frag} {mg : Str → Option Value} {base : Heap} (W : Wd K mg) : Fn P w K mg base 5 "_law_judge" c_law_judge := by
  refine W.fn 65 (d := HH.d_law_judge) rfl rfl 55 rfl ["_law_levels_here", "_law_paper_here"] rfl rfl (fun _ _ _ _ _ _ us h => by match us, h with | [a0, a1], _ => rfl) fun f fd F => ?_
  have S : FnScope ["_law_levels_here", "_law_paper_here", "_law_found", "_law_places", "_law_numbers", "_law_houses", "_law_counts", "_law_good", "_law_s", "_law_rising", "_law_k", "_law_what"] ["_law_levels_here", "_law_paper_here"] HH.d_law_judge.scope := C8.fnScope_by (by decide +kernel)
  have B := W.gb
  have G_law_level_fault := f_law_level_fault (P := P) (w := w) (base := base) W
  have G_law_agree := f_law_agree (P := P) (w := w) (base := base) W
  have G_law_counts_at := f_law_counts_at (P := P) (w := w) (base := base) W
  refine fn_ok (N := ["_law_levels_here", "_law_paper_here", "_law_found", "_law_places", "_law_numbers", "_law_houses", "_law_counts", "_law_good", "_law_s", "_law_rising", "_law_k", "_law_what"]) (k := 4) F S rfl (fun cdv A outer s H E hr => ⟨_, (vb_cons (vs_asg (vv 1) (vg_tup (n := 5) rfl (vgs_cons (vg_name 2 S.nd) (vgs_cons (vg_name 3 S.nd) (vgs_cons (vg_name 4 S.nd) (vgs_cons (vg_name 5 S.nd) (vgs_cons (vg_name 6 S.nd) vgs_nil)))))))
 (vb_cons (vs_setLc (i := 7) (own := [("_law_s", 8)]) rfl S.nd (VI.own (vi_tup (vv 3))) (by rfl) (fun _ _ _ _ _ => (vg_name 8 S.nd)) (fun _ _ _ _ _ => (vq_one (vt_lelt v_int (vv 8) (vv 2)))) (fun _ _ _ _ _ => (vv 8)) (sw_true rfl rfl rfl (by decide +kernel)))
 (vb_cons (vs_setLc (i := 9) (own := [("_law_k", 10)]) rfl S.nd (VI.own (vi_rng2 B.range (va_cons v_int (va_cons (v_len B.len (vv 3)) va_nil)))) (by rfl) (fun _ _ _ _ _ => (vg_name 10 S.nd)) (fun _ _ _ _ _ => (vq_one (vt_cmp (v_ge (v_ix (vv 3) (v_sub (vv 10) v_int)) (v_ix (vv 3) (vv 10)))))) (fun _ _ _ _ _ => (vv 10)) (sw_true rfl rfl rfl (by decide +kernel)))
 (vb_cons (vs_if (vt_of (vw_or (vt_cmp (v_eq hr (vv 3) (v_tup va_nil))) (vw_or (vt_cmp (v_neI (v_len B.len (vv 7)) (v_len B.len (vv 3)))) (vw_or (vt_cmp (v_ne hr (vv 9) (ve_of (vl_lst va_nil)))) (vw_or1 (vt_cmp (v_neI (v_len B.len (vv 4)) (v_len B.len (vv 3)))))))))
 (vb_one (vs_ret (v_tup (va_cons v_str (va_cons v_non va_nil)))))
 vb_nil)
 (vb_cons (vs_for PassesOwn.never rfl (vi_rng1 B.range (va_cons (v_len B.len (vv 3)) va_nil)) (vg_name 10 S.nd)
 (vb_cons (vs_set (i := 11) S.nd (v_call G_law_level_fault hr (va_cons (vv 0) (va_cons (v_ix (vv 3) (vv 10)) (va_cons (v_ix (vv 4) (vv 10)) va_nil)))))
 (vb_cons (vs_if (vt_of (vw_and (vt_cmp (v_is (vv 11) v_non)) (vw_and (vt_cmp (v_gt (vv 10) v_int)) (vw_and1 (vt_not (vt_val (v_call G_law_agree hr (va_cons (vv 0) (va_cons (v_ix (vv 3) (v_sub (vv 10) v_int)) (va_cons (v_ix (vv 4) (v_sub (vv 10) v_int)) (va_cons (v_ix (vv 3) (vv 10)) (va_cons (v_ix (vv 4) (vv 10)) va_nil))))))))))))
 (vb_one (vs_set (i := 11) S.nd v_str))
 vb_nil)
 (vb_one (vs_if (vt_cmp (v_isnot (vv 11) v_non))
 (vb_one (vs_ret (v_tup (va_cons (vv 11) (va_cons (v_ix (vv 3) (vv 10)) va_nil)))))
 vb_nil)))))
 (vb_cons (vs_if (vt_cmp (v_neI (v_sum rfl B.sum (v_ix (vv 4) v_int)) (vv 5)))
 (vb_one (vs_ret (v_tup (va_cons v_str (va_cons v_non va_nil)))))
 vb_nil)
 (vb_cons (vs_if (vt_cmp (v_lt (v_len B.len (vv 3)) (vv 5)))
 (vb_one (vs_ret (v_tup (va_cons v_str (va_cons v_non va_nil)))))
 vb_nil)
 (vb_cons (vs_if (vt_cmp (v_ne hr (vv 6) (v_call G_law_counts_at hr (va_cons (vv 0) (va_cons (v_ix (vv 3) v_int) (va_cons (v_ix (vv 4) v_int) va_nil))))))
 (vb_one (vs_ret (v_tup (va_cons v_str (va_cons v_non va_nil)))))
 vb_nil)
 (vb_one (vs_ret v_non))))))))))⟩) ?_
  rintro ⟨w, p⟩ ⟨gw, h2, hwl⟩
  dsimp only at gw h2 hwl
  have hb1 := h2.l1
  have hb2 := h2.l2
  (conv => whnf)
  refine ⟨rfl, ?_⟩
  (conv => whnf)
  show wpLc _ _ _ _ _ (p.pl.map D.int) []
  refine wpLc_filter D.int (goodB p) D.int p.pl (by omega) (fun s _ N M hN hM => ?_) ?_
  · (conv => whnf)
    refine ⟨fun q1 => ?_, fun q1 => ?_⟩
    · (conv => whnf)
      refine ⟨fun q2 => hN (decide_eq_true ⟨q1, q2⟩), fun q2 => hM (decide_eq_false fun z => q2 z.2)⟩
    · (conv => whnf)
      exact hM (decide_eq_false fun z => q1 z.1)
  (conv => whnf)
  refine ⟨by unfold small; omega, by unfold small; rw [List.length_map]; dsimp only; omega, ?_⟩
  show wpLc _ _ _ _ _ (rng 1 (((p.pl.map D.int).length : Int) - 1).toNat) []
  rw [show (((p.pl.map D.int).length : Int) - 1).toNat = p.pl.length - 1 by rw [List.length_map]; omega]
  refine wpLc_rngF (riseB p) (fun k => .int ((1 : Int) + (k : Nat))) 1 (p.pl.length - 1) (by omega) (fun k hk N M hN hM => ?_) ?_
  · (conv => whnf)
    refine ⟨_, (by show atI (p.pl.map D.int) ((1 : Int) + (k : Nat) - 1) = _; rw [show (1 : Int) + (k : Nat) - 1 = (k : Nat) by omega]; exact at_int (by omega)), ?_⟩
    (conv => whnf)
    refine ⟨_, (by show atI (p.pl.map D.int) ((1 : Int) + (k : Nat)) = _; rw [show (1 : Int) + (k : Nat) = ((k + 1 : Nat) : Int) by omega]; exact at_int (by omega)), ?_⟩
    (conv => whnf)
    refine ⟨fun h => hN (decide_eq_true h), fun h => hM (decide_eq_false h)⟩
  (conv => whnf)
  refine ⟨pl_tis _, fun d hd => absurd hd List.not_mem_nil, fun k1 => ?_, fun k1 => ?_⟩
  · have e : p.pl = [] := List.map_eq_nil_iff.mp (D.tup.inj k1)
    (conv => whnf)
    show _ = eDue (judge w p)
    rw [judge_1 fun z => z.ne e] <;> rfl
  have k1' : p.pl ≠ [] := fun z => k1 (by rw [z] <;> rfl)
  (conv => whnf)
  refine ⟨fun k2 => ?_, fun k2 => ?_⟩
  · (conv => whnf)
    show _ = eDue (judge w p)
    rw [judge_1 fun z => k2 (by rw [List.length_map, List.length_map]; exact congrArg Nat.cast (lvOk_2 z))] <;> rfl
  have k2' : (p.pl.filter (goodB p)).length = p.pl.length := by
    have k2 := Classical.not_not.mp k2
    rw [List.length_map, List.length_map] at k2
    exact Int.ofNat_inj.mp k2
  (conv => whnf)
  refine ⟨pl_rng _ _, fun d hd => absurd hd List.not_mem_nil, fun k3 => ?_, fun k3 => ?_⟩
  · (conv => whnf)
    show _ = eDue (judge w p)
    rw [judge_1 fun z => k3 (by rw [lvOk_3 z] <;> rfl)] <;> rfl
  have k3' : (List.range (p.pl.length - 1)).filter (riseB p) = [] := List.map_eq_nil_iff.mp (D.lst.inj (Classical.not_not.mp k3))
  (conv => whnf)
  refine ⟨fun k4 => ?_, fun k4 => ?_⟩
  · (conv => whnf)
    show _ = eDue (judge w p)
    rw [judge_1 fun z => k4 (by rw [List.length_map, List.length_map]; exact congrArg Nat.cast z.len.symm)] <;> rfl
  have k4' : p.rw.length = p.pl.length := by
    have k4 := Classical.not_not.mp k4
    rw [List.length_map, List.length_map] at k4
    exact Int.ofNat_inj.mp k4
  have ok := lvOk_iff k1' k2' k3' k4'
  clear k1 k2 k3 k4
  have hlen := ok.len
  have hpos : 0 < p.pl.length := List.length_pos_iff.mpr ok.ne
  have hlv : ∀ k, k < p.pl.length → ((lvAt p k : Nat) : Int) = nth p.pl k ∧ lvAt p k < w.up.length := fun k hk => by
    have := ok.rng hk
    unfold lvAt
    omega
  have atP : ∀ k, k < p.pl.length → atI (p.pl.map D.int) (k : Int) = some (.int (lvAt p k : Nat)) := fun k hk => by
    rw [(hlv k hk).1]
    exact at_int hk
  (conv => whnf)
  refine ⟨by unfold small; rw [List.length_map]; dsimp only; omega, ?_⟩
  show wpFor _ _ _ (rng 0 ((p.pl.map D.int).length : Int).toNat) _
  rw [show ((p.pl.map D.int).length : Int).toNat = p.pl.length by rw [List.length_map] <;> rfl]
  refine wpFor_rng 0 p.pl.length (fun i Γ => ∃ a0 a1 a2 a3 a4 a5 a6, Γ = [.im (eV w), a0, a1, .im (eTi p.pl), .im (eRows p.rw), .im (.int p.ho), .im (.tup (p.cn.map eC)), a2, a3, a4, a5, a6] ∧ ∀ j, j < i → fltAt w p j = none) ?_ ?_ ⟨_, _, _, _, _, _, _, rfl, fun j hj => absurd hj (by omega)⟩
  · rintro i Γ N hil ⟨a0, a1, a2, a3, a4, a5, a6, rfl, hI⟩ hN
    rw [Int.zero_add]
    have hrow := row_at (p := p) (k := i) (by omega)
    have hrb := h2.bd _ (List.mem_of_getElem? hrow)
    have fin : ∀ x, fltAt w p i = some x → eDue (judge w p) = eDue (some (x, some (lvAt p i))) := fun x hx => by
      rw [judge_2 ok (f := (x, some (lvAt p i))) (by rw [fltGo_eq (Nat.le_of_lt hil) hI, show p.pl.length - i = (p.pl.length - i - 1) + 1 by omega, fltGo_hit hx])]
    (conv => whnf)
    refine ⟨_, atP i hil, ?_⟩
    (conv => whnf)
    refine ⟨_, at_map hrow, ?_⟩
    (conv => whnf)
    refine ⟨(w, lvAt p i, rowAt p i), rfl, ⟨gw, (hlv i hil).2, hrb⟩, ?_⟩
    rintro _ rfl
    dsimp only
    cases hf : lvlF w (lvAt p i) (rowAt p i) with
    | some x =>
      (conv => whnf)
      refine ⟨_, atP i hil, ?_⟩
      exact (fin x (fltAt_some hf)).symm
    | none =>
      obtain ⟨fn1, fn2⟩ := fltAt_none hf
      (conv => whnf)
      refine ⟨fun q => ?_, fun q => ?_⟩
      · have hi0 : 0 < i := by omega
        have hrow1 := row_at (p := p) (k := i - 1) (by omega)
        have e1 : (i : Int) - 1 = ((i - 1 : Nat) : Int) := by omega
        have hm := ok.up (i - 1) (by omega)
        rw [show i - 1 + 1 = i by omega, ← (hlv i hil).1, ← (hlv (i - 1) (by omega)).1] at hm
        (conv => whnf)
        refine ⟨.int (lvAt p (i - 1) : Nat), by rw [e1]; exact atP _ (by omega), ?_⟩
        (conv => whnf)
        refine ⟨.lst ((rowAt p (i - 1)).map .int), by rw [e1]; exact at_map hrow1, ?_⟩
        (conv => whnf)
        refine ⟨_, atP i hil, ?_⟩
        (conv => whnf)
        refine ⟨_, at_map hrow, ?_⟩
        (conv => whnf)
        refine ⟨(w, lvAt p (i - 1), rowAt p (i - 1), lvAt p i, rowAt p i), rfl, ⟨gw, by dsimp only; omega, by have := (hlv i hil).2; dsimp only; omega, lvlF_len hf⟩, ?_⟩
        rintro _ ⟨b, rfl, hb2⟩
        cases b with
        | true =>
          (conv => whnf)
          refine hN _ ⟨_, _, _, _, _, _, _, rfl, fun j hj => ?_⟩
          rcases Nat.lt_succ_iff_lt_or_eq.mp hj with hj | rfl
          · exact hI j hj
          · exact fn2 (.inr (hb2.mp rfl))
        | false =>
          (conv => whnf)
          refine ⟨_, atP i hil, ?_⟩
          exact (fin _ (fn1 hi0 fun z => Bool.noConfusion (hb2.mpr z))).symm
      · (conv => whnf)
        refine hN _ ⟨_, _, _, _, _, _, _, rfl, fun j hj => ?_⟩
        rcases Nat.lt_succ_iff_lt_or_eq.mp hj with hj | rfl
        · exact hI j hj
        · exact fn2 (.inl (by omega))
  · rintro Γ ⟨a0, a1, a2, a3, a4, a5, a6, rfl, hI⟩
    have hgo : fltGo w p 0 p.pl.length = none := by
      rw [fltGo_eq (Nat.le_refl _) hI, Nat.sub_self] <;> rfl
    obtain ⟨j1, j2⟩ := judge_3 ok hgo
    have hrow := row_at (p := p) (k := 0) (by omega)
    have hl0 : fltAt w p 0 = none := hI 0 hpos
    have hf0 : lvlF w (lvAt p 0) (rowAt p 0) = none := by
      cases hf : lvlF w (lvAt p 0) (rowAt p 0) with
      | none => rfl
      | some x =>
        rw [fltAt_some hf] at hl0
        cases hl0
    have at0 : atI (p.rw.map fun r => D.lst (r.map .int)) 0 = some (.lst ((rowAt p 0).map .int)) := at_map (i := 0) hrow
    (conv => whnf)
    refine ⟨_, at0, ?_⟩
    (conv => whnf)
    refine ⟨rowAt p 0, rfl, ?_⟩
    (conv => whnf)
    refine ⟨fun q => ?_, fun q => ?_⟩
    · (conv => whnf)
      show _ = eDue (judge w p)
      rw [j1 q] <;> rfl
    obtain ⟨j3, j4⟩ := j2 (Classical.not_not.mp q)
    (conv => whnf)
    refine ⟨fun q3 => ?_, fun q3 => ?_⟩
    · (conv => whnf)
      show _ = eDue (judge w p)
      rw [j3 (by rw [List.length_map] at q3; exact q3)] <;> rfl
    obtain ⟨j5, j6⟩ := j4 (by rw [List.length_map] at q3; exact q3)
    (conv => whnf)
    refine ⟨_, atP 0 hpos, ?_⟩
    (conv => whnf)
    refine ⟨_, at0, ?_⟩
    (conv => whnf)
    refine ⟨(w, lvAt p 0, rowAt p 0), rfl, ⟨gw, by have := (hlv 0 hpos).2; dsimp only; omega, lvlF_len hf0⟩, ?_⟩
    rintro _ rfl
    dsimp only
    refine ⟨pl_eCs _, pl_eCs _, fun q5 => ?_, fun q5 => ?_⟩
    · (conv => whnf)
      show _ = eDue (judge w p)
      rw [j5 fun z => q5 (by rw [z])] <;> rfl
    · (conv => whnf)
      show _ = eDue (judge w p)
      rw [j6 (eCs_inj (Classical.not_not.mp q5))] <;> rfl
end LV
set_option Elab.async false
set_option linter.all false
set_option maxRecDepth 100000
set_option maxHeartbeats 4000000
namespace LV
open PySem PySem.Spec PyProof.Rows L2
def c_law_node : Ct := ⟨2, Node × List Nat, fun g => [eN g.1, eLn g.2], fun g => g.1.1 ∈ g.2 ∧ (∀ h ∈ g.1.2, h.1 ∈ g.2) ∧ g.1.2.length ≤ 1000, fun g d => d = eN (cutNd (fun z => g.2.idxOf z) g.1), fun _ => rfl⟩
theorem idxM : ∀ {xs : List Nat} {y : Nat}, y ∈ xs → (xs.map eI)[xs.idxOf y]? = some (eI y) ∧ ∀ m, m < xs.idxOf y → (xs.map eI)[m]? ≠ some (eI y)
  | [], _, h => absurd h List.not_mem_nil
  | a :: xs, y, h => by
    by_cases e : a = y
    · subst e
      rw [List.idxOf_cons_self]
      exact ⟨rfl, fun m hm => absurd hm (Nat.not_lt_zero m)⟩
    · have e2 : (a :: xs).idxOf y = xs.idxOf y + 1 := by
        rw [List.idxOf_cons, beq_false_of_ne e] <;> rfl
      have h2 : y ∈ xs := (List.mem_cons.mp h).resolve_left fun z => e z.symm
      obtain ⟨h3, h4⟩ := idxM h2
      rw [e2]
      refine ⟨h3, fun m hm => ?_⟩
      cases m with
      | zero => exact fun z => e (Int.ofNat_inj.mp (D.int.inj (Option.some.inj z)))
      | succ m => exact h4 m (by omega)
theorem f_law_node {P : Program} {w : World} {K : PySem.W.Frag} {mg : Str → Option Value} {base : Heap} (W : Wd K mg) : Fn P w K mg base 1 "_law_node" c_law_node := by
  refine W.fn 48 (d := HH.d_law_node) rfl rfl 38 rfl ["_law_key", "_law_below"] rfl rfl (fun _ _ _ _ _ _ us h => by match us, h with | [a0, a1], _ => rfl) fun f fd F => ?_
  have S : FnScope ["_law_key", "_law_below", "_law_pair"] ["_law_key", "_law_below"] HH.d_law_node.scope := C8.fnScope_by (by decide +kernel)
  have B := W.gb
  refine fn_ok (N := ["_law_key", "_law_below", "_law_pair"]) (k := 0) F S rfl (fun cdv A outer s H E hr => ⟨_, (vb_one (vs_ret (v_tup (va_cons (v_index hr (vv 1) (v_ix (vv 0) v_int)) (va_cons (v_tuple B.tuple (ve_of (vl_lc (own := [("_law_pair", 2)]) rfl S.nd (VI.own (vi_tup (v_ix (vv 0) v_int))) (by rfl) (fun _ _ _ _ _ => (vg_name 2 S.nd)) (fun _ _ _ _ _ => vq_nil) (fun _ _ _ _ _ => (v_tup (va_cons (v_index hr (vv 1) (v_ix (vv 2) v_int)) (va_cons (v_ix (vv 2) v_int) va_nil))))))) va_nil)))))⟩) ?_
  rintro ⟨⟨n1, n2⟩, bs⟩ ⟨h1, h2, h3⟩
  dsimp only at h1 h2 h3
  obtain ⟨i1, i2⟩ := idxM h1
  (conv => whnf)
  refine ⟨_, at_0, ?_⟩
  (conv => whnf)
  refine ⟨pl_eLn _, trivial, _, i1, i2, ?_⟩
  (conv => whnf)
  refine ⟨_, at_1, ?_⟩
  (conv => whnf)
  show wpLc _ _ _ _ _ (n2.map eH) []
  refine wpLc_map eH (fun h => .tup [.int (bs.idxOf h.1 : Nat), eA h.2]) n2 (by omega) (fun h hh N M hN => ?_) ?_
  · obtain ⟨k1, k2⟩ := idxM (h2 h hh)
    (conv => whnf)
    refine ⟨_, at_0, ?_⟩
    (conv => whnf)
    refine ⟨pl_eLn _, trivial, _, k1, k2, ?_⟩
    (conv => whnf)
    refine ⟨_, at_1, ?_⟩
    exact hN
  (conv => whnf)
  show D.tup [_, D.tup _] = eN (_, n2.map _)
  show _ = D.tup [_, D.tup ((n2.map _).map eH)]
  rw [List.map_map] <;> rfl
def wr (b : Bool) (xs : List D) : D := match b with
  | true => .tup xs
  | false => .lst xs
/-- the keys: all tuples, or all lists -/
def eKs (b : Bool) (v : Vw) : D := wr b (wr b (v.st.map eS) :: v.up.map fun l => wr b (l.map eN))
theorem oIx_wr {b : Bool} {xs : List D} {i : Int} {d : D} {Q : D → Prop} (h : atI xs i = some d) (q : Q d) : oIx (wr b xs) (.int i) Q := by
  cases b
  · exact ⟨d, h, q⟩
  · exact ⟨d, h, q⟩
def eLL (ss : List (List Nat)) : D := .lst (ss.map eLn)
def c_law_seen : Ct := ⟨4, Bool × Vw × List (List Nat) × Nat × Nat × Nat, fun g => [eKs g.1 g.2.1, eLL g.2.2.1, .int g.2.2.2.1, .int g.2.2.2.2.1], fun g => Good g.2.1 ∧ g.2.2.2.2.1 ≤ g.2.1.up.length ∧ g.2.2.2.2.2 < sz g.2.1 g.2.2.2.2.1 ∧ ∃ row, g.2.2.1[g.2.2.2.2.1]? = some row ∧ row[g.2.2.2.1]? = some g.2.2.2.2.2, fun g d => d = eLL ((List.range (g.2.2.2.2.1 + 1)).map (seenAt g.2.1 g.2.2.2.2.1 g.2.2.2.2.2)), fun _ => rfl⟩
def SLs (v : Vw) (r x i : Nat) : List D := (List.range (r + 1)).map fun k => if r - i ≤ k then eLn (seenAt v r x k) else .lst []
theorem SLs_len (v : Vw) (r x i : Nat) : (SLs v r x i).length = r + 1 := by simp [SLs]
theorem SLs_at {v : Vw} {r x i k : Nat} (h1 : r - i ≤ k) (h2 : k ≤ r) : (SLs v r x i)[k]? = some (eLn (seenAt v r x k)) := by
  unfold SLs
  rw [List.getElem?_map, List.getElem?_range (by omega)]
  exact congrArg some (if_pos h1)
theorem SLs_set {v : Vw} {r x i : Nat} (h : i < r) : (SLs v r x i).set (r - i - 1) (eLn (seenAt v r x (r - i - 1))) = SLs v r x (i + 1) := by
  refine List.ext_getElem? fun y => ?_
  by_cases e : r - i - 1 = y
  · subst e
    rw [List.getElem?_set_self (by rw [SLs_len]; omega), SLs_at (by omega) (by omega)]
  · rw [List.getElem?_set_ne e]
    unfold SLs
    rw [List.getElem?_map, List.getElem?_map]
    cases q : (List.range (r + 1))[y]? with
    | none => rfl
    | some z =>
      have hz : z = y := by
        obtain ⟨hl, h2⟩ := List.getElem?_eq_some_iff.mp q
        rw [List.getElem_range] at h2
        exact h2.symm
      subst hz
      show some (if r - i ≤ z then _ else _) = some (if r - (i + 1) ≤ z then _ else _)
      by_cases h3 : r - i ≤ z
      · rw [if_pos h3, if_pos (by omega)]
      · rw [if_neg h3, if_neg (by omega)]
theorem SLs_start (v : Vw) (r x : Nat) : ((List.range (r + 1)).map fun _ => D.lst []).set r (.lst [eI x]) = SLs v r x 0 := by
  have e0 : seenAt v r x r = [x] := by
    unfold seenAt
    rw [Nat.sub_self] <;> rfl
  refine List.ext_getElem? fun y => ?_
  by_cases e : r = y
  · subst e
    rw [List.getElem?_set_self (by simp), SLs_at (by omega) (Nat.le_refl _), e0] <;> rfl
  · rw [List.getElem?_set_ne e]
    unfold SLs
    rw [List.getElem?_map, List.getElem?_map]
    cases q : (List.range (r + 1))[y]? with
    | none => rfl
    | some z =>
      obtain ⟨hl, h2⟩ := List.getElem?_eq_some_iff.mp q
      rw [List.getElem_range] at h2
      rw [List.length_range] at hl
      exact congrArg some (if_neg (by omega)).symm
theorem SLs_end (v : Vw) (r x : Nat) : SLs v r x r = ((List.range (r + 1)).map (seenAt v r x)).map eLn := by
  unfold SLs
  rw [List.map_map]
  exact List.map_congr_left fun k _ => if_pos (by omega)
theorem f_law_seen {P : Program} {w : World} {K : PySem.W.Frag} {mg : Str → Option Value} {base : Heap} (W : Wd K mg) : Fn P w K mg base 1 "_law_seen" c_law_seen := by
  refine W.fn 46 (d := HH.d_law_seen) rfl rfl 36 rfl ["_law_keys", "_law_seat", "_law_house", "_law_level"] rfl rfl (fun _ _ _ _ _ _ us h => by match us, h with | [a0, a1, a2, a3], _ => rfl) fun f fd F => ?_
  have S : FnScope ["_law_keys", "_law_seat", "_law_house", "_law_level", "_law_seen_here", "_law_k", "_law_s", "_law_known", "_law_number", "_law_pair"] ["_law_keys", "_law_seat", "_law_house", "_law_level"] HH.d_law_seen.scope := C8.fnScope_by (by decide +kernel)
  have B := W.gb
  refine fn_ok (N := ["_law_keys", "_law_seat", "_law_house", "_law_level", "_law_seen_here", "_law_k", "_law_s", "_law_known", "_law_number", "_law_pair"]) (k := 0) F S rfl (fun cdv A outer s H E hr => ⟨_, (vb_cons (vs_ownLc (i := 4) (own := [("_law_k", 5)]) rfl S.nd (VI.own (vi_rng1 B.range (va_cons (v_add (vv 3) v_int) va_nil))) (by rfl) (fun _ _ _ _ _ => (vg_name 5 S.nd)) (fun _ _ _ _ _ => vq_nil) (fun _ _ _ _ _ => (ve_of (vl_lst va_nil))) (sw_true rfl rfl rfl (by decide +kernel)))
 (vb_cons (vs_setIx 4 (vv 3) (ve_of (vl_lst (va_cons (v_ix (v_ix (vv 1) (vv 3)) (vv 2)) va_nil))))
 (vb_cons (vs_for PassesOwn.never rfl (vi_rng3 B.range (va_cons (vv 3) (va_cons v_int (va_cons (v_neg v_int) va_nil)))) (vg_name 6 S.nd)
 (vb_cons (vs_dictK (i := 7) S.nd)
 (vb_cons (vs_for PassesOwn.never rfl (vi_list (v_ixO 4 (vv 6))) (vg_name 8 S.nd)
 (vb_cons (vs_dputK hr 7 (v_ix (v_ix (v_ix (vv 0) (vv 6)) (vv 8)) v_int) v_bl)
 (vb_one (vs_for PassesOwn.never rfl (vi_tup (v_ix (v_ix (v_ix (vv 0) (vv 6)) (vv 8)) v_int)) (vg_name 9 S.nd)
 (vb_one (vs_dputK hr 7 (v_ix (vv 9) v_int) v_bl))))))
 (vb_one (vs_setIx 4 (v_sub (vv 6) v_int) (ve_of (vl_sortedK rfl B.sorted 7)))))))
 (vb_frz 4 (vb_one (vs_ret (vv 4)))))))⟩) ?_
  rintro ⟨b, v, ss, h, r, x⟩ ⟨g, hr, hx, row, hrow, hh⟩
  dsimp only at g hr hx hrow hh
  have hrr := g.rounds
  (conv => whnf)
  refine ⟨by unfold small; dsimp only; omega, ?_⟩
  show wpLc _ _ _ _ _ (rng 0 ((r : Int) + 1).toNat) []
  rw [show ((r : Int) + 1).toNat = r + 1 by omega]
  refine wpLc_rng (fun _ => .lst []) 0 (r + 1) (by omega) (fun i hi N M hN => hN) ?_
  (conv => whnf)
  refine ⟨_, at_map hrow, ?_⟩
  (conv => whnf)
  refine ⟨_, at_map hh, ?_⟩
  (conv => whnf)
  refine ⟨r, ixN_cast (by simp), ?_⟩
  rw [SLs_start v r x]
  (conv => whnf)
  refine ⟨by unfold small; dsimp only; omega, by unfold small; omega, rfl, ?_⟩
  show wpFor _ _ _ (rngDn (r : Int) ((r : Int) - 0).toNat) _
  rw [show ((r : Int) - 0).toNat = r by omega]
  refine wpFor_rngDn _ r (fun i Γ => ∃ a b1 c d e, Γ = [.im (eKs b v), .im (eLL ss), .im (.int h), .im (.int r), .ow (SLs v r x i), a, b1, c, d, e]) ?_ ?_ ⟨_, _, _, _, _, rfl⟩
  · rintro i Γ N hi ⟨a, b1, c, d, e, rfl⟩ hN
    obtain ⟨l, hl⟩ := up_get (v := v) (k := r - i - 1) (by omega)
    have gl := g.ups _ l hl
    have e1 : (r : Int) - (i : Nat) = ((r - i : Nat) : Int) := by omega
    have e2 : r - i = r - i - 1 + 1 := by omega
    rw [e1]
    (conv => whnf)
    refine ⟨_, at_of (SLs_at (by omega) (by omega)), ?_⟩
    have hb := g.szb (k := r - i - 1) (by omega)
    have hlt := seenAt_lt g hr hx (k := r - i) (by omega)
    rw [show sz v (r - i) = l.length by rw [e2, sz_up hl]] at hlt
    have hsu : seenAt v r x (r - i - 1) = rchL l (seenAt v r x (r - i)) (sz v (r - i - 1)) := by
      rw [seenAt_succ (by omega), hl, ← e2] <;> rfl
    have ats : atI (wr b (v.st.map eS) :: v.up.map fun l => wr b (l.map eN)) ((r - i : Nat) : Int) = some (wr b (l.map eN)) := by
      rw [e2]
      refine at_of ?_
      show (v.up.map fun l => wr b (l.map eN))[r - i - 1]? = _
      rw [List.getElem?_map, hl] <;> rfl
    generalize hxs : seenAt v r x (r - i) = xs at hlt hsu
    show wpFor _ _ _ (xs.map eI) _
    refine wpFor_map eI xs (fun j Γ => ∃ ks a1 a2 a3, Γ = [.im (eKs b v), .im (eLL ss), .im (.int h), .im (.int r), .ow (SLs v r x i), a1, .im (.int ((r - i : Nat) : Int)), .od (eK ks), a2, a3] ∧ ks.Nodup ∧ ∀ y, y ∈ ks ↔ rchB l (xs.take j) y = true) ?_ ?_ ⟨[], _, _, _, rfl, List.nodup_nil, fun y => ⟨fun h => absurd h List.not_mem_nil, fun h => (by cases h)⟩⟩
    · rintro j z Γ N1 hj ⟨ks, a1, a2, a3, rfl, hn, hm⟩ hN1
      have hzl := hlt z (List.mem_of_getElem? hj)
      obtain ⟨n, hln⟩ : ∃ n, l[z]? = some n := ⟨_, List.getElem?_eq_getElem hzl⟩
      have bd : ∀ y ∈ ks, y < sz v (r - i - 1) := fun y hy => by
        obtain ⟨z, _, m, hm', hh⟩ := rchB_iff.mp ((hm y).mp hy)
        have hmm := List.mem_of_getElem? hm'
        rcases hits_iff.mp hh with e | ⟨h, hh, e⟩
        · rw [← e]; exact gl.par m hmm
        · rw [← e]; exact (gl.near m hmm h hh).1
      have ll := nodup_len _ ks hn bd
      have hn1 := gl.par n (List.mem_of_getElem? hln)
      (conv => whnf)
      refine ⟨⟨_, rfl⟩, ?_⟩
      (conv => whnf)
      refine oIx_wr (b := b) ats ?_
      (conv => whnf)
      refine oIx_wr (b := b) (at_map hln) ?_
      (conv => whnf)
      refine ⟨_, at_0, ?_⟩
      (conv => whnf)
      refine ⟨_, rfl, by unfold eK; rw [List.length_map]; omega, ?_⟩
      (conv => whnf)
      refine oIx_wr (b := b) ats ?_
      (conv => whnf)
      refine oIx_wr (b := b) (at_map hln) ?_
      (conv => whnf)
      refine ⟨_, at_1, ?_⟩
      show wpFor _ _ _ (n.2.map eH) _
      refine wpFor_map eH n.2 (fun q Γ => ∃ ks' a3, Γ = [.im (eKs b v), .im (eLL ss), .im (.int h), .im (.int r), .ow (SLs v r x i), a1, .im (.int ((r - i : Nat) : Int)), .od (eK ks'), .im (.int z), a3] ∧ ks'.Nodup ∧ (∀ y ∈ ks', y < sz v (r - i - 1)) ∧ ∀ y, y ∈ ks' ↔ (rchB l (xs.take j) y = true ∨ n.1 = y) ∨ ∃ h ∈ n.2.take q, h.1 = y) ?_ ?_ ?_
      · rintro q ⟨h1, h2⟩ Γ N2 hq ⟨ks', a3, rfl, hn', hb', hm'⟩ hN2
        have hh1 := (gl.near n (List.mem_of_getElem? hln) _ (List.mem_of_getElem? hq)).1
        have ll := nodup_len _ ks' hn' hb'
        (conv => whnf)
        refine ⟨⟨_, rfl⟩, ?_⟩
        (conv => whnf)
        refine ⟨_, at_0, ?_⟩
        (conv => whnf)
        refine ⟨_, rfl, by unfold eK; rw [List.length_map]; omega, ?_⟩
        (conv => whnf)
        refine hN2 _ ⟨insK ks' h1, .im (eH (h1, h2)), ?_, insK_nodup hn', fun y hy => ?_, fun y => ?_⟩
        · show [_, _, _, _, _, _, _, Sl.od (putD (eK ks') (kI (h1 : Nat)) (.bl true)), _, _] = _
          rw [eK_put] <;> rfl
        · rcases insK_mem.mp hy with hy | rfl
          · exact hb' y hy
          · exact hh1
        · rw [insK_mem, hm', take_one hq]
          constructor
          · rintro ((q | ⟨h, q1, q2⟩) | rfl)
            · exact .inl q
            · exact .inr ⟨h, List.mem_append_left _ q1, q2⟩
            · exact .inr ⟨_, List.mem_append_right _ (List.mem_singleton.mpr rfl), rfl⟩
          · rintro (q | ⟨h, q1, q2⟩)
            · exact .inl (.inl q)
            · rcases List.mem_append.mp q1 with q1 | q1
              · exact .inl (.inr ⟨h, q1, q2⟩)
              · rw [List.mem_singleton.mp q1] at q2
                exact .inr q2.symm
      · rintro Γ ⟨ks', a3, rfl, hn', hb', hm'⟩
        (conv => whnf)
        refine hN1 _ ⟨ks', _, _, _, rfl, hn', fun y => ?_⟩
        rw [hm', rchB_take hj hln, hits_iff, List.take_length]
        constructor
        · rintro ((q | q) | q)
          · exact .inl q
          · exact .inr (.inl q)
          · exact .inr (.inr q)
        · rintro (q | q | q)
          · exact .inl (.inl q)
          · exact .inl (.inr q)
          · exact .inr q
      · refine ⟨insK ks n.1, a3, ?_, insK_nodup hn, fun y hy => ?_, fun y => ?_⟩
        · show [_, _, _, _, _, _, _, Sl.od (putD (eK ks) (kI (n.1 : Nat)) (.bl true)), _, _] = _
          rw [eK_put] <;> rfl
        · rcases insK_mem.mp hy with hy | rfl
          · exact bd y hy
          · exact hn1
        · rw [insK_mem, hm]
          constructor
          · rintro (q | rfl)
            · exact .inl (.inl q)
            · exact .inl (.inr rfl)
          · rintro ((q | q) | ⟨h, q, _⟩)
            · exact .inl q
            · exact .inr q.symm
            · exact absurd q List.not_mem_nil
    · rintro Γ ⟨ks, a1, a2, a3, rfl, hn, hm⟩
      rw [List.take_length] at hm
      have bd : ∀ y ∈ ks, y < sz v (r - i - 1) := fun y hy => by
        obtain ⟨z, _, m, hm', hh⟩ := rchB_iff.mp ((hm y).mp hy)
        have hmm := List.mem_of_getElem? hm'
        rcases hits_iff.mp hh with e | ⟨h, hh, e⟩
        · rw [← e]; exact gl.par m hmm
        · rw [← e]; exact (gl.near m hmm h hh).1
      have ll := nodup_len _ ks hn bd
      (conv => whnf)
      refine ⟨eK ks, ks.map fun y : Nat => (y : Int), rfl, eK_keys ks, by rw [List.length_map]; omega, fun ys hp ho => ?_⟩
      have e := sorted_keys hn (rchL_asc l xs _) (fun y => ⟨fun h => rchL_mem.mpr ⟨bd y h, (hm y).mp h⟩, fun h => (hm y).mpr (rchL_mem.mp h).2⟩) hp ho
      subst e
      (conv => whnf)
      refine ⟨r - i - 1, by rw [show ((r - i : Nat) : Int) - 1 = ((r - i - 1 : Nat) : Int) by omega]; exact ixN_cast (by rw [SLs_len]; omega), ?_⟩
      refine hN _ ⟨a1, .im (.int ((r - i : Nat) : Int)), .od (eK ks), a2, a3, ?_⟩
      rw [← SLs_set hi, hsu]
      show [_, _, _, _, Sl.ow (List.set _ _ (D.lst _)), _, _, _, _, _] = [_, _, _, _, Sl.ow (List.set _ _ (D.lst _)), _, _, _, _, _]
      rw [List.map_map] <;> rfl
  · rintro Γ ⟨a, b1, c, d, e, rfl⟩
    (conv => whnf)
    show D.lst _ = D.lst _
    rw [SLs_end] <;> rfl
end LV
set_option Elab.async false
set_option linter.all false
set_option maxRecDepth 100000
set_option maxHeartbeats 4000000
namespace LV
open PySem PySem.Spec PyProof.Rows L2
theorem LL_at {v : Vw} {r x k : Nat} (h : k ≤ r) : (((List.range (r + 1)).map (seenAt v r x)).map eLn)[k]? = some (eLn (seenAt v r x k)) := by
  rw [List.map_map, List.getElem?_map, List.getElem?_range (by omega)] <;> rfl
def c_law_view : Ct := ⟨4, Bool × Vw × List (List Nat) × Nat × Nat × Nat, fun g => [eKs g.1 g.2.1, eLL g.2.2.1, .int g.2.2.2.1, .int g.2.2.2.2.1], fun g => Good g.2.1 ∧ g.2.2.2.2.1 ≤ g.2.1.up.length ∧ g.2.2.2.2.2 < sz g.2.1 g.2.2.2.2.1 ∧ ∃ row, g.2.2.1[g.2.2.2.2.1]? = some row ∧ row[g.2.2.2.1]? = some g.2.2.2.2.2, fun g d => d = eV (cutV g.2.1 g.2.2.2.2.1 g.2.2.2.2.2), fun _ => rfl⟩
theorem f_law_view {P : Program} {w : World} {K : PySem.W.Frag} {mg : Str → Option Value} {base : Heap} (W : Wd K mg) : Fn P w K mg base 2 "_law_view" c_law_view := by
  refine W.fn 47 (d := HH.d_law_view) rfl rfl 37 rfl ["_law_keys", "_law_seat", "_law_house", "_law_level"] rfl rfl (fun _ _ _ _ _ _ us h => by match us, h with | [a0, a1, a2, a3], _ => rfl) fun f fd F => ?_
  have S : FnScope ["_law_keys", "_law_seat", "_law_house", "_law_level", "_law_seen_here", "_law_found", "_law_number", "_law_s", "_law_below"] ["_law_keys", "_law_seat", "_law_house", "_law_level"] HH.d_law_view.scope := C8.fnScope_by (by decide +kernel)
  have B := W.gb
  have G_law_seen := f_law_seen (P := P) (w := w) (base := base) W
  have G_law_node := f_law_node (P := P) (w := w) (base := base) W
  refine fn_ok (N := ["_law_keys", "_law_seat", "_law_house", "_law_level", "_law_seen_here", "_law_found", "_law_number", "_law_s", "_law_below"]) (k := 1) F S rfl (fun cdv A outer s H E hr => ⟨_, (vb_cons (vs_set (i := 4) S.nd (v_call G_law_seen hr (va_cons (vv 0) (va_cons (vv 1) (va_cons (vv 2) (va_cons (vv 3) va_nil))))))
 (vb_cons (vs_own (i := 5) S.nd (vl_lst (va_cons (v_tuple B.tuple (ve_of (vl_lc (own := [("_law_number", 6)]) rfl S.nd (VI.own (vi_list (v_ix (vv 4) v_int))) (by rfl) (fun _ _ _ _ _ => (vg_name 6 S.nd)) (fun _ _ _ _ _ => vq_nil) (fun _ _ _ _ _ => (v_ix (v_ix (vv 0) v_int) (vv 6)))))) va_nil)))
 (vb_cons (vs_for PassesOwn.never rfl (vi_rng2 B.range (va_cons v_int (va_cons (v_add (vv 3) v_int) va_nil))) (vg_name 7 S.nd)
 (vb_cons (vs_set (i := 8) S.nd (v_ix (vv 4) (v_sub (vv 7) v_int)))
 (vb_one (vs_append 5 (v_tuple B.tuple (ve_of (vl_lc (own := [("_law_number", 6)]) rfl S.nd (VI.own (vi_list (v_ix (vv 4) (vv 7)))) (by rfl) (fun _ _ _ _ _ => (vg_name 6 S.nd)) (fun _ _ _ _ _ => vq_nil) (fun _ _ _ _ _ => (v_call G_law_node hr (va_cons (v_ix (v_ix (vv 0) (vv 7)) (vv 6)) (va_cons (vv 8) va_nil)))))))))))
 (vb_frz 5 (vb_one (vs_ret (v_tuple B.tuple (vv 5))))))))⟩) ?_
  rintro ⟨b, v, ss, h, r, x⟩ ⟨g, hr, hx, row, hrow, hh⟩
  dsimp only at g hr hx hrow hh
  have hrr := g.rounds
  have hln : (lvs (cutV v r x)).length = r + 1 := by rw [lvs_len, cut_len]
  (conv => whnf)
  refine ⟨(b, v, ss, h, r, x), rfl, ⟨g, hr, hx, row, hrow, hh⟩, ?_⟩
  rintro _ rfl
  (conv => whnf)
  refine ⟨_, at_of (k := 0) (LL_at (Nat.zero_le r)), ?_⟩
  have h0 := seenAt_len g hr hx (k := 0) (Nat.zero_le _)
  have hlt0 := seenAt_lt g hr hx (k := 0) (Nat.zero_le _)
  show wpLc _ _ _ _ _ ((seenAt v r x 0).map eI) []
  refine wpLc_map eI (fun y => eS (staAt v y)) (seenAt v r x 0) (by omega) (fun y hy N M hN => ?_) ?_
  · have hy2 := hlt0 y hy
    have hst : v.st[y]? = some (staAt v y) := by
      unfold staAt
      rw [List.getElem?_eq_getElem hy2] <;> rfl
    (conv => whnf)
    refine oIx_wr (b := b) (d := wr b (v.st.map eS)) at_0 ?_
    (conv => whnf)
    refine oIx_wr (b := b) (at_map hst) ?_
    exact hN
  (conv => whnf)
  refine ⟨by unfold small; omega, by unfold small; dsimp only; omega, ?_⟩
  show wpFor _ _ _ (rng 1 ((r : Int) + 1 - 1).toNat) _
  rw [show ((r : Int) + 1 - 1).toNat = r by omega]
  refine wpFor_rng 1 r (fun i Γ => ∃ a b1 c, Γ = [.im (eKs b v), .im (eLL ss), .im (.int h), .im (.int r), .im (eLL ((List.range (r + 1)).map (seenAt v r x))), .ow ((lvs (cutV v r x)).take (i + 1)), a, b1, c]) ?_ ?_ ⟨_, _, _, by rw [take_one (lvs_cut0 v r x)] <;> rfl⟩
  · rintro i Γ N hi ⟨a, b1, c, rfl⟩ hN
    obtain ⟨l, hl⟩ := up_get (v := v) (k := i) (by omega)
    have gl := g.ups _ l hl
    have hs1 := seenAt_len g hr hx (k := i + 1) (by omega)
    have hlt := seenAt_lt g hr hx (k := i + 1) (by omega)
    rw [sz_up hl] at hlt
    have e1 : (1 : Int) + (i : Nat) = ((i + 1 : Nat) : Int) := by omega
    have ats : atI (wr b (v.st.map eS) :: v.up.map fun l => wr b (l.map eN)) ((i + 1 : Nat) : Int) = some (wr b (l.map eN)) := by
      refine at_of ?_
      show (v.up.map fun l => wr b (l.map eN))[i]? = _
      rw [List.getElem?_map, hl] <;> rfl
    rw [e1]
    (conv => whnf)
    refine ⟨_, (by rw [show ((i + 1 : Nat) : Int) - 1 = (i : Nat) by omega]; exact at_of (LL_at (by omega))), ?_⟩
    (conv => whnf)
    refine ⟨_, at_of (LL_at (by omega)), ?_⟩
    show wpLc _ _ _ _ _ ((seenAt v r x (i + 1)).map eI) []
    refine wpLc_map eI (fun y => eN (cutNd (fun z => (seenAt v r x i).idxOf z) (nodeAt v i y))) (seenAt v r x (i + 1)) (by omega) (fun y hy N M hN => ?_) ?_
    · have hy2 := hlt y hy
      have hnd : l[y]? = some (nodeAt v i y) := by
        unfold nodeAt
        rw [hl]
        show l[y]? = some ((l[y]?).getD (0, []))
        rw [List.getElem?_eq_getElem hy2] <;> rfl
      (conv => whnf)
      refine oIx_wr (b := b) ats ?_
      (conv => whnf)
      refine oIx_wr (b := b) (at_map hnd) ?_
      (conv => whnf)
      refine ⟨(nodeAt v i y, seenAt v r x i), rfl, ⟨seen_below g hr hx (by omega) hy (hits_iff.mpr (.inl rfl)), fun h hh => seen_below g hr hx (by omega) hy (hits_iff.mpr (.inr ⟨h, hh, rfl⟩)), ?_⟩, ?_⟩
      · have hm := List.mem_of_getElem? hnd
        have q1 := nodup_len (sz v i) ((nodeAt v i y).2.map fun h : Hr => h.1) (List.Pairwise.imp (R := (· < ·)) (fun q => Nat.ne_of_lt q) (gl.asc _ hm)) fun z hz => by
          obtain ⟨h, hh, rfl⟩ := List.mem_map.mp hz
          exact (gl.near _ hm h hh).1
        have q2 := (g.szb (k := i) (by omega)).2
        rw [List.length_map] at q1
        dsimp only
        omega
      rintro _ rfl
      exact hN
    (conv => whnf)
    refine ⟨by rw [List.length_take]; omega, ?_⟩
    refine hN _ ⟨a, .im (.int ((i + 1 : Nat) : Int)), .im (eLn (seenAt v r x i)), ?_⟩
    rw [take_one (lvs_cut1 (v := v) (x := x) hi)] <;> rfl
  · rintro Γ ⟨a, b1, c, rfl⟩
    (conv => whnf)
    rw [← hln, List.take_length] <;> rfl
def c_law_cut : Ct := ⟨2, Vw × Nat × List D, fun g => [.tup g.2.2, .int g.2.1], fun g => g.2.2 = lvs g.1 ∧ Good g.1 ∧ sz g.1 g.1.up.length = 1 ∧ g.2.1 ≤ g.1.up.length, fun g d => d = eV (cutV g.1 g.2.1 (root g.1 g.1.up.length 0 g.2.1)), fun _ => rfl⟩
theorem f_law_cut {P : Program} {w : World} {K : PySem.W.Frag} {mg : Str → Option Value} {base : Heap} (W : Wd K mg) : Fn P w K mg base 3 "_law_cut" c_law_cut := by
  refine W.fn 67 (d := HH.d_law_cut) rfl rfl 57 rfl ["_law_levels_here", "_law_r"] rfl rfl (fun _ _ _ _ _ _ us h => by match us, h with | [a0, a1], _ => rfl) fun f fd F => ?_
  have S : FnScope ["_law_levels_here", "_law_r", "_law_own", "_law_seat", "_law_level"] ["_law_levels_here", "_law_r"] HH.d_law_cut.scope := C8.fnScope_by (by decide +kernel)
  have B := W.gb
  have G_law_root := f_law_root (P := P) (w := w) (base := base) W
  have G_law_view := f_law_view (P := P) (w := w) (base := base) W
  refine fn_ok (N := ["_law_levels_here", "_law_r", "_law_own", "_law_seat", "_law_level"]) (k := 2) F S rfl (fun cdv A outer s H E hr => ⟨_, (vb_cons (vs_set (i := 2) S.nd (v_call G_law_root hr (va_cons (vv 0) (va_cons (v_sub (v_len B.len (vv 0)) v_int) (va_cons v_int (va_cons (vv 1) va_nil))))))
 (vb_cons (vs_setLc (i := 3) (own := [("_law_level", 4)]) rfl S.nd (VI.own (vi_tup (vv 0))) (by rfl) (fun _ _ _ _ _ => (vg_name 4 S.nd)) (fun _ _ _ _ _ => vq_nil) (fun _ _ _ _ _ => (ve_of (vl_lst (va_cons (vv 2) va_nil)))) (sw_true rfl rfl rfl (by decide +kernel)))
 (vb_one (vs_ret (v_call G_law_view hr (va_cons (vv 0) (va_cons (vv 3) (va_cons v_int (va_cons (vv 1) va_nil)))))))))⟩) ?_
  rintro ⟨v, r, vs⟩ ⟨hvs, g, h1, h2⟩
  dsimp only at hvs g h1 h2
  have e1 : ((vs.length : Nat) : Int) - 1 = (v.up.length : Int) := by rw [hvs, lvs_len]; omega
  have e2 : eV v = .tup vs := by rw [hvs] <;> rfl
  have hl : vs.length ≤ 9 := by
    have := g.rounds
    rw [hvs, lvs_len]
    omega
  (conv => whnf)
  refine ⟨(v, v.up.length, 0, r), ?_, ⟨g, Nat.le_refl _, by dsimp only; omega, h2⟩, ?_⟩
  · show [D.tup vs, D.int (((vs.length : Nat) : Int) - 1), _, _] = [eV v, D.int (v.up.length : Nat), _, _]
    rw [e1, e2] <;> rfl
  rintro _ rfl
  (conv => whnf)
  show wpLc _ _ _ _ _ vs []
  rw [← List.map_id vs]
  refine wpLc_map id (fun _ => .lst [eI (root v v.up.length 0 r)]) vs (by omega) (fun y hy N M hN => hN) ?_
  (conv => whnf)
  have hrt := root_lt g (Nat.le_refl _) (by omega : 0 < sz v v.up.length) (s := r) h2
  refine ⟨(true, v, vs.map fun _ => [root v v.up.length 0 r], 0, r, root v v.up.length 0 r), ?_, ⟨g, h2, hrt, [root v v.up.length 0 r], ?_, rfl⟩, ?_⟩
  · show [D.tup (vs.map id), D.lst _, _, _] = [eV v, D.lst _, _, _]
    rw [List.map_map, e2, List.map_id] <;> rfl
  · dsimp only
    rw [List.getElem?_map, List.getElem?_eq_getElem (by rw [hvs, lvs_len]; omega)] <;> rfl
  rintro _ rfl
  rfl
end LV
set_option Elab.async false
set_option linter.all false
set_option maxRecDepth 100000
set_option maxHeartbeats 4000000
namespace LV
open PySem PySem.Spec PyProof.Rows L2
def ePd (p : Pap) : D := .lst [.int p.fd, .lst (p.pl.map .int), eRows p.rw, .int p.ho, .tup (p.cn.map eC)]
def c_law_paper : Ct := ⟨1, Pap, fun g => [ePd g], fun g => PapOk g, fun g d => d = ePap g, fun _ => rfl⟩
theorem at_2 {a b c : D} {xs : List D} : atI (a :: b :: c :: xs) 2 = some c := by
  rw [show (2 : Int) = ((2 : Nat) : Int) from rfl, atI_cast] <;> rfl
theorem at_3 {a b c d : D} {xs : List D} : atI (a :: b :: c :: d :: xs) 3 = some d := by
  rw [show (3 : Int) = ((3 : Nat) : Int) from rfl, atI_cast] <;> rfl
theorem at_4 {a b c d e : D} {xs : List D} : atI (a :: b :: c :: d :: e :: xs) 4 = some e := by
  rw [show (4 : Int) = ((4 : Nat) : Int) from rfl, atI_cast] <;> rfl
theorem f_law_paper {P : Program} {w : World} {K : PySem.W.Frag} {mg : Str → Option Value} {base : Heap} (W : Wd K mg) : Fn P w K mg base 3 "_law_paper" c_law_paper := by
  refine W.fn 74 (d := HH.d_law_paper) rfl rfl 64 rfl ["_law_data"] rfl rfl (fun _ _ _ _ _ _ us h => by match us, h with | [a0], _ => rfl) fun f fd F => ?_
  have S : FnScope ["_law_data", "_law_row"] ["_law_data"] HH.d_law_paper.scope := C8.fnScope_by (by decide +kernel)
  have B := W.gb
  have G_ShortPaper := f_ShortPaper_init (P := P) (w := w) (base := base) W
  refine fn_ok (N := ["_law_data", "_law_row"]) (k := 2) F S rfl (fun cdv A outer s H E hr => ⟨_, (vb_one (vs_ret (v_make G_ShortPaper hr (va_cons (v_ix (vv 0) v_int) (va_cons (v_tuple B.tuple (v_ix (vv 0) v_int)) (va_cons (v_tuple B.tuple (ve_of (vl_lc (own := [("_law_row", 1)]) rfl S.nd (VI.own (vi_list (v_ix (vv 0) v_int))) (by rfl) (fun _ _ _ _ _ => (vg_name 1 S.nd)) (fun _ _ _ _ _ => vq_nil) (fun _ _ _ _ _ => (v_tuple B.tuple (vv 1)))))) (va_cons (v_ix (vv 0) v_int) (va_cons (v_ix (vv 0) v_int) va_nil))))))))⟩) ?_
  intro (p : Pap) (h : PapOk p)
  have hb1 := h.l1
  have hb2 := h.l2
  (conv => whnf)
  refine ⟨_, at_0, ?_⟩
  (conv => whnf)
  refine ⟨_, at_1, ?_⟩
  (conv => whnf)
  refine ⟨_, at_2, ?_⟩
  show wpLc _ _ _ _ _ (p.rw.map fun r => .lst (r.map .int)) []
  refine wpLc_map (fun r : List Int => D.lst (r.map .int)) eTi p.rw (by omega) (fun y hy N M hN => hN) ?_
  (conv => whnf)
  refine ⟨_, at_3, ?_⟩
  (conv => whnf)
  refine ⟨_, at_4, ?_⟩
  refine ⟨(_, _, _, _, _), rfl, trivial, ?_⟩
  rintro _ rfl
  rfl
def c_law_due : Ct := ⟨2, Vw × Pap × List D, fun g => [.tup g.2.2, ePd g.2.1], fun g => g.2.2 = lvs g.1 ∧ Good g.1 ∧ sz g.1 g.1.up.length = 1 ∧ PapOk g.2.1, fun g d => d = eDue (shortF g.1 g.2.1), fun _ => rfl⟩
theorem f_law_due {P : Program} {w : World} {K : PySem.W.Frag} {mg : Str → Option Value} {base : Heap} (W : Wd K mg) : Fn P w K mg base 6 "_law_due" c_law_due := by
  refine W.fn 75 (d := HH.d_law_due) rfl rfl 65 rfl ["_law_levels_here", "_law_data"] rfl rfl (fun _ _ _ _ _ _ us h => by match us, h with | [a0, a1], _ => rfl) fun f fd F => ?_
  have S : FnScope ["_law_levels_here", "_law_data", "_law_told"] ["_law_levels_here", "_law_data"] HH.d_law_due.scope := C8.fnScope_by (by decide +kernel)
  have B := W.gb
  have G_law_judge := f_law_judge (P := P) (w := w) (base := base) W
  have G_law_cut := f_law_cut (P := P) (w := w) (base := base) W
  refine fn_ok (N := ["_law_levels_here", "_law_data", "_law_told"]) (k := 5) F S rfl (fun cdv A outer s H E hr => ⟨_, (vb_cons (vs_if (vt_of (vw_or (vt_cmp (v_lt (v_ix (vv 1) v_int) v_int)) (vw_or1 (vt_cmp (v_ge (v_ix (vv 1) v_int) (v_len B.len (vv 0)))))))
 (vb_one (vs_ret (v_tup (va_cons v_str (va_cons v_non va_nil)))))
 vb_nil)
 (vb_cons (vs_set (i := 2) S.nd (v_tup (va_cons (v_ix (vv 1) v_int) (va_cons (v_tuple B.tuple (v_ix (vv 1) v_int)) (va_cons (v_ix (vv 1) v_int) (va_cons (v_ix (vv 1) v_int) (va_cons (v_ix (vv 1) v_int) va_nil)))))))
 (vb_one (vs_ret (v_call G_law_judge hr (va_cons (v_call G_law_cut hr (va_cons (vv 0) (va_cons (v_ix (vv 1) v_int) va_nil))) (va_cons (vv 2) va_nil)))))))⟩) ?_
  rintro ⟨v, p, vs⟩ ⟨hvs, g, h1, h2⟩
  dsimp only at hvs g h1 h2
  have hl : (vs.length : Int) = v.up.length + 1 := by rw [hvs, lvs_len]; omega
  (conv => whnf)
  refine ⟨_, at_0, ?_⟩
  (conv => whnf)
  refine ⟨fun q1 => ?_, fun q1 => ?_⟩
  · (conv => whnf)
    have e : shortF v p = some (("found" : Str), none) := if_pos (.inl q1)
    show _ = eDue (shortF v p)
    rw [e] <;> rfl
  (conv => whnf)
  refine ⟨_, at_0, ?_⟩
  (conv => whnf)
  refine ⟨fun q2 => ?_, fun q2 => ?_⟩
  · (conv => whnf)
    have e : shortF v p = some (("found" : Str), none) := if_pos (.inr (by have q2' : (vs.length : Int) ≤ p.fd := q2; omega))
    show _ = eDue (shortF v p)
    rw [e] <;> rfl
  have q1' : ¬ p.fd < 0 := q1
  have q2' : ¬ (vs.length : Int) ≤ p.fd := q2
  clear q1 q2
  have eF : shortF v p = judge (cutV v p.fd.toNat (root v v.up.length 0 p.fd.toNat)) p := if_neg fun z => z.elim q1' (by omega)
  have hfd : ((p.fd.toNat : Nat) : Int) = p.fd := by omega
  have hrt := root_lt g (Nat.le_refl _) (by omega : 0 < sz v v.up.length) (s := p.fd.toNat) (by omega)
  have fw := cut_full g (r := p.fd.toNat) (by omega) hrt
  have hwl : (cutV v p.fd.toNat (root v v.up.length 0 p.fd.toNat)).up.length = p.fd.toNat := cut_len _ _ _
  (conv => whnf)
  refine ⟨_, at_0, ?_⟩
  (conv => whnf)
  refine ⟨_, at_1, ?_⟩
  (conv => whnf)
  refine ⟨_, at_2, ?_⟩
  (conv => whnf)
  refine ⟨_, at_3, ?_⟩
  (conv => whnf)
  refine ⟨_, at_4, ?_⟩
  (conv => whnf)
  refine ⟨_, at_0, ?_⟩
  (conv => whnf)
  refine ⟨(v, p.fd.toNat, vs), (by show [D.tup vs, D.int p.fd] = [D.tup vs, D.int ((p.fd.toNat : Nat) : Int)]; rw [hfd]), ⟨hvs, g, h1, by dsimp only; omega⟩, ?_⟩
  rintro _ rfl
  (conv => whnf)
  refine ⟨(cutV v p.fd.toNat (root v v.up.length 0 p.fd.toNat), p), rfl, ⟨fw.good, h2, by rw [hwl]; exact hfd.symm⟩, ?_⟩
  rintro _ rfl
  show _ = eDue (shortF v p)
  rw [eF] <;> rfl
end LV
set_option Elab.async false
set_option linter.all false
set_option maxRecDepth 100000
set_option maxHeartbeats 4000000
namespace LV
open PySem PySem.Spec PyProof.Rows L2
def lowI (a b : Int) : Amt := (a / Int.gcd a b, b / Int.gcd a b)
def c_law_low : Ct := ⟨2, Int × Int, fun g => [.int g.1, .int g.2], fun g => 0 ≤ g.1 ∧ 0 < g.2 ∧ g.2.natAbs < 2 ^ 8000, fun g d => d = eA (lowI g.1 g.2), fun _ => rfl⟩
theorem gcd_step {a b : Int} (h0 : 0 ≤ a) (h : 0 < b) : Int.gcd b (a % b) = Int.gcd a b := by
  have e : (a % b).natAbs = a.natAbs % b.natAbs := by
    obtain ⟨m, rfl⟩ := Int.eq_ofNat_of_zero_le h0
    obtain ⟨n, rfl⟩ := Int.eq_ofNat_of_zero_le (Int.le_of_lt h)
    rfl
  unfold Int.gcd
  rw [e, Nat.gcd_comm, ← Nat.gcd_rec, Nat.gcd_comm]
theorem f_law_low {P : Program} {w : World} {K : PySem.W.Frag} {mg : Str → Option Value} {base : Heap} (W : Wd K mg) : Fn P w K mg base 1 "_law_low" c_law_low := by
  refine W.fn 41 (d := HH.d_law_low) rfl rfl 31 rfl ["_law_top", "_law_bottom"] rfl rfl (fun _ _ _ _ _ _ us h => by match us, h with | [a0, a1], _ => rfl) fun f fd F => ?_
  have S : FnScope ["_law_top", "_law_bottom", "_law_a", "_law_b"] ["_law_top", "_law_bottom"] HH.d_law_low.scope := C8.fnScope_by (by decide +kernel)
  have B := W.gb
  refine fn_ok (N := ["_law_top", "_law_bottom", "_law_a", "_law_b"]) (k := 0) F S rfl (fun cdv A outer s H E hr => ⟨_, (vb_cons (vs_set (i := 2) S.nd (vv 0))
 (vb_cons (vs_set (i := 3) S.nd (vv 1))
 (vb_cons (vs_while PassesOwn.never (vt_cmp (v_gt (vv 3) v_int))
 (vb_one (vs_par (i := 2) (j := 3) rfl S.nd (va_cons (vv 3) (va_cons (v_mod (v_intof B.int (vv 2)) (vv 3)) va_nil)))))
 (vb_one (vs_ret (v_tup (va_cons (v_divW (vv 0) (vv 2)) (va_cons (v_divW (vv 1) (vv 2)) va_nil))))))))⟩) ?_
  rintro ⟨t, b⟩ ⟨h1, h2, h4⟩
  dsimp only at h1 h2 h4
  (conv => whnf)
  refine ⟨fun n Γ => ∃ x y : Int, Γ = [.im (.int t), .im (.int b), .im (.int x), .im (.int y)] ∧ 0 ≤ x ∧ 0 ≤ y ∧ Int.gcd x y = Int.gcd t b ∧ n = y.toNat, ⟨_, t, b, rfl, h1, by omega, rfl, rfl⟩, ?_⟩
  rintro n Γ ⟨x, y, rfl, hx, hy, hg, rfl⟩
  (conv => whnf)
  refine ⟨fun q => ?_, fun q => ?_⟩
  · (conv => whnf)
    have hm := Int.emod_nonneg x (show y ≠ 0 by omega)
    have hm2 := Int.emod_lt_of_pos x q
    refine ⟨q, ?_⟩
    (conv => whnf)
    exact ⟨(x % y).toNat, by omega, y, x % y, rfl, by omega, hm, by rw [gcd_step hx q, hg], rfl⟩
  · have hy0 : y = 0 := by omega
    subst hy0
    have hxe : x = (Int.gcd t b : Nat) := by
      rw [← hg, Int.gcd_zero_right]
      omega
    have h3 := gcd_bd (t := t) h2 h4
    rw [hxe]
    (conv => whnf)
    refine ⟨h3, ?_⟩
    (conv => whnf)
    refine ⟨h3, ?_⟩
    rfl
theorem lowI_ok {a b : Int} {k : Nat} (h1 : 0 ≤ a) (h2 : 0 < b) (h3 : a.natAbs < 2 ^ k) (h4 : b.natAbs < 2 ^ k) : 0 ≤ (lowI a b).1 ∧ 0 < (lowI a b).2 ∧ (0 < a → 0 < (lowI a b).1) ∧ (lowI a b).1.natAbs < 2 ^ k ∧ (lowI a b).2.natAbs < 2 ^ k ∧ Int.gcd (lowI a b).1 (lowI a b).2 = 1 := by
  have g0 : 0 < Int.gcd a b := Int.gcd_pos_of_ne_zero_right a (by omega)
  have gp : (0 : Int) < (Int.gcd a b : Nat) := by omega
  have da : ((Int.gcd a b : Nat) : Int) ∣ a := Int.gcd_dvd_left ..
  have db : ((Int.gcd a b : Nat) : Int) ∣ b := Int.gcd_dvd_right ..
  have le : ∀ z : Int, 0 ≤ z → (z / (Int.gcd a b : Nat)).natAbs ≤ z.natAbs := fun z hz => by
    have := Int.ediv_le_self (b := ((Int.gcd a b : Nat) : Int)) hz
    have := Int.ediv_nonneg hz (Int.le_of_lt gp)
    omega
  have pos : ∀ z : Int, 0 < z → ((Int.gcd a b : Nat) : Int) ∣ z → 0 < z / (Int.gcd a b : Nat) := fun z hz hd => Int.ediv_pos_of_pos_of_dvd hz (Int.le_of_lt gp) hd
  exact ⟨Int.ediv_nonneg h1 (Int.le_of_lt gp), pos b h2 db, fun h => pos a h da, Nat.lt_of_le_of_lt (le a h1) h3, Nat.lt_of_le_of_lt (le b (Int.le_of_lt h2)) h4, Int.gcd_ediv_gcd_ediv_gcd g0⟩
/-- positive, under 2^k -/
structure pP (k : Nat) (a : Amt) : Prop where
  top : 0 < a.1
  bot : 0 < a.2
  b1 : a.1.natAbs < 2 ^ k
  b2 : a.2.natAbs < 2 ^ k
def plusI (a b : Amt) : Amt := lowI (a.1 * b.2 + b.1 * a.2) (a.2 * b.2)
theorem plus_ok {a b : Amt} {k m : Nat} (ha : pP k a) (hb : pP m b) : 0 < a.1 * b.2 + b.1 * a.2 ∧ 0 < a.2 * b.2 ∧ (a.1 * b.2 + b.1 * a.2).natAbs < 2 ^ (k + m + 1) ∧ (a.2 * b.2).natAbs < 2 ^ (k + m + 1) := by
  have p1 := Int.mul_pos ha.top hb.bot
  have p2 := Int.mul_pos hb.top ha.bot
  have p3 := Int.mul_pos ha.bot hb.bot
  have q1 := mul_b (r := k + m) ha.b1 hb.b2 (Nat.le_refl _)
  have q2 := mul_b (r := k + m) hb.b1 ha.b2 (by omega)
  have q3 := mul_b (r := k + m) ha.b2 hb.b2 (Nat.le_refl _)
  have e : 2 ^ (k + m + 1) = 2 ^ (k + m) * 2 := Nat.pow_succ ..
  refine ⟨by omega, p3, by omega, by omega⟩
theorem plusI_ok {a b : Amt} {k m : Nat} (ha : pP k a) (hb : pP m b) : pP (k + m + 1) (plusI a b) ∧ Int.gcd (plusI a b).1 (plusI a b).2 = 1 := by
  obtain ⟨h1, h2, h3, h4⟩ := plus_ok ha hb
  obtain ⟨_, q2, q3, q4, q5, q6⟩ := lowI_ok (Int.le_of_lt h1) h2 h3 h4
  exact ⟨⟨q3 h1, q2, q4, q5⟩, q6⟩
def c_law_plus : Ct := ⟨2, Amt × Amt, fun g => [eA g.1, eA g.2], fun g => pP 3000 g.1 ∧ pP 3000 g.2, fun g d => d = eA (plusI g.1 g.2), fun _ => rfl⟩
theorem f_law_plus {P : Program} {w : World} {K : PySem.W.Frag} {mg : Str → Option Value} {base : Heap} (W : Wd K mg) : Fn P w K mg base 2 "_law_plus" c_law_plus := by
  refine W.fn 42 (d := HH.d_law_plus) rfl rfl 32 rfl ["_law_one", "_law_other"] rfl rfl (fun _ _ _ _ _ _ us h => by match us, h with | [a0, a1], _ => rfl) fun f fd F => ?_
  have S : FnScope ["_law_one", "_law_other"] ["_law_one", "_law_other"] HH.d_law_plus.scope := C8.fnScope_by (by decide +kernel)
  have B := W.gb
  have G_law_low := f_law_low (P := P) (w := w) (base := base) W
  refine fn_ok (N := ["_law_one", "_law_other"]) (k := 1) F S rfl (fun cdv A outer s H E hr => ⟨_, (vb_one (vs_ret (v_call G_law_low hr (va_cons (v_add (v_mulW (v_ix (vv 0) v_int) (v_ix (vv 1) v_int)) (v_mulW (v_ix (vv 1) v_int) (v_ix (vv 0) v_int))) (va_cons (v_mulW (v_ix (vv 0) v_int) (v_ix (vv 1) v_int)) va_nil)))))⟩) ?_
  rintro ⟨a, b⟩ ⟨ha, hb⟩
  dsimp only at ha hb
  obtain ⟨h1, h2, h3, h4⟩ := plus_ok ha hb
  (conv => whnf)
  refine ⟨_, at_0, ?_⟩
  (conv => whnf)
  refine ⟨_, at_1, ?_⟩
  (conv => whnf)
  refine ⟨⟨up_b ha.b1 (by omega), up_b hb.b2 (by omega)⟩, ?_⟩
  (conv => whnf)
  refine ⟨_, at_0, ?_⟩
  (conv => whnf)
  refine ⟨_, at_1, ?_⟩
  (conv => whnf)
  refine ⟨⟨up_b hb.b1 (by omega), up_b ha.b2 (by omega)⟩, ?_⟩
  (conv => whnf)
  refine ⟨_, at_1, ?_⟩
  (conv => whnf)
  refine ⟨_, at_1, ?_⟩
  (conv => whnf)
  refine ⟨⟨up_b ha.b2 (by omega), up_b hb.b2 (by omega)⟩, ?_⟩
  (conv => whnf)
  refine ⟨(a.1 * b.2 + b.1 * a.2, a.2 * b.2), rfl, ⟨Int.le_of_lt h1, h2, up_b h4 (by omega)⟩, ?_⟩
  rintro _ rfl
  rfl
def gcdL : List Int → Nat → Nat
  | [], a => a
  | n :: ns, a => gcdL ns (Nat.gcd a n.natAbs)
def c_law_divisor : Ct := ⟨1, List Int, fun g => [.lst (g.map .int)], fun g => ∀ n ∈ g, 0 < n, fun g d => d = .int (gcdL g 0 : Nat), fun _ => rfl⟩
theorem gcdL_dvd : ∀ (ns : List Int) (a : Nat), gcdL ns a ∣ a ∧ ∀ n ∈ ns, gcdL ns a ∣ n.natAbs
  | [], a => ⟨Nat.dvd_refl a, fun _ h => absurd h List.not_mem_nil⟩
  | n :: ns, a => by
    obtain ⟨h1, h2⟩ := gcdL_dvd ns (Nat.gcd a n.natAbs)
    refine ⟨Nat.dvd_trans h1 (Nat.gcd_dvd_left ..), fun m hm => ?_⟩
    rcases List.mem_cons.mp hm with rfl | hm
    · exact Nat.dvd_trans h1 (Nat.gcd_dvd_right ..)
    · exact h2 m hm
theorem gcdL_snoc : ∀ (ns : List Int) (n : Int) (a : Nat), gcdL (ns ++ [n]) a = Nat.gcd (gcdL ns a) n.natAbs
  | [], _, _ => rfl
  | m :: ns, n, a => gcdL_snoc ns n (Nat.gcd a m.natAbs)
theorem f_law_divisor {P : Program} {w : World} {K : PySem.W.Frag} {mg : Str → Option Value} {base : Heap} (W : Wd K mg) : Fn P w K mg base 1 "_law_divisor" c_law_divisor := by
  refine W.fn 54 (d := HH.d_law_divisor) rfl rfl 44 rfl ["_law_numbers"] rfl rfl (fun _ _ _ _ _ _ us h => by match us, h with | [a0], _ => rfl) fun f fd F => ?_
  have S : FnScope ["_law_numbers", "_law_a", "_law_number", "_law_b"] ["_law_numbers"] HH.d_law_divisor.scope := C8.fnScope_by (by decide +kernel)
  have B := W.gb
  refine fn_ok (N := ["_law_numbers", "_law_a", "_law_number", "_law_b"]) (k := 0) F S rfl (fun cdv A outer s H E hr => ⟨_, (vb_cons (vs_set (i := 1) S.nd v_int)
 (vb_cons (vs_for PassesOwn.never rfl (vi_list (vv 0)) (vg_name 2 S.nd)
 (vb_cons (vs_set (i := 3) S.nd (vv 2))
 (vb_one (vs_while PassesOwn.never (vt_cmp (v_gt (vv 3) v_int))
 (vb_one (vs_par (i := 1) (j := 3) rfl S.nd (va_cons (vv 3) (va_cons (v_mod (v_intof B.int (vv 1)) (vv 3)) va_nil))))))))
 (vb_one (vs_ret (vv 1)))))⟩) ?_
  intro (ns : List Int) (h : ∀ n ∈ ns, 0 < n)
  (conv => whnf)
  show wpFor _ _ _ (ns.map D.int) _
  refine wpFor_map D.int ns (fun i Γ => ∃ a b, Γ = [.im (.lst (ns.map .int)), .im (.int (gcdL (ns.take i) 0 : Nat)), a, b]) ?_ ?_ ⟨_, _, rfl⟩
  · rintro i n Γ N hi ⟨a, b, rfl⟩ hN
    have hn := h n (List.mem_of_getElem? hi)
    (conv => whnf)
    refine ⟨fun k Γ => ∃ x y : Int, Γ = [.im (.lst (ns.map .int)), .im (.int x), .im (.int n), .im (.int y)] ∧ 0 ≤ x ∧ 0 ≤ y ∧ Int.gcd x y = gcdL (ns.take (i + 1)) 0 ∧ k = y.toNat, ⟨_, _, n, rfl, Int.natCast_nonneg _, by omega, ?_, rfl⟩, ?_⟩
    · rw [take_one hi, gcdL_snoc] <;> rfl
    rintro k Γ ⟨x, y, rfl, hx, hy, hg, rfl⟩
    (conv => whnf)
    refine ⟨fun q => ?_, fun q => ?_⟩
    · (conv => whnf)
      have hm := Int.emod_nonneg x (show y ≠ 0 by omega)
      have hm2 := Int.emod_lt_of_pos x q
      refine ⟨q, ?_⟩
      (conv => whnf)
      exact ⟨(x % y).toNat, by omega, y, x % y, rfl, by omega, hm, by rw [gcd_step hx q, hg], rfl⟩
    · have hy0 : y = 0 := by omega
      subst hy0
      have hxe : x = (gcdL (ns.take (i + 1)) 0 : Nat) := by
        rw [← hg, Int.gcd_zero_right]
        omega
      rw [hxe]
      (conv => whnf)
      exact hN _ ⟨_, _, rfl⟩
  · rintro Γ ⟨a, b, rfl⟩
    (conv => whnf)
    rw [List.take_length] <;> rfl
end LV
set_option Elab.async false
set_option linter.all false
set_option maxRecDepth 100000
set_option maxHeartbeats 4000000
namespace LV
open PySem PySem.Spec PyProof.Rows L2
/-- every amount of a table is under 2^240 -/
def tB (t : List (List Amt)) : Prop := ∀ r ∈ t, ∀ a ∈ r, a.1.natAbs < 2 ^ 240 ∧ a.2.natAbs < 2 ^ 240
theorem tB_at {t : List (List Amt)} (h : Sq t) (hb : tB t) {v w : Nat} (hv : v < t.length) (hw : w < t.length) : (at2 t v w).1.natAbs < 2 ^ 240 ∧ (at2 t v w).2.natAbs < 2 ^ 240 := by
  obtain ⟨r, h1, h2, _⟩ := sq_get h hv hw
  exact hb r (List.mem_of_getElem? h1) _ (List.mem_of_getElem? h2)
/-- a ratio under way: c + 1 houses have a number -/
def RI (n : Nat) (ts bs : List Int) : Prop := ts.length = n ∧ bs.length = n ∧ ∃ c, c + 1 = ts.countP (fun x => decide (0 < x)) ∧ (∀ x ∈ ts, 0 ≤ x ∧ x.natAbs < 2 ^ (480 * c + 1)) ∧ ∀ x ∈ bs, 0 < x ∧ x.natAbs < 2 ^ (480 * c + 1)
theorem RI.zero {n : Nat} (h : 1 ≤ n) : RI n ((List.replicate n (0 : Int)).set 0 1) (List.replicate n 1) := by
  refine ⟨by simp, by simp, 0, ?_, fun x hx => ?_, fun x hx => ?_⟩
  · rw [List.countP_set (by rw [List.length_replicate]; omega)]
    simp
  · rcases List.mem_or_eq_of_mem_set hx with hx | rfl
    · rw [(List.mem_replicate.mp hx).2]
      exact ⟨Int.le_refl _, by decide⟩
    · exact ⟨by decide, by decide⟩
  · rw [(List.mem_replicate.mp hx).2]
    exact ⟨by decide, by decide⟩
theorem RI.put {n w : Nat} {ts bs : List Int} (h : RI n ts bs) (hw : w < n) (h0 : nth ts w = 0) {x y : Int} (hx : 0 < x) (hy : 0 < y) (hxy : ∀ c, (∀ x ∈ ts, 0 ≤ x ∧ x.natAbs < 2 ^ (480 * c + 1)) → (∀ x ∈ bs, 0 < x ∧ x.natAbs < 2 ^ (480 * c + 1)) → x.natAbs < 2 ^ (480 * (c + 1) + 1) ∧ y.natAbs < 2 ^ (480 * (c + 1) + 1)) : RI n (ts.set w x) (bs.set w y) := by
  obtain ⟨h1, h2, c, h3, h4, h5⟩ := h
  obtain ⟨a, b⟩ := hxy c h4 h5
  have lt : (2 : Nat) ^ (480 * c + 1) < 2 ^ (480 * (c + 1) + 1) := Nat.pow_lt_pow_right (by decide) (by omega)
  refine ⟨by simpa using h1, by simpa using h2, c + 1, ?_, fun z hz => ?_, fun z hz => ?_⟩
  · have e : ts[w]'(by omega) = 0 := by
      have := nth_eq (ns := ts) (v := w) (by omega)
      rw [List.getElem?_eq_getElem (by omega), h0] at this
      exact Option.some.inj this
    rw [List.countP_set (by omega), e]
    simp [hx]
    omega
  · rcases List.mem_or_eq_of_mem_set hz with hz | rfl
    · exact ⟨(h4 z hz).1, Nat.lt_trans (h4 z hz).2 lt⟩
    · exact ⟨Int.le_of_lt hx, a⟩
  · rcases List.mem_or_eq_of_mem_set hz with hz | rfl
    · exact ⟨(h5 z hz).1, Nat.lt_trans (h5 z hz).2 lt⟩
    · exact ⟨hy, b⟩
def prodL : List Int → Int
  | [] => 1
  | x :: xs => x * prodL xs
theorem prodL_snoc : ∀ (xs : List Int) (x : Int), prodL (xs ++ [x]) = prodL xs * x
  | [], x => by show x * 1 = 1 * x; omega
  | a :: xs, x => by
    show a * prodL (xs ++ [x]) = a * prodL xs * x
    rw [prodL_snoc xs x, Int.mul_assoc]
theorem prodL_b {k : Nat} : ∀ {xs : List Int}, (∀ x ∈ xs, 0 < x ∧ x.natAbs < 2 ^ k) → 0 < prodL xs ∧ (prodL xs).natAbs < 2 ^ (k * xs.length + 1)
  | [], _ => ⟨Int.one_pos, by show 1 < 2 ^ (k * 0 + 1); rw [Nat.mul_zero]; decide⟩
  | a :: xs, h => by
    obtain ⟨h1, h2⟩ := prodL_b (k := k) (xs := xs) fun x hx => h x (List.mem_cons_of_mem _ hx)
    obtain ⟨h3, h4⟩ := h a List.mem_cons_self
    refine ⟨Int.mul_pos h3 h1, mul_b h4 h2 ?_⟩
    rw [List.length_cons, Nat.mul_succ]
    omega
theorem prodL_at {k : Nat} : ∀ {xs : List Int} {v : Nat}, (∀ x ∈ xs, 0 < x ∧ x.natAbs < 2 ^ k) → v < xs.length → ∃ q, prodL xs = nth xs v * q ∧ 0 < q ∧ q.natAbs < 2 ^ (k * (xs.length - 1) + 1)
  | [], _, _, h => absurd h (Nat.not_lt_zero _)
  | a :: xs, 0, h, _ => by
    obtain ⟨h1, h2⟩ := prodL_b (k := k) (xs := xs) fun x hx => h x (List.mem_cons_of_mem _ hx)
    exact ⟨prodL xs, rfl, h1, h2⟩
  | a :: xs, v + 1, h, hv => by
    obtain ⟨q, h1, h2, h3⟩ := prodL_at (k := k) (xs := xs) (v := v) (fun x hx => h x (List.mem_cons_of_mem _ hx)) (by simpa using hv)
    obtain ⟨h4, h5⟩ := h a List.mem_cons_self
    have hl : 0 < xs.length := Nat.lt_of_le_of_lt (Nat.zero_le v) (by simpa using hv)
    refine ⟨a * q, ?_, Int.mul_pos h4 h2, mul_b h5 h3 ?_⟩
    · show a * prodL xs = nth xs v * (a * q)
      rw [h1, Int.mul_left_comm]
    · rw [List.length_cons]
      have e : k * (xs.length + 1 - 1) = k * (xs.length - 1) + k := by
        rw [← Nat.mul_succ]
        congr 1
        omega
      rw [e]
      omega
/-- what law_ratio gives: nothing, or positive numbers -/
def rR (n : Nat) (d : D) : Prop := d = .non ∨ ∃ ns : List Int, d = .lst (ns.map .int) ∧ ns.length = n ∧ ∀ x ∈ ns, 0 < x ∧ x.natAbs < 2 ^ 7400
def c_law_ratio : Ct := ⟨1, List (List Amt), fun g => [eTL g], fun g => Sq g ∧ g.length ≤ 4 ∧ tB g, fun g d => rR g.length d, fun _ => rfl⟩
theorem f_law_ratio {P : Program} {w : World} {K : PySem.W.Frag} {mg : Str → Option Value} {base : Heap} (W : Wd K mg) : Fn P w K mg base 2 "_law_ratio" c_law_ratio := by
  refine W.fn 55 (d := HH.d_law_ratio) rfl rfl 45 rfl ["_law_table_here"] rfl rfl (fun _ _ _ _ _ _ us h => by match us, h with | [a0], _ => rfl) fun f fd F => ?_
  have S : FnScope ["_law_table_here", "_law_n", "_law_tops", "_law_v", "_law_bottoms", "_law_turn", "_law_w", "_law_m", "_law_k", "_law_pair", "_law_whole", "_law_bottom", "_law_numbers", "_law_common", "_law_number"] ["_law_table_here"] HH.d_law_ratio.scope := C8.fnScope_by (by decide +kernel)
  have B := W.gb
  have G_law_low := f_law_low (P := P) (w := w) (base := base) W
  have G_law_divisor := f_law_divisor (P := P) (w := w) (base := base) W
  refine fn_ok (N := ["_law_table_here", "_law_n", "_law_tops", "_law_v", "_law_bottoms", "_law_turn", "_law_w", "_law_m", "_law_k", "_law_pair", "_law_whole", "_law_bottom", "_law_numbers", "_law_common", "_law_number"]) (k := 1) F S rfl (fun cdv A outer s H E hr => ⟨_, (vb_cons (vs_set (i := 1) S.nd (v_len B.len (vv 0)))
 (vb_cons (vs_own (i := 2) S.nd (vl_lc (own := [("_law_v", 3)]) rfl S.nd (VI.own (vi_rng1 B.range (va_cons (vv 1) va_nil))) (by rfl) (fun _ _ _ _ _ => (vg_name 3 S.nd)) (fun _ _ _ _ _ => vq_nil) (fun _ _ _ _ _ => v_int)))
 (vb_cons (vs_own (i := 4) S.nd (vl_lc (own := [("_law_v", 3)]) rfl S.nd (VI.own (vi_rng1 B.range (va_cons (vv 1) va_nil))) (by rfl) (fun _ _ _ _ _ => (vg_name 3 S.nd)) (fun _ _ _ _ _ => vq_nil) (fun _ _ _ _ _ => v_int)))
 (vb_cons (vs_setIx 2 v_int v_int)
 (vb_cons (vs_for PassesOwn.never rfl (vi_rng1 B.range (va_cons (vv 1) va_nil)) (vg_name 5 S.nd)
 (vb_one (vs_for PassesOwn.never rfl (vi_rng1 B.range (va_cons (vv 1) va_nil)) (vg_name 3 S.nd)
 (vb_one (vs_for PassesOwn.never rfl (vi_rng1 B.range (va_cons (vv 1) va_nil)) (vg_name 6 S.nd)
 (vb_cons (vs_set (i := 7) S.nd (v_ix (v_ix (vv 0) (vv 3)) (vv 6)))
 (vb_cons (vs_set (i := 8) S.nd (v_ix (v_ix (vv 0) (vv 6)) (vv 3)))
 (vb_one (vs_if (vt_of (vw_and (vt_cmp (v_neI (vv 3) (vv 6))) (vw_and (vt_cmp (v_gt (v_ixO 2 (vv 3)) v_int)) (vw_and (vt_cmp (v_eqI (v_ixO 2 (vv 6)) v_int)) (vw_and (vt_cmp (v_gt (v_ix (vv 7) v_int) v_int)) (vw_and1 (vt_cmp (v_gt (v_ix (vv 8) v_int) v_int))))))))
 (vb_cons (vs_set (i := 9) S.nd (v_call G_law_low hr (va_cons (v_mulW (v_mulW (v_ixO 2 (vv 3)) (v_ix (vv 7) v_int)) (v_ix (vv 8) v_int)) (va_cons (v_mulW (v_mulW (v_ixO 4 (vv 3)) (v_ix (vv 7) v_int)) (v_ix (vv 8) v_int)) va_nil))))
 (vb_cons (vs_setIx 2 (vv 6) (v_ix (vv 9) v_int))
 (vb_one (vs_setIx 4 (vv 6) (v_ix (vv 9) v_int)))))
 vb_nil)))))))))
 (vb_cons (vs_if (vt_cmp (v_inO 2 hr v_int))
 (vb_one (vs_ret v_non))
 vb_nil)
 (vb_cons (vs_set (i := 10) S.nd v_int)
 (vb_frz 4 (vb_cons (vs_for PassesOwn.never rfl (vi_list (vv 4)) (vg_name 11 S.nd)
 (vb_one (vs_set (i := 10) S.nd (v_mulW (vv 10) (vv 11)))))
 (vb_cons (vs_setLc (i := 12) (own := [("_law_v", 3)]) rfl S.nd (VI.own (vi_rng1 B.range (va_cons (vv 1) va_nil))) (by rfl) (fun _ _ _ _ _ => (vg_name 3 S.nd)) (fun _ _ _ _ _ => vq_nil) (fun _ _ _ _ _ => (v_mulW (v_ixO 2 (vv 3)) (v_divW (vv 10) (v_ix (vv 4) (vv 3))))) (sw_true rfl rfl rfl (by decide +kernel)))
 (vb_cons (vs_set (i := 13) S.nd (v_call G_law_divisor hr (va_cons (vv 12) va_nil)))
 (vb_one (vs_ret (ve_of (vl_lc (own := [("_law_number", 14)]) rfl S.nd (VI.own (vi_list (vv 12))) (by rfl) (fun _ _ _ _ _ => (vg_name 14 S.nd)) (fun _ _ _ _ _ => vq_nil) (fun _ _ _ _ _ => (v_divW (vv 14) (vv 13))))))))))))))))))⟩) ?_
  rintro t ⟨sq, h4, hb⟩
  have h1 := sq.lo
  have hlen : (t.map fun r => D.lst (r.map eA)).length = t.length := List.length_map _
  (conv => whnf)
  refine ⟨by unfold small; omega, ?_⟩
  show wpLc _ _ _ _ _ (rng 0 _) []
  refine wpLc_rng (fun _ => D.int 0) 0 _ (by rw [Int.toNat_natCast]; omega) (fun i hi N M hN => hN) ?_
  (conv => whnf)
  refine ⟨by unfold small; omega, ?_⟩
  show wpLc _ _ _ _ _ (rng 0 _) []
  refine wpLc_rng (fun _ => D.int 1) 0 _ (by rw [Int.toNat_natCast]; omega) (fun i hi N M hN => hN) ?_
  (conv => whnf)
  have e0 : (List.range (((t.map fun r => D.lst (r.map eA)).length : Int)).toNat).map (fun _ => D.int 0) = (List.replicate t.length (0 : Int)).map D.int := by
    rw [hlen, Int.toNat_natCast, List.map_const', List.length_range, List.map_replicate]
  have e1 : (List.range (((t.map fun r => D.lst (r.map eA)).length : Int)).toNat).map (fun _ => D.int 1) = (List.replicate t.length (1 : Int)).map D.int := by
    rw [hlen, Int.toNat_natCast, List.map_const', List.length_range, List.map_replicate]
  rw [e0, e1, hlen]
  clear e0 e1
  refine ⟨0, nth_set_lt (v := 0) (by rw [List.length_replicate]; omega), ?_⟩
  refine ⟨by unfold small; omega, ?_⟩
  show wpFor _ _ _ (rng 0 _) _
  rw [Int.toNat_natCast]
  refine wpFor_rng 0 t.length (fun i Γ => ∃ ts bs, RI t.length ts bs ∧ ∃ a b c d e f, Γ = [.im (eTL t), .im (.int t.length), .ow (ts.map .int), a, .ow (bs.map .int), b, c, d, e, f, .no, .no, .no, .no, .no]) ?_ ?_ ⟨_, _, RI.zero h1, _, _, _, _, _, _, by rw [← set_map] <;> rfl⟩
  · rintro i Γ N hi ⟨ts, bs, ri, a, b, c, d, e, f, rfl⟩ hN
    (conv => whnf)
    refine ⟨by unfold small; omega, ?_⟩
    show wpFor _ _ _ (rng 0 _) _
    rw [Int.toNat_natCast]
    refine wpFor_rng 0 t.length (fun i Γ => ∃ ts bs, RI t.length ts bs ∧ ∃ a b c d e f, Γ = [.im (eTL t), .im (.int t.length), .ow (ts.map .int), a, .ow (bs.map .int), b, c, d, e, f, .no, .no, .no, .no, .no]) ?_ hN ⟨_, _, ri, _, _, _, _, _, _, rfl⟩
    clear ri ts bs a b c d e f hN
    rintro v Γ N hv ⟨ts, bs, ri, a, b, c, d, e, f, rfl⟩ hN
    rw [Int.zero_add]
    (conv => whnf)
    refine ⟨by unfold small; omega, ?_⟩
    show wpFor _ _ _ (rng 0 _) _
    rw [Int.toNat_natCast]
    refine wpFor_rng 0 t.length (fun i Γ => ∃ ts bs, RI t.length ts bs ∧ ∃ b c d e f, Γ = [.im (eTL t), .im (.int t.length), .ow (ts.map .int), .im (.int v), .ow (bs.map .int), b, c, d, e, f, .no, .no, .no, .no, .no]) ?_ (fun Γ ⟨ts, bs, ri, b, c, d, e, f, z⟩ => hN _ ⟨ts, bs, ri, _, b, c, d, e, f, z⟩) ⟨_, _, ri, _, _, _, _, _, rfl⟩
    clear ri ts bs a b c d e f hN
    rintro w Γ N hw ⟨ts, bs, ri, b, c, d, e, f, rfl⟩ hN
    rw [Int.zero_add]
    obtain ⟨r1, g1, g2, g3, g4, _⟩ := sq_get sq hv hw
    obtain ⟨r2, g5, g6, g7, g8, _⟩ := sq_get sq hw hv
    obtain ⟨b1, b2⟩ := tB_at sq hb hv hw
    obtain ⟨b3, b4⟩ := tB_at sq hb hw hv
    have l1 : v < ts.length := by rw [ri.1]; exact hv
    have l2 : w < ts.length := by rw [ri.1]; exact hw
    have l3 : v < bs.length := by rw [ri.2.1]; exact hv
    have l4 : w < bs.length := by rw [ri.2.1]; exact hw
    (conv => whnf)
    refine ⟨_, at_map g1, ?_⟩
    refine ⟨_, at_map g2, ?_⟩
    (conv => whnf)
    refine ⟨_, at_map g5, ?_⟩
    refine ⟨_, at_map g6, ?_⟩
    have skip : ∀ x : Prop, x → x := fun _ h => h
    refine ⟨fun q1 => ?_, fun q1 => ?_⟩
    rotate_left
    · exact hN _ ⟨ts, bs, ri, _, _, _, _, _, rfl⟩
    (conv => whnf)
    refine ⟨_, at_int l1, ?_⟩
    (conv => whnf)
    refine ⟨fun q2 => ?_, fun q2 => ?_⟩
    rotate_left
    · exact hN _ ⟨ts, bs, ri, _, _, _, _, _, rfl⟩
    (conv => whnf)
    refine ⟨_, at_int l2, ?_⟩
    (conv => whnf)
    refine ⟨fun q3 => ?_, fun q3 => ?_⟩
    rotate_left
    · exact hN _ ⟨ts, bs, ri, _, _, _, _, _, rfl⟩
    (conv => whnf)
    refine ⟨_, at_0, ?_⟩
    (conv => whnf)
    refine ⟨fun q4 => ?_, fun q4 => ?_⟩
    rotate_left
    · exact hN _ ⟨ts, bs, ri, _, _, _, _, _, rfl⟩
    (conv => whnf)
    refine ⟨_, at_0, ?_⟩
    (conv => whnf)
    refine ⟨fun q5 => ?_, fun q5 => ?_⟩
    rotate_left
    · exact hN _ ⟨ts, bs, ri, _, _, _, _, _, rfl⟩
    have q2 : 0 < nth ts v := q2
    have q3 : nth ts w = 0 := q3
    have q4 : 0 < (at2 t v w).1 := q4
    have q5 : 0 < (at2 t w v).1 := q5
    obtain ⟨_, _, c0, ri1, ri2, ri3⟩ := id ri
    have hc0 : c0 ≤ 3 := by
      have := List.countP_le_length (p := fun x : Int => decide (0 < x)) (l := ts)
      omega
    obtain ⟨_, z1⟩ := ri2 _ (List.mem_of_getElem? (nth_eq l1))
    obtain ⟨z2, z3⟩ := ri3 _ (List.mem_of_getElem? (nth_eq l3))
    (conv => whnf)
    refine ⟨_, at_int l1, ?_⟩
    (conv => whnf)
    refine ⟨_, at_0, ?_⟩
    (conv => whnf)
    refine ⟨⟨up_b z1 (by omega), up_b b1 (by omega)⟩, ?_⟩
    (conv => whnf)
    refine ⟨_, at_1, ?_⟩
    (conv => whnf)
    refine ⟨⟨mul_b z1 b1 (by omega), up_b b4 (by omega)⟩, ?_⟩
    (conv => whnf)
    refine ⟨_, at_int l3, ?_⟩
    (conv => whnf)
    refine ⟨_, at_1, ?_⟩
    (conv => whnf)
    refine ⟨⟨up_b z3 (by omega), up_b b2 (by omega)⟩, ?_⟩
    (conv => whnf)
    refine ⟨_, at_0, ?_⟩
    (conv => whnf)
    refine ⟨⟨mul_b z3 b2 (by omega), up_b b3 (by omega)⟩, ?_⟩
    (conv => whnf)
    have p1 : 0 < nth ts v * (at2 t v w).1 * (at2 t w v).2 := Int.mul_pos (Int.mul_pos q2 q4) g7.2.1
    have p2 : 0 < nth bs v * (at2 t v w).2 * (at2 t w v).1 := Int.mul_pos (Int.mul_pos z2 g3.2.1) q5
    have y1 : ∀ c, (∀ x ∈ ts, 0 ≤ x ∧ x.natAbs < 2 ^ (480 * c + 1)) → (∀ x ∈ bs, 0 < x ∧ x.natAbs < 2 ^ (480 * c + 1)) → (nth ts v * (at2 t v w).1 * (at2 t w v).2).natAbs < 2 ^ (480 * (c + 1) + 1) ∧ (nth bs v * (at2 t v w).2 * (at2 t w v).1).natAbs < 2 ^ (480 * (c + 1) + 1) := fun c u1 u2 => by
      obtain ⟨_, u1⟩ := u1 _ (List.mem_of_getElem? (nth_eq l1))
      obtain ⟨_, u2⟩ := u2 _ (List.mem_of_getElem? (nth_eq l3))
      exact ⟨mul_b (mul_b u1 b1 (Nat.le_refl _)) b4 (by omega), mul_b (mul_b u2 b2 (Nat.le_refl _)) b3 (by omega)⟩
    refine ⟨(nth ts v * (at2 t v w).1 * (at2 t w v).2, nth bs v * (at2 t v w).2 * (at2 t w v).1), rfl, ⟨Int.le_of_lt p1, p2, mul_b (mul_b z3 b2 (Nat.le_refl _)) b3 (by omega)⟩, ?_⟩
    rintro _ rfl
    (conv => whnf)
    refine ⟨_, at_0, ?_⟩
    (conv => whnf)
    refine ⟨w, nth_set_lt l2, ?_⟩
    (conv => whnf)
    refine ⟨_, at_1, ?_⟩
    (conv => whnf)
    refine ⟨w, nth_set_lt l4, ?_⟩
    refine hN _ ⟨ts.set w (lowI (nth ts v * (at2 t v w).1 * (at2 t w v).2) (nth bs v * (at2 t v w).2 * (at2 t w v).1)).1, bs.set w (lowI (nth ts v * (at2 t v w).1 * (at2 t w v).2) (nth bs v * (at2 t v w).2 * (at2 t w v).1)).2, ri.put hw q3 ?_ ?_ fun c u1 u2 => ?_, _, _, _, _, _, by rw [← set_map, ← set_map] <;> rfl⟩
    · exact (lowI_ok (Int.le_of_lt p1) p2 (y1 c0 ri2 ri3).1 (y1 c0 ri2 ri3).2).2.2.1 p1
    · exact (lowI_ok (Int.le_of_lt p1) p2 (y1 c0 ri2 ri3).1 (y1 c0 ri2 ri3).2).2.1
    · have := lowI_ok (Int.le_of_lt p1) p2 (y1 c u1 u2).1 (y1 c u1 u2).2
      exact ⟨this.2.2.2.1, this.2.2.2.2.1⟩
  · rintro Γ ⟨ts, bs, ri, a, b, c, d, e, f, rfl⟩
    (conv => whnf)
    refine ⟨trivial, pl_ints _, fun k => ?_, fun k => ?_⟩
    · (conv => whnf)
      exact .inl rfl
    obtain ⟨h5, h6, c0, h7, h8, h9⟩ := ri
    have hc0 : c0 ≤ 3 := by
      have := List.countP_le_length (p := fun x : Int => decide (0 < x)) (l := ts)
      omega
    have up : (2 : Nat) ^ (480 * c0 + 1) ≤ 2 ^ 1441 := Nat.pow_le_pow_right (by decide) (by omega)
    have h8 : ∀ x ∈ ts, 0 < x ∧ x.natAbs < 2 ^ 1441 := fun x hx => ⟨by
      have := (h8 x hx).1
      have : x ≠ 0 := fun z => k (z ▸ List.mem_map_of_mem hx)
      omega, Nat.lt_of_lt_of_le (h8 x hx).2 up⟩
    have h9 : ∀ x ∈ bs, 0 < x ∧ x.natAbs < 2 ^ 1441 := fun x hx => ⟨(h9 x hx).1, Nat.lt_of_lt_of_le (h9 x hx).2 up⟩
    have h10 : ∀ i, i ≤ bs.length → (prodL (bs.take i)).natAbs < 2 ^ 5765 := fun i hi => by
      have := (prodL_b (k := 1441) (xs := bs.take i) fun x hx => h9 x (List.mem_of_mem_take hx)).2
      rw [List.length_take] at this
      exact up_b this (by omega)
    (conv => whnf)
    show wpFor _ _ _ (bs.map D.int) _
    refine wpFor_map D.int bs (fun i Γ => ∃ x, Γ = [.im (eTL t), .im (.int t.length), .ow (ts.map .int), a, .im (.lst (bs.map .int)), b, c, d, e, f, .im (.int (prodL (bs.take i))), x, .no, .no, .no]) ?_ ?_ ⟨_, rfl⟩
    · rintro i x Γ N hi ⟨y, rfl⟩ hN
      have hil := (List.getElem?_eq_some_iff.mp hi).1
      obtain ⟨_, hx⟩ := h9 x (List.mem_of_getElem? hi)
      (conv => whnf)
      refine ⟨⟨up_b (h10 i (by omega)) (by omega), up_b hx (by omega)⟩, ?_⟩
      refine hN _ ⟨.im (.int x), ?_⟩
      rw [take_one hi, prodL_snoc] <;> rfl
    · rintro Γ ⟨y, rfl⟩
      rw [List.take_length]
      have h11 := h10 bs.length (Nat.le_refl _)
      rw [List.take_length] at h11
      (conv => whnf)
      refine ⟨by unfold small; omega, ?_⟩
      show wpLc _ _ _ _ _ (rng 0 _) []
      rw [Int.toNat_natCast]
      have hq : ∀ i, i < t.length → 0 < nth ts i * (prodL bs / nth bs i) ∧ (nth ts i * (prodL bs / nth bs i)).natAbs < 2 ^ 7400 ∧ (prodL bs / nth bs i).natAbs < 2 ^ 5800 := fun i hi => by
        obtain ⟨q, e1, e2, e3⟩ := prodL_at (v := i) h9 (by omega)
        obtain ⟨e4, e5⟩ := h9 _ (List.mem_of_getElem? (nth_eq (ns := bs) (v := i) (by omega)))
        obtain ⟨e6, e7⟩ := h8 _ (List.mem_of_getElem? (nth_eq (ns := ts) (v := i) (by omega)))
        rw [e1, Int.mul_ediv_cancel_left q (by omega)]
        exact ⟨Int.mul_pos e6 e2, mul_b e7 e3 (by omega), up_b e3 (by omega)⟩
      refine wpLc_rng (fun i => D.int (nth ts i * (prodL bs / nth bs i))) 0 t.length (by omega) (fun i hi N M hN => ?_) ?_
      · rw [Int.zero_add]
        (conv => whnf)
        refine ⟨_, at_int (by omega), ?_⟩
        (conv => whnf)
        refine ⟨_, at_int (by omega), ?_⟩
        (conv => whnf)
        obtain ⟨e4, e5⟩ := h9 _ (List.mem_of_getElem? (nth_eq (ns := bs) (v := i) (by omega)))
        obtain ⟨e6, e7⟩ := h8 _ (List.mem_of_getElem? (nth_eq (ns := ts) (v := i) (by omega)))
        refine ⟨⟨e4, up_b e5 (by omega)⟩, ?_⟩
        (conv => whnf)
        refine ⟨⟨up_b e7 (by omega), up_b (hq i hi).2.2 (by omega)⟩, ?_⟩
        exact hN
      (conv => whnf)
      have em : (List.range t.length).map (fun i => D.int (nth ts i * (prodL bs / nth bs i))) = ((List.range t.length).map fun i => nth ts i * (prodL bs / nth bs i)).map D.int := by
        rw [List.map_map] <;> rfl
      rw [em]
      generalize hns : ((List.range t.length).map fun i => nth ts i * (prodL bs / nth bs i)) = ns
      have hn : ∀ x ∈ ns, 0 < x ∧ x.natAbs < 2 ^ 7400 := fun x hx => by
        rw [← hns] at hx
        obtain ⟨i, hi, rfl⟩ := List.mem_map.mp hx
        have := hq i (List.mem_range.mp hi)
        exact ⟨this.1, this.2.1⟩
      have hnl : ns.length = t.length := by rw [← hns, List.length_map, List.length_range]
      clear hns em
      refine ⟨ns, rfl, fun x hx => (hn x hx).1, ?_⟩
      rintro _ rfl
      (conv => whnf)
      show wpLc _ _ _ _ _ (ns.map D.int) []
      have gd := (gcdL_dvd ns 0).2
      obtain ⟨n0, hn0⟩ : ∃ n0, n0 ∈ ns := ⟨ns[0]'(by omega), List.getElem_mem _⟩
      have gp : 0 < gcdL ns 0 := Nat.pos_of_dvd_of_pos (gd n0 hn0) (by have := (hn n0 hn0).1; omega)
      have gl : gcdL ns 0 < 2 ^ 7400 := Nat.lt_of_le_of_lt (Nat.le_of_dvd (by have := (hn n0 hn0).1; omega) (gd n0 hn0)) (hn n0 hn0).2
      refine wpLc_map D.int (fun x => D.int (x / (gcdL ns 0 : Nat))) ns (by omega) (fun x hx N M hN => ?_) ?_
      · (conv => whnf)
        refine ⟨⟨by omega, by rw [Int.natAbs_natCast]; exact Nat.lt_of_lt_of_le gl (Nat.pow_le_pow_right (by decide) (by omega))⟩, ?_⟩
        exact hN
      refine .inr ⟨ns.map fun x => x / (gcdL ns 0 : Nat), by rw [List.map_map] <;> rfl, by rw [List.length_map]; exact hnl, fun y hy => ?_⟩
      obtain ⟨x, hx, rfl⟩ := List.mem_map.mp hy
      obtain ⟨w1, w2⟩ := hn x hx
      have w3 : ((gcdL ns 0 : Nat) : Int) ∣ x := Int.ofNat_dvd_left.mpr (gd x hx)
      refine ⟨Int.ediv_pos_of_pos_of_dvd w1 (by omega) w3, ?_⟩
      have := Int.ediv_le_self (b := ((gcdL ns 0 : Nat) : Int)) (Int.le_of_lt w1)
      have := Int.ediv_nonneg (Int.le_of_lt w1) (show 0 ≤ ((gcdL ns 0 : Nat) : Int) by omega)
      exact Nat.lt_of_le_of_lt (by omega) w2
end LV
set_option Elab.async false
set_option linter.all false
set_option maxRecDepth 100000
set_option maxHeartbeats 4000000
namespace LV
open PySem PySem.Spec PyProof.Rows L2
theorem tbl_tB {l : List Node} {ks : List Nat} (hl : ∀ n ∈ l, ∀ h ∈ n.2, pAm h.2) : tB (tbl l ks) := fun r hr a ha => by
  obtain ⟨c, _, rfl⟩ := List.mem_map.mp hr
  obtain ⟨w, _, rfl⟩ := List.mem_map.mp ha
  rcases heardOf_ok (w := w) (h := (l[c]?.getD (0, [])).2) (fun x hx => by
    cases e : l[c]? with
    | none => rw [e] at hx; exact absurd hx List.not_mem_nil
    | some n =>
      rw [e] at hx
      exact hl n (List.mem_of_getElem? e) x hx) with e | h
  · rw [e]
    exact ⟨Nat.pow_pos (by decide), Nat.one_lt_two_pow (by decide)⟩
  · exact ⟨h.b1, h.b2⟩
theorem sum_b {B : Nat} : ∀ {xs : List Int}, (∀ x ∈ xs, 0 ≤ x ∧ x.natAbs < B) → 0 ≤ xs.sum ∧ xs.sum.natAbs ≤ xs.length * B
  | [], _ => ⟨Int.le_refl _, Nat.zero_le _⟩
  | x :: xs, h => by
    obtain ⟨h1, h2⟩ := sum_b (B := B) (xs := xs) fun y hy => h y (List.mem_cons_of_mem _ hy)
    obtain ⟨h3, h4⟩ := h x List.mem_cons_self
    rw [List.sum_cons, List.length_cons, Nat.succ_mul]
    omega
theorem lit_b {v : Vw} {s : Nat} {ns : List Int} (h4 : ns.length ≤ 4) (h : ∀ x ∈ ns, 0 < x ∧ x.natAbs < 2 ^ 7400) : 0 ≤ lit v s ns ∧ (lit v s ns).natAbs < 2 ^ 8000 := by
  obtain ⟨h1, h2⟩ := sum_b (B := 2 ^ 7400) (xs := ((List.range ns.length).filter fun x => decide ((stOf v s x).1 = 1)).map (nth ns)) fun x hx => by
    obtain ⟨i, hi, rfl⟩ := List.mem_map.mp hx
    have hi := List.mem_range.mp (List.mem_filter.mp hi).1
    obtain ⟨a, b⟩ := h _ (List.mem_of_getElem? (nth_eq hi))
    exact ⟨Int.le_of_lt a, b⟩
  refine ⟨h1, Nat.lt_of_le_of_lt h2 ?_⟩
  rw [List.length_map]
  have h3 := List.length_filter_le (fun x => decide ((stOf v s x).1 = 1)) (List.range ns.length)
  rw [List.length_range] at h3
  have h5 : ((List.range ns.length).filter fun x => decide ((stOf v s x).1 = 1)).length * 2 ^ 7400 ≤ 2 ^ 2 * 2 ^ 7400 := Nat.mul_le_mul_right _ (by omega)
  rw [← Nat.pow_add] at h5
  exact Nat.lt_of_le_of_lt h5 (Nat.pow_lt_pow_right (by decide) (by omega))
/-- what law_still tells second -/
def c_law_still : Ct := ⟨2, Vw × Nat, fun g => [eV g.1, .int g.2], fun g => Good g.1 ∧ g.2 < g.1.up.length, fun g d => ∃ x y, d = .lst [x, y] ∧ rR (sz g.1 g.2) y, fun _ => rfl⟩
theorem f_law_still {P : Program} {w : World} {K : PySem.W.Frag} {mg : Str → Option Value} {base : Heap} (W : Wd K mg) : Fn P w K mg base 3 "_law_still" c_law_still := by
  refine W.fn 56 (d := HH.d_law_still) rfl rfl 46 rfl ["_law_levels_here", "_law_s"] rfl rfl (fun _ _ _ _ _ _ us h => by match us, h with | [a0, a1], _ => rfl) fun f fd F => ?_
  have S : FnScope ["_law_levels_here", "_law_s", "_law_kids_here", "_law_row", "_law_table_here", "_law_numbers"] ["_law_levels_here", "_law_s"] HH.d_law_still.scope := C8.fnScope_by (by decide +kernel)
  have B := W.gb
  have G_law_kids := f_law_kids (P := P) (w := w) (base := base) W
  have G_law_table := f_law_table (P := P) (w := w) (base := base) W
  have G_law_hangs := f_law_hangs (P := P) (w := w) (base := base) W
  have G_law_ratio := f_law_ratio (P := P) (w := w) (base := base) W
  have G_law_balanced := f_law_balanced (P := P) (w := w) (base := base) W
  refine fn_ok (N := ["_law_levels_here", "_law_s", "_law_kids_here", "_law_row", "_law_table_here", "_law_numbers"]) (k := 2) F S rfl (fun cdv A outer s H E hr => ⟨_, (vb_cons (vs_set (i := 2) S.nd (v_call G_law_kids hr (va_cons (vv 0) (va_cons (vv 1) va_nil))))
 (vb_cons (vs_if (vt_cmp (v_ne hr (ve_of (vl_lc (own := [("_law_row", 3)]) rfl S.nd (VI.own (vi_list (vv 2))) (by rfl) (fun _ _ _ _ _ => (vg_name 3 S.nd)) (fun _ _ _ _ _ => (vq_one (vt_cmp (v_neI (v_len B.len (vv 3)) v_int)))) (fun _ _ _ _ _ => (vv 3)))) (ve_of (vl_lst va_nil))))
 (vb_one (vs_ret (ve_of (vl_lst (va_cons v_str (va_cons v_non va_nil))))))
 vb_nil)
 (vb_cons (vs_set (i := 4) S.nd (v_call G_law_table hr (va_cons (vv 0) (va_cons (vv 1) (va_cons (vv 2) va_nil)))))
 (vb_cons (vs_if (vt_not (vt_val (v_call G_law_hangs hr (va_cons (vv 4) va_nil))))
 (vb_one (vs_ret (ve_of (vl_lst (va_cons v_str (va_cons v_non va_nil))))))
 vb_nil)
 (vb_cons (vs_set (i := 5) S.nd (v_call G_law_ratio hr (va_cons (vv 4) va_nil)))
 (vb_cons (vs_if (vt_of (vw_or (vt_cmp (v_is (vv 5) v_non)) (vw_or1 (vt_not (vt_val (v_call G_law_balanced hr (va_cons (vv 4) (va_cons (vv 5) va_nil))))))))
 (vb_one (vs_ret (ve_of (vl_lst (va_cons v_str (va_cons v_non va_nil))))))
 vb_nil)
 (vb_one (vs_ret (ve_of (vl_lst (va_cons v_non (va_cons (vv 5) va_nil))))))))))))⟩) ?_
  rintro ⟨v, s⟩ ⟨g, hs⟩
  dsimp only at g hs
  have hr := g.rounds
  have hz := g.szb (k := s) (by omega)
  obtain ⟨l, hl⟩ := up_get hs
  have gl := g.ups _ l hl
  (conv => whnf)
  refine ⟨(v, s, l), rfl, ⟨g, hl⟩, ?_⟩
  rintro _ rfl
  dsimp only
  have hkl : (kidsL l (sz v s) l.length).length = sz v s := by simp [kidsL]
  (conv => whnf)
  refine wpLc_filter D.lst (fun r => decide (r.length ≠ 1)) D.lst (kidsL l (sz v s) l.length) (by omega) (fun r _ N M hN hM => ?_) ?_
  · (conv => whnf)
    refine ⟨fun h => hN (decide_eq_true (by omega)), fun h => hM (decide_eq_false (by omega))⟩
  (conv => whnf)
  have hpl : pl 40 (D.lst (((kidsL l (sz v s) l.length).filter fun r => decide (r.length ≠ 1)).map D.lst)) := fun d hd => by
    obtain ⟨r, hr, rfl⟩ := List.mem_map.mp hd
    obtain ⟨x, _, rfl⟩ := List.mem_map.mp (List.mem_filter.mp hr).1
    intro y hy
    obtain ⟨k, _, rfl⟩ := List.mem_map.mp hy
    trivial
  refine ⟨hpl, fun d hd => absurd hd List.not_mem_nil, fun h3 => ?_, fun h3 => ?_⟩
  · (conv => whnf)
    exact ⟨_, _, rfl, .inl rfl⟩
  have h3 := List.map_eq_nil_iff.mp (D.lst.inj (Classical.not_not.mp h3))
  obtain ⟨ks, ho, ek⟩ := kids_yes (l := l) (n := sz v s) fun r hr => Classical.not_not.mp fun z => (List.filter_eq_nil_iff.mp h3) r hr (decide_eq_true z)
  clear h3 hpl
  have hks : ks.length = sz v s := ho.len
  have pa : ∀ n ∈ l, ∀ h ∈ n.2, pAm h.2 := fun n hn h hh => (gl.near n hn h hh).2
  have sq : Sq (tbl l ks) := tbl_sq (by omega) (by omega) pa
  have htl : (tbl l ks).length = sz v s := (tbl_len l ks).trans hks
  (conv => whnf)
  refine ⟨(v, s, l, ks), ?_, ⟨g, hl, by dsimp only; omega, fun k hk => ?_⟩, ?_⟩
  · show [_, _, _] = [_, _, _]
    rw [ek, List.map_map] <;> rfl
  · obtain ⟨x, hx2, rfl⟩ := List.mem_iff_getElem.mp hk
    exact (ho.one x _ (List.getElem?_eq_getElem hx2)).1.lt
  rintro _ rfl
  (conv => whnf)
  refine ⟨tbl l ks, rfl, sq, ?_⟩
  rintro _ ⟨b, rfl, hb1⟩
  cases b with
  | false =>
    (conv => whnf)
    exact ⟨_, _, rfl, .inl rfl⟩
  | true =>
    (conv => whnf)
    refine ⟨tbl l ks, rfl, ⟨sq, by omega, tbl_tB pa⟩, ?_⟩
    rintro d hd
    have hd : rR (tbl l ks).length d := hd
    rw [htl] at hd
    rcases hd with rfl | ⟨ns, rfl, hn1, hn2⟩
    · (conv => whnf)
      exact ⟨_, _, rfl, .inl rfl⟩
    · (conv => whnf)
      refine ⟨(tbl l ks, ns), rfl, ⟨sq, by dsimp only; omega, fun n hn => Nat.lt_of_lt_of_le (hn2 n hn).2 (Nat.pow_le_pow_right (by decide) (by omega))⟩, ?_⟩
      rintro _ ⟨b, rfl, hb2⟩
      cases b with
      | false =>
        (conv => whnf)
        exact ⟨_, _, rfl, .inl rfl⟩
      | true =>
        (conv => whnf)
        exact ⟨_, _, rfl, .inr ⟨ns, rfl, hn1, hn2⟩⟩
def rS (n : Nat) (d : D) : Prop := d = .non ∨ ∃ ns : List Int, d = .lst (ns.map .int) ∧ ns.length = n ∧ ∀ x ∈ ns, x.natAbs < 2 ^ 7400
def c_law_scaled : Ct := ⟨3, Vw × Nat, fun g => [eV g.1, .int g.2, .int 1], fun g => Good g.1 ∧ g.2 < g.1.up.length, fun g d => rS (sz g.1 g.2) d, fun _ => rfl⟩
theorem f_law_scaled {P : Program} {w : World} {K : PySem.W.Frag} {mg : Str → Option Value} {base : Heap} (W : Wd K mg) : Fn P w K mg base 4 "_law_scaled" c_law_scaled := by
  refine W.fn 60 (d := HH.d_law_scaled) rfl rfl 50 rfl ["_law_levels_here", "_law_s", "_law_lamps"] rfl rfl (fun _ _ _ _ _ _ us h => by match us, h with | [a0, a1, a2], _ => rfl) fun f fd F => ?_
  have S : FnScope ["_law_levels_here", "_law_s", "_law_lamps", "_law_numbers", "_law_lit", "_law_x"] ["_law_levels_here", "_law_s", "_law_lamps"] HH.d_law_scaled.scope := C8.fnScope_by (by decide +kernel)
  have B := W.gb
  have G_law_still := f_law_still (P := P) (w := w) (base := base) W
  have G_law_lit_sum := f_law_lit_sum (P := P) (w := w) (base := base) W
  refine fn_ok (N := ["_law_levels_here", "_law_s", "_law_lamps", "_law_numbers", "_law_lit", "_law_x"]) (k := 3) F S rfl (fun cdv A outer s H E hr => ⟨_, (vb_cons (vs_set (i := 3) S.nd (v_ix (v_call G_law_still hr (va_cons (vv 0) (va_cons (vv 1) va_nil))) v_int))
 (vb_cons (vs_if (vt_cmp (v_is (vv 3) v_non))
 (vb_one (vs_ret v_non))
 vb_nil)
 (vb_cons (vs_set (i := 4) S.nd (v_call G_law_lit_sum hr (va_cons (vv 0) (va_cons (vv 1) (va_cons (vv 3) va_nil)))))
 (vb_cons (vs_if (vt_of (vw_or (vt_cmp (v_eqI (vv 4) v_int)) (vw_or1 (vt_cmp (v_ne hr (ve_of (vl_lc (own := [("_law_x", 5)]) rfl S.nd (VI.own (vi_list (vv 3))) (by rfl) (fun _ _ _ _ _ => (vg_name 5 S.nd)) (fun _ _ _ _ _ => (vq_one (vt_cmp (v_neI (v_mod (v_intof B.int (v_mulW (vv 5) (vv 2))) (vv 4)) v_int)))) (fun _ _ _ _ _ => (vv 5)))) (ve_of (vl_lst va_nil)))))))
 (vb_one (vs_ret v_non))
 vb_nil)
 (vb_one (vs_ret (ve_of (vl_lc (own := [("_law_x", 5)]) rfl S.nd (VI.own (vi_list (vv 3))) (by rfl) (fun _ _ _ _ _ => (vg_name 5 S.nd)) (fun _ _ _ _ _ => vq_nil) (fun _ _ _ _ _ => (v_divW (v_mulW (vv 5) (vv 2)) (vv 4)))))))))))⟩) ?_
  rintro ⟨v, s⟩ ⟨g, hs⟩
  dsimp only at g hs
  have hr := g.rounds
  have hz := g.szb (k := s) (by omega)
  (conv => whnf)
  refine ⟨(v, s), rfl, ⟨g, hs⟩, ?_⟩
  rintro _ ⟨x, y, rfl, hy⟩
  refine ⟨_, at_1, ?_⟩
  rcases hy with rfl | ⟨ns, rfl, hn1, hn2⟩
  · (conv => whnf)
    exact .inl rfl
  dsimp only at hn1
  obtain ⟨lb1, lb2⟩ := lit_b (v := v) (s := s) (by omega) hn2
  (conv => whnf)
  refine ⟨(v, s, ns), rfl, ⟨g, Nat.le_of_lt hs, hn1⟩, ?_⟩
  rintro _ rfl
  (conv => whnf)
  refine ⟨fun h1 => ?_, fun h1 => ?_⟩
  · (conv => whnf)
    exact .inl rfl
  have h1 : lit v s ns ≠ 0 := h1
  have hlp : 0 < lit v s ns := by omega
  (conv => whnf)
  refine wpLc_filter D.int (fun n => decide (n * 1 % lit v s ns ≠ 0)) D.int ns (by omega) (fun n hn N M hN hM => ?_) ?_
  · obtain ⟨u1, u2⟩ := hn2 n hn
    (conv => whnf)
    refine ⟨⟨up_b u2 (by omega), by decide⟩, ?_⟩
    (conv => whnf)
    refine ⟨hlp, ?_⟩
    refine ⟨fun h => hN (decide_eq_true h), fun h => hM (decide_eq_false h)⟩
  (conv => whnf)
  refine ⟨pl_ints _, fun d hd => absurd hd List.not_mem_nil, fun h2 => ?_, fun h2 => ?_⟩
  · (conv => whnf)
    exact .inl rfl
  clear h2
  (conv => whnf)
  show wpLc _ _ _ _ _ (ns.map D.int) []
  refine wpLc_map D.int (fun n => .int (n * 1 / lit v s ns)) ns (by omega) (fun n hn N M hN => ?_) ?_
  · obtain ⟨u1, u2⟩ := hn2 n hn
    (conv => whnf)
    refine ⟨⟨up_b u2 (by omega), by decide⟩, ?_⟩
    (conv => whnf)
    refine ⟨⟨hlp, lb2⟩, ?_⟩
    exact hN
  refine .inr ⟨ns.map fun n => n * 1 / lit v s ns, by rw [List.map_map] <;> rfl, by rw [List.length_map]; exact hn1, fun y hy => ?_⟩
  obtain ⟨x, hx, rfl⟩ := List.mem_map.mp hy
  obtain ⟨w1, w2⟩ := hn2 x hx
  rw [Int.mul_one]
  have := Int.ediv_le_self (b := lit v s ns) (Int.le_of_lt w1)
  have := Int.ediv_nonneg (Int.le_of_lt w1) lb1
  exact Nat.lt_of_le_of_lt (by omega) w2
end LV
set_option Elab.async false
set_option linter.all false
set_option maxRecDepth 100000
set_option maxHeartbeats 4000000
namespace LV
open PySem PySem.Spec PyProof.Rows L2
def eON : Option (List Int) → D
  | none => .non
  | some ns => .lst (ns.map .int)
def tdR (v : Vw) (s : Nat) : Option (List Int) → Prop
  | none => True
  | some ns => ns.length = sz v s ∧ ∀ x ∈ ns, x.natAbs < 2 ^ 7400
def ToldOk (v : Vw) (told : List (Option (List Int))) : Prop := told.length = v.up.length ∧ ∀ s ns, told[s]? = some (some ns) → ns.length = sz v s ∧ ∀ x ∈ ns, x.natAbs < 2 ^ 7400
def Pls (told : List (Option (List Int))) (st : List Nat) : Prop := st.length ≤ 8 ∧ ∀ s ∈ st, ∃ ns, told[s]? = some (some ns)
def c_law_chain : Ct := ⟨1, Vw, fun g => [eV g], fun g => Good g, fun g d => ∃ told st, ToldOk g told ∧ Pls told st ∧ (d = .lst [.lst (st.map fun s : Nat => .int s), .lst (told.map eON), .non] ∨ ∃ tk, Pls told tk ∧ d = .lst [.lst (st.map fun s : Nat => .int s), .lst (told.map eON), .lst (tk.map fun s : Nat => .int s)]), fun _ => rfl⟩
def tat (told : List (Option (List Int))) (s : Nat) : List Int := (told[s]?.getD none).getD []
theorem tat_of {told : List (Option (List Int))} {s : Nat} {ns : List Int} (h : told[s]? = some (some ns)) : tat told s = ns := by
  unfold tat
  rw [h] <;> rfl
def isS (told : List (Option (List Int))) (s : Nat) : Bool := (told[s]?.getD none).isSome
def fitB (v : Vw) (told : List (Option (List Int))) (s t : Nat) : Bool := decide (sumsL v t (tat told t) (t - s) = tat told s)
theorem told_at {told : List (Option (List Int))} {s : Nat} {o : Option (List Int)} (h : told[s]? = some o) : atI (told.map eON) (s : Nat) = some (eON o) := at_map h
theorem bits_some : ∀ b : Nat, b < 512 → 0 < b → ∀ n : Nat, n < 9 → (b : Int) / 2 ^ n = 0 → ∃ k ∈ List.range n, Builtin.bitAnd ((b : Int) / 2 ^ k) 1 = 1 := by decide +kernel
theorem filt_drop : ∀ {st : List Nat} {y s : Nat}, st.Pairwise (· < ·) → st[y]? = some s → st.filter (fun t => decide (s ≤ t)) = st.drop y
  | [], _, _, _, h => by cases h
  | a :: r, 0, s, hp, h => by
    cases h
    refine List.filter_eq_self.mpr fun t ht => decide_eq_true ?_
    rcases List.mem_cons.mp ht with rfl | ht
    · exact Nat.le_refl _
    · exact Nat.le_of_lt (List.rel_of_pairwise_cons hp ht)
  | a :: r, y + 1, s, hp, h => by
    have h : r[y]? = some s := h
    have h1 := List.rel_of_pairwise_cons hp (List.mem_of_getElem? h)
    rw [List.filter_cons_of_neg (by rw [decide_eq_true_eq]; omega), filt_drop (List.Pairwise.of_cons hp) h] <;> rfl
theorem fit_at {v : Vw} {told : List (Option (List Int))} {st : List Nat} {y1 y2 s1 s2 : Nat} (hp : st.Pairwise (· < ·)) (h1 : st[y1]? = some s1) (h2 : st[y2]? = some s2) (h : y1 < y2) : atI ((st.filter fun t => decide (s1 ≤ t)).map fun t => D.bl (fitB v told s1 t)) ((y2 : Int) - (y1 : Int)) = some (.bl (fitB v told s1 s2)) := by
  rw [show (y2 : Int) - (y1 : Int) = ((y2 - y1 : Nat) : Int) by omega]
  refine at_map (en := fun t => D.bl (fitB v told s1 t)) ?_
  rw [filt_drop hp h1, List.getElem?_drop, show y1 + (y2 - y1) = y2 by omega]
  exact h2
theorem f_law_chain {P : Program} {w : World} {K : PySem.W.Frag} {mg : Str → Option Value} {base : Heap} (W : Wd K mg) : Fn P w K mg base 5 "_law_chain" c_law_chain := by
  refine W.fn 64 (d := HH.d_law_chain) rfl rfl 54 rfl ["_law_levels_here"] rfl rfl (fun _ _ _ _ _ _ us h => by match us, h with | [a0], _ => rfl) fun f fd F => ?_
  have S : FnScope ["_law_levels_here", "_law_told", "_law_s", "_law_stills", "_law_fits", "_law_t", "_law_bits", "_law_taken", "_law_k", "_law_bad"] ["_law_levels_here"] HH.d_law_chain.scope := C8.fnScope_by (by decide +kernel)
  have B := W.gb
  have G_law_scaled := f_law_scaled (P := P) (w := w) (base := base) W
  have G_law_agree := f_law_agree (P := P) (w := w) (base := base) W
  refine fn_ok (N := ["_law_levels_here", "_law_told", "_law_s", "_law_stills", "_law_fits", "_law_t", "_law_bits", "_law_taken", "_law_k", "_law_bad"]) (k := 4) F S rfl (fun cdv A outer s H E hr => ⟨_, (vb_cons (vs_set (i := 1) S.nd (ve_of (vl_lc (own := [("_law_s", 2)]) rfl S.nd (VI.own (vi_rng1 B.range (va_cons (v_sub (v_len B.len (vv 0)) v_int) va_nil))) (by rfl) (fun _ _ _ _ _ => (vg_name 2 S.nd)) (fun _ _ _ _ _ => vq_nil) (fun _ _ _ _ _ => (v_call G_law_scaled hr (va_cons (vv 0) (va_cons (vv 2) (va_cons v_int va_nil))))))))
 (vb_cons (vs_set (i := 3) S.nd (ve_of (vl_lc (own := [("_law_s", 2)]) rfl S.nd (VI.own (vi_rng1 B.range (va_cons (v_len B.len (vv 1)) va_nil))) (by rfl) (fun _ _ _ _ _ => (vg_name 2 S.nd)) (fun _ _ _ _ _ => (vq_one (vt_cmp (v_isnot (v_ix (vv 1) (vv 2)) v_non)))) (fun _ _ _ _ _ => (vv 2)))))
 (vb_cons (vs_set (i := 4) S.nd (ve_of (vl_lc (own := [("_law_s", 2)]) rfl S.nd (VI.own (vi_list (vv 3))) (by rfl) (fun _ _ _ _ _ => (vg_name 2 S.nd)) (fun _ _ _ _ _ => vq_nil) (fun _ _ _ _ _ => (ve_of (vl_lc (own := [("_law_t", 5)]) rfl S.nd (VI.own (vi_list (vv 3))) (by rfl) (fun _ _ _ _ _ => (vg_name 5 S.nd)) (fun _ _ _ _ _ => (vq_one (vt_cmp (v_ge (vv 5) (vv 2))))) (fun _ _ _ _ _ => (v_call G_law_agree hr (va_cons (vv 0) (va_cons (vv 2) (va_cons (v_ix (vv 1) (vv 2)) (va_cons (vv 5) (va_cons (v_ix (vv 1) (vv 5)) va_nil)))))))))))))
 (vb_cons (vs_for PassesOwn.never rfl (vi_rng2 B.range (va_cons v_int (va_cons (v_pow v_int v_int) va_nil))) (vg_name 6 S.nd)
 (vb_cons (vs_if (vt_cmp (v_neI (v_shr (vv 6) (v_len B.len (vv 3))) v_int))
 (vb_one vs_break)
 vb_nil)
 (vb_cons (vs_set (i := 7) S.nd (ve_of (vl_lc (own := [("_law_k", 8)]) rfl S.nd (VI.own (vi_rng1 B.range (va_cons (v_len B.len (vv 3)) va_nil))) (by rfl) (fun _ _ _ _ _ => (vg_name 8 S.nd)) (fun _ _ _ _ _ => (vq_one (vt_cmp (v_eqI (v_band (v_shr (vv 6) (vv 8)) v_int) v_int)))) (fun _ _ _ _ _ => (vv 8)))))
 (vb_one (vs_if (vt_cmp (v_eqI (v_len B.len (vv 7)) (v_sum rfl B.sum (v_ix (vv 1) (v_ix (vv 3) (v_ix (vv 7) v_int))))))
 (vb_cons (vs_setLc (i := 9) (own := [("_law_k", 8)]) rfl S.nd (VI.own (vi_rng2 B.range (va_cons v_int (va_cons (v_len B.len (vv 7)) va_nil)))) (by rfl) (fun _ _ _ _ _ => (vg_name 8 S.nd)) (fun _ _ _ _ _ => (vq_one (vt_not (vt_val (v_ix (v_ix (vv 4) (v_ix (vv 7) (v_sub (vv 8) v_int))) (v_sub (v_ix (vv 7) (vv 8)) (v_ix (vv 7) (v_sub (vv 8) v_int)))))))) (fun _ _ _ _ _ => (vv 8)) (sw_true rfl rfl rfl (by decide +kernel)))
 (vb_one (vs_if (vt_cmp (v_eq hr (vv 9) (ve_of (vl_lst va_nil))))
 (vb_one (vs_ret (ve_of (vl_lst (va_cons (vv 3) (va_cons (vv 1) (va_cons (ve_of (vl_lc (own := [("_law_k", 8)]) rfl S.nd (VI.own (vi_list (vv 7))) (by rfl) (fun _ _ _ _ _ => (vg_name 8 S.nd)) (fun _ _ _ _ _ => vq_nil) (fun _ _ _ _ _ => (v_ix (vv 3) (vv 8))))) va_nil)))))))
 vb_nil)))
 vb_nil)))))
 (vb_one (vs_ret (ve_of (vl_lst (va_cons (vv 3) (va_cons (vv 1) (va_cons v_non va_nil)))))))))))⟩) ?_
  intro (v : Vw) (g : Good v)
  have hr := g.rounds
  have hl : (((lvs v).length : Nat) : Int) = v.up.length + 1 := by rw [lvs_len]; omega
  (conv => whnf)
  refine ⟨by show small ((((lvs v).length : Nat) : Int) - 1); unfold small; omega, ?_⟩
  show wpLc _ _ _ _ _ (rng 0 (((((lvs v).length : Nat) : Int) - 1).toNat)) []
  rw [show (((((lvs v).length : Nat) : Int) - 1).toNat) = v.up.length by omega]
  refine wpLc_rel (fun i : Nat => D.int ((0 : Int) + (i : Nat))) eON (tdR v) (List.range v.up.length) [] (by simp; omega) (fun s hs N M hN => ?_) fun told htl hto => ?_
  · have hs := List.mem_range.mp hs
    rw [Int.zero_add]
    (conv => whnf)
    refine ⟨(v, s), rfl, ⟨g, hs⟩, ?_⟩
    rintro d hd
    have hd : rS (sz v s) d := hd
    rcases hd with rfl | ⟨ns, rfl, h1, h2⟩
    · exact hN none trivial
    · exact hN (some ns) ⟨h1, h2⟩
  rw [List.length_range] at htl
  have tok : ToldOk v told := ⟨htl, fun s ns h => by
    have hs : s < v.up.length := by rw [← htl]; exact (List.getElem?_eq_some_iff.mp h).1
    exact hto s s (some ns) (by rw [List.getElem?_range hs]) h⟩
  clear hto
  have htm : (told.map eON).length = v.up.length := by rw [List.length_map, htl]
  (conv => whnf)
  refine ⟨by unfold small; simp only [List.nil_append]; omega, ?_⟩
  show wpLc _ _ _ _ _ (rng 0 _) []
  rw [List.nil_append, htm, Int.toNat_natCast]
  refine wpLc_rngF (isS told) (fun s => .int (s : Nat)) 0 v.up.length (by omega) (fun s hs N M hN hM => ?_) ?_
  · rw [Int.zero_add]
    have e : told[s]? = some (told[s]'(by omega)) := List.getElem?_eq_getElem (by omega)
    (conv => whnf)
    refine ⟨_, told_at e, ?_⟩
    generalize told[s]'(by omega) = o at e
    cases o with
    | none =>
      (conv => whnf)
      exact hM (by unfold isS; rw [e] <;> rfl)
    | some ns =>
      (conv => whnf)
      exact hN (by unfold isS; rw [e] <;> rfl)
  generalize hst : (List.range v.up.length).filter (isS told) = st
  have pst : Pls told st := by
    subst hst
    refine ⟨?_, fun s hs => ?_⟩
    · have := List.length_filter_le (isS told) (List.range v.up.length)
      rw [List.length_range] at this
      omega
    · have h1 := (List.mem_filter.mp hs).2
      unfold isS at h1
      cases e : told[s]? with
      | none => rw [e] at h1; cases h1
      | some o =>
        cases o with
        | none => rw [e] at h1; cases h1
        | some ns => exact ⟨ns, rfl⟩
  have sst : st.Pairwise (· < ·) := by
    subst hst
    exact List.Pairwise.filter _ List.pairwise_lt_range
  have bst : ∀ s ∈ st, s < v.up.length := fun s hs => by
    subst hst
    exact List.mem_range.mp (List.mem_filter.mp hs).1
  clear hst
  have tst : ∀ s ∈ st, told[s]? = some (some (tat told s)) ∧ (tat told s).length = sz v s := fun s hs => by
    obtain ⟨ns, h⟩ := pst.2 s hs
    rw [tat_of h]
    exact ⟨h, (tok.2 s ns h).1⟩
  have lst8 := pst.1
  (conv => whnf)
  show wpLc _ _ _ _ _ (st.map fun s : Nat => .int s) []
  refine wpLc_map (fun s : Nat => D.int s) (fun s => .lst ((st.filter fun t => decide (s ≤ t)).map fun t => .bl (fitB v told s t))) st (by omega) (fun s hs N M hN => ?_) ?_
  · (conv => whnf)
    show wpLc _ _ _ _ _ (st.map fun s : Nat => .int s) []
    refine wpLc_filter (fun s : Nat => D.int s) (fun t => decide (s ≤ t)) (fun t => .bl (fitB v told s t)) st (by omega) (fun t ht N M hN hM => ?_) ?_
    · (conv => whnf)
      refine ⟨fun q => ?_, fun q => ?_⟩
      · have q : s ≤ t := by
          have q : (s : Int) ≤ t := q
          omega
        (conv => whnf)
        refine ⟨_, told_at (tst s hs).1, ?_⟩
        (conv => whnf)
        refine ⟨_, told_at (tst t ht).1, ?_⟩
        have := bst t ht
        refine ⟨(v, s, tat told s, t, tat told t), rfl, ⟨g, q, by dsimp only; omega, (tst t ht).2⟩, ?_⟩
        rintro _ ⟨b, rfl, hb⟩
        have e : fitB v told s t = b := by
          unfold fitB
          cases b with
          | true => exact decide_eq_true (hb.mp rfl)
          | false => exact decide_eq_false fun z => Bool.noConfusion (hb.mpr z)
        rw [← e]
        exact hN (decide_eq_true q)
      · exact hM (decide_eq_false fun z => q (by show (s : Int) ≤ t; omega))
    exact hN
  (conv => whnf)
  refine ⟨⟨by decide, by decide, by decide⟩, ?_⟩
  (conv => whnf)
  refine ⟨by unfold small; decide, by unfold small; decide, ?_⟩
  show wpFor _ _ _ (rng 1 511) _
  refine wpFor_rng 1 511 (fun i Γ => ∃ a b c d e f, Γ = [.im (eV v), .im (.lst (told.map eON)), a, .im (.lst (st.map fun s : Nat => .int s)), .im (.lst (st.map fun s => .lst ((st.filter fun t => decide (s ≤ t)).map fun t => .bl (fitB v told s t)))), b, c, d, e, f]) ?_ ?_ ⟨_, _, _, _, _, _, rfl⟩
  · rintro i Γ N hi ⟨a, b, c, d, e, f, rfl⟩ hN
    (conv => whnf)
    refine ⟨by omega, ?_⟩
    (conv => whnf)
    refine ⟨fun q1 => ?_, fun q1 => ?_⟩
    · (conv => whnf)
      exact ⟨told, st, tok, pst, .inl rfl⟩
    have hsl : (st.map fun s : Nat => D.int s).length = st.length := List.length_map _
    have q1 : ((i + 1 : Nat) : Int) / 2 ^ st.length = 0 := by
      have q1 := Classical.not_not.mp q1
      rw [hsl, Int.toNat_natCast, show (1 : Int) + (i : Nat) = ((i + 1 : Nat) : Int) by omega] at q1
      exact q1
    rw [show (1 : Int) + (i : Nat) = ((i + 1 : Nat) : Int) by omega]
    (conv => whnf)
    refine ⟨by unfold small; omega, ?_⟩
    show wpLc _ _ _ _ _ (rng 0 _) []
    rw [hsl, Int.toNat_natCast]
    refine wpLc_rngF (fun k => decide (Builtin.bitAnd (((i + 1 : Nat) : Int) / 2 ^ k) 1 = 1)) (fun k => .int (k : Nat)) 0 st.length (by omega) (fun k hk N M hN hM => ?_) ?_
    · rw [Int.zero_add]
      (conv => whnf)
      refine ⟨by omega, ?_⟩
      (conv => whnf)
      rw [Int.toNat_natCast]
      exact ⟨fun h => hN (decide_eq_true h), fun h => hM (decide_eq_false h)⟩
    have hne : (List.range st.length).filter (fun k => decide (Builtin.bitAnd (((i + 1 : Nat) : Int) / 2 ^ k) 1 = 1)) ≠ [] := fun z => by
      obtain ⟨k, h1, h2⟩ := bits_some (i + 1) (by omega) (by omega) st.length (by omega) q1
      exact List.filter_eq_nil_iff.mp z k h1 (decide_eq_true h2)
    have hlt : ∀ k ∈ (List.range st.length).filter (fun k => decide (Builtin.bitAnd (((i + 1 : Nat) : Int) / 2 ^ k) 1 = 1)), k < st.length := fun k hk => List.mem_range.mp (List.mem_filter.mp hk).1
    have hpw : ((List.range st.length).filter (fun k => decide (Builtin.bitAnd (((i + 1 : Nat) : Int) / 2 ^ k) 1 = 1))).Pairwise (· < ·) := List.Pairwise.filter _ List.pairwise_lt_range
    have hle := List.length_filter_le (fun k => decide (Builtin.bitAnd (((i + 1 : Nat) : Int) / 2 ^ k) 1 = 1)) (List.range st.length)
    rw [List.length_range] at hle
    generalize (List.range st.length).filter (fun k => decide (Builtin.bitAnd (((i + 1 : Nat) : Int) / 2 ^ k) 1 = 1)) = tk at hne hlt hpw hle
    have htl : 0 < tk.length := List.length_pos_iff.mpr hne
    have hta : ∀ k, k < tk.length → ∃ y, tk[k]? = some y ∧ y < st.length ∧ ∃ s, st[y]? = some s ∧ s ∈ st := fun k hk => by
      have h1 := hlt tk[k] (List.getElem_mem hk)
      exact ⟨tk[k], List.getElem?_eq_getElem hk, h1, st[tk[k]], List.getElem?_eq_getElem h1, List.getElem_mem h1⟩
    obtain ⟨y0, hy0, hy1, s0, hs0, hs1⟩ := hta 0 htl
    (conv => whnf)
    refine ⟨_, (show atI (tk.map fun k : Nat => D.int k) 0 = _ from at_map (en := fun k : Nat => D.int k) hy0), ?_⟩
    (conv => whnf)
    refine ⟨_, at_map (en := fun k : Nat => D.int k) hs0, ?_⟩
    (conv => whnf)
    refine ⟨_, told_at (tst s0 hs1).1, ?_⟩
    (conv => whnf)
    refine ⟨_, rfl, ?_⟩
    (conv => whnf)
    refine ⟨fun q2 => ?_, fun q2 => ?_⟩
    rotate_left
    · exact hN _ ⟨_, _, _, _, _, _, rfl⟩
    clear q2
    have htn : (tk.map fun k : Nat => D.int k).length = tk.length := List.length_map _
    (conv => whnf)
    refine ⟨by unfold small; decide, by unfold small; omega, ?_⟩
    show wpLc _ _ _ _ _ (rng 1 _) []
    rw [show (((tk.map fun k : Nat => D.int k).length : Int) - 1).toNat = tk.length - 1 by omega]
    refine wpLc_rngF (fun k => !(fitB v told (st[tk[k]?.getD 0]?.getD 0) (st[tk[k + 1]?.getD 0]?.getD 0))) (fun k => .int ((1 : Int) + (k : Nat))) 1 (tk.length - 1) (by omega) (fun k hk N M hN hM => ?_) ?_
    · obtain ⟨y1, hy1, hy2, s1, hs1, hs2⟩ := hta k (by omega)
      obtain ⟨y2, hy3, hy4, s2, hs3, hs4⟩ := hta (k + 1) (by omega)
      have hyy : y1 < y2 := by
        have h1 := (List.getElem?_eq_some_iff.mp hy1)
        have h2 := (List.getElem?_eq_some_iff.mp hy3)
        obtain ⟨h1, rfl⟩ := h1
        obtain ⟨h2, rfl⟩ := h2
        exact List.pairwise_iff_getElem.mp hpw k (k + 1) h1 h2 (by omega)
      (conv => whnf)
      refine ⟨_, (by rw [show (1 : Int) + (k : Nat) - 1 = (k : Nat) by omega]; exact at_map (en := fun k : Nat => D.int k) hy1), ?_⟩
      refine ⟨_, at_map (en := fun s => D.lst ((st.filter fun t => decide (s ≤ t)).map fun t => .bl (fitB v told s t))) hs1, ?_⟩
      (conv => whnf)
      refine ⟨_, (by rw [show (1 : Int) + (k : Nat) = ((k + 1 : Nat) : Int) by omega]; exact at_map (en := fun k : Nat => D.int k) hy3), ?_⟩
      (conv => whnf)
      refine ⟨_, (by rw [show (1 : Int) + (k : Nat) - 1 = (k : Nat) by omega]; exact at_map (en := fun k : Nat => D.int k) hy1), ?_⟩
      refine ⟨_, fit_at sst hs1 hs3 hyy, ?_⟩
      have e1 : st[tk[k]?.getD 0]?.getD 0 = s1 := by
        rw [hy1]
        show st[y1]?.getD 0 = _
        rw [hs1] <;> rfl
      have e2 : st[tk[k + 1]?.getD 0]?.getD 0 = s2 := by
        rw [hy3]
        show st[y2]?.getD 0 = _
        rw [hs3] <;> rfl
      rw [e1, e2] at hN hM
      generalize fitB v told s1 s2 = q at hN hM
      cases q with
      | true =>
        (conv => whnf)
        exact hM rfl
      | false =>
        (conv => whnf)
        exact hN rfl
    (conv => whnf)
    refine ⟨pl_rng _ _, fun d hd => absurd hd List.not_mem_nil, fun q3 => ?_, fun q3 => ?_⟩
    rotate_left
    · exact hN _ ⟨_, _, _, _, _, _, rfl⟩
    clear q3
    (conv => whnf)
    show wpLc _ _ _ _ _ (tk.map fun k : Nat => .int k) []
    refine wpLc_map (fun k : Nat => D.int k) (fun k => .int (st[k]?.getD 0 : Nat)) tk (by omega) (fun k hk N M hN => ?_) ?_
    · (conv => whnf)
      have e : st[k]? = some (st[k]'(hlt k hk)) := List.getElem?_eq_getElem (hlt k hk)
      refine ⟨_, at_map (en := fun k : Nat => D.int k) e, ?_⟩
      rw [e] at hN
      exact hN
    refine ⟨told, st, tok, pst, .inr ⟨tk.map fun k => st[k]?.getD 0, ⟨by rw [List.length_map]; omega, fun s hs => ?_⟩, ?_⟩⟩
    · obtain ⟨k, hk, rfl⟩ := List.mem_map.mp hs
      have e : st[k]? = some (st[k]'(hlt k hk)) := List.getElem?_eq_getElem (hlt k hk)
      rw [e]
      exact pst.2 _ (List.getElem_mem (hlt k hk))
    · rw [List.map_map] <;> rfl
  · rintro Γ ⟨a, b, c, d, e, f, rfl⟩
    (conv => whnf)
    exact ⟨told, st, tok, pst, .inl rfl⟩
end LV
set_option Elab.async false
set_option linter.all false
set_option maxRecDepth 100000
set_option maxHeartbeats 4000000
/-! LV17: isinstance of an own class, == by an own method. -/
namespace LV
open PySem PySem.Spec PyProof.Rows L2
section
variable {X : Cx} {e a b c : Expr} {es : List Expr} {t ta tb tc te : TE} {m ma mb mc me : Vm} {pos p : Pos} {ta' : TA} {na : Va} {n k : Nat}
/-- isinstance(a, x), a an instance of the own class x itself -/
theorem v_isC {x : Str} {q1 : Pos} (hm : X.mg "isinstance" = none) (hx : X.mg x = some (.ref (He.ga X.K x))) (c : C8.InsC X.K (He.ga X.K x)) (ha : VE X a ta ma) (hg : Gl X "isinstance" := by rfl) (hgT : Gl X x := by rfl) (hdb : (x == ("__debug__" : Str)) = false := by decide)
    (hs : starEach [a, Expr.Name x q1] X.env = (false, eval a X.env) :: starEach [Expr.Name x q1] X.env := by rfl) (hs2 : starEach [Expr.Name x q1] X.env = (false, eval (Expr.Name x q1) X.env) :: starEach [] X.env := by rfl) (hpl : (backTo pos (starEach [Expr.Name x q1] X.env)).any (·.1) = false := by rfl) :
    VE X (.Call (.Name "isinstance" p) [a, .Name x q1] [] pos) (tCB (fun xs H Q => ∃ a dx fs, xs = [.ref a, .ref (He.ga X.K x)] ∧ H a = some (.ins (He.ga X.K x) dx fs) ∧ Q (.bl true) H) (tCons ta (tCons (tC (.ref (He.ga X.K x))) tNil)))
      (fun Γ Q => ma Γ fun d => match d with
        | .obj c _ _ => c = x ∧ Q (.bl true)
        | _ => False) :=
  ⟨pe_callB (C8.call_isC c) hg hm (by decide +kernel) (pa_cons ha.pe (pa_cons (pe_glob hgT hx rfl hdb) pa_nil hs2) hs) (by decide) (by decide) hs hpl, fun {dA F0 H0 F H σ Γ Q Qk} R q f => ha.sim R q fun F1 H1 d v e1 k1 r1 q1 => by
    cases d <;> first | exact False.elim q1 | skip
    rename_i c' ns ds
    obtain ⟨rfl, q1⟩ := q1
    obtain ⟨a, dx, fs, rfl, h1, h2, h3⟩ := id r1
    exact ⟨a, dx, fs, rfl, k1.sub _ _ h1, f F1 H1 (.bl true) _ e1 k1 rfl q1⟩⟩
theorem flt_rep {K : PySem.W.Frag} {dA : Option Addr} {F : Hp} {x : Fl} {v : V} (h : Rep K dA F (eFlt (some x)) v) : Rep K none F (eFlt (some x)) v := by
  obtain ⟨w, l⟩ := x
  cases l with
  | none => exact h
  | some l => exact h
def c_ShortFault_eq : Ct := ⟨2, Fl, fun g => [eFlt (some g), eFlt (some g)], fun g => PyData.strOk g.1 = true, fun _ d => d = .bl true, fun _ => rfl⟩
/-- two equal faults -/
def oFlt : D → D → (D → Prop) → Prop := fun x y Q => ∃ g : Fl, x = eFlt (some g) ∧ y = eFlt (some g) ∧ PyData.strOk g.1 = true ∧ Q (.bl true)
def rFlt (K : PySem.W.Frag) (a b : Addr) (H : Hp) : Prop := ∃ F g, PyData.strOk g.1 = true ∧ Ok K none F H ∧ RepL K none F [eFlt (some g), eFlt (some g)] [.ref a, .ref b]
theorem sim_flt {K : PySem.W.Frag} : OSim K (rEqG (DIns (He.ga K "ShortFault") (rFlt K))) oFlt := fun {dA F H dx dy x y Q Qk} k rx ry q f => by
  obtain ⟨g, rfl, rfl, hg, q⟩ := q
  obtain ⟨a, d1, fs, rfl, h1, _⟩ := id rx
  obtain ⟨b, d2, gs, rfl, h2, _⟩ := id ry
  refine ⟨⟨a, b, d1, d2, fs, gs, rfl, rfl, k.sub _ _ h1, k.sub _ _ h2, F, g, hg, ⟨k.sub, fun _ z => nomatch z⟩, _, _, rfl, flt_rep rx, _, _, rfl, flt_rep ry, rfl⟩, fun H' e => ?_⟩
  refine f F H' (.bl true) _ ⟨fun _ _ z => z, fun c o h _ => e c o h, fun c o z => .inl z, fun c o h => ⟨o, e c o h⟩⟩ ⟨fun c o h => e c o (k.sub c o h), fun a ha => ?_⟩ rfl q
  obtain ⟨h3, l, ns, p, g, m, c, h4, h5, h6⟩ := k.tok a ha
  exact ⟨h3, l, ns, p, g, m, c, e _ _ h4, h5, h6⟩
theorem v_eqF (G : Mh X.prog X.w X.K X.mg X.base k "ShortFault" "__eq__" c_ShortFault_eq) (hr : Room n X.A) (ha : VE X a ta ma) (hb : VE X b tb mb) (hkn : k ≤ n := by decide) : VE X (.Compare a [.Eq] [b] pos) (tOp (rEqG (DIns (He.ga X.K "ShortFault") (rFlt X.K))) ta tb) (vOp oFlt ma mb) :=
  ⟨by
    obtain ⟨f, fd, ps, h1, h2, h3, h4⟩ := G.ex
    have F : FnOk X.prog X.w X.K X.mg X.base CX0 k f fd ps (spEq (rFlt X.K)) := h1.imp fun vs H Q E h => by
      obtain ⟨a, b, rfl, ⟨F, g, hg, k0, r⟩, q⟩ := h
      refine ⟨none, F, g, k0, r, hg, ?_⟩
      rintro F' H' d v e _ rd rfl
      cases rd
      exact q H' fun c o hc => e.keep c o hc fun z => nomatch z
    exact pe_cmpR (op_eqG (rcG_ins (E := E0) F h3.at_ h3.fn h4 pass0) (hr.mono hkn)) ha.pe hb.pe (nomark _), simOp sim_flt ha.sim hb.sim⟩
end
end LV
set_option Elab.async false
set_option linter.all false
set_option maxRecDepth 100000
set_option maxHeartbeats 4000000
namespace LV
open PySem PySem.Spec PyProof.Rows L2
theorem pl_lvl (l : Option Nat) : pl 40 (eLvl l) := by
  cases l <;> trivial
def okF : Option Fl → Prop
  | none => True
  | some f => PyData.strOk f.1 = true
theorem f_ShortFault_eq {P : Program} {w : World} {K : PySem.W.Frag} {mg : Str → Option Value} {base : Heap} (W : Wd K mg) (IC : C8.InsC K (He.ga K "ShortFault")) : Mh P w K mg base 1 "ShortFault" "__eq__" c_ShortFault_eq := by
  refine W.mh 29 (d := HH.d_ShortFault_eq) rfl rfl W.gb.cFault 111 rfl ["self", "other"] rfl rfl (fun _ _ _ _ _ _ us h => by match us, h with | [a0, a1], _ => rfl) fun f fd F => ?_
  have S : FnScope ["self", "other"] ["self", "other"] HH.d_ShortFault_eq.scope := C8.fnScope_by (by decide +kernel)
  have B := W.gb
  refine fn_ok (N := ["self", "other"]) (k := 0) F S rfl (fun cdv A outer s H E hr => ⟨_, (vb_one (vs_ret (v_and (v_isC B.isinstance (W.glo 102 "ShortFault" rfl) IC (vv 1)) (v_and (VCp.ve (v_eq hr (v_fld (vv 0) B.cFault B.aF1) (v_fld (vv 1) B.cFault B.aF1))) (v_one (VCp.ve (v_eq hr (v_fld (vv 0) B.cFault B.aF2) (v_fld (vv 1) B.cFault B.aF2))))))))⟩) ?_
  rintro ⟨x, l⟩ hx
  have hx : PyData.strOk x = true := hx
  (conv => whnf)
  refine ⟨rfl, ?_⟩
  (conv => whnf)
  refine ⟨rfl, _, rfl, ?_⟩
  (conv => whnf)
  refine ⟨rfl, _, rfl, ?_⟩
  (conv => whnf)
  refine ⟨hx, hx, fun h => ?_, fun h => absurd rfl h⟩
  (conv => whnf)
  refine ⟨rfl, _, rfl, ?_⟩
  (conv => whnf)
  refine ⟨rfl, _, rfl, ?_⟩
  (conv => whnf)
  refine ⟨pl_lvl l, pl_lvl l, fun h => ?_, fun h => absurd rfl h⟩
  rfl
def c_law_same : Ct := ⟨2, Option Fl, fun g => [eFlt g, eDue g], fun g => okF g, fun _ d => d = .bl true, fun _ => rfl⟩
theorem f_law_same {P : Program} {w : World} {K : PySem.W.Frag} {mg : Str → Option Value} {base : Heap} (W : Wd K mg) (IC : C8.InsC K (He.ga K "ShortFault")) : Fn P w K mg base 3 "_law_same" c_law_same := by
  refine W.fn 73 (d := HH.d_law_same) rfl rfl 63 rfl ["_law_told", "_law_due_here"] rfl rfl (fun _ _ _ _ _ _ us h => by match us, h with | [a0, a1], _ => rfl) fun f fd F => ?_
  have S : FnScope ["_law_told", "_law_due_here"] ["_law_told", "_law_due_here"] HH.d_law_same.scope := C8.fnScope_by (by decide +kernel)
  have B := W.gb
  have G_ShortFault_eq := f_ShortFault_eq (P := P) (w := w) (base := base) W IC
  have G_ShortFault := f_ShortFault_init (P := P) (w := w) (base := base) W
  refine fn_ok (N := ["_law_told", "_law_due_here"]) (k := 2) F S rfl (fun cdv A outer s H E hr => ⟨_, (vb_cons (vs_if (vt_of (vw_or (vt_cmp (v_is (vv 1) v_non)) (vw_or1 (vt_cmp (v_is (vv 0) v_non)))))
 (vb_one (vs_ret (v_and (VCp.ve (v_is (vv 1) v_non)) (v_one (VCp.ve (v_is (vv 0) v_non))))))
 vb_nil)
 (vb_one (vs_ret (v_and (VCp.ve (v_eq hr (v_fld (vv 0) B.cFault B.aF1) (v_ix (vv 1) v_int))) (v_and (VCp.ve (v_eq hr (v_fld (vv 0) B.cFault B.aF2) (v_ix (vv 1) v_int))) (v_one (v_eqF G_ShortFault_eq hr (vv 0) (v_make G_ShortFault hr (va_cons (v_ix (vv 1) v_int) (va_cons (v_ix (vv 1) v_int) va_nil))))))))))⟩) ?_
  intro g hg
  cases g with
  | none =>
    (conv => whnf)
    rfl
  | some f =>
    obtain ⟨x, l⟩ := f
    have hx : PyData.strOk x = true := hg
    (conv => whnf)
    refine ⟨rfl, _, rfl, ?_⟩
    (conv => whnf)
    refine ⟨_, at_0, ?_⟩
    (conv => whnf)
    refine ⟨hx, hx, fun h => ?_, fun h => absurd rfl h⟩
    (conv => whnf)
    refine ⟨rfl, _, rfl, ?_⟩
    (conv => whnf)
    refine ⟨_, at_1, ?_⟩
    (conv => whnf)
    refine ⟨pl_lvl l, pl_lvl l, fun h => ?_, fun h => absurd rfl h⟩
    (conv => whnf)
    refine ⟨_, at_0, ?_⟩
    (conv => whnf)
    refine ⟨_, at_1, ?_⟩
    refine ⟨(.str x, eLvl l), rfl, trivial, ?_⟩
    rintro _ rfl
    exact ⟨(x, l), rfl, rfl, hx, rfl⟩
theorem sok (x : Str) (h : PyData.strOk x = true) (l : Option Nat) : okF (some (x, l)) := h
def okS : Option Str → Prop
  | none => True
  | some x => PyData.strOk x = true
theorem lvlF_ok (v : Vw) (s : Nat) (ns : List Int) : okS (lvlF v s ns) := by
  unfold lvlF
  repeat' split
  all_goals first | trivial | (show PyData.strOk _ = true; decide +kernel)
theorem fltAt_ok (w : Vw) (p : Pap) (k : Nat) : okS (fltAt w p k) := by
  have h := lvlF_ok w (lvAt p k) (rowAt p k)
  unfold fltAt
  cases e : lvlF w (lvAt p k) (rowAt p k) with
  | some x => rw [e] at h; exact h
  | none =>
    show okS (if _ then _ else _)
    split
    · show PyData.strOk _ = true
      decide +kernel
    · trivial
theorem fltGo_ok (w : Vw) (p : Pap) : ∀ n k, okF (fltGo w p k n)
  | 0, k => trivial
  | n + 1, k => by
    have h := fltAt_ok w p k
    show okF (match fltAt w p k with
      | some x => some (x, some (lvAt p k))
      | none => fltGo w p (k + 1) n)
    cases e : fltAt w p k with
    | some x => rw [e] at h; exact h
    | none => exact fltGo_ok w p n (k + 1)
theorem judge_ok (w : Vw) (p : Pap) : okF (judge w p) := by
  have h := fltGo_ok w p p.pl.length 0
  unfold judge
  split
  · exact sok _ (by decide +kernel) _
  · cases e : fltGo w p 0 p.pl.length with
    | some x => rw [e] at h; exact h
    | none =>
      show okF (if _ then _ else _)
      split
      · exact sok _ (by decide +kernel) _
      · split
        · exact sok _ (by decide +kernel) _
        · split
          · exact sok _ (by decide +kernel) _
          · trivial
theorem shortF_ok (v : Vw) (p : Pap) : okF (shortF v p) := by
  unfold shortF
  split
  · exact sok _ (by decide +kernel) _
  · exact judge_ok _ _
end LV
set_option Elab.async false
set_option linter.all false
set_option maxRecDepth 100000
set_option maxHeartbeats 4000000
/-! LV16: statements over a list that the caller made: slot 0's own list is the caller's, its address stays. -/
namespace LV
open PySem PySem.Spec PyProof.Rows L2
structure Dz where
  nx : Ev → Prop
  rt : Ev → D → Prop
abbrev Vz := Dz → Ev → Prop
/-- slot 0 holds o for ever -/
structure FinZ (K : PySem.W.Frag) (dA : Option Addr) (F0 H0 : Hp) (o : Option (Option V)) (D : Dz) (Dk : Ends) : Prop where
  nx : ∀ F' H' σ' Γ', Rel K dA F0 H0 F' H' σ' Γ' → σ'[0]? = o → D.nx Γ' → Dk.nx σ' H'
  rt : ∀ F' H' σ' Γ' d v, Rel K dA F0 H0 F' H' σ' Γ' → σ'[0]? = o → Rep K dA F' d v → D.rt Γ' d → Dk.rt v H'
structure ZS (X : Cx) (st : Stmt) (t : TS) (m : Vz) : Prop where
  ps : PS X st t
  sim : ∀ {dA F0 H0 F H σ Γ o D Dk}, Rel X.K dA F0 H0 F H σ Γ → σ[0]? = o → m D Γ → FinZ X.K dA F0 H0 o D Dk → t Dk σ H
structure ZB (X : Cx) (st : List Stmt) (t : TS) (m : Vz) : Prop where
  pss : PSs X st t
  sim : ∀ {dA F0 H0 F H σ Γ o D Dk}, Rel X.K dA F0 H0 F H σ Γ → σ[0]? = o → m D Γ → FinZ X.K dA F0 H0 o D Dk → t Dk σ H
section
variable {X : Cx} {e a b c : Expr} {es : List Expr} {t ta tb tc te : TE} {m ma mb mc me : Vm} {pos p : Pos} {ta' : TA} {na : Va} {st : Stmt} {sts sts' : List Stmt} {ts tu : TS} {ms mu : Vz} {tt : TT} {mt : Vt}
theorem zb_nil : ZB X [] tNext (fun D Γ => D.nx Γ) := ⟨pss_nil, fun {dA F0 H0 F H σ Γ o D Dk} R h q f => f.nx F H σ Γ R h q⟩
theorem zb_cons (h1 : ZS X st ts ms) (h2 : ZB X sts tu mu) : ZB X (st :: sts) (tSeq ts tu) (fun D Γ => ms { D with nx := mu D } Γ) :=
  ⟨pss_cons h1.ps h2.pss, fun {dA F0 H0 F H σ Γ o D Dk} R h q f => h1.sim R h q ⟨fun F' H' σ' Γ' R' h' q' => h2.sim R' h' q' f, f.rt⟩⟩
theorem zb_one (h1 : ZS X st ts ms) : ZB X [st] ts ms := ⟨pss_one h1.ps, h1.sim⟩
theorem zs_ret (h : VE X e te me) : ZS X (.Return (some e) pos) (tRet te) (fun D Γ => me Γ (D.rt Γ)) :=
  ⟨ps_ret h.pe, fun {dA F0 H0 F H σ Γ o D Dk} R h0 q f => h.sim R q fun F1 H1 d v e1 k1 r1 q1 => f.rt F1 H1 σ Γ d v (R.step e1 k1) h0 r1 q1⟩
theorem zs_if (hc : VT X c tt mt) (ha : ZB X sts ts ms) (hb : ZB X sts' tu mu) : ZS X (.If c sts sts' pos) (tIfS tt ts tu) (fun D Γ => mt Γ fun b => if b = true then ms D Γ else mu D Γ) :=
  ⟨ps_if hc.pt ha.pss hb.pss, fun {dA F0 H0 F H σ Γ o D Dk} R h q f => hc.sim R q fun F1 H1 b e1 k1 q1 => by
    cases b with
    | true =>
      have q1 : ms D Γ := q1
      exact ha.sim (R.step e1 k1) h q1 f
    | false =>
      have q1 : mu D Γ := q1
      exact hb.sim (R.step e1 k1) h q1 f⟩
theorem zs_set {i : Nat} {x : Str} {pos' : Pos} (hN : X.N.Nodup) (he : VE X e te me) (hi : X.N[i + 1]? = some x := by rfl) (hx : Loc X.env.scope x := by first | exact Or.inl rfl | exact Or.inr rfl) (hs : swapsWith e (some (.Name x pos')) pos.line X.env = pure false := by rfl)
    (hf : X.fn x = true ∨ X.env.scope.names.lookup x = some .local := by first | exact .inl rfl | exact .inr rfl | assumption) : ZS X (.Assign [.Name x pos'] e pos) (tAsg te (gName (i + 1))) (fun D Γ => me Γ fun d => D.nx (Γ.set (i + 1) (.im d))) :=
  ⟨ps_set hN hi hx he.pe hs hf, fun {dA F0 H0 F H σ Γ o D Dk} R h q f => he.sim R q fun F1 H1 d v e1 k1 r1 q1 => f.nx F1 H1 _ _ ((R.step e1 k1).setIm (i + 1) r1) (by rw [List.getElem?_set_ne (Nat.succ_ne_zero i)]; exact h) q1⟩
theorem zs_setIx (i : Nat) {x : Str} {q pos' : Pos} {tk tv : TE} {mk mv : Vm} {kx vx : Expr} (hk : VE X kx tk mk) (hv : VE X vx tv mv) (hN : X.N[i]? = some x := by rfl) (hvi : Vis X.env.scope x := by first | exact Or.inl rfl | exact Or.inr (Or.inl rfl) | exact Or.inr (Or.inr rfl)) (hd : (x == ("__debug__" : Str)) = false := by decide)
    (hcd : (x == ("__classdict__" : Str)) = false := by decide)
    (ha : ∀ v, assign (.Subscript (.Name x q) kx pos') X.env v = (do
      let ov ← holding [v] (eval (.Name x q) X.env)
      let iv ← holding [v, ov] (eval kx X.env)
      standAt pos'
      holding [v, ov, iv] (setItem ov iv v)
      release [v, ov, iv] []) := by intro _; rfl)
    (hs : swapsWithSole [.Subscript (.Name x q) kx pos'] vx pos.line X.env = pure false := by rfl) (hw : swappedStores [.Subscript (.Name x q) kx pos'] vx X.env = pure none := by rfl)
    (h1 : (assignEach [.Subscript (.Name x q) kx pos'] X.env).map (·.2) = [assign (.Subscript (.Name x q) kx pos') X.env] := by rfl) :
    ZS X (.Assign [.Subscript (.Name x q) kx pos'] vx pos) (tAsg tv (gSub (tVar i) tk rSetL)) (fun D Γ => vSetIx i mk mv { nx := D.nx, rt := fun _ => False } Γ) :=
  ⟨(vs_setIx (X := X) i hk hv hN hvi hd hcd ha hs hw h1).ps, fun {dA F0 H0 F H σ Γ o D Dk} R h0 q f => by
    unfold vSetIx at q
    split at q
    · rename_i xs h
      obtain ⟨a, vs, h1, h2, h3, h4, _⟩ := R.getOw h
      refine hv.sim R q fun F1 H1 d v e1 k1 r1 q1 => ⟨.ref a, h1, hk.sim (R.step e1 k1) q1 fun F2 H2 dy y e2 k2 r2 q2 => ?_⟩
      cases dy <;> first | exact False.elim q2 | skip
      rename_i k
      obtain ⟨j, hj, q2⟩ := q2
      · have h5 : H2 a = some (.lst vs) := e2.keep _ _ (e1.keep _ _ h2 h4) h4
        refine ⟨a, vs, k, j, rfl, r2, h5, by rw [h3.length]; exact hj, f.nx F2 _ σ _ ((R.step (e1.trans e2) k2).write (s' := .ow (xs.set j d)) h fun own o g1 go g2 => ?_) h0 q2⟩
        obtain ⟨g3, g4⟩ := ow_addr h1 g1 h5 g2
        exact ⟨g4, a, vs.set j v, g3, g4, upd_same, RepL.set j (RepL.mono (e1.ff.trans e2.ff) _ _ h3) (Rep.mono e2.ff _ _ r1)⟩
    · exact q.elim⟩
end
theorem rep_ints {K : PySem.W.Frag} {dA : Option Addr} {F : Hp} : ∀ {ns : List Int} {vs : List V}, RepL K dA F (ns.map D.int) vs → vs = ns.map V.int
  | [], _, h => h
  | n :: ns, _, ⟨v, r, e, h1, h2⟩ => by
    rw [e, h1, rep_ints (ns := ns) h2] <;> rfl
theorem ints_rep {K : PySem.W.Frag} {dA : Option Addr} {F : Hp} : ∀ ns : List Int, RepL K dA F (ns.map D.int) (ns.map V.int)
  | [] => rfl
  | n :: ns => ⟨_, _, rfl, rfl, ints_rep ns⟩
/-- the draws' object as a list -/
def dwD (ns : List Int) (p g m c : Int) : List D := [.lst (ns.map .int), .int p, .int g, .int m, .int c]
def c_law_draw : Ct := ⟨2, Int, fun m => [.tok, .int m], fun m => m < 1073741824, fun m d => ∃ r : Nat, d = .int r ∧ (r = 0 ∨ (r : Int) < m), fun _ => rfl⟩
theorem draw_ok {P : Program} {w : World} {K : PySem.W.Frag} {mg : Str → Option Value} {base : Heap} {name qual : Str} {params : Arguments} {body : List Stmt} {scope : Scope} {dvs : List V} {kws : List (Str × V)} {f : Addr} {fd : FuncData} {x0 x1 : Str} {N : List Str} {k : Nat} {m : Vz}
    (F : FunD K name qual params body scope dvs kws f fd) (S : FnScope (x0 :: x1 :: N) [x0, x1] scope)
    (hb : ∀ (cdv : Value) (A : Around) (outer : List Env) (s : Shared) (H : Hp) (E : XK), Room k (A.deeper (envOfC qual scope s.heap.objs.size f cdv)) → ∃ t, ZB (cxd P w K mg base (x0 :: x1 :: N) qual scope f cdv A outer s H E) body t m)
    (hm : ∀ (many : Int) (ns : List Int) (p g mx c : Int), many < 1073741824 → 0 ≤ p → m { nx := fun _ => False, rt := fun Γ d => ((∃ (ns : List Int) (p g mx c : Int), Γ[0]? = some (.ow (dwD ns p g mx c)) ∧ 0 ≤ p) ∧ ∃ r : Nat, d = .int r ∧ (r = 0 ∨ (r : Int) < many)) } (.ow (dwD ns p g mx c) :: .im (.int many) :: List.replicate N.length Sl.no)) :
    FnOk P w K mg base CX0 (k + 1) f fd [x0, x1] (spOf K c_law_draw) := by
  refine F.ok S (fun vs H Q E h => ?_) fun cdv A outer s H vs Q E hr h => ?_
  · obtain ⟨dA, F0, g, _, r, _⟩ := h
    rw [r.length] <;> rfl
  · obtain ⟨dA, F0, many, k0, r, hp, q⟩ := h
    obtain ⟨v0, r0, rfl, ⟨a, rfl, hdA⟩, v1, r1, rfl, hv1, hr1⟩ := r
    cases hv1
    cases hr1
    obtain ⟨fn, l, ns, p, g, mx, c, ha, hl, hp0⟩ := k0.tok a hdA
    obtain ⟨t, B⟩ := hb cdv A outer s H E hr
    have k1 : Ok K none F0 H := ⟨k0.sub, fun _ z => nomatch z⟩
    have kH : ∀ {c : Addr} {o : HO}, (if c = a then none else H c) = some o → H c = some o := fun {c o} z => by
      split at z
      · cases z
      · exact z
    have e0 : Ext none F0 (fun c => if c = a then none else H c) F0 H := ⟨fun _ _ z => z, fun c o z _ => kH z, fun c o z => .inl z, fun c o z => ⟨o, kH z⟩⟩
    have R0 : Rel K none F0 H F0 H (L2.start (x0 :: x1 :: N) [.non, .int many]) (entry (x0 :: x1 :: N) [.non, .int many]) := rel_entry k1 ⟨_, _, rfl, rfl, _, _, rfl, rfl, rfl⟩ (by simp)
    have R : Rel K none F0 (fun c => if c = a then none else H c) F0 H (L2.start (x0 :: x1 :: N) [.ref a, .int many]) (.ow (dwD ns p g mx c) :: .im (.int many) :: List.replicate N.length Sl.no) := by
      refine ⟨k1, e0, by simp [L2.start], fun b => if b = a then some 0 else none, fun b i hb => ?_, fun i s hs => ?_⟩
      · have hb : (if b = a then some 0 else none) = some i := hb
        by_cases e : b = a
        · rw [if_pos e] at hb
          cases hb
          subst e
          exact ⟨⟨_, ha, fun _ z => nomatch z⟩, fn, if_pos rfl, fun z => nomatch z⟩
        · rw [if_neg e] at hb
          cases hb
      · cases i with
        | zero =>
          cases hs
          exact ⟨_, rfl, a, _, rfl, if_pos rfl, ha, ⟨_, _, rfl, ⟨l, _, rfl, hl, ints_rep ns⟩, _, _, rfl, rfl, _, _, rfl, rfl, _, _, rfl, rfl, _, _, rfl, rfl, rfl⟩⟩
        | succ i =>
          cases i with
          | zero =>
            cases hs
            exact ⟨_, rfl, _, rfl, rfl⟩
          | succ i =>
            have hs : (List.replicate N.length Sl.no)[i]? = some s := hs
            have hi : i < N.length := by
              have := (List.getElem?_eq_some_iff.mp hs).1
              simpa using this
            rw [List.getElem?_replicate, if_pos hi] at hs
            cases hs
            refine ⟨none, ?_, trivial⟩
            show (List.map some [V.ref a, V.int many] ++ List.replicate _ none)[i + 2]? = _
            rw [List.getElem?_append_right (by simp), List.getElem?_replicate, if_pos (by simp; omega)]
    refine ⟨t, B.pss.nox, B.sim (o := some (some (.ref a))) R rfl (hm many ns p g mx c hp hp0) ⟨fun _ _ _ _ _ _ z => z.elim, fun F' H' σ' Γ' d v R' h' rd ⟨⟨ns', p', g', mx', c', hΓ, hp'⟩, r, hd, hrr⟩ => ?_⟩⟩
    subst hd
    cases rd
    obtain ⟨own, ho, hs⟩ := R'.sl
    obtain ⟨o, h1, a', vs, h2, h3, h4, h5⟩ := hs 0 _ hΓ
    rw [h'] at h1
    cases h1
    cases h2
    obtain ⟨_, g1, _, _⟩ := ho a 0 h3
    have hd : Draw K F' H' a := by
      obtain ⟨v0, r0, rfl, ⟨l', vs', rfl, q1, q2⟩, v1, r1, rfl, e1, v2, r2, rfl, e2, v3, r3, rfl, e3, v4, r4, rfl, e4, e5⟩ := h5
      cases e1
      cases e2
      cases e3
      cases e4
      cases e5
      rw [rep_ints q2] at q1
      exact ⟨l', ns', p', g', mx', c', h4, q1, hp'⟩
    refine q F' H' (.int r) (.int r) ⟨R'.ext.ff, fun c o hc hn => ?_, fun c o hc => ?_, fun c o hc => ?_⟩ ⟨R'.ok.sub, fun b hb => ?_⟩ rfl ⟨r, rfl, hrr⟩
    · have ne : c ≠ a := fun z => hn (by rw [z]; exact hdA)
      exact R'.ext.keep c o (by show (if c = a then none else H c) = _; rw [if_neg ne]; exact hc) fun z => nomatch z
    · have ne : c ≠ a := fun z => by rw [z, g1] at hc; cases hc
      rcases R'.ext.new c o hc with z | z | ⟨_, xs, z⟩
      · exact .inl z
      · exact .inr (.inl (by rwa [if_neg ne] at z))
      · refine .inr (.inr ⟨fun z => ne ?_, xs, kH z⟩)
        rw [hdA] at z
        exact (Option.some.inj z).symm
    · by_cases ne : c = a
      · exact ⟨_, ne ▸ h4⟩
      · exact R'.ext.dom c o (by show (if c = a then none else H c) = _; rw [if_neg ne]; exact hc)
    · rw [hdA] at hb
      cases hb
      exact ⟨g1, hd⟩
end LV
set_option Elab.async false
set_option linter.all false
set_option maxRecDepth 100000
set_option maxHeartbeats 4000000
namespace LV
open PySem PySem.Spec PyProof.Rows L2
theorem draw_mod {x many : Int} (h : 1 < many) : ∃ r : Nat, (x % many) = (r : Int) ∧ (r = 0 ∨ (r : Int) < many) := by
  have h1 := Int.emod_nonneg x (show many ≠ 0 by omega)
  have h2 := Int.emod_lt_of_pos x (show 0 < many by omega)
  exact ⟨(x % many).toNat, by omega, .inr (by omega)⟩
theorem f_law_draw {P : Program} {w : World} {K : PySem.W.Frag} {mg : Str → Option Value} {base : Heap} (W : Wd K mg) : Fn P w K mg base 1 "_law_draw" c_law_draw := by
  refine W.fn 34 (d := HH.d_law_draw) rfl rfl 24 rfl ["_law_d", "_law_many"] rfl rfl (fun _ _ _ _ _ _ us h => by match us, h with | [a0, a1], _ => rfl) fun f fd F => ?_
  have S : FnScope ["_law_d", "_law_many", "_law_cell", "_law_found"] ["_law_d", "_law_many"] HH.d_law_draw.scope := C8.fnScope_by (by decide +kernel)
  have B := W.gb
  refine draw_ok (k := 0) F S (fun cdv A outer s H E hr => ⟨_, (zb_cons (zs_if (vt_cmp (v_lt (vv 1) v_int))
 (zb_one (zs_ret v_int))
 zb_nil)
 (zb_cons (zs_if (vt_of (vw_and (vt_cmp (v_lt (v_ixO 0 v_int) v_int)) (vw_and1 (vt_cmp (v_lt (v_ixO 0 v_int) (v_len B.len (v_ixO 0 v_int)))))))
 (zb_cons (zs_set (i := 1) S.nd (v_ix (v_ixO 0 v_int) (v_ixO 0 v_int)))
 (zb_cons (zs_setIx 0 v_int (v_add (v_ixO 0 v_int) v_int))
 (zb_one (zs_if (vt_cmp (v_ge (vv 2) (v_pow v_int v_int)))
 (zb_one (zs_setIx 0 v_int (v_sub (vv 2) (v_pow v_int v_int))))
 (zb_one (zs_setIx 0 v_int (v_mod (v_intof B.int (v_add (v_add (v_mul (v_ixO 0 v_int) v_int) (v_mod (v_intof B.int (vv 2)) v_int)) v_int)) v_int)))))))
 zb_nil)
 (zb_cons (zs_if (vt_cmp (v_gt (v_ixO 0 v_int) v_int))
 (zb_cons (zs_set (i := 2) S.nd (v_mod (v_intof B.int (v_ixO 0 v_int)) (vv 1)))
 (zb_cons (zs_setIx 0 v_int (v_div (v_ixO 0 v_int) (vv 1)))
 (zb_one (zs_ret (vv 3)))))
 zb_nil)
 (zb_cons (zs_setIx 0 v_int (v_add (v_ixO 0 v_int) v_int))
 (zb_cons (zs_setIx 0 v_int (v_mod (v_intof B.int (v_add (v_add (v_mul (v_ixO 0 v_int) v_int) (v_mul (v_ixO 0 v_int) v_int)) v_int)) v_int))
 (zb_one (zs_ret (v_mod (v_intof B.int (v_div (v_ixO 0 v_int) v_int)) (vv 1)))))))))⟩) ?_
  intro many ns p g mx c hm hp
  (conv => whnf)
  refine ⟨fun q1 => ?_, fun q1 => ?_⟩
  · (conv => whnf)
    exact ⟨⟨ns, p, g, mx, c, rfl, hp⟩, 0, rfl, .inl rfl⟩
  (conv => whnf)
  have q1' : 1 < many := by omega
  refine ⟨_, at_2, ?_⟩
  (conv => whnf)
  refine (fun (hh : ∀ (ns : List Int) (p g mx c : Int) (s2 s3 : Sl), 0 ≤ p → (?T : Ev → Prop) (.ow (dwD ns p g mx c) :: .im (.int many) :: s2 :: s3 :: [])) => ?main) ?tail
  case main =>
    refine ⟨fun q2 => ?_, fun q2 => ?_⟩
    · (conv => whnf)
      refine ⟨_, at_1, ?_⟩
      (conv => whnf)
      refine ⟨_, at_0, ?_⟩
      (conv => whnf)
      refine ⟨fun q3 => ?_, fun q3 => ?_⟩
      · rw [List.length_map] at q3
        (conv => whnf)
        refine ⟨_, at_0, ?_⟩
        (conv => whnf)
        refine ⟨_, at_1, ?_⟩
        (conv => whnf)
        refine ⟨_, (by rw [show p = ((p.toNat : Nat) : Int) by omega]; exact at_int (by omega)), ?_⟩
        (conv => whnf)
        refine ⟨_, at_1, ?_⟩
        (conv => whnf)
        refine ⟨1, rfl, ?_⟩
        have hp2 : 0 ≤ p + 1 := by omega
        (conv => whnf)
        refine ⟨⟨by decide, by decide, by decide⟩, ?_⟩
        (conv => whnf)
        refine ⟨fun q4 => ?_, fun q4 => ?_⟩
        · (conv => whnf)
          refine ⟨⟨by decide, by decide, by decide⟩, ?_⟩
          (conv => whnf)
          refine ⟨2, rfl, ?_⟩
          exact hh ns (p + 1) _ mx c _ _ hp2
        · (conv => whnf)
          refine ⟨_, at_3, ?_⟩
          (conv => whnf)
          refine ⟨.inr (by decide), ?_⟩
          (conv => whnf)
          refine ⟨(by decide : (0 : Int) < 2147483647), ?_⟩
          (conv => whnf)
          refine ⟨(by decide : (0 : Int) < 2147483647), ?_⟩
          (conv => whnf)
          refine ⟨3, rfl, ?_⟩
          exact hh ns (p + 1) g _ c _ _ hp2
      · exact hh ns p g mx c _ _ hp
    · exact hh ns p g mx c _ _ hp
  case tail =>
    intro ns p g mx c s2 s3 hp
    (conv => whnf)
    refine ⟨_, at_2, ?_⟩
    (conv => whnf)
    refine ⟨fun q2 => ?_, fun q2 => ?_⟩
    · (conv => whnf)
      refine ⟨_, at_2, ?_⟩
      (conv => whnf)
      refine ⟨by omega, ?_⟩
      (conv => whnf)
      refine ⟨_, at_2, ?_⟩
      (conv => whnf)
      refine ⟨⟨by omega, by omega⟩, ?_⟩
      (conv => whnf)
      refine ⟨2, rfl, ?_⟩
      (conv => whnf)
      obtain ⟨r, e, hr⟩ := draw_mod (x := g) q1'
      exact ⟨⟨ns, p, g / many, mx, c, rfl, hp⟩, r, congrArg D.int e, hr⟩
    · (conv => whnf)
      refine ⟨_, at_4, ?_⟩
      (conv => whnf)
      refine ⟨4, rfl, ?_⟩
      (conv => whnf)
      refine ⟨_, at_3, ?_⟩
      (conv => whnf)
      refine ⟨.inr (by decide), ?_⟩
      (conv => whnf)
      refine ⟨_, at_4, ?_⟩
      (conv => whnf)
      refine ⟨.inr (by decide), ?_⟩
      (conv => whnf)
      refine ⟨(by decide : (0 : Int) < 2147483647), ?_⟩
      (conv => whnf)
      refine ⟨3, rfl, ?_⟩
      (conv => whnf)
      refine ⟨_, at_3, ?_⟩
      (conv => whnf)
      refine ⟨⟨by decide, by decide⟩, ?_⟩
      (conv => whnf)
      refine ⟨by omega, ?_⟩
      (conv => whnf)
      refine ⟨⟨ns, p, _, _, _, rfl, hp⟩, ?_⟩
      obtain ⟨r, e, hr⟩ := draw_mod q1'
      exact ⟨r, congrArg D.int e, hr⟩
end LV
set_option Elab.async false
set_option linter.all false
set_option maxRecDepth 100000
set_option maxHeartbeats 4000000
/-! M11: sorted lists of nested data. -/
namespace LV
open PySem PySem.Spec PyProof.Rows L2 PySem.W
theorem dlt_irr (x : D) : dlt x x = false := (listOrd itemOrd).irrefl _
theorem dlt_trans {x y z : D} (h1 : dlt x y = true) (h2 : dlt y z = true) : dlt x z = true := (listOrd itemOrd).trans _ _ _ h1 h2
theorem dle_of_lt {x y : D} (h : dlt x y = true) : dle x y = true := by
  rw [dle_eq]
  cases e : dlt y x with
  | false => rfl
  | true =>
    have := dlt_trans h e
    rw [dlt_irr] at this
    cases this
theorem dle_iff {x y : D} : dle x y = true ↔ dlt y x = false := by
  rw [dle_eq]
  cases dlt y x <;> simp
theorem dle_trans {x y z : D} (h1 : dle x y = true) (h2 : dle y z = true) : dle x z = true := by
  rw [dle_iff] at *
  exact KeyOrd.kle_trans (O := listOrd itemOrd) h1 h2
theorem dle_total (x y : D) : (dle x y || dle y x) = true := by
  cases e : dle x y with
  | true => rfl
  | false =>
    rw [dle_eq] at e
    have e : dlt y x = true := by
      cases q : dlt y x with
      | true => rfl
      | false => rw [q] at e; cases e
    rw [Bool.false_or, dle_of_lt e]
theorem sort_pw (xs : List D) : (xs.mergeSort dle).Pairwise fun a b => dle a b = true := List.pairwise_mergeSort (le := dle) (fun _ _ _ => dle_trans) dle_total xs
/-- antisymmetry -/
theorem dle_anti {x y : D} (hx : pl 40 x) (hy : pl 40 y) (al : alike (toP x) (toP y) = true) (h1 : dle x y = true) (h2 : dle y x = true) : x = y := by
  rw [dle_iff] at h1 h2
  have e : keyToks (toP x) = keyToks (toP y) := (listOrd itemOrd).total _ _ h2 h1
  refine (pl_eqv 40 x y hx hy).mp ?_
  cases q : PyData.eqv (toP x) (toP y) with
  | true => rfl
  | false =>
    have z := (toks_eqv _ _ al).2 q
    have z1 := z [] [Sum.inl 0]
    rw [e, lex_pre] at z1
    have z2 : PyProof.Rows.lexLt itemOrd (keyToks (toP y)) (keyToks (toP y)) = false := lex_irrefl _
    rw [z2] at z1
    exact absurd (show PyProof.Rows.lexLt itemOrd [] [Sum.inl 0] = true from rfl) (by rw [z1]; exact Bool.false_ne_true)
theorem dlt_of {x y : D} (hx : pl 40 x) (hy : pl 40 y) (al : alike (toP x) (toP y) = true) (h : dle x y = true) (ne : x ≠ y) : dlt x y = true := by
  cases q : dlt x y with
  | true => rfl
  | false => exact absurd (dle_anti hx hy al h (dle_iff.mpr q)) ne
theorem lt_le_trans {x y z : D} (h1 : dlt x y = true) (h2 : dle y z = true) : dlt x z = true := by
  rw [dle_iff] at h2
  exact KeyOrd.klt_of_klt_of_kle (O := listOrd itemOrd) h1 h2
/-- a family that can be sorted -/
structure Fam {α : Type} (en : α → D) : Prop where
  pl : ∀ a, pl 40 (en a)
  al : ∀ a b, alike (toP (en a)) (toP (en b)) = true
  tp : ∀ a, ∃ x r, toP (en a) = .tuple (x :: r)
theorem Fam.sb {α : Type} {en : α → D} (f : Fam en) (xs : List α) : Sb (xs.map en) where
  pl := fun x hx => by
    obtain ⟨a, _, rfl⟩ := List.mem_map.mp hx
    exact f.pl a
  al := fun x hx y hy => by
    obtain ⟨a, _, rfl⟩ := List.mem_map.mp hx
    obtain ⟨b, _, rfl⟩ := List.mem_map.mp hy
    exact f.al a b
  ok := .inl fun d hd => by
    obtain ⟨x, hx, rfl⟩ := List.mem_map.mp hd
    obtain ⟨a, _, rfl⟩ := List.mem_map.mp hx
    exact f.tp a
def srt {α : Type} (en : α → D) (xs : List α) : List α := xs.mergeSort fun a b => dle (en a) (en b)
theorem srt_map {α : Type} (en : α → D) (xs : List α) : (xs.map en).mergeSort dle = (srt en xs).map en := (List.map_mergeSort (r := fun a b => dle (en a) (en b)) (s := dle) (f := en) fun _ _ _ _ => rfl).symm
theorem srt_perm {α : Type} (en : α → D) (xs : List α) : (srt en xs).Perm xs := List.mergeSort_perm ..
theorem srt_len {α : Type} (en : α → D) (xs : List α) : (srt en xs).length = xs.length := (srt_perm en xs).length_eq
theorem srt_mem {α : Type} {en : α → D} {xs : List α} {x : α} : x ∈ srt en xs ↔ x ∈ xs := (srt_perm en xs).mem_iff
theorem srt_pw {α : Type} (en : α → D) (xs : List α) : (srt en xs).Pairwise fun a b => dle (en a) (en b) = true := List.pairwise_mergeSort (le := fun a b => dle (en a) (en b)) (fun _ _ _ => dle_trans) (fun _ _ => dle_total _ _) xs
/-- strict, where no two are alike -/
theorem srt_lt {α : Type} {en : α → D} (f : Fam en) {xs : List α} (h : xs.Pairwise fun a b => en a ≠ en b) : (srt en xs).Pairwise fun a b => dlt (en a) (en b) = true := by
  have h1 : (srt en xs).Pairwise fun a b => en a ≠ en b := (srt_perm en xs).symm.pairwise h fun h z => h z.symm
  exact List.Pairwise.imp₂ (fun a b p q => dlt_of (f.pl a) (f.pl b) (f.al a b) p q) (srt_pw en xs) h1
theorem fam_S : Fam eS := ⟨pl_eS, alike_S, fun _ => ⟨_, _, rfl⟩⟩
theorem fam_N : Fam eN := ⟨pl_eN, fun a b => by rw [pN_eq, pN_eq]; exact alike_N a b, fun _ => ⟨_, _, rfl⟩⟩
theorem pl_eH (h : Hr) : pl 40 (eH h) := fun x hx => by
  rcases List.mem_cons.mp hx with rfl | hx
  · trivial
  · rw [List.mem_singleton.mp hx]
    intro y hy
    rcases List.mem_cons.mp hy with rfl | hy
    · trivial
    · rw [List.mem_singleton.mp hy]
      trivial
theorem fam_H : Fam eH := ⟨pl_eH, fun a b => alike_H a b, fun _ => ⟨_, _, rfl⟩⟩
/-- an order of heard pairs goes by the number first -/
theorem le_H {a b : Hr} (h : dle (eH a) (eH b) = true) : a.1 ≤ b.1 := by
  rw [dle_iff] at h
  unfold dlt at h
  rw [pH_eq, pH_eq] at h
  unfold pH at h
  rw [dataLt_pair (by simp [alike]) (alike_A _ _), eqv_int, dataLt_int] at h
  refine Nat.le_of_not_lt fun z => ?_
  rw [if_neg (by simp; omega)] at h
  have := of_decide_eq_false h
  omega
theorem srt_asc {hs : List Hr} (h : (hs.map (·.1)).Nodup) : ((srt eH hs).map (·.1)).Pairwise (· < ·) := by
  have h1 : ((srt eH hs).map (·.1)).Nodup := ((srt_perm eH hs).map _).nodup_iff.mpr h
  rw [List.pairwise_map]
  have h2 : (srt eH hs).Pairwise fun a b => a.1 ≠ b.1 := List.pairwise_map.mp h1
  exact List.Pairwise.imp₂ (fun a b p q => Nat.lt_of_le_of_ne (le_H p) q) (srt_pw eH hs) h2
end LV
set_option Elab.async false
set_option linter.all false
set_option maxRecDepth 100000
set_option maxHeartbeats 4000000
namespace LV
open PySem PySem.Spec PyProof.Rows L2
theorem dr_lt {r : Nat} {m : Int} (h : r = 0 ∨ (r : Int) < m) (hm : 0 < m) : (r : Int) < m := by omega
theorem rng_eI (n : Nat) : rng 0 n = (List.range n).map eI := by
  unfold rng
  refine List.map_congr_left fun i _ => ?_
  show D.int (0 + (i : Int)) = D.int i
  rw [Int.zero_add]
theorem erase_map {α β : Type} (f : α → β) : ∀ (xs : List α) (i : Nat), (xs.map f).eraseIdx i = (xs.eraseIdx i).map f
  | [], _ => rfl
  | _ :: _, 0 => rfl
  | x :: xs, i + 1 => by
    show f x :: (xs.map f).eraseIdx i = f x :: (xs.eraseIdx i).map f
    rw [erase_map f xs i]
def c_law_order : Ct := ⟨2, Nat, fun n => [.tok, .int n], fun n => n ≤ 100, fun n d => ∃ ns : List Nat, d = eLn ns ∧ ns.length = n ∧ ∀ x ∈ ns, x < n, fun _ => rfl⟩
theorem f_law_order {P : Program} {w : World} {K : PySem.W.Frag} {mg : Str → Option Value} {base : Heap} (W : Wd K mg) : Fn P w K mg base 2 "_law_order" c_law_order := by
  refine W.fn 35 (d := HH.d_law_order) rfl rfl 25 rfl ["_law_d", "_law_n"] rfl rfl (fun _ _ _ _ _ _ us h => by match us, h with | [a0, a1], _ => rfl) fun f fd F => ?_
  have S : FnScope ["_law_d", "_law_n", "_law_left", "_law_found", "_law_k"] ["_law_d", "_law_n"] HH.d_law_order.scope := C8.fnScope_by (by decide +kernel)
  have B := W.gb
  have G_law_draw := f_law_draw (P := P) (w := w) (base := base) W
  refine fn_ok (N := ["_law_d", "_law_n", "_law_left", "_law_found", "_law_k"]) (k := 1) F S rfl (fun cdv A outer s H E hr => ⟨_, (vb_cons (vs_own (i := 2) S.nd (vl_listR rfl B.list B.range (vv 1)))
 (vb_cons (vs_own (i := 3) S.nd (vl_lst va_nil))
 (vb_cons (vs_for PassesOwn.never rfl (vi_rng1 B.range (va_cons (vv 1) va_nil)) (vg_name 4 S.nd)
 (vb_one (vs_appX 3 (vx_popAt 2 (v_call G_law_draw hr (va_cons (vv 0) (va_cons (v_lenO 2 B.len) va_nil)))))))
 (vb_frz 3 (vb_one (vs_ret (vv 3)))))))⟩) ?_
  intro (n : Nat) (hn : n ≤ 100)
  (conv => whnf)
  refine ⟨by omega, by omega, ?_⟩
  rw [Int.toNat_natCast, rng_eI]
  (conv => whnf)
  refine ⟨by unfold small; omega, ?_⟩
  show wpFor _ _ _ (rng 0 _) _
  rw [Int.toNat_natCast]
  refine wpFor_rng 0 n (fun i Γ => ∃ (ls fs : List Nat) (a : Sl), Γ = [.im .tok, .im (.int n), .ow (ls.map eI), .ow (fs.map eI), a] ∧ ls.length = n - i ∧ fs.length = i ∧ (∀ x ∈ ls, x < n) ∧ ∀ x ∈ fs, x < n) ?_ ?_ ⟨List.range n, [], _, rfl, by simp, rfl, fun x hx => List.mem_range.mp hx, fun x hx => absurd hx List.not_mem_nil⟩
  · rintro i Γ N hi ⟨ls, fs, a, rfl, h1, h2, h3, h4⟩ hN
    (conv => whnf)
    refine ⟨⟨_, rfl⟩, _, rfl, ?_⟩
    have hlm : (ls.map eI).length = ls.length := List.length_map _
    refine ⟨(((ls.map eI).length : Nat) : Int), rfl, (by show (((ls.map eI).length : Nat) : Int) < _; omega), ?_⟩
    rintro _ ⟨r, rfl, hr⟩
    have hr := dr_lt hr (by show (0 : Int) < ((ls.map eI).length : Nat); omega)
    have hr' : r < ls.length := by
      have hr : (r : Int) < ((ls.map eI).length : Nat) := hr
      omega
    refine ⟨r, eI ls[r], rfl, by rw [List.getElem?_map, List.getElem?_eq_getElem hr'] <;> rfl, by rw [List.length_map]; omega, ?_⟩
    refine ⟨_, rfl, by rw [List.length_map]; omega, ?_⟩
    refine hN _ ⟨ls.eraseIdx r, fs ++ [ls[r]], .im (.int ((0 : Int) + (i : Nat))), ?_, ?_, ?_, ?_, ?_⟩
    · rw [List.map_append, ← erase_map] <;> rfl
    · rw [List.length_eraseIdx_of_lt hr']
      omega
    · rw [List.length_append, h2] <;> rfl
    · exact fun x hx => h3 x (List.mem_of_mem_eraseIdx hx)
    · intro x hx
      rcases List.mem_append.mp hx with hx | hx
      · exact h4 x hx
      · rw [List.mem_singleton.mp hx]
        exact h3 _ (List.getElem_mem hr')
  · rintro Γ ⟨ls, fs, a, rfl, h1, h2, h3, h4⟩
    (conv => whnf)
    exact ⟨fs, rfl, h2, h4⟩
/-- a strength -/
def pSm (a : Amt) : Prop := pP 17 a ∧ Int.gcd a.1 a.2 = 1
theorem psm {a b : Int} (h1 : 0 < a) (h2 : 0 < b) (h3 : a < 131072) (h4 : b < 131072) (h : Int.gcd a b = 1) : pSm (a, b) := ⟨⟨h1, h2, by show a.natAbs < 2 ^ 17; omega, by show b.natAbs < 2 ^ 17; omega⟩, h⟩
theorem gcd_next (a : Int) : Int.gcd a (a + 1) = 1 := by
  rw [Int.gcd_self_add_right, Int.gcd_one_right]
def c_law_strength : Ct := ⟨1, Unit, fun _ => [.tok], fun _ => True, fun _ d => ∃ a, d = eA a ∧ pSm a, fun _ => rfl⟩
theorem f_law_strength {P : Program} {w : World} {K : PySem.W.Frag} {mg : Str → Option Value} {base : Heap} (W : Wd K mg) : Fn P w K mg base 2 "_law_strength" c_law_strength := by
  refine W.fn 36 (d := HH.d_law_strength) rfl rfl 26 rfl ["_law_d"] rfl rfl (fun _ _ _ _ _ _ us h => by match us, h with | [a0], _ => rfl) fun f fd F => ?_
  have S : FnScope ["_law_d", "_law_top"] ["_law_d"] HH.d_law_strength.scope := C8.fnScope_by (by decide +kernel)
  have B := W.gb
  have G_law_draw := f_law_draw (P := P) (w := w) (base := base) W
  refine fn_ok (N := ["_law_d", "_law_top"]) (k := 1) F S rfl (fun cdv A outer s H E hr => ⟨_, (vb_cons (vs_if (vt_cmp (v_gt (v_call G_law_draw hr (va_cons (vv 0) (va_cons v_int va_nil))) v_int))
 (vb_one (vs_ret (v_ix (ve_of (vl_lst (va_cons (v_tup (va_cons v_int (va_cons v_int va_nil))) (va_cons (v_tup (va_cons v_int (va_cons v_int va_nil))) (va_cons (v_tup (va_cons v_int (va_cons v_int va_nil))) (va_cons (v_tup (va_cons v_int (va_cons v_int va_nil))) (va_cons (v_tup (va_cons v_int (va_cons v_int va_nil))) va_nil))))))) (v_call G_law_draw hr (va_cons (vv 0) (va_cons v_int va_nil))))))
 vb_nil)
 (vb_cons (vs_set (i := 1) S.nd (v_add v_int (v_call G_law_draw hr (va_cons (vv 0) (va_cons (v_ix (ve_of (vl_lst (va_cons v_int (va_cons v_int (va_cons (v_pow v_int v_int) va_nil))))) (v_call G_law_draw hr (va_cons (vv 0) (va_cons v_int va_nil)))) va_nil)))))
 (vb_one (vs_ret (v_ix (ve_of (vl_lst (va_cons (v_tup (va_cons (vv 1) (va_cons (v_add (vv 1) v_int) va_nil))) (va_cons (v_tup (va_cons (v_add (vv 1) v_int) (va_cons (vv 1) va_nil))) (va_cons (v_tup (va_cons v_int (va_cons (vv 1) va_nil))) (va_cons (v_tup (va_cons (vv 1) (va_cons v_int va_nil))) va_nil)))))) (v_call G_law_draw hr (va_cons (vv 0) (va_cons v_int va_nil))))))))⟩) ?_
  intro _ _
  (conv => whnf)
  refine ⟨(6 : Int), rfl, by show (6 : Int) < _; omega, ?_⟩
  rintro _ ⟨r0, rfl, _⟩
  (conv => whnf)
  refine ⟨fun q => ?_, fun q => ?_⟩
  · (conv => whnf)
    refine ⟨(5 : Int), rfl, by show (5 : Int) < _; omega, ?_⟩
    rintro _ ⟨r, rfl, hr⟩
    have hr := dr_lt hr (by show (0 : Int) < 5; omega)
    have hr : (r : Int) < 5 := hr
    match r, hr with
    | 0, _ => exact ⟨_, at_of rfl, (1, 1), rfl, psm (by omega) (by omega) (by omega) (by omega) rfl⟩
    | 1, _ => exact ⟨_, at_of rfl, (2, 1), rfl, psm (by omega) (by omega) (by omega) (by omega) rfl⟩
    | 2, _ => exact ⟨_, at_of rfl, (3, 1), rfl, psm (by omega) (by omega) (by omega) (by omega) rfl⟩
    | 3, _ => exact ⟨_, at_of rfl, (1, 2), rfl, psm (by omega) (by omega) (by omega) (by omega) rfl⟩
    | 4, _ => exact ⟨_, at_of rfl, (3, 2), rfl, psm (by omega) (by omega) (by omega) (by omega) rfl⟩
    | r + 5, h => omega
  (conv => whnf)
  refine ⟨⟨by decide, by decide, by decide⟩, ?_⟩
  (conv => whnf)
  refine ⟨(3 : Int), rfl, by show (3 : Int) < _; omega, ?_⟩
  rintro _ ⟨r, rfl, hr⟩
  have hr := dr_lt hr (by show (0 : Int) < 3; omega)
  have hr : (r : Int) < 3 := hr
  have hm : ∃ m : Int, atI [D.int 3, D.int 9, D.int (10 ^ (5 : Int).toNat)] (r : Int) = some (.int m) ∧ 0 < m ∧ m ≤ 100000 := by
    match r, hr with
    | 0, _ => exact ⟨3, at_of rfl, by omega, by omega⟩
    | 1, _ => exact ⟨9, at_of rfl, by omega, by omega⟩
    | 2, _ => exact ⟨100000, at_of rfl, by omega, by omega⟩
    | r + 3, h => omega
  obtain ⟨m, hm1, hm2, hm3⟩ := hm
  refine ⟨_, hm1, ?_⟩
  refine ⟨m, rfl, by show m < _; omega, ?_⟩
  rintro _ ⟨t, rfl, ht⟩
  have ht := dr_lt ht hm2
  generalize hx : (1 : Int) + (t : Nat) = x
  have hx1 : 0 < x := by omega
  have hx2 : x ≤ 100000 := by omega
  (conv => whnf)
  refine ⟨(4 : Int), rfl, by show (4 : Int) < _; omega, ?_⟩
  rintro _ ⟨r, rfl, hr⟩
  have hr := dr_lt hr (by show (0 : Int) < 4; omega)
  have hr : (r : Int) < 4 := hr
  match r, hr with
  | 0, _ => exact ⟨_, at_of rfl, (x, x + 1), by subst hx; rfl, psm (by omega) (by omega) (by omega) (by omega) (gcd_next x)⟩
  | 1, _ => exact ⟨_, at_of rfl, (x + 1, x), by subst hx; rfl, psm (by omega) (by omega) (by omega) (by omega) (by rw [Int.gcd_comm]; exact gcd_next x)⟩
  | 2, _ => exact ⟨_, at_of rfl, (1, x), by subst hx; rfl, psm (by omega) (by omega) (by omega) (by omega) (Int.gcd_one_left x)⟩
  | 3, _ => exact ⟨_, at_of rfl, (x, 1), by subst hx; rfl, psm (by omega) (by omega) (by omega) (by omega) (Int.gcd_one_right x)⟩
  | r + 4, h => omega
end LV
set_option Elab.async false
set_option linter.all false
set_option maxRecDepth 100000
set_option maxHeartbeats 4000000
namespace LV
open PySem PySem.Spec PyProof.Rows L2
theorem valD_in {α κ : Type} [DecidableEq κ] {f : α → κ × D} {k : κ} : ∀ {es : List α}, (∃ e ∈ es, (f e).1 = k) → ∃ e ∈ es, (f e).1 = k ∧ valD (es.map f) k = some (f e).2
  | [], h => by
    obtain ⟨e, he, _⟩ := h
    exact absurd he List.not_mem_nil
  | x :: es, h => by
    by_cases q : (f x).1 = k
    · exact ⟨x, List.mem_cons_self, q, valD_pos q⟩
    · obtain ⟨e, he, hk⟩ := h
      have he : e ∈ es := (List.mem_cons.mp he).resolve_left fun z => q (z ▸ hk)
      obtain ⟨e', h1, h2, h3⟩ := valD_in (es := es) ⟨e, he, hk⟩
      exact ⟨e', List.mem_cons_of_mem _ h1, h2, by rw [List.map_cons, valD_neg q]; exact h3⟩
theorem putD_map {α κ : Type} [DecidableEq κ] {f : α → κ × D} (es : List α) (e0 : α) : ∃ es' : List α, putD (es.map f) (f e0).1 (f e0).2 = es'.map f ∧ es'.length ≤ es.length + 1 ∧ (∀ x ∈ es', x ∈ es ∨ x = e0) ∧ ((es.map fun e => (f e).1).Nodup → (es'.map fun e => (f e).1).Nodup) := by
  unfold putD
  by_cases q : ((es.map f).any fun kv => decide (kv.1 = (f e0).1)) = true
  · rw [if_pos q]
    have e1 : ∀ e, (if (f e).1 = (f e0).1 then ((f e).1, (f e0).2) else f e) = f (if (f e).1 = (f e0).1 then e0 else e) := fun e => by
      by_cases h : (f e).1 = (f e0).1
      · rw [if_pos h, if_pos h, h]
      · rw [if_neg h, if_neg h]
    have e2 : ∀ e, (f (if (f e).1 = (f e0).1 then e0 else e)).1 = (f e).1 := fun e => by
      rw [← e1]
      by_cases h : (f e).1 = (f e0).1
      · rw [if_pos h]
      · rw [if_neg h]
    refine ⟨es.map fun e => if (f e).1 = (f e0).1 then e0 else e, ?_, by rw [List.length_map]; omega, fun x hx => ?_, fun h => ?_⟩
    · rw [List.map_map, List.map_map]
      exact List.map_congr_left fun e _ => e1 e
    · obtain ⟨e, he, rfl⟩ := List.mem_map.mp hx
      by_cases h : (f e).1 = (f e0).1
      · exact .inr (if_pos h)
      · rw [if_neg h]
        exact .inl he
    · rw [List.map_map]
      have e3 : (es.map ((fun e => (f e).1) ∘ fun e => if (f e).1 = (f e0).1 then e0 else e)) = es.map fun e => (f e).1 := List.map_congr_left fun e _ => e2 e
      rw [e3]
      exact h
  · rw [if_neg q]
    refine ⟨es ++ [e0], by rw [List.map_append] <;> rfl, by rw [List.length_append]; exact Nat.le_refl _, fun x hx => ?_, fun h => ?_⟩
    · exact (List.mem_append.mp hx).imp id List.mem_singleton.mp
    · rw [List.map_append, List.nodup_append]
      refine ⟨h, List.pairwise_singleton _ _, fun a ha b hb z => q ?_⟩
      obtain ⟨e, he, rfl⟩ := List.mem_map.mp ha
      rw [List.any_map, List.any_eq_true]
      rw [List.map_singleton, List.mem_singleton] at hb
      exact ⟨e, he, decide_eq_true (z.trans hb)⟩
abbrev Bd := Nat × Nat × Amt
def eBd (l : Bd) : D := .tup [.int l.1, .int l.2.1, eA l.2.2]
def fBd (l : Bd) : List Key × D := (kP l.1 l.2.1, eA l.2.2)
theorem fam_Bd : Fam eBd where
  pl := fun l x hx => by
    rcases List.mem_cons.mp hx with rfl | hx
    · trivial
    · rcases List.mem_cons.mp hx with rfl | hx
      · trivial
      · rw [List.mem_singleton.mp hx]
        exact pl_mono (by omega : 1 ≤ 39) fun w hw => by
          rcases List.mem_cons.mp hw with rfl | hw
          · trivial
          · rw [List.mem_singleton.mp hw]
            trivial
  al := fun a b => by
    show PySem.W.alike (.tuple [.int a.1, .int a.2.1, .tuple [.int a.2.2.1, .int a.2.2.2]]) (.tuple [.int b.1, .int b.2.1, .tuple [.int b.2.2.1, .int b.2.2.2]]) = true
    simp [PySem.W.alike, PySem.W.alikeAll]
  tp := fun _ => ⟨_, _, rfl⟩
def BdOk (n : Nat) (ls : List Bd) : Prop := ls.length ≤ 13 ∧ ∀ l ∈ ls, l.1 < n ∧ l.2.1 < n ∧ pSm l.2.2
theorem sb_I (xs : List Nat) : Sb (xs.map eI) where
  pl := fun x hx => by
    obtain ⟨a, _, rfl⟩ := List.mem_map.mp hx
    trivial
  al := fun x hx y hy => by
    obtain ⟨a, _, rfl⟩ := List.mem_map.mp hx
    obtain ⟨b, _, rfl⟩ := List.mem_map.mp hy
    show PySem.W.alike (.int _) (.int _) = true
    simp [PySem.W.alike]
  ok := .inr fun d hd => by
    obtain ⟨x, hx, rfl⟩ := List.mem_map.mp hd
    obtain ⟨a, _, rfl⟩ := List.mem_map.mp hx
    exact ⟨fun z => (nomatch z), fun _ z => (nomatch z)⟩
def triN : Nat → Nat
  | 0 => 0
  | 1 => 4
  | 2 => 7
  | 3 => 9
  | _ => 10
theorem triN_le {i n : Nat} (hn : n ≤ 4) (hi : i < n) : triN i + (n - i) ≤ triN (i + 1) ∧ triN (i + 1) ≤ 10 := by
  match i, hi with
  | 0, _ => exact ⟨by show 0 + (n - 0) ≤ 4; omega, by decide⟩
  | 1, _ => exact ⟨by show 4 + (n - 1) ≤ 7; omega, by decide⟩
  | 2, _ => exact ⟨by show 7 + (n - 2) ≤ 9; omega, by decide⟩
  | 3, _ => exact ⟨by show 9 + (n - 3) ≤ 10; omega, by decide⟩
  | i + 4, h => omega
def c_law_links : Ct := ⟨2, Nat, fun n => [.tok, .int n], fun n => 1 ≤ n ∧ n ≤ 4, fun n d => ∃ ls : List Bd, d = .tup (ls.map eBd) ∧ BdOk n ls, fun _ => rfl⟩
theorem f_law_links {P : Program} {w : World} {K : PySem.W.Frag} {mg : Str → Option Value} {base : Heap} (W : Wd K mg) : Fn P w K mg base 3 "_law_links" c_law_links := by
  refine W.fn 37 (d := HH.d_law_links) rfl rfl 27 rfl ["_law_d", "_law_n"] rfl rfl (fun _ _ _ _ _ _ us h => by match us, h with | [a0, a1], _ => rfl) fun f fd F => ?_
  have S : FnScope ["_law_d", "_law_n", "_law_order_here", "_law_links_here", "_law_k", "_law_pair", "_law_i", "_law_j"] ["_law_d", "_law_n"] HH.d_law_links.scope := C8.fnScope_by (by decide +kernel)
  have B := W.gb
  have G_law_order := f_law_order (P := P) (w := w) (base := base) W
  have G_law_draw := f_law_draw (P := P) (w := w) (base := base) W
  have G_law_strength := f_law_strength (P := P) (w := w) (base := base) W
  refine fn_ok (N := ["_law_d", "_law_n", "_law_order_here", "_law_links_here", "_law_k", "_law_pair", "_law_i", "_law_j"]) (k := 2) F S rfl (fun cdv A outer s H E hr => ⟨_, (vb_cons (vs_set (i := 2) S.nd (v_call G_law_order hr (va_cons (vv 0) (va_cons (vv 1) va_nil))))
 (vb_cons (vs_dictT (i := 3) S.nd)
 (vb_cons (vs_for PassesOwn.never rfl (vi_rng2 B.range (va_cons v_int (va_cons (vv 1) va_nil))) (vg_name 4 S.nd)
 (vb_cons (vs_set (i := 5) S.nd (ve_of (vl_sorted hr B.sorted (ve_of (vl_lst (va_cons (v_ix (vv 2) (vv 4)) (va_cons (v_ix (vv 2) (v_call G_law_draw hr (va_cons (vv 0) (va_cons (vv 4) va_nil)))) va_nil)))))))
 (vb_one (vs_dputT hr 3 (v_tup (va_cons (v_ix (vv 5) v_int) (va_cons (v_ix (vv 5) v_int) va_nil))) (v_call G_law_strength hr (va_cons (vv 0) va_nil))))))
 (vb_cons (vs_for PassesOwn.never rfl (vi_rng1 B.range (va_cons (vv 1) va_nil)) (vg_name 6 S.nd)
 (vb_one (vs_for PassesOwn.never rfl (vi_rng2 B.range (va_cons (vv 6) (va_cons (vv 1) va_nil))) (vg_name 7 S.nd)
 (vb_one (vs_if (vt_of (vw_and (vt_cmp (v_notinDT hr 3 (v_tup (va_cons (vv 6) (va_cons (vv 7) va_nil))))) (vw_and1 (vt_cmp (v_eqI (v_call G_law_draw hr (va_cons (vv 0) (va_cons v_int va_nil))) v_int)))))
 (vb_one (vs_dputT hr 3 (v_tup (va_cons (vv 6) (va_cons (vv 7) va_nil))) (v_call G_law_strength hr (va_cons (vv 0) va_nil))))
 vb_nil)))))
 (vb_one (vs_ret (v_tuple B.tuple (ve_of (vl_sorted hr B.sorted (ve_of (vl_lcdT (own := [("_law_pair", 5)]) rfl S.nd 3 (by rfl) (fun _ _ _ _ _ => (vg_name 5 S.nd)) (fun _ _ _ _ _ => vq_nil) (fun _ _ _ _ _ => (v_tup (va_cons (v_ix (vv 5) v_int) (va_cons (v_ix (vv 5) v_int) (va_cons (v_dixT hr 3 (vv 5)) va_nil))))))))))))))))⟩) ?_
  intro (n : Nat) ⟨(hn1 : 1 ≤ n), (hn4 : n ≤ 4)⟩
  (conv => whnf)
  refine ⟨n, rfl, by show n ≤ 100; omega, ?_⟩
  rintro _ ⟨os, rfl, ho1, ho2⟩
  (conv => whnf)
  refine ⟨by unfold small; decide, by unfold small; omega, ?_⟩
  show wpFor _ _ _ (rng 1 _) _
  rw [show ((n : Int) - 1).toNat = n - 1 by omega]
  refine wpFor_rng 1 (n - 1) (fun i Γ => ∃ (es : List Bd) (a b : Sl), Γ = [.im .tok, .im (.int n), .im (eLn os), .ot (es.map fBd), a, b, .no, .no] ∧ es.length ≤ i ∧ ∀ l ∈ es, l.1 < n ∧ l.2.1 < n ∧ pSm l.2.2) ?_ ?_ ⟨[], _, _, rfl, Nat.le_refl _, fun l hl => absurd hl List.not_mem_nil⟩
  · rintro i Γ N hi ⟨es, a, b, rfl, h1, h2⟩ hN
    rw [show (1 : Int) + (i : Nat) = ((i + 1 : Nat) : Int) by omega]
    (conv => whnf)
    refine ⟨_, at_map (List.getElem?_eq_getElem (show i + 1 < os.length by omega)), ?_⟩
    refine ⟨((i + 1 : Nat) : Int), rfl, by show ((i + 1 : Nat) : Int) < _; omega, ?_⟩
    rintro _ ⟨r, rfl, hr⟩
    have hr := dr_lt hr (by show (0 : Int) < (i + 1 : Nat); omega)
    have hr : r < i + 1 := by
      have hr : (r : Int) < (i + 1 : Nat) := hr
      omega
    refine ⟨_, at_map (List.getElem?_eq_getElem (show r < os.length by omega)), ?_⟩
    (conv => whnf)
    refine ⟨sb_I [os[i + 1], os[r]], ?_⟩
    have ha1 := ho2 _ (List.getElem_mem (show i + 1 < os.length by omega))
    have hb1 := ho2 _ (List.getElem_mem (show r < os.length by omega))
    have es2 : [eI os[i + 1], eI os[r]].mergeSort dle = (srt eI [os[i + 1], os[r]]).map eI := srt_map eI [os[i + 1], os[r]]
    have hm : ∀ x ∈ srt eI [os[i + 1], os[r]], x < n := fun x hx => by
      rcases List.mem_cons.mp (srt_mem.mp hx) with rfl | hx
      · exact ha1
      · rw [List.mem_singleton.mp hx]
        exact hb1
    have hl2 : (srt eI [os[i + 1], os[r]]).length = 2 := srt_len eI _
    rw [es2]
    generalize srt eI [os[i + 1], os[r]] = q at hm hl2
    match q, hl2 with
    | [x, y], _ =>
      have hx := hm x List.mem_cons_self
      have hy := hm y (List.mem_cons_of_mem _ List.mem_cons_self)
      (conv => whnf)
      refine ⟨⟨_, rfl⟩, ?_⟩
      refine ⟨(), rfl, trivial, ?_⟩
      rintro _ ⟨s, rfl, hs⟩
      (conv => whnf)
      refine ⟨_, at_0, ?_⟩
      (conv => whnf)
      refine ⟨_, at_1, ?_⟩
      (conv => whnf)
      refine ⟨_, rfl, by rw [List.length_map]; omega, ?_⟩
      obtain ⟨es', e1, e2, e3, _⟩ := putD_map (f := fBd) es (x, y, s)
      refine hN _ ⟨es', .im (.int ((i + 1 : Nat))), .im (.lst ([x, y].map eI)), congrArg (fun z => [_, _, _, Sl.ot z, _, _, _, _]) e1, by omega, fun l hl => ?_⟩
      rcases e3 l hl with h | rfl
      · exact h2 l h
      · exact ⟨hx, hy, hs⟩
  · rintro Γ ⟨es, a, b, rfl, h1, h2⟩
    (conv => whnf)
    refine ⟨by unfold small; omega, ?_⟩
    show wpFor _ _ _ (rng 0 _) _
    rw [Int.toNat_natCast]
    refine wpFor_rng 0 n (fun i Γ => ∃ (es : List Bd) (c d : Sl), Γ = [.im .tok, .im (.int n), .im (eLn os), .ot (es.map fBd), a, b, c, d] ∧ es.length ≤ 3 + triN i ∧ i ≤ n ∧ ∀ l ∈ es, l.1 < n ∧ l.2.1 < n ∧ pSm l.2.2) ?_ ?_ ⟨es, _, _, rfl, by omega, Nat.zero_le _, h2⟩
    · clear h1 h2 es
      rintro i Γ N hi ⟨es, c, d, rfl, h1, _, h2⟩ hN
      have ht := triN_le hn4 hi
      rw [Int.zero_add]
      (conv => whnf)
      refine ⟨by unfold small; omega, by unfold small; omega, ?_⟩
      show wpFor _ _ _ (rng _ _) _
      rw [show ((n : Int) - (i : Nat)).toNat = n - i by omega]
      refine wpFor_rng i (n - i) (fun j Γ => ∃ (es : List Bd) (d : Sl), Γ = [.im .tok, .im (.int n), .im (eLn os), .ot (es.map fBd), a, b, .im (.int i), d] ∧ es.length ≤ 3 + triN i + j ∧ ∀ l ∈ es, l.1 < n ∧ l.2.1 < n ∧ pSm l.2.2) ?_ (fun Γ ⟨es, d, z, h1, h2⟩ => hN _ ⟨es, _, d, z, by omega, by omega, h2⟩) ⟨es, _, rfl, by omega, h2⟩
      clear h1 h2 es hN
      rintro j Γ N' hj ⟨es, d, rfl, h1, h2⟩ hN
      rw [show (i : Int) + (j : Nat) = ((i + j : Nat) : Int) by omega]
      (conv => whnf)
      refine ⟨_, _, rfl, rfl, fun d' hd' => ?_, fun hd' => ?_⟩
      · (conv => whnf)
        exact hN _ ⟨es, .im (.int (i + j : Nat)), rfl, by omega, h2⟩
      (conv => whnf)
      refine ⟨(3 : Int), rfl, by show (3 : Int) < _; omega, ?_⟩
      rintro _ ⟨r, rfl, _⟩
      (conv => whnf)
      refine ⟨fun q => ?_, fun q => ?_⟩
      rotate_left
      · (conv => whnf)
        exact hN _ ⟨es, .im (.int (i + j : Nat)), rfl, by omega, h2⟩
      (conv => whnf)
      refine ⟨⟨_, rfl⟩, ?_⟩
      refine ⟨(), rfl, trivial, ?_⟩
      rintro _ ⟨s, rfl, hs⟩
      (conv => whnf)
      have := triN_le hn4 hi
      refine ⟨_, rfl, by rw [List.length_map]; omega, ?_⟩
      obtain ⟨es', e1, e2, e3, _⟩ := putD_map (f := fBd) es (i, i + j, s)
      refine hN _ ⟨es', .im (.int (i + j : Nat)), congrArg (fun z => [_, _, _, Sl.ot z, _, _, _, _]) e1, by omega, fun l hl => ?_⟩
      rcases e3 l hl with h | rfl
      · exact h2 l h
      · exact ⟨hi, by dsimp only; omega, hs⟩
    · clear h1 h2 es
      rintro Γ ⟨es, c, d, rfl, h1, _, h2⟩
      have h1 : es.length ≤ 13 := by
        have := triN_le hn4 (show n - 1 < n by omega)
        rw [show n - 1 + 1 = n by omega] at this
        omega
      (conv => whnf)
      refine ⟨_, rfl, _, rfl, es.map fun l => ((l.1 : Int), (l.2.1 : Int)), by rw [List.map_map, List.map_map] <;> rfl, ?_⟩
      rw [List.map_map]
      refine wpLc_rel (fun l : Bd => D.tup [.int l.1, .int l.2.1]) eBd (fun _ y => y.1 < n ∧ y.2.1 < n ∧ pSm y.2.2) es [] (by simp; omega) (fun l hl N M hN => ?_) fun ys hy1 hy2 => ?_
      · (conv => whnf)
        refine ⟨_, at_0, ?_⟩
        (conv => whnf)
        refine ⟨_, at_1, ?_⟩
        (conv => whnf)
        refine ⟨_, _, rfl, rfl, ?_⟩
        obtain ⟨e', h3, h4, h5⟩ := valD_in (f := fBd) (k := kP (l.1 : Int) (l.2.1 : Int)) ⟨l, hl, rfl⟩
        (conv => whnf)
        refine ⟨_, h5, ?_⟩
        have h6 := h2 l hl
        exact hN (l.1, l.2.1, e'.2.2) ⟨h6.1, h6.2.1, (h2 e' h3).2.2⟩
      (conv => whnf)
      rw [List.nil_append]
      refine ⟨fam_Bd.sb ys, ?_⟩
      rw [srt_map]
      (conv => whnf)
      refine ⟨srt eBd ys, rfl, by rw [srt_len]; omega, fun l hl => ?_⟩
      have hl := srt_mem.mp hl
      obtain ⟨x, hx, rfl⟩ := List.mem_iff_getElem.mp hl
      exact hy2 x (es[x]'(by omega)) _ (List.getElem?_eq_getElem (by omega)) (List.getElem?_eq_getElem hx)
def eP2 (p : Nat × Nat) : D := .tup [.int p.1, .int p.2]
def c_law_shape : Ct := ⟨2, Nat, fun n => [.tok, .int n], fun n => 1 ≤ n ∧ n ≤ 4, fun n d => ∃ ls : List Bd, d = .tup (ls.map eBd) ∧ BdOk n ls, fun _ => rfl⟩
theorem f_law_shape {P : Program} {w : World} {K : PySem.W.Frag} {mg : Str → Option Value} {base : Heap} (W : Wd K mg) : Fn P w K mg base 3 "_law_shape" c_law_shape := by
  refine W.fn 38 (d := HH.d_law_shape) rfl rfl 28 rfl ["_law_d", "_law_n"] rfl rfl (fun _ _ _ _ _ _ us h => by match us, h with | [a0, a1], _ => rfl) fun f fd F => ?_
  have S : FnScope ["_law_d", "_law_n", "_law_strength_here", "_law_kind", "_law_pairs", "_law_k", "_law_i", "_law_j", "_law_pair"] ["_law_d", "_law_n"] HH.d_law_shape.scope := C8.fnScope_by (by decide +kernel)
  have B := W.gb
  have G_law_strength := f_law_strength (P := P) (w := w) (base := base) W
  have G_law_draw := f_law_draw (P := P) (w := w) (base := base) W
  refine fn_ok (N := ["_law_d", "_law_n", "_law_strength_here", "_law_kind", "_law_pairs", "_law_k", "_law_i", "_law_j", "_law_pair"]) (k := 2) F S rfl (fun cdv A outer s H E hr => ⟨_, (vb_cons (vs_set (i := 2) S.nd (v_call G_law_strength hr (va_cons (vv 0) va_nil)))
 (vb_cons (vs_set (i := 3) S.nd (v_call G_law_draw hr (va_cons (vv 0) (va_cons v_int va_nil))))
 (vb_cons (vs_own (i := 4) S.nd (vl_lst va_nil))
 (vb_cons (vs_if (vt_cmp (v_eqI (vv 3) v_int))
 (vb_cons (vs_ownLc (i := 4) (own := [("_law_k", 5)]) rfl S.nd (VI.own (vi_rng1 B.range (va_cons (v_sub (vv 1) v_int) va_nil))) (by rfl) (fun _ _ _ _ _ => (vg_name 5 S.nd)) (fun _ _ _ _ _ => vq_nil) (fun _ _ _ _ _ => (v_tup (va_cons (vv 5) (va_cons (v_add (vv 5) v_int) va_nil)))) (sw_true rfl rfl rfl (by decide +kernel)))
 (vb_one (vs_if (vt_cmp (v_gt (vv 1) v_int))
 (vb_one (vs_append 4 (v_tup (va_cons v_int (va_cons (v_sub (vv 1) v_int) va_nil)))))
 vb_nil)))
 (vb_one (vs_if (vt_cmp (v_eqI (vv 3) v_int))
 (vb_one (vs_ownLc (i := 4) (own := [("_law_k", 5)]) rfl S.nd (VI.own (vi_rng2 B.range (va_cons v_int (va_cons (vv 1) va_nil)))) (by rfl) (fun _ _ _ _ _ => (vg_name 5 S.nd)) (fun _ _ _ _ _ => vq_nil) (fun _ _ _ _ _ => (v_tup (va_cons v_int (va_cons (vv 5) va_nil)))) (sw_true rfl rfl rfl (by decide +kernel))))
 (vb_one (vs_for PassesOwn.never rfl (vi_rng1 B.range (va_cons (vv 1) va_nil)) (vg_name 6 S.nd)
 (vb_one (vs_for PassesOwn.never rfl (vi_rng2 B.range (va_cons (v_add (vv 6) v_int) (va_cons (vv 1) va_nil))) (vg_name 7 S.nd)
 (vb_one (vs_append 4 (v_tup (va_cons (vv 6) (va_cons (vv 7) va_nil))))))))))))
 (vb_one (vs_ret (v_tuple B.tuple (ve_of (vl_sorted hr B.sorted (ve_of (vl_lc (own := [("_law_pair", 8)]) rfl S.nd (vi_own 4) (by rfl) (fun _ _ _ _ _ => (vg_name 8 S.nd)) (fun _ _ _ _ _ => vq_nil) (fun _ _ _ _ _ => (v_tup (va_cons (v_ix (vv 8) v_int) (va_cons (v_ix (vv 8) v_int) (va_cons (vv 2) va_nil))))))))))))))))⟩) ?_
  intro (n : Nat) ⟨(hn1 : 1 ≤ n), (hn4 : n ≤ 4)⟩
  (conv => whnf)
  refine ⟨(), rfl, trivial, ?_⟩
  rintro _ ⟨s, rfl, hs⟩
  (conv => whnf)
  refine ⟨(3 : Int), rfl, by show (3 : Int) < _; omega, ?_⟩
  rintro _ ⟨r, rfl, _⟩
  refine (fun (fin : ∀ (ps : List (Nat × Nat)) (a b c : Sl), ps.length ≤ 13 → (∀ p ∈ ps, p.1 < n ∧ p.2 < n) → (?T : Ev → Prop) [.im .tok, .im (.int n), .im (eA s), .im (.int r), .ow (ps.map eP2), a, b, c, .no]) => ?main) ?tail
  case main =>
    (conv => whnf)
    refine ⟨fun q => ?_, fun q => ?_⟩
    · (conv => whnf)
      refine ⟨by unfold small; omega, ?_⟩
      show wpLc _ _ _ _ _ (rng 0 _) []
      rw [show ((n : Int) - 1).toNat = n - 1 by omega]
      refine wpLc_rng (fun k => eP2 (k, k + 1)) 0 (n - 1) (by omega) (fun k hk N M hN => ?_) ?_
      · rw [Int.zero_add]
        exact hN
      have e0 : (List.range (n - 1)).map (fun k => eP2 (k, k + 1)) = ((List.range (n - 1)).map fun k => (k, k + 1)).map eP2 := by
        rw [List.map_map] <;> rfl
      rw [e0]
      have hl : ((List.range (n - 1)).map fun k => (k, k + 1)).length = n - 1 := by rw [List.length_map, List.length_range]
      have hm : ∀ p ∈ (List.range (n - 1)).map (fun k => (k, k + 1)), p.1 < n ∧ p.2 < n := fun p hp => by
        obtain ⟨k, hk, rfl⟩ := List.mem_map.mp hp
        have := List.mem_range.mp hk
        exact ⟨by dsimp only; omega, by dsimp only; omega⟩
      generalize (List.range (n - 1)).map (fun k => (k, k + 1)) = ps at hl hm
      clear e0
      (conv => whnf)
      refine ⟨fun q => ?_, fun q => ?_⟩
      · (conv => whnf)
        refine ⟨by rw [List.length_map]; omega, ?_⟩
        have e1 : ps.map eP2 ++ [D.tup [.int 0, .int ((n : Int) - 1)]] = (ps ++ [(0, n - 1)]).map eP2 := by
          rw [List.map_append, show (n : Int) - 1 = ((n - 1 : Nat) : Int) by omega] <;> rfl
        have h := fin (ps ++ [(0, n - 1)]) .no .no .no (by rw [List.length_append, hl]; show n - 1 + 1 ≤ 13; omega) fun p hp => by
          rcases List.mem_append.mp hp with hp | hp
          · exact hm p hp
          · rw [List.mem_singleton.mp hp]
            exact ⟨by dsimp only; omega, by dsimp only; omega⟩
        rw [← e1] at h
        exact h
      · exact fin ps .no .no .no (by omega) hm
    · (conv => whnf)
      refine ⟨fun q => ?_, fun q => ?_⟩
      · (conv => whnf)
        refine ⟨by unfold small; omega, by unfold small; omega, ?_⟩
        show wpLc _ _ _ _ _ (rng 1 _) []
        rw [show ((n : Int) - 1).toNat = n - 1 by omega]
        refine wpLc_rng (fun k => eP2 (0, k + 1)) 1 (n - 1) (by omega) (fun k hk N M hN => ?_) ?_
        · rw [show (1 : Int) + (k : Nat) = ((k + 1 : Nat) : Int) by omega]
          exact hN
        have e0 : (List.range (n - 1)).map (fun k => eP2 (0, k + 1)) = ((List.range (n - 1)).map fun k => (0, k + 1)).map eP2 := by
          rw [List.map_map] <;> rfl
        rw [e0]
        refine fin _ .no .no .no (by rw [List.length_map, List.length_range]; omega) fun p hp => ?_
        obtain ⟨k, hk, rfl⟩ := List.mem_map.mp hp
        have := List.mem_range.mp hk
        exact ⟨by dsimp only; omega, by dsimp only; omega⟩
      · (conv => whnf)
        refine ⟨by unfold small; omega, ?_⟩
        show wpFor _ _ _ (rng 0 _) _
        rw [Int.toNat_natCast]
        refine wpFor_rng 0 n (fun i Γ => ∃ (ps : List (Nat × Nat)) (b c : Sl), Γ = [.im .tok, .im (.int n), .im (eA s), .im (.int r), .ow (ps.map eP2), .no, b, c, .no] ∧ ps.length ≤ triN i ∧ i ≤ n ∧ ∀ p ∈ ps, p.1 < n ∧ p.2 < n) ?_ (fun Γ ⟨ps, b, c, z, h1, h2, h3⟩ => ?_) ⟨[], _, _, rfl, Nat.zero_le _, Nat.zero_le _, fun p hp => absurd hp List.not_mem_nil⟩
        · rintro i Γ N hi ⟨ps, b, c, rfl, h1, _, h3⟩ hN
          have ht := triN_le hn4 hi
          rw [Int.zero_add]
          (conv => whnf)
          refine ⟨by unfold small; omega, by unfold small; omega, ?_⟩
          show wpFor _ _ _ (rng _ _) _
          rw [show ((n : Int) - ((i : Int) + 1)).toNat = n - i - 1 by omega]
          refine wpFor_rng ((i : Int) + 1) (n - i - 1) (fun j Γ => ∃ (ps : List (Nat × Nat)) (c : Sl), Γ = [.im .tok, .im (.int n), .im (eA s), .im (.int r), .ow (ps.map eP2), .no, .im (.int i), c, .no] ∧ ps.length ≤ triN i + j ∧ ∀ p ∈ ps, p.1 < n ∧ p.2 < n) ?_ (fun Γ ⟨ps, c, z, h1, h3⟩ => hN _ ⟨ps, _, c, z, by omega, by omega, h3⟩) ⟨ps, _, rfl, h1, h3⟩
          clear h1 h3 ps hN
          rintro j Γ N' hj ⟨ps, c, rfl, h1, h3⟩ hN
          rw [show (i : Int) + 1 + (j : Nat) = ((i + 1 + j : Nat) : Int) by omega]
          (conv => whnf)
          refine ⟨by rw [List.length_map]; omega, ?_⟩
          refine hN _ ⟨ps ++ [(i, i + 1 + j)], .im (.int (i + 1 + j : Nat)), ?_, by rw [List.length_append]; show ps.length + 1 ≤ _; omega, fun p hp => ?_⟩
          · rw [List.map_append] <;> rfl
          · rcases List.mem_append.mp hp with hp | hp
            · exact h3 p hp
            · rw [List.mem_singleton.mp hp]
              exact ⟨hi, by dsimp only; omega⟩
        · subst z
          have ht := triN_le hn4 (show n - 1 < n by omega)
          rw [show n - 1 + 1 = n by omega] at ht
          exact fin ps .no b c (by omega) h3
  case tail =>
    intro ps a b c h1 h2
    (conv => whnf)
    refine wpLc_map eP2 (fun p => eBd (p.1, p.2, s)) ps (by omega) (fun p hp N M hN => ?_) ?_
    · (conv => whnf)
      refine ⟨_, at_0, ?_⟩
      (conv => whnf)
      refine ⟨_, at_1, ?_⟩
      exact hN
    have e0 : ps.map (fun p => eBd (p.1, p.2, s)) = (ps.map fun p => (p.1, p.2, s)).map eBd := by
      rw [List.map_map] <;> rfl
    rw [e0]
    (conv => whnf)
    refine ⟨fam_Bd.sb _, ?_⟩
    rw [srt_map]
    (conv => whnf)
    refine ⟨srt eBd _, rfl, by rw [srt_len, List.length_map]; omega, fun l hl => ?_⟩
    obtain ⟨p, hp, rfl⟩ := List.mem_map.mp (srt_mem.mp hl)
    exact ⟨(h2 p hp).1, (h2 p hp).2, hs⟩
end LV
set_option Elab.async false
set_option linter.all false
set_option maxRecDepth 100000
set_option maxHeartbeats 4000000
namespace LV
open PySem PySem.Spec PyProof.Rows L2
def eBds (ls : List Bd) : D := .tup (ls.map eBd)
def c_law_course : Ct := ⟨3, Nat × Nat, fun g => [.tok, .int g.1, .int g.2], fun g => 1 ≤ g.1 ∧ g.1 ≤ 4 ∧ g.2 ≤ 100, fun g d => ∃ cs : List (List Bd), d = .lst (cs.map eBds) ∧ cs.length = g.2 ∧ ∀ c ∈ cs, BdOk g.1 c, fun _ => rfl⟩
theorem f_law_course {P : Program} {w : World} {K : PySem.W.Frag} {mg : Str → Option Value} {base : Heap} (W : Wd K mg) : Fn P w K mg base 4 "_law_course" c_law_course := by
  refine W.fn 39 (d := HH.d_law_course) rfl rfl 29 rfl ["_law_d", "_law_n", "_law_rounds"] rfl rfl (fun _ _ _ _ _ _ us h => by match us, h with | [a0, a1, a2], _ => rfl) fun f fd F => ?_
  have S : FnScope ["_law_d", "_law_n", "_law_rounds", "_law_links_here", "_law_k", "_law_twice", "_law_found"] ["_law_d", "_law_n", "_law_rounds"] HH.d_law_course.scope := C8.fnScope_by (by decide +kernel)
  have B := W.gb
  have G_law_draw := f_law_draw (P := P) (w := w) (base := base) W
  have G_law_shape := f_law_shape (P := P) (w := w) (base := base) W
  have G_law_links := f_law_links (P := P) (w := w) (base := base) W
  refine fn_ok (N := ["_law_d", "_law_n", "_law_rounds", "_law_links_here", "_law_k", "_law_twice", "_law_found"]) (k := 3) F S rfl (fun cdv A outer s H E hr => ⟨_, (vb_cons (vs_if (vt_cmp (v_eqI (v_call G_law_draw hr (va_cons (vv 0) (va_cons v_int va_nil))) v_int))
 (vb_cons (vs_set (i := 3) S.nd (v_call G_law_shape hr (va_cons (vv 0) (va_cons (vv 1) va_nil))))
 (vb_one (vs_ret (ve_of (vl_lc (own := [("_law_k", 4)]) rfl S.nd (VI.own (vi_rng1 B.range (va_cons (vv 2) va_nil))) (by rfl) (fun _ _ _ _ _ => (vg_name 4 S.nd)) (fun _ _ _ _ _ => vq_nil) (fun _ _ _ _ _ => (vv 3)))))))
 vb_nil)
 (vb_cons (vs_set (i := 5) S.nd (v_call G_law_draw hr (va_cons (vv 0) (va_cons v_int va_nil))))
 (vb_cons (vs_own (i := 6) S.nd (vl_lst va_nil))
 (vb_cons (vs_for PassesOwn.never rfl (vi_rng1 B.range (va_cons (vv 2) va_nil)) (vg_name 4 S.nd)
 (vb_one (vs_if (vt_of (vw_and (vt_cmp (v_eqI (vv 5) v_int)) (vw_and1 (vt_cmp (v_eqI (v_mod (v_intof B.int (vv 4)) v_int) v_int)))))
 (vb_one (vs_append 6 (v_ixO 6 (v_sub (vv 4) v_int))))
 (vb_one (vs_append 6 (v_call G_law_links hr (va_cons (vv 0) (va_cons (vv 1) va_nil))))))))
 (vb_frz 6 (vb_one (vs_ret (vv 6))))))))⟩) ?_
  rintro ⟨n, m⟩ ⟨hn1, hn4, hm⟩
  dsimp only at hn1 hn4 hm
  (conv => whnf)
  refine ⟨(3 : Int), rfl, by show (3 : Int) < _; omega, ?_⟩
  rintro _ ⟨r, rfl, _⟩
  (conv => whnf)
  refine ⟨fun q => ?_, fun q => ?_⟩
  · (conv => whnf)
    refine ⟨n, rfl, ⟨hn1, hn4⟩, ?_⟩
    rintro _ ⟨ls, rfl, hls⟩
    (conv => whnf)
    refine ⟨by unfold small; omega, ?_⟩
    show wpLc _ _ _ _ _ (rng 0 _) []
    rw [Int.toNat_natCast]
    refine wpLc_rng (fun _ => eBds ls) 0 m (by omega) (fun i hi N M hN => hN) ?_
    refine ⟨List.replicate m ls, ?_, by simp, fun c hc => ?_⟩
    · rw [List.map_const', List.length_range, List.map_replicate]
    · rw [(List.mem_replicate.mp hc).2]
      exact hls
  (conv => whnf)
  refine ⟨(2 : Int), rfl, by show (2 : Int) < _; omega, ?_⟩
  rintro _ ⟨tw, rfl, _⟩
  (conv => whnf)
  refine ⟨by unfold small; omega, ?_⟩
  show wpFor _ _ _ (rng 0 _) _
  rw [Int.toNat_natCast]
  refine wpFor_rng 0 m (fun i Γ => ∃ (cs : List (List Bd)) (b : Sl), Γ = [.im .tok, .im (.int n), .im (.int m), .no, b, .im (.int tw), .ow (cs.map eBds)] ∧ cs.length = i ∧ ∀ c ∈ cs, BdOk n c) ?_ ?_ ⟨[], _, rfl, rfl, fun c hc => absurd hc List.not_mem_nil⟩
  · rintro i Γ N hi ⟨cs, b, rfl, h1, h2⟩ hN
    have put : ∀ c b', BdOk n c → N [.im .tok, .im (.int n), .im (.int m), .no, b', .im (.int tw), .ow (cs.map eBds ++ [eBds c])] := fun c b' hc => by
      refine hN _ ⟨cs ++ [c], b', by rw [List.map_append] <;> rfl, by rw [List.length_append, h1] <;> rfl, fun x hx => ?_⟩
      rcases List.mem_append.mp hx with hx | hx
      · exact h2 x hx
      · rw [List.mem_singleton.mp hx]
        exact hc
    rw [Int.zero_add]
    have other : ∀ b', (∃ g, [D.tok, D.int n] = c_law_links.arg g ∧ c_law_links.pre g ∧ ∀ d, c_law_links.post g d → (cs.map eBds).length < 1000000 ∧ N [.im .tok, .im (.int n), .im (.int m), .no, b', .im (.int tw), .ow (cs.map eBds ++ [d])]) := fun b' => by
      refine ⟨n, rfl, ⟨hn1, hn4⟩, ?_⟩
      rintro _ ⟨ls, rfl, hls⟩
      exact ⟨by rw [List.length_map]; omega, put ls b' hls⟩
    (conv => whnf)
    refine ⟨fun q1 => ?_, fun q1 => ?_⟩
    rotate_left
    · exact other _
    (conv => whnf)
    refine ⟨by show (0 : Int) < 2; omega, ?_⟩
    refine ⟨fun q2 => ?_, fun q2 => ?_⟩
    rotate_left
    · exact other _
    have q2 : (i : Int) % 2 = 1 := q2
    (conv => whnf)
    have hi0 : i - 1 < cs.length := by omega
    refine ⟨_, (by rw [show (i : Int) - 1 = ((i - 1 : Nat) : Int) by omega]; exact at_map (List.getElem?_eq_getElem hi0)), ?_⟩
    refine ⟨by rw [List.length_map]; omega, ?_⟩
    exact put _ _ (h2 _ (List.getElem_mem hi0))
  · rintro Γ ⟨cs, b, rfl, h1, h2⟩
    (conv => whnf)
    exact ⟨cs, rfl, h1, h2⟩
def c_law_starts : Ct := ⟨3, Nat, fun n => [.tok, .int n, .int 2], fun n => 1 ≤ n ∧ n ≤ 4, fun n d => ∃ ss : List Sta, d = .lst (ss.map eS) ∧ ss.length = n ∧ ∀ s ∈ ss, s.1 ≤ 1 ∧ s.2 ≤ 3, fun _ => rfl⟩
theorem f_law_starts {P : Program} {w : World} {K : PySem.W.Frag} {mg : Str → Option Value} {base : Heap} (W : Wd K mg) : Fn P w K mg base 2 "_law_starts" c_law_starts := by
  refine W.fn 40 (d := HH.d_law_starts) rfl rfl 30 rfl ["_law_d", "_law_n", "_law_words"] rfl rfl (fun _ _ _ _ _ _ us h => by match us, h with | [a0, a1, a2], _ => rfl) fun f fd F => ?_
  have S : FnScope ["_law_d", "_law_n", "_law_words", "_law_lamp", "_law_alike", "_law_word", "_law_found", "_law_k", "_law_own"] ["_law_d", "_law_n", "_law_words"] HH.d_law_starts.scope := C8.fnScope_by (by decide +kernel)
  have B := W.gb
  have G_law_draw := f_law_draw (P := P) (w := w) (base := base) W
  refine fn_ok (N := ["_law_d", "_law_n", "_law_words", "_law_lamp", "_law_alike", "_law_word", "_law_found", "_law_k", "_law_own"]) (k := 1) F S rfl (fun cdv A outer s H E hr => ⟨_, (vb_cons (vs_set (i := 3) S.nd (v_call G_law_draw hr (va_cons (vv 0) (va_cons (vv 1) va_nil))))
 (vb_cons (vs_set (i := 4) S.nd (v_call G_law_draw hr (va_cons (vv 0) (va_cons v_int va_nil))))
 (vb_cons (vs_set (i := 5) S.nd (v_call G_law_draw hr (va_cons (vv 0) (va_cons (vv 2) va_nil))))
 (vb_cons (vs_own (i := 6) S.nd (vl_lst va_nil))
 (vb_cons (vs_for PassesOwn.never rfl (vi_rng1 B.range (va_cons (vv 1) va_nil)) (vg_name 7 S.nd)
 (vb_cons (vs_set (i := 8) S.nd (vv 5))
 (vb_cons (vs_if (vt_cmp (v_eqI (vv 4) v_int))
 (vb_one (vs_set (i := 8) S.nd (v_call G_law_draw hr (va_cons (vv 0) (va_cons (vv 2) va_nil)))))
 vb_nil)
 (vb_one (vs_append 6 (v_tup (va_cons (v_intof B.int (VCp.ve (v_eqI (vv 7) (vv 3)))) (va_cons (vv 8) va_nil))))))))
 (vb_frz 6 (vb_one (vs_ret (vv 6)))))))))⟩) ?_
  intro (n : Nat) ⟨(hn1 : 1 ≤ n), (hn4 : n ≤ 4)⟩
  (conv => whnf)
  refine ⟨(n : Int), rfl, by show (n : Int) < _; omega, ?_⟩
  rintro _ ⟨la, rfl, _⟩
  (conv => whnf)
  refine ⟨(2 : Int), rfl, by show (2 : Int) < _; omega, ?_⟩
  rintro _ ⟨al, rfl, _⟩
  (conv => whnf)
  refine ⟨(2 : Int), rfl, by show (2 : Int) < _; omega, ?_⟩
  rintro _ ⟨wd, rfl, hw⟩
  have hw := dr_lt hw (by show (0 : Int) < 2; omega)
  have hw : (wd : Int) < 2 := hw
  (conv => whnf)
  refine ⟨by unfold small; omega, ?_⟩
  show wpFor _ _ _ (rng 0 _) _
  rw [Int.toNat_natCast]
  refine wpFor_rng 0 n (fun i Γ => ∃ (ss : List Sta) (b c : Sl), Γ = [.im .tok, .im (.int n), .im (.int 2), .im (.int la), .im (.int al), .im (.int wd), .ow (ss.map eS), b, c] ∧ ss.length = i ∧ ∀ s ∈ ss, s.1 ≤ 1 ∧ s.2 ≤ 3) ?_ ?_ ⟨[], _, _, rfl, rfl, fun c hc => absurd hc List.not_mem_nil⟩
  · rintro i Γ N hi ⟨ss, b, c, rfl, h1, h2⟩ hN
    rw [Int.zero_add]
    have put : ∀ (l w : Nat) b' c', l ≤ 1 → w ≤ 3 → N [.im .tok, .im (.int n), .im (.int 2), .im (.int la), .im (.int al), .im (.int wd), .ow (ss.map eS ++ [eS (l, w)]), b', c'] := fun l w b' c' hl hw => by
      refine hN _ ⟨ss ++ [(l, w)], b', c', by rw [List.map_append] <;> rfl, by rw [List.length_append, h1] <;> rfl, fun x hx => ?_⟩
      rcases List.mem_append.mp hx with hx | hx
      · exact h2 x hx
      · rw [List.mem_singleton.mp hx]
        exact ⟨hl, hw⟩
    (conv => whnf)
    refine ⟨fun q1 => ?_, fun q1 => ?_⟩
    · (conv => whnf)
      refine ⟨(2 : Int), rfl, by show (2 : Int) < _; omega, ?_⟩
      rintro _ ⟨w2, rfl, hw2⟩
      have hw2 := dr_lt hw2 (by show (0 : Int) < 2; omega)
      have hw2 : (w2 : Int) < 2 := hw2
      (conv => whnf)
      refine ⟨fun h => ?_, fun h => ?_⟩
      · (conv => whnf)
        exact ⟨by rw [List.length_map]; omega, put 1 w2 _ _ (by omega) (by omega)⟩
      · (conv => whnf)
        exact ⟨by rw [List.length_map]; omega, put 0 w2 _ _ (by omega) (by omega)⟩
    · (conv => whnf)
      refine ⟨fun h => ?_, fun h => ?_⟩
      · (conv => whnf)
        exact ⟨by rw [List.length_map]; omega, put 1 wd _ _ (by omega) (by omega)⟩
      · (conv => whnf)
        exact ⟨by rw [List.length_map]; omega, put 0 wd _ _ (by omega) (by omega)⟩
  · rintro Γ ⟨ss, b, c, rfl, h1, h2⟩
    (conv => whnf)
    exact ⟨ss, rfl, h1, h2⟩
end LV
set_option Elab.async false
set_option linter.all false
set_option maxRecDepth 100000
set_option maxHeartbeats 4000000
namespace LV
open PySem PySem.Spec PyProof.Rows L2
def eHl (h : List Hr) : D := .lst (h.map eH)
def HrOk (n i : Nat) (h : List Hr) : Prop := h.length ≤ i ∧ ∀ x ∈ h, x.1 < n ∧ pSm x.2
def c_law_heard : Ct := ⟨2, Nat × List Bd, fun g => [eBds g.2, .int g.1], fun g => g.1 ≤ 4 ∧ BdOk g.1 g.2, fun g d => ∃ hs : List (List Hr), d = .lst (hs.map eHl) ∧ hs.length = g.1 ∧ ∀ h ∈ hs, HrOk g.1 13 h, fun _ => rfl⟩
theorem ix_eA {i : Int} {a b : D} {xs : List D} {Q : D → Prop} (h : atI (a :: b :: xs) i = some a) (q : Q a) : atD (a :: b :: xs) i Q := ⟨a, h, q⟩
theorem f_law_heard {P : Program} {w : World} {K : PySem.W.Frag} {mg : Str → Option Value} {base : Heap} (W : Wd K mg) : Fn P w K mg base 1 "_law_heard" c_law_heard := by
  refine W.fn 43 (d := HH.d_law_heard) rfl rfl 33 rfl ["_law_links_here", "_law_n"] rfl rfl (fun _ _ _ _ _ _ us h => by match us, h with | [a0, a1], _ => rfl) fun f fd F => ?_
  have S : FnScope ["_law_links_here", "_law_n", "_law_found", "_law_k", "_law_link", "_law_row"] ["_law_links_here", "_law_n"] HH.d_law_heard.scope := C8.fnScope_by (by decide +kernel)
  have B := W.gb
  refine fn_ok (N := ["_law_links_here", "_law_n", "_law_found", "_law_k", "_law_link", "_law_row"]) (k := 0) F S rfl (fun cdv A outer s H E hr => ⟨_, (vb_cons (vs_onLc (i := 2) (own := [("_law_k", 3)]) rfl S.nd (VI.own (vi_rng1 B.range (va_cons (vv 1) va_nil))) (by rfl) (fun _ _ _ _ _ => (vg_name 3 S.nd)) (sw_true rfl rfl rfl (by decide +kernel)))
 (vb_cons (vs_for PassesOwn.never rfl (vi_tup (vv 0)) (vg_name 4 S.nd)
 (vb_row 2 5 S.nd (v_ix (vv 4) v_int) (v_tup (va_cons (v_ix (vv 4) v_int) (va_cons (v_ix (vv 4) v_int) va_nil))) (vb_one (vs_if (vt_cmp (v_neI (v_ix (vv 4) v_int) (v_ix (vv 4) v_int)))
 (vb_row 2 5 S.nd (v_ix (vv 4) v_int) (v_tup (va_cons (v_ix (vv 4) v_int) (va_cons (v_ix (vv 4) v_int) va_nil))) vb_nil)
 vb_nil))))
 (vb_frz 2 (vb_one (vs_ret (vv 2))))))⟩) ?_
  rintro ⟨n, ls⟩ ⟨hn4, hl1, hl2⟩
  dsimp only at hn4 hl1 hl2
  (conv => whnf)
  refine ⟨by unfold small; omega, ?_⟩
  have hrl : (rng 0 ((n : Int).toNat)).length = n := by
    unfold rng
    simp
  refine ⟨by show (rng 0 ((n : Int).toNat)).length ≤ _; omega, fun d _ => trivial, ?_⟩
  dsimp only
  rw [hrl]
  (conv => whnf)
  show wpFor _ _ _ (ls.map eBd) _
  refine wpFor_map eBd ls (fun i Γ => ∃ (hs : List (List Hr)) (a b c : Sl), Γ = [.im (eBds ls), .im (.int n), .on (hs.map fun h => h.map eH), a, b, c] ∧ hs.length = n ∧ i ≤ 13 ∧ ∀ h ∈ hs, HrOk n i h) ?_ ?_ ⟨List.replicate n [], _, _, _, by rw [List.map_replicate] <;> rfl, by simp, by omega, fun h hh => by rw [(List.mem_replicate.mp hh).2]; exact ⟨Nat.le_refl _, fun x hx => absurd hx List.not_mem_nil⟩⟩
  · rintro i l Γ N hil ⟨hs, a, b, c, rfl, h1, _, h2⟩ hN
    have hi13 : i < 13 := Nat.lt_of_lt_of_le (List.getElem?_eq_some_iff.mp hil).1 hl1
    obtain ⟨x, y, s⟩ := l
    obtain ⟨hx, hy, hsm⟩ := hl2 _ (List.mem_of_getElem? hil)
    dsimp only at hx hy hsm
    have hml : (hs.map fun h => h.map eH).length = n := by rw [List.length_map]; exact h1
    have hrow : hs[x]? = some (hs[x]'(by omega)) := List.getElem?_eq_getElem (by omega)
    have hok1 := h2 _ (List.getElem_mem (show x < hs.length by omega))
    generalize hs[x]'(by omega) = rw1 at hrow hok1
    (conv => whnf)
    refine ⟨_, rfl, by decide, by simp, ?_⟩
    refine ⟨_, at_0, ?_⟩
    refine ⟨x, _, ixN_cast (by rw [hml]; exact hx), by rw [List.getElem?_map, hrow] <;> rfl, ?_⟩
    (conv => whnf)
    refine ⟨_, at_1, ?_⟩
    (conv => whnf)
    refine ⟨_, at_2, ?_⟩
    refine ⟨by rw [List.length_map]; have := hok1.1; omega, ?_⟩
    have e1 : (hs.map fun h => h.map eH).set x (rw1.map eH ++ [eH (y, s)]) = (hs.set x (rw1 ++ [(y, s)])).map fun h => h.map eH := by
      rw [← set_map, List.map_append] <;> rfl
    have ok1 : HrOk n (i + 1) (rw1 ++ [(y, s)]) := ⟨by rw [List.length_append]; exact Nat.succ_le_succ hok1.1, fun z hz => by
      rcases List.mem_append.mp hz with hz | hz
      · exact hok1.2 z hz
      · rw [List.mem_singleton.mp hz]
        exact ⟨hy, hsm⟩⟩
    have ok2 : ∀ h ∈ hs.set x (rw1 ++ [(y, s)]), HrOk n (i + 1) h := fun h hh => by
      rcases List.mem_or_eq_of_mem_set hh with hh | rfl
      · exact ⟨Nat.le_succ_of_le (h2 h hh).1, (h2 h hh).2⟩
      · exact ok1
    (conv => whnf)
    refine ⟨_, at_0, ?_⟩
    (conv => whnf)
    refine ⟨_, at_1, ?_⟩
    refine ⟨fun q => ?_, fun q => ?_⟩
    rotate_left
    · refine hN _ ⟨hs.set x (rw1 ++ [(y, s)]), a, _, .no, congrArg (fun z => [_, _, Sl.on z, a, _, Sl.no]) e1, by rw [List.length_set]; exact h1, by omega, ok2⟩
    have q : x ≠ y := fun z => q (by rw [z])
    have hrow2 : (hs.set x (rw1 ++ [(y, s)]))[y]? = some (hs[y]'(by omega)) := by
      rw [List.getElem?_set_ne q]
      exact List.getElem?_eq_getElem (by omega)
    have hok2 := h2 _ (List.getElem_mem (show y < hs.length by omega))
    generalize hs[y]'(by omega) = rw2 at hrow2 hok2
    (conv => whnf)
    refine ⟨_, rfl, by decide, by simp, ?_⟩
    refine ⟨_, at_1, ?_⟩
    refine ⟨y, rw2.map eH, ?_, ?_, ?_⟩
    · show ixN ((hs.map fun h => h.map eH).set x (rw1.map eH ++ [eH (y, s)])).length _ = _
      rw [e1]
      exact ixN_cast (by rw [List.length_map, List.length_set, h1]; exact hy)
    · show ((hs.map fun h => h.map eH).set x (rw1.map eH ++ [eH (y, s)]))[y]? = _
      rw [e1, List.getElem?_map, hrow2] <;> rfl
    (conv => whnf)
    refine ⟨_, at_0, ?_⟩
    (conv => whnf)
    refine ⟨_, at_2, ?_⟩
    refine ⟨by rw [List.length_map]; have := hok2.1; omega, ?_⟩
    have e2 : ((hs.map fun h => h.map eH).set x (rw1.map eH ++ [eH (y, s)])).set y (rw2.map eH ++ [eH (x, s)]) = ((hs.set x (rw1 ++ [(y, s)])).set y (rw2 ++ [(x, s)])).map fun h => h.map eH := by
      have e3 : rw2.map eH ++ [eH (x, s)] = (rw2 ++ [(x, s)]).map eH := by rw [List.map_append] <;> rfl
      rw [e1, e3]
      exact set_map (fun h : List Hr => h.map eH) _ _ _
    refine hN _ ⟨(hs.set x (rw1 ++ [(y, s)])).set y (rw2 ++ [(x, s)]), a, _, .no, congrArg (fun z => [_, _, Sl.on z, a, _, Sl.no]) e2, by rw [List.length_set, List.length_set]; exact h1, by omega, fun h hh => ?_⟩
    rcases List.mem_or_eq_of_mem_set hh with hh | rfl
    · exact ok2 h hh
    · refine ⟨by rw [List.length_append]; exact Nat.succ_le_succ hok2.1, fun z hz => ?_⟩
      rcases List.mem_append.mp hz with hz | hz
      · exact hok2.2 z hz
      · rw [List.mem_singleton.mp hz]
        exact ⟨hx, hsm⟩
  · rintro Γ ⟨hs, a, b, c, rfl, h1, h3, h2⟩
    (conv => whnf)
    refine ⟨hs, ?_, h1, fun h hh => ⟨Nat.le_trans (h2 h hh).1 h3, (h2 h hh).2⟩⟩
    show D.lst ((hs.map fun h => h.map eH).map D.lst) = _
    rw [List.map_map] <;> rfl
def NdOk (m : Nat) (n : Node) : Prop := n.1 < m ∧ (∀ h ∈ n.2, h.1 < m ∧ pAm h.2) ∧ (n.2.map (·.1)).Pairwise (· < ·)
def fHr (h : Hr) : Key × D := (kI h.1, eA h.2)
def c_law_standing : Ct := ⟨3, Nat × List Nat × Nat × List Hr, fun g => [eLn g.2.1, .int g.2.2.1, eHl g.2.2.2], fun g => g.2.1.length ≤ 4 ∧ (∀ y ∈ g.2.1, y < g.1) ∧ g.2.2.1 < g.2.1.length ∧ HrOk g.2.1.length 13 g.2.2.2, fun g d => ∃ nd : Node, d = eN nd ∧ NdOk g.1 nd, fun _ => rfl⟩
theorem pP.mono {k m : Nat} {a : Amt} (h : pP k a) (l : k ≤ m) : pP m a := ⟨h.top, h.bot, Nat.lt_of_lt_of_le h.b1 (Nat.pow_le_pow_right (by decide) l), Nat.lt_of_lt_of_le h.b2 (Nat.pow_le_pow_right (by decide) l)⟩
theorem pAm_of {k : Nat} {a : Amt} (h : pP k a) (l : k ≤ 240) (g : Int.gcd a.1 a.2 = 1) : pAm a := ⟨(h.mono l).top, (h.mono l).bot, (h.mono l).b1, (h.mono l).b2, g⟩
theorem f_law_standing {P : Program} {w : World} {K : PySem.W.Frag} {mg : Str → Option Value} {base : Heap} (W : Wd K mg) : Fn P w K mg base 3 "_law_standing" c_law_standing := by
  refine W.fn 45 (d := HH.d_law_standing) rfl rfl 35 rfl ["_law_numbers", "_law_house", "_law_heard_here"] rfl rfl (fun _ _ _ _ _ _ us h => by match us, h with | [a0, a1, a2], _ => rfl) fun f fd F => ?_
  have S : FnScope ["_law_numbers", "_law_house", "_law_heard_here", "_law_sums_here", "_law_pair", "_law_number"] ["_law_numbers", "_law_house", "_law_heard_here"] HH.d_law_standing.scope := C8.fnScope_by (by decide +kernel)
  have B := W.gb
  have G_law_plus := f_law_plus (P := P) (w := w) (base := base) W
  refine fn_ok (N := ["_law_numbers", "_law_house", "_law_heard_here", "_law_sums_here", "_law_pair", "_law_number"]) (k := 2) F S rfl (fun cdv A outer s H E hr => ⟨_, (vb_cons (vs_dictK (i := 3) S.nd)
 (vb_cons (vs_for PassesOwn.never rfl (vi_list (vv 2)) (vg_name 4 S.nd)
 (vb_cons (vs_set (i := 5) S.nd (v_ix (vv 0) (v_ix (vv 4) v_int)))
 (vb_one (vs_dputK hr 3 (vv 5) (v_ifx (vt_cmp (v_inDK hr 3 (vv 5))) (v_call G_law_plus hr (va_cons (v_dixK hr 3 (vv 5)) (va_cons (v_ix (vv 4) v_int) va_nil))) (v_ix (vv 4) v_int))))))
 (vb_one (vs_ret (v_tup (va_cons (v_ix (vv 0) (vv 1)) (va_cons (v_tuple B.tuple (ve_of (vl_sorted hr B.sorted (ve_of (vl_lcdK (own := [("_law_number", 5)]) rfl S.nd 3 (by rfl) (fun _ _ _ _ _ => (vg_name 5 S.nd)) (fun _ _ _ _ _ => vq_nil) (fun _ _ _ _ _ => (v_tup (va_cons (vv 5) (va_cons (v_dixK hr 3 (vv 5)) va_nil))))))))) va_nil)))))))⟩) ?_
  rintro ⟨m, ns, ho, hs⟩ ⟨h1, h2, h3, h4, h5⟩
  dsimp only at h1 h2 h3 h4 h5
  (conv => whnf)
  show wpFor _ _ _ (hs.map eH) _
  refine wpFor_map eH hs (fun i Γ => ∃ (es : List Hr) (a b : Sl), Γ = [.im (eLn ns), .im (.int ho), .im (eHl hs), .od (es.map fHr), a, b] ∧ es.length ≤ i ∧ i ≤ 13 ∧ (es.map fun e => (fHr e).1).Nodup ∧ ∀ e ∈ es, e.1 < m ∧ pP (18 * i) e.2 ∧ Int.gcd e.2.1 e.2.2 = 1) ?_ ?_ ⟨[], _, _, rfl, Nat.le_refl _, by omega, List.nodup_nil, fun e he => absurd he List.not_mem_nil⟩
  · rintro i ⟨x, s⟩ Γ N hi ⟨es, a, b, rfl, h6, _, h7, h8⟩ hN
    have hi13 : i < 13 := Nat.lt_of_lt_of_le (List.getElem?_eq_some_iff.mp hi).1 h4
    obtain ⟨hx, hsm⟩ := h5 _ (List.mem_of_getElem? hi)
    dsimp only at hx hsm
    (conv => whnf)
    refine ⟨_, at_0, ?_⟩
    have hy := h2 _ (List.getElem_mem hx)
    refine ⟨_, at_map (List.getElem?_eq_getElem hx), ?_⟩
    generalize ns[x] = y at hy
    have put : ∀ a' (z : Amt) b', pP (18 * (i + 1)) z → Int.gcd z.1 z.2 = 1 → N [.im (eLn ns), .im (.int ho), .im (eHl hs), .od (putD (es.map fHr) (kI (y : Nat)) (eA z)), a', b'] := fun a' z b' hz1 hz2 => by
      obtain ⟨es', e1, e2, e3, e4⟩ := putD_map (f := fHr) es (y, z)
      refine hN _ ⟨es', a', b', congrArg (fun z => [_, _, _, Sl.od z, _, _]) e1, by omega, by omega, e4 h7, fun e he => ?_⟩
      rcases e3 e he with he | rfl
      · obtain ⟨w1, w2, w3⟩ := h8 e he
        exact ⟨w1, w2.mono (by omega), w3⟩
      · exact ⟨hy, hz1, hz2⟩
    (conv => whnf)
    refine ⟨⟨_, rfl⟩, ?_⟩
    (conv => whnf)
    refine ⟨_, _, rfl, rfl, fun d' hd' => ?_, fun hd' => ?_⟩
    · (conv => whnf)
      obtain ⟨e', h9, h10, h11⟩ : ∃ e' ∈ es, (fHr e').1 = kI (y : Nat) ∧ valD (es.map fHr) (kI (y : Nat)) = some (fHr e').2 := valD_in (by
        have hd' : valD (es.map fHr) (kI (y : Nat)) = some d' := hd'
        unfold valD at hd'
        obtain ⟨kv, hk1, hk2⟩ := Option.map_eq_some_iff.mp hd'
        obtain ⟨e, he, rfl⟩ := List.mem_map.mp (List.mem_of_find?_eq_some hk1)
        have hk3 := List.find?_some (p := fun kv : Key × D => decide (kv.1 = kI (y : Nat))) hk1
        exact ⟨e, he, of_decide_eq_true hk3⟩)
      obtain ⟨w1, w2, w3⟩ := h8 e' h9
      refine ⟨_, _, rfl, rfl, ?_⟩
      (conv => whnf)
      refine ⟨_, h11, ?_⟩
      (conv => whnf)
      refine ⟨_, at_1, ?_⟩
      refine ⟨(e'.2, s), rfl, ⟨w2.mono (by omega), hsm.1.mono (by omega)⟩, ?_⟩
      rintro _ rfl
      (conv => whnf)
      refine ⟨_, rfl, by rw [List.length_map]; omega, ?_⟩
      obtain ⟨p1, p2⟩ := plusI_ok w2 hsm.1
      exact put _ _ _ (p1.mono (by omega)) p2
    · (conv => whnf)
      refine ⟨_, at_1, ?_⟩
      (conv => whnf)
      refine ⟨_, rfl, by rw [List.length_map]; omega, ?_⟩
      exact put _ _ _ (hsm.1.mono (by omega)) hsm.2
  · rintro Γ ⟨es, a, b, rfl, h6, h13, h7, h8⟩
    (conv => whnf)
    refine ⟨_, at_map (List.getElem?_eq_getElem h3), ?_⟩
    have hy := h2 _ (List.getElem_mem h3)
    generalize ns[ho] = y at hy
    (conv => whnf)
    refine ⟨_, rfl, _, rfl, es.map fun e => (e.1 : Int), by rw [List.map_map, List.map_map] <;> rfl, ?_⟩
    rw [List.map_map]
    refine wpLc_rel (fun e : Hr => D.int e.1) eH (fun e z => z.1 = e.1 ∧ pAm z.2) es [] (by simp; omega) (fun e he N M hN => ?_) fun zs hz1 hz2 => ?_
    · (conv => whnf)
      refine ⟨_, _, rfl, rfl, ?_⟩
      obtain ⟨e', h9, h10, h11⟩ := valD_in (f := fHr) (k := kI (e.1 : Int)) ⟨e, he, rfl⟩
      (conv => whnf)
      refine ⟨_, h11, ?_⟩
      obtain ⟨w1, w2, w3⟩ := h8 e' h9
      exact hN (e.1, e'.2) ⟨rfl, pAm_of w2 (by omega) w3⟩
    (conv => whnf)
    rw [List.nil_append]
    refine ⟨fam_H.sb zs, ?_⟩
    rw [srt_map]
    (conv => whnf)
    have zz : ∀ i (h : i < zs.length), zs[i].1 = (es[i]'(by omega)).1 ∧ pAm zs[i].2 := fun i h => hz2 i _ _ (List.getElem?_eq_getElem (by omega)) (List.getElem?_eq_getElem h)
    have ef : zs.map (·.1) = es.map (·.1) := List.ext_getElem (by simpa using hz1) fun i g1 g2 => by
      rw [List.getElem_map, List.getElem_map]
      exact (zz i (by simpa using g1)).1
    have nd : (zs.map (·.1)).Nodup := by
      rw [ef]
      have e0 : es.map (fun e => (fHr e).1) = (es.map (·.1)).map fun y : Nat => kI (y : Nat) := by rw [List.map_map] <;> rfl
      rw [e0] at h7
      exact List.Pairwise.imp (fun {a b} h z => h (congrArg (fun y : Nat => kI (y : Nat)) z)) (List.pairwise_map.mp h7)
    refine ⟨(y, srt eH zs), rfl, hy, fun h hh => ?_, srt_asc nd⟩
    obtain ⟨i, hi, rfl⟩ := List.mem_iff_getElem.mp (srt_mem.mp hh)
    obtain ⟨q1, q2⟩ := zz i hi
    rw [q1]
    exact ⟨(h8 _ (List.getElem_mem (show i < es.length by omega))).1, q2⟩
end LV
set_option Elab.async false
set_option linter.all false
set_option maxRecDepth 100000
set_option maxHeartbeats 4000000
/-! M12: a list without what stands twice; one more level on a view. -/
namespace LV
open PySem PySem.Spec PyProof.Rows L2 PySem.W
theorem pl4_N (n : Node) : pl 4 (eN n) := fun x hx => by
  rcases List.mem_cons.mp hx with rfl | hx
  · trivial
  · rw [List.mem_singleton.mp hx]
    intro y hy
    obtain ⟨h, _, rfl⟩ := List.mem_map.mp hy
    intro z hz
    rcases List.mem_cons.mp hz with rfl | hz
    · trivial
    · rw [List.mem_singleton.mp hz]
      intro w hw
      rcases List.mem_cons.mp hw with rfl | hw
      · trivial
      · rw [List.mem_singleton.mp hw]
        trivial
theorem pl4_S (s : Sta) : pl 4 (eS s) := fun x hx => by
  rcases List.mem_cons.mp hx with rfl | hx
  · trivial
  · rw [List.mem_singleton.mp hx]
    trivial
structure Dd (ys us : List D) (i : Nat) : Prop where
  len : us.length ≤ i
  pw : us.Pairwise fun a b => dlt a b = true
  sub : ∀ u ∈ us, u ∈ ys.take i
  sup : ∀ y ∈ ys.take i, y ∈ us
theorem Dd.nil (ys : List D) : Dd ys [] 0 := ⟨Nat.le_refl _, List.Pairwise.nil, fun u h => absurd h List.not_mem_nil, fun y h => absurd h (by rw [List.take_zero]; exact List.not_mem_nil)⟩
theorem take_lt {ys : List D} (hp : ys.Pairwise fun a b => dle a b = true) {i : Nat} {y u : D} (hy : ys[i]? = some y) (hu : u ∈ ys.take i) : dle u y = true := by
  obtain ⟨j, hj, rfl⟩ := List.mem_iff_getElem.mp hu
  rw [List.length_take] at hj
  rw [List.getElem_take]
  obtain ⟨hi, e⟩ := List.getElem?_eq_some_iff.mp hy
  rw [← e]
  exact List.pairwise_iff_getElem.mp hp j i (by omega) hi (by omega)
theorem mem_take1 {ys : List D} {i : Nat} {y u : D} (hy : ys[i]? = some y) : u ∈ ys.take (i + 1) ↔ u ∈ ys.take i ∨ u = y := by
  rw [take_one hy, List.mem_append, List.mem_singleton]
theorem Dd.add {ys us : List D} {i : Nat} {y : D} (h : Dd ys us i) (hp : ys.Pairwise fun a b => dle a b = true) (hpl : ∀ x ∈ ys, pl 40 x) (hal : ∀ x ∈ ys, ∀ z ∈ ys, alike (toP x) (toP z) = true) (hy : ys[i]? = some y)
    (hl : us = [] ∨ ∃ r z, us = r ++ [z] ∧ z ≠ y) : Dd ys (us ++ [y]) (i + 1) := by
  have lt : ∀ u ∈ us, dlt u y = true := fun u hu => by
    rcases hl with rfl | ⟨r, z, rfl, ne⟩
    · exact absurd hu List.not_mem_nil
    · have mz := h.sub z (List.mem_append.mpr (.inr List.mem_cons_self))
      have lz := take_lt hp hy mz
      have sz := dlt_of (hpl _ (List.mem_of_mem_take mz)) (hpl _ (List.mem_of_getElem? hy)) (hal _ (List.mem_of_mem_take mz) _ (List.mem_of_getElem? hy)) lz ne
      rcases List.mem_append.mp hu with hu | hu
      · exact dlt_trans ((List.pairwise_append.mp h.pw).2.2 u hu z List.mem_cons_self) sz
      · rw [List.mem_singleton.mp hu]
        exact sz
  refine ⟨by rw [List.length_append]; exact Nat.succ_le_succ h.len, List.pairwise_append.mpr ⟨h.pw, List.pairwise_singleton _ _, fun u hu b hb => ?_⟩, fun u hu => ?_, fun u hu => ?_⟩
  · rw [List.mem_singleton.mp hb]
    exact lt u hu
  · rcases List.mem_append.mp hu with hu | hu
    · exact (mem_take1 hy).mpr (.inl (h.sub u hu))
    · exact (mem_take1 hy).mpr (.inr (List.mem_singleton.mp hu))
  · rcases (mem_take1 hy).mp hu with hu | rfl
    · exact List.mem_append.mpr (.inl (h.sup u hu))
    · exact List.mem_append.mpr (.inr List.mem_cons_self)
theorem Dd.same {ys us : List D} {i : Nat} {y : D} (h : Dd ys us i) (hy : ys[i]? = some y) (hm : y ∈ us) : Dd ys us (i + 1) :=
  ⟨Nat.le_succ_of_le h.len, h.pw, fun u hu => (mem_take1 hy).mpr (.inl (h.sub u hu)), fun u hu => by
    rcases (mem_take1 hy).mp hu with hu | rfl
    · exact h.sup u hu
    · exact hm⟩
/-- what has a form, as a list of that form -/
theorem map_back {α : Type} {en : α → D} {xs : List α} : ∀ {us : List D}, (∀ u ∈ us, u ∈ xs.map en) → ∃ ys : List α, us = ys.map en ∧ ∀ y ∈ ys, y ∈ xs
  | [], _ => ⟨[], rfl, fun y h => absurd h List.not_mem_nil⟩
  | u :: us, h => by
    obtain ⟨y, h1, rfl⟩ := List.mem_map.mp (h u List.mem_cons_self)
    obtain ⟨ys, rfl, h2⟩ := map_back (us := us) fun v hv => h v (List.mem_cons_of_mem _ hv)
    exact ⟨y :: ys, rfl, fun z hz => (List.mem_cons.mp hz).elim (fun e => e ▸ h1) (h2 z)⟩
/-- one more level -/
def push (v : Vw) (l : List Node) : Vw := ⟨v.st, v.up ++ [l]⟩
theorem push_len (v : Vw) (l : List Node) : (push v l).up.length = v.up.length + 1 := by simp [push]
theorem push_sz {v : Vw} {l : List Node} {k : Nat} (h : k ≤ v.up.length) : sz (push v l) k = sz v k := by
  cases k with
  | zero => rfl
  | succ k =>
    show ((v.up ++ [l])[k]?.getD []).length = (v.up[k]?.getD []).length
    rw [List.getElem?_append_left (by omega)]
theorem push_top (v : Vw) (l : List Node) : sz (push v l) (v.up.length + 1) = l.length := by
  show ((v.up ++ [l])[v.up.length]?.getD []).length = _
  rw [List.getElem?_append_right (Nat.le_refl _), Nat.sub_self] <;> rfl
theorem push_good {v : Vw} {l : List Node} (g : Good v) (h : v.up.length < 8) (gl : GoodL (sz v v.up.length) l) : Good (push v l) where
  lo := g.lo
  hi := g.hi
  stv := g.stv
  sts := g.sts
  rounds := by rw [push_len]; omega
  ups := fun k l' hk => by
    have hk : (v.up ++ [l])[k]? = some l' := hk
    by_cases q : k < v.up.length
    · rw [List.getElem?_append_left q] at hk
      rw [push_sz (by omega)]
      exact g.ups k l' hk
    · rw [List.getElem?_append_right (by omega)] at hk
      have e : k = v.up.length := by
        have := (List.getElem?_eq_some_iff.mp hk).1
        simp at this
        omega
      subst e
      rw [Nat.sub_self] at hk
      cases hk
      rw [push_sz (Nat.le_refl _)]
      exact gl
/-- the places of houses in a view's levels -/
def SeatOk (n : Nat) (v : Vw) (ss : List (List Nat)) : Prop := ∀ k row, ss[k]? = some row → row.length = n ∧ ∀ y ∈ row, y < sz v k
def lvK (v : Vw) : List D := .lst (v.st.map eS) :: v.up.map fun l => .lst (l.map eN)
theorem lvK_push (v : Vw) (l : List Node) : lvK (push v l) = lvK v ++ [.lst (l.map eN)] := by
  unfold lvK push
  rw [List.map_append] <;> rfl
theorem lvK_len (v : Vw) : (lvK v).length = v.up.length + 1 := by simp [lvK]
end LV
set_option Elab.async false
set_option linter.all false
set_option maxRecDepth 100000
set_option maxHeartbeats 4000000
namespace LV
open PySem PySem.Spec PyProof.Rows L2
def stD (ss : List Sta) : D := .lst (ss.map eS)
def c_law_levels : Ct := ⟨2, List Sta × List (List Bd), fun g => [stD g.1, .lst (g.2.map eBds)], fun g => 1 ≤ g.1.length ∧ g.1.length ≤ 4 ∧ (∀ s ∈ g.1, s.1 ≤ 1 ∧ s.2 ≤ 3) ∧ g.2.length ≤ 8 ∧ ∀ c ∈ g.2, BdOk g.1.length c,
  fun g d => ∃ v ss, d = .tup [eKs false v, eLL ss] ∧ Good v ∧ v.up.length = g.2.length ∧ ss.length = g.2.length + 1 ∧ SeatOk g.1.length v ss, fun _ => rfl⟩
/-- rows ahead of round i, with the rounds before -/
def LvI (n i : Nat) (rows keys seats : List D) : Prop := rows.length = n ∧
  ((i = 0 ∧ keys = [] ∧ seats = [] ∧ ∃ rs : List Sta, rows = rs.map eS ∧ ∀ s ∈ rs, s.1 ≤ 1 ∧ s.2 ≤ 3) ∨
  ∃ v ss, i = v.up.length + 1 ∧ Good v ∧ keys = lvK v ∧ seats = ss.map eLn ∧ ss.length = i ∧ SeatOk n v ss ∧ ∃ nds : List Node, rows = nds.map eN ∧ ∀ nd ∈ nds, NdOk (sz v v.up.length) nd)
theorem LvI.sb {n i : Nat} {rows keys seats : List D} (h : LvI n i rows keys seats) : Sb rows ∧ ∀ r ∈ rows, pl 39 r := by
  obtain ⟨_, ⟨_, _, _, rs, rfl, _⟩ | ⟨v, ss, _, _, _, _, _, _, nds, rfl, _⟩⟩ := h
  · refine ⟨fam_S.sb rs, fun r hr => ?_⟩
    obtain ⟨s, _, rfl⟩ := List.mem_map.mp hr
    exact pl_mono (by omega) (pl4_S s)
  · refine ⟨fam_N.sb nds, fun r hr => ?_⟩
    obtain ⟨s, _, rfl⟩ := List.mem_map.mp hr
    exact pl_mono (by omega) (pl4_N s)
theorem LvI.next {n i : Nat} {rows keys seats us : List D} {st : List Nat} (h : LvI n i rows keys seats) (hn1 : 1 ≤ n) (hn4 : n ≤ 4) (hi : i ≤ 8) (hu1 : us.Pairwise fun a b => dlt a b = true) (hu2 : ∀ u ∈ us, u ∈ rows) (hu3 : ∀ r ∈ rows, r ∈ us) (hul : us.length ≤ n)
    (hst1 : st.length = n) (hst2 : ∀ y ∈ st, y < us.length) : ∃ v ss, v.up.length = i ∧ Good v ∧ keys ++ [.lst us] = lvK v ∧ seats ++ [eLn st] = ss.map eLn ∧ ss.length = i + 1 ∧ SeatOk n v ss ∧ ss[i]? = some st := by
  obtain ⟨h0, h⟩ := h
  have hne : 1 ≤ us.length := by
    have : rows ≠ [] := fun z => by rw [z] at h0; simp at h0; omega
    obtain ⟨r, hr⟩ := List.exists_mem_of_ne_nil _ this
    exact List.length_pos_of_mem (hu3 r hr)
  obtain ⟨rfl, rfl, rfl, rs, rfl, hrs⟩ | ⟨v, ss, rfl, g, rfl, rfl, hss, hso, nds, rfl, hnd⟩ := h
  · obtain ⟨us, rfl, hus⟩ := map_back hu2
    rw [List.length_map] at hne hul hst2
    refine ⟨⟨us, []⟩, [st], rfl, ⟨hne, by show us.length ≤ 4; omega, fun s hs => hrs s (hus s hs), List.pairwise_map.mp hu1, Nat.zero_le _, fun k l hk => by cases hk⟩, rfl, rfl, rfl, fun k row hk => ?_, rfl⟩
    cases k with
    | zero =>
      cases hk
      exact ⟨hst1, hst2⟩
    | succ k => cases hk
  · obtain ⟨us, rfl, hus⟩ := map_back hu2
    rw [List.length_map] at hne hul hst2
    have gl : GoodL (sz v v.up.length) us := ⟨hne, by omega, fun n hn => (hnd n (hus n hn)).1, fun n hn => (hnd n (hus n hn)).2.1, fun n hn => (hnd n (hus n hn)).2.2, List.pairwise_map.mp hu1⟩
    refine ⟨push v us, ss ++ [st], push_len v us, push_good g (by omega) gl, (lvK_push v us).symm, by rw [List.map_append] <;> rfl, by rw [List.length_append, hss] <;> rfl, fun k row hk => ?_, by rw [← hss, List.getElem?_append_right (Nat.le_refl _), Nat.sub_self] <;> rfl⟩
    by_cases q : k < ss.length
    · rw [List.getElem?_append_left q] at hk
      obtain ⟨a, b⟩ := hso k row hk
      rw [push_sz (by omega)]
      exact ⟨a, b⟩
    · rw [List.getElem?_append_right (by omega)] at hk
      have e : k = ss.length := by
        have := (List.getElem?_eq_some_iff.mp hk).1
        simp at this
        omega
      subst e
      rw [Nat.sub_self] at hk
      cases hk
      rw [hss, push_top]
      exact ⟨hst1, hst2⟩
theorem at_lastD {r : List D} {z : D} : atI (r ++ [z]) (-1) = some z := by
  unfold atI ixN
  rw [List.length_append, if_neg (by omega), if_pos (by simp; omega)]
  show (r ++ [z])[(-1 + ((r.length + 1 : Nat) : Int)).toNat]? = some z
  rw [show (-1 + ((r.length + 1 : Nat) : Int)).toNat = r.length by omega, List.getElem?_append_right (Nat.le_refl _), Nat.sub_self] <;> rfl
theorem wpLc_relD {β : Type} {mg : Vg} {mt : Vt} {me : Vm} {Γ : Ev} {Q : List D → Prop} (eo : β → D) (R : D → β → Prop) (xs : List D) (hl : xs.length ≤ 1000000)
    (h : ∀ x ∈ xs, ∀ (N : D → Prop) (M : Prop), (∀ y, R x y → N (eo y)) → mg x Γ fun Γ' => mt Γ' fun b => if b = true then me Γ' N else M) (q : ∀ ys : List β, ys.length = xs.length → (∀ (i : Nat) x y, xs[i]? = some x → ys[i]? = some y → R x y) → Q (ys.map eo)) : wpLc mg mt me Γ Q xs [] := by
  have := wpLc_rel (mg := mg) (mt := mt) (me := me) (Γ := Γ) (Q := Q) (fun x : D => x) eo R xs [] (by simpa using hl) h fun ys h1 h2 => by rw [List.nil_append]; exact q ys h1 h2
  rwa [List.map_id'] at this
theorem f_law_levels {P : Program} {w : World} {K : PySem.W.Frag} {mg : Str → Option Value} {base : Heap} (W : Wd K mg) : Fn P w K mg base 4 "_law_levels" c_law_levels := by
  refine W.fn 44 (d := HH.d_law_levels) rfl rfl 34 rfl ["_law_starts_here", "_law_course_here"] rfl rfl (fun _ _ _ _ _ _ us h => by match us, h with | [a0, a1], _ => rfl) fun f fd F => ?_
  have S : FnScope ["_law_starts_here", "_law_course_here", "_law_rows", "_law_start_here", "_law_keys", "_law_seat", "_law_k", "_law_unlike", "_law_row", "_law_heard_here", "_law_house"] ["_law_starts_here", "_law_course_here"] HH.d_law_levels.scope := C8.fnScope_by (by decide +kernel)
  have B := W.gb
  have G_law_heard := f_law_heard (P := P) (w := w) (base := base) W
  have G_law_standing := f_law_standing (P := P) (w := w) (base := base) W
  refine fn_ok (N := ["_law_starts_here", "_law_course_here", "_law_rows", "_law_start_here", "_law_keys", "_law_seat", "_law_k", "_law_unlike", "_law_row", "_law_heard_here", "_law_house"]) (k := 3) F S rfl (fun cdv A outer s H E hr => ⟨_, (vb_cons (vs_setLc (i := 2) (own := [("_law_start_here", 3)]) rfl S.nd (VI.own (vi_list (vv 0))) (by rfl) (fun _ _ _ _ _ => (vg_name 3 S.nd)) (fun _ _ _ _ _ => vq_nil) (fun _ _ _ _ _ => (v_tup (va_cons (v_ix (vv 3) v_int) (va_cons (v_ix (vv 3) v_int) va_nil)))) (sw_true rfl rfl rfl (by decide +kernel)))
 (vb_cons (vs_own (i := 4) S.nd (vl_lst va_nil))
 (vb_cons (vs_own (i := 5) S.nd (vl_lst va_nil))
 (vb_cons (vs_for PassesOwn.never rfl (vi_rng1 B.range (va_cons (v_add (v_len B.len (vv 1)) v_int) va_nil)) (vg_name 6 S.nd)
 (vb_cons (vs_own (i := 7) S.nd (vl_lst va_nil))
 (vb_cons (vs_for PassesOwn.never rfl (vi_list (ve_of (vl_sorted hr B.sorted (vv 2)))) (vg_name 8 S.nd)
 (vb_one (vs_if (vt_of (vw_or (vt_cmp (v_eqO 7 hr (ve_of (vl_lst va_nil)))) (vw_or1 (vt_cmp (v_ne hr (v_ixO 7 (v_neg v_int)) (vv 8))))))
 (vb_one (vs_append 7 (vv 8)))
 vb_nil)))
 (vb_frz 7 (vb_cons (vs_append 4 (vv 7))
 (vb_cons (vs_append 5 (ve_of (vl_lc (own := [("_law_row", 8)]) rfl S.nd (VI.own (vi_list (vv 2))) (by rfl) (fun _ _ _ _ _ => (vg_name 8 S.nd)) (fun _ _ _ _ _ => vq_nil) (fun _ _ _ _ _ => (v_index hr (vv 7) (vv 8))))))
 (vb_cons (vs_if (vt_cmp (v_eqI (vv 6) (v_len B.len (vv 1))))
 (vb_frz 4 (vb_frz 5 (vb_one (vs_ret (v_tup (va_cons (vv 4) (va_cons (vv 5) va_nil)))))))
 vb_nil)
 (vb_cons (vs_set (i := 9) S.nd (v_call G_law_heard hr (va_cons (v_ix (vv 1) (vv 6)) (va_cons (v_len B.len (vv 0)) va_nil))))
 (vb_one (vs_setLc (i := 2) (own := [("_law_house", 10)]) rfl S.nd (VI.own (vi_rng1 B.range (va_cons (v_len B.len (vv 0)) va_nil))) (by rfl) (fun _ _ _ _ _ => (vg_name 10 S.nd)) (fun _ _ _ _ _ => vq_nil) (fun _ _ _ _ _ => (v_call G_law_standing hr (va_cons (v_ixO 5 (vv 6)) (va_cons (vv 10) (va_cons (v_ix (vv 9) (vv 10)) va_nil))))) (sw_true rfl rfl rfl (by decide +kernel))))))))))))
 (vb_frz 4 (vb_frz 5 (vb_one (vs_ret (v_tup (va_cons (vv 4) (va_cons (vv 5) va_nil)))))))))))⟩) ?_
  rintro ⟨rs, cs⟩ ⟨hn1, hn4, hrs, hcl, hcs⟩
  dsimp only at hn1 hn4 hrs hcl hcs
  (conv => whnf)
  show wpLc _ _ _ _ _ (rs.map eS) []
  refine wpLc_map eS eS rs (by omega) (fun s hs N M hN => ?_) ?_
  · (conv => whnf)
    refine ⟨_, at_0, ?_⟩
    (conv => whnf)
    refine ⟨_, at_1, ?_⟩
    exact hN
  (conv => whnf)
  have hcm : (cs.map eBds).length = cs.length := List.length_map _
  refine ⟨by show small (((cs.map eBds).length : Int) + 1); unfold small; omega, ?_⟩
  show wpFor _ _ _ (rng 0 _) _
  rw [show (((cs.map eBds).length : Int) + 1).toNat = cs.length + 1 by omega]
  refine wpFor_rng 0 (cs.length + 1) (fun i Γ => i ≤ cs.length ∧ ∃ (rows keys seats : List D) (a b c d e f : Sl), Γ = [.im (stD rs), .im (.lst (cs.map eBds)), .im (.lst rows), a, .ow keys, .ow seats, b, c, d, e, f] ∧ LvI rs.length i rows keys seats) ?_ (fun Γ ⟨h, _⟩ => absurd h (by omega)) ⟨Nat.zero_le _, rs.map eS, [], [], _, _, _, _, _, _, rfl, List.length_map _, .inl ⟨rfl, rfl, rfl, rs, rfl, hrs⟩⟩
  rintro i Γ N hi ⟨_, rows, keys, seats, a, b, c, d, e, f, rfl, inv⟩ hN
  rw [Int.zero_add]
  obtain ⟨sb, hp39⟩ := inv.sb
  have hrl := inv.1
  (conv => whnf)
  refine ⟨sb, ?_⟩
  have hpm := List.mergeSort_perm rows dle
  have hpw := sort_pw rows
  have hyl : (rows.mergeSort dle).length = rs.length := by rw [hpm.length_eq, hrl]
  have hym : ∀ x, x ∈ rows.mergeSort dle ↔ x ∈ rows := fun x => hpm.mem_iff
  generalize rows.mergeSort dle = ys at hpw hyl hym
  clear hpm
  refine wpFor_ix ys (fun j Γ => ∃ (us : List D) (d : Sl), Γ = [.im (stD rs), .im (.lst (cs.map eBds)), .im (.lst rows), a, .ow keys, .ow seats, .im (.int i), .ow us, d, e, f] ∧ Dd ys us j) ?_ ?_ ⟨[], _, rfl, Dd.nil ys⟩
  · rintro j y Γ N' hy ⟨us, d, rfl, dd⟩ hN'
    have hup : ∀ u ∈ us, pl 39 u := fun u hu => hp39 u ((hym u).mp (List.mem_of_mem_take (dd.sub u hu)))
    have hyp : pl 39 y := hp39 y ((hym y).mp (List.mem_of_getElem? hy))
    have hul : us.length ≤ 4 := by
      have := dd.len
      have := (List.getElem?_eq_some_iff.mp hy).1
      omega
    (conv => whnf)
    refine ⟨hup, fun d hd => absurd hd List.not_mem_nil, fun q => ?_, fun q => ?_⟩
    · have q : us = [] := D.lst.inj q
      (conv => whnf)
      refine ⟨by omega, ?_⟩
      exact hN' _ ⟨us ++ [y], .im y, rfl, dd.add hpw (fun x hx => sb.pl x ((hym x).mp hx)) (fun x hx z hz => sb.al x ((hym x).mp hx) z ((hym z).mp hz)) hy (.inl q)⟩
    · have q : us ≠ [] := fun z => q (congrArg D.lst z)
      obtain ⟨r, z, hrz⟩ : ∃ r z, us = r ++ [z] := ⟨us.dropLast, us.getLast q, (List.dropLast_concat_getLast q).symm⟩
      have hz : z ∈ us := by rw [hrz]; exact List.mem_append.mpr (.inr List.mem_cons_self)
      refine ⟨z, by rw [hrz]; exact at_lastD, ?_⟩
      (conv => whnf)
      have h40 : pl 40 z := pl_mono (by omega) (hup z hz)
      refine ⟨h40, pl_mono (by omega) hyp, fun q2 => ?_, fun q2 => ?_⟩
      · (conv => whnf)
        refine ⟨by omega, ?_⟩
        exact hN' _ ⟨us ++ [y], .im y, rfl, dd.add hpw (fun x hx => sb.pl x ((hym x).mp hx)) (fun x hx z hz => sb.al x ((hym x).mp hx) z ((hym z).mp hz)) hy (.inr ⟨r, z, hrz, q2⟩)⟩
      · have q2 := Classical.not_not.mp q2
        (conv => whnf)
        exact hN' _ ⟨us, .im y, rfl, dd.same hy (q2 ▸ hz)⟩
  · rintro Γ ⟨us, d, rfl, dd⟩
    have hu2 : ∀ u ∈ us, u ∈ rows := fun u hu => (hym u).mp (List.mem_of_mem_take (dd.sub u hu))
    have hu3 : ∀ r ∈ rows, r ∈ us := fun r hr => dd.sup r (by rw [List.take_length]; exact (hym r).mpr hr)
    have hul : us.length ≤ rs.length := by
      have := dd.len
      omega
    have hu1 := dd.pw
    clear dd hpw hym hyl ys
    have hks : keys.length ≤ 10 ∧ seats.length ≤ 10 := by
      obtain ⟨_, ⟨_, rfl, rfl, _⟩ | ⟨v, ss, h1, _, rfl, rfl, h2, _⟩⟩ := id inv
      · exact ⟨by decide, by decide⟩
      · rw [lvK_len, List.length_map]
        omega
    (conv => whnf)
    refine ⟨by omega, ?_⟩
    (conv => whnf)
    refine wpLc_relD eI (fun r j => us[j]? = some r) rows (by omega) (fun r hr N' M hN' => ?_) fun st hs1 hs2 => ?_
    · obtain ⟨j, hj, hje⟩ := List.mem_iff_getElem.mp (hu3 r hr)
      (conv => whnf)
      refine ⟨fun x hx => hp39 x (hu2 x hx), pl_mono (by omega) (hp39 r hr), j, by rw [List.getElem?_eq_getElem hj, hje], fun m hm z => ?_, hN' j (by rw [List.getElem?_eq_getElem hj, hje])⟩
      have := pair_at hu1 z (by rw [List.getElem?_eq_getElem hj, hje]) hm
      rw [dlt_irr] at this
      cases this
    have hst1 : st.length = rs.length := by rw [hs1, hrl]
    have hst2 : ∀ y ∈ st, y < us.length := fun y hy => by
      obtain ⟨j, hj, rfl⟩ := List.mem_iff_getElem.mp hy
      have := hs2 j (rows[j]'(by omega)) st[j] (List.getElem?_eq_getElem (by omega)) (List.getElem?_eq_getElem hj)
      exact (List.getElem?_eq_some_iff.mp this).1
    clear hs1 hs2
    obtain ⟨v, ss, w1, w2, w3, w4, w5, w6, w7⟩ := inv.next hn1 hn4 (by omega) hu1 hu2 hu3 hul hst1 hst2
    (conv => whnf)
    refine ⟨by omega, ?_⟩
    have hrm : (rs.map eS).length = rs.length := List.length_map _
    refine ⟨fun q => ?_, fun q => ?_⟩
    · have q : (i : Int) = ((cs.map eBds).length : Nat) := q
      (conv => whnf)
      refine ⟨v, ss, ?_, w2, by dsimp only; omega, by dsimp only; omega, w6⟩
      show D.tup [.lst (keys ++ [.lst us]), .lst (seats ++ [.lst (st.map eI)])] = _
      rw [w3, show seats ++ [D.lst (st.map eI)] = ss.map eLn from w4] <;> rfl
    have q : ¬ (i : Int) = ((cs.map eBds).length : Nat) := q
    have hic : i < cs.length := by omega
    have hbd := hcs _ (List.getElem_mem hic)
    (conv => whnf)
    refine ⟨_, at_map (List.getElem?_eq_getElem hic), ?_⟩
    generalize cs[i] = c0 at hbd
    refine ⟨(rs.length, c0), (by show [_, D.int ((rs.map eS).length : Nat)] = [_, D.int (rs.length : Nat)]; rw [hrm]), ⟨hn4, hbd⟩, ?_⟩
    rintro _ ⟨hs, rfl, hh1, hh2⟩
    dsimp only at hh1 hh2
    (conv => whnf)
    refine ⟨by show small (((rs.map eS).length : Nat) : Int); unfold small; omega, ?_⟩
    show wpLc _ _ _ _ _ (rng 0 _) []
    rw [show ((((rs.map eS).length : Nat) : Int)).toNat = rs.length by omega]
    refine wpLc_rel (fun i : Nat => D.int ((0 : Int) + (i : Nat))) eN (fun _ nd => NdOk (sz v v.up.length) nd) (List.range rs.length) [] (by simp; omega) (fun h hh N' M hN' => ?_) fun nds hd1 hd2 => ?_
    · have hh := List.mem_range.mp hh
      rw [Int.zero_add]
      (conv => whnf)
      have eSt : seats ++ [D.lst (st.map eI)] = ss.map eLn := w4
      refine ⟨_, (by rw [eSt]; exact at_map w7), ?_⟩
      (conv => whnf)
      have hh3 : h < hs.length := by omega
      refine ⟨_, at_map (List.getElem?_eq_getElem hh3), ?_⟩
      have hho := hh2 _ (List.getElem_mem hh3)
      refine ⟨(sz v v.up.length, st, h, hs[h]), rfl, ⟨by dsimp only; omega, fun y hy => ?_, by dsimp only; omega, by dsimp only; rw [hst1]; exact hho⟩, ?_⟩
      · rw [w1]
        exact (w6 i st w7).2 y hy
      · rintro _ ⟨nd, rfl, hnd⟩
        exact hN' nd hnd
    rw [List.length_range] at hd1
    refine hN _ ⟨by omega, nds.map eN, keys ++ [.lst us], seats ++ [.lst (st.map eI)], _, _, _, _, _, _, rfl, by rw [List.length_map]; exact hd1, .inr ⟨v, ss, by omega, w2, w3, w4, w5, w6, nds, rfl, fun nd hnd => ?_⟩⟩
    obtain ⟨j, hj, rfl⟩ := List.mem_iff_getElem.mp hnd
    exact hd2 j j _ (by rw [List.getElem?_range (by omega)]) (List.getElem?_eq_getElem hj)
end LV
set_option Elab.async false
set_option linter.all false
set_option maxRecDepth 100000
set_option maxHeartbeats 4000000
namespace LV
open PySem PySem.Spec PyProof.Rows L2
def c_law_real : Ct := ⟨2, Unit, fun _ => [.tok, .int 4], fun _ => True, fun _ d => ∃ w, d = eV w ∧ Full w, fun _ => rfl⟩
theorem f_law_real {P : Program} {w : World} {K : PySem.W.Frag} {mg : Str → Option Value} {base : Heap} (W : Wd K mg) : Fn P w K mg base 5 "_law_real" c_law_real := by
  refine W.fn 71 (d := HH.d_law_real) rfl rfl 61 rfl ["_law_d", "_law_most"] rfl rfl (fun _ _ _ _ _ _ us h => by match us, h with | [a0, a1], _ => rfl) fun f fd F => ?_
  have S : FnScope ["_law_d", "_law_most", "_law_n", "_law_rounds", "_law_course_here", "_law_keys", "_law_seat"] ["_law_d", "_law_most"] HH.d_law_real.scope := C8.fnScope_by (by decide +kernel)
  have B := W.gb
  have G_law_draw := f_law_draw (P := P) (w := w) (base := base) W
  have G_law_course := f_law_course (P := P) (w := w) (base := base) W
  have G_law_levels := f_law_levels (P := P) (w := w) (base := base) W
  have G_law_starts := f_law_starts (P := P) (w := w) (base := base) W
  have G_law_view := f_law_view (P := P) (w := w) (base := base) W
  refine fn_ok (N := ["_law_d", "_law_most", "_law_n", "_law_rounds", "_law_course_here", "_law_keys", "_law_seat"]) (k := 4) F S rfl (fun cdv A outer s H E hr => ⟨_, (vb_cons (vs_set (i := 2) S.nd (v_add v_int (v_call G_law_draw hr (va_cons (vv 0) (va_cons (vv 1) va_nil)))))
 (vb_cons (vs_set (i := 3) S.nd (v_call G_law_draw hr (va_cons (vv 0) (va_cons (v_add (v_mul v_int (vv 2)) v_int) va_nil))))
 (vb_cons (vs_set (i := 4) S.nd (v_call G_law_course hr (va_cons (vv 0) (va_cons (vv 2) (va_cons (vv 3) va_nil)))))
 (vb_cons (vs_asg (v_call G_law_levels hr (va_cons (v_call G_law_starts hr (va_cons (vv 0) (va_cons (vv 2) (va_cons v_int va_nil)))) (va_cons (vv 4) va_nil))) (vg_tup (n := 2) rfl (vgs_cons (vg_name 5 S.nd) (vgs_cons (vg_name 6 S.nd) vgs_nil))))
 (vb_one (vs_ret (v_call G_law_view hr (va_cons (vv 5) (va_cons (vv 6) (va_cons (v_call G_law_draw hr (va_cons (vv 0) (va_cons (vv 2) va_nil))) (va_cons (vv 3) va_nil)))))))))))⟩) ?_
  intro _ _
  (conv => whnf)
  refine ⟨(4 : Int), rfl, by show (4 : Int) < _; omega, ?_⟩
  rintro _ ⟨r, rfl, hr⟩
  have hr := dr_lt hr (by show (0 : Int) < 4; omega)
  have hr : (r : Int) < 4 := hr
  (conv => whnf)
  obtain ⟨n, hn⟩ : ∃ n : Nat, n = r + 1 := ⟨_, rfl⟩
  have hn1 : (1 : Int) + (r : Nat) = ((n : Nat) : Int) := by omega
  refine ⟨.inl (by decide), ?_⟩
  (conv => whnf)
  obtain ⟨k2, hk2⟩ : ∃ k2 : Int, k2 = 2 * ((1 : Int) + (r : Nat)) + 1 := ⟨_, rfl⟩
  refine ⟨k2, (by rw [hk2] <;> rfl), by show k2 < _; omega, ?_⟩
  rintro _ ⟨m, rfl, hm⟩
  have hm := dr_lt hm (by show (0 : Int) < k2; omega)
  have hm : (m : Int) < k2 := hm
  (conv => whnf)
  refine ⟨(n, m), (by show _ = [_, D.int ((n : Nat) : Int), _]; rw [← hn1] <;> rfl), ⟨by dsimp only; omega, by dsimp only; omega, by dsimp only; omega⟩, ?_⟩
  rintro _ ⟨cs, rfl, hc1, hc2⟩
  dsimp only at hc1 hc2
  (conv => whnf)
  refine ⟨n, (by show _ = [_, D.int ((n : Nat) : Int), _]; rw [← hn1] <;> rfl), ⟨by omega, by omega⟩, ?_⟩
  rintro _ ⟨ss, rfl, hs1, hs2⟩
  (conv => whnf)
  refine ⟨(ss, cs), rfl, ⟨by dsimp only; omega, by dsimp only; omega, hs2, by dsimp only; omega, by dsimp only; rw [hs1]; exact hc2⟩, ?_⟩
  rintro _ ⟨v, sl, rfl, g, h1, h2, h3⟩
  dsimp only at h1 h2 h3
  refine ⟨rfl, ?_⟩
  (conv => whnf)
  refine ⟨(n : Int), (by show _ = [_, D.int ((n : Nat) : Int)]; rw [← hn1] <;> rfl), by show (n : Int) < _; omega, ?_⟩
  rintro _ ⟨h, rfl, hh⟩
  have hh := dr_lt hh (by show (0 : Int) < (n : Nat); omega)
  have hh : h < n := by
    have hh : (h : Int) < (n : Nat) := hh
    omega
  have hm2 : m < sl.length := by omega
  obtain ⟨q1, q2⟩ := h3 m _ (List.getElem?_eq_getElem hm2)
  have hh2 : h < (sl[m]).length := by omega
  have hx := q2 _ (List.getElem_mem hh2)
  refine ⟨(false, v, sl, h, m, (sl[m])[h]), rfl, ⟨g, Nat.le_of_eq (hc1.symm.trans h1.symm), hx, _, List.getElem?_eq_getElem hm2, List.getElem?_eq_getElem hh2⟩, ?_⟩
  rintro _ rfl
  exact ⟨_, rfl, cut_full (r := m) g (Nat.le_of_eq (hc1.symm.trans h1.symm)) hx⟩
def c_law_any_nodes : Ct := ⟨2, Nat, fun b => [.tok, .int b], fun b => 1 ≤ b ∧ b ≤ 4, fun b d => ∃ l : List Node, d = .lst (l.map eN) ∧ GoodL b l, fun _ => rfl⟩
theorem f_law_any_nodes {P : Program} {w : World} {K : PySem.W.Frag} {mg : Str → Option Value} {base : Heap} (W : Wd K mg) : Fn P w K mg base 3 "_law_any_nodes" c_law_any_nodes := by
  refine W.fn 69 (d := HH.d_law_any_nodes) rfl rfl 59 rfl ["_law_d", "_law_below"] rfl rfl (fun _ _ _ _ _ _ us h => by match us, h with | [a0, a1], _ => rfl) fun f fd F => ?_
  have S : FnScope ["_law_d", "_law_below", "_law_found", "_law_k", "_law_parent", "_law_heard_here", "_law_w", "_law_node_here"] ["_law_d", "_law_below"] HH.d_law_any_nodes.scope := C8.fnScope_by (by decide +kernel)
  have B := W.gb
  have G_law_draw := f_law_draw (P := P) (w := w) (base := base) W
  have G_law_strength := f_law_strength (P := P) (w := w) (base := base) W
  refine fn_ok (N := ["_law_d", "_law_below", "_law_found", "_law_k", "_law_parent", "_law_heard_here", "_law_w", "_law_node_here"]) (k := 2) F S rfl (fun cdv A outer s H E hr => ⟨_, (vb_cons (vs_own (i := 2) S.nd (vl_lst va_nil))
 (vb_cons (vs_for PassesOwn.never rfl (vi_rng1 B.range (va_cons (v_add v_int (v_call G_law_draw hr (va_cons (vv 0) (va_cons v_int va_nil)))) va_nil)) (vg_name 3 S.nd)
 (vb_cons (vs_set (i := 4) S.nd (v_call G_law_draw hr (va_cons (vv 0) (va_cons (vv 1) va_nil))))
 (vb_cons (vs_own (i := 5) S.nd (vl_lst va_nil))
 (vb_cons (vs_for PassesOwn.never rfl (vi_rng1 B.range (va_cons (vv 1) va_nil)) (vg_name 6 S.nd)
 (vb_one (vs_if (vt_cmp (v_eqI (v_call G_law_draw hr (va_cons (vv 0) (va_cons v_int va_nil))) v_int))
 (vb_one (vs_append 5 (v_tup (va_cons (vv 6) (va_cons (v_call G_law_strength hr (va_cons (vv 0) va_nil)) va_nil)))))
 vb_nil)))
 (vb_frz 5 (vb_cons (vs_set (i := 7) S.nd (v_tup (va_cons (vv 4) (va_cons (v_tuple B.tuple (vv 5)) va_nil))))
 (vb_one (vs_if (vt_cmp (v_notinO 2 hr (vv 7)))
 (vb_one (vs_append 2 (vv 7)))
 vb_nil))))))))
 (vb_frz 2 (vb_one (vs_ret (ve_of (vl_sorted hr B.sorted (vv 2))))))))⟩) ?_
  intro (b : Nat) ⟨(hb1 : 1 ≤ b), (hb4 : b ≤ 4)⟩
  (conv => whnf)
  refine ⟨(3 : Int), rfl, by show (3 : Int) < _; omega, ?_⟩
  rintro _ ⟨r, rfl, hr⟩
  have hr := dr_lt hr (by show (0 : Int) < 3; omega)
  have hr : (r : Int) < 3 := hr
  (conv => whnf)
  rw [show (1 : Int) + (r : Nat) = ((r + 1 : Nat) : Int) by omega]
  refine ⟨by unfold small; omega, ?_⟩
  show wpFor _ _ _ (rng 0 _) _
  rw [Int.toNat_natCast]
  refine wpFor_rng 0 (r + 1) (fun i Γ => ∃ (l : List Node) (a b' c d e : Sl), Γ = [.im .tok, .im (.int b), .ow (l.map eN), a, b', c, d, e] ∧ l.length ≤ i ∧ (0 < i → 0 < l.length) ∧ (∀ n ∈ l, NdOk b n) ∧ l.Pairwise fun x y => eN x ≠ eN y) ?_ ?_ ⟨[], _, _, _, _, _, rfl, Nat.le_refl _, fun h => absurd h (Nat.lt_irrefl _), fun n hn => absurd hn List.not_mem_nil, List.Pairwise.nil⟩
  · rintro i Γ N hi ⟨l, a, b', c, d, e, rfl, h1, h2, h3, h4⟩ hN
    (conv => whnf)
    refine ⟨(b : Int), rfl, by show (b : Int) < _; omega, ?_⟩
    rintro _ ⟨p, rfl, hp⟩
    have hp := dr_lt hp (by show (0 : Int) < (b : Nat); omega)
    have hp : p < b := by
      have hp : (p : Int) < (b : Nat) := hp
      omega
    (conv => whnf)
    refine ⟨by unfold small; omega, ?_⟩
    show wpFor _ _ _ (rng 0 _) _
    rw [Int.toNat_natCast]
    refine wpFor_rng 0 b (fun j Γ => ∃ (h : List Hr) (d e : Sl), Γ = [.im .tok, .im (.int b), .ow (l.map eN), .im (.int ((0 : Int) + (i : Nat))), .im (.int p), .ow (h.map eH), d, e] ∧ h.length ≤ j ∧ (∀ x ∈ h, x.1 < j ∧ pAm x.2) ∧ (h.map (·.1)).Pairwise (· < ·)) ?_ ?_ ⟨[], _, _, rfl, Nat.le_refl _, fun x hx => absurd hx List.not_mem_nil, List.Pairwise.nil⟩
    · rintro j Γ N' hj ⟨h, d, e, rfl, g1, g2, g3⟩ hN'
      rw [Int.zero_add]
      (conv => whnf)
      refine ⟨(2 : Int), rfl, by show (2 : Int) < _; omega, ?_⟩
      rintro _ ⟨q, rfl, _⟩
      (conv => whnf)
      refine ⟨fun q1 => ?_, fun q1 => ?_⟩
      rotate_left
      · exact hN' _ ⟨h, _, _, rfl, by omega, fun x hx => ⟨Nat.lt_succ_of_lt (g2 x hx).1, (g2 x hx).2⟩, g3⟩
      (conv => whnf)
      refine ⟨(), rfl, trivial, ?_⟩
      rintro _ ⟨s, rfl, hs⟩
      (conv => whnf)
      refine ⟨by rw [List.length_map]; omega, ?_⟩
      refine hN' _ ⟨h ++ [(j, s)], .im (.int j), e, by rw [List.map_append] <;> rfl, by rw [List.length_append]; exact Nat.succ_le_succ g1, fun x hx => ?_, ?_⟩
      · rcases List.mem_append.mp hx with hx | hx
        · exact ⟨Nat.lt_succ_of_lt (g2 x hx).1, (g2 x hx).2⟩
        · rw [List.mem_singleton.mp hx]
          exact ⟨Nat.lt_succ_self j, pAm_of hs.1 (by omega) hs.2⟩
      · rw [List.map_append]
        refine List.pairwise_append.mpr ⟨g3, List.pairwise_singleton _ _, fun x hx y hy => ?_⟩
        obtain ⟨z, hz, rfl⟩ := List.mem_map.mp hx
        rw [List.mem_singleton.mp hy]
        exact (g2 z hz).1
    · rintro Γ ⟨h, d, e, rfl, g1, g2, g3⟩
      (conv => whnf)
      refine ⟨pl_eN (p, h), fun x hx => ?_, fun q => ?_, fun q => ?_⟩
      · obtain ⟨y, _, rfl⟩ := List.mem_map.mp hx
        exact pl_mono (show 4 ≤ 39 by omega) (pl4_N y)
      · obtain ⟨z, hz, _⟩ := List.mem_map.mp q
        exact hN _ ⟨l, _, _, _, _, _, rfl, by omega, fun _ => List.length_pos_of_mem hz, h3, h4⟩
      · (conv => whnf)
        refine ⟨by rw [List.length_map]; omega, ?_⟩
        have e1 : l.map eN ++ [D.tup [.int p, .tup (h.map eH)]] = (l ++ [(p, h)]).map eN := by rw [List.map_append] <;> rfl
        refine hN _ ⟨l ++ [(p, h)], _, _, _, _, _, congrArg (fun z => [_, _, Sl.ow z, _, _, _, _, _]) e1, by rw [List.length_append]; exact Nat.succ_le_succ h1, fun _ => by rw [List.length_append]; exact Nat.succ_pos _, fun x hx => ?_, List.pairwise_append.mpr ⟨h4, List.pairwise_singleton _ _, fun x hx y hy z => ?_⟩⟩
        · rcases List.mem_append.mp hx with hx | hx
          · exact h3 x hx
          · rw [List.mem_singleton.mp hx]
            exact ⟨hp, fun y hy => ⟨by have := (g2 y hy).1; exact this, (g2 y hy).2⟩, g3⟩
        · rw [List.mem_singleton.mp hy] at z
          exact q (List.mem_map.mpr ⟨x, hx, z⟩)
  · rintro Γ ⟨l, a, b', c, d, e, rfl, h1, h2, h3, h4⟩
    (conv => whnf)
    refine ⟨fam_N.sb l, ?_⟩
    rw [srt_map]
    refine ⟨srt eN l, rfl, by rw [srt_len]; exact h2 (Nat.succ_pos r), by rw [srt_len]; omega, fun n hn => (h3 n (srt_mem.mp hn)).1, fun n hn => (h3 n (srt_mem.mp hn)).2.1, fun n hn => (h3 n (srt_mem.mp hn)).2.2, srt_lt fam_N h4⟩
end LV
set_option Elab.async false
set_option linter.all false
set_option maxRecDepth 100000
set_option maxHeartbeats 4000000
namespace LV
open PySem PySem.Spec PyProof.Rows L2
theorem lt_N {a b : Node} (h : a.1 < b.1) : dlt (eN a) (eN b) = true := by
  have al : PySem.W.alike (.tuple (a.2.map pH)) (.tuple (b.2.map pH)) = true := by
    show PySem.W.alikeAll _ _ = true
    exact alike_Hs _ _
  unfold dlt
  rw [pN_eq, pN_eq]
  unfold pN
  rw [PySem.W.dataLt_pair (by simp [PySem.W.alike]) al, eqv_int, PySem.W.dataLt_int, if_neg (by simp; omega)]
  exact decide_eq_true (by omega)
def bndR (n v w x : Nat) : Nat := if x < v then n else if x = v then w else if x < w then v + 1 else v
structure RowsI (n v w : Nat) (rs : List (List Hr)) : Prop where
  len : rs.length = n
  ok : ∀ x row, rs[x]? = some row → (row.map (·.1)).Pairwise (· < ·) ∧ ∀ h ∈ row, h.1 < bndR n v w x ∧ h.1 < n ∧ pAm h.2
theorem RowsI.len_row {n v w : Nat} {rs : List (List Hr)} (h : RowsI n v w rs) {x : Nat} {row : List Hr} (hx : rs[x]? = some row) : row.length ≤ n := asc_len (h.ok x row hx).1 fun y hy => ((h.ok x row hx).2 y hy).2.1
theorem RowsI.zero (n : Nat) : RowsI n 0 0 (List.replicate n []) := ⟨by simp, fun x row h => by
  have := List.mem_of_getElem? h
  rw [(List.mem_replicate.mp this).2]
  exact ⟨List.Pairwise.nil, fun y hy => absurd hy List.not_mem_nil⟩⟩
theorem RowsI.mono {n v w v' w' : Nat} {rs : List (List Hr)} (h : RowsI n v w rs) (hb : ∀ x, x < n → bndR n v w x ≤ bndR n v' w' x) : RowsI n v' w' rs := ⟨h.len, fun x row hx => ⟨(h.ok x row hx).1, fun y hy => by
  have := (h.ok x row hx).2 y hy
  have hl : x < n := by rw [← h.len]; exact (List.getElem?_eq_some_iff.mp hx).1
  exact ⟨Nat.lt_of_lt_of_le this.1 (hb x hl), this.2⟩⟩⟩
theorem asc_add {row : List Hr} {y : Nat} {a : Amt} (h : (row.map (·.1)).Pairwise (· < ·)) (hb : ∀ z ∈ row, z.1 < y) : ((row ++ [(y, a)]).map (·.1)).Pairwise (· < ·) := by
  rw [List.map_append]
  refine List.pairwise_append.mpr ⟨h, List.pairwise_singleton _ _, fun x hx y hy => ?_⟩
  obtain ⟨z, hz, rfl⟩ := List.mem_map.mp hx
  rw [List.mem_singleton.mp hy]
  exact hb z hz
theorem bndR_next {n v w : Nat} (h : v ≤ w) (x : Nat) : bndR n v w x ≤ bndR n v (w + 1) x := by
  unfold bndR
  split
  · exact Nat.le_refl _
  · split
    · omega
    · split
      · rw [if_pos (by omega)]
        exact Nat.le_refl _
      · split <;> omega
theorem bndR_turn {n v x : Nat} (hx : x < n) : bndR n v n x ≤ bndR n (v + 1) (v + 1) x := by
  unfold bndR
  by_cases h1 : x < v
  · rw [if_pos h1, if_pos (by omega)]
    exact Nat.le_refl _
  · by_cases h2 : x = v
    · rw [if_neg h1, if_pos h2, if_pos (by omega)]
      exact Nat.le_refl _
    · rw [if_neg h1, if_neg h2, if_pos hx, if_neg (by omega)]
      by_cases h3 : x = v + 1
      · rw [if_pos h3]
        exact Nat.le_refl _
      · rw [if_neg h3, if_neg (by omega)]
        exact Nat.le_refl _
theorem RowsI.put1 {n v w : Nat} {rs : List (List Hr)} {row : List Hr} {a : Amt} (h : RowsI n v w rs) (hv : v ≤ w) (hw : w < n) (hr : rs[v]? = some row) (ha : pAm a) : RowsI n v (w + 1) (rs.set v (row ++ [(w, a)])) := by
  have h1 := h.ok v row hr
  have e : bndR n v w v = w := by unfold bndR; rw [if_neg (Nat.lt_irrefl v), if_pos rfl]
  have e2 : bndR n v (w + 1) v = w + 1 := by unfold bndR; rw [if_neg (Nat.lt_irrefl v), if_pos rfl]
  refine ⟨by rw [List.length_set]; exact h.len, fun x row' hx => ?_⟩
  by_cases q : v = x
  · subst q
    rw [List.getElem?_set_self (by rw [h.len]; omega)] at hx
    cases hx
    refine ⟨asc_add h1.1 fun z hz => by have := (h1.2 z hz).1; rwa [e] at this, fun z hz => ?_⟩
    rw [e2]
    rcases List.mem_append.mp hz with hz | hz
    · have := h1.2 z hz
      rw [e] at this
      exact ⟨by omega, this.2⟩
    · rw [List.mem_singleton.mp hz]
      exact ⟨Nat.lt_succ_self w, hw, ha⟩
  · rw [List.getElem?_set_ne q] at hx
    have h2 := h.ok x row' hx
    exact ⟨h2.1, fun z hz => ⟨Nat.lt_of_lt_of_le (h2.2 z hz).1 (bndR_next hv x), (h2.2 z hz).2⟩⟩
/-- the other row, ahead of its own turn -/
theorem RowsI.put2 {n v w : Nat} {rs : List (List Hr)} {row row2 : List Hr} {a a2 : Amt} (h : RowsI n v w rs) (hv : v < w) (hw : w < n) (hr : rs[v]? = some row) (hr2 : rs[w]? = some row2) (ha : pAm a) (ha2 : pAm a2) : RowsI n v (w + 1) ((rs.set v (row ++ [(w, a)])).set w (row2 ++ [(v, a2)])) := by
  have h0 := h.put1 (Nat.le_of_lt hv) hw hr ha
  have h1 := h.ok w row2 hr2
  have e : bndR n v w w = v := by unfold bndR; rw [if_neg (by omega), if_neg (by omega), if_neg (by omega)]
  have e2 : bndR n v (w + 1) w = v + 1 := by unfold bndR; rw [if_neg (by omega), if_neg (by omega), if_pos (by omega)]
  refine ⟨by rw [List.length_set]; exact h0.len, fun x row' hx => ?_⟩
  by_cases q : w = x
  · subst q
    rw [List.getElem?_set_self (by rw [h0.len]; omega)] at hx
    cases hx
    refine ⟨asc_add h1.1 fun z hz => by have := (h1.2 z hz).1; rwa [e] at this, fun z hz => ?_⟩
    rw [e2]
    rcases List.mem_append.mp hz with hz | hz
    · have := h1.2 z hz
      rw [e] at this
      exact ⟨by omega, this.2⟩
    · rw [List.mem_singleton.mp hz]
      exact ⟨Nat.lt_succ_self v, by dsimp only; omega, ha2⟩
  · rw [List.getElem?_set_ne q] at hx
    exact h0.ok x row' hx
theorem lowI_pAm {a b : Int} (h1 : 0 < a) (h2 : 0 < b) (h3 : a < 1000) (h4 : b < 1000) : pAm (lowI a b) := by
  obtain ⟨_, q2, q3, q4, q5, q6⟩ := lowI_ok (k := 240) (Int.le_of_lt h1) h2 (Nat.lt_of_lt_of_le (show a.natAbs < 2 ^ 10 by omega) (Nat.pow_le_pow_right (by decide) (by omega))) (Nat.lt_of_lt_of_le (show b.natAbs < 2 ^ 10 by omega) (Nat.pow_le_pow_right (by decide) (by omega)))
  exact ⟨q3 h1, q2, q4, q5, q6⟩
def c_law_straight : Ct := ⟨2, List Int, fun g => [.tok, .lst (g.map .int)], fun g => 1 ≤ g.length ∧ g.length ≤ 4 ∧ ∀ x ∈ g, 0 < x ∧ x < 1000, fun g d => ∃ l : List Node, d = .lst (l.map eN) ∧ l.length = g.length ∧ GoodL g.length l, fun _ => rfl⟩
theorem f_law_straight {P : Program} {w : World} {K : PySem.W.Frag} {mg : Str → Option Value} {base : Heap} (W : Wd K mg) : Fn P w K mg base 2 "_law_straight" c_law_straight := by
  refine W.fn 70 (d := HH.d_law_straight) rfl rfl 60 rfl ["_law_d", "_law_numbers"] rfl rfl (fun _ _ _ _ _ _ us h => by match us, h with | [a0, a1], _ => rfl) fun f fd F => ?_
  have S : FnScope ["_law_d", "_law_numbers", "_law_n", "_law_rows", "_law_v", "_law_w", "_law_whole", "_law_row"] ["_law_d", "_law_numbers"] HH.d_law_straight.scope := C8.fnScope_by (by decide +kernel)
  have B := W.gb
  have G_law_draw := f_law_draw (P := P) (w := w) (base := base) W
  have G_law_low := f_law_low (P := P) (w := w) (base := base) W
  refine fn_ok (N := ["_law_d", "_law_numbers", "_law_n", "_law_rows", "_law_v", "_law_w", "_law_whole", "_law_row"]) (k := 1) F S rfl (fun cdv A outer s H E hr => ⟨_, (vb_cons (vs_set (i := 2) S.nd (v_len B.len (vv 1)))
 (vb_cons (vs_onLc2 (i := 3) (own := [("_law_v", 4)]) rfl S.nd (VI.own (vi_rng1 B.range (va_cons (vv 2) va_nil))) (by rfl) (fun _ _ _ _ _ => (vg_name 4 S.nd)))
 (vb_cons (vs_for PassesOwn.never rfl (vi_rng1 B.range (va_cons (vv 2) va_nil)) (vg_name 4 S.nd)
 (vb_one (vs_for PassesOwn.never rfl (vi_rng2 B.range (va_cons (vv 4) (va_cons (vv 2) va_nil))) (vg_name 5 S.nd)
 (vb_cons (vs_set (i := 6) S.nd (v_ix (ve_of (vl_lst (va_cons v_int (va_cons v_int (va_cons v_int (va_cons v_int va_nil)))))) (v_call G_law_draw hr (va_cons (vv 0) (va_cons v_int va_nil)))))
 (vb_one (vs_if (vt_cmp (v_gt (vv 6) v_int))
 (vb_row 3 7 S.nd (vv 4) (v_tup (va_cons (vv 5) (va_cons (v_call G_law_low hr (va_cons (vv 6) (va_cons (v_ix (vv 1) (vv 4)) va_nil))) va_nil))) (vb_one (vs_if (vt_cmp (v_neI (vv 4) (vv 5)))
 (vb_row 3 7 S.nd (vv 5) (v_tup (va_cons (vv 4) (va_cons (v_call G_law_low hr (va_cons (vv 6) (va_cons (v_ix (vv 1) (vv 5)) va_nil))) va_nil))) vb_nil)
 vb_nil)))
 vb_nil))))))
 (vb_frz 3 (vb_one (vs_ret (ve_of (vl_lc (own := [("_law_v", 4)]) rfl S.nd (VI.own (vi_rng1 B.range (va_cons (vv 2) va_nil))) (by rfl) (fun _ _ _ _ _ => (vg_name 4 S.nd)) (fun _ _ _ _ _ => vq_nil) (fun _ _ _ _ _ => (v_tup (va_cons (vv 4) (va_cons (v_tuple B.tuple (ve_of (vl_sorted hr B.sorted (v_ix (vv 3) (vv 4))))) va_nil))))))))))))⟩) ?_
  intro (ns : List Int) ⟨(hn1 : 1 ≤ ns.length), (hn4 : ns.length ≤ 4), (hns : ∀ x ∈ ns, 0 < x ∧ x < 1000)⟩
  have hnm : (ns.map D.int).length = ns.length := List.length_map _
  (conv => whnf)
  refine ⟨by unfold small; omega, ?_⟩
  have hrl : (rng 0 (((ns.map D.int).length : Int).toNat)).length = ns.length := by
    unfold rng
    simp
  refine ⟨by omega, fun d _ => trivial, ?_⟩
  rw [hrl]
  (conv => whnf)
  refine ⟨by unfold small; omega, ?_⟩
  show wpFor _ _ _ (rng 0 _) _
  rw [show (((ns.map D.int).length : Int)).toNat = ns.length by omega]
  refine wpFor_rng 0 ns.length (fun v Γ => ∃ (rs : List (List Hr)) (a b c d : Sl), Γ = [.im .tok, .im (.lst (ns.map .int)), .im (.int (ns.map D.int).length), .on (rs.map fun h => h.map eH), a, b, c, d] ∧ RowsI ns.length v v rs) ?_ ?_ ⟨List.replicate ns.length [], _, _, _, _, by rw [List.map_replicate] <;> rfl, RowsI.zero _⟩
  · rintro v Γ N hv ⟨rs, a, b, c, d, rfl, ri⟩ hN
    rw [Int.zero_add]
    (conv => whnf)
    refine ⟨by unfold small; omega, by unfold small; omega, ?_⟩
    show wpFor _ _ _ (rng _ _) _
    rw [show (((ns.map D.int).length : Int) - (v : Int)).toNat = ns.length - v by omega]
    refine wpFor_rng v (ns.length - v) (fun j Γ => ∃ (rs : List (List Hr)) (b c d : Sl), Γ = [.im .tok, .im (.lst (ns.map .int)), .im (.int (ns.map D.int).length), .on (rs.map fun h => h.map eH), .im (.int v), b, c, d] ∧ RowsI ns.length v (v + j) rs) ?_ ?_ ⟨rs, _, _, _, rfl, ri⟩
    · clear ri rs hN
      rintro j Γ N' hj ⟨rs, b, c, d, rfl, ri⟩ hN'
      obtain ⟨w, hw⟩ : ∃ w, w = v + j := ⟨_, rfl⟩
      rw [show (v : Int) + (j : Nat) = (w : Nat) by omega]
      rw [← hw] at ri
      have hwn : w < ns.length := by omega
      (conv => whnf)
      refine ⟨(4 : Int), rfl, by show (4 : Int) < _; omega, ?_⟩
      rintro _ ⟨r, rfl, hr⟩
      have hr := dr_lt hr (by show (0 : Int) < 4; omega)
      have hr : (r : Int) < 4 := hr
      have hm : ∃ m : Int, atI [D.int 1, D.int 2, D.int 0, D.int 3] (r : Int) = some (.int m) ∧ m < 4 := by
        match r, hr with
        | 0, _ => exact ⟨1, at_of rfl, by omega⟩
        | 1, _ => exact ⟨2, at_of rfl, by omega⟩
        | 2, _ => exact ⟨0, at_of rfl, by omega⟩
        | 3, _ => exact ⟨3, at_of rfl, by omega⟩
        | r + 4, h => omega
      obtain ⟨m, hm1, hm2⟩ := hm
      refine ⟨_, hm1, ?_⟩
      (conv => whnf)
      refine ⟨fun q => ?_, fun q => ?_⟩
      rotate_left
      · refine hN' _ ⟨rs, _, _, _, rfl, ?_⟩
        rw [show v + (j + 1) = w + 1 by omega]
        exact ri.mono fun x _ => bndR_next (by omega) x
      have q : 0 < m := q
      have hml : (rs.map fun h => h.map eH).length = ns.length := by rw [List.length_map]; exact ri.len
      have hvl : v < rs.length := by rw [ri.len]; exact hv
      have hwl : w < rs.length := by rw [ri.len]; exact hwn
      have hr1 : rs[v]? = some rs[v] := List.getElem?_eq_getElem hvl
      have hr2 : rs[w]? = some rs[w] := List.getElem?_eq_getElem hwl
      have hl1 := ri.len_row hr1
      have hl2 := ri.len_row hr2
      generalize rs[v] = row1 at hr1 hl1
      generalize rs[w] = row2 at hr2 hl2
      have nv := hns _ (List.mem_of_getElem? (nth_eq hv))
      have nw := hns _ (List.mem_of_getElem? (nth_eq hwn))
      have pv : pAm (lowI m (nth ns v)) := lowI_pAm q nv.1 (by omega) nv.2
      have pw : pAm (lowI m (nth ns w)) := lowI_pAm q nw.1 (by omega) nw.2
      have big : ∀ z : Int, 0 < z ∧ z < 1000 → z.natAbs < 2 ^ 8000 := fun z hz => Nat.lt_of_lt_of_le (show z.natAbs < 2 ^ 10 by omega) (Nat.pow_le_pow_right (by decide) (by omega))
      (conv => whnf)
      refine ⟨_, rfl, by decide, by simp, ?_⟩
      (conv => whnf)
      refine ⟨v, _, ixN_cast (by rw [hml]; exact hv), by rw [List.getElem?_map, hr1] <;> rfl, ?_⟩
      (conv => whnf)
      refine ⟨_, at_int hv, ?_⟩
      refine ⟨(m, nth ns v), rfl, ⟨by dsimp only; omega, nv.1, big _ nv⟩, ?_⟩
      rintro _ rfl
      (conv => whnf)
      refine ⟨by rw [List.length_map]; omega, ?_⟩
      have e1 : (rs.map fun h => h.map eH).set v (row1.map eH ++ [eH (w, lowI m (nth ns v))]) = (rs.set v (row1 ++ [(w, lowI m (nth ns v))])).map fun h => h.map eH := by
        have e3 : row1.map eH ++ [eH (w, lowI m (nth ns v))] = (row1 ++ [(w, lowI m (nth ns v))]).map eH := by rw [List.map_append] <;> rfl
        rw [e3]
        exact set_map (fun h : List Hr => h.map eH) _ _ _
      (conv => whnf)
      refine ⟨fun q2 => ?_, fun q2 => ?_⟩
      rotate_left
      · refine hN' _ ⟨rs.set v (row1 ++ [(w, lowI m (nth ns v))]), .im (.int w), .im (.int m), .no, congrArg (fun z => [_, _, _, Sl.on z, _, _, _, _]) e1, ?_⟩
        rw [show v + (j + 1) = w + 1 by omega]
        exact ri.put1 (by omega) hwn hr1 pv
      have q2 : v < w := by
        have q2 : (v : Int) ≠ (w : Nat) := q2
        omega
      (conv => whnf)
      refine ⟨_, rfl, by decide, by simp, ?_⟩
      refine ⟨w, row2.map eH, ?_, ?_, ?_⟩
      · show ixN ((rs.map fun h => h.map eH).set v (row1.map eH ++ [eH (w, lowI m (nth ns v))])).length _ = _
        rw [e1]
        exact ixN_cast (by rw [List.length_map, List.length_set]; exact hwl)
      · show ((rs.map fun h => h.map eH).set v (row1.map eH ++ [eH (w, lowI m (nth ns v))]))[w]? = _
        rw [e1, List.getElem?_map, List.getElem?_set_ne (by omega), hr2] <;> rfl
      (conv => whnf)
      refine ⟨_, at_int hwn, ?_⟩
      refine ⟨(m, nth ns w), rfl, ⟨by dsimp only; omega, nw.1, big _ nw⟩, ?_⟩
      rintro _ rfl
      (conv => whnf)
      refine ⟨by rw [List.length_map]; omega, ?_⟩
      have e2 : ((rs.map fun h => h.map eH).set v (row1.map eH ++ [eH (w, lowI m (nth ns v))])).set w (row2.map eH ++ [eH (v, lowI m (nth ns w))]) = ((rs.set v (row1 ++ [(w, lowI m (nth ns v))])).set w (row2 ++ [(v, lowI m (nth ns w))])).map fun h => h.map eH := by
        have e3 : row2.map eH ++ [eH (v, lowI m (nth ns w))] = (row2 ++ [(v, lowI m (nth ns w))]).map eH := by rw [List.map_append] <;> rfl
        rw [e1, e3]
        exact set_map (fun h : List Hr => h.map eH) _ _ _
      refine hN' _ ⟨(rs.set v (row1 ++ [(w, lowI m (nth ns v))])).set w (row2 ++ [(v, lowI m (nth ns w))]), .im (.int w), .im (.int m), .no, congrArg (fun z => [_, _, _, Sl.on z, _, _, _, _]) e2, ?_⟩
      rw [show v + (j + 1) = w + 1 by omega]
      exact ri.put2 q2 hwn hr1 hr2 pv pw
    · rintro Γ ⟨rs, b, c, d, rfl, ri⟩
      refine hN _ ⟨rs, _, _, _, _, rfl, ri.mono fun x hx => ?_⟩
      rw [show v + (ns.length - v) = ns.length by omega]
      exact bndR_turn hx
  · rintro Γ ⟨rs, a, b, c, d, rfl, ri⟩
    (conv => whnf)
    refine ⟨by unfold small; omega, ?_⟩
    show wpLc _ _ _ _ _ (rng 0 _) []
    rw [show (((ns.map D.int).length : Int)).toNat = ns.length by omega]
    refine wpLc_rel (fun i : Nat => D.int ((0 : Int) + (i : Nat))) eN (fun i nd => nd.1 = i ∧ (nd.2.map (·.1)).Pairwise (· < ·) ∧ ∀ h ∈ nd.2, h.1 < ns.length ∧ pAm h.2) (List.range ns.length) [] (by simp; omega) (fun x hx N M hN => ?_) fun nds h1 h2 => ?_
    · have hx := List.mem_range.mp hx
      rw [Int.zero_add]
      have hr1 : rs[x]? = some (rs[x]'(by rw [ri.len]; exact hx)) := List.getElem?_eq_getElem _
      generalize rs[x]'(by rw [ri.len]; exact hx) = row at hr1
      obtain ⟨o1, o2⟩ := ri.ok x row hr1
      (conv => whnf)
      refine ⟨.lst (row.map eH), ?_, ?_⟩
      · show atI ((rs.map fun h => h.map eH).map D.lst) (x : Int) = _
        exact at_map (en := D.lst) (by rw [List.getElem?_map, hr1] <;> rfl)
      (conv => whnf)
      refine ⟨fam_H.sb row, ?_⟩
      rw [srt_map]
      refine hN (x, srt eH row) ⟨rfl, srt_asc (List.Pairwise.imp (fun h => Nat.ne_of_lt h) o1), fun h hh => (o2 h (srt_mem.mp hh)).2⟩
    rw [List.length_range] at h1
    have hx : ∀ x (h : x < nds.length), nds[x].1 = x ∧ (nds[x].2.map (·.1)).Pairwise (· < ·) ∧ ∀ h ∈ nds[x].2, h.1 < ns.length ∧ pAm h.2 := fun x h => h2 x x _ (List.getElem?_range (by omega)) (List.getElem?_eq_getElem h)
    refine ⟨nds, rfl, h1, ⟨by omega, by omega, fun n hn => ?_, fun n hn => ?_, fun n hn => ?_, ?_⟩⟩
    · obtain ⟨x, hx1, rfl⟩ := List.mem_iff_getElem.mp hn
      rw [(hx x hx1).1]
      omega
    · obtain ⟨x, hx1, rfl⟩ := List.mem_iff_getElem.mp hn
      exact (hx x hx1).2.2
    · obtain ⟨x, hx1, rfl⟩ := List.mem_iff_getElem.mp hn
      exact (hx x hx1).2.1
    · refine List.pairwise_iff_getElem.mpr fun i j hi hj hij => lt_N ?_
      rw [(hx i hi).1, (hx j hj).1]
      exact hij
end LV
set_option Elab.async false
set_option linter.all false
set_option maxRecDepth 100000
set_option maxHeartbeats 4000000
namespace LV
open PySem PySem.Spec PyProof.Rows L2
structure FrI (fs ls : List Sta) : Prop where
  nd : (fs ++ ls).Nodup
  rg : ∀ s ∈ fs ++ ls, s.1 ≤ 1 ∧ s.2 ≤ 3
  len : fs.length + ls.length = 4
theorem FrI.pop {fs ls : List Sta} {r : Nat} (h : FrI fs ls) (hr : r < ls.length) : FrI (fs ++ [ls[r]]) (ls.eraseIdx r) := by
  have e : (fs ++ ls).Perm ((fs ++ [ls[r]]) ++ ls.eraseIdx r) := by
    rw [List.append_assoc]
    refine List.Perm.append_left fs ?_
    have e1 : ls = ls.take r ++ ls[r] :: ls.drop (r + 1) := by
      rw [List.getElem_cons_drop, List.take_append_drop]
    have e2 : ls.eraseIdx r = ls.take r ++ ls.drop (r + 1) := List.eraseIdx_eq_take_drop_succ ..
    rw [e2]
    exact (List.Perm.of_eq e1).trans List.perm_middle
  refine ⟨e.nodup_iff.mp h.nd, fun s hs => h.rg s (e.mem_iff.mpr hs), ?_⟩
  have := h.len
  rw [List.length_append, List.length_eraseIdx_of_lt hr]
  show fs.length + 1 + (ls.length - 1) = 4
  omega
theorem eS_inj {a b : Sta} (h : eS a = eS b) : a = b := by
  obtain ⟨a1, a2⟩ := a
  obtain ⟨b1, b2⟩ := b
  injection h with h
  injection h with h1 h2
  injection h2 with h2
  injection h1 with h1
  injection h2 with h2
  exact Prod.ext (Int.ofNat_inj.mp h1) (Int.ofNat_inj.mp h2)
theorem lvK_at {v : Vw} {k : Nat} (h : k ≤ v.up.length) : ∃ xs, (lvK v)[k]? = some (.lst xs) ∧ xs.length = sz v k := by
  cases k with
  | zero => exact ⟨_, rfl, by rw [List.length_map] <;> rfl⟩
  | succ k =>
    obtain ⟨l, hl⟩ := up_get (v := v) (k := k) (by omega)
    refine ⟨l.map eN, ?_, by rw [List.length_map, sz_up hl]⟩
    show (v.up.map fun l => D.lst (l.map eN))[k]? = _
    rw [List.getElem?_map, hl] <;> rfl
theorem goodL_one {b : Nat} {n : Node} (h1 : n.1 < b) (h2 : ∀ h ∈ n.2, h.1 < b ∧ pAm h.2) (h3 : (n.2.map (·.1)).Pairwise (· < ·)) : GoodL b [n] :=
  ⟨Nat.le_refl _, by show 1 ≤ 4; omega, fun x hx => by rw [List.mem_singleton.mp hx]; exact h1, fun x hx => by rw [List.mem_singleton.mp hx]; exact h2, fun x hx => by rw [List.mem_singleton.mp hx]; exact h3, List.pairwise_singleton _ _⟩
theorem goodL_all {b p : Nat} (hp : p < b) : GoodL b [(p, (List.range b).map fun w => (w, ((1 : Int), (1 : Int))))] := by
  refine goodL_one hp (fun h hh => ?_) ?_
  · obtain ⟨w, hw, rfl⟩ := List.mem_map.mp hh
    exact ⟨List.mem_range.mp hw, Int.one_pos, Int.one_pos, Nat.one_lt_two_pow (by decide), Nat.one_lt_two_pow (by decide), by show Int.gcd 1 1 = 1; decide⟩
  · rw [List.map_map]
    have e : (List.range b).map ((fun x : Hr => x.1) ∘ fun w => (w, ((1 : Int), (1 : Int)))) = List.range b := by
      show (List.range b).map (fun w => w) = _
      exact List.map_id' _
    rw [e]
    exact List.pairwise_lt_range
/-- a block's rest under a name -/
theorem cut_T {m u : Vs} {D : Ve} {Γ : Ev} (h : ∀ T : Ev → Prop, T = u D → m { D with nx := T } Γ) : vSeq m u D Γ := h _ rfl
def c_law_free : Ct := ⟨1, Unit, fun _ => [.tok], fun _ => True, fun _ d => ∃ w, d = eV w ∧ Full w, fun _ => rfl⟩
theorem f_law_free {P : Program} {w : World} {K : PySem.W.Frag} {mg : Str → Option Value} {base : Heap} (W : Wd K mg) : Fn P w K mg base 4 "_law_free" c_law_free := by
  refine W.fn 68 (d := HH.d_law_free) rfl rfl 58 rfl ["_law_d"] rfl rfl (fun _ _ _ _ _ _ us h => by match us, h with | [a0], _ => rfl) fun f fd F => ?_
  have S : FnScope ["_law_d", "_law_left", "_law_first", "_law_k", "_law_keys", "_law_numbers", "_law_node_here", "_law_rounds", "_law_s", "_law_kind", "_law_last", "_law_nodes", "_law_w", "_law_seat", "_law_level"] ["_law_d"] HH.d_law_free.scope := C8.fnScope_by (by decide +kernel)
  have B := W.gb
  have G_law_draw := f_law_draw (P := P) (w := w) (base := base) W
  have G_law_any_nodes := f_law_any_nodes (P := P) (w := w) (base := base) W
  have G_law_straight := f_law_straight (P := P) (w := w) (base := base) W
  have G_law_view := f_law_view (P := P) (w := w) (base := base) W
  refine fn_ok (N := ["_law_d", "_law_left", "_law_first", "_law_k", "_law_keys", "_law_numbers", "_law_node_here", "_law_rounds", "_law_s", "_law_kind", "_law_last", "_law_nodes", "_law_w", "_law_seat", "_law_level"]) (k := 3) F S rfl (fun cdv A outer s H E hr => ⟨_, (vb_cons (vs_own (i := 1) S.nd (vl_lst (va_cons (v_tup (va_cons v_int (va_cons v_int va_nil))) (va_cons (v_tup (va_cons v_int (va_cons v_int va_nil))) (va_cons (v_tup (va_cons v_int (va_cons v_int va_nil))) (va_cons (v_tup (va_cons v_int (va_cons v_int va_nil))) va_nil))))))
 (vb_cons (vs_ownX (i := 2) S.nd (vxl_ifx (vt_cmp (v_gt (v_call G_law_draw hr (va_cons (vv 0) (va_cons v_int va_nil))) v_int)) (vxl_one (vx_popAt 1 v_int)) (vxl_of (vl_lst va_nil))))
 (vb_cons (vs_for PassesOwn.never rfl (vi_rng1 B.range (va_cons (v_sub (v_add v_int (v_call G_law_draw hr (va_cons (vv 0) (va_cons v_int va_nil)))) (v_lenO 2 B.len)) va_nil)) (vg_name 3 S.nd)
 (vb_one (vs_appX 2 (vx_popAt 1 (v_call G_law_draw hr (va_cons (vv 0) (va_cons (v_lenO 1 B.len) va_nil)))))))
 (vb_cons (vs_if (vt_cmp (v_eqO 2 hr (ve_of (vl_lst va_nil))))
 (vb_one (vs_appX 2 (vx_popAt 1 (v_call G_law_draw hr (va_cons (vv 0) (va_cons (v_lenO 1 B.len) va_nil))))))
 vb_nil)
 (vb_frz 2 (vb_cons (vs_own (i := 4) S.nd (vl_lst (va_cons (ve_of (vl_sorted hr B.sorted (vv 2))) va_nil)))
 (vb_cons (vs_setLc (i := 5) (own := [("_law_node_here", 6)]) rfl S.nd (VI.own (vi_list (v_ixO 4 v_int))) (by rfl) (fun _ _ _ _ _ => (vg_name 6 S.nd)) (fun _ _ _ _ _ => vq_nil) (fun _ _ _ _ _ => (v_ifx (vt_cmp (v_eq hr (v_ix (vv 6) v_int) v_int)) v_int (v_add v_int (v_call G_law_draw hr (va_cons (vv 0) (va_cons v_int va_nil)))))) (sw_true rfl rfl rfl (by decide +kernel)))
 (vb_cons (vs_set (i := 7) S.nd (v_add (v_call G_law_draw hr (va_cons (vv 0) (va_cons v_int va_nil))) (v_call G_law_draw hr (va_cons (vv 0) (va_cons v_int va_nil)))))
 (vb_cons (vs_for PassesOwn.never rfl (vi_rng1 B.range (va_cons (vv 7) va_nil)) (vg_name 8 S.nd)
 (vb_cons (vs_set (i := 9) S.nd (v_call G_law_draw hr (va_cons (vv 0) (va_cons v_int va_nil))))
 (vb_cons (vs_set (i := 10) S.nd (v_intof B.int (VCp.ve (v_eqI (vv 8) (v_sub (vv 7) v_int)))))
 (vb_cons (vs_if (vt_cmp (v_eqI (vv 9) v_int))
 (vb_cons (vs_set (i := 11) S.nd (v_call G_law_any_nodes hr (va_cons (vv 0) (va_cons (v_len B.len (v_ixO 4 (vv 8))) va_nil))))
 (vb_one (vs_setLc (i := 5) (own := [("_law_node_here", 6)]) rfl S.nd (VI.own (vi_list (vv 11))) (by rfl) (fun _ _ _ _ _ => (vg_name 6 S.nd)) (fun _ _ _ _ _ => vq_nil) (fun _ _ _ _ _ => (v_add v_int (v_call G_law_draw hr (va_cons (vv 0) (va_cons v_int va_nil))))) (sw_true rfl rfl rfl (by decide +kernel)))))
 (vb_cons (vs_if (vt_cmp (v_eqI (vv 9) v_int))
 (vb_one (vs_setLc (i := 5) (own := [("_law_node_here", 6)]) rfl S.nd (VI.own (vi_list (v_ixO 4 (vv 8)))) (by rfl) (fun _ _ _ _ _ => (vg_name 6 S.nd)) (fun _ _ _ _ _ => vq_nil) (fun _ _ _ _ _ => (v_add v_int (v_call G_law_draw hr (va_cons (vv 0) (va_cons v_int va_nil))))) (sw_true rfl rfl rfl (by decide +kernel))))
 vb_nil)
 (vb_one (vs_set (i := 11) S.nd (v_call G_law_straight hr (va_cons (vv 0) (va_cons (vv 5) va_nil)))))))
 (vb_cons (vs_if (vt_cmp (v_eqI (vv 10) v_int))
 (vb_cons (vs_set (i := 11) S.nd (ve_of (vl_lst (va_cons (v_ix (vv 11) (v_call G_law_draw hr (va_cons (vv 0) (va_cons (v_len B.len (vv 11)) va_nil)))) va_nil))))
 (vb_one (vs_if (vt_cmp (v_gt (v_call G_law_draw hr (va_cons (vv 0) (va_cons v_int va_nil))) v_int))
 (vb_one (vs_set (i := 11) S.nd (ve_of (vl_lst (va_cons (v_tup (va_cons (v_ix (v_ix (vv 11) v_int) v_int) (va_cons (v_tuple B.tuple (ve_of (vl_lc (own := [("_law_w", 12)]) rfl S.nd (VI.own (vi_rng1 B.range (va_cons (v_len B.len (v_ixO 4 (vv 8))) va_nil))) (by rfl) (fun _ _ _ _ _ => (vg_name 12 S.nd)) (fun _ _ _ _ _ => vq_nil) (fun _ _ _ _ _ => (v_tup (va_cons (vv 12) (va_cons (v_tup (va_cons v_int (va_cons v_int va_nil))) va_nil))))))) va_nil))) va_nil)))))
 vb_nil)))
 vb_nil)
 (vb_one (vs_append 4 (vv 11))))))))
 (vb_cons (vs_setLc (i := 13) (own := [("_law_level", 14)]) rfl S.nd (vi_own 4) (by rfl) (fun _ _ _ _ _ => (vg_name 14 S.nd)) (fun _ _ _ _ _ => vq_nil) (fun _ _ _ _ _ => (ve_of (vl_lst (va_cons v_int va_nil)))) (sw_true rfl rfl rfl (by decide +kernel)))
 (vb_frz 4 (vb_one (vs_ret (v_call G_law_view hr (va_cons (vv 4) (va_cons (vv 13) (va_cons v_int (va_cons (vv 7) va_nil))))))))))))))))))⟩) ?_
  intro _ _
  (conv => whnf)
  refine ⟨(4 : Int), rfl, by show (4 : Int) < _; omega, ?_⟩
  rintro _ ⟨r0, rfl, _⟩
  refine (fun (_ : (?T : Ev → Prop) = ?T) (fin : ∀ (fs ls : List Sta), FrI fs ls → fs.length ≤ 1 → ?T [.im .tok, .ow (ls.map eS), .ow (fs.map eS), .no, .no, .no, .no, .no, .no, .no, .no, .no, .no, .no, .no]) => ?main) rfl ?tail
  case main =>
    (conv => whnf)
    refine ⟨fun q => ?_, fun q => ?_⟩
    · (conv => whnf)
      refine ⟨_, rfl, 2, _, rfl, rfl, by decide, ?_⟩
      dsimp only
      exact fin [(1, 0)] [(0, 0), (0, 1), (1, 1)] ⟨by decide, by decide, rfl⟩ (Nat.le_refl _)
    · (conv => whnf)
      exact fin [] [(0, 0), (0, 1), (1, 0), (1, 1)] ⟨by decide, by decide, rfl⟩ (Nat.zero_le _)
  case tail =>
    intro fs ls fi hf
    (conv => whnf)
    refine ⟨(3 : Int), rfl, by show (3 : Int) < _; omega, ?_⟩
    rintro _ ⟨r, rfl, hr⟩
    have hr := dr_lt hr (by show (0 : Int) < 3; omega)
    have hr : (r : Int) < 3 := hr
    have hfm : (fs.map eS).length = fs.length := List.length_map _
    (conv => whnf)
    refine ⟨by show small ((1 : Int) + (r : Nat) - ((fs.map eS).length : Nat)); unfold small; omega, ?_⟩
    show wpFor _ _ _ (rng 0 _) _
    rw [show ((1 : Int) + (r : Nat) - ((fs.map eS).length : Nat)).toNat = 1 + r - fs.length by omega]
    refine wpFor_rng 0 (1 + r - fs.length) (fun i Γ => ∃ (gs ks : List Sta) (a : Sl), Γ = [.im .tok, .ow (ks.map eS), .ow (gs.map eS), a, .no, .no, .no, .no, .no, .no, .no, .no, .no, .no, .no] ∧ FrI gs ks ∧ gs.length = fs.length + i) ?_ ?_ ⟨fs, ls, _, rfl, fi, rfl⟩
    · rintro i Γ N hi ⟨gs, ks, a, rfl, gi, hg⟩ hN
      have hkl := gi.len
      have hkm : (ks.map eS).length = ks.length := List.length_map _
      (conv => whnf)
      refine ⟨⟨_, rfl⟩, _, rfl, ?_⟩
      refine ⟨(((ks.map eS).length : Nat) : Int), rfl, (by show (((ks.map eS).length : Nat) : Int) < _; omega), ?_⟩
      rintro _ ⟨p, rfl, hp⟩
      have hp := dr_lt hp (by show (0 : Int) < ((ks.map eS).length : Nat); omega)
      have hp : p < ks.length := by
        have hp : (p : Int) < ((ks.map eS).length : Nat) := hp
        omega
      refine ⟨p, eS ks[p], rfl, by rw [List.getElem?_map, List.getElem?_eq_getElem hp] <;> rfl, by omega, ?_⟩
      refine ⟨_, rfl, by rw [List.length_map]; omega, ?_⟩
      refine hN _ ⟨gs ++ [ks[p]], ks.eraseIdx p, .im (.int ((0 : Int) + (i : Nat))), ?_, gi.pop hp, by rw [List.length_append, hg] <;> rfl⟩
      rw [List.map_append, ← erase_map] <;> rfl
    · rintro Γ ⟨gs, ks, a, rfl, gi, hg⟩
      clear fi hf hg hfm fs ls
      refine (fun (_ : (?T2 : Ev → Prop) = ?T2) (fin : ∀ (fs ls : List Sta) (a : Sl), FrI fs ls → 1 ≤ fs.length → ?T2 [.im .tok, .ow (ls.map eS), .ow (fs.map eS), a, .no, .no, .no, .no, .no, .no, .no, .no, .no, .no, .no]) => ?main2) rfl ?tail2
      case main2 =>
        (conv => whnf)
        refine ⟨fun x hx => ?_, fun d hd => absurd hd List.not_mem_nil, fun q => ?_, fun q => ?_⟩
        · obtain ⟨s, _, rfl⟩ := List.mem_map.mp hx
          exact pl_mono (show 4 ≤ 39 by omega) (pl4_S s)
        · have q : gs = [] := List.map_eq_nil_iff.mp (D.lst.inj q)
          subst q
          have hkl := gi.len
          have hkm : (ks.map eS).length = ks.length := List.length_map _
          have hk4 : ks.length = 4 := by simpa using hkl
          (conv => whnf)
          refine ⟨⟨_, rfl⟩, _, rfl, ?_⟩
          refine ⟨(((ks.map eS).length : Nat) : Int), rfl, (by show (((ks.map eS).length : Nat) : Int) < _; omega), ?_⟩
          rintro _ ⟨p, rfl, hp⟩
          have hp := dr_lt hp (by show (0 : Int) < ((ks.map eS).length : Nat); omega)
          have hp : p < ks.length := by
            have hp : (p : Int) < ((ks.map eS).length : Nat) := hp
            omega
          refine ⟨p, eS ks[p], rfl, by rw [List.getElem?_map, List.getElem?_eq_getElem hp] <;> rfl, by omega, ?_⟩
          refine ⟨_, rfl, by decide, ?_⟩
          have h := fin ([] ++ [ks[p]]) (ks.eraseIdx p) a (gi.pop hp) (Nat.le_refl _)
          rw [← erase_map] at h
          exact h
        · refine fin gs ks a gi (Nat.pos_of_ne_zero fun z => q ?_)
          rw [List.length_eq_zero_iff.mp z] <;> rfl
      case tail2 =>
        clear gi gs ks
        intro fs ls a fi h1
        have h4 := fi.len
        (conv => whnf)
        refine ⟨fam_S.sb fs, ?_⟩
        rw [srt_map]
        have g1 : (srt eS fs).length = fs.length := srt_len eS fs
        have g2 : ∀ s ∈ srt eS fs, s.1 ≤ 1 ∧ s.2 ≤ 3 := fun s hs => fi.rg s (List.mem_append.mpr (.inl (srt_mem.mp hs)))
        have g3 : (srt eS fs).Pairwise fun a b => dlt (eS a) (eS b) = true := srt_lt fam_S (List.Pairwise.imp (fun h z => h (eS_inj z)) (List.nodup_append.mp fi.nd).1)
        generalize srt eS fs = gs at g1 g2 g3
        have gd0 : Good ⟨gs, []⟩ := ⟨by show 1 ≤ gs.length; omega, by show gs.length ≤ 4; omega, g2, g3, Nat.zero_le _, fun k l hk => by cases hk⟩
        (conv => whnf)
        refine ⟨_, at_0, ?_⟩
        refine wpLc_rel eS D.int (fun _ n => 0 < n ∧ n < 1000) gs [] (by simp; omega) (fun s hs N M hN => ?_) fun ns hn1 hn2 => ?_
        · (conv => whnf)
          refine ⟨_, at_0, ?_⟩
          (conv => whnf)
          refine ⟨trivial, trivial, fun q => ?_, fun q => ?_⟩
          · (conv => whnf)
            exact hN 1 ⟨by omega, by omega⟩
          · (conv => whnf)
            refine ⟨(2 : Int), rfl, by show (2 : Int) < _; omega, ?_⟩
            rintro _ ⟨p, rfl, hp⟩
            have hp := dr_lt hp (by show (0 : Int) < 2; omega)
            have hp : (p : Int) < 2 := hp
            exact hN (1 + (p : Nat)) ⟨by omega, by omega⟩
        rw [List.nil_append]
        have hn3 : ∀ x ∈ ns, 0 < x ∧ x < 1000 := fun x hx => by
          obtain ⟨i, hi, rfl⟩ := List.mem_iff_getElem.mp hx
          exact hn2 i (gs[i]'(by omega)) _ (List.getElem?_eq_getElem (by omega)) (List.getElem?_eq_getElem hi)
        clear hn2
        (conv => whnf)
        refine ⟨(4 : Int), rfl, by show (4 : Int) < _; omega, ?_⟩
        rintro _ ⟨r1, rfl, hr1⟩
        have hr1 := dr_lt hr1 (by show (0 : Int) < 4; omega)
        have hr1 : (r1 : Int) < 4 := hr1
        refine ⟨(5 : Int), rfl, by show (5 : Int) < _; omega, ?_⟩
        rintro _ ⟨r2, rfl, hr2⟩
        have hr2 := dr_lt hr2 (by show (0 : Int) < 5; omega)
        have hr2 : (r2 : Int) < 5 := hr2
        obtain ⟨m, hm⟩ : ∃ m : Nat, (r1 : Int) + (r2 : Nat) = (m : Nat) := ⟨r1 + r2, by omega⟩
        have hm7 : m ≤ 7 := by omega
        (conv => whnf)
        refine ⟨by show small ((r1 : Int) + (r2 : Nat)); unfold small; omega, ?_⟩
        show wpFor _ _ _ (rng 0 _) _
        rw [show ((r1 : Int) + (r2 : Nat)).toNat = m by omega]
        refine wpFor_rng 0 m (fun s Γ => ∃ (v : Vw) (ns : List Int) (a6 a8 a9 a10 a11 a12 : Sl), Γ = [.im .tok, .ow (ls.map eS), .im (.lst (fs.map eS)), a, .ow (lvK v), .im (.lst (ns.map .int)), a6, .im (.int m), a8, a9, a10, a11, a12, .no, .no] ∧ v.up.length = s ∧ Good v ∧ s ≤ m ∧ (s < m → ns.length = sz v s ∧ ∀ x ∈ ns, 0 < x ∧ x < 1000)) ?_ ?_ ⟨⟨gs, []⟩, ns, _, _, _, _, _, _, by rw [← hm] <;> rfl, rfl, gd0, Nat.zero_le _, fun _ => ⟨hn1, hn3⟩⟩
        · clear hn1 hn3 ns gd0 g1 g2 g3 gs
          rintro s Γ N hs ⟨v, ns, a6, a8, a9, a10, a11, a12, rfl, hv, gv, _, hns⟩ hN
          obtain ⟨hn1, hn3⟩ := hns hs
          clear hns
          rw [Int.zero_add]
          have hsz := gv.szb (k := s) (by omega)
          (conv => whnf)
          refine ⟨(6 : Int), rfl, by show (6 : Int) < _; omega, ?_⟩
          rintro _ ⟨kd, rfl, _⟩
          obtain ⟨xs, hx1, hx2⟩ := lvK_at (v := v) (k := s) (by omega)
          have hat : atI (lvK v) (s : Nat) = some (.lst xs) := by
            rw [atI_cast]
            exact hx1
          have hkl := lvK_len v
          try dsimp only
          refine cut_T fun TA hTA => ?_
          have hA : ∀ la : Nat, (la = 1 → s + 1 = m) → la ≤ 1 → TA [.im .tok, .ow (ls.map eS), .im (.lst (fs.map eS)), a, .ow (lvK v), .im (.lst (ns.map .int)), a6, .im (.int m), .im (.int s), .im (.int kd), .im (.int la), a11, a12, .no, .no] := by
            intro la qla _
            rw [hTA]
            try dsimp only
            refine cut_T fun TB hTB => ?_
            have hB : ∀ (l : List Node) (ns : List Int) (b6 b12 : Sl), GoodL (sz v s) l → ns.length = l.length → (∀ x ∈ ns, 0 < x ∧ x < 1000) → TB [.im .tok, .ow (ls.map eS), .im (.lst (fs.map eS)), a, .ow (lvK v), .im (.lst (ns.map .int)), b6, .im (.int m), .im (.int s), .im (.int kd), .im (.int la), .im (.lst (l.map eN)), b12, .no, .no] := by
              intro l ns b6 b12 gl hn1 hn3
              have hl1 := gl.lo
              have hl2 := gl.hi
              rw [hTB]
              try dsimp only
              refine cut_T fun TD hTD => ?_
              have hD : ∀ (l : List Node) (b12 : Sl), GoodL (sz v s) l → (s + 1 < m → ns.length = l.length) → TD [.im .tok, .ow (ls.map eS), .im (.lst (fs.map eS)), a, .ow (lvK v), .im (.lst (ns.map .int)), b6, .im (.int m), .im (.int s), .im (.int kd), .im (.int la), .im (.lst (l.map eN)), b12, .no, .no] := by
                intro l b12 gl hn1
                have hl1 := gl.lo
                have hl2 := gl.hi
                rw [hTD]
                (conv => whnf)
                refine ⟨by omega, ?_⟩
                refine hN _ ⟨push v l, ns, b6, _, _, _, _, _, congrArg (fun z => [_, _, _, _, Sl.ow z, _, _, _, _, _, _, _, _, _, _]) (lvK_push v l).symm, by rw [push_len, hv], push_good gv (by omega) (by rw [hv]; exact gl), by omega, fun h => ⟨?_, hn3⟩⟩
                rw [hn1 h]
                have := push_top v l
                rw [hv] at this
                exact this.symm
              (conv => whnf)
              refine ⟨fun q => ?_, fun q => hD l b12 gl fun _ => hn1⟩
              have q : (la : Int) = 1 := q
              have qm := qla (by omega)
              have hlm : (l.map eN).length = l.length := List.length_map _
              (conv => whnf)
              refine ⟨(((l.map eN).length : Nat) : Int), rfl, (by show (((l.map eN).length : Nat) : Int) < _; omega), ?_⟩
              rintro _ ⟨p, rfl, hp⟩
              have hp := dr_lt hp (by show (0 : Int) < ((l.map eN).length : Nat); omega)
              have hp : p < l.length := by
                have hp : (p : Int) < ((l.map eN).length : Nat) := hp
                omega
              have g1 := gl.par _ (List.getElem_mem hp)
              have g2 := gl.near _ (List.getElem_mem hp)
              have g3 := gl.asc _ (List.getElem_mem hp)
              refine ⟨_, at_map (List.getElem?_eq_getElem hp), ?_⟩
              generalize l[p] = nd at g1 g2 g3
              (conv => whnf)
              refine ⟨(4 : Int), rfl, by show (4 : Int) < _; omega, ?_⟩
              rintro _ ⟨p4, rfl, _⟩
              (conv => whnf)
              refine ⟨fun q4 => ?_, fun q4 => ?_⟩
              · (conv => whnf)
                refine ⟨_, at_0, ?_⟩
                refine ⟨_, at_0, ?_⟩
                (conv => whnf)
                refine ⟨_, hat, ?_⟩
                refine ⟨by show small ((xs.length : Nat) : Int); unfold small; omega, ?_⟩
                show wpLc _ _ _ _ _ (rng 0 _) []
                rw [Int.toNat_natCast, hx2]
                refine wpLc_rng (fun w => eH (w, ((1 : Int), (1 : Int)))) 0 (sz v s) (by omega) (fun w hw N M hN => ?_) ?_
                · rw [Int.zero_add]
                  exact hN
                have e9 : (List.range (sz v s)).map (fun w => eH (w, ((1 : Int), (1 : Int)))) = ((List.range (sz v s)).map fun w => (w, ((1 : Int), (1 : Int)))).map eH := by
                  rw [List.map_map] <;> rfl
                rw [e9]
                exact hD [(nd.1, (List.range (sz v s)).map fun w => (w, ((1 : Int), (1 : Int))))] b12 (goodL_all g1) fun h => absurd h (by omega)
              · exact hD [nd] b12 (goodL_one g1 g2 g3) fun h => absurd h (by omega)
            (conv => whnf)
            refine ⟨fun q => ?_, fun q => ?_⟩
            · (conv => whnf)
              refine ⟨_, hat, ?_⟩
              refine ⟨sz v s, (by show [_, D.int ((xs.length : Nat) : Int)] = [_, D.int ((sz v s : Nat) : Int)]; rw [hx2]), ⟨hsz.1, hsz.2⟩, ?_⟩
              rintro _ ⟨l, rfl, gl⟩
              have hl1 := gl.lo
              have hl2 := gl.hi
              (conv => whnf)
              refine wpLc_rel eN D.int (fun _ n => 0 < n ∧ n < 1000) l [] (by simp; omega) (fun nd hnd N M hN => ?_) fun ks hk1 hk2 => ?_
              · (conv => whnf)
                refine ⟨(2 : Int), rfl, by show (2 : Int) < _; omega, ?_⟩
                rintro _ ⟨p, rfl, hp⟩
                have hp := dr_lt hp (by show (0 : Int) < 2; omega)
                have hp : (p : Int) < 2 := hp
                exact hN (1 + (p : Nat)) ⟨by omega, by omega⟩
              rw [List.nil_append]
              exact hB l ks a6 a12 gl hk1 fun x hx => by
                obtain ⟨i, hi, rfl⟩ := List.mem_iff_getElem.mp hx
                exact hk2 i (l[i]'(by omega)) _ (List.getElem?_eq_getElem (by omega)) (List.getElem?_eq_getElem hi)
            · try dsimp only
              rw [if_neg Bool.false_ne_true]
              refine cut_T fun TC hTC => ?_
              have hC : ∀ (ns : List Int) (b6 : Sl), ns.length = sz v s → (∀ x ∈ ns, 0 < x ∧ x < 1000) → TC [.im .tok, .ow (ls.map eS), .im (.lst (fs.map eS)), a, .ow (lvK v), .im (.lst (ns.map .int)), b6, .im (.int m), .im (.int s), .im (.int kd), .im (.int la), a11, a12, .no, .no] := by
                intro ns' b6 hk1 hk3
                rw [hTC]
                (conv => whnf)
                refine ⟨ns', rfl, ⟨by show 1 ≤ ns'.length; omega, by show ns'.length ≤ 4; omega, hk3⟩, ?_⟩
                rintro _ ⟨l, rfl, hl, gl⟩
                rw [hk1] at gl
                exact hB l ns' b6 a12 gl hl.symm hk3
              (conv => whnf)
              refine ⟨fun q => ?_, fun q => hC ns a6 hn1 hn3⟩
              (conv => whnf)
              refine ⟨_, hat, ?_⟩
              refine wpLc_relD D.int (fun _ n => 0 < n ∧ n < 1000) xs (by omega) (fun nd hnd N M hN => ?_) fun ks hk1 hk2 => ?_
              · (conv => whnf)
                refine ⟨(3 : Int), rfl, by show (3 : Int) < _; omega, ?_⟩
                rintro _ ⟨p, rfl, hp⟩
                have hp := dr_lt hp (by show (0 : Int) < 3; omega)
                have hp : (p : Int) < 3 := hp
                exact hN (1 + (p : Nat)) ⟨by omega, by omega⟩
              exact hC ks a6 (by omega) fun x hx => by
                obtain ⟨i, hi, rfl⟩ := List.mem_iff_getElem.mp hx
                exact hk2 i (xs[i]'(by omega)) _ (List.getElem?_eq_getElem (by omega)) (List.getElem?_eq_getElem hi)
          (conv => whnf)
          refine ⟨fun q => ?_, fun q => ?_⟩
          · have q : (s : Int) = (m : Nat) - 1 := q
            exact hA 1 (fun _ => by omega) (Nat.le_refl _)
          · exact hA 0 (fun h => absurd h (by decide)) (Nat.zero_le _)
        · rintro Γ ⟨v, ns, a6, a8, a9, a10, a11, a12, rfl, hv, gv, _, _⟩
          obtain ⟨kk, hkk⟩ : ∃ kk, kk = lvK v := ⟨_, rfl⟩
          have hkl : kk.length = m + 1 := by rw [hkk, lvK_len, hv]
          rw [← hkk]
          (conv => whnf)
          refine wpLc_relD (fun _ : Unit => D.lst [.int 0]) (fun _ _ => True) kk (by omega) (fun x hx N M hN => hN () trivial) fun us hu _ => ?_
          rw [List.map_const', hu, hkl]
          (conv => whnf)
          have e : List.replicate (m + 1) (D.lst [.int 0]) = (List.replicate (m + 1) [0]).map eLn := by rw [List.map_replicate] <;> rfl
          have hsz := gv.szb (k := m) (by omega)
          refine ⟨(false, v, List.replicate (m + 1) [0], 0, m, 0), ?_, ⟨gv, Nat.le_of_eq hv.symm, hsz.1, [0], ?_, rfl⟩, ?_⟩
          · show [D.lst kk, D.lst (List.replicate (m + 1) (D.lst [.int 0])), _, _] = [D.lst (lvK v), D.lst ((List.replicate (m + 1) [0]).map eLn), _, _]
            rw [hkk, e] <;> rfl
          · dsimp only
            rw [List.getElem?_replicate, if_pos (Nat.lt_succ_self m)]
          · rintro _ rfl
            exact ⟨_, rfl, cut_full gv (r := m) (Nat.le_of_eq hv.symm) hsz.1⟩
def c_law_some : Ct := ⟨1, Unit, fun _ => [.tok], fun _ => True, fun _ d => ∃ w, d = eV w ∧ Full w, fun _ => rfl⟩
theorem f_law_some {P : Program} {w : World} {K : PySem.W.Frag} {mg : Str → Option Value} {base : Heap} (W : Wd K mg) : Fn P w K mg base 6 "_law_some" c_law_some := by
  refine W.fn 72 (d := HH.d_law_some) rfl rfl 62 rfl ["_law_d"] rfl rfl (fun _ _ _ _ _ _ us h => by match us, h with | [a0], _ => rfl) fun f fd F => ?_
  have S : FnScope ["_law_d"] ["_law_d"] HH.d_law_some.scope := C8.fnScope_by (by decide +kernel)
  have B := W.gb
  have G_law_draw := f_law_draw (P := P) (w := w) (base := base) W
  have G_law_free := f_law_free (P := P) (w := w) (base := base) W
  have G_law_real := f_law_real (P := P) (w := w) (base := base) W
  refine fn_ok (N := ["_law_d"]) (k := 5) F S rfl (fun cdv A outer s H E hr => ⟨_, (vb_cons (vs_if (vt_cmp (v_gt (v_call G_law_draw hr (va_cons (vv 0) (va_cons v_int va_nil))) v_int))
 (vb_one (vs_ret (v_call G_law_free hr (va_cons (vv 0) va_nil))))
 vb_nil)
 (vb_one (vs_ret (v_call G_law_real hr (va_cons (vv 0) (va_cons v_int va_nil))))))⟩) ?_
  intro _ _
  (conv => whnf)
  refine ⟨(3 : Int), rfl, by show (3 : Int) < _; omega, ?_⟩
  rintro _ ⟨r, rfl, _⟩
  (conv => whnf)
  refine ⟨fun q => ?_, fun q => ?_⟩
  · (conv => whnf)
    refine ⟨(), rfl, trivial, ?_⟩
    rintro _ ⟨w, rfl, hw⟩
    exact ⟨w, rfl, hw⟩
  · (conv => whnf)
    refine ⟨(), rfl, trivial, ?_⟩
    rintro _ ⟨w, rfl, hw⟩
    exact ⟨w, rfl, hw⟩
end LV
set_option Elab.async false
set_option linter.all false
set_option maxRecDepth 100000
set_option maxHeartbeats 4000000
/-! LV19: sorted(set(a list of ints)). -/
namespace LV
open PySem PySem.Spec PyProof.Rows L2
/-- a new set, empty -/
def setObj0 (w : World) : Obj := { cls := .type "set", dict := none, data := .set #[] 0 (.fresh 0 0 (!w.params.followText "set-order")) }
section
variable {P : Program} {w : World} {A : Around} {E : Value → Shared → Prop} {s : Shared}
/-- what the filling of the new set must end in -/
def SetDone (w : World) (s : Shared) (ns : List Int) (v : Value) (s2 : Shared) : Prop := v = .none ∧ ∃ (h' : Heap) (tk c : Nat), s2 = { s with heap := h', toks := tk } ∧ SetR w h' s.heap.objs.size (fun j => decide (j ∈ ns)) c ∧ c ≤ ns.length ∧ ∀ b o, s.heap.get? b = some o → h'.get? b = some o
theorem set_fill {l : Addr} {items : Array Value} {n : Nat} {od : Option Addr} {sl : Array (Option Value)} (ns : List Int) (hh : A.handled = none) (hl : s.heap.get? l = some { cls := .type "list", dict := od, data := .seq items n, slots := sl }) (hit : IntsAre items.toList ns) (hb : ns.length + 1 < scanBound) :
    wpAny (model P w) A.in1 (Builtin.«set.__init__» ⟨[.ref s.heap.objs.size, .ref l], []⟩) (GQ.FinOf P w A (wants (SetDone w s ns) E)) (fun e s' => wants (SetDone w s ns) E (.error e) s') { s with heap := s.heap.push (setObj0 w) } := by
  have hz : items.size = ns.length := by
    have q := IntsAre.length hit
    rwa [Array.length_toList] at q
  have hlt : l < s.heap.objs.size := Heap.lt_size hl
  have hsz : (s.heap.push (setObj0 w)).objs.size = s.heap.objs.size + 1 := Heap.size_push ..
  have hl' : (s.heap.push (setObj0 w)).get? l = some { cls := .type "list", dict := od, data := .seq items n, slots := sl } := Heap.get?_push_of_some _ hl
  have hL : (s.heap.push (setObj0 w)).IsList l items := ⟨_, hl', rfl, n, rfl⟩
  have f1 := F.sub_list_set
  have f2 := F.sub_list_frozenset
  have f3 : (Value.type "list" == Value.type "dict") = false := by decide
  unfold Builtin.«set.__init__» noKeywords Builtin.Frozenset.updateFrom
  generalize hit2 : pyIter = PI
  wp_walk
  subst hit2
  refine wpAny_pyIter_list hL ?_
  refine wpAny_bind (wpAny_runValue ?_)
  have hS0 : (s.heap.push (setObj0 w)).get? s.heap.objs.size = some (setObj0 w) := Heap.get?_push_size _ rfl
  have outI : s.heap.objs.size ∉ [(s.heap.push (setObj0 w)).objs.size, l] := by
    rw [hsz]
    intro z
    rcases List.mem_cons.mp z with z | z
    · exact absurd z (Nat.ne_of_lt (Nat.lt_succ_self _))
    · exact absurd (List.mem_singleton.mp z) (Nat.ne_of_gt hlt)
  have vals : ∀ (i : Nat) (v : Value), items[i]? = some v → ∃ k t, ns[i]? = some k ∧ v = .int k t := fun i v hv => by
    have hi : i < ns.length := by rw [← hz]; exact (Array.getElem?_eq_some_iff.mp hv).1
    obtain ⟨t, e⟩ := IntsAre.int_at hit i v (by rw [Array.getElem?_toList]; exact hv)
    exact ⟨ns[i], t, List.getElem?_eq_getElem hi, by rw [e, List.getD_eq_getElem?_getD, List.getElem?_eq_getElem hi] <;> rfl⟩
  refine set_update_ints ((Walks.list (by simp [hh]) _ l (by rw [hsz]; exact Nat.ne_of_lt (Nat.lt_succ_of_lt hlt)) items).toS) s.heap.objs.size outI ns hz hb vals (items.size - 0) 0 _ (by omega) (Nat.zero_le _)
    ⟨⟨_, Heap.get?_push_size _ rfl, rfl, rfl⟩, hL.push _⟩ ⟨0, Nat.le_refl 0, setR_new_at (Heap.get?_push_of_some _ hS0)⟩ fun s' c' hm hc' hS' => ?_
  obtain ⟨h', g2, d', tk', os'⟩ := s'
  have eg : g2 = s.gens := hm.gens
  have ed : d' = s.drawn := hm.drawn
  have eo : os' = s.os := hm.os
  subst eg ed eo
  refine wpAny_pure ?_
  show wpAny _ _ (ret Value.none) _ _ _
  refine wpAny_pure ⟨rfl, h', tk', c', rfl, hS', by omega, fun b o e => ?_⟩
  have hb0 : b < s.heap.objs.size := Heap.lt_size e
  refine hm.heap b o (fun z => ?_) (Heap.get?_push_of_some _ (Heap.get?_push_of_some _ e))
  rcases List.mem_cons.mp z with z | z
  · exact absurd z (Nat.ne_of_lt hb0)
  · have z : b = (s.heap.push (setObj0 w)).objs.size := List.mem_singleton.mp z
    rw [hsz] at z
    exact absurd z (Nat.ne_of_lt (Nat.lt_succ_of_lt hb0))
theorem set_of_list {l : Addr} {items : Array Value} {n : Nat} {od : Option Addr} {sl : Array (Option Value)} (ns : List Int) {Q : Value → Shared → Prop} (hh : A.handled = none) (hl : s.heap.get? l = some { cls := .type "list", dict := od, data := .seq items n, slots := sl }) (hit : IntsAre items.toList ns) (hb : ns.length + 1 < scanBound)
    (h : ∀ (h' : Heap) (tk c : Nat), SetR w h' s.heap.objs.size (fun j => decide (j ∈ ns)) c → c ≤ ns.length → (∀ b o, s.heap.get? b = some o → h'.get? b = some o) → Q (.ref s.heap.objs.size) { s with heap := h', toks := tk }) :
    wpAny (model P w) A (call (.type "set") [.ref l]) Q E s := by
  obtain ⟨c, tl, hmro⟩ := F.called_set.mro
  have g1 := F.called_set.made
  have g2 := F.called_set.sub
  have g3 := F.called_set.notType
  have g4 := F.called_set.canCreate
  have g5 := F.typeCall_set_1 (.ref l)
  refine wpAny_call (codeAny_of_tree ?_)
  show wpAny _ _ (callAny (.type "set") _) _ _ _
  refine wpAny_pure ⟨Code.quiet_builtin _ (by decide +kernel), codeAny_builtin F.entry_type_call ?_⟩
  rw [Around.under_plain (weight_type_call_type "set" [.ref l] []) rfl]
  repeat (any_goals (first | assumption | wp_step))
  refine codeAny_mono (code_set_led1 (.ref l) (E := E) (Q₁ := fun v s1 => v = .ref s.heap.objs.size ∧ s1 = { s with heap := s.heap.push (setObj0 w) }) ⟨rfl, rfl⟩) fun r s1 hr => ?_
  match r, hr with
  | .error e, hr => exact hr
  | .ok (.ret v), hr =>
    obtain ⟨rfl, rfl⟩ := hr
    have tS : Shared.TypeIs { s with heap := s.heap.push (setObj0 w) } (.ref s.heap.objs.size) "set" := ⟨_, Heap.get?_push_size _ rfl, rfl⟩
    have i1 := F.called_set.init.lookup
    have i2 := F.called_set.init.bind (.ref s.heap.objs.size)
    repeat (any_goals (first | assumption | wp_step))
    refine codeAny_mono (codeAny_call_builtin (R := wants (SetDone w s ns) E) F.called_set.init.plain F.entry_set_init (check_set_init_1 tS (set_fill ns (by simp [hh]) hl hit hb))) fun r2 s2 hr2 => ?_
    match r2, hr2 with
    | .error e, hr2 => exact hr2
    | .ok (.ret v), hr2 =>
      obtain ⟨rfl, h', tk, c', rfl, q1, q2, q3⟩ := hr2
      repeat (any_goals (first | assumption | wp_step))
      exact h _ _ _ q1 q2 q3
    | .ok .next, hr2 => exact hr2.elim
    | .ok .brk, hr2 => exact hr2.elim
    | .ok .cont, hr2 => exact hr2.elim
  | .ok .next, hr => exact hr.elim
  | .ok .brk, hr => exact hr.elim
  | .ok .cont, hr => exact hr.elim
end
section
variable {X : Cx} {a : Expr} {ta : TE} {ma : Vm} {p p2 q pos : Pos}
def rSetI (K : PySem.W.Frag) (w : World) : List V → Hp → VK → Prop := fun vs H Q => ∃ (l : Addr) (ns : List Int), vs = [V.ref l] ∧ SqL K H l (ns.map V.int) ∧ ns.length < 60 ∧ ∀ (r : Addr) (c : Nat), H r = none → c ≤ ns.length → Q (.ref r) (upd H r (SetO w r (fun j => decide (j ∈ ns)) c))
theorem cr_setI (hc : X.calm = true) : CallR X (.type "set") (rSetI X.K X.w) := by
  intro pins s σ H vs us Q I r h
  obtain ⟨l, ns, rfl, hs, hl, q1⟩ := h
  obtain ⟨its, rv, ⟨o, n, ho, hcl, hd, hdt⟩, hz⟩ := I.list hs
  rw [Vals.ref1 r]
  obtain ⟨cls, od, dt, sl⟩ := o
  simp only at hcl hd hdt
  subst hcl hdt
  refine set_of_list ns (I.ok.hd hc) ho (intsAre_of (by simpa using rv)) (by unfold scanBound; omega) fun h' tk c hS hc' hk => ?_
  exact ⟨.ref s.heap.objs.size, upd H s.heap.objs.size (SetO X.w s.heap.objs.size (fun j => decide (j ∈ ns)) c), I.laid (t' := tk) hk (Nat.le_refl _) (setO_new hS), rfl, q1 _ c (I.hok.fresh (Nat.le_refl _)) hc'⟩
end
end LV
set_option Elab.async false
set_option linter.all false
set_option maxRecDepth 100000
set_option maxHeartbeats 4000000
/-! LV18: tuples joined and cut, sorted(set(..)), lists of new lists, a frame begun anew. -/
namespace LV
open PySem PySem.Spec PyProof.Rows L2
section
variable {X : Cx} {e a b c : Expr} {es : List Expr} {t ta tb tc te : TE} {m ma mb mc me : Vm} {pos p p2 q : Pos} {ta' : TA} {na : Va} {n k : Nat}
/-- sorted(set(xs)), xs a list of ints -/
theorem vl_sortedSet (hc : X.calm = true) (hm : X.mg "sorted" = none) (hm2 : X.mg "set" = none) (ha : VE X a ta ma) (hg : Gl X "sorted" := by rfl) (hg2 : Gl X "set" := by rfl) (hs : starEach (a :: []) X.env = (false, eval a X.env) :: starEach [] X.env := by rfl)
    (hs2 : starEach ((.Call (.Name "set" p2) [a] [] q) :: []) X.env = (false, eval (.Call (.Name "set" p2) [a] [] q) X.env) :: starEach [] X.env := by rfl) :
    VL X (.Call (.Name "sorted" p) [.Call (.Name "set" p2) [a] [] q] [] pos) (tCB (rSortedSet X.w) (tCons (tCB (rSetI X.K X.w) (tCons ta tNil)) tNil))
      (fun Γ Q => ma Γ fun d => match d with
        | .lst xs => ∃ ns : List Int, xs = ns.map D.int ∧ ns.length < 60 ∧ ∀ ms : List Int, ms.length ≤ ns.length → (∀ k ∈ ms, k ∈ ns) → Q (ms.map .int)
        | _ => False) :=
  ⟨pe_callB (cr_sortedSet hc) hg hm (by decide +kernel) (pa_cons (pe_callTy (cr_setI hc) hg2 hm2 (by decide +kernel) (pa_cons ha.pe pa_nil hs) (by decide) (by decide) hs rfl) pa_nil hs2) (by decide) (by decide) hs2 rfl, fun {dA F0 H0 F H σ Γ Q Qk} R q f => ha.sim R q fun F1 H1 d v e1 k1 r1 q1 => by
    cases d <;> first | exact False.elim q1 | skip
    rename_i xs
    obtain ⟨ns, rfl, hl, q1⟩ := q1
    obtain ⟨l, vs, rfl, hs, hr⟩ := r1
    rw [rep_ints hr] at hs
    refine ⟨l, ns, rfl, sqL_mono k1.sub hs, hl, fun r c hr0 hcl => ?_⟩
    obtain ⟨e2, k2⟩ := growOwn (o := SetO X.w r (fun j => decide (j ∈ ns)) c) k1 hr0
    refine ⟨r, _, c, rfl, upd_same, by omega, fun ms pp hp1 hp2 hp3 hp0 => ?_⟩
    obtain ⟨e3, k3⟩ := growOwn (o := .lst (ms.map V.int)) k2 hp0
    exact f F1 _ pp (ms.map .int) _ ((e1.trans e2).trans e3) k3 ((e1.trans e2).none hp0) (k2.fnone hp0) upd_same (ints_rep ms) (q1 ms (by omega) fun k hk => of_decide_eq_true ((hp2 k).mp hk))⟩
/-- t + u, tuples -/
def oCat : D → D → (D → Prop) → Prop := fun x y Q => match x, y with
  | .tup xs, .tup ys => xs.length + ys.length ≤ 1000000 ∧ Q (.tup (xs ++ ys))
  | _, _ => False
theorem os_cat {K : PySem.W.Frag} : OSim K (rCatA K) oCat := fun {dA F H dx dy x y Q Qk} k rx ry q f => by
  unfold oCat at q
  split at q
  · rename_i xs ys
    obtain ⟨hl, q⟩ := q
    obtain ⟨a, vs, rfl, h1, r1⟩ := id rx
    obtain ⟨b, ws, rfl, h2, r2⟩ := id ry
    refine ⟨a, b, vs, ws, rfl, rfl, sqT_of k.sub h1, sqT_of k.sub h2, line_le (by rw [r1.length, r2.length]; exact hl), fun z => ?_, fun z1 z2 => ?_, fun z1 z2 p hp => ?_⟩
    · subst z
      have e : xs = [] := List.length_eq_zero_iff.mp r1.length.symm
      subst e
      exact f F H (.tup ys) _ Ext.refl k ry q
    · subst z2
      have e : ys = [] := List.length_eq_zero_iff.mp r2.length.symm
      subst e
      rw [List.append_nil] at q
      exact f F H (.tup xs) _ Ext.refl k rx q
    · obtain ⟨e2, k2⟩ := grow (o := .tup (vs ++ ws)) k hp
      exact f _ _ (.tup (xs ++ ys)) _ e2 k2 ⟨p, vs ++ ws, rfl, upd_same, RepL.append (RepL.mono e2.ff _ _ r1) (RepL.mono e2.ff _ _ r2)⟩ q
  · exact q.elim
theorem v_cat (ha : VE X a ta ma) (hb : VE X b tb mb) : VE X (.BinOp a .Add b pos) (tOp (rCatA X.K) ta tb) (vOp oCat ma mb) := v_op op_catA os_cat ha hb
/-- t[1:] -/
theorem v_tl {j : Nat} {p3 : Pos} (ha : VE X a ta ma) : VE X (.Subscript a (.Slice (some (.Constant (.int 1) j p3)) none none p2) pos) (tSl (rSlA X.K) ta (tPart (tC (.int 1))) tNoPart)
    (fun Γ Q => ma Γ fun d => match d with
      | .tup xs => Q (.tup (xs.drop 1))
      | _ => False) :=
  ⟨pe_slice sl_tupA ha.pe (po_some pe_int) po_none, fun {dA F0 H0 F H σ Γ Q Qk} R q f => ha.sim R q fun F1 H1 d v e1 k1 r1 q1 => by
    cases d <;> first | exact False.elim q1 | skip
    rename_i xs
    obtain ⟨a, vs, rfl, h1, r2⟩ := id r1
    have e0 : HT.sIx vs.length 0 (some 1) = min 1 vs.length := HT.sIx_nat vs.length 0 1
    have e9 : HT.sIx vs.length vs.length none = vs.length := rfl
    refine ⟨1, rfl, a, vs, rfl, sqT_of k1.sub h1, fun z => ?_, fun z p hp => ?_⟩
    · have hv : vs.length = 0 := by
        have := z.1
        rw [e0] at this
        omega
      have hx : xs = [] := List.length_eq_zero_iff.mp (by rw [← r2.length]; exact hv)
      subst hx
      exact f F1 H1 (.tup []) _ e1 k1 r1 q1
    · have ec : L2.cutV vs (some 1) none = vs.drop 1 := by
        unfold L2.cutV
        rw [e0, e9]
        cases vs with
        | nil => rfl
        | cons v vs =>
          have : min 1 (v :: vs).length = 1 := by rw [List.length_cons]; omega
          rw [this, List.take_of_length_le (by rw [List.length_drop]; omega)]
      rw [ec]
      obtain ⟨e2, k2⟩ := grow (o := .tup (vs.drop 1)) k1 hp
      have r3 := RepL.mono e2.ff _ _ r2
      refine f _ _ (.tup (xs.drop 1)) _ (e1.trans e2) k2 ⟨p, _, rfl, upd_same, ?_⟩ q1
      clear q1 r1 r2
      cases xs with
      | nil =>
        have r3 : vs = [] := r3
        subst r3
        rfl
      | cons x xs =>
        obtain ⟨v, r, e, _, h⟩ := r3
        have e : vs.drop 1 = r := by rw [e] <;> rfl
        have key : ∀ zs, zs = r → RepL X.K dA (upd F1 p (.tup (vs.drop 1))) xs zs := fun zs z => z ▸ h
        exact key _ e⟩
end
section
variable {K : PySem.W.Frag} {dA : Option Addr} {F0 H0 F H F' H' : Hp} {σ : L2.St} {Γ : Ev}
/-- slots of data alone -/
def ImNo (Γ : Ev) : Prop := ∀ s ∈ Γ, s = .no ∨ ∃ d, s = .im d
theorem Rel.again (R : Rel K dA F0 H0 F H σ Γ) (h : ImNo Γ) (hs : Same F F') (k : Ok K dA F' H') : Rel K dA F' H' F' H' σ Γ := by
  obtain ⟨own, ho, hsl⟩ := R.sl
  refine ⟨k, Ext.refl, R.len, fun _ => none, fun a i z => (nomatch z), fun i s hi => ?_⟩
  obtain ⟨o, h1, h2⟩ := hsl i s hi
  rcases h s (List.mem_of_getElem? hi) with rfl | ⟨d, rfl⟩
  · exact ⟨o, h1, trivial⟩
  · obtain ⟨v, rfl, h3⟩ := h2
    exact ⟨some v, h1, v, rfl, Rep.mono hs _ _ h3⟩
theorem Rel.setNo (R : Rel K dA F0 H0 F H σ Γ) (i : Nat) (o : Option V) : Rel K dA F0 H0 F H (σ.set i o) (Γ.set i .no) := by
  obtain ⟨own, ho, hs⟩ := R.sl
  refine ⟨R.ok, R.ext, by simpa using R.len, own, ho, fun j s e => ?_⟩
  by_cases hj : i = j
  · subst hj
    have hl : i < Γ.length := by
      have := (List.getElem?_eq_some_iff.mp e).1
      simpa using this
    rw [List.getElem?_set_self hl] at e
    cases e
    exact ⟨o, by rw [List.getElem?_set_self (by rw [R.len]; exact hl)], trivial⟩
  · rw [List.getElem?_set_ne hj] at e ⊢
    exact hs j s e
theorem ImNo.set {i : Nat} {s : Sl} (h : ImNo Γ) (hs : s = .no ∨ ∃ d, s = .im d) : ImNo (Γ.set i s) := fun z hz => by
  rcases List.mem_or_eq_of_mem_set hz with hz | rfl
  · exact h z hz
  · exact hs
/-- fewer slots known -/
theorem Rel.less (R : Rel K dA F0 H0 F H σ Γ) {Δ : Ev} (hl : Δ.length = Γ.length) (h : ∀ (i : Nat) (s : Sl), Δ[i]? = some s → s = .no ∨ Γ[i]? = some s) : Rel K dA F0 H0 F H σ Δ := by
  obtain ⟨own, ho, hs⟩ := R.sl
  refine ⟨R.ok, R.ext, by rw [hl]; exact R.len, own, ho, fun i s hi => ?_⟩
  rcases h i s hi with rfl | h
  · have : i < σ.length := by
      rw [R.len, ← hl]
      exact (List.getElem?_eq_some_iff.mp hi).1
    exact ⟨_, List.getElem?_eq_getElem this, trivial⟩
  · exact hs i s h
/-- [a new list for each] -/
theorem sim_onE {wi : TI} {mi : Va} {vs : List Nat} {g : TG} {mg : Vg} {L : List Nat} {te : TE} {me : Va}
    (hi : ∀ {dA F0 H0 F H σ Γ Q R}, Rel K dA F0 H0 F H σ Γ → mi Γ Q → (∀ J F' H' ds, Ext dA F H F' H' → Ok K dA F' H' → WalkE K dA J F' H' ds → Q ds → R J H') → wi σ H R)
    (hg : ∀ {dA F0 H0 F H σ Γ d v Q Qk}, Rel K dA F0 H0 F H σ Γ → Rep K dA F d v → mg d Γ Q → (∀ σ' Γ', Rel K dA F0 H0 F H σ' Γ' → Touch L σ σ' → Q Γ' → Qk σ' H) → g v σ H Qk) (hL : ∀ i ∈ L, i ∈ vs)
    (he : ∀ {dA F0 H0 F H σ Γ Q Qk}, Rel K dA F0 H0 F H σ Γ → me Γ Q → FinL K dA F H Q Qk → te σ H Qk)
    {Q : List (List D) → Prop} {Qk : VK} (R : Rel K dA F0 H0 F H σ Γ) (q : mi Γ fun ds => ds.length ≤ 1000000 ∧ ∃ rss : List (List D), rss.length = ds.length ∧ (∀ (i : Nat) d rs, ds[i]? = some d → rss[i]? = some rs → mg d (wipeG Γ vs) fun Γ' => me Γ' fun xs => xs = rs) ∧ Q rss)
    (f : ∀ F' H' p as rss, Ext dA F H F' H' → Ok K dA F' H' → (∀ a ∈ p :: as, H a = none ∧ F' a = none) → (p :: as).Nodup → H' p = some (.lst (as.map V.ref)) → as.length = rss.length → (∀ (i : Nat) a rs, as[i]? = some a → rss[i]? = some rs → ∃ ws, H' a = some (.lst ws) ∧ RepL K dA F' rs ws) → Q rss → Qk (.ref p) H') : tLc wi g tYes te vs σ H Qk := by
  refine hi R q fun J F1 H1 ds e1 k1 w ⟨hl, rss, hrl, hgd, q1⟩ p hp => ?_
  have R1 := R.step e1 k1
  have hd : dA ≠ some p := k1.tne hp
  refine ⟨fun i m H => m = ds.length - i ∧ ∃ F as, Ext dA F1 H1 F H ∧ Ok K dA F H ∧ H p = some (.lst (as.map V.ref)) ∧ F p = none ∧ as.length = i ∧ (p :: as).Nodup ∧ (∀ a ∈ as, H1 a = none ∧ F a = none) ∧ (∀ (j : Nat) a rs, as[j]? = some a → rss[j]? = some rs → ∃ ws, H a = some (.lst ws) ∧ RepL K dA F rs ws) ∧ i ≤ ds.length,
    ⟨_, rfl, F1, [], (growOwn k1 hp).1, (growOwn k1 hp).2, upd_same, k1.fnone hp, rfl, by simp, fun a h => absurd h List.not_mem_nil, fun j a rs h _ => absurd h (by simp), Nat.zero_le _⟩, fun i m H2 ⟨hm, F2, as, e2, k2, h2, f2, l2, n2, a2, c2, hid⟩ => ?_⟩
  have W := w F2 H2 e2 k2 i
  by_cases hlt : i < ds.length
  · obtain ⟨go, yl⟩ := W.1 hlt
    refine .inr ⟨go, fun H => ∃ F as, Ext dA F1 H1 F H ∧ Ok K dA F H ∧ H p = some (.lst (as.map V.ref)) ∧ F p = none ∧ as.length = i + 1 ∧ (p :: as).Nodup ∧ (∀ a ∈ as, H1 a = none ∧ F a = none) ∧ (∀ (j : Nat) a rs, as[j]? = some a → rss[j]? = some rs → ∃ ws, H a = some (.lst ws) ∧ RepL K dA F rs ws) ∧ i + 1 ≤ ds.length, fun H h => ⟨ds.length - (i + 1), by omega, rfl, h⟩, fun x H3 y => ?_⟩
    obtain ⟨F3, d, e3, k3, hdi, r3⟩ := yl x H3 y
    have R3 := (R1.step (e2.trans e3) k3).wipe vs
    have hri : rss[i]? = some (rss[i]'(by omega)) := List.getElem?_eq_getElem _
    refine hg R3 r3 (hgd i d _ hdi hri) fun σ4 Γ4 R4 t4 qe => ⟨?_, ?_⟩
    · rw [t4 vs hL, wipe_wipe]
    · unfold tYes
      dsimp only
      rw [if_pos rfl]
      refine he R4 qe fun F4 H4 r xs ws e4 k4 hr3 f4 h4 r4 hxs => ?_
      subst hxs
      have n3 : F3 p = none := e3.fkeep h2 f2
      have h3 : H3 p = some (.lst (as.map V.ref)) := e3.keep _ _ h2 hd
      have n4 : F4 p = none := e4.fkeep h3 n3
      have h4p : H4 p = some (.lst (as.map V.ref)) := e4.keep _ _ h3 hd
      have hpr : p ≠ r := fun z => by
        rw [z, hr3] at h3
        cases h3
      have hr1 : H1 r = none := (e2.trans e3).none hr3
      have live : ∀ a ∈ as, ∃ ws, H2 a = some (.lst ws) := fun a ha => by
        obtain ⟨j, hj, rfl⟩ := List.mem_iff_getElem.mp ha
        obtain ⟨ws, hw, _⟩ := c2 j as[j] (rss[j]'(by omega)) (List.getElem?_eq_getElem hj) (List.getElem?_eq_getElem (by omega))
        exact ⟨ws, hw⟩
      have hra : ∀ a ∈ as, a ≠ r := fun a ha z => by
        obtain ⟨ws, hw⟩ := live a ha
        have := e3.keep a _ hw (k1.tne (a2 a ha).1)
        rw [z, hr3] at this
        cases this
      refine ⟨as.map V.ref, h4p, line_lt (by rw [List.length_map]; omega), F4, as ++ [r], ?_, ?_, ?_, n4, by rw [List.length_append, l2] <;> rfl, ?_, fun a ha => ?_, fun j a rs hj hrj => ?_, hlt⟩
      · exact ((e2.trans e3).trans e4).ownStep hp
      · exact k4.ownStep n4 hd
      · rw [upd_same, List.map_append] <;> rfl
      · rw [← List.cons_append, List.nodup_append]
        refine ⟨n2, by simp, fun a ha b hb => ?_⟩
        rw [List.mem_singleton] at hb
        subst hb
        rcases List.mem_cons.mp ha with rfl | ha
        · exact hpr
        · exact hra a ha
      · rcases List.mem_append.mp ha with ha | ha
        · obtain ⟨b1, b2⟩ := a2 a ha
          obtain ⟨ws', hw⟩ := live a ha
          exact ⟨b1, e4.fkeep (e3.keep _ _ hw (k1.tne b1)) (e3.fkeep hw b2)⟩
        · rw [List.mem_singleton] at ha
          subst ha
          exact ⟨hr1, f4⟩
      · by_cases hlt2 : j < as.length
        · rw [List.getElem?_append_left hlt2] at hj
          obtain ⟨ws', hw, hr'⟩ := c2 j a rs hj hrj
          have ha := List.mem_of_getElem? hj
          have hap : a ≠ p := fun z => by
            rw [List.nodup_cons] at n2
            exact n2.1 (by rw [← z]; exact ha)
          refine ⟨ws', by rw [upd_ne hap]; exact e4.keep _ _ (e3.keep _ _ hw (k1.tne (a2 a ha).1)) (k1.tne (a2 a ha).1), RepL.mono (e3.ff.trans e4.ff) _ _ hr'⟩
        · rw [List.getElem?_append_right (by omega)] at hj
          have ej : j = as.length := by
            have := (List.getElem?_eq_some_iff.mp hj).1
            simp at this
            omega
          subst ej
          rw [Nat.sub_self] at hj
          cases hj
          rw [l2, hri] at hrj
          cases hrj
          exact ⟨ws, by rw [upd_ne hpr.symm]; exact h4, r4⟩
  · have ei : i = ds.length := by omega
    refine .inl ⟨W.2 (by omega), f F2 H2 p as rss (e1.trans e2) k2 (fun a ha => ?_) n2 h2 (by omega) c2 q1⟩
    rcases List.mem_cons.mp ha with rfl | ha
    · exact ⟨e1.none hp, f2⟩
    · exact ⟨e1.none (a2 a ha).1, (a2 a ha).2⟩
end
end LV
set_option Elab.async false
set_option linter.all false
set_option maxRecDepth 100000
set_option maxHeartbeats 4000000
/-! LV20: code read by the heap itself, with the value layer inside: expressions (RE), tests (RT), arguments (RA), statements (RS), blocks (RB). -/
namespace LV
open PySem PySem.Spec PyProof.Rows L2
structure RE (X : Cx) (e : Expr) (m : TE) : Prop where
  ex : ∃ t, PE X e t ∧ ∀ σ H (Qm Qt : VK), (∀ v H, Qm v H → Qt v H) → m σ H Qm → t σ H Qt
structure RT (X : Cx) (e : Expr) (m : TT) : Prop where
  ex : ∃ t, PT X e t ∧ ∀ σ H (Qm Qt : Bool → Hp → Prop), (∀ v H, Qm v H → Qt v H) → m σ H Qm → t σ H Qt
structure RA (X : Cx) (es : List Expr) (m : TA) : Prop where
  ex : ∃ t, PA X es t ∧ ∀ σ H (Qm Qt : List V → Hp → Prop), (∀ v H, Qm v H → Qt v H) → m σ H Qm → t σ H Qt
structure Le (Dm Dt : Ends) : Prop where
  nx : ∀ σ H, Dm.nx σ H → Dt.nx σ H
  rt : ∀ v H, Dm.rt v H → Dt.rt v H
  bk : ∀ σ H, Dm.bk σ H → Dt.bk σ H
  ct : ∀ σ H, Dm.ct σ H → Dt.ct σ H
structure RS (X : Cx) (st : Stmt) (m : TS) : Prop where
  ex : ∃ t, PS X st t ∧ ∀ Dm Dt σ H, Le Dm Dt → m Dm σ H → t Dt σ H
structure RB (X : Cx) (sts : List Stmt) (m : TS) : Prop where
  ex : ∃ t, PSs X sts t ∧ ∀ Dm Dt σ H, Le Dm Dt → m Dm σ H → t Dt σ H
section
variable {X : Cx} {e a b c : Expr} {es : List Expr} {st : Stmt} {sts sts' : List Stmt} {m ma mb : TE} {mA : TA} {mt : TT} {ms mu : TS} {me : Vm} {te : TE} {tt : TT} {mv : Vt} {pos p lp : Pos} {x : Str} {k n : Nat} {q apos cpos : Pos}
/-! ### expressions -/
/-- the value layer's expression, at a frame of one's choice -/
def rVE (K : PySem.W.Frag) (me : Vm) : TE := fun σ H Q => ∃ (dA : Option Addr) (F0 H0 F : Hp) (Γ : Ev) (Qd : D → Prop), Rel K dA F0 H0 F H σ Γ ∧ me Γ Qd ∧ ∀ F1 H1 d v, Ext dA F H F1 H1 → Ok K dA F1 H1 → Rep K dA F1 d v → Qd d → Q v H1
theorem re_ve (h : VE X e te me) : RE X e (rVE X.K me) := ⟨te, h.pe, fun σ H Qm Qt hq ⟨dA, F0, H0, F, Γ, Qd, R, q, f⟩ => h.sim R q fun F1 H1 d v e1 k1 r1 q1 => hq _ _ (f F1 H1 d v e1 k1 r1 q1)⟩
/-- .. that gives a new list, still nobody's -/
def rVL (K : PySem.W.Frag) (mL : Va) : TE := fun σ H Q => ∃ (dA : Option Addr) (F0 H0 F : Hp) (Γ : Ev) (Qd : List D → Prop), Rel K dA F0 H0 F H σ Γ ∧ mL Γ Qd ∧ ∀ F1 H1 p ds vs, Ext dA F H F1 H1 → Ok K dA F1 H1 → H p = none → F1 p = none → H1 p = some (.lst vs) → RepL K dA F1 ds vs → Qd ds → Q (.ref p) H1
theorem re_vl {mL : Va} (h : VL X e te mL) : RE X e (rVL X.K mL) := ⟨te, h.pe, fun σ H Qm Qt hq ⟨dA, F0, H0, F, Γ, Qd, R, q, f⟩ => h.sim R q fun F1 H1 p ds vs e1 k1 n1 f1 h1 r1 q1 => hq _ _ (f F1 H1 p ds vs e1 k1 n1 f1 h1 r1 q1)⟩
theorem re_var (i : Nat) (hN : X.N[i]? = some x := by rfl) (hv : Vis X.env.scope x := by first | exact Or.inl rfl | exact Or.inr (Or.inl rfl) | exact Or.inr (Or.inr rfl)) (hd : (x == ("__debug__" : Str)) = false := by decide)
    (hcd : (x == ("__classdict__" : Str)) = false := by decide) : RE X (.Name x p) (tVar i) := ⟨tVar i, pe_var hN hv hd hcd, fun σ H Qm Qt hq ⟨v, h, h2⟩ => ⟨v, h, hq _ _ h2⟩⟩
theorem re_int {i : Int} {j} : RE X (.Constant (.int i) j pos) (tC (.int i)) := ⟨_, pe_int, fun σ H Qm Qt hq h => hq _ _ h⟩
theorem re_neg {i : Int} {j} : RE X (.UnaryOp .USub (.Constant (.int i) j p) pos) (tC (.int (-i))) := ⟨_, pe_un un_neg pe_int, fun σ H Qm Qt hq h => ⟨i, rfl, hq _ _ h⟩⟩
def RM (r : R2) : Prop := ∀ x y H (Qm Qt : VK), (∀ v H, Qm v H → Qt v H) → r x y H Qm → r x y H Qt
theorem re_op {op : Operator} {r : R2} (h : OpR X (binaryOp op) r) (hm : RM r) (ha : RE X a ma) (hb : RE X b mb) : RE X (.BinOp a op b pos) (tOp r ma mb) := by
  obtain ⟨t1, p1, q1⟩ := ha.ex
  obtain ⟨t2, p2, q2⟩ := hb.ex
  exact ⟨tOp r t1 t2, pe_op h p1 p2, fun σ H Qm Qt hq h => q1 σ H _ _ (fun x H1 h1 => q2 σ H1 _ _ (fun y H2 h2 => hm x y H2 _ _ hq h2) h1) h⟩
theorem re_add (ha : RE X a ma) (hb : RE X b mb) : RE X (.BinOp a .Add b pos) (tOp (rI0 fun i j => .int (i + j)) ma mb) := re_op op_add (fun x y H Qm Qt hq ⟨i, j, e1, e2, h⟩ => ⟨i, j, e1, e2, hq _ _ h⟩) ha hb
theorem re_sub (ha : RE X a ma) (hb : RE X b mb) : RE X (.BinOp a .Sub b pos) (tOp (rI0 fun i j => .int (i - j)) ma mb) := re_op op_sub (fun x y H Qm Qt hq ⟨i, j, e1, e2, h⟩ => ⟨i, j, e1, e2, hq _ _ h⟩) ha hb
theorem re_cat (ha : RE X a ma) (hb : RE X b mb) : RE X (.BinOp a .Add b pos) (tOp (rCatA X.K) ma mb) := re_op op_catA (fun x y H Qm Qt hq ⟨p, r, xs, ys, e1, e2, h1, h2, h3, h4, h5, h6⟩ => ⟨p, r, xs, ys, e1, e2, h1, h2, h3, fun z => hq _ _ (h4 z), fun z w => hq _ _ (h5 z w), fun z w p hp => hq _ _ (h6 z w p hp)⟩) ha hb
/-- a list's item -/
theorem re_ix (ha : RE X a ma) (hb : RE X b mb) (hs : PlainIx b := by exact fun _ _ => rfl) : RE X (.Subscript a b pos) (tOp (rIxL X.K) ma mb) := by
  obtain ⟨t1, p1, q1⟩ := ha.ex
  obtain ⟨t2, p2, q2⟩ := hb.ex
  exact ⟨tOp (rIxL X.K) t1 t2, pe_ix ix_list p1 p2 hs, fun σ H Qm Qt hq h => q1 σ H _ _ (fun x H1 h1 => q2 σ H1 _ _ (fun y H2 ⟨l, xs, i, v, e1, e2, h3, h4, h5⟩ => ⟨l, xs, i, v, e1, e2, h3, h4, hq _ _ h5⟩) h1) h⟩
theorem re_tl {j : Nat} {p2 p3 : Pos} (ha : RE X a ma) : RE X (.Subscript a (.Slice (some (.Constant (.int 1) j p3)) none none p2) pos) (tSl (rSlA X.K) ma (tPart (tC (.int 1))) tNoPart) := by
  obtain ⟨t1, p1, q1⟩ := ha.ex
  exact ⟨_, pe_slice sl_tupA p1 (po_some pe_int) po_none, fun σ H Qm Qt hq h => q1 σ H _ _ (fun x H1 ⟨i, e, l, xs, e1, h1, h2, h3⟩ => ⟨i, e, l, xs, e1, h1, fun z => hq _ _ (h2 z), fun z p hp => hq _ _ (h3 z p hp)⟩) h⟩
theorem ra_nil : RA X [] tNil := ⟨tNil, pa_nil, fun σ H Qm Qt hq h => hq _ _ h⟩
theorem ra_cons (ha : RE X a ma) (hr : RA X es mA) (hs : starEach (a :: es) X.env = (false, eval a X.env) :: starEach es X.env := by rfl) : RA X (a :: es) (tCons ma mA) := by
  obtain ⟨t1, p1, q1⟩ := ha.ex
  obtain ⟨t2, p2, q2⟩ := hr.ex
  exact ⟨tCons t1 t2, pa_cons p1 p2 hs, fun σ H Qm Qt hq h => q1 σ H _ _ (fun x H1 h1 => q2 σ H1 _ _ (fun xs H2 h2 => hq _ _ h2) h1) h⟩
theorem re_lst (h : RA X es mA) : RE X (.List es pos) (tLst mA) := by
  obtain ⟨t1, p1, q1⟩ := h.ex
  exact ⟨tLst t1, pe_lst p1, fun σ H Qm Qt hq h => q1 σ H _ _ (fun xs H1 ⟨h1, h2⟩ => ⟨h1, fun l hl => hq _ _ (h2 l hl)⟩) h⟩
theorem re_tup {x1} (h : RA X es mA) : RE X (.Tuple es x1 pos) (tTup mA) := by
  obtain ⟨t1, p1, q1⟩ := h.ex
  exact ⟨tTup t1, pe_tup p1, fun σ H Qm Qt hq h => q1 σ H _ _ (fun xs H1 ⟨h1, h2⟩ => ⟨h1, fun l hl => hq _ _ (h2 l hl)⟩) h⟩
theorem re_len (hm : X.mg "len" = none) (ha : RE X a ma) (hg : Gl X "len" := by rfl) (hs : starEach (a :: []) X.env = (false, eval a X.env) :: starEach [] X.env := by rfl) : RE X (.Call (.Name "len" p) [a] [] pos) (tCB (fun xs H Q => ∃ p ys, xs = [.ref p] ∧ (SqL X.K H p ys ∨ SqT X.K H p ys) ∧ Q (.int ys.length) H) (tCons ma tNil)) := by
  obtain ⟨t1, p1, q1⟩ := ha.ex
  exact ⟨_, pe_callB call_len_seq hg hm PySem.boot_len (pa_cons p1 pa_nil hs) (by decide) (by decide) hs rfl, fun σ H Qm Qt hq h => q1 σ H _ _ (fun x H1 ⟨l, ys, e1, h1, h2⟩ => ⟨l, ys, e1, h1, hq _ _ h2⟩) h⟩
theorem re_min (hc : X.calm = true) (hm : X.mg "min" = none) (ha : RE X a ma) (hb : RE X b mb) (hg : Gl X "min" := by rfl) (hs : starEach (a :: [b]) X.env = (false, eval a X.env) :: starEach [b] X.env := by rfl) (hs2 : starEach (b :: []) X.env = (false, eval b X.env) :: starEach [] X.env := by rfl) (hpl : (backTo pos (starEach [b] X.env)).any (·.1) = false := by rfl) :
    RE X (.Call (.Name "min" p) [a, b] [] pos) (tCB (fun xs H Q => ∃ i j, xs = [.int i, .int j] ∧ Q (.int (if j < i then j else i)) H) (tCons ma (tCons mb tNil))) := by
  obtain ⟨t1, p1, q1⟩ := ha.ex
  obtain ⟨t2, p2, q2⟩ := hb.ex
  exact ⟨_, pe_callB (call_min2 hc) hg hm (by decide +kernel) (pa_cons p1 (pa_cons p2 pa_nil hs2) hs) (by decide) (by decide) hs hpl, fun σ H Qm Qt hq h => q1 σ H _ _ (fun x H1 h1 => q2 σ H1 _ _ (fun y H2 ⟨i, j, e1, h2⟩ => ⟨i, j, e1, hq _ _ h2⟩) h1) h⟩
/-- a def of the value layer -/
theorem re_call {ct : Ct} (G : Fn X.prog X.w X.K X.mg X.base k x ct) (hr : Room n X.A) (ha : RA X (e :: es) mA) (hkn : k ≤ n := by decide) (hg : Gl X x := by rfl) (hdb : (x == ("__debug__" : Str)) = false := by decide)
    (he : starEach (e :: es) X.env = (false, eval e X.env) :: starEach es X.env := by rfl) (hpl : (backTo pos (starEach es X.env)).any (·.1) = false := by rfl) : RE X (.Call (.Name x p) (e :: es) [] pos) (fun σ H Q => mA σ H fun vs H1 => spOf X.K ct vs H1 Q E0) := by
  obtain ⟨t1, p1, q1⟩ := ha.ex
  obtain ⟨f, fd, ps, h1, h2, h3, h4⟩ := G.ex
  refine ⟨_, pe_call h1 (hr.mono hkn) hg h2 h3 h4 .nil pass0 p1 hdb he hpl, fun σ H Qm Qt hq h => q1 σ H _ _ (fun vs H1 h5 => ?_) h⟩
  obtain ⟨dA, F, g, k0, r, hp, hf⟩ := h5
  show spOf X.K ct (vs ++ []) H1 Qt _
  rw [List.append_nil]
  exact ⟨dA, F, g, k0, r, hp, fun F' H' d v e2 k2 r2 hd => hq _ _ (hf F' H' d v e2 k2 r2 hd)⟩
structure FnS (P : Program) (w : World) (K : PySem.W.Frag) (mg : Str → Option Value) (base : Heap) (k : Nat) (x : Str) (sp : Sp) : Prop where
  ex : ∃ f fd ps, FnOk P w K mg base CX0 k f fd ps sp ∧ mg x = some (.ref f) ∧ PySem.W.keepIn K (.ref f) = true ∧ Binds K fd ps []
theorem re_callS {sp : Sp} (G : FnS X.prog X.w X.K X.mg X.base k x sp) (hr : Room n X.A) (ha : RA X (e :: es) mA) (hmono : ∀ vs H (Qm Qt : VK) E, (∀ v H, Qm v H → Qt v H) → sp vs H Qm E → sp vs H Qt E) (hkn : k ≤ n := by decide) (hg : Gl X x := by rfl) (hdb : (x == ("__debug__" : Str)) = false := by decide)
    (he : starEach (e :: es) X.env = (false, eval e X.env) :: starEach es X.env := by rfl) (hpl : (backTo pos (starEach es X.env)).any (·.1) = false := by rfl) : RE X (.Call (.Name x p) (e :: es) [] pos) (fun σ H Q => mA σ H fun vs H1 => sp vs H1 Q E0) := by
  obtain ⟨t1, p1, q1⟩ := ha.ex
  obtain ⟨f, fd, ps, h1, h2, h3, h4⟩ := G.ex
  refine ⟨_, pe_call h1 (hr.mono hkn) hg h2 h3 h4 .nil pass0 p1 hdb he hpl, fun σ H Qm Qt hq h => q1 σ H _ _ (fun vs H1 h5 => ?_) h⟩
  show sp (vs ++ []) H1 Qt _
  rw [List.append_nil]
  exact hmono _ _ _ _ _ hq h5
/-! ### tests -/
def rVT (K : PySem.W.Frag) (mv : Vt) : TT := fun σ H Q => ∃ (dA : Option Addr) (F0 H0 F : Hp) (Γ : Ev) (Qd : Bool → Prop), Rel K dA F0 H0 F H σ Γ ∧ mv Γ Qd ∧ ∀ F1 H1 b, Ext dA F H F1 H1 → Ok K dA F1 H1 → Qd b → Q b H1
theorem rt_vt (h : VT X e tt mv) : RT X e (rVT X.K mv) := ⟨tt, h.pt, fun σ H Qm Qt hq ⟨dA, F0, H0, F, Γ, Qd, R, q, f⟩ => h.sim R q fun F1 H1 b e1 k1 q1 => hq _ _ (f F1 H1 b e1 k1 q1)⟩
theorem re_ifx (h : RT X c mt) (ha : RE X a ma) (hb : RE X b mb) : RE X (.IfExp c a b pos) (tIf mt ma mb) := by
  obtain ⟨t0, p0, q0⟩ := h.ex
  obtain ⟨t1, p1, q1⟩ := ha.ex
  obtain ⟨t2, p2, q2⟩ := hb.ex
  refine ⟨tIf t0 t1 t2, pe_ifExp p0 p1 p2, fun σ H Qm Qt hq h => q0 σ H _ _ (fun v H1 h1 => ?_) h⟩
  cases v with
  | true => exact q1 σ H1 _ _ hq h1
  | false => exact q2 σ H1 _ _ hq h1
/-! ### statements -/
theorem rb_nil : RB X [] tNext := ⟨_, pss_nil, fun Dm Dt σ H l h => l.nx _ _ h⟩
theorem rb_cons (h1 : RS X st ms) (h2 : RB X sts mu) : RB X (st :: sts) (tSeq ms mu) := by
  obtain ⟨t1, p1, q1⟩ := h1.ex
  obtain ⟨t2, p2, q2⟩ := h2.ex
  exact ⟨tSeq t1 t2, pss_cons p1 p2, fun Dm Dt σ H l h => q1 { Dm with nx := mu Dm } { Dt with nx := t2 Dt } σ H ⟨fun σ H h => q2 Dm Dt σ H l h, l.rt, l.bk, l.ct⟩ h⟩
theorem rb_one (h1 : RS X st ms) : RB X [st] ms := by
  obtain ⟨t1, p1, q1⟩ := h1.ex
  exact ⟨t1, pss_one p1, q1⟩
theorem rs_if (h : RT X c mt) (ha : RB X sts ms) (hb : RB X sts' mu) : RS X (.If c sts sts' pos) (tIfS mt ms mu) := by
  obtain ⟨t0, p0, q0⟩ := h.ex
  obtain ⟨t1, p1, q1⟩ := ha.ex
  obtain ⟨t2, p2, q2⟩ := hb.ex
  refine ⟨tIfS t0 t1 t2, ps_if p0 p1 p2, fun Dm Dt σ H l h => q0 σ H _ _ (fun v H1 h1 => ?_) h⟩
  cases v with
  | true => exact q1 Dm Dt σ H1 l h1
  | false => exact q2 Dm Dt σ H1 l h1
theorem rs_set {i : Nat} {pos' : Pos} (hN : X.N.Nodup) (he : RE X e ma) (hi : X.N[i]? = some x := by rfl) (hx : Loc X.env.scope x := by first | exact Or.inl rfl | exact Or.inr rfl) (hs : swapsWith e (some (.Name x pos')) pos.line X.env = pure false := by rfl)
    (hf : X.fn x = true ∨ X.env.scope.names.lookup x = some .local := by first | exact .inl rfl | exact .inr rfl | assumption) : RS X (.Assign [.Name x pos'] e pos) (tAsg ma (gName i)) := by
  obtain ⟨t1, p1, q1⟩ := he.ex
  exact ⟨_, ps_set hN hi hx p1 hs hf, fun Dm Dt σ H l h => q1 σ H _ _ (fun v H1 h1 => l.nx _ _ h1) h⟩
theorem rs_ret (he : RE X e ma) : RS X (.Return (some e) pos) (tRet ma) := by
  obtain ⟨t1, p1, q1⟩ := he.ex
  exact ⟨_, ps_ret p1, fun Dm Dt σ H l h => q1 σ H _ _ (fun v H1 h1 => l.rt _ _ h1) h⟩
theorem rs_expr (he : RE X e ma) (hs : swapsWith e none pos.line X.env = pure false := by rfl) : RS X (.Expr e pos) (tDrop ma) := by
  obtain ⟨t1, p1, q1⟩ := he.ex
  exact ⟨_, ps_expr p1 hs, fun Dm Dt σ H l h => q1 σ H _ _ (fun v H1 h1 => l.nx _ _ h1) h⟩
/-- x[k] = v -/
theorem rs_put (i : Nat) {pos' : Pos} {kx vx : Expr} (hk : RE X kx ma) (hv : RE X vx mb) (hN : X.N[i]? = some x := by rfl) (hvi : Vis X.env.scope x := by first | exact Or.inl rfl | exact Or.inr (Or.inl rfl) | exact Or.inr (Or.inr rfl)) (hd : (x == ("__debug__" : Str)) = false := by decide)
    (hcd : (x == ("__classdict__" : Str)) = false := by decide)
    (ha : ∀ v, assign (.Subscript (.Name x q) kx pos') X.env v = (do
      let ov ← holding [v] (eval (.Name x q) X.env)
      let iv ← holding [v, ov] (eval kx X.env)
      standAt pos'
      holding [v, ov, iv] (setItem ov iv v)
      release [v, ov, iv] []) := by intro _; rfl)
    (hs : swapsWithSole [.Subscript (.Name x q) kx pos'] vx pos.line X.env = pure false := by rfl) (hw : swappedStores [.Subscript (.Name x q) kx pos'] vx X.env = pure none := by rfl)
    (h1 : (assignEach [.Subscript (.Name x q) kx pos'] X.env).map (·.2) = [assign (.Subscript (.Name x q) kx pos') X.env] := by rfl) : RS X (.Assign [.Subscript (.Name x q) kx pos'] vx pos) (tAsg mb (gSub (tVar i) ma rSetL)) := by
  obtain ⟨t1, p1, q1⟩ := hk.ex
  obtain ⟨t2, p2, q2⟩ := hv.ex
  refine ⟨_, ps_asg p2 (pg_sub (pe_var hN hvi hd hcd) p1 set_list ha) hs hw h1, fun Dm Dt σ H l h => q2 σ H _ _ (fun v H1 ⟨y, hy, h2⟩ => ⟨y, hy, q1 σ H1 _ _ (fun z H2 ⟨p, xs, k, j, e1, e2, h3, h4, h5⟩ => ⟨p, xs, k, j, e1, e2, h3, h4, l.nx _ _ h5⟩) h2⟩) h⟩
def tBMs (K : PySem.W.Frag) (r : V → List V → Hp → VK → Prop) (i : Nat) (mA : TA) : TE := fun σ H Q => ∃ l vs, σ[i]? = some (some (.ref l)) ∧ H l = some (.lst vs) ∧ mA σ H fun ws H1 => r (.ref l) ws H1 Q
theorem re_append (i : Nat) (he : RE X e ma) (hN : X.N[i]? = some x := by rfl) (hv : Vis X.env.scope x := by first | exact Or.inl rfl | exact Or.inr (Or.inl rfl) | exact Or.inr (Or.inr rfl)) (hd : (x == ("__debug__" : Str)) = false := by decide)
    (hcd : (x == ("__classdict__" : Str)) = false := by decide) (hs : starEach (e :: []) X.env = (false, eval e X.env) :: starEach [] X.env := by rfl)
    (hbase : attributeBase (.Name x q) "append" X.env (eval (.Name x q) X.env) = eval (.Name x q) X.env := by rfl)
    (hfew : ((backTo cpos (starEach (e :: []) X.env)).all (fun x => !x.1) && (backToKw cpos (keywordEach [] X.env)).all (fun x => x.1.isSome)
      && decide ((e :: []).length + ([] : List Keyword).length + (if ([] : List Keyword).isEmpty then 0 else 1) < 30)) = true := by rfl)
    (hline : (apos.endLine == cpos.line) = true := by rfl) (hplain : (backTo cpos (starEach [] X.env)).any (·.1) = false := by rfl) : RE X (.Call (.Attribute (.Name x q) "append" apos) [e] [] cpos) (tBMs X.K rAppend i (tCons ma tNil)) := by
  obtain ⟨t1, p1, q1⟩ := he.ex
  exact ⟨_, pe_bm PySem.F.plainAttrs_list PySem.F.slot_list_append PySem.F.type_list_append mt_append (pe_var hN hv hd hcd) (pa_cons p1 pa_nil hs) hbase hfew hline hs hplain, fun σ H Qm Qt hq ⟨l, vs, h1, h2, h3⟩ => ⟨.ref l, h1, .inl ⟨rfl, vs, SqL.of h2⟩, q1 σ H _ _ (fun v H1 ⟨l', xs, y, e1, e2, h4, h5, h6⟩ => ⟨l', xs, y, e1, e2, h4, h5, hq _ _ h6⟩) h3⟩⟩
theorem re_popAt (i : Nat) (he : RE X e ma) (hN : X.N[i]? = some x := by rfl) (hv : Vis X.env.scope x := by first | exact Or.inl rfl | exact Or.inr (Or.inl rfl) | exact Or.inr (Or.inr rfl)) (hd : (x == ("__debug__" : Str)) = false := by decide)
    (hcd : (x == ("__classdict__" : Str)) = false := by decide) (hs : starEach (e :: []) X.env = (false, eval e X.env) :: starEach [] X.env := by rfl)
    (hbase : attributeBase (.Name x q) "pop" X.env (eval (.Name x q) X.env) = eval (.Name x q) X.env := by rfl)
    (hfew : ((backTo cpos (starEach (e :: []) X.env)).all (fun x => !x.1) && (backToKw cpos (keywordEach [] X.env)).all (fun x => x.1.isSome)
      && decide ((e :: []).length + ([] : List Keyword).length + (if ([] : List Keyword).isEmpty then 0 else 1) < 30)) = true := by rfl)
    (hline : (apos.endLine == cpos.line) = true := by rfl) (hplain : (backTo cpos (starEach [] X.env)).any (·.1) = false := by rfl) : RE X (.Call (.Attribute (.Name x q) "pop" apos) [e] [] cpos) (tBMs X.K rPopAt i (tCons ma tNil)) := by
  obtain ⟨t1, p1, q1⟩ := he.ex
  exact ⟨_, pe_bm PySem.F.plainAttrs_list PySem.F.slot_list_pop PySem.F.type_list_pop mt_popAt (pe_var hN hv hd hcd) (pa_cons p1 pa_nil hs) hbase hfew hline hs hplain, fun σ H Qm Qt hq ⟨l, vs, h1, h2, h3⟩ => ⟨.ref l, h1, .inl ⟨rfl, vs, SqL.of h2⟩, q1 σ H _ _ (fun v H1 ⟨l', xs, i, k, y, e1, e2, h4, h5, h6, h7, h8, h9⟩ => ⟨l', xs, i, k, y, e1, e2, h4, h5, h6, h7, h8, hq _ _ h9⟩) h3⟩⟩
theorem re_reverse (i : Nat) (hN : X.N[i]? = some x := by rfl) (hv : Vis X.env.scope x := by first | exact Or.inl rfl | exact Or.inr (Or.inl rfl) | exact Or.inr (Or.inr rfl)) (hd : (x == ("__debug__" : Str)) = false := by decide)
    (hcd : (x == ("__classdict__" : Str)) = false := by decide) (hbase : attributeBase (.Name x q) "reverse" X.env (eval (.Name x q) X.env) = eval (.Name x q) X.env := by rfl) (hline : (apos.endLine == cpos.line) = true := by rfl) :
    RE X (.Call (.Attribute (.Name x q) "reverse" apos) [] [] cpos) (fun σ H Q => ∃ l vs, σ[i]? = some (some (.ref l)) ∧ H l = some (.lst vs) ∧ Q .non (upd H l (.lst vs.reverse))) :=
  ⟨_, pe_bm0 PySem.F.plainAttrs_list PySem.F.slot_list_reverse PySem.F.type_list_reverse mt_reverse (pe_var hN hv hd hcd) hbase hline, fun σ H Qm Qt hq ⟨l, vs, h1, h2, h3⟩ => ⟨.ref l, h1, .inl ⟨rfl, vs, SqL.of h2⟩, l, vs, rfl, rfl, h2, hq _ _ h3⟩⟩
end
/-! ### slots -/
section
variable {K : PySem.W.Frag} {dA : Option Addr} {F H F' H' : Hp}
def SlL (K : PySem.W.Frag) (dA : Option Addr) (F : Hp) : L2.St → Ev → Prop
  | [], [] => True
  | o :: σ, s :: Γ => (s = .no ∨ ∃ d v, s = .im d ∧ o = some v ∧ Rep K dA F d v) ∧ SlL K dA F σ Γ
  | _, _ => False
theorem SlL.get : ∀ {σ : L2.St} {Γ : Ev}, SlL K dA F σ Γ → σ.length = Γ.length ∧ ∀ (i : Nat) s, Γ[i]? = some s → ∃ o, σ[i]? = some o ∧ (s = .no ∨ ∃ d v, s = .im d ∧ o = some v ∧ Rep K dA F d v)
  | [], [], _ => ⟨rfl, fun i s h => by cases h⟩
  | o :: σ, s :: Γ, ⟨h1, h2⟩ => by
    obtain ⟨h3, h4⟩ := h2.get
    refine ⟨by rw [List.length_cons, List.length_cons, h3], fun i z hz => ?_⟩
    cases i with
    | zero =>
      cases hz
      exact ⟨o, rfl, h1⟩
    | succ i => exact h4 i z hz
  | [], _ :: _, h => h.elim
  | _ :: _, [], h => h.elim
theorem rel_of {σ : L2.St} {Γ : Ev} (k : Ok K dA F H) (h : SlL K dA F σ Γ) : Rel K dA F H F H σ Γ := by
  obtain ⟨h1, h2⟩ := h.get
  refine ⟨k, Ext.refl, h1, fun _ => none, fun a i z => (nomatch z), fun i s hi => ?_⟩
  obtain ⟨o, h3, h4⟩ := h2 i s hi
  rcases h4 with rfl | ⟨d, v, rfl, rfl, h5⟩
  · exact ⟨o, h3, trivial⟩
  · exact ⟨some v, h3, v, rfl, h5⟩
theorem grow_all (k : Ok K dA F H) (h : ∀ c o, H c = some o → H' c = some o) : Ok K dA F H' ∧ Ext dA F H F H' := by
  refine ⟨⟨fun c o hc => h c o (k.sub c o hc), fun b hb => ?_⟩, fun _ _ z => z, fun c o hc _ => h c o hc, fun c o hc => .inl hc, fun c o hc => ⟨o, h c o hc⟩⟩
  obtain ⟨h3, l, ns, q, g, m, x, h4, h5, h6⟩ := k.tok b hb
  exact ⟨h3, l, ns, q, g, m, x, h _ _ h4, h5, h6⟩
end
end LV
set_option Elab.async false
set_option linter.all false
set_option maxRecDepth 100000
set_option maxHeartbeats 4000000
/-! P34: the paper's data while it is spoiled: five cells and more, known by their addresses. -/
namespace LV
open PySem PySem.Spec PyProof.Rows L2
structure DatAt (K : PySem.W.Frag) (FB HB F H : Hp) (ad a ap ar : Addr) (rs : List Addr) (vc : V) (p : Pap) : Prop where
  hd : H a = some (.lst [.int p.fd, .ref ap, .ref ar, .int p.ho, vc])
  hp : H ap = some (.lst (p.pl.map V.int))
  hr : H ar = some (.lst (rs.map V.ref))
  rl : rs.length = p.rw.length
  hw : ∀ (i : Nat) r ns, rs[i]? = some r → p.rw[i]? = some ns → H r = some (.lst (ns.map V.int))
  nd : (ad :: a :: ap :: ar :: rs).Nodup
  out : ∀ c ∈ a :: ap :: ar :: rs, F c = none
  cn : Rep K none F (.tup (p.cn.map eC)) vc
  kb : ∀ c o, HB c = some o → c ≠ ad → H c = some o
  fb : ∀ c ∈ a :: ap :: ar :: rs, HB c = none
  sf : Same FB F
section
variable {K : PySem.W.Frag} {FB HB F H F' H' : Hp} {ad a ap ar : Addr} {rs : List Addr} {vc : V} {p : Pap}
theorem rep_none {dA : Option Addr} : ∀ {cs : List Cn} {v : V}, Rep K dA F (.tup (cs.map eC)) v → Rep K none F (.tup (cs.map eC)) v := fun {cs v} h => by
  obtain ⟨x, vs, rfl, h1, h2⟩ := h
  refine ⟨x, vs, rfl, h1, ?_⟩
  clear h1
  induction cs generalizing vs with
  | nil => exact h2
  | cons c cs ih =>
    obtain ⟨v, r, rfl, h3, h4⟩ := h2
    exact ⟨v, r, rfl, h3, ih r h4⟩
theorem rep_some {dA : Option Addr} : ∀ {cs : List Cn} {v : V}, Rep K none F (.tup (cs.map eC)) v → Rep K dA F (.tup (cs.map eC)) v := fun {cs v} h => by
  obtain ⟨x, vs, rfl, h1, h2⟩ := h
  refine ⟨x, vs, rfl, h1, ?_⟩
  clear h1
  induction cs generalizing vs with
  | nil => exact h2
  | cons c cs ih =>
    obtain ⟨v, r, rfl, h3, h4⟩ := h2
    exact ⟨v, r, rfl, h3, ih r h4⟩
theorem DatAt.live (D : DatAt K FB HB F H ad a ap ar rs vc p) {c : Addr} (hc : c ∈ a :: ap :: ar :: rs) : c ≠ ad ∧ ∃ xs, H c = some (.lst xs) := by
  have h1 := List.nodup_cons.mp D.nd
  refine ⟨fun z => h1.1 (z ▸ hc), ?_⟩
  rcases List.mem_cons.mp hc with rfl | hc
  · exact ⟨_, D.hd⟩
  · rcases List.mem_cons.mp hc with rfl | hc
    · exact ⟨_, D.hp⟩
    · rcases List.mem_cons.mp hc with rfl | hc
      · exact ⟨_, D.hr⟩
      · obtain ⟨i, hi, rfl⟩ := List.mem_iff_getElem.mp hc
        exact ⟨_, D.hw i rs[i] (p.rw[i]'(by rw [← D.rl]; exact hi)) (List.getElem?_eq_getElem hi) (List.getElem?_eq_getElem _)⟩
theorem DatAt.ext (D : DatAt K FB HB F H ad a ap ar rs vc p) (e : Ext (some ad) F H F' H') : DatAt K FB HB F' H' ad a ap ar rs vc p := by
  have kp : ∀ c ∈ a :: ap :: ar :: rs, ∀ o, H c = some o → H' c = some o := fun c hc o h => e.keep c o h fun z => (D.live hc).1 (Option.some.inj z).symm
  refine ⟨kp a List.mem_cons_self _ D.hd, kp ap (by simp) _ D.hp, kp ar (by simp) _ D.hr, D.rl, fun i r ns h1 h2 => kp r (by simp [List.mem_of_getElem? h1]) _ (D.hw i r ns h1 h2), D.nd, fun c hc => ?_, Rep.mono e.ff _ _ D.cn, fun c o h1 h2 => e.keep c o (D.kb c o h1 h2) fun z => h2 (Option.some.inj z).symm, D.fb, D.sf.trans e.ff⟩
  obtain ⟨_, xs, h⟩ := D.live hc
  exact e.fkeep h (D.out c hc) fun _ z => nomatch z
theorem DatAt.ok (D : DatAt K FB HB F H ad a ap ar rs vc p) (k : Ok K (some ad) F H) {c : Addr} {o : HO} (hc : c ∈ a :: ap :: ar :: rs) : Ok K (some ad) F (upd H c o) := by
  refine ⟨fun b u hb => ?_, fun b hb => ?_⟩
  · have ne : b ≠ c := fun z => by rw [z, D.out c hc] at hb; cases hb
    rw [upd_ne ne]
    exact k.sub b u hb
  · obtain ⟨h3, l, ns, q, g, m, x, h4, h5, h6⟩ := k.tok b hb
    cases hb
    exact ⟨h3, l, ns, q, g, m, x, by rw [upd_ne (D.live hc).1.symm]; exact h4, h5, h6⟩
theorem DatAt.kbu (D : DatAt K FB HB F H ad a ap ar rs vc p) {c : Addr} {u : HO} (hc : c ∈ a :: ap :: ar :: rs) : ∀ b o, HB b = some o → b ≠ ad → (upd H c u) b = some o := fun b o h1 h2 => by
  have ne : b ≠ c := fun z => by rw [z, D.fb c hc] at h1; cases h1
  rw [upd_ne ne]
  exact D.kb b o h1 h2
theorem DatAt.nes (D : DatAt K FB HB F H ad a ap ar rs vc p) : a ≠ ap ∧ a ≠ ar ∧ ap ≠ ar ∧ a ∉ rs ∧ ap ∉ rs ∧ ar ∉ rs ∧ rs.Nodup := by
  have h1 := (List.nodup_cons.mp D.nd).2
  obtain ⟨h2, h3⟩ := List.nodup_cons.mp h1
  obtain ⟨h4, h5⟩ := List.nodup_cons.mp h3
  obtain ⟨h6, h7⟩ := List.nodup_cons.mp h5
  simp only [List.mem_cons, not_or] at h2 h4
  exact ⟨h2.1, h2.2.1, h4.1, h2.2.2, h4.2, h6, h7⟩
theorem nodup_ix {rs : List Addr} (h : rs.Nodup) {i j : Nat} {r : Addr} (hi : rs[i]? = some r) (hj : rs[j]? = some r) : i = j := by
  obtain ⟨l1, e1⟩ := List.getElem?_eq_some_iff.mp hi
  obtain ⟨l2, e2⟩ := List.getElem?_eq_some_iff.mp hj
  rcases Nat.lt_trichotomy i j with q | q | q
  · exact absurd (e1.trans e2.symm) (List.pairwise_iff_getElem.mp h i j l1 l2 q)
  · exact q
  · exact absurd (e2.trans e1.symm) (List.pairwise_iff_getElem.mp h j i l2 l1 q)
theorem ne_mem {x r : Addr} {rs : List Addr} (h : x ∉ rs) (hr : r ∈ rs) : r ≠ x := fun z => h (z ▸ hr)
theorem DatAt.top (D : DatAt K FB HB F H ad a ap ar rs vc p) (x y : Int) (cs : List Cn) {v : V} (hv : Rep K none F (.tup (cs.map eC)) v) : DatAt K FB HB F (upd H a (.lst [.int x, .ref ap, .ref ar, .int y, v])) ad a ap ar rs v { p with fd := x, ho := y, cn := cs } := by
  obtain ⟨n1, n2, n3, n4, n5, n6, n7⟩ := D.nes
  exact ⟨upd_same, by rw [upd_ne n1.symm]; exact D.hp, by rw [upd_ne n2.symm]; exact D.hr, D.rl, fun i r ns h1 h2 => by rw [upd_ne (ne_mem n4 (List.mem_of_getElem? h1))]; exact D.hw i r ns h1 h2, D.nd, D.out, hv, D.kbu List.mem_cons_self, D.fb, D.sf⟩
theorem DatAt.pls (D : DatAt K FB HB F H ad a ap ar rs vc p) (pl : List Int) : DatAt K FB HB F (upd H ap (.lst (pl.map V.int))) ad a ap ar rs vc { p with pl := pl } := by
  obtain ⟨n1, n2, n3, n4, n5, n6, n7⟩ := D.nes
  exact ⟨by rw [upd_ne n1]; exact D.hd, upd_same, by rw [upd_ne n3.symm]; exact D.hr, D.rl, fun i r ns h1 h2 => by rw [upd_ne (ne_mem n5 (List.mem_of_getElem? h1))]; exact D.hw i r ns h1 h2, D.nd, D.out, D.cn, D.kbu (by simp), D.fb, D.sf⟩
theorem DatAt.row (D : DatAt K FB HB F H ad a ap ar rs vc p) {i : Nat} {r : Addr} (hi : rs[i]? = some r) (ns : List Int) : DatAt K FB HB F (upd H r (.lst (ns.map V.int))) ad a ap ar rs vc { p with rw := p.rw.set i ns } := by
  obtain ⟨n1, n2, n3, n4, n5, n6, n7⟩ := D.nes
  have hr := List.mem_of_getElem? hi
  have m1 : a ≠ r := fun z => n4 (z ▸ hr)
  have m2 : ap ≠ r := fun z => n5 (z ▸ hr)
  have m3 : ar ≠ r := fun z => n6 (z ▸ hr)
  refine ⟨by rw [upd_ne m1]; exact D.hd, by rw [upd_ne m2]; exact D.hp, by rw [upd_ne m3]; exact D.hr, by rw [List.length_set]; exact D.rl, fun j b ms h1 h2 => ?_, D.nd, D.out, D.cn, D.kbu (by simp [hr]), D.fb, D.sf⟩
  by_cases q : i = j
  · subst q
    rw [hi] at h1
    cases h1
    rw [List.getElem?_set_self (by rw [← D.rl]; exact (List.getElem?_eq_some_iff.mp hi).1)] at h2
    cases h2
    exact upd_same
  · have h2 : (p.rw.set i ns)[j]? = some ms := h2
    rw [List.getElem?_set_ne q] at h2
    have ne : b ≠ r := fun z => q (nodup_ix n7 hi (z ▸ h1))
    rw [upd_ne ne]
    exact D.hw j b ms h1 h2
/-- the rows' list as rs', every row a list; what is not there yet is new -/
theorem DatAt.rws (D : DatAt K FB HB F H ad a ap ar rs vc p) (rs' : List Addr) (rw' : List (List Int)) (hl : rs'.length = rw'.length) (hn : rs'.Nodup) (hw : ∀ (i : Nat) r ns, rs'[i]? = some r → rw'[i]? = some ns → H r = some (.lst (ns.map V.int)))
    (hm : ∀ r ∈ rs', r ∈ rs ∨ (r ≠ ad ∧ r ≠ a ∧ r ≠ ap ∧ r ≠ ar ∧ F r = none ∧ HB r = none)) : DatAt K FB HB F (upd H ar (.lst (rs'.map V.ref))) ad a ap ar rs' vc { p with rw := rw' } := by
  obtain ⟨n1, n2, n3, n4, n5, n6, n7⟩ := D.nes
  have hx : ∀ r ∈ rs', r ≠ ad ∧ r ≠ a ∧ r ≠ ap ∧ r ≠ ar ∧ F r = none ∧ HB r = none := fun r hr => by
    rcases hm r hr with h | h
    · exact ⟨(D.live (by simp [h])).1, fun z => n4 (z ▸ h), fun z => n5 (z ▸ h), fun z => n6 (z ▸ h), D.out r (by simp [h]), D.fb r (by simp [h])⟩
    · exact h
  have h0 := List.nodup_cons.mp D.nd
  simp only [List.mem_cons, not_or] at h0
  refine ⟨by rw [upd_ne n2]; exact D.hd, by rw [upd_ne n3]; exact D.hp, upd_same, hl, fun i r ns h1 h2 => by rw [upd_ne (hx r (List.mem_of_getElem? h1)).2.2.2.1]; exact hw i r ns h1 h2, ?_, fun c hc => ?_, D.cn, D.kbu (by simp), fun c hc => ?_, D.sf⟩
  · refine List.nodup_cons.mpr ⟨?_, List.nodup_cons.mpr ⟨?_, List.nodup_cons.mpr ⟨?_, List.nodup_cons.mpr ⟨fun z => (hx _ z).2.2.2.1 rfl, hn⟩⟩⟩⟩
    · simp only [List.mem_cons, not_or]
      exact ⟨h0.1.1, h0.1.2.1, h0.1.2.2.1, fun z => (hx _ z).1 rfl⟩
    · simp only [List.mem_cons, not_or]
      exact ⟨n1, n2, fun z => (hx _ z).2.1 rfl⟩
    · simp only [List.mem_cons, not_or]
      exact ⟨n3, fun z => (hx _ z).2.2.1 rfl⟩
  · rcases List.mem_cons.mp hc with rfl | hc
    · exact D.out _ List.mem_cons_self
    · rcases List.mem_cons.mp hc with rfl | hc
      · exact D.out _ (by simp)
      · rcases List.mem_cons.mp hc with rfl | hc
        · exact D.out _ (by simp)
        · exact (hx c hc).2.2.2.2.1
  · rcases List.mem_cons.mp hc with rfl | hc
    · exact D.fb _ List.mem_cons_self
    · rcases List.mem_cons.mp hc with rfl | hc
      · exact D.fb _ (by simp)
      · rcases List.mem_cons.mp hc with rfl | hc
        · exact D.fb _ (by simp)
        · exact (hx c hc).2.2.2.2.2
end
section
variable {K : PySem.W.Frag} {FB HB F H F' H' : Hp} {ad a ap ar : Addr} {rs : List Addr} {vc : V} {p : Pap}
/-- a thing of nobody's is none of ours -/
theorem DatAt.fresh (D : DatAt K FB HB F H ad a ap ar rs vc p) (k : Ok K (some ad) F H) {x : Addr} (hx : H x = none) : x ∉ ad :: a :: ap :: ar :: rs ∧ HB x = none := by
  obtain ⟨_, l, ns, q, g, m, c, h4, _⟩ := k.tok ad rfl
  have n1 : x ≠ ad := fun z => by rw [z, h4] at hx; cases hx
  refine ⟨fun z => ?_, ?_⟩
  · rcases List.mem_cons.mp z with z | z
    · exact n1 z
    · obtain ⟨_, xs, h⟩ := D.live z
      rw [hx] at h
      cases h
  · cases e : HB x with
    | none => rfl
    | some o =>
      have := D.kb x o e n1
      rw [hx] at this
      cases this
theorem nodup_set {rs : List Addr} (h : rs.Nodup) {x : Addr} (hx : x ∉ rs) (i : Nat) : (rs.set i x).Nodup := by
  refine List.pairwise_iff_getElem.mpr fun a b ha hb hab => ?_
  rw [List.length_set] at ha hb
  rw [List.getElem_set, List.getElem_set]
  split
  · rename_i e
    rw [if_neg (by omega)]
    exact fun z => hx (z ▸ List.getElem_mem hb)
  · split
    · exact fun z => hx (z ▸ List.getElem_mem ha)
    · exact List.pairwise_iff_getElem.mp h a b ha hb hab
theorem DatAt.putRow (D : DatAt K FB HB F H ad a ap ar rs vc p) {i : Nat} (hi : i < rs.length) {x : Addr} {ns : List Int} (hx : H x = some (.lst (ns.map V.int))) (hn : x ∉ ad :: a :: ap :: ar :: rs) (hF : F x = none) (hB : HB x = none) :
    DatAt K FB HB F (upd H ar (.lst ((rs.set i x).map V.ref))) ad a ap ar (rs.set i x) vc { p with rw := p.rw.set i ns } := by
  simp only [List.mem_cons, not_or] at hn
  refine D.rws (rs.set i x) (p.rw.set i ns) (by rw [List.length_set, List.length_set, D.rl]) (nodup_set D.nes.2.2.2.2.2.2 hn.2.2.2.2 i) (fun j r ms h1 h2 => ?_) fun r hr => ?_
  · by_cases q : i = j
    · subst q
      rw [List.getElem?_set_self hi] at h1
      rw [List.getElem?_set_self (by rw [← D.rl]; exact hi)] at h2
      cases h1
      cases h2
      exact hx
    · rw [List.getElem?_set_ne q] at h1 h2
      exact D.hw j r ms h1 h2
  · rcases List.mem_or_eq_of_mem_set hr with hr | rfl
    · exact .inl hr
    · exact .inr ⟨hn.1, hn.2.1, hn.2.2.1, hn.2.2.2.1, hF, hB⟩
theorem DatAt.addRow (D : DatAt K FB HB F H ad a ap ar rs vc p) {x : Addr} {ns : List Int} (hx : H x = some (.lst (ns.map V.int))) (hn : x ∉ ad :: a :: ap :: ar :: rs) (hF : F x = none) (hB : HB x = none) :
    DatAt K FB HB F (upd H ar (.lst ((rs ++ [x]).map V.ref))) ad a ap ar (rs ++ [x]) vc { p with rw := p.rw ++ [ns] } := by
  simp only [List.mem_cons, not_or] at hn
  refine D.rws (rs ++ [x]) (p.rw ++ [ns]) (by rw [List.length_append, List.length_append, D.rl] <;> rfl) (List.nodup_append.mpr ⟨D.nes.2.2.2.2.2.2, by simp, fun b hb c hc z => ?_⟩) (fun j r ms h1 h2 => ?_) fun r hr => ?_
  · rw [List.mem_singleton.mp hc] at z
    exact hn.2.2.2.2 (z ▸ hb)
  · by_cases q : j < rs.length
    · rw [List.getElem?_append_left q] at h1
      rw [List.getElem?_append_left (by rw [← D.rl]; exact q)] at h2
      exact D.hw j r ms h1 h2
    · rw [List.getElem?_append_right (by omega)] at h1
      rw [List.getElem?_append_right (by rw [← D.rl]; omega)] at h2
      have hj : j = rs.length := by
        have := (List.getElem?_eq_some_iff.mp h1).1
        simp at this
        omega
      subst hj
      rw [Nat.sub_self] at h1
      rw [D.rl, Nat.sub_self] at h2
      cases h1
      cases h2
      exact hx
  · rcases List.mem_append.mp hr with hr | hr
    · exact .inl hr
    · rw [List.mem_singleton.mp hr]
      exact .inr ⟨hn.1, hn.2.1, hn.2.2.1, hn.2.2.2.1, hF, hB⟩
theorem DatAt.dropRow (D : DatAt K FB HB F H ad a ap ar rs vc p) (i : Nat) : DatAt K FB HB F (upd H ar (.lst ((rs.eraseIdx i).map V.ref))) ad a ap ar (rs.eraseIdx i) vc { p with rw := p.rw.eraseIdx i } := by
  have hrl := D.rl
  refine D.rws (rs.eraseIdx i) (p.rw.eraseIdx i) ?_ (List.Nodup.sublist (List.eraseIdx_sublist ..) D.nes.2.2.2.2.2.2) (fun j r ms h1 h2 => ?_) fun r hr => .inl (List.mem_of_mem_eraseIdx hr)
  · rw [List.length_eraseIdx, List.length_eraseIdx, hrl]
  · rw [List.getElem?_eraseIdx] at h1 h2
    split at h1
    · rename_i q
      rw [if_pos q] at h2
      exact D.hw j r ms h1 h2
    · rename_i q
      rw [if_neg q] at h2
      exact D.hw (j + 1) r ms h1 h2
end
/-- how great the data may be -/
structure Bd4 (k : Nat) (p : Pap) : Prop where
  l1 : p.pl.length ≤ 20 + k
  l2 : p.rw.length ≤ 20 + k
  l3 : p.cn.length ≤ 20 + k
  row : ∀ r ∈ p.rw, r.length ≤ 20 ∧ ∀ n ∈ r, n.natAbs < 2 ^ (7500 + k)
theorem Bd4.pap {k : Nat} {p : Pap} (h : Bd4 k p) (hk : k ≤ 50) : PapOk p := by
  refine ⟨by have := h.l1; omega, by have := h.l2; omega, fun r hr n hn => ?_⟩
  exact Nat.lt_of_lt_of_le ((h.row r hr).2 n hn) (Nat.pow_le_pow_right (by decide) (by omega))
theorem Bd4.mono {k m : Nat} {p : Pap} (h : Bd4 k p) (hk : k ≤ m) : Bd4 m p :=
  ⟨by have := h.l1; omega, by have := h.l2; omega, by have := h.l3; omega, fun r hr => ⟨(h.row r hr).1, fun n hn => Nat.lt_of_lt_of_le ((h.row r hr).2 n hn) (Nat.pow_le_pow_right (by decide) (by omega))⟩⟩
theorem Bd4.row_set {k i : Nat} {p : Pap} {ns : List Int} (h : Bd4 k p) (h1 : ns.length ≤ 20) (h2 : ∀ n ∈ ns, n.natAbs < 2 ^ (7500 + (k + 1))) : Bd4 (k + 1) { p with rw := p.rw.set i ns } := by
  have h0 := h.mono (Nat.le_succ k)
  refine ⟨h0.l1, by show (p.rw.set i ns).length ≤ _; rw [List.length_set]; exact h0.l2, h0.l3, fun r hr => ?_⟩
  rcases List.mem_or_eq_of_mem_set hr with hr | rfl
  · exact h0.row r hr
  · exact ⟨h1, h2⟩
end LV
set_option Elab.async false
set_option linter.all false
set_option maxRecDepth 100000
set_option maxHeartbeats 4000000
/-! P35: law_bend. -/
namespace LV
open PySem PySem.Spec PyProof.Rows L2
theorem Wd.fnS {P : Program} {w : World} {K : PySem.W.Frag} {mg : Str → Option Value} {base : Heap} (W : Wd K mg) {x : Str} {sp : Sp} {k : Nat} (i : Nat) {d : He.DefD} (hd : HH.fn[i]? = some d) (hat : d.at_ = (x, none)) (j : Nat) (hj : HH.fa[j]? = some (.glo x)) (ps : List Str) (h0 : d.dfl = []) (h1 : d.kwd = [])
    (hbd : ∀ (kV doc pm : Value) (an : Option Addr) (cdv ct : Value) (us : List Value), us.length = ps.length → bindArgs (PySem.W.fnOf d.name d.qual d.params d.body d.scope .none kV doc pm an cdv ct) ⟨us, []⟩ = pure (ps.zip us))
    (ok : ∀ (f : Addr) (fd : FuncData), FunD K d.name d.qual d.params d.body d.scope [] [] f fd → FnOk P w K mg base CX0 k f fd ps sp) : FnS P w K mg base k x sp := by
  obtain ⟨fd, F⟩ := W.df i d hd
  have e1 : d.dvs K = [] := by
    unfold He.DefD.dvs
    rw [h0] <;> rfl
  have e2 : d.kws K = [] := by
    unfold He.DefD.kws
    rw [h1] <;> rfl
  have e3 : He.fAd K d.at_ = He.ga K x := by
    rw [hat] <;> rfl
  rw [e1, e2, e3] at F
  exact ⟨_, fd, ps, ok _ _ F, W.glo j x hj, F.kp, FunD.bindsN F hbd⟩
theorem rb_ok {P : Program} {w : World} {K : PySem.W.Frag} {mg : Str → Option Value} {base : Heap} {name qual : Str} {params : Arguments} {body : List Stmt} {scope : Scope} {dvs : List V} {kws : List (Str × V)} {f : Addr} {fd : FuncData} {N ps : List Str} {k : Nat} {sp : Sp} (F : FunD K name qual params body scope dvs kws f fd) (S : FnScope N ps scope)
    (hl : ∀ vs H Q E, sp vs H Q E → vs.length = ps.length)
    (hb : ∀ (cdv : Value) (A : Around) (outer : List Env) (s : Shared) (H : Hp) (E : XK), Room k (A.deeper (envOfC qual scope s.heap.objs.size f cdv)) → ∃ m, RB (cxd P w K mg base N qual scope f cdv A outer s H E) body m ∧ ∀ vs Q E', sp vs H Q E' → m { nx := fun _ H' => Q .non H', rt := Q } (L2.start N vs) H) : FnOk P w K mg base CX0 (k + 1) f fd ps sp := by
  refine F.ok S hl fun cdv A outer s H vs Q E hr h => ?_
  obtain ⟨m, ⟨t, p1, q1⟩, h2⟩ := hb cdv A outer s H E hr
  exact ⟨t, p1.nox, q1 _ _ _ _ ⟨fun _ _ h => h, fun _ _ h => h, fun _ _ h => h, fun _ _ h => h⟩ (h2 vs Q E h)⟩
theorem rvt_eqI {K : PySem.W.Frag} {dA : Option Addr} {F H : Hp} {σ : L2.St} {Q : Bool → Hp → Prop} {j : Nat} {x c : Int} (k : Ok K dA F H) (hσ : σ[j]? = some (some (.int x))) (h : ∀ F1 H1, Ext dA F H F1 H1 → Ok K dA F1 H1 → (x = c → Q true H1) ∧ (x ≠ c → Q false H1)) : rVT K (vTB (vOp oEqI (vVar j) (vC (.int c)))) σ H Q := by
  have hj : j < σ.length := (List.getElem?_eq_some_iff.mp hσ).1
  refine ⟨dA, F, H, F, (List.replicate σ.length .no).set j (.im (.int x)), fun b => (b = true → x = c) ∧ (b = false → x ≠ c), ?_, ?_, fun F1 H1 b e1 k1 hb => ?_⟩
  · refine ⟨k, Ext.refl, by simp, fun _ => none, fun a i z => (nomatch z), fun i s hi => ?_⟩
    by_cases q : j = i
    · subst q
      rw [List.getElem?_set_self (by simpa using hj)] at hi
      cases hi
      exact ⟨_, hσ, _, rfl, rfl⟩
    · rw [List.getElem?_set_ne q] at hi
      have := (List.mem_replicate.mp (List.mem_of_getElem? hi)).2
      subst this
      have hl : i < σ.length := by
        have := (List.getElem?_eq_some_iff.mp hi).1
        simpa using this
      exact ⟨_, List.getElem?_eq_getElem hl, trivial⟩
  · show vVar j _ _
    unfold vVar
    rw [List.getElem?_set_self (by simpa using hj)]
    exact ⟨fun h => ⟨fun _ => h, fun z => (nomatch z)⟩, fun h => ⟨fun z => (nomatch z), fun _ => h⟩⟩
  · obtain ⟨h1, h2⟩ := h F1 H1 e1 k1
    cases b with
    | true => exact h1 (hb.1 rfl)
    | false => exact h2 (hb.2 rfl)
/-- one list more is known -/
def trk (F : Hp) (r : Addr) (o : HO) : Hp := fun c => if c = r then some o else F c
theorem trk_ok {K : PySem.W.Frag} {F H : Hp} {r : Addr} {o : HO} (s : Same F H) (h : H r = some o) : Ok K none (trk F r o) H := ⟨fun c u hc => by
  unfold trk at hc
  split at hc
  · rename_i e
    rw [e, ← hc]
    exact h
  · exact s c u hc, fun _ z => nomatch z⟩
theorem trk_rep {K : PySem.W.Frag} {F : Hp} {r : Addr} (ns : List Int) : Rep K none (trk F r (.lst (ns.map V.int))) (.lst (ns.map .int)) (.ref r) := ⟨r, _, rfl, SqL.of (if_pos rfl), ints_rep ns⟩
theorem atV {xs : List V} {i : Nat} {v : V} (h : xs[i]? = some v) : atI xs (i : Int) = some v := by
  rw [atI_cast]
  exact h
theorem mapV {ns : List Int} {i : Nat} (h : i < ns.length) : (ns.map V.int)[i]? = some (.int ns[i]) := by
  rw [List.getElem?_map, List.getElem?_eq_getElem h] <;> rfl
/-- a draw's place -/
theorem draw_rep {K : PySem.W.Frag} {F : Hp} {ad : Addr} (m : Int) : RepL K (some ad) F (c_law_draw.arg m) [.ref ad, .int m] := ⟨_, _, rfl, ⟨ad, rfl, rfl⟩, _, _, rfl, rfl, rfl⟩
theorem two_up {n : Int} {k : Nat} (h : n.natAbs < 2 ^ (7500 + k)) : (n + 1).natAbs < 2 ^ (7500 + (k + 1)) ∧ (2 * n).natAbs < 2 ^ (7500 + (k + 1)) := by
  have e : 2 ^ (7500 + (k + 1)) = 2 ^ (7500 + k) * 2 := Nat.pow_succ ..
  omega
def spBend (K : PySem.W.Frag) : Sp := fun vs H Q _ => ∃ (FB HB F : Hp) (ad a ap ar : Addr) (rs : List Addr) (vc : V) (p : Pap) (k pn : Nat) (kd : Int), vs = [.ref ad, .ref ar, .int pn, .int kd] ∧ Ok K (some ad) F H ∧ DatAt K FB HB F H ad a ap ar rs vc p ∧ Bd4 k p ∧ k ≤ 50 ∧ pn < rs.length ∧
  ∀ F' H' rs' p', Ok K (some ad) F' H' → DatAt K FB HB F' H' ad a ap ar rs' vc p' → Bd4 (k + 1) p' → Q .non H'
theorem f_law_bend {P : Program} {w : World} {K : PySem.W.Frag} {mg : Str → Option Value} {base : Heap} (W : Wd K mg) : FnS P w K mg base 2 "_law_bend" (spBend K) := by
  refine W.fnS 77 (d := HH.d_law_bend) rfl rfl 67 rfl ["_law_d", "_law_rows", "_law_place", "_law_kind"] rfl rfl (fun _ _ _ _ _ _ us h => by match us, h with | [a0, a1, a2, a3], _ => rfl) fun f fd F => ?_
  have S : FnScope ["_law_d", "_law_rows", "_law_place", "_law_kind", "_law_row", "_law_at", "_law_x"] ["_law_d", "_law_rows", "_law_place", "_law_kind"] HH.d_law_bend.scope := C8.fnScope_by (by decide +kernel)
  have B := W.gb
  have G_law_draw := f_law_draw (P := P) (w := w) (base := base) W
  refine rb_ok (k := 1) F S (fun vs H Q E h => ?_) fun cdv A outer s H E hr => ⟨_, (rb_cons (rs_set (i := 4) S.nd (re_ix (re_var 1) (re_var 2))) (rb_one (rs_if (rt_vt (vt_cmp (v_ne hr (vv 4) (ve_of (vl_lst va_nil)))))
      (rb_cons (rs_set (i := 5) S.nd (re_call G_law_draw hr (ra_cons (re_var 0) (ra_cons (re_len B.len (re_var 4)) ra_nil)))) (rb_one (rs_if (rt_vt (vt_cmp (v_eqI (vv 3) v_int)))
      (rb_one (rs_put 4 (re_var 5) (re_add (re_ix (re_var 4) (re_var 5)) re_int)))
      (rb_one (rs_if (rt_vt (vt_cmp (v_eqI (vv 3) v_int)))
      (rb_one (rs_put 4 (re_var 5) re_int))
      (rb_one (rs_if (rt_vt (vt_cmp (v_eqI (vv 3) v_int)))
      (rb_one (rs_expr (re_popAt 4 (re_var 5))))
      (rb_one (rs_put 1 (re_var 2) (re_vl ((vl_lc (own := [("_law_x", 6)]) rfl S.nd (VI.own (vi_list (vv 4))) (by rfl) (fun _ _ _ _ _ => (vg_name 6 S.nd)) (fun _ _ _ _ _ => vq_nil) (fun _ _ _ _ _ => (v_mulW v_int (vv 6)))))))))))))))
      rb_nil))), fun vs Q E' h => ?_⟩
  · obtain ⟨FB, HB, F1, ad, a, ap, ar, rs, vc, p, k, pn, kd, rfl, _⟩ := h
    rfl
  · obtain ⟨FB, HB, F1, ad, a, ap, ar, rs, vc, p, k, pn, kd, rfl, k0, D, bd, hk50, hpn, q⟩ := h
    obtain ⟨r, hr1⟩ : ∃ r, rs[pn]? = some r := ⟨_, List.getElem?_eq_getElem hpn⟩
    obtain ⟨ns, hn1⟩ : ∃ ns, p.rw[pn]? = some ns := ⟨_, List.getElem?_eq_getElem (by rw [← D.rl]; exact hpn)⟩
    have hrow := D.hw pn r ns hr1 hn1
    have hbn := bd.row ns (List.mem_of_getElem? hn1)
    have hmem : r ∈ a :: ap :: ar :: rs := by simp [List.mem_of_getElem? hr1]
    (conv => whnf)
    refine ⟨_, rfl, ?_⟩
    (conv => whnf)
    refine ⟨_, rfl, ar, _, pn, .ref r, rfl, rfl, SqL.of D.hr, atV (by rw [List.getElem?_map, hr1] <;> rfl), ?_⟩
    refine ⟨none, trk F1 r (.lst (ns.map V.int)), H, trk F1 r (.lst (ns.map V.int)), [.no, .no, .no, .no, .im (.lst (ns.map .int)), .no, .no], fun b => (b = true → ns ≠ []) ∧ (b = false → ns = []), rel_of (trk_ok k0.sub hrow) ⟨.inl rfl, .inl rfl, .inl rfl, .inl rfl, .inr ⟨_, _, rfl, rfl, trk_rep ns⟩, .inl rfl, .inl rfl, trivial⟩, ?_, fun F2 H2 b e2 k2 hb => ?_⟩
    · (conv => whnf)
      exact ⟨pl_ints _, fun d hd => absurd hd List.not_mem_nil, fun z => ⟨fun _ y => z (by rw [y] <;> rfl), fun y => (nomatch y)⟩, fun z => ⟨fun y => (nomatch y), fun _ => List.map_eq_nil_iff.mp (LV.D.lst.inj (Classical.not_not.mp z))⟩⟩
    have kp : ∀ c o, H c = some o → H2 c = some o := fun c o h => e2.keep c o h fun z => nomatch z
    obtain ⟨k3, x3⟩ := grow_all k0 kp
    have D3 := D.ext x3
    clear e2 k2 kp x3
    cases b with
    | false => exact q F1 H2 rs p k3 D3 (bd.mono (Nat.le_succ k))
    | true =>
      have hne := hb.1 rfl
      have hnl : 0 < ns.length := List.length_pos_iff.mpr hne
      have hrow3 := D3.hw pn r ns hr1 hn1
      have hml : (ns.map V.int).length = ns.length := List.length_map _
      (conv => whnf)
      refine ⟨_, rfl, ?_⟩
      (conv => whnf)
      refine ⟨_, rfl, r, _, rfl, .inl (SqL.of hrow3), ?_⟩
      refine ⟨some ad, F1, (((ns.map V.int).length : Nat) : Int), k3, draw_rep _, (by show (((ns.map V.int).length : Nat) : Int) < _; omega), ?_⟩
      rintro F4 H4 _ _ e4 k4 rd ⟨t, rfl, ht⟩
      cases rd
      have ht := dr_lt ht (by show (0 : Int) < ((ns.map V.int).length : Nat); omega)
      have ht : t < ns.length := by
        have ht : (t : Int) < ((ns.map V.int).length : Nat) := ht
        omega
      have D4 := D3.ext e4
      clear e4 k3 D3 hrow3
      refine rvt_eqI (x := kd) k4 rfl fun F5 H5 e5 k5 => ⟨fun z => ?_, fun z => ?_⟩
      · have D5 := D4.ext e5
        have hrow5 := D5.hw pn r ns hr1 hn1
        clear D4 k4 e5
        (conv => whnf)
        refine ⟨_, rfl, ?_⟩
        (conv => whnf)
        refine ⟨_, rfl, r, _, t, .int ns[t], rfl, rfl, SqL.of hrow5, atV (mapV ht), ?_⟩
        refine ⟨_, 1, rfl, rfl, ?_⟩
        (conv => whnf)
        refine ⟨_, rfl, ?_⟩
        (conv => whnf)
        refine ⟨_, rfl, r, _, t, t, rfl, rfl, hrow5, ixN_cast (by omega), ?_⟩
        rw [set_map]
        refine q F5 _ rs _ (D5.ok k5 hmem) (D5.row hr1 (ns.set t (ns[t] + 1))) (bd.row_set (by rw [List.length_set]; exact hbn.1) fun n hn => ?_)
        rcases List.mem_or_eq_of_mem_set hn with hn | rfl
        · exact Nat.lt_of_lt_of_le (hbn.2 n hn) (Nat.pow_le_pow_right (by decide) (by omega))
        · exact (two_up (hbn.2 _ (List.getElem_mem ht))).1
      refine rvt_eqI (x := kd) k5 rfl fun F6 H6 e6 k6 => ⟨fun z => ?_, fun z => ?_⟩
      · have D5 := (D4.ext e5).ext e6
        have hrow5 := D5.hw pn r ns hr1 hn1
        clear D4 k4 e5 k5 e6
        (conv => whnf)
        refine ⟨_, rfl, ?_⟩
        (conv => whnf)
        refine ⟨_, rfl, r, _, t, t, rfl, rfl, hrow5, ixN_cast (by omega), ?_⟩
        rw [set_map]
        refine q F6 _ rs _ (D5.ok k6 hmem) (D5.row hr1 (ns.set t 0)) (bd.row_set (by rw [List.length_set]; exact hbn.1) fun n hn => ?_)
        rcases List.mem_or_eq_of_mem_set hn with hn | rfl
        · exact Nat.lt_of_lt_of_le (hbn.2 n hn) (Nat.pow_le_pow_right (by decide) (by omega))
        · exact Nat.pow_pos (by decide)
      refine rvt_eqI (x := kd) k6 rfl fun F7 H7 e7 k7 => ⟨fun z => ?_, fun z => ?_⟩
      · have D5 := ((D4.ext e5).ext e6).ext e7
        have hrow5 := D5.hw pn r ns hr1 hn1
        clear D4 k4 e5 k5 e6 k6 e7
        (conv => whnf)
        refine ⟨r, _, rfl, hrow5, ?_⟩
        (conv => whnf)
        refine ⟨_, rfl, r, _, t, t, .int ns[t], rfl, rfl, hrow5, by omega, by omega, (ixN_seq (ixN_cast (by omega))).1, mapV ht, ?_⟩
        rw [show (ns.map V.int).eraseIdx t = (ns.eraseIdx t).map V.int from erase_map V.int ns t]
        refine q F7 _ rs _ (D5.ok k7 hmem) (D5.row hr1 (ns.eraseIdx t)) (bd.row_set (by rw [List.length_eraseIdx_of_lt ht]; omega) fun n hn => ?_)
        exact Nat.lt_of_lt_of_le (hbn.2 n (List.mem_of_mem_eraseIdx hn)) (Nat.pow_le_pow_right (by decide) (by omega))
      · have D5 := ((D4.ext e5).ext e6).ext e7
        have hrow5 := D5.hw pn r ns hr1 hn1
        clear D4 k4 e5 k5 e6 k6 e7
        refine ⟨none, trk F7 r (.lst (ns.map V.int)), H7, trk F7 r (.lst (ns.map V.int)), [.no, .no, .no, .no, .im (.lst (ns.map .int)), .no, .no], fun ds => ds = (ns.map (2 * ·)).map .int, rel_of (trk_ok k7.sub hrow5) ⟨.inl rfl, .inl rfl, .inl rfl, .inl rfl, .inr ⟨_, _, rfl, rfl, trk_rep ns⟩, .inl rfl, .inl rfl, trivial⟩, ?_, fun F8 H8 x ds vs e8 k8 hx fx hx8 rx hds => ?_⟩
        · show wpLc _ _ _ _ _ (ns.map LV.D.int) []
          refine wpLc_map LV.D.int (fun n => .int (2 * n)) ns (by omega) (fun n hn N M hN => ?_) ?_
          · (conv => whnf)
            exact ⟨⟨by decide, Nat.lt_of_lt_of_le (hbn.2 n hn) (Nat.pow_le_pow_right (by decide) (by omega))⟩, hN⟩
          · rw [List.map_map] <;> rfl
        subst hds
        have hvs := rep_ints rx
        subst hvs
        obtain ⟨k9, x9⟩ := grow_all k7 fun c o h => e8.keep c o h fun z => nomatch z
        have D9 := D5.ext x9
        obtain ⟨n1, n2⟩ := D5.fresh k7 hx
        have f9 : F7 x = none := k7.fnone hx
        (conv => whnf)
        refine ⟨_, rfl, ?_⟩
        (conv => whnf)
        refine ⟨_, rfl, ar, _, pn, pn, rfl, rfl, D9.hr, ixN_cast (by rw [List.length_map]; exact hpn), ?_⟩
        rw [set_map]
        refine q F7 _ (rs.set pn x) _ (D9.ok k9 (by simp)) (D9.putRow hpn hx8 n1 f9 n2) (bd.row_set (by rw [List.length_map]; exact hbn.1) fun n hn => ?_)
        obtain ⟨y, hy, rfl⟩ := List.mem_map.mp hn
        exact (two_up (hbn.2 y hy)).2
end LV
set_option Elab.async false
set_option linter.all false
set_option maxRecDepth 100000
set_option maxHeartbeats 4000000
/-! P36: law_spoil. -/
namespace LV
open PySem PySem.Spec PyProof.Rows L2
section
variable {K : PySem.W.Frag} {FB HB F H F' H' : Hp} {ad a ap ar : Addr} {rs : List Addr} {vc : V} {p : Pap}
/-- the data's cells are known too -/
def trkD (F H : Hp) (a ap ar : Addr) (rs : List Addr) : Hp := fun c => if c ∈ a :: ap :: ar :: rs then H c else F c
theorem trkD_same (s : Same F H) : Same (trkD F H a ap ar rs) H := fun c u hc => by
  unfold trkD at hc
  split at hc
  · exact hc
  · exact s c u hc
theorem trkD_ok (s : Same F H) : Ok K none (trkD F H a ap ar rs) H := ⟨trkD_same s, fun _ z => nomatch z⟩
theorem DatAt.trk_up (D : DatAt K FB HB F H ad a ap ar rs vc p) (s : Same F H) : Same F (trkD F H a ap ar rs) := fun c u hc => by
  unfold trkD
  split
  · rename_i h
    rw [D.out c h] at hc
    cases hc
  · exact hc
theorem trkD_at {c : Addr} (h : c ∈ a :: ap :: ar :: rs) : trkD F H a ap ar rs c = H c := if_pos h
theorem DatAt.rep_pl (D : DatAt K FB HB F H ad a ap ar rs vc p) : Rep K none (trkD F H a ap ar rs) (.lst (p.pl.map .int)) (.ref ap) := ⟨ap, _, rfl, SqL.of ((trkD_at (by simp)).trans D.hp), ints_rep _⟩
theorem rep_rows {F1 : Hp} : ∀ {rs : List Addr} {rw : List (List Int)}, rs.length = rw.length → (∀ (i : Nat) r ns, rs[i]? = some r → rw[i]? = some ns → F1 r = some (.lst (ns.map V.int))) → RepL K none F1 (rw.map fun r => .lst (r.map .int)) (rs.map V.ref)
  | [], [], _, _ => rfl
  | r :: rs, ns :: rw, hl, h => ⟨_, _, rfl, ⟨r, _, rfl, SqL.of (h 0 r ns rfl rfl), ints_rep ns⟩, rep_rows (by simpa using hl) fun i r ns h1 h2 => h (i + 1) r ns h1 h2⟩
  | [], _ :: _, hl, _ => by simp at hl
  | _ :: _, [], hl, _ => by simp at hl
theorem DatAt.rep_rw (D : DatAt K FB HB F H ad a ap ar rs vc p) : Rep K none (trkD F H a ap ar rs) (eRows p.rw) (.ref ar) := ⟨ar, _, rfl, SqL.of ((trkD_at (by simp)).trans D.hr), rep_rows D.rl fun i r ns h1 h2 => (trkD_at (by simp [List.mem_of_getElem? h1])).trans (D.hw i r ns h1 h2)⟩
theorem DatAt.rep (D : DatAt K FB HB F H ad a ap ar rs vc p) (s : Same F H) : Rep K none (trkD F H a ap ar rs) (ePd p) (.ref a) :=
  ⟨a, _, rfl, SqL.of ((trkD_at (by simp)).trans D.hd), _, _, rfl, rfl, _, _, rfl, D.rep_pl, _, _, rfl, D.rep_rw, _, _, rfl, rfl, _, _, rfl, Rep.mono (D.trk_up s) _ _ D.cn, rfl⟩
/-- t[1:] -/
theorem sl_sim {dA : Option Addr} {xs : List D} {v : V} {Q : LV.D → Prop} {Qk : VK} (k : Ok K dA F H) (r1 : Rep K dA F (.tup xs) v) (q : Q (.tup (xs.drop 1))) (f : Fin K dA F H Q Qk) : rSlA K v (some 1) none H Qk := by
  obtain ⟨a, vs, rfl, h1, r2⟩ := id r1
  have e0 : HT.sIx vs.length 0 (some 1) = min 1 vs.length := HT.sIx_nat vs.length 0 1
  have e9 : HT.sIx vs.length vs.length none = vs.length := rfl
  refine ⟨a, vs, rfl, sqT_of k.sub h1, fun z => ?_, fun z p hp => ?_⟩
  · have hv : vs.length = 0 := by
      have := z.1
      rw [e0] at this
      omega
    have hx : xs = [] := List.length_eq_zero_iff.mp (by rw [← r2.length]; exact hv)
    subst hx
    exact f F H (.tup []) _ Ext.refl k r1 q
  · have ec : L2.cutV vs (some 1) none = vs.drop 1 := by
      unfold L2.cutV
      rw [e0, e9]
      cases vs with
      | nil => rfl
      | cons v vs =>
        have : min 1 (v :: vs).length = 1 := by rw [List.length_cons]; omega
        rw [this, List.take_of_length_le (by rw [List.length_drop]; omega)]
    rw [ec]
    obtain ⟨e2, k2⟩ := grow (o := .tup (vs.drop 1)) k hp
    have r3 := RepL.mono e2.ff _ _ r2
    refine f _ _ (.tup (xs.drop 1)) _ e2 k2 ⟨p, _, rfl, upd_same, ?_⟩ q
    clear q r1 r2
    cases xs with
    | nil =>
      have r3 : vs = [] := r3
      subst r3
      rfl
    | cons x xs =>
      obtain ⟨v, r, e, _, h⟩ := r3
      have e : vs.drop 1 = r := by rw [e] <;> rfl
      have key : ∀ zs, zs = r → RepL K dA (upd F p (.tup (vs.drop 1))) xs zs := fun zs z => z ▸ h
      exact key _ e
/-- draw(d, m), m written -/
theorem rve_draw {σ : L2.St} {Q : VK} {m : Int} (k : Ok K (some ad) F H) (h0 : σ[0]? = some (some (.ref ad))) (hm : 0 < m) (hm2 : m < 1073741824) (h : ∀ F1 H1 (r : Nat), Ext (some ad) F H F1 H1 → Ok K (some ad) F1 H1 → (r : Int) < m → Q (.int r) H1) :
    rVE K (vFun c_law_draw (vCons (vVar 0) (vCons (vC (.int m)) vNil))) σ H Q := by
  have hj : 0 < σ.length := (List.getElem?_eq_some_iff.mp h0).1
  refine ⟨some ad, F, H, F, (List.replicate σ.length .no).set 0 (.im .tok), fun d => ∃ r : Nat, d = .int r ∧ (r = 0 ∨ (r : Int) < m), ?_, ?_, fun F1 H1 d v e1 k1 rd hd => ?_⟩
  · refine ⟨k, Ext.refl, by simp, fun _ => none, fun a i z => (nomatch z), fun i s hi => ?_⟩
    by_cases q : 0 = i
    · subst q
      rw [List.getElem?_set_self (by simpa using hj)] at hi
      cases hi
      exact ⟨_, h0, _, rfl, ad, rfl, rfl⟩
    · rw [List.getElem?_set_ne q] at hi
      have := (List.mem_replicate.mp (List.mem_of_getElem? hi)).2
      subst this
      have hl : i < σ.length := by
        have := (List.getElem?_eq_some_iff.mp hi).1
        simpa using this
      exact ⟨_, List.getElem?_eq_getElem hl, trivial⟩
  · show vVar 0 _ _
    unfold vVar
    rw [List.getElem?_set_self (by simpa using hj)]
    exact ⟨m, rfl, hm2, fun d hd => hd⟩
  · obtain ⟨r, rfl, hr⟩ := hd
    cases rd
    exact h F1 H1 r e1 k1 (dr_lt hr hm)
end
theorem Bd4.top {k : Nat} {p : Pap} (h : Bd4 k p) (x y : Int) (cs : List Cn) (hc : cs.length ≤ 20 + k) : Bd4 k { p with fd := x, ho := y, cn := cs } := ⟨h.l1, h.l2, hc, h.row⟩
theorem Bd4.pls {k : Nat} {p : Pap} (h : Bd4 k p) (pl : List Int) (hc : pl.length ≤ 20 + k) : Bd4 k { p with pl := pl } := ⟨hc, h.l2, h.l3, h.row⟩
abbrev sg9 (ad a ap ar : Addr) (many kd : Int) (o6 o7 o8 : Option V) : L2.St := [some (.ref ad), some (.ref a), some (.int many), some (.int kd), some (.ref ap), some (.ref ar), o6, o7, o8]
section
variable {K : PySem.W.Frag} {FB HB F H F' H' : Hp} {ad a ap ar : Addr} {rs : List Addr} {vc : V} {p : Pap}
theorem ne_nil_m {xs : List Int} {B C : Prop} (h : D.lst (xs.map .int) = .lst []) : xs = [] := List.map_eq_nil_iff.mp (D.lst.inj h)
theorem pl_rw (rw : List (List Int)) : pl 40 (eRows rw) := fun d hd => by
  obtain ⟨x, _, rfl⟩ := List.mem_map.mp hd
  intro y hy
  obtain ⟨z, _, rfl⟩ := List.mem_map.mp hy
  trivial
/-- kind == c and places != [] -/
theorem rvt_pl {Q : Bool → Hp → Prop} {many kd c : Int} {o6 o7 o8 : Option V} (T : DatAt K FB HB F H ad a ap ar rs vc p) (s : Same F H) (h : ∀ H1, (∀ c o, H c = some o → H1 c = some o) → (p.pl ≠ [] → Q true H1) ∧ Q false H1) :
    rVT K (vAnd (vTB (vOp oEqI (vVar 3) (vC (.int c)))) (vTB (vOp oNe (vVar 4) (fun Γ Q => vNil Γ fun xs => Q (.lst xs))))) (sg9 ad a ap ar many kd o6 o7 o8) H Q := by
  refine ⟨none, trkD F H a ap ar rs, H, trkD F H a ap ar rs, [.no, .no, .no, .im (.int kd), .im (.lst (p.pl.map .int)), .no, .no, .no, .no], fun b => b = true → p.pl ≠ [], rel_of (trkD_ok s) ⟨.inl rfl, .inl rfl, .inl rfl, .inr ⟨_, _, rfl, rfl, rfl⟩, .inr ⟨_, _, rfl, rfl, T.rep_pl⟩, .inl rfl, .inl rfl, .inl rfl, .inl rfl, trivial⟩, ?_, fun F1 H1 b e1 k1 hb => ?_⟩
  · (conv => whnf)
    refine ⟨fun _ => ?_, fun _ z => (nomatch z)⟩
    (conv => whnf)
    exact ⟨pl_ints _, fun d hd => absurd hd List.not_mem_nil, fun z _ y => z (by rw [y] <;> rfl), fun _ z => (nomatch z)⟩
  · obtain ⟨h1, h2⟩ := h H1 fun c o hc => e1.keep c o hc fun z => nomatch z
    cases b with
    | true => exact h1 (hb rfl)
    | false => exact h2
/-- places != [] and rows != [] -/
theorem rvt_two {Q : Bool → Hp → Prop} {many kd : Int} {o6 o7 o8 : Option V} (T : DatAt K FB HB F H ad a ap ar rs vc p) (s : Same F H) (h : ∀ H1, (∀ c o, H c = some o → H1 c = some o) → (p.pl ≠ [] → p.rw ≠ [] → Q true H1) ∧ Q false H1) :
    rVT K (vAnd (vTB (vOp oNe (vVar 4) (fun Γ Q => vNil Γ fun xs => Q (.lst xs)))) (vTB (vOp oNe (vVar 5) (fun Γ Q => vNil Γ fun xs => Q (.lst xs))))) (sg9 ad a ap ar many kd o6 o7 o8) H Q := by
  refine ⟨none, trkD F H a ap ar rs, H, trkD F H a ap ar rs, [.no, .no, .no, .no, .im (.lst (p.pl.map .int)), .im (eRows p.rw), .no, .no, .no], fun b => b = true → p.pl ≠ [] ∧ p.rw ≠ [], rel_of (trkD_ok s) ⟨.inl rfl, .inl rfl, .inl rfl, .inl rfl, .inr ⟨_, _, rfl, rfl, T.rep_pl⟩, .inr ⟨_, _, rfl, rfl, T.rep_rw⟩, .inl rfl, .inl rfl, .inl rfl, trivial⟩, ?_, fun F1 H1 b e1 k1 hb => ?_⟩
  · (conv => whnf)
    refine ⟨pl_ints _, fun d hd => absurd hd List.not_mem_nil, fun z => ?_, fun _ z => (nomatch z)⟩
    (conv => whnf)
    exact ⟨pl_rw _, fun d hd => absurd hd List.not_mem_nil, fun z2 _ => ⟨fun y => z (by rw [y] <;> rfl), fun y => z2 (by rw [y] <;> rfl)⟩, fun _ z => (nomatch z)⟩
  · obtain ⟨h1, h2⟩ := h H1 fun c o hc => e1.keep c o hc fun z => nomatch z
    cases b with
    | true => exact h1 (hb rfl).1 (hb rfl).2
    | false => exact h2
end
def spSpoil (K : PySem.W.Frag) : Sp := fun vs H Q _ => ∃ (FB HB F : Hp) (ad a ap ar : Addr) (rs : List Addr) (vc : V) (p : Pap) (k : Nat) (many : Int), vs = [.ref ad, .ref a, .int many] ∧ Ok K (some ad) F H ∧ DatAt K FB HB F H ad a ap ar rs vc p ∧ Bd4 k p ∧ k ≤ 45 ∧ 0 < many ∧ many < 1073741824 ∧
  ∀ F' H' rs' vc' p', Ok K (some ad) F' H' → DatAt K FB HB F' H' ad a ap ar rs' vc' p' → Bd4 (k + 1) p' → Q .non H'
theorem mono_bend {K : PySem.W.Frag} : ∀ vs H (Qm Qt : VK) E, (∀ v H, Qm v H → Qt v H) → spBend K vs H Qm E → spBend K vs H Qt E := fun vs H Qm Qt E hq ⟨FB, HB, F, ad, a, ap, ar, rs, vc, p, k, pn, kd, h1, h2, h3, h4, h5, h6, h7⟩ => ⟨FB, HB, F, ad, a, ap, ar, rs, vc, p, k, pn, kd, h1, h2, h3, h4, h5, h6, fun F' H' rs' p' a1 a2 a3 => hq _ _ (h7 F' H' rs' p' a1 a2 a3)⟩
theorem f_law_spoil {P : Program} {w : World} {K : PySem.W.Frag} {mg : Str → Option Value} {base : Heap} (W : Wd K mg) : FnS P w K mg base 3 "_law_spoil" (spSpoil K) := by
  refine W.fnS 76 (d := HH.d_law_spoil) rfl rfl 66 rfl ["_law_d", "_law_data", "_law_many"] rfl rfl (fun _ _ _ _ _ _ us h => by match us, h with | [a0, a1, a2], _ => rfl) fun f fd F => ?_
  have S : FnScope ["_law_d", "_law_data", "_law_many", "_law_kind", "_law_places", "_law_rows", "_law_k", "_law_pair", "_law_place"] ["_law_d", "_law_data", "_law_many"] HH.d_law_spoil.scope := C8.fnScope_by (by decide +kernel)
  have B := W.gb
  have G_law_draw := f_law_draw (P := P) (w := w) (base := base) W
  have G_law_bend := f_law_bend (P := P) (w := w) (base := base) W
  refine rb_ok (k := 2) F S (fun vs H Q E h => ?_) fun cdv A outer s H E hr => ⟨_, (rb_cons (rs_set (i := 3) S.nd (re_ve (v_call G_law_draw hr (va_cons (vv 0) (va_cons v_int va_nil))))) (rb_cons (rs_set (i := 4) S.nd (re_ix (re_var 1) re_int)) (rb_cons (rs_set (i := 5) S.nd (re_ix (re_var 1) re_int)) (rb_one (rs_if (rt_vt (vt_cmp (v_eqI (vv 3) v_int)))
      (rb_one (rs_put 1 re_int (re_ve (v_ix (ve_of (vl_lst (va_cons (v_neg v_int) (va_cons (vv 2) (va_cons v_int (va_cons (v_sub (vv 2) v_int) va_nil)))))) (v_call G_law_draw hr (va_cons (vv 0) (va_cons v_int va_nil)))))))
      (rb_one (rs_if (rt_vt (vt_cmp (v_eqI (vv 3) v_int)))
      (rb_cons (rs_expr (re_append 4 (re_ix (re_lst (ra_cons re_neg (ra_cons (re_var 2) (ra_cons (re_ix (re_var 1) re_int) (ra_cons re_int ra_nil))))) (re_call G_law_draw hr (ra_cons (re_var 0) (ra_cons re_int ra_nil)))))) (rb_one (rs_expr (re_append 5 (re_vl (vl_lc (own := [("_law_k", 6)]) rfl S.nd (VI.own (vi_rng1 B.range (va_cons (v_add v_int (v_call G_law_draw hr (va_cons (vv 0) (va_cons v_int va_nil)))) va_nil))) (by rfl) (fun _ _ _ _ _ => (vg_name 6 S.nd)) (fun _ _ _ _ _ => vq_nil) (fun _ _ _ _ _ => v_int)))))))
      (rb_one (rs_if (rt_vt (vt_cmp (v_eqI (vv 3) v_int)))
      (rb_one (rs_put 1 re_int (re_add (re_ix (re_var 1) re_int) (re_ve (v_ix (ve_of (vl_lst (va_cons v_int (va_cons (v_neg v_int) (va_cons v_int va_nil))))) (v_call G_law_draw hr (va_cons (vv 0) (va_cons v_int va_nil))))))))
      (rb_one (rs_if (rt_vt (vt_cmp (v_eqI (vv 3) v_int)))
      (rb_cons (rs_set (i := 7) S.nd (re_ve (v_ix (ve_of (vl_lst (va_cons (v_tup (va_cons (v_tup (va_cons v_int (va_cons v_int va_nil))) (va_cons v_int va_nil))) (va_cons (v_tup (va_cons (v_tup (va_cons v_int (va_cons v_int va_nil))) (va_cons v_int va_nil))) (va_cons (v_tup (va_cons (v_tup (va_cons v_int (va_cons v_int va_nil))) (va_cons v_int va_nil))) va_nil))))) (v_call G_law_draw hr (va_cons (vv 0) (va_cons v_int va_nil)))))) (rb_one (rs_put 1 re_int (re_ifx (rt_vt (vt_cmp (v_eqI (v_call G_law_draw hr (va_cons (vv 0) (va_cons v_int va_nil))) v_int))) (re_cat (re_ix (re_var 1) re_int) (re_tup (ra_cons (re_var 7) ra_nil))) (re_tl (re_ix (re_var 1) re_int))))))
      (rb_one (rs_if (rt_vt (vt_of (vw_and (vt_cmp (v_eqI (vv 3) v_int)) (vw_and1 (vt_cmp (v_ne hr (vv 4) (ve_of (vl_lst va_nil))))))))
      (rb_one (rs_expr (re_reverse 4)))
      (rb_one (rs_if (rt_vt (vt_of (vw_and (vt_cmp (v_eqI (vv 3) v_int)) (vw_and1 (vt_cmp (v_ne hr (vv 4) (ve_of (vl_lst va_nil))))))))
      (rb_one (rs_expr (re_popAt 4 (re_call G_law_draw hr (ra_cons (re_var 0) (ra_cons (re_len B.len (re_var 4)) ra_nil))))))
      (rb_one (rs_if (rt_vt (vt_of (vw_and (vt_cmp (v_ne hr (vv 4) (ve_of (vl_lst va_nil)))) (vw_and1 (vt_cmp (v_ne hr (vv 5) (ve_of (vl_lst va_nil))))))))
      (rb_cons (rs_set (i := 8) S.nd (re_call G_law_draw hr (ra_cons (re_var 0) (ra_cons (re_len B.len (re_var 4)) ra_nil)))) (rb_one (rs_if (rt_vt (vt_cmp (v_eqI (vv 3) v_int)))
      (rb_one (rs_put 4 (re_var 8) (re_ve (v_call G_law_draw hr (va_cons (vv 0) (va_cons (vv 2) va_nil))))))
      (rb_one (rs_if (rt_vt (vt_cmp (v_eqI (vv 3) v_int)))
      (rb_cons (rs_expr (re_popAt 4 (re_var 8))) (rb_one (rs_expr (re_popAt 5 (re_min rfl B.min (re_var 8) (re_sub (re_len B.len (re_var 5)) re_int))))))
      (rb_one (rs_expr (re_callS G_law_bend hr (ra_cons (re_var 0) (ra_cons (re_var 5) (ra_cons (re_min rfl B.min (re_var 8) (re_sub (re_len B.len (re_var 5)) re_int)) (ra_cons (re_var 3) ra_nil)))) mono_bend))))))))
      rb_nil))))))))))))))))), fun vs Q E' h => ?_⟩
  · obtain ⟨FB, HB, F1, ad, a, ap, ar, rs, vc, p, k, many, rfl, _⟩ := h
    rfl
  · obtain ⟨FB, HB, F1, ad, a, ap, ar, rs, vc, p, k, many, rfl, k0, T, bd, hk, hm1, hm2, q⟩ := h
    refine rve_draw (m := 12) k0 rfl (by omega) (by omega) fun F2 H2 kd e2 k2 _ => ?_
    have T2 := T.ext e2
    clear k0 T e2
    (conv => whnf)
    refine ⟨_, rfl, a, _, 1, _, rfl, rfl, SqL.of T2.hd, rfl, ?_⟩
    (conv => whnf)
    refine ⟨_, rfl, a, _, 2, _, rfl, rfl, SqL.of T2.hd, rfl, ?_⟩
    refine rvt_eqI (x := kd) k2 rfl fun F3 H3 e3 k3 => ⟨fun z => ?_, fun z => ?_⟩
    · have T3 := T2.ext e3
      clear T2 e3 k2
      refine ⟨some ad, F3, H3, F3, [.im .tok, .no, .im (.int many), .no, .no, .no, .no, .no, .no], fun d => ∃ x : Int, d = .int x, rel_of k3 ⟨.inr ⟨.tok, _, rfl, rfl, ad, rfl, rfl⟩, .inl rfl, .inr ⟨.int many, _, rfl, rfl, rfl⟩, .inl rfl, .inl rfl, .inl rfl, .inl rfl, .inl rfl, .inl rfl, trivial⟩, ?_, fun F4 H4 d v e4 k4 rd hx => ?_⟩
      · (conv => whnf)
        refine ⟨(4 : Int), rfl, by show (4 : Int) < _; omega, ?_⟩
        rintro _ ⟨r, rfl, hr⟩
        have hr : (r : Int) < 4 := dr_lt hr (by show (0 : Int) < 4; omega)
        exact ⟨_, at_int (ns := [-1, many, 0, many - 1]) (v := r) (by show r < 4; omega), _, rfl⟩
      · obtain ⟨x, rfl⟩ := hx
        have rd : v = .int x := rd
        subst rd
        have T4 := T3.ext e4
        (conv => whnf)
        refine ⟨_, rfl, ?_⟩
        (conv => whnf)
        refine ⟨a, _, 0, 0, rfl, rfl, T4.hd, rfl, ?_⟩
        exact q F4 _ rs vc _ (T4.ok k4 List.mem_cons_self) (T4.top x p.ho p.cn T4.cn) ((bd.top x p.ho p.cn bd.l3).mono (Nat.le_succ k))
    refine rvt_eqI (x := kd) k3 rfl fun F4 H4 e4 k4 => ⟨fun z => ?_, fun z => ?_⟩
    · have T4 := (T2.ext e3).ext e4
      clear T2 e3 k2 e4 k3
      (conv => whnf)
      refine ⟨ap, _, rfl, T4.hp, ?_⟩
      (conv => whnf)
      refine ⟨_, rfl, ?_⟩
      (conv => whnf)
      refine ⟨_, rfl, a, _, 0, _, rfl, rfl, SqL.of T4.hd, rfl, ?_⟩
      (conv => whnf)
      refine ⟨line_le (show 4 ≤ 1000000 by decide), fun l hl => ?_⟩
      obtain ⟨x5, k5⟩ := growOwn (o := .lst [.int (-1), .int many, .int p.fd, .int 0]) k4 hl
      have T5 := T4.ext x5
      (conv => whnf)
      refine ⟨_, rfl, ?_⟩
      refine ⟨some ad, F4, (4 : Int), k5, draw_rep 4, (by show (4 : Int) < _; omega), ?_⟩
      rintro F6 H6 _ _ e6 k6 rd ⟨t, rfl, ht⟩
      cases rd
      have ht : (t : Int) < 4 := dr_lt ht (by show (0 : Int) < 4; omega)
      have T6 := T5.ext e6
      have hl6 : H6 l = some (.lst ([-1, many, p.fd, 0].map V.int)) := e6.keep l _ upd_same (k4.tne hl)
      refine ⟨l, _, t, _, rfl, rfl, SqL.of hl6, atV (mapV (by show t < 4; omega)), ?_⟩
      generalize [-1, many, p.fd, 0][t]'(by show t < 4; omega) = x
      refine ⟨ap, _, .int x, rfl, rfl, T6.hp, line_lt (by rw [List.length_map]; have := bd.l1; omega), ?_⟩
      rw [show p.pl.map V.int ++ [V.int x] = (p.pl ++ [x]).map V.int by rw [List.map_append] <;> rfl]
      have T7 := T6.pls (p.pl ++ [x])
      have k7 := T6.ok k6 (c := ap) (o := .lst ((p.pl ++ [x]).map V.int)) (by simp)
      (conv => whnf)
      refine ⟨ar, _, rfl, T7.hr, ?_⟩
      (conv => whnf)
      refine ⟨some ad, F6, _, F6, [.im .tok, .no, .no, .no, .no, .no, .no, .no, .no], fun ds => ∃ m : Nat, m ≤ 3 ∧ ds = (List.replicate m (1 : Int)).map .int, rel_of k7 ⟨.inr ⟨.tok, _, rfl, rfl, ad, rfl, rfl⟩, .inl rfl, .inl rfl, .inl rfl, .inl rfl, .inl rfl, .inl rfl, .inl rfl, .inl rfl, trivial⟩, ?_, fun F8 H8 y ds vs e8 k8 hy fy hy8 ry hds => ?_⟩
      · (conv => whnf)
        refine ⟨(3 : Int), rfl, by show (3 : Int) < _; omega, ?_⟩
        rintro _ ⟨r, rfl, hr⟩
        have hr : (r : Int) < 3 := dr_lt hr (by show (0 : Int) < 3; omega)
        (conv => whnf)
        refine ⟨by show small ((1 : Int) + (r : Nat)); unfold small; omega, ?_⟩
        show wpLc _ _ _ _ _ (rng 0 _) []
        rw [show ((1 : Int) + (r : Nat)).toNat = r + 1 by omega]
        refine wpLc_rng (fun _ => LV.D.int 1) 0 (r + 1) (by omega) (fun i hi N M hN => hN) ?_
        refine ⟨r + 1, by omega, ?_⟩
        rw [List.map_const', List.length_range, List.map_replicate]
      · obtain ⟨m, hm, rfl⟩ := hds
        have hvs := rep_ints ry
        subst hvs
        have T8 := T7.ext e8
        obtain ⟨n1, n2⟩ := T7.fresh k7 hy
        (conv => whnf)
        refine ⟨ar, _, .ref y, rfl, rfl, T8.hr, line_lt (by rw [List.length_map, T6.rl]; have := bd.l2; omega), ?_⟩
        rw [show rs.map V.ref ++ [V.ref y] = (rs ++ [y]).map V.ref by rw [List.map_append] <;> rfl]
        refine q F8 _ (rs ++ [y]) vc _ (T8.ok k8 (by simp)) (T8.addRow hy8 n1 fy n2) ⟨?_, ?_, ?_, ?_⟩
        · show (p.pl ++ [x]).length ≤ _
          rw [List.length_append]
          have := bd.l1
          show p.pl.length + 1 ≤ _
          omega
        · show (p.rw ++ [_]).length ≤ _
          rw [List.length_append]
          have := bd.l2
          show p.rw.length + 1 ≤ _
          omega
        · have := bd.l3
          show p.cn.length ≤ _
          omega
        · intro r hr
          rcases List.mem_append.mp hr with hr | hr
          · exact (bd.mono (Nat.le_succ k)).row r hr
          · rw [List.mem_singleton.mp hr]
            refine ⟨by rw [List.length_replicate]; omega, fun n hn => ?_⟩
            rw [(List.mem_replicate.mp hn).2]
            exact Nat.one_lt_two_pow (by omega)
    refine rvt_eqI (x := kd) k4 rfl fun F5 H5 e5 k5 => ⟨fun z => ?_, fun z => ?_⟩
    · have T5 := ((T2.ext e3).ext e4).ext e5
      clear T2 e3 k2 e4 k3 e5 k4
      (conv => whnf)
      refine ⟨_, rfl, a, _, 3, _, rfl, rfl, SqL.of T5.hd, rfl, ?_⟩
      refine ⟨some ad, F5, H5, F5, [.im .tok, .no, .no, .no, .no, .no, .no, .no, .no], fun d => ∃ x : Int, d = .int x, rel_of k5 ⟨.inr ⟨.tok, _, rfl, rfl, ad, rfl, rfl⟩, .inl rfl, .inl rfl, .inl rfl, .inl rfl, .inl rfl, .inl rfl, .inl rfl, .inl rfl, trivial⟩, ?_, fun F6 H6 d v e6 k6 rd hx => ?_⟩
      · (conv => whnf)
        refine ⟨(3 : Int), rfl, by show (3 : Int) < _; omega, ?_⟩
        rintro _ ⟨r, rfl, hr⟩
        have hr : (r : Int) < 3 := dr_lt hr (by show (0 : Int) < 3; omega)
        exact ⟨_, at_int (ns := [1, -1, 2]) (v := r) (by show r < 3; omega), _, rfl⟩
      · obtain ⟨x, rfl⟩ := hx
        have rd : v = .int x := rd
        subst rd
        have T6 := T5.ext e6
        refine ⟨p.ho, x, rfl, rfl, ?_⟩
        (conv => whnf)
        refine ⟨_, rfl, ?_⟩
        (conv => whnf)
        refine ⟨a, _, 3, 3, rfl, rfl, T6.hd, rfl, ?_⟩
        exact q F6 _ rs vc _ (T6.ok k6 List.mem_cons_self) (T6.top p.fd (p.ho + x) p.cn T6.cn) ((bd.top p.fd (p.ho + x) p.cn bd.l3).mono (Nat.le_succ k))
    refine rvt_eqI (x := kd) k5 rfl fun F6 H6 e6 k6 => ⟨fun z => ?_, fun z => ?_⟩
    · have T6 := (((T2.ext e3).ext e4).ext e5).ext e6
      clear T2 e3 k2 e4 k3 e5 k4 e6 k5
      refine ⟨some ad, F6, H6, F6, [.im .tok, .no, .no, .no, .no, .no, .no, .no, .no], fun d => ∃ c : Cn, d = eC c, rel_of k6 ⟨.inr ⟨.tok, _, rfl, rfl, ad, rfl, rfl⟩, .inl rfl, .inl rfl, .inl rfl, .inl rfl, .inl rfl, .inl rfl, .inl rfl, .inl rfl, trivial⟩, ?_, fun F7 H7 d v e7 k7 rd hx => ?_⟩
      · (conv => whnf)
        refine ⟨(3 : Int), rfl, by show (3 : Int) < _; omega, ?_⟩
        rintro _ ⟨r, rfl, hr⟩
        have hr : (r : Int) < 3 := dr_lt hr (by show (0 : Int) < 3; omega)
        exact ⟨_, at_map (en := eC) (xs := [((0, 0), 1), ((1, 0), 1), ((0, 1), 2)]) (i := r) (List.getElem?_eq_getElem (by show r < 3; omega)), _, rfl⟩
      · obtain ⟨c, rfl⟩ := hx
        have T7 := T6.ext e7
        clear T6 e7
        refine ⟨some ad, F7, H7, F7, [.im .tok, .no, .no, .no, .no, .no, .no, .no, .no], fun _ => True, rel_of k7 ⟨.inr ⟨.tok, _, rfl, rfl, ad, rfl, rfl⟩, .inl rfl, .inl rfl, .inl rfl, .inl rfl, .inl rfl, .inl rfl, .inl rfl, .inl rfl, trivial⟩, ?_, fun F8 H8 b e8 k8 _ => ?_⟩
        · (conv => whnf)
          refine ⟨(2 : Int), rfl, by show (2 : Int) < _; omega, ?_⟩
          rintro _ ⟨r, rfl, hr⟩
          exact ⟨fun _ => trivial, fun _ => trivial⟩
        have T8 := T7.ext e8
        have rd8 := Rep.mono e8.ff _ _ rd
        clear T7 rd
        cases b with
        | true =>
          (conv => whnf)
          refine ⟨_, rfl, a, _, 4, vc, rfl, rfl, SqL.of T8.hd, rfl, ?_⟩
          (conv => whnf)
          refine ⟨_, rfl, ?_⟩
          (conv => whnf)
          refine ⟨line_le (show 1 ≤ 1000000 by decide), fun l hl => ?_⟩
          obtain ⟨x9, k9⟩ := grow (o := .tup [v]) k8 hl
          have T9 := T8.ext x9
          refine os_cat (dA := some ad) (dx := .tup (p.cn.map eC)) (dy := .tup [eC c]) (Q := fun d => d = .tup ((p.cn ++ [c]).map eC)) k9 (rep_some T9.cn) ⟨l, [v], rfl, upd_same, v, [], rfl, Rep.mono x9.ff _ _ rd8, rfl⟩ ⟨by rw [List.length_map]; have := bd.l3; show _ + 1 ≤ _; omega, by rw [List.map_append] <;> rfl⟩ fun F10 H10 d u e10 k10 ru hd => ?_
          subst hd
          have T10 := T9.ext e10
          (conv => whnf)
          refine ⟨_, rfl, ?_⟩
          (conv => whnf)
          refine ⟨a, _, 4, 4, rfl, rfl, T10.hd, rfl, ?_⟩
          exact q F10 _ rs u _ (T10.ok k10 List.mem_cons_self) (T10.top p.fd p.ho (p.cn ++ [c]) (rep_none ru)) ((bd.mono (Nat.le_succ k)).top p.fd p.ho (p.cn ++ [c]) (by rw [List.length_append]; have := bd.l3; show _ + 1 ≤ _; omega))
        | false =>
          (conv => whnf)
          refine ⟨_, rfl, a, _, 4, vc, rfl, rfl, SqL.of T8.hd, rfl, ?_⟩
          refine ⟨1, rfl, ?_⟩
          unfold tNoPart
          dsimp only
          refine sl_sim (dA := some ad) (xs := p.cn.map eC) (Q := fun d => d = .tup ((p.cn.drop 1).map eC)) k8 (rep_some T8.cn) (by rw [List.map_drop]) fun F10 H10 d u e10 k10 ru hd => ?_
          subst hd
          have T10 := T8.ext e10
          (conv => whnf)
          refine ⟨_, rfl, ?_⟩
          (conv => whnf)
          refine ⟨a, _, 4, 4, rfl, rfl, T10.hd, rfl, ?_⟩
          exact q F10 _ rs u _ (T10.ok k10 List.mem_cons_self) (T10.top p.fd p.ho (p.cn.drop 1) (rep_none ru)) ((bd.mono (Nat.le_succ k)).top p.fd p.ho (p.cn.drop 1) (by rw [List.length_drop]; have := bd.l3; omega))
    have T6 := (((T2.ext e3).ext e4).ext e5).ext e6
    clear T2 e3 k2 e4 k3 e5 k4 e6 k5
    refine rvt_pl T6 k6.sub fun H7 kp => ⟨fun hne => ?_, ?_⟩
    · obtain ⟨k7, x7⟩ := grow_all k6 kp
      have T7 := T6.ext x7
      (conv => whnf)
      refine ⟨ap, _, rfl, T7.hp, ?_⟩
      rw [← List.map_reverse]
      exact q F6 _ rs vc _ (T7.ok k7 (by simp)) (T7.pls p.pl.reverse) ((bd.pls p.pl.reverse (by rw [List.length_reverse]; exact bd.l1)).mono (Nat.le_succ k))
    obtain ⟨k7, x7⟩ := grow_all k6 kp
    have T7 := T6.ext x7
    clear T6 k6 kp x7
    refine rvt_pl T7 k7.sub fun H8 kp => ⟨fun hne => ?_, ?_⟩
    · obtain ⟨k8, x8⟩ := grow_all k7 kp
      have T8 := T7.ext x8
      have hpl : 0 < p.pl.length := List.length_pos_iff.mpr hne
      have hml : (p.pl.map V.int).length = p.pl.length := List.length_map _
      have hb1 := bd.l1
      (conv => whnf)
      refine ⟨ap, _, rfl, T8.hp, ?_⟩
      (conv => whnf)
      refine ⟨_, rfl, ?_⟩
      (conv => whnf)
      refine ⟨_, rfl, ap, _, rfl, .inl (SqL.of T8.hp), ?_⟩
      refine ⟨some ad, F6, (((p.pl.map V.int).length : Nat) : Int), k8, draw_rep _, (by show (((p.pl.map V.int).length : Nat) : Int) < _; omega), ?_⟩
      rintro F9 H9 _ _ e9 k9 rd ⟨t, rfl, ht⟩
      cases rd
      have ht := dr_lt ht (by show (0 : Int) < ((p.pl.map V.int).length : Nat); omega)
      have ht : t < p.pl.length := by
        have ht : (t : Int) < ((p.pl.map V.int).length : Nat) := ht
        omega
      have T9 := T8.ext e9
      refine ⟨ap, _, t, t, .int p.pl[t], rfl, rfl, T9.hp, by omega, by omega, (ixN_seq (ixN_cast (by omega))).1, mapV ht, ?_⟩
      rw [show (p.pl.map V.int).eraseIdx t = (p.pl.eraseIdx t).map V.int from erase_map V.int p.pl t]
      exact q F9 _ rs vc _ (T9.ok k9 (by simp)) (T9.pls (p.pl.eraseIdx t)) ((bd.pls (p.pl.eraseIdx t) (by rw [List.length_eraseIdx_of_lt ht]; omega)).mono (Nat.le_succ k))
    obtain ⟨k8, x8⟩ := grow_all k7 kp
    have T8 := T7.ext x8
    clear T7 k7 kp x8
    refine rvt_two T8 k8.sub fun H9 kp => ⟨fun hne hne2 => ?_, ?_⟩
    · obtain ⟨k9, x9⟩ := grow_all k8 kp
      have T9 := T8.ext x9
      clear T8 k8 kp x9
      have hpl : 0 < p.pl.length := List.length_pos_iff.mpr hne
      have hrl : 0 < rs.length := by rw [T9.rl]; exact List.length_pos_iff.mpr hne2
      have hml : (p.pl.map V.int).length = p.pl.length := List.length_map _
      have hb1 := bd.l1
      have hb2 := bd.l2
      have hrs := T9.rl
      have hmr : (rs.map V.ref).length = rs.length := List.length_map _
      (conv => whnf)
      refine ⟨_, rfl, ?_⟩
      (conv => whnf)
      refine ⟨_, rfl, ap, _, rfl, .inl (SqL.of T9.hp), ?_⟩
      refine ⟨some ad, F6, (((p.pl.map V.int).length : Nat) : Int), k9, draw_rep _, (by show (((p.pl.map V.int).length : Nat) : Int) < _; omega), ?_⟩
      rintro F10 H10 _ _ e10 k10 rd ⟨t, rfl, ht⟩
      cases rd
      have ht := dr_lt ht (by show (0 : Int) < ((p.pl.map V.int).length : Nat); omega)
      have ht : t < p.pl.length := by
        have ht : (t : Int) < ((p.pl.map V.int).length : Nat) := ht
        omega
      have T10 := T9.ext e10
      clear T9 k9 e10
      obtain ⟨j, hj, hjl⟩ : ∃ j : Nat, (if ((rs.map V.ref).length : Int) - 1 < (t : Int) then ((rs.map V.ref).length : Int) - 1 else (t : Int)) = (j : Nat) ∧ j < rs.length := by
        by_cases z : ((rs.map V.ref).length : Int) - 1 < (t : Int)
        · exact ⟨rs.length - 1, by rw [if_pos z]; omega, by omega⟩
        · exact ⟨t, if_neg z, by omega⟩
      refine rvt_eqI (x := kd) k10 rfl fun F11 H11 e11 k11 => ⟨fun z => ?_, fun z => ?_⟩
      · have T11 := T10.ext e11
        refine ⟨some ad, F11, H11, F11, [.im .tok, .no, .im (.int many), .no, .no, .no, .no, .no, .no], fun d => ∃ x : Int, d = .int x, rel_of k11 ⟨.inr ⟨.tok, _, rfl, rfl, ad, rfl, rfl⟩, .inl rfl, .inr ⟨.int many, _, rfl, rfl, rfl⟩, .inl rfl, .inl rfl, .inl rfl, .inl rfl, .inl rfl, .inl rfl, trivial⟩, ?_, fun F12 H12 d v e12 k12 rd hx => ?_⟩
        · (conv => whnf)
          refine ⟨many, rfl, hm2, ?_⟩
          rintro _ ⟨r, rfl, hr⟩
          exact ⟨_, rfl⟩
        · obtain ⟨x, rfl⟩ := hx
          have rd : v = .int x := rd
          subst rd
          have T12 := T11.ext e12
          (conv => whnf)
          refine ⟨_, rfl, ?_⟩
          (conv => whnf)
          refine ⟨_, rfl, ap, _, t, t, rfl, rfl, T12.hp, ixN_cast (by omega), ?_⟩
          rw [set_map]
          exact q F12 _ rs vc _ (T12.ok k12 (by simp)) (T12.pls (p.pl.set t x)) ((bd.pls (p.pl.set t x) (by rw [List.length_set]; omega)).mono (Nat.le_succ k))
      refine rvt_eqI (x := kd) k11 rfl fun F12 H12 e12 k12 => ⟨fun z => ?_, fun z => ?_⟩
      · have T12 := (T10.ext e11).ext e12
        (conv => whnf)
        refine ⟨ap, _, rfl, T12.hp, ?_⟩
        (conv => whnf)
        refine ⟨_, rfl, ap, _, t, t, .int p.pl[t], rfl, rfl, T12.hp, by omega, by omega, (ixN_seq (ixN_cast (by omega))).1, mapV ht, ?_⟩
        rw [show (p.pl.map V.int).eraseIdx t = (p.pl.eraseIdx t).map V.int from erase_map V.int p.pl t]
        have T13 := T12.pls (p.pl.eraseIdx t)
        have k13 := T12.ok k12 (c := ap) (o := .lst ((p.pl.eraseIdx t).map V.int)) (by simp)
        (conv => whnf)
        refine ⟨ar, _, rfl, T13.hr, ?_⟩
        (conv => whnf)
        refine ⟨_, rfl, ?_⟩
        (conv => whnf)
        refine ⟨_, rfl, ar, _, rfl, .inl (SqL.of T13.hr), ?_⟩
        refine ⟨_, 1, rfl, rfl, ?_⟩
        refine ⟨_, _, rfl, ?_⟩
        refine ⟨ar, _, _, j, .ref rs[j], rfl, rfl, T13.hr, ?_, ?_, ?_, ?_, ?_⟩
        · rw [hj]; omega
        · rw [hj]; omega
        · rw [hj]
          exact (ixN_seq (ixN_cast (by omega))).1
        · rw [List.getElem?_map, List.getElem?_eq_getElem hjl] <;> rfl
        · rw [show (rs.map V.ref).eraseIdx j = (rs.eraseIdx j).map V.ref from erase_map V.ref rs j]
          refine q F12 _ (rs.eraseIdx j) vc _ (T13.ok k13 (by simp)) (T13.dropRow j) ⟨?_, ?_, ?_, ?_⟩
          · show (p.pl.eraseIdx t).length ≤ _
            rw [List.length_eraseIdx_of_lt ht]
            omega
          · show (p.rw.eraseIdx j).length ≤ _
            rw [List.length_eraseIdx_of_lt (by omega)]
            omega
          · have := bd.l3
            show p.cn.length ≤ _
            omega
          · exact fun r hr => (bd.mono (Nat.le_succ k)).row r (List.mem_of_mem_eraseIdx hr)
      · have T12 := (T10.ext e11).ext e12
        (conv => whnf)
        refine ⟨_, rfl, ?_⟩
        (conv => whnf)
        refine ⟨_, rfl, ?_⟩
        (conv => whnf)
        refine ⟨_, rfl, ?_⟩
        (conv => whnf)
        refine ⟨_, rfl, ar, _, rfl, .inl (SqL.of T12.hr), ?_⟩
        refine ⟨_, 1, rfl, rfl, ?_⟩
        refine ⟨_, _, rfl, ?_⟩
        (conv => whnf)
        refine ⟨_, rfl, ?_⟩
        refine ⟨FB, HB, F12, ad, a, ap, ar, rs, vc, p, k, j, kd, ?_, k12, T12, bd, by omega, hjl, fun F' H' rs' p' a1 a2 a3 => q F' H' rs' vc p' a1 a2 a3⟩
        show [V.ref ad, V.ref ar, V.int (if _ then _ else _), V.int kd] = _
        rw [hj]
    · obtain ⟨k9, x9⟩ := grow_all k8 kp
      exact q F6 _ rs vc _ k9 (T8.ext x9) (bd.mono (Nat.le_succ k))
end LV
set_option Elab.async false
set_option linter.all false
set_option maxRecDepth 100000
set_option maxHeartbeats 4000000
/-! LV21: more of the raw judgements: a for, the value layer's statements, a list of new lists. -/
namespace LV
open PySem PySem.Spec PyProof.Rows L2
section
variable {X : Cx} {e a b c : Expr} {es : List Expr} {st : Stmt} {sts sts' : List Stmt} {m ma mb : TE} {mA : TA} {mt : TT} {ms mu : TS} {me : Vm} {te : TE} {tt : TT} {mv : Vt} {pos p lp : Pos} {x : Str} {k n : Nat} {q apos cpos : Pos}
/-- the value layer's statement, then what is read by the heap -/
def mVS (K : PySem.W.Frag) (mv : Vs) (mu : TS) : TS := fun D σ H => ∃ (dA : Option Addr) (F0 H0 F : Hp) (Γ : Ev), Rel K dA F0 H0 F H σ Γ ∧ mv { nx := fun Γ' => ∀ F' H' σ', Rel K dA F0 H0 F' H' σ' Γ' → mu D σ' H', rt := fun d => ∀ F' H' v, Ext dA F0 H0 F' H' → Ok K dA F' H' → Rep K dA F' d v → D.rt v H' } Γ
theorem rb_vs {ts : TS} {mv : Vs} (h1 : VS X st ts mv) (h2 : RB X sts mu) : RB X (st :: sts) (mVS X.K mv mu) := by
  obtain ⟨t2, p2, q2⟩ := h2.ex
  refine ⟨tSeq ts t2, pss_cons h1.ps p2, fun Dm Dt σ H l ⟨dA, F0, H0, F, Γ, R, h⟩ => ?_⟩
  exact h1.sim (Dk := { Dt with nx := t2 Dt }) R h ⟨fun F' H' σ' Γ' R' q' => q2 Dm Dt σ' H' l (q' F' H' σ' R'), fun F' H' d v e1 k1 r1 q' => l.rt _ _ (q' F' H' v e1 k1 r1), fun _ _ _ _ _ z => z.elim, fun _ _ _ _ _ z => z.elim⟩
theorem cutN {mv : Vs} {T0 : Ev → Prop} {R0 : D → Prop} {Γ : Ev} (h : ∀ T : Ev → Prop, T = T0 → mv { nx := T, rt := R0 } Γ) : mv { nx := T0, rt := R0 } Γ := h _ rfl
/-- for name in a range -/
def mFor (K : PySem.W.Frag) (mi : Va) (j : Nat) (mb : TS) : TS := fun D σ H => ∃ (dA : Option Addr) (F0 H0 F : Hp) (Γ : Ev) (Qd : List LV.D → Prop), Rel K dA F0 H0 F H σ Γ ∧ mi Γ Qd ∧ ∀ F1 H1 ds, Ext dA F H F1 H1 → Ok K dA F1 H1 → Qd ds →
  ∃ W : Nat → L2.St → Hp → Prop, W 0 σ H1 ∧ ∀ i σ2 H2, W i σ2 H2 → i ≤ ds.length ∧ ∃ F2, Same F1 F2 ∧ Ok K dA F2 H2 ∧ (i = ds.length → D.nx σ2 H2) ∧
    (i < ds.length → ∀ F3 H3 d v, Ext dA F2 H2 F3 H3 → Ok K dA F3 H3 → ds[i]? = some d → Rep K dA F3 d v → mb { nx := W (i + 1), rt := D.rt, bk := D.nx, ct := W (i + 1) } (σ2.set j (some v)) H3)
theorem rs_for {iter : Expr} {wi : TI} {mi : Va} {body : List Stmt} {mb : TS} {p2 : Pos} (hi : VI X (.Name x p2) iter wi mi) (j : Nat) (hN : X.N.Nodup) (hb : RB X body mb) (hp : PassesOwn (model X.prog X.w) X.A X.env X.xe := by exact PassesOwn.never) (hc : X.calm = true := by rfl) (hx : X.N[j]? = some x := by rfl) (hl : Loc X.env.scope x := by first | exact Or.inl rfl | exact Or.inr rfl)
    (hf : X.fn x = true ∨ X.env.scope.names.lookup x = some .local := by first | exact .inl rfl | exact .inr rfl | assumption) (hs : ∀ y, foldedSetIterable iter X.env y = pure y := by intro _; rfl) : RS X (.For (.Name x p2) iter body [] pos) (mFor X.K mi j mb) := by
  obtain ⟨t, p1, q1⟩ := hb.ex
  refine ⟨_, ps_for hp hc hi.pi (pg_name hN hx hl hf) p1 hs, fun Dm Dt σ H l ⟨dA, F0, H0, F, Γ, Qd, R, hq, h⟩ => hi.sim R hq fun J F1 H1 ds e1 k1 w qd => ?_⟩
  obtain ⟨W, w0, hW⟩ := h F1 H1 ds e1 k1 qd
  refine ⟨fun i m σ H => m = ds.length - i ∧ W i σ H, ⟨_, rfl, w0⟩, fun i m σ2 H2 ⟨hm, h2⟩ => ?_⟩
  obtain ⟨hle, F2, s2, k2, hend, hgo⟩ := hW i σ2 H2 h2
  have Z := w F2 H2 s2 k2 i
  by_cases hlt : i < ds.length
  · obtain ⟨go, yl⟩ := Z.1 hlt
    refine .inr ⟨go, W (i + 1), fun σ' H' h => ⟨ds.length - (i + 1), by omega, rfl, h⟩, fun v H3 y => ?_⟩
    obtain ⟨F3, d, e3, k3, hd, r3⟩ := yl v H3 y
    exact q1 { nx := W (i + 1), rt := Dm.rt, bk := Dm.nx, ct := W (i + 1) } { Dt with nx := W (i + 1), ct := W (i + 1), bk := Dt.nx } _ _ ⟨fun _ _ h => h, l.rt, l.nx, fun _ _ h => h⟩ (hgo hlt F3 H3 d v e3 k3 hd r3)
  · exact .inl ⟨Z.2 (by omega), l.nx _ _ (hend (by omega))⟩
/-- [a new list for each] -/
def mRows (K : PySem.W.Frag) (mi : Va) (mg : Vg) (me : Va) (vs : List Nat) : TE := fun σ H Q => ∃ (dA : Option Addr) (F0 H0 F : Hp) (Γ : Ev) (Qd : List (List LV.D) → Prop), Rel K dA F0 H0 F H σ Γ ∧
  (mi Γ fun ds => ds.length ≤ 1000000 ∧ ∃ rss : List (List LV.D), rss.length = ds.length ∧ (∀ (i : Nat) d rs, ds[i]? = some d → rss[i]? = some rs → mg d (wipeG Γ vs) fun Γ' => me Γ' fun xs => xs = rs) ∧ Qd rss) ∧
  ∀ F' H' p as rss, Ext dA F H F' H' → Ok K dA F' H' → (∀ a ∈ p :: as, H a = none ∧ F' a = none) → (p :: as).Nodup → H' p = some (.lst (as.map V.ref)) → as.length = rss.length → (∀ (i : Nat) a rs, as[i]? = some a → rss[i]? = some rs → ∃ ws, H' a = some (.lst ws) ∧ RepL K dA F' rs ws) → Qd rss → Q (.ref p) H'
theorem re_rows {elt tg iter : Expr} {scope : Scope} {own : List (Str × Nat)} {wi : TI} {mi : Va} {g : Bk TG} {te : Bk TE} {me : Va} {L : List Nat} {mg : Vg} (hc : X.calm = true) (hN : X.N.Nodup) (hi : VIe X tg iter wi mi) (ok : blkC X.N X.env.scope scope own = true)
    (hg : ∀ (s : Shared) (H : Hp) (C : Addr) (cl : List (Str × Addr)) (fp : List Addr), VT1 (X.blk s H scope (compEnvC scope cl C X.env) fp) tg (g s H C cl fp) L mg)
    (he : ∀ (s : Shared) (H : Hp) (C : Addr) (cl : List (Str × Addr)) (fp : List Addr), VL (X.blk s H scope (compEnvC scope cl C X.env) fp) elt (te s H C cl fp) me)
    (hL : ∀ i ∈ L, i ∈ own.map (·.2) := by decide) (hs : ∀ x, foldedSetIterable iter X.env x = pure x := by intro _; rfl) (eg : ∀ s H C cl fp, g s H C cl fp = b0 g := by intros; rfl) (ee : ∀ s H C cl fp, te s H C cl fp = b0 te := by intros; rfl) :
    RE X (.ListComp elt [⟨tg, iter, [], 0⟩] scope pos) (mRows X.K mi mg me (own.map (·.2))) := by
  refine ⟨_, pe_lc hc hN hi.pi (blkOk_by ok) (fun s H C cl fp => eg s H C cl fp ▸ (hg s H C cl fp).pg) (fun s H C cl fp => pts_nil) (fun s H C cl fp => ee s H C cl fp ▸ (he s H C cl fp).pe) hs, fun σ H Qm Qt hq ⟨dA, F0, H0, F, Γ, Qd, R, q, f⟩ => ?_⟩
  exact sim_onE (K := X.K) hi.sim (hg sh0 (fun _ => none) 0 [] []).sim hL (he sh0 (fun _ => none) 0 [] []).sim R q fun F' H' p as rss e1 k1 h1 h2 h3 h4 h5 h6 => hq _ _ (f F' H' p as rss e1 k1 h1 h2 h3 h4 h5 h6)
end
end LV
set_option Elab.async false
set_option linter.all false
set_option maxRecDepth 100000
set_option maxHeartbeats 4000000
set_option exponentiation.threshold 100000
/-! P37: law_open, law. -/
namespace LV
open PySem PySem.Spec PyProof.Rows L2
theorem cut_vs {K : PySem.W.Frag} {mv : Vs} {mu : TS} {D : Ends} {σ : L2.St} {H : Hp} {dA : Option Addr} {F0 H0 F : Hp} {Γ : Ev} (R : Rel K dA F0 H0 F H σ Γ) (h : ∀ T : Ev → Prop, T = (fun Γ' => ∀ F' H' σ', Rel K dA F0 H0 F' H' σ' Γ' → mu D σ' H') → mv { nx := T, rt := fun d => ∀ F' H' v, Ext dA F0 H0 F' H' → Ok K dA F' H' → Rep K dA F' d v → D.rt v H' } Γ) : mVS K mv mu D σ H := ⟨_, _, _, _, _, R, h _ rfl⟩
def PR (w : Vw) (s : Nat) (r : List Int) : Prop := s ≤ w.up.length ∧ r.length = sz w s ∧ ∀ n ∈ r, n.natAbs < 2 ^ 7400
structure PN (w : Vw) (pls : List Nat) (rws : List (List Int)) : Prop where
  le : pls.length ≤ 8
  rl : rws.length = pls.length
  pr : ∀ (i : Nat) s r, pls[i]? = some s → rws[i]? = some r → PR w s r
theorem pr_told {w : Vw} {told : List (Option (List Int))} {st : List Nat} (h1 : ToldOk w told) (h2 : Pls told st) {s : Nat} (hs : s ∈ st) : ∃ ns, told[s]? = some (some ns) ∧ PR w s ns := by
  obtain ⟨ns, h⟩ := h2.2 s hs
  have hl := (List.getElem?_eq_some_iff.mp h).1
  have := h1.1
  exact ⟨ns, h, by omega, (h1.2 s ns h).1, (h1.2 s ns h).2⟩
mutual
def noTok : D → Bool
  | .lst xs => noTokL xs
  | .tup xs => noTokL xs
  | .obj _ _ ds => noTokL ds
  | .tok => false
  | .non => true
  | .bl _ => true
  | .int _ => true
  | .str _ => true
  | .cst => true
def noTokL : List D → Bool
  | [] => true
  | x :: xs => noTok x && noTokL xs
end
theorem noTokL_map {α : Type} {f : α → D} (h : ∀ x, noTok (f x) = true) : ∀ xs : List α, noTokL (xs.map f) = true
  | [] => rfl
  | x :: xs => by
    show (noTok (f x) && noTokL (xs.map f)) = true
    rw [h x, noTokL_map h xs] <;> rfl
mutual
theorem rep_free {K : PySem.W.Frag} {dA : Option Addr} {F : Hp} : ∀ (d : D) (v : V), noTok d = true → Rep K dA F d v → Rep K none F d v
  | .non, _, _, h => h
  | .bl _, _, _, h => h
  | .int _, _, _, h => h
  | .str _, _, _, h => h
  | .lst xs, v, z, h => by
    obtain ⟨a, vs, e, hs, hr⟩ := h
    exact ⟨a, vs, e, hs, repL_free xs vs z hr⟩
  | .tup xs, v, z, h => by
    obtain ⟨a, vs, e, hs, hr⟩ := h
    exact ⟨a, vs, e, hs, repL_free xs vs z hr⟩
  | .obj c ns ds, v, z, h => by
    obtain ⟨a, dx, fs, e, hs, hn, hr⟩ := h
    exact ⟨a, dx, fs, e, hs, hn, repL_free ds _ z hr⟩
  | .tok, _, z, _ => by cases z
  | .cst, _, _, h => h
theorem repL_free {K : PySem.W.Frag} {dA : Option Addr} {F : Hp} : ∀ (xs : List D) (vs : List V), noTokL xs = true → RepL K dA F xs vs → RepL K none F xs vs
  | [], _, _, h => h
  | x :: xs, vs, z, h => by
    obtain ⟨v, r, e, h1, h2⟩ := h
    have z : (noTok x && noTokL xs) = true := z
    rw [Bool.and_eq_true] at z
    exact ⟨v, r, e, rep_free x v z.1 h1, repL_free xs r z.2 h2⟩
end
theorem nt_eV (v : Vw) : noTok (eV v) = true := by
  show (noTok (.tup (v.st.map eS)) && noTokL (v.up.map eNs)) = true
  rw [Bool.and_eq_true]
  exact ⟨noTokL_map (f := eS) (fun _ => rfl) _, noTokL_map (f := eNs) (fun l => noTokL_map (f := eN) (fun n => by
    show (noTok (.int n.1) && (noTok (eHs n.2) && true)) = true
    rw [Bool.and_true, Bool.and_eq_true]
    exact ⟨rfl, noTokL_map (f := eH) (fun _ => rfl) _⟩) l) _⟩
theorem nt_eView (v : Vw) : noTok (eView v) = true := by
  show (noTok (eV v) && (true && true)) = true
  rw [nt_eV] <;> rfl
theorem pl_eV (v : Vw) : pl 40 (eV v) := fun x hx => by
  have hi : ∀ (n : Node), pl 38 (eN n) := fun n y hy => by
    rcases List.mem_cons.mp hy with rfl | hy
    · trivial
    · rw [List.mem_singleton.mp hy]
      intro z hz
      obtain ⟨h, _, rfl⟩ := List.mem_map.mp hz
      intro u hu
      rcases List.mem_cons.mp hu with rfl | hu
      · trivial
      · rw [List.mem_singleton.mp hu]
        intro w hw
        rcases List.mem_cons.mp hw with rfl | hw
        · trivial
        · rw [List.mem_singleton.mp hw]
          trivial
  rcases List.mem_cons.mp hx with rfl | hx
  · intro y hy
    obtain ⟨s, _, rfl⟩ := List.mem_map.mp hy
    intro z hz
    rcases List.mem_cons.mp hz with rfl | hz
    · trivial
    · rw [List.mem_singleton.mp hz]
      trivial
  · obtain ⟨l, _, rfl⟩ := List.mem_map.mp hx
    intro y hy
    obtain ⟨n, _, rfl⟩ := List.mem_map.mp hy
    exact hi n
theorem rel_no {K : PySem.W.Frag} {dA : Option Addr} {F H : Hp} {σ : L2.St} {n : Nat} (k : Ok K dA F H) (hl : σ.length = n) : Rel K dA F H F H σ (List.replicate n .no) := by
  refine ⟨k, Ext.refl, by rw [List.length_replicate]; exact hl, fun _ => none, fun a i z => (nomatch z), fun i s hi => ?_⟩
  have h1 := (List.getElem?_eq_some_iff.mp hi).1
  rw [List.length_replicate] at h1
  have h2 := (List.mem_replicate.mp (List.mem_of_getElem? hi)).2
  subst h2
  exact ⟨_, List.getElem?_eq_getElem (by rw [hl]; exact h1), trivial⟩
theorem Rel.setAt {K : PySem.W.Frag} {dA : Option Addr} {F0 H0 F H : Hp} {σ : L2.St} {Γ : Ev} (R : Rel K dA F0 H0 F H σ Γ) (i : Nat) {d : D} {v : V} (hi : σ[i]? = some (some v)) (h : Rep K dA F d v) : Rel K dA F0 H0 F H σ (Γ.set i (.im d)) := by
  have := R.setIm i h
  have e : σ.set i (some v) = σ := by
    refine List.ext_getElem? fun j => ?_
    by_cases q : i = j
    · subst q
      rw [List.getElem?_set_self (List.getElem?_eq_some_iff.mp hi).1, hi]
    · rw [List.getElem?_set_ne q]
  rwa [e] at this
theorem cut_S {ms mu : TS} {D : Ends} {σ : L2.St} {H : Hp} (h : ∀ T : L2.St → Hp → Prop, T = mu D → ms { D with nx := T } σ H) : tSeq ms mu D σ H := h _ rfl
theorem dat_make {K : PySem.W.Frag} {F H F1 H1 F2 H2 : Hp} {d b ap ar : Addr} {as : List Addr} {vc : V} {r ho : Int} {pls : List Int} {rws : List (List Int)} {cs : List Cn} (k : Ok K (some d) F H) (k2 : Ok K (some d) F2 H2) (e1 : Ext (some d) F H F1 H1) (e2 : Ext (some d) F1 H1 F2 H2)
    (n1 : H ap = none) (f1 : F1 ap = none) (g1 : H1 ap = some (.lst (pls.map V.int))) (hn : ∀ a ∈ ar :: as, H1 a = none ∧ F2 a = none) (nd : (ar :: as).Nodup) (g2 : H2 ar = some (.lst (as.map V.ref))) (hl : as.length = rws.length)
    (hw : ∀ (i : Nat) a ns, as[i]? = some a → rws[i]? = some ns → H2 a = some (.lst (ns.map V.int))) (hb : H2 b = none) (hc : Rep K none F (.tup (cs.map eC)) vc) :
    Ok K (some d) F2 (upd H2 b (.lst [.int r, .ref ap, .ref ar, .int ho, vc])) ∧ DatAt K F H F2 (upd H2 b (.lst [.int r, .ref ap, .ref ar, .int ho, vc])) d b ap ar as vc ⟨r, pls, rws, ho, cs⟩ := by
  obtain ⟨_, dl, dn, dq, dg, dm, dc, hd, _⟩ := k.tok d rfl
  obtain ⟨e3, k3⟩ := growOwn (o := .lst [.int r, .ref ap, .ref ar, .int ho, vc]) k2 hb
  have dne : ∀ c, H c = none → c ≠ d := fun c hc z => by rw [z, hd] at hc; cases hc
  have apd := dne ap n1
  have gp : H2 ap = some (.lst (pls.map V.int)) := e2.keep ap _ g1 fun z => apd (Option.some.inj z).symm
  have b1 : H1 b = none := e2.none hb
  have b0 : H b = none := e1.none b1
  have na : ∀ a ∈ ar :: as, H a = none := fun a ha => e1.none (hn a ha).1
  have ng : ∀ a ∈ ar :: as, ∃ o, H2 a = some o := fun a ha => by
    rcases List.mem_cons.mp ha with rfl | ha
    · exact ⟨_, g2⟩
    · obtain ⟨i, hi, rfl⟩ := List.mem_iff_getElem.mp ha
      exact ⟨_, hw i as[i] (rws[i]'(by rw [← hl]; exact hi)) (List.getElem?_eq_getElem hi) (List.getElem?_eq_getElem _)⟩
  have neb : ∀ c o, H2 c = some o → c ≠ b := fun c o h z => by rw [z, hb] at h; cases h
  have all0 : ∀ c ∈ b :: ap :: ar :: as, H c = none := fun c hc => by
    rcases List.mem_cons.mp hc with rfl | hc
    · exact b0
    · rcases List.mem_cons.mp hc with rfl | hc
      · exact n1
      · exact na c hc
  refine ⟨k3, upd_same, by rw [upd_ne (neb _ _ gp)]; exact gp, by rw [upd_ne (neb _ _ g2)]; exact g2, hl, fun i a ns h1 h2 => by rw [upd_ne (neb _ _ (hw i a ns h1 h2))]; exact hw i a ns h1 h2, ?_, fun c hc => ?_, Rep.mono (e1.ff.trans e2.ff) _ _ hc, fun c o h1 h2 => ?_, all0, e1.ff.trans e2.ff⟩
  · refine List.nodup_cons.mpr ⟨fun z => dne d (all0 d z) rfl, List.nodup_cons.mpr ⟨fun z => ?_, List.nodup_cons.mpr ⟨fun z => ?_, nd⟩⟩⟩
    · rcases List.mem_cons.mp z with z | z
      · exact neb _ _ gp z.symm
      · obtain ⟨o, h⟩ := ng b z
        exact neb _ _ h rfl
    · have := (hn ap z).1
      rw [g1] at this
      cases this
  · rcases List.mem_cons.mp hc with rfl | hc
    · exact k2.fnone hb
    · rcases List.mem_cons.mp hc with rfl | hc
      · exact e2.fkeep g1 f1
      · exact (hn c hc).2
  · have h3 : H2 c = some o := (e1.trans e2).keep c o h1 fun z => h2 (Option.some.inj z).symm
    rw [upd_ne (neb _ _ h3)]
    exact h3
structure Iv (K : PySem.W.Frag) (FB HB : Hp) (d b ap ar : Addr) (v : Vw) (v2 v3 : V) (i : Nat) (σ : L2.St) (H : Hp) : Prop where
  ex : ∃ F rs vc p, Ok K (some d) F H ∧ DatAt K FB HB F H d b ap ar rs vc p ∧ Bd4 i p
  len : σ.length = 17
  s1 : σ[1]? = some (some (.ref d))
  s2 : σ[2]? = some (some v2)
  s3 : σ[3]? = some (some v3)
  s14 : σ[14]? = some (some (.ref b))
  r2 : Rep K none FB (eV v) v2
  r3 : Rep K none FB (eView v) v3
theorem rvt_test {K : PySem.W.Frag} {FB HB : Hp} {d b ap ar : Addr} {v : Vw} {v2 v3 : V} {i : Nat} {σ : L2.St} {H : Hp} {Q : Bool → Hp → Prop} (g : Good v) (ht : sz v v.up.length = 1) (I : Iv K FB HB d b ap ar v v2 v3 i σ H) (hi : i ≤ 50) (h : ∀ H', Iv K FB HB d b ap ar v v2 v3 i σ H' → Q false H') :
    rVT K (vNot (vTB (vFun c_law_same (vCons (vFun c_short_fault (vCons (vVar 3) (vCons (vFun c_law_paper (vCons (vVar 14) vNil)) vNil))) (vCons (vFun c_law_due (vCons (vVar 2) (vCons (vVar 14) vNil))) vNil))))) σ H Q := by
  obtain ⟨F, rs, vc, p, k, D, bd⟩ := I.ex
  have up := D.sf.trans (D.trk_up k.sub)
  have R := (((rel_no (K := K) (trkD_ok (a := b) (ap := ap) (ar := ar) (rs := rs) k.sub) I.len).setAt 2 I.s2 (Rep.mono up _ _ I.r2)).setAt 3 I.s3 (Rep.mono up _ _ I.r3)).setAt 14 I.s14 (D.rep k.sub)
  refine ⟨none, _, _, _, _, fun b => b = false, R, ?_, fun F1 H1 b e1 k1 hb => ?_⟩
  · (conv => whnf)
    refine ⟨p, rfl, bd.pap hi, ?_⟩
    rintro _ rfl
    (conv => whnf)
    refine ⟨(v, p), rfl, ⟨g, ht, bd.pap hi⟩, ?_⟩
    rintro _ rfl
    (conv => whnf)
    refine ⟨(v, p, lvs v), rfl, ⟨rfl, g, ht, bd.pap hi⟩, ?_⟩
    rintro _ rfl
    (conv => whnf)
    refine ⟨shortF v p, rfl, shortF_ok v p, ?_⟩
    rintro _ rfl
    rfl
  · subst hb
    have kp : ∀ c o, H c = some o → H1 c = some o := fun c o h => e1.keep c o h fun z => nomatch z
    obtain ⟨k3, x3⟩ := grow_all k kp
    exact h H1 { I with ex := ⟨F, rs, vc, p, k3, D.ext x3, bd⟩ }
def spOpen (K : PySem.W.Frag) : Sp := fun vs H Q _ => ∃ (a : Addr) (ns : List Int), vs = [.ref a] ∧ SqL K H a (ns.map V.int) ∧ ∀ H' l d, (∀ c o, H c = some o → H' c = some o) → l ≠ d → H' l = some (.lst (ns.map V.int)) → H' d = some (.lst [.ref l, .int 0, .int 0, .int 1, .int 0]) → Q (.ref d) H'
theorem mono_open {K : PySem.W.Frag} : ∀ vs H (Qm Qt : VK) E, (∀ v H, Qm v H → Qt v H) → spOpen K vs H Qm E → spOpen K vs H Qt E := fun vs H Qm Qt E hq ⟨a, ns, h1, h2, h3⟩ => ⟨a, ns, h1, h2, fun H' l d a1 a2 a3 a4 => hq _ _ (h3 H' l d a1 a2 a3 a4)⟩
theorem mono_spoil {K : PySem.W.Frag} : ∀ vs H (Qm Qt : VK) E, (∀ v H, Qm v H → Qt v H) → spSpoil K vs H Qm E → spSpoil K vs H Qt E := fun vs H Qm Qt E hq ⟨FB, HB, F, ad, a, ap, ar, rs, vc, p, k, many, h1, h2, h3, h4, h5, h6, h7, h8⟩ => ⟨FB, HB, F, ad, a, ap, ar, rs, vc, p, k, many, h1, h2, h3, h4, h5, h6, h7, fun F' H' rs' vc' p' a1 a2 a3 => hq _ _ (h8 F' H' rs' vc' p' a1 a2 a3)⟩
theorem f_law_open {P : Program} {w : World} {K : PySem.W.Frag} {mg : Str → Option Value} {base : Heap} (W : Wd K mg) : FnS P w K mg base 1 "_law_open" (spOpen K) := by
  refine W.fnS 33 (d := HH.d_law_open) rfl rfl 23 rfl ["_law_script"] rfl rfl (fun _ _ _ _ _ _ us h => by match us, h with | [a0], _ => rfl) fun f fd F => ?_
  have S : FnScope ["_law_script"] ["_law_script"] HH.d_law_open.scope := C8.fnScope_by (by decide +kernel)
  have B := W.gb
  refine rb_ok (k := 0) F S (fun vs H Q E h => ?_) fun cdv A outer s H E hr => ⟨_, (rb_one (rs_ret (re_lst (ra_cons (re_vl (vl_list B.list (vv 0))) (ra_cons re_int (ra_cons re_int (ra_cons re_int (ra_cons re_int ra_nil)))))))), fun vs Q E' h => ?_⟩
  · obtain ⟨a, ns, rfl, _⟩ := h
    rfl
  · obtain ⟨a, ns, rfl, hS, q⟩ := h
    refine ⟨none, H, H, H, [.im (.lst (ns.map .int))], fun ds => ds = ns.map .int, rel_of ⟨fun _ _ h => h, fun _ z => nomatch z⟩ ⟨.inr ⟨_, _, rfl, rfl, a, _, rfl, hS, ints_rep ns⟩, trivial⟩, rfl, fun F1 H1 p ds vs e1 k1 n1 f1 h1 r1 hd => ?_⟩
    subst hd
    rw [rep_ints r1] at h1
    (conv => whnf)
    refine ⟨line_le (show 5 ≤ 1000000 by decide), fun d hd => ?_⟩
    have ne : p ≠ d := fun z => by rw [z, hd] at h1; cases h1
    exact q _ p d (fun c o h => by
      have h := e1.keep c o h fun z => nomatch z
      rw [upd_ne fun z => by rw [z, hd] at h; cases h]
      exact h) ne (by rw [upd_ne ne]; exact h1) upd_same
def spLaw (K : PySem.W.Frag) : Sp := fun vs H Q _ => ∃ (a : Addr) (ns : List Int), vs = [.ref a] ∧ SqL K H a (ns.map V.int) ∧ ∀ H', Q (.bl true) H'
theorem f_law {P : Program} {w : World} {K : PySem.W.Frag} {mg : Str → Option Value} {base : Heap} (W : Wd K mg) (IC : C8.InsC K (He.ga K "ShortFault")) {f : Addr} {fd : FuncData} (F : FunD K HH.d_law.name HH.d_law.qual HH.d_law.params HH.d_law.body HH.d_law.scope [] [] f fd) : FnOk P w K mg base CX0 11 f fd ["_law_script"] (spLaw K) := by
  have S : FnScope ["_law_script", "_law_d", "_law_levels_here", "_law_view_here", "_law_found", "_law_own", "_law_chain_here", "_law_places", "_law_numbers", "_law_s", "_law_k", "_law_node_here", "_law_counts", "_law_houses", "_law_data", "_law_row", "_law_turn"] ["_law_script"] HH.d_law.scope := C8.fnScope_by (by decide +kernel)
  have B := W.gb
  have G_law_open := f_law_open (P := P) (w := w) (base := base) W
  have G_law_draw := f_law_draw (P := P) (w := w) (base := base) W
  have G_law_some := f_law_some (P := P) (w := w) (base := base) W
  have G_View := f_View_init (P := P) (w := w) (base := base) W
  have G_law_cut := f_law_cut (P := P) (w := w) (base := base) W
  have G_law_chain := f_law_chain (P := P) (w := w) (base := base) W
  have G_law_counts_at := f_law_counts_at (P := P) (w := w) (base := base) W
  have G_law_same := f_law_same (P := P) (w := w) (base := base) W IC
  have G_short_fault := f_short_fault (P := P) (w := w) (base := base) W
  have G_law_paper := f_law_paper (P := P) (w := w) (base := base) W
  have G_law_due := f_law_due (P := P) (w := w) (base := base) W
  have G_law_spoil := f_law_spoil (P := P) (w := w) (base := base) W
  refine rb_ok (k := 10) F S (fun vs H Q E h => ?_) fun cdv A outer s H E hr => ⟨_, (rb_cons (rs_set (i := 1) S.nd (re_callS G_law_open hr (ra_cons (re_var 0) ra_nil) mono_open))
 (rb_vs (vs_set (i := 2) S.nd (v_call G_law_some hr (va_cons (vv 1) va_nil)))
 (rb_vs (vs_set (i := 3) S.nd (v_make G_View hr (va_cons (vv 2) va_nil)))
 (rb_vs (vs_set (i := 4) S.nd (v_sub (v_len B.len (vv 2)) v_int))
 (rb_vs (vs_if (vt_cmp (v_eqI (v_call G_law_draw hr (va_cons (vv 1) (va_cons v_int va_nil))) v_int))
 (vb_one (vs_set (i := 4) S.nd (v_call G_law_draw hr (va_cons (vv 1) (va_cons (v_len B.len (vv 2)) va_nil)))))
 vb_nil)
 (rb_vs (vs_set (i := 5) S.nd (v_call G_law_cut hr (va_cons (vv 2) (va_cons (vv 4) va_nil))))
 (rb_vs (vs_set (i := 6) S.nd (v_call G_law_chain hr (va_cons (vv 5) va_nil)))
 (rb_vs (vs_set (i := 7) S.nd (v_ix (vv 6) v_int))
 (rb_vs (vs_setLc (i := 8) (own := [("_law_s", 9)]) rfl S.nd (VI.own (vi_list (vv 7))) (by rfl) (fun _ _ _ _ _ => (vg_name 9 S.nd)) (fun _ _ _ _ _ => vq_nil) (fun _ _ _ _ _ => (v_ix (v_ix (vv 6) v_int) (vv 9))) (sw_true rfl rfl rfl (by decide +kernel)))
 (rb_vs (vs_if (vt_cmp (v_isnot (v_ix (vv 6) v_int) v_non))
 (vb_cons (vs_set (i := 7) S.nd (v_ix (vv 6) v_int))
 (vb_one (vs_setLc (i := 8) (own := [("_law_s", 9)]) rfl S.nd (VI.own (vi_list (vv 7))) (by rfl) (fun _ _ _ _ _ => (vg_name 9 S.nd)) (fun _ _ _ _ _ => vq_nil) (fun _ _ _ _ _ => (v_ix (v_ix (vv 6) v_int) (vv 9))) (sw_true rfl rfl rfl (by decide +kernel)))))
 vb_nil)
 (rb_vs (vs_if (vt_of (vw_or (vt_cmp (v_eq hr (vv 7) (ve_of (vl_lst va_nil)))) (vw_or1 (vt_cmp (v_eqI (v_call G_law_draw hr (va_cons (vv 1) (va_cons v_int va_nil))) v_int)))))
 (vb_cons (vs_set (i := 7) S.nd (v_ifx (vt_cmp (v_gt (vv 4) v_int)) (ve_of (vl_sortedSet rfl B.sorted B.set (ve_of (vl_lc (own := [("_law_k", 10)]) rfl S.nd (VI.own (vi_rng1 B.range (va_cons v_int va_nil))) (by rfl) (fun _ _ _ _ _ => (vg_name 10 S.nd)) (fun _ _ _ _ _ => vq_nil) (fun _ _ _ _ _ => (v_call G_law_draw hr (va_cons (vv 1) (va_cons (vv 4) va_nil)))))) )) (ve_of (vl_lst va_nil))))
 (vb_one (vs_setLc (i := 8) (own := [("_law_s", 9)]) rfl S.nd (VI.own (vi_list (vv 7))) (by rfl) (fun _ _ _ _ _ => (vg_name 9 S.nd)) (fun _ _ _ _ _ => vq_nil) (fun _ _ _ _ _ => (ve_of (vl_lc (own := [("_law_node_here", 11)]) rfl S.nd (VI.own (vi_tup (v_ix (vv 5) (vv 9)))) (by rfl) (fun _ _ _ _ _ => (vg_name 11 S.nd)) (fun _ _ _ _ _ => vq_nil) (fun _ _ _ _ _ => (v_add v_int (v_call G_law_draw hr (va_cons (vv 1) (va_cons v_int va_nil)))))))) (sw_true rfl rfl rfl (by decide +kernel)))))
 vb_nil)
 (rb_vs (vs_set (i := 12) S.nd (v_tup va_nil))
 (rb_vs (vs_set (i := 13) S.nd (v_add v_int (v_call G_law_draw hr (va_cons (vv 1) (va_cons v_int va_nil)))))
 (rb_vs (vs_if (vt_cmp (v_ne hr (vv 7) (ve_of (vl_lst va_nil))))
 (vb_cons (vs_set (i := 12) S.nd (v_call G_law_counts_at hr (va_cons (vv 5) (va_cons (v_ix (vv 7) v_int) (va_cons (v_ix (vv 8) v_int) va_nil)))))
 (vb_one (vs_set (i := 13) S.nd (v_sum rfl B.sum (v_ix (vv 8) v_int)))))
 vb_nil)
 (rb_cons (rs_set (i := 14) S.nd (re_lst (ra_cons (re_var 4) (ra_cons (re_vl (vl_list B.list (vv 7))) (ra_cons (re_rows (own := [("_law_row", 15)]) rfl S.nd (VI.own (vi_list (vv 8))) (by rfl) (fun _ _ _ _ _ => (vg_name 15 S.nd)) (fun _ _ _ _ _ => (vl_list B.list (vv 15)))) (ra_cons (re_var 13) (ra_cons (re_var 12) ra_nil))))))) (rb_cons (rs_if (rt_vt (vt_not (vt_val (v_call G_law_same hr (va_cons (v_call G_short_fault hr (va_cons (vv 3) (va_cons (v_call G_law_paper hr (va_cons (vv 14) va_nil)) va_nil))) (va_cons (v_call G_law_due hr (va_cons (vv 2) (va_cons (vv 14) va_nil))) va_nil)))))) (rb_one (rs_ret (re_ve v_bl))) rb_nil) (rb_cons (rs_for (vi_rng1 B.range (va_cons (v_call G_law_draw hr (va_cons (vv 1) (va_cons v_int va_nil))) va_nil)) 16 S.nd (rb_cons (rs_expr (re_callS G_law_spoil hr (ra_cons (re_var 1) (ra_cons (re_var 14) (ra_cons (re_len B.len (re_var 2)) ra_nil))) mono_spoil)) (rb_one (rs_if (rt_vt (vt_not (vt_val (v_call G_law_same hr (va_cons (v_call G_short_fault hr (va_cons (vv 3) (va_cons (v_call G_law_paper hr (va_cons (vv 14) va_nil)) va_nil))) (va_cons (v_call G_law_due hr (va_cons (vv 2) (va_cons (vv 14) va_nil))) va_nil)))))) (rb_one (rs_ret (re_ve v_bl))) rb_nil)))) (rb_one (rs_ret (re_ve (VCp.ve (v_eq hr (v_fld (vv 3) B.cView B.aV1) (vv 2))))))))))))))))))))))), fun vs Q E' h => ?_⟩
  · obtain ⟨a, ns, rfl, _⟩ := h
    rfl
  · obtain ⟨a, ns, rfl, hS, q⟩ := h
    (conv => whnf)
    refine ⟨_, rfl, ?_⟩
    refine ⟨a, ns, rfl, hS, fun H1 l d hk ne h1 h2 => ?_⟩
    have k1 : Ok K (some d) (fun c => if c = l then some (.lst (ns.map V.int)) else none) H1 := by
      refine ⟨fun c o hc => ?_, fun b hb => ?_⟩
      · have hc : (if c = l then some (.lst (ns.map V.int)) else none) = some o := hc
        split at hc
        · rename_i e
          rw [e, ← hc]
          exact h1
        · cases hc
      · cases hb
        exact ⟨if_neg ne.symm, l, ns, 0, 0, 1, 0, h2, SqL.of (if_pos rfl), Int.le_refl _⟩
    have R1 : Rel K (some d) _ H1 _ H1 [some (V.ref a), some (V.ref d), none, none, none, none, none, none, none, none, none, none, none, none, none, none, none] [.no, .im .tok, .no, .no, .no, .no, .no, .no, .no, .no, .no, .no, .no, .no, .no, .no, .no] :=
      rel_of k1 ⟨.inl rfl, .inr ⟨.tok, _, rfl, rfl, d, rfl, rfl⟩, .inl rfl, .inl rfl, .inl rfl, .inl rfl, .inl rfl, .inl rfl, .inl rfl, .inl rfl, .inl rfl, .inl rfl, .inl rfl, .inl rfl, .inl rfl, .inl rfl, .inl rfl, trivial⟩
    clear hk h1 h2 k1
    refine ⟨_, _, _, _, _, R1, ?_⟩
    (conv => whnf)
    refine ⟨(), rfl, trivial, ?_⟩
    rintro _ ⟨v, rfl, fv⟩ F2 H2 σ2 R2
    have gv := fv.good
    have hup := gv.rounds
    clear R1
    refine ⟨_, _, _, _, _, R2, ?_⟩
    (conv => whnf)
    refine ⟨v, rfl, fv, ?_⟩
    rintro _ rfl F3 H3 σ3 R3
    clear R2
    refine ⟨_, _, _, _, _, R3, ?_⟩
    (conv => whnf)
    intro F4 H4 σ4 R4
    clear R3
    have R4 : Rel K (some d) _ _ F4 H4 σ4 [.no, .im .tok, .im (eV v), .im (eView v), .im (.int ((((lvs v).length : Nat) : Int) - 1)), .no, .no, .no, .no, .no, .no, .no, .no, .no, .no, .no, .no] := R4
    rw [show (((lvs v).length : Nat) : Int) - 1 = (v.up.length : Nat) by rw [lvs_len]; omega] at R4
    refine cut_vs R4 fun T hT => ?_
    suffices hA : ∀ r : Nat, r ≤ v.up.length → T [.no, .im .tok, .im (eV v), .im (eView v), .im (.int r), .no, .no, .no, .no, .no, .no, .no, .no, .no, .no, .no, .no] by
      (conv => whnf)
      refine ⟨(3 : Int), rfl, by show (3 : Int) < _; omega, ?_⟩
      rintro _ ⟨x, rfl, _⟩
      (conv => whnf)
      refine ⟨fun z => ?_, fun z => hA _ (Nat.le_refl _)⟩
      (conv => whnf)
      refine ⟨(((lvs v).length : Nat) : Int), rfl, by show (((lvs v).length : Nat) : Int) < _; rw [lvs_len]; omega, ?_⟩
      rintro _ ⟨x, rfl, hx⟩
      have hx := dr_lt hx (by show (0 : Int) < ((lvs v).length : Nat); rw [lvs_len]; omega)
      have hx : (x : Int) < ((lvs v).length : Nat) := hx
      rw [lvs_len] at hx
      exact hA x (by omega)
    intro r hr
    rw [hT]
    clear hT T R4
    intro F5 H5 σ5 R5
    have hrt := root_lt gv (Nat.le_refl _) (by rw [fv.top]; exact Nat.one_pos) (s := r) hr
    have fw := cut_full gv (r := r) hr hrt
    have hwl : (cutV v r (root v v.up.length 0 r)).up.length = r := cut_len _ _ _
    refine ⟨_, _, _, _, _, R5, ?_⟩
    (conv => whnf)
    refine ⟨(v, r, lvs v), rfl, ⟨rfl, gv, fv.top, hr⟩, ?_⟩
    rintro _ rfl F6 H6 σ6 R6
    dsimp only at R6
    clear R5
    generalize cutV v r (root v v.up.length 0 r) = w at R6 fw hwl
    have gw := fw.good
    refine ⟨_, _, _, _, _, R6, ?_⟩
    (conv => whnf)
    refine ⟨w, rfl, gw, ?_⟩
    rintro d7 ⟨told, st, tok, pst, hd⟩ F7 H7 σ7 R7
    clear R6
    obtain ⟨z7, rfl, hz7⟩ : ∃ z, d7 = .lst [.lst (st.map fun s : Nat => .int s), .lst (told.map eON), z] ∧ (z = .non ∨ ∃ tk, Pls told tk ∧ z = .lst (tk.map fun s : Nat => .int s)) := by
      rcases hd with rfl | ⟨tk, h1, rfl⟩
      · exact ⟨_, rfl, .inl rfl⟩
      · exact ⟨_, rfl, .inr ⟨tk, h1, rfl⟩⟩
    clear hd
    refine ⟨_, _, _, _, _, R7, ?_⟩
    (conv => whnf)
    refine ⟨_, at_0, ?_⟩
    intro F8 H8 σ8 R8
    clear R7
    refine ⟨_, _, _, _, _, R8, ?_⟩
    (conv => whnf)
    refine wpLc_rel (fun s : Nat => D.int s) (fun r : List Int => D.lst (r.map .int)) (PR w) st [] (by have := pst.1; show 0 + st.length ≤ _; omega) (fun s hs N M hN => ?_) fun rws h1 h2 => ?_
    · (conv => whnf)
      obtain ⟨ns, ht, hp⟩ := pr_told tok pst hs
      refine ⟨_, at_1, ?_⟩
      exact ⟨_, told_at ht, hN _ hp⟩
    have pn0 : PN w st rws := ⟨pst.1, h1, h2⟩
    intro F9 H9 σ9 R9
    clear R8
    refine cut_vs R9 fun T hT => ?_
    suffices hA : ∀ pls rws, PN w pls rws → T [.no, .im .tok, .im (eV v), .im (eView v), .im (.int r), .im (eV w), .im (.lst [.lst (st.map fun s : Nat => .int s), .lst (told.map eON), z7]), .im (.lst (pls.map fun s : Nat => .int s)), .im (eRows rws), .no, .no, .no, .no, .no, .no, .no, .no] by
      (conv => whnf)
      refine ⟨_, at_2, ?_⟩
      rcases hz7 with rfl | ⟨tk, ptk, rfl⟩
      · exact hA _ _ pn0
      · refine ⟨_, at_2, ?_⟩
        (conv => whnf)
        refine wpLc_rel (fun s : Nat => D.int s) (fun r : List Int => D.lst (r.map .int)) (PR w) tk [] (by have := ptk.1; show 0 + tk.length ≤ _; omega) (fun s hs N M hN => ?_) fun rws h1 h2 => ?_
        · (conv => whnf)
          obtain ⟨ns, ht, hp⟩ := pr_told tok ptk hs
          refine ⟨_, at_1, ?_⟩
          exact ⟨_, told_at ht, hN _ hp⟩
        exact hA _ _ ⟨ptk.1, h1, h2⟩
    rw [hT]
    clear hT T R9 pst tok hz7 pn0 h1 h2 rws
    intro pls rws pn
    intro F10 H10 σ10 R10
    refine cut_vs R10 fun T hT => ?_
    suffices hA : ∀ pls rws, PN w pls rws → T [.no, .im .tok, .im (eV v), .im (eView v), .im (.int r), .im (eV w), .im (.lst [.lst (st.map fun s : Nat => .int s), .lst (told.map eON), z7]), .im (.lst (pls.map fun s : Nat => .int s)), .im (eRows rws), .no, .no, .no, .no, .no, .no, .no, .no] by
      (conv => whnf)
      refine ⟨pl_eLn pls, (fun d hd => absurd hd List.not_mem_nil), ?_⟩
      suffices hB : _ by
        refine ⟨fun _ => hB, fun _ => ?_⟩
        (conv => whnf)
        refine ⟨(6 : Int), rfl, by show (6 : Int) < _; omega, ?_⟩
        rintro _ ⟨x, rfl, _⟩
        exact ⟨fun _ => hB, fun _ => hA _ _ pn⟩
      dsimp only
      rw [if_pos rfl, if_pos rfl]
      refine cut_T fun T2 hT2 => ?_
      suffices hC : ∀ ps : List Nat, ps.length ≤ 8 → (∀ s ∈ ps, s ≤ w.up.length) → T2 [.no, .im .tok, .im (eV v), .im (eView v), .im (.int r), .im (eV w), .im (.lst [.lst (st.map fun s : Nat => .int s), .lst (told.map eON), z7]), .im (.lst (ps.map fun s : Nat => .int s)), .im (eRows rws), .no, .no, .no, .no, .no, .no, .no, .no] by
        (conv => whnf)
        refine ⟨fun hr0 => ?_, fun _ => hC [] (Nat.zero_le _) fun s hs => absurd hs List.not_mem_nil⟩
        (conv => whnf)
        refine ⟨by unfold small; omega, ?_⟩
        refine wpLc_relD (fun s : Nat => D.int s) (fun _ s => s < r) _ (by show 3 ≤ 1000000; omega) (fun x hx N M hN => ?_) fun ys h1 h2 => ?_
        · (conv => whnf)
          refine ⟨(r : Int), rfl, by show (r : Int) < _; omega, ?_⟩
          rintro _ ⟨x, rfl, hx⟩
          have hx := dr_lt hx (by show (0 : Int) < r; exact hr0)
          have hx : (x : Int) < r := hx
          exact hN x (by omega)
        have h1 : ys.length = 3 := h1
        refine ⟨ys.map fun s : Nat => (s : Int), by rw [List.map_map] <;> rfl, by rw [List.length_map]; omega, fun ms hm1 hm2 => ?_⟩
        have hm3 : ∀ k ∈ ms, ∃ s : Nat, k = s ∧ s < r := fun k hk => by
          obtain ⟨s, hs, rfl⟩ := List.mem_map.mp (hm2 k hk)
          obtain ⟨i, hi, rfl⟩ := List.mem_iff_getElem.mp hs
          exact ⟨_, rfl, h2 i _ _ (List.getElem?_eq_getElem (by show i < 3; omega)) (List.getElem?_eq_getElem hi)⟩
        rw [List.length_map] at hm1
        have e : ms.map D.int = (ms.map Int.toNat).map fun s : Nat => D.int s := by
          rw [List.map_map]
          refine List.map_congr_left fun k hk => ?_
          obtain ⟨s, rfl, _⟩ := hm3 k hk
          rfl
        rw [e]
        refine hC _ (by rw [List.length_map]; omega) fun s hs => ?_
        obtain ⟨k, hk, rfl⟩ := List.mem_map.mp hs
        obtain ⟨s, rfl, h⟩ := hm3 k hk
        show s ≤ _
        omega
      intro ps hp1 hp2
      rw [hT2]
      clear hT2 T2
      (conv => whnf)
      refine wpLc_rel (fun s : Nat => D.int s) (fun r : List Int => D.lst (r.map .int)) (PR w) ps [] (by show 0 + ps.length ≤ _; omega) (fun s hs N M hN => ?_) fun rws h1 h2 => hA _ _ ⟨hp1, h1, h2⟩
      (conv => whnf)
      obtain ⟨xs, hx1, hx2⟩ := lvs_any (v := w) (hp2 s hs)
      refine ⟨_, at_of hx1, ?_⟩
      have hx3 := (gw.szb (hp2 s hs)).2
      refine wpLc_relD D.int (fun _ n => n.natAbs < 3) xs (by omega) (fun x hx N M hN => ?_) fun ks hk1 hk2 => ?_
      · (conv => whnf)
        refine ⟨(2 : Int), rfl, by show (2 : Int) < _; omega, ?_⟩
        rintro _ ⟨x, rfl, hx⟩
        have hx := dr_lt hx (by show (0 : Int) < 2; omega)
        have hx : (x : Int) < 2 := hx
        exact hN _ (by omega)
      refine hN ks ⟨hp2 s hs, by omega, fun n hn => ?_⟩
      obtain ⟨i, hi, rfl⟩ := List.mem_iff_getElem.mp hn
      exact Nat.lt_of_lt_of_le (Nat.lt_succ_of_lt (hk2 i _ _ (List.getElem?_eq_getElem (by omega)) (List.getElem?_eq_getElem hi))) (Nat.pow_le_pow_right (n := 2) (i := 2) (j := 7400) (by decide) (by decide))
    rw [hT]
    clear hT T R10 pn rws pls
    intro pls rws pn F11 H11 σ11 R11
    refine ⟨_, _, _, _, _, R11, ?_⟩
    (conv => whnf)
    intro F12 H12 σ12 R12
    clear R11
    refine ⟨_, _, _, _, _, R12, ?_⟩
    (conv => whnf)
    refine ⟨(4 : Int), rfl, by show (4 : Int) < _; omega, ?_⟩
    rintro _ ⟨h0, rfl, _⟩
    (conv => whnf)
    intro F13 H13 σ13 R13
    clear R12
    refine cut_vs R13 fun T hT => ?_
    suffices hA : ∀ (cs : List Cn) (ho : Int), cs.length ≤ 4 → T [.no, .im .tok, .im (eV v), .im (eView v), .im (.int r), .im (eV w), .im (.lst [.lst (st.map fun s : Nat => .int s), .lst (told.map eON), z7]), .im (.lst (pls.map fun s : Nat => .int s)), .im (eRows rws), .no, .no, .no, .im (.tup (cs.map eC)), .im (.int ho), .no, .no, .no] by
      (conv => whnf)
      refine ⟨pl_eLn pls, (fun d hd => absurd hd List.not_mem_nil), ?_⟩
      refine ⟨fun hne => ?_, fun _ => hA [] _ (Nat.zero_le _)⟩
      obtain ⟨s0, pl', rfl⟩ : ∃ s0 pl', pls = s0 :: pl' := by
        cases pls with
        | nil => exact absurd rfl hne
        | cons a b => exact ⟨a, b, rfl⟩
      obtain ⟨r0, rw', rfl⟩ : ∃ r0 rw', rws = r0 :: rw' := by
        have := pn.rl
        cases rws with
        | nil => cases this
        | cons a b => exact ⟨a, b, rfl⟩
      obtain ⟨p1, p2, p3⟩ := pn.pr 0 s0 r0 rfl rfl
      (conv => whnf)
      refine ⟨_, at_0, _, at_0, ?_⟩
      (conv => whnf)
      refine ⟨(w, s0, r0), rfl, ⟨gw, p1, p2⟩, ?_⟩
      rintro _ rfl
      (conv => whnf)
      refine ⟨_, at_0, ?_⟩
      refine ⟨r0, rfl, ?_⟩
      refine hA _ _ ?_
      show ((cntN w s0 r0 r0.length).mergeSort cle).length ≤ 4
      rw [List.length_mergeSort]
      have := cntN_len w s0 r0 r0.length
      have := (gw.szb p1).2
      omega
    rw [hT]
    clear hT T R13
    intro cs ho hcs F14 H14 σ14 R14
    refine cut_S fun T hT => ?_
    obtain ⟨v1, h1, q1⟩ := R14.get (i := 1) rfl
    obtain ⟨v2, h2, q2⟩ := R14.get (i := 2) rfl
    obtain ⟨v3, h3, q3⟩ := R14.get (i := 3) rfl
    obtain ⟨v4, h4, q4⟩ := R14.get (i := 4) rfl
    obtain ⟨vc, h12, q12⟩ := R14.get (i := 12) rfl
    obtain ⟨v13, h13, q13⟩ := R14.get (i := 13) rfl
    obtain ⟨d', rfl, e1⟩ := q1
    cases e1
    cases q4
    cases q13
    have hlen : σ14.length = 17 := R14.len
    have k14 := R14.ok
    refine ⟨_, h4, ?_⟩
    refine ⟨some d, _, _, _, _, fun ds => ds = pls.map fun s : Nat => .int s, R14, rfl, fun F1 H1' ap ds vs e1 k1 n1 f1 g1 r1 hd => ?_⟩
    subst hd
    have R15 := R14.step e1 k1
    refine ⟨some d, _, _, _, _, fun rss => rss = rws.map fun r : List Int => r.map D.int, R15, ?_, fun F2 H2' ar as rss e2 k2 hn nd g2 hl hw hq => ?_⟩
    · (conv => whnf)
      refine ⟨by rw [List.length_map, pn.rl]; have := pn.le; omega, rws.map fun r => r.map D.int, by rw [List.length_map, List.length_map], fun i x rs h1 h2 => ?_, rfl⟩
      rw [List.getElem?_map] at h1 h2
      cases e : rws[i]? with
      | none =>
        rw [e] at h1
        cases h1
      | some r0 =>
        rw [e] at h1 h2
        cases h1
        cases h2
        (conv => whnf)
    subst hq
    refine ⟨_, h13, _, h12, ?_⟩
    refine ⟨line_le (show 5 ≤ 1000000 by decide), fun b hb => ?_⟩
    have ei : ∀ {xs : List Nat}, (xs.map fun s : Nat => D.int s) = (xs.map fun s : Nat => (s : Int)).map D.int := fun {xs} => by rw [List.map_map] <;> rfl
    rw [ei] at r1
    have r1 := rep_ints r1
    subst r1
    have hl : as.length = rws.length := by rw [hl, List.length_map]
    obtain ⟨k3, D3⟩ := dat_make (cs := cs) (r := (r : Nat)) (ho := ho) (rws := rws) k14 k2 e1 e2 n1 f1 g1 hn nd g2 hl (fun i x xs h1 h2 => by
      obtain ⟨ws, g, rr⟩ := hw i x (xs.map D.int) h1 (by rw [List.getElem?_map, h2] <;> rfl)
      rw [rep_ints rr] at g
      exact g) hb (rep_none q12)
    have b4 : Bd4 0 (⟨(r : Nat), pls.map fun s : Nat => (s : Int), rws, ho, cs⟩ : Pap) := by
      have hl0 := pn.le
      have hl1 := pn.rl
      refine ⟨?_, ?_, ?_, fun x hx => ?_⟩
      · show (pls.map _).length ≤ _
        rw [List.length_map]
        omega
      · show rws.length ≤ _
        omega
      · show cs.length ≤ _
        omega
      · have hx : x ∈ rws := hx
        obtain ⟨j, hj, rfl⟩ := List.mem_iff_getElem.mp hx
        obtain ⟨p1, p2, p3⟩ := pn.pr j _ rws[j] (List.getElem?_eq_getElem (by omega)) (List.getElem?_eq_getElem hj)
        have := (gw.szb p1).2
        exact ⟨by omega, fun n hn => Nat.lt_of_lt_of_le (p3 n hn) (Nat.pow_le_pow_right (n := 2) (i := 7400) (j := 7500) (by decide) (by decide))⟩
    have I0 : Iv K _ H14 d b ap ar v v2 v3 0 (σ14.set 14 (some (.ref b))) (upd H2' b (.lst [.int (r : Nat), .ref ap, .ref ar, .int ho, vc])) :=
      ⟨⟨_, _, _, _, k3, D3, b4⟩, by rw [List.length_set]; exact hlen, by rw [List.getElem?_set_ne (by decide)]; exact h1, by rw [List.getElem?_set_ne (by decide)]; exact h2, by rw [List.getElem?_set_ne (by decide)]; exact h3, List.getElem?_set_self (by omega), rep_free _ _ (nt_eV v) q2, rep_free _ _ (nt_eView v) q3⟩
    show T (σ14.set 14 (some (.ref b))) _
    generalize σ14.set 14 (some (V.ref b)) = σ at I0
    generalize upd H2' b (.lst [.int (r : Nat), .ref ap, .ref ar, .int ho, vc]) = H15 at I0
    rw [hT]
    clear hT T D3 k3 hw hl hb g2 nd hn k2 e2 g1 f1 n1 k1 e1 R15 k14 hlen h13 q12 h12 h4 h3 h2 h1 q2 q3 R14 b4
    refine cut_S fun T hT => ?_
    refine rvt_test gv fv.top I0 (Nat.zero_le _) fun H16 I1 => ?_
    show T σ H16
    rw [hT]
    clear hT T I0
    refine cut_S fun T hT => ?_
    have hE : ∀ FB i σ H, Iv K FB H14 d b ap ar v v2 v3 i σ H → T σ H := fun FB i σ H I => by
      obtain ⟨F5, rs5, vc5, p5, k5, D5, b5⟩ := I.ex
      have R5 := (((rel_no (K := K) (dA := none) ⟨k5.sub, fun _ z => nomatch z⟩ I.len).setAt 2 I.s2 (Rep.mono D5.sf _ _ I.r2)).setAt 3 I.s3 (Rep.mono D5.sf _ _ I.r3))
      rw [hT]
      clear hT
      refine ⟨none, _, _, _, _, fun x => x = .bl true, R5, ?_, fun F6 H6 x u e6 k6 r6 hx => ?_⟩
      · (conv => whnf)
        exact ⟨rfl, _, rfl, pl_eV v, pl_eV v, fun _ => rfl, fun z => absurd rfl z⟩
      · subst hx
        cases r6
        exact q H6
    obtain ⟨F5, rs5, vc5, p5, k5, D5, b5⟩ := I1.ex
    have R5 := (rel_no (K := K) (dA := some d) k5 I1.len).setAt 1 I1.s1 (d := .tok) ⟨d, rfl, rfl⟩
    refine ⟨some d, _, _, _, _, fun ds => ds.length ≤ 2, R5, ?_, fun F6 H6 ds e6 k6 hds => ?_⟩
    · (conv => whnf)
      refine ⟨(3 : Int), rfl, by show (3 : Int) < _; omega, ?_⟩
      rintro _ ⟨x, rfl, hx⟩
      have hx := dr_lt hx (by show (0 : Int) < 3; omega)
      have hx : (x : Int) < 3 := hx
      (conv => whnf)
      refine ⟨by unfold small; omega, ?_⟩
      show (rng 0 _).length ≤ 2
      rw [show ((x : Nat) : Int).toNat = x by omega]
      unfold rng
      rw [List.length_map, List.length_range]
      omega
    refine ⟨fun i σ H => i ≤ ds.length ∧ Iv K F6 H14 d b ap ar v v2 v3 i σ H, ⟨Nat.zero_le _, ?_⟩, fun i σ2 H2 ⟨hi, J⟩ => ⟨hi, ?_⟩⟩
    · have D6 := D5.ext e6
      exact ⟨⟨F6, _, _, _, k6, { D6 with sf := Same.refl F6 }, b5⟩, I1.len, I1.s1, I1.s2, I1.s3, I1.s14, Rep.mono (D5.sf.trans e6.ff) _ _ I1.r2, Rep.mono (D5.sf.trans e6.ff) _ _ I1.r3⟩
    obtain ⟨F7, rs, vc, p, k7, D7, b7⟩ := J.ex
    refine ⟨F7, D7.sf, k7, fun _ => hE _ _ _ _ J, fun hlt F8 H8 dd vv e8 k8 _ _ => ?_⟩
    have D8 := D7.ext e8
    obtain ⟨a2, ws, rfl, g2, r2⟩ := Rep.mono D8.sf _ _ J.r2
    have J1 : (σ2.set 16 (some vv))[1]? = some (some (V.ref d)) := by rw [List.getElem?_set_ne (by decide)]; exact J.s1
    have J2 : (σ2.set 16 (some vv))[2]? = some (some (V.ref a2)) := by rw [List.getElem?_set_ne (by decide)]; exact J.s2
    have J3 : (σ2.set 16 (some vv))[3]? = some (some v3) := by rw [List.getElem?_set_ne (by decide)]; exact J.s3
    have J14 : (σ2.set 16 (some vv))[14]? = some (some (V.ref b)) := by rw [List.getElem?_set_ne (by decide)]; exact J.s14
    have hws : ws.length = v.up.length + 1 := by rw [r2.length]; exact lvs_len v
    refine ⟨_, J1, _, J14, _, J2, a2, ws, rfl, .inr (sqT_of k8.sub g2), ?_⟩
    refine ⟨F6, H14, F8, d, b, ap, ar, rs, vc, p, i, _, rfl, k8, D8, b7, by omega, by omega, by omega, fun F9 H9 rs9 vc9 p9 k9 D9 b9 => ?_⟩
    refine rvt_test gv fv.top (i := i + 1) (FB := F6) ⟨⟨F9, rs9, vc9, p9, k9, D9, b9⟩, by rw [List.length_set]; exact J.len, J1, J2, J3, J14, J.r2, J.r3⟩ (by omega) fun H10 I2 => ?_
    exact ⟨by omega, I2⟩
end LV
set_option Elab.async false
set_option linter.all false
set_option maxRecDepth 100000
set_option maxHeartbeats 0
/-! Fin: the law. -/
namespace LV
open PySem PySem.Spec PyProof.Rows L2
theorem law_ok {P : Program} {w : World} {K : PySem.W.Frag} {h : Heap} {mg : Str → Option Value} {f : Addr} (X : K.In h) (G : h.Ns mainGlobals mg) (hfa : mg ("law" : Str) = some (.ref f)) (c : HH.obsM2 K = He.valD HH.fn) :
    ∃ fd : FuncData, (∀ (s : Shared) (v : Value), BindsTo s fd ⟨[v], []⟩ [("_law_script", v)]) ∧ ∀ base : Heap, FnOk P w K mg base CX0 11 f fd ["_law_script"] (spLaw K) := by
  obtain ⟨W, IC⟩ := wd_ok X G c
  obtain ⟨fd, F⟩ := W.df 78 HH.d_law rfl
  have e1 : HH.d_law.dvs K = [] := rfl
  have e2 : HH.d_law.kws K = [] := rfl
  rw [e1, e2] at F
  have e := hfa.symm.trans (W.glo 68 "law" rfl)
  cases e
  have b := FunD.bindsA (ps := ["_law_script"]) F fun _ _ _ _ _ _ us hl => match us, hl with | [_], _ => rfl
  exact ⟨fd, fun s v => b s [v] rfl, fun base => f_law W IC F⟩
end LV
open PySem PySem.W PySem.Calls PyProof.Rows
theorem PySem.Challenge.cw_headsheard_k32_whole_each_spoiled_paper_holds : PySem.Challenge.rw_headsheard_k32_whole_each_spoiled_paper.Holds := by
  w_on; o_law
  refine HeadRun.head_imp (r := HH.R) (q := HH.qv) (H := HH.hk2) (ob := HH.ob2) (M := 9000) (loose := HH.loose) (d := HeadRun.topDef HH.R.prog 92) (kwd := []) HH.ob2_eq HH.run
    (by kernel_rfl) (by kernel_rfl) (by kernel_rfl) (by rfl) (by first | assumption | decide +kernel) (by decide +kernel) ⟨rfl, rfl, rfl, rfl, rfl, by decide +kernel⟩ ?hw ?hc
  case hw => w_witness2
  case hc =>
    refine L2.walk_ofE (l := PySem.Challenge.rw_headsheard_k32_whole_each_spoiled_paper) (n := 63) (k := 11) (x := "_law_script") (CX := L2.CX0) rfl (by decide) (by kernel_rfl) ⟨rfl, by decide, by decide⟩ ?F (fun _ _ _ _ z => z)
    intro w mg fa h Y G hmg0
    obtain ⟨K, KX, c⟩ := Y
    have hmg : mg ("law" : PySem.Str) = some (.ref fa) := by
      have e : (HeadRun.topDef HH.R.prog 92).name = ("law" : PySem.Str) := by kernel_rfl
      rw [← e]
      exact hmg0
    obtain ⟨fd, hb, hF⟩ := LV.law_ok (P := (PySem.Challenge.rw_headsheard_k32_whole_each_spoiled_paper).prog) (w := w) KX G hmg c
    exact ⟨K, fd, LV.spLaw K, KX, hb, fun H a ns hl _ hS => ⟨a, ns, rfl, hS, fun _ => rfl⟩, fun base _ _ => hF base⟩
