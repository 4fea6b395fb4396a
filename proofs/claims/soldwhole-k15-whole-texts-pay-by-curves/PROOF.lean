import PyProof.Rows.All
import Wide.All
import OpenK.AllK
import Wide.FinOn
import KE.KStateDown
import HandS.ForMost
import HandS.HeadHook4
import HandS.Head0
import HandS.Head1
import HandS.Head2
import HandS.HeadEnd
import HandS.Wide
import HandS.Star
import HandS.TupAny
import HandS.Deep
import HandS.Style
import HandS.IsInst
import HandS.Strs
import HandS.Evl
import KE.GoesMore
import HandS.SetFor
import KE.SortData
import HandS.TupLe
import HandS.SortOrd
import HandS.Codes
import PyProof.ReprLen
import PyProof.StrLawsRepr
import PyProof.Rows.ReprR
import PySem.Challenge.RW_soldwhole_k15_whole_texts_pay_by_curves
set_option Elab.async false
set_option linter.all false
set_option maxRecDepth 100000
set_option maxHeartbeats 200000
/-! the text by places -/
namespace SwT
open PySem L2
def top (i : Nat) : Stmt := PySem.Challenge.pw_soldwhole_k15_whole_texts_pay_by_curves.main.body.getD i (.Pass ⟨0, 0, 0, 0⟩)
abbrev s_common_divisor : Stmt := top 1
abbrev s_reduced : Stmt := top 2
abbrev s_added : Stmt := top 3
abbrev s_lessened : Stmt := top 4
abbrev s_times : Stmt := top 5
abbrev s_over : Stmt := top 6
abbrev s_compared : Stmt := top 7
abbrev s_least_of : Stmt := top 8
abbrev s_total : Stmt := top 9
abbrev s_fraction_text : Stmt := top 10
abbrev s_is_number_text : Stmt := top 11
abbrev s_fraction_in : Stmt := top 12
abbrev s_slope_between : Stmt := top 15
abbrev s_curve : Stmt := top 16
abbrev s_nothing : Stmt := top 17
abbrev s_in_order : Stmt := top 18
abbrev s_levels_of : Stmt := top 19
abbrev s_slope_behind : Stmt := top 20
abbrev s_pay_at : Stmt := top 21
abbrev s_rises_at : Stmt := top 22
abbrev s_added_up : Stmt := top 23
abbrev s_parting : Stmt := top 24
abbrev s_meetings : Stmt := top 25
abbrev s_greater_of : Stmt := top 26
abbrev s_greatest : Stmt := top 27
abbrev s_reached : Stmt := top 28
abbrev s_capped : Stmt := top 29
abbrev s_curve_of : Stmt := top 32
abbrev s_options_curve : Stmt := top 33
abbrev s_tidied : Stmt := top 34
abbrev s_tidy_cap : Stmt := top 35
abbrev s_tidy_sum : Stmt := top 36
abbrev s_tidy_options : Stmt := top 37
abbrev s_level_for : Stmt := top 39
abbrev s_is_integer : Stmt := top 45
abbrev s_is_name : Stmt := top 46
abbrev s_integer_in : Stmt := top 51
abbrev s_W_init : Stmt := inClass (top 52) 0
abbrev s_W_stop : Stmt := inClass (top 52) 1
abbrev s_W_word : Stmt := inClass (top 52) 2
abbrev s_W_taken : Stmt := inClass (top 52) 3
abbrev s_W_one_of : Stmt := inClass (top 52) 4
abbrev s_W_name : Stmt := inClass (top 52) 5
abbrev s_W_fraction : Stmt := inClass (top 52) 6
abbrev s_W_integer : Stmt := inClass (top 52) 7
abbrev s_W_end : Stmt := inClass (top 52) 8
abbrev s_claim_in : Stmt := top 53
abbrev s_firm_in : Stmt := top 54
abbrev s_holder_in : Stmt := top 55
abbrev s_read_web : Stmt := top 56
abbrev s__law_bag : Stmt := top 58
abbrev s__law_take : Stmt := top 59
abbrev s__law_mixed : Stmt := top 60
abbrev s__law_some : Stmt := top 61
abbrev s__law_common : Stmt := top 62
abbrev s__law_reduced : Stmt := top 63
abbrev s__law_number : Stmt := top 64
abbrev s__law_claim : Stmt := top 65
abbrev s__law_options : Stmt := top 66
abbrev s__law_firm_options : Stmt := top 67
abbrev s__law_leaves : Stmt := top 68
abbrev s__law_within : Stmt := top 69
abbrev s__law_web : Stmt := top 70
abbrev s__law_number_text : Stmt := top 71
abbrev s__law_words : Stmt := top 72
abbrev s__law_web_text : Stmt := top 73
abbrev s__law_alike : Stmt := top 74
abbrev s__law_is_below : Stmt := top 75
abbrev s__law_ascending : Stmt := top 76
abbrev s__law_levels : Stmt := top 77
abbrev s__law_multiplied : Stmt := top 78
abbrev s__law_added : Stmt := top 79
abbrev s__law_some_levels : Stmt := top 80
abbrev s__law_lesser : Stmt := top 81
abbrev s__law_greater : Stmt := top 82
abbrev s__law_lessened : Stmt := top 83
abbrev s__law_total : Stmt := top 84
abbrev s__law_pay : Stmt := top 85
abbrev s_law : Stmt := top 86
def d_common_divisor : He.DefD := ⟨("common_divisor", none), "common_divisor", "common_divisor", defArgs s_common_divisor, defBody s_common_divisor, defScope s_common_divisor, [], []⟩
def d_reduced : He.DefD := ⟨("reduced", none), "reduced", "reduced", defArgs s_reduced, defBody s_reduced, defScope s_reduced, [], []⟩
def d_added : He.DefD := ⟨("added", none), "added", "added", defArgs s_added, defBody s_added, defScope s_added, [], []⟩
def d_lessened : He.DefD := ⟨("lessened", none), "lessened", "lessened", defArgs s_lessened, defBody s_lessened, defScope s_lessened, [], []⟩
def d_times : He.DefD := ⟨("times", none), "times", "times", defArgs s_times, defBody s_times, defScope s_times, [], []⟩
def d_over : He.DefD := ⟨("over", none), "over", "over", defArgs s_over, defBody s_over, defScope s_over, [], []⟩
def d_compared : He.DefD := ⟨("compared", none), "compared", "compared", defArgs s_compared, defBody s_compared, defScope s_compared, [], []⟩
def d_least_of : He.DefD := ⟨("least_of", none), "least_of", "least_of", defArgs s_least_of, defBody s_least_of, defScope s_least_of, [], []⟩
def d_total : He.DefD := ⟨("total", none), "total", "total", defArgs s_total, defBody s_total, defScope s_total, [], []⟩
def d_fraction_text : He.DefD := ⟨("fraction_text", none), "fraction_text", "fraction_text", defArgs s_fraction_text, defBody s_fraction_text, defScope s_fraction_text, [], []⟩
def d_is_number_text : He.DefD := ⟨("is_number_text", none), "is_number_text", "is_number_text", defArgs s_is_number_text, defBody s_is_number_text, defScope s_is_number_text, [], []⟩
def d_fraction_in : He.DefD := ⟨("fraction_in", none), "fraction_in", "fraction_in", defArgs s_fraction_in, defBody s_fraction_in, defScope s_fraction_in, [], []⟩
def d_slope_between : He.DefD := ⟨("slope_between", none), "slope_between", "slope_between", defArgs s_slope_between, defBody s_slope_between, defScope s_slope_between, [], []⟩
def d_curve : He.DefD := ⟨("curve", none), "curve", "curve", defArgs s_curve, defBody s_curve, defScope s_curve, [], []⟩
def d_nothing : He.DefD := ⟨("nothing", none), "nothing", "nothing", defArgs s_nothing, defBody s_nothing, defScope s_nothing, [], []⟩
def d_in_order : He.DefD := ⟨("in_order", none), "in_order", "in_order", defArgs s_in_order, defBody s_in_order, defScope s_in_order, [], []⟩
def d_levels_of : He.DefD := ⟨("levels_of", none), "levels_of", "levels_of", defArgs s_levels_of, defBody s_levels_of, defScope s_levels_of, [], []⟩
def d_slope_behind : He.DefD := ⟨("slope_behind", none), "slope_behind", "slope_behind", defArgs s_slope_behind, defBody s_slope_behind, defScope s_slope_behind, [], []⟩
def d_pay_at : He.DefD := ⟨("pay_at", none), "pay_at", "pay_at", defArgs s_pay_at, defBody s_pay_at, defScope s_pay_at, [], []⟩
def d_rises_at : He.DefD := ⟨("rises_at", none), "rises_at", "rises_at", defArgs s_rises_at, defBody s_rises_at, defScope s_rises_at, [], []⟩
def d_added_up : He.DefD := ⟨("added_up", none), "added_up", "added_up", defArgs s_added_up, defBody s_added_up, defScope s_added_up, [], []⟩
def d_parting : He.DefD := ⟨("parting", none), "parting", "parting", defArgs s_parting, defBody s_parting, defScope s_parting, [], []⟩
def d_meetings : He.DefD := ⟨("meetings", none), "meetings", "meetings", defArgs s_meetings, defBody s_meetings, defScope s_meetings, [], []⟩
def d_greater_of : He.DefD := ⟨("greater_of", none), "greater_of", "greater_of", defArgs s_greater_of, defBody s_greater_of, defScope s_greater_of, [], []⟩
def d_greatest : He.DefD := ⟨("greatest", none), "greatest", "greatest", defArgs s_greatest, defBody s_greatest, defScope s_greatest, [], []⟩
def d_reached : He.DefD := ⟨("reached", none), "reached", "reached", defArgs s_reached, defBody s_reached, defScope s_reached, [], []⟩
def d_capped : He.DefD := ⟨("capped", none), "capped", "capped", defArgs s_capped, defBody s_capped, defScope s_capped, [], []⟩
def d_curve_of : He.DefD := ⟨("curve_of", none), "curve_of", "curve_of", defArgs s_curve_of, defBody s_curve_of, defScope s_curve_of, [], []⟩
def d_options_curve : He.DefD := ⟨("options_curve", none), "options_curve", "options_curve", defArgs s_options_curve, defBody s_options_curve, defScope s_options_curve, [], []⟩
def d_tidied : He.DefD := ⟨("tidied", none), "tidied", "tidied", defArgs s_tidied, defBody s_tidied, defScope s_tidied, [], []⟩
def d_tidy_cap : He.DefD := ⟨("tidy_cap", none), "tidy_cap", "tidy_cap", defArgs s_tidy_cap, defBody s_tidy_cap, defScope s_tidy_cap, [], []⟩
def d_tidy_sum : He.DefD := ⟨("tidy_sum", none), "tidy_sum", "tidy_sum", defArgs s_tidy_sum, defBody s_tidy_sum, defScope s_tidy_sum, [], []⟩
def d_tidy_options : He.DefD := ⟨("tidy_options", none), "tidy_options", "tidy_options", defArgs s_tidy_options, defBody s_tidy_options, defScope s_tidy_options, [], []⟩
def d_level_for : He.DefD := ⟨("level_for", none), "level_for", "level_for", defArgs s_level_for, defBody s_level_for, defScope s_level_for, [], []⟩
def d_is_integer : He.DefD := ⟨("is_integer", none), "is_integer", "is_integer", defArgs s_is_integer, defBody s_is_integer, defScope s_is_integer, [], []⟩
def d_is_name : He.DefD := ⟨("is_name", none), "is_name", "is_name", defArgs s_is_name, defBody s_is_name, defScope s_is_name, [], []⟩
def d_integer_in : He.DefD := ⟨("integer_in", none), "integer_in", "integer_in", defArgs s_integer_in, defBody s_integer_in, defScope s_integer_in, [], []⟩
def d_W_init : He.DefD := ⟨("Words", some "__init__"), "__init__", "Words.__init__", defArgs s_W_init, defBody s_W_init, defScope s_W_init, [], []⟩
def d_W_stop : He.DefD := ⟨("Words", some "stop"), "stop", "Words.stop", defArgs s_W_stop, defBody s_W_stop, defScope s_W_stop, [], []⟩
def d_W_word : He.DefD := ⟨("Words", some "word"), "word", "Words.word", defArgs s_W_word, defBody s_W_word, defScope s_W_word, [], []⟩
def d_W_taken : He.DefD := ⟨("Words", some "taken"), "taken", "Words.taken", defArgs s_W_taken, defBody s_W_taken, defScope s_W_taken, [], []⟩
def d_W_one_of : He.DefD := ⟨("Words", some "one_of"), "one_of", "Words.one_of", defArgs s_W_one_of, defBody s_W_one_of, defScope s_W_one_of, [], []⟩
def d_W_name : He.DefD := ⟨("Words", some "name"), "name", "Words.name", defArgs s_W_name, defBody s_W_name, defScope s_W_name, [], []⟩
def d_W_fraction : He.DefD := ⟨("Words", some "fraction"), "fraction", "Words.fraction", defArgs s_W_fraction, defBody s_W_fraction, defScope s_W_fraction, [], []⟩
def d_W_integer : He.DefD := ⟨("Words", some "integer"), "integer", "Words.integer", defArgs s_W_integer, defBody s_W_integer, defScope s_W_integer, [], []⟩
def d_W_end : He.DefD := ⟨("Words", some "end"), "end", "Words.end", defArgs s_W_end, defBody s_W_end, defScope s_W_end, [], []⟩
def d_claim_in : He.DefD := ⟨("claim_in", none), "claim_in", "claim_in", defArgs s_claim_in, defBody s_claim_in, defScope s_claim_in, [], []⟩
def d_firm_in : He.DefD := ⟨("firm_in", none), "firm_in", "firm_in", defArgs s_firm_in, defBody s_firm_in, defScope s_firm_in, [], []⟩
def d_holder_in : He.DefD := ⟨("holder_in", none), "holder_in", "holder_in", defArgs s_holder_in, defBody s_holder_in, defScope s_holder_in, [], []⟩
def d_read_web : He.DefD := ⟨("read_web", none), "read_web", "read_web", defArgs s_read_web, defBody s_read_web, defScope s_read_web, [], []⟩
def d__law_bag : He.DefD := ⟨("_law_bag", none), "_law_bag", "_law_bag", defArgs s__law_bag, defBody s__law_bag, defScope s__law_bag, [], []⟩
def d__law_take : He.DefD := ⟨("_law_take", none), "_law_take", "_law_take", defArgs s__law_take, defBody s__law_take, defScope s__law_take, [], []⟩
def d__law_mixed : He.DefD := ⟨("_law_mixed", none), "_law_mixed", "_law_mixed", defArgs s__law_mixed, defBody s__law_mixed, defScope s__law_mixed, [], []⟩
def d__law_some : He.DefD := ⟨("_law_some", none), "_law_some", "_law_some", defArgs s__law_some, defBody s__law_some, defScope s__law_some, [], []⟩
def d__law_common : He.DefD := ⟨("_law_common", none), "_law_common", "_law_common", defArgs s__law_common, defBody s__law_common, defScope s__law_common, [], []⟩
def d__law_reduced : He.DefD := ⟨("_law_reduced", none), "_law_reduced", "_law_reduced", defArgs s__law_reduced, defBody s__law_reduced, defScope s__law_reduced, [], []⟩
def d__law_number : He.DefD := ⟨("_law_number", none), "_law_number", "_law_number", defArgs s__law_number, defBody s__law_number, defScope s__law_number, [], []⟩
def d__law_claim : He.DefD := ⟨("_law_claim", none), "_law_claim", "_law_claim", defArgs s__law_claim, defBody s__law_claim, defScope s__law_claim, [], []⟩
def d__law_options : He.DefD := ⟨("_law_options", none), "_law_options", "_law_options", defArgs s__law_options, defBody s__law_options, defScope s__law_options, [], []⟩
def d__law_firm_options : He.DefD := ⟨("_law_firm_options", none), "_law_firm_options", "_law_firm_options", defArgs s__law_firm_options, defBody s__law_firm_options, defScope s__law_firm_options, [], []⟩
def d__law_leaves : He.DefD := ⟨("_law_leaves", none), "_law_leaves", "_law_leaves", defArgs s__law_leaves, defBody s__law_leaves, defScope s__law_leaves, [], []⟩
def d__law_within : He.DefD := ⟨("_law_within", none), "_law_within", "_law_within", defArgs s__law_within, defBody s__law_within, defScope s__law_within, [], []⟩
def d__law_web : He.DefD := ⟨("_law_web", none), "_law_web", "_law_web", defArgs s__law_web, defBody s__law_web, defScope s__law_web, [], []⟩
def d__law_number_text : He.DefD := ⟨("_law_number_text", none), "_law_number_text", "_law_number_text", defArgs s__law_number_text, defBody s__law_number_text, defScope s__law_number_text, [], []⟩
def d__law_words : He.DefD := ⟨("_law_words", none), "_law_words", "_law_words", defArgs s__law_words, defBody s__law_words, defScope s__law_words, [], []⟩
def d__law_web_text : He.DefD := ⟨("_law_web_text", none), "_law_web_text", "_law_web_text", defArgs s__law_web_text, defBody s__law_web_text, defScope s__law_web_text, [], []⟩
def d__law_alike : He.DefD := ⟨("_law_alike", none), "_law_alike", "_law_alike", defArgs s__law_alike, defBody s__law_alike, defScope s__law_alike, [], []⟩
def d__law_is_below : He.DefD := ⟨("_law_is_below", none), "_law_is_below", "_law_is_below", defArgs s__law_is_below, defBody s__law_is_below, defScope s__law_is_below, [], []⟩
def d__law_ascending : He.DefD := ⟨("_law_ascending", none), "_law_ascending", "_law_ascending", defArgs s__law_ascending, defBody s__law_ascending, defScope s__law_ascending, [], []⟩
def d__law_levels : He.DefD := ⟨("_law_levels", none), "_law_levels", "_law_levels", defArgs s__law_levels, defBody s__law_levels, defScope s__law_levels, [], []⟩
def d__law_multiplied : He.DefD := ⟨("_law_multiplied", none), "_law_multiplied", "_law_multiplied", defArgs s__law_multiplied, defBody s__law_multiplied, defScope s__law_multiplied, [], []⟩
def d__law_added : He.DefD := ⟨("_law_added", none), "_law_added", "_law_added", defArgs s__law_added, defBody s__law_added, defScope s__law_added, [], []⟩
def d__law_some_levels : He.DefD := ⟨("_law_some_levels", none), "_law_some_levels", "_law_some_levels", defArgs s__law_some_levels, defBody s__law_some_levels, defScope s__law_some_levels, [], []⟩
def d__law_lesser : He.DefD := ⟨("_law_lesser", none), "_law_lesser", "_law_lesser", defArgs s__law_lesser, defBody s__law_lesser, defScope s__law_lesser, [], []⟩
def d__law_greater : He.DefD := ⟨("_law_greater", none), "_law_greater", "_law_greater", defArgs s__law_greater, defBody s__law_greater, defScope s__law_greater, [], []⟩
def d__law_lessened : He.DefD := ⟨("_law_lessened", none), "_law_lessened", "_law_lessened", defArgs s__law_lessened, defBody s__law_lessened, defScope s__law_lessened, [], []⟩
def d__law_total : He.DefD := ⟨("_law_total", none), "_law_total", "_law_total", defArgs s__law_total, defBody s__law_total, defScope s__law_total, [], []⟩
def d__law_pay : He.DefD := ⟨("_law_pay", none), "_law_pay", "_law_pay", defArgs s__law_pay, defBody s__law_pay, defScope s__law_pay, [], []⟩
def d_law : He.DefD := ⟨("law", none), "law", "law", defArgs s_law, defBody s_law, defScope s_law, [], []⟩
def fn0 : List He.DefD := [d_common_divisor, d_reduced, d_added, d_lessened, d_times, d_over, d_compared, d_least_of, d_total, d_fraction_text, d_is_number_text, d_fraction_in, d_slope_between, d_curve, d_nothing, d_in_order, d_levels_of, d_slope_behind, d_pay_at, d_rises_at, d_added_up, d_parting, d_meetings, d_greater_of, d_greatest, d_reached, d_capped, d_curve_of, d_options_curve, d_tidied, d_tidy_cap, d_tidy_sum, d_tidy_options, d_level_for, d_is_integer, d_is_name, d_integer_in, d_W_init, d_W_stop, d_W_word]
def fn1 : List He.DefD := [d_W_taken, d_W_one_of, d_W_name, d_W_fraction, d_W_integer, d_W_end, d_claim_in, d_firm_in, d_holder_in, d_read_web, d__law_bag, d__law_take, d__law_mixed, d__law_some, d__law_common, d__law_reduced, d__law_number, d__law_claim, d__law_options, d__law_firm_options, d__law_leaves, d__law_within, d__law_web, d__law_number_text, d__law_words, d__law_web_text, d__law_alike, d__law_is_below, d__law_ascending, d__law_levels, d__law_multiplied, d__law_added, d__law_some_levels, d__law_lesser, d__law_greater, d__law_lessened, d__law_total, d__law_pay, d_law]
def fn : List He.DefD := fn0 ++ fn1
def fa0 : List He.Fa := [.glo "common_divisor", .glo "reduced", .glo "added", .glo "lessened", .glo "times", .glo "over", .glo "compared", .glo "least_of", .glo "total", .glo "fraction_text", .glo "is_number_text", .glo "fraction_in", .glo "NOUGHT", .glo "slope_between", .glo "curve", .glo "nothing", .glo "in_order", .glo "levels_of", .glo "slope_behind", .glo "pay_at", .glo "rises_at", .glo "added_up", .glo "parting", .glo "meetings", .glo "greater_of", .glo "greatest", .glo "reached", .glo "capped", .glo "ZERO", .glo "curve_of", .glo "options_curve", .glo "tidied", .glo "tidy_cap", .glo "tidy_sum", .glo "tidy_options", .glo "level_for", .glo "is_integer", .glo "is_name", .glo "RANKLESS", .glo "integer_in"]
def fa1 : List He.Fa := [.glo "Words", .glo "claim_in", .glo "firm_in", .glo "holder_in", .glo "read_web", .glo "_law_bag", .glo "_law_take", .glo "_law_mixed", .glo "_law_some", .glo "_law_common", .glo "_law_reduced", .glo "_law_number", .glo "_law_claim", .glo "_law_options", .glo "_law_firm_options", .glo "_law_leaves", .glo "_law_within", .glo "_law_web", .glo "_law_number_text", .glo "_law_words", .glo "_law_web_text", .glo "_law_alike", .glo "_law_is_below", .glo "_law_ascending", .glo "_law_levels", .glo "_law_multiplied", .glo "_law_added", .glo "_law_some_levels", .glo "_law_lesser", .glo "_law_greater", .glo "_law_lessened", .glo "_law_total", .glo "_law_pay", .glo "law", .free "int", .free "abs", .free "len", .free "isinstance", .free "bool", .free "str"]
def fa2 : List He.Fa := [.free "all", .free "any", .free "tuple", .free "list", .free "sorted", .free "set", .free "enumerate", .free "max", .free "min", .free "sum", .free "range", .free "dict", .free "zip", .free "repr", .int "MOST_RANKS" 6, .str "LAST_NAME" "zzzzzzzzzzzz", .cls "Words", .noat "Words" "words", .noat "Words" "line", .noat "Words" "at", .meth "Words" "stop", .meth "Words" "word", .meth "Words" "taken", .meth "Words" "one_of", .meth "Words" "name", .meth "Words" "fraction", .meth "Words" "integer", .meth "Words" "end", .mkr "Words"]
def fa : List He.Fa := fa0 ++ fa1 ++ fa2
def ex (K : PySem.W.Frag) : Bool := He.tupB K "NOUGHT" [.int 0, .int 1] && (He.tupB K "ZERO" [.int 0, .int 1] && He.tupB K "RANKLESS" [.str "none", .str "shares", .str "option", .str "capped", .str "sum"])
end SwT
set_option maxHeartbeats 0
namespace SwT
open PySem L2 PySem.W PySem.Calls PyProof.Rows
abbrev R : PySem.W.OpenRow := PySem.W.OpenLaw.row PySem.Challenge.rw_soldwhole_k15_whole_texts_pay_by_curves
def adrs : List Nat := [3, 6, 238, 258, 277, 370, 0, 237, 257, 276, 369, 21, 28, 35, 42, 49, 56, 63, 70, 77, 84, 89, 94, 102, 109, 116, 121, 126, 133, 138, 143, 148, 155, 162, 169, 176, 181, 186, 192, 197] ++ [204, 211, 216, 221, 228, 286, 291, 297, 381, 388, 395, 402, 407, 414, 421, 428, 435, 442, 449, 454, 459, 464, 469, 476, 481, 488, 493, 498, 505, 512, 517, 522, 529, 536, 541, 548, 555, 562, 569, 574] ++ [579, 20, 27, 34, 41, 48, 55, 62, 69, 76, 83, 88, 93, 101, 108, 115, 120, 125, 132, 137, 142, 147, 154, 161, 168, 175, 180, 185, 191, 196, 203, 210, 215, 220, 227, 285, 290, 296, 380, 387] ++ [394, 401, 406, 413, 420, 427, 434, 441, 448, 453, 458, 463, 468, 475, 480, 487, 492, 497, 504, 511, 516, 521, 528, 535, 540, 547, 554, 561, 568, 573, 578, 95, 187, 292, 15, 17, 18, 22, 24, 25] ++ [29, 31, 32, 36, 38, 39, 43, 45, 46, 50, 52, 53, 57, 59, 60, 64, 66, 67, 71, 73, 74, 78, 80, 81, 85, 90, 96, 98, 99, 103, 105, 106, 110, 112, 113, 117, 122, 127, 129, 130] ++ [134, 139, 144, 149, 151, 152, 156, 158, 159, 163, 165, 166, 170, 172, 173, 177, 182, 188, 193, 198, 200, 201, 205, 207, 208, 212, 217, 222, 224, 225, 236, 256, 275, 280, 282, 283, 287, 293, 368, 375] ++ [377, 378, 382, 384, 385, 389, 391, 392, 396, 398, 399, 403, 408, 410, 411, 415, 417, 418, 422, 424, 425, 429, 431, 432, 436, 438, 439, 443, 445, 446, 450, 455, 460, 465, 470, 472, 473, 477, 482, 484] ++ [485, 489, 494, 499, 501, 502, 506, 508, 509, 513, 518, 523, 525, 526, 530, 532, 533, 537, 542, 544, 545, 549, 551, 552, 556, 558, 559, 563, 565, 566, 570, 575, 16, 23, 30, 37, 44, 51, 58, 65] ++ [72, 79, 86, 91, 97, 104, 111, 118, 123, 128, 135, 140, 145, 150, 157, 164, 171, 178, 183, 189, 194, 199, 206, 213, 218, 223, 239, 281, 288, 294, 371, 372, 376, 383, 390, 397, 404, 409, 416, 423] ++ [430, 437, 444, 451, 456, 461, 466, 471, 478, 483, 490, 495, 500, 507, 514, 519, 524, 531, 538, 543, 550, 557, 564, 571, 576, 254, 273, 310, 317, 324, 331, 338, 345, 352, 359, 366, 19, 26, 33, 40] ++ [47, 54, 61, 68, 75, 82, 87, 92, 100, 107, 114, 119, 124, 131, 136, 141, 146, 153, 160, 167, 174, 179, 184, 190, 195, 202, 209, 214, 219, 226, 255, 274, 284, 289, 295, 311, 318, 325, 332, 339] ++ [346, 353, 360, 367, 379, 386, 393, 400, 405, 412, 419, 426, 433, 440, 447, 452, 457, 462, 467, 474, 479, 486, 491, 496, 503, 510, 515, 520, 527, 534, 539, 546, 553, 560, 567, 572, 577]
def obsY (g : Addr → Option Obj) : He.AlX := (He.obsT fa fn [] (He.frG g adrs), ex (He.frG g adrs))
abbrev hk : PySem.W.Hook where
  α := He.AlX
  obs := fun s => obsY s.heap.get?
  val := fun w => He.valX fn [] w
  says := fun w h => ∃ K : PySem.W.Frag, K.In h ∧ He.SaysX fa fn [] [] ex w h K
  of := fun _ s e => ⟨He.frG s.heap.get? adrs, He.frG_in, ⟨congrArg (fun z : He.AlX => z.1) e, congrArg (fun z : He.AlX => z.2) e, fun _ h => (by cases h), fun _ h => (by cases h), fun _ h => (by cases h)⟩⟩
  keeps := fun _ _ _ ⟨K, hK, c⟩ k => ⟨K, PySem.W.Frag.In.keeps hK k, ⟨c.t, c.more, c.hd, c.out, fun p hp => k _ _ (c.empty p hp)⟩⟩
def ob (s : PySem.W.SharedT) : He.AlX := obsY (HandSHeadRun.getT s)
theorem ob_eq (s : PySem.W.SharedT) : ob s = hk.obs s.abs := by
  show obsY _ = obsY _
  rw [show HandSHeadRun.getT s = s.abs.heap.get? from funext (HandSHeadRun.getT_eq s)]
def lo0 : List PySem.Str := ["common_divisor", "reduced", "added", "lessened", "times", "over", "compared", "least_of", "total", "fraction_text", "is_number_text", "fraction_in", "NOUGHT", "slope_between", "curve", "nothing", "in_order", "levels_of", "slope_behind", "pay_at", "rises_at", "added_up", "parting", "meetings", "greater_of"]
def lo1 : List PySem.Str := ["greatest", "reached", "capped", "ZERO", "curve_of", "options_curve", "tidied", "tidy_cap", "tidy_sum", "tidy_options", "level_for", "SoldError", "NoText", "Wrong", "is_integer", "is_name", "MOST_RANKS", "RANKLESS", "LAST_NAME", "integer_in", "Words", "claim_in", "firm_in", "holder_in", "read_web"]
def lo2 : List PySem.Str := ["_law_bag", "_law_take", "_law_mixed", "_law_some", "_law_common", "_law_reduced", "_law_number", "_law_claim", "_law_options", "_law_firm_options", "_law_leaves", "_law_within", "_law_web", "_law_number_text", "_law_words", "_law_web_text", "_law_alike", "_law_is_below", "_law_ascending", "_law_levels", "_law_multiplied", "_law_added", "_law_some_levels", "_law_lesser", "_law_greater"]
def lo3 : List PySem.Str := ["_law_lessened", "_law_total", "_law_pay"]
def lo : List PySem.Str := lo0 ++ lo1 ++ lo2 ++ lo3
theorem run1 (w : World) (os : OsState) : (HandSHeadRun.endF (HandSHeadRun.stepQ (HandSHeadRun.denQ HandSHeadRun.tabQ) R.prog w) 6000 R.prog w os).map (fun s => (HandSHeadRun.looksF R.prog (boot_heap w.params) s.abs, HandSHeadRun.seenQ (PySem.W.view R.prog [86]) lo (importedModules R.prog.main.body) (fun s => xlAt (PySem.W.view R.prog [86]) [] s && recOk R.toRowW.records s) s.abs)) = some (true, openGood (PySem.W.view R.prog [86]) lo) := by
  kernel_rfl
theorem run2 (w : World) (os : OsState) : (HandSHeadRun.endF (HandSHeadRun.stepQ (HandSHeadRun.denQ HandSHeadRun.tabQ) R.prog w) 6000 R.prog w os).map ob = some (hk.val w) := by
  kernel_rfl
theorem run (w : World) : HandSHeadRun.RunEq R (PySem.W.view R.prog [86]) hk ob 6000 lo w := by
  intro os
  obtain ⟨s, e, h1⟩ := Option.map_eq_some_iff.mp (run1 w os)
  have h2 := run2 w os
  rw [e] at h2 ⊢
  have h3 : ob s = hk.val w := Option.some.inj h2
  obtain ⟨h4, h5⟩ := Prod.mk.inj h1
  show some (_, _, _) = some (_, _, _)
  rw [h4, h5, h3]
end SwT
set_option maxHeartbeats 4000000
/-! data-level readings over the layer -/
namespace Sw
open PySem PySem.Spec PyProof.Rows L2 Evl
/-! ### callees -/
structure Cal (P : Program) (w : World) (K : PySem.W.Frag) (mg : Str → Option Value) (base : Heap) (x : Str) (k : Nat) (ps : List Str) (sp : Sp) : Prop where
  ex : ∃ (f : Addr) (fd : FuncData), FnOk P w K mg base CX0 k f fd ps sp ∧ mg x = some (.ref f) ∧ PySem.W.keepIn K (.ref f) = true ∧ Binds K fd ps []
section
variable {X : Cx} {e : Expr} {es : List Expr} {t : TA} {x : Str} {p pos : Pos} {k : Nat} {ps : List Str} {sp : Sp}
theorem pe_cc (C : Cal X.prog X.w X.K X.mg X.base x k ps sp) (hr : Room k X.A) (hg : Gl X x) (ha : PA X (e :: es) t) (hd : (x == ("__debug__" : Str)) = false := by decide)
    (he : starEach (e :: es) X.env = (false, eval e X.env) :: starEach es X.env := by rfl) (hpl : (backTo pos (starEach es X.env)).any (·.1) = false := by rfl) : PE X (.Call (.Name x p) (e :: es) [] pos) (tCall sp [] E0 t) := by
  obtain ⟨f, fd, F, hm, hk, hb⟩ := C.ex
  exact pe_call F hr hg hm hk hb .nil pass0 ha hd he hpl
theorem pe_cc0 (C : Cal X.prog X.w X.K X.mg X.base x k ps sp) (hr : Room k X.A) (hg : Gl X x) (hd : (x == ("__debug__" : Str)) = false := by decide) : PE X (.Call (.Name x p) [] [] pos) (tCall sp [] E0 tNil) := by
  obtain ⟨f, fd, F, hm, hk, hb⟩ := C.ex
  exact pe_call0 F hr hg hm hk hb .nil pass0 hd
end
/-- what the head tells -/
structure Tx (w : World) (K : PySem.W.Frag) (mg : Str → Option Value) : Prop where
  ex : ∃ h : Heap, K.In h ∧ h.Ns mainGlobals mg ∧ He.SaysX SwT.fa SwT.fn [] [] SwT.ex w h K
section
variable {P : Program} {w : World} {K : PySem.W.Frag} {mg : Str → Option Value} {base : Heap}
theorem Tx.free (T : Tx w K mg) (x : Str) (i : Nat) (h : SwT.fa[i]? = some (He.Fa.free x) := by rfl) : mg x = none := by
  obtain ⟨hp, X, G, c⟩ := T.ex
  exact He.free_ok X G (c.t.d.fact i h)
theorem Tx.glo (T : Tx w K mg) (x : Str) (i : Nat) (h : SwT.fa[i]? = some (He.Fa.glo x) := by rfl) : mg x = some (.ref (He.ga K x)) := by
  obtain ⟨hp, X, G, c⟩ := T.ex
  exact He.glo_ok X G (c.t.d.fact i h)
/-- a def at the top from its body -/
theorem Tx.cal (T : Tx w K mg) {x : Str} {d : He.DefD} {k : Nat} {N ps : List Str} {sp : Sp} (i j : Nat) (hd : SwT.fn[i]? = some d) (hx : SwT.fa[j]? = some (He.Fa.glo x)) (h1 : d.at_ = (x, none)) (h2 : d.dfl = []) (h3 : d.kwd = [])
    (S : FnScope N ps d.scope) (hb : ∀ (kV doc pm : Value) (an : Option Addr) (cdv ct : Value) (us : List Value), us.length = ps.length → bindArgs (PySem.W.fnOf d.name d.qual d.params d.body d.scope .none kV doc pm an cdv ct) ⟨us, []⟩ = pure (ps.zip us))
    (len : ∀ vs H Q E, sp vs H Q E → vs.length = ps.length)
    (hbody : ∀ (f : Addr) (cdv : Value) (A : Around) (outer : List Env) (s : Shared) (H : Hp) (vs : List V) (Q : VK) (E : XK), Room k (A.deeper (envOfC d.qual d.scope s.heap.objs.size f cdv)) → sp vs H Q E →
      ∃ t, PSs (cxOf CX0 P w K mg base N d.qual d.scope f cdv A outer s H E).nox d.body t ∧ t { nx := fun _ H' => Q .non H', rt := Q } (start N vs) H) : Cal P w K mg base x (k + 1) ps sp := by
  obtain ⟨hp, X, G, c⟩ := T.ex
  obtain ⟨fd, F⟩ := c.t.d.def_ i hd
  have hm := He.glo_ok X G (c.t.d.fact j hx)
  have e1 : d.dvs K = [] := by unfold He.DefD.dvs; rw [h2]; rfl
  have e2 : d.kws K = [] := by unfold He.DefD.kws; rw [h3]; rfl
  have e3 : He.fAd K d.at_ = He.ga K x := by rw [h1]; rfl
  rw [e1, e2, e3] at F
  refine ⟨He.ga K x, fd, F.ok S len fun cdv A outer s H vs Q E hr h => ?_, hm, F.kp, F.bindsN hb⟩
  obtain ⟨t, h1, h2⟩ := hbody (He.ga K x) cdv A outer s H vs Q E hr h
  exact ⟨t, PSs.nox h1, h2⟩
end
/-! ### data in the heap -/
mutual
theorem dp_mono {K : PySem.W.Frag} {H H' : Hp} (e : Ex H H') : ∀ {v : V} {d : PyData}, Dp K H v d → Dp K H' v d
  | _, _, .non => .non
  | _, _, .bl b => .bl b
  | _, _, .int i => .int i
  | _, _, .str x => .str x
  | _, _, .lst h1 h2 => .lst (ex_l e h1) (dps_mono e h2)
  | _, _, .tup h1 h2 => .tup (ex_t e h1) (dps_mono e h2)
theorem dps_mono {K : PySem.W.Frag} {H H' : Hp} (e : Ex H H') : ∀ {v : List V} {d : List PyData}, DpAll K H v d → DpAll K H' v d
  | _, _, .nil => .nil
  | _, _, .cons h1 h2 => .cons (dp_mono e h1) (dps_mono e h2)
end
/- no list, no dict in it -/
mutual
def nol : PyData → Bool
  | .list _ => false
  | .dict _ => false
  | .tuple ds => nols ds
  | .none => true
  | .bool _ => true
  | .int _ => true
  | .str _ => true
def nols : List PyData → Bool
  | [] => true
  | d :: ds => nol d && nols ds
end
theorem nols_mem : ∀ {ds : List PyData} {d : PyData}, nols ds = true → d ∈ ds → nol d = true
  | d :: ds, x, h, hm => by
    simp only [nols, Bool.and_eq_true] at h
    rcases List.mem_cons.mp hm with e | e
    · rw [e]; exact h.1
    · exact nols_mem h.2 e
theorem nols_of : ∀ {ds : List PyData}, (∀ d ∈ ds, nol d = true) → nols ds = true
  | [], _ => rfl
  | d :: ds, h => by
    simp only [nols, Bool.and_eq_true]
    exact ⟨h d List.mem_cons_self, nols_of fun x hx => h x (List.mem_cons_of_mem _ hx)⟩
/-- what does not change stands -/
def still : HO → Bool
  | .tup _ => true
  | .frz _ _ => true
  | _ => false
def Im (H H' : Hp) : Prop := ∀ a o, still o = true → H a = some o → H' a = some o
theorem Im.refl (H : Hp) : Im H H := fun _ _ _ h => h
theorem Im.trans {H H1 H2 : Hp} (a : Im H H1) (b : Im H1 H2) : Im H H2 := fun x o s h => b x o s (a x o s h)
theorem im_ex {H H' : Hp} (e : Ex H H') : Im H H' := fun a o _ h => e a o h
theorem im_upd {H : Hp} {p : Addr} {u o : HO} (h : H p = some u) (hu : still u = false) : Im H (upd H p o) := fun a x s hx => by
  have : a ≠ p := fun z => by
    subst z; rw [h] at hx; cases hx; rw [hu] at s; cases s
  rw [upd_ne this]; exact hx
theorem im_t {K : PySem.W.Frag} {H H' : Hp} {a : Addr} {xs : List V} (e : Im H H') (h : SqT K H a xs) : SqT K H' a xs := by
  rcases h with (h | ⟨o, h⟩) | h
  · exact .inl (.inl (e a _ rfl h))
  · exact .inl (.inr ⟨o, e a _ rfl h⟩)
  · exact .inr h
mutual
theorem dp_im {K : PySem.W.Frag} {H H' : Hp} (e : Im H H') : ∀ {v : V} {d : PyData}, nol d = true → Dp K H v d → Dp K H' v d
  | _, _, _, .non => .non
  | _, _, _, .bl b => .bl b
  | _, _, _, .int i => .int i
  | _, _, _, .str x => .str x
  | _, _, n, .lst h1 h2 => by simp [nol] at n
  | _, _, n, .tup h1 h2 => .tup (im_t e h1) (dps_im e (by simpa [nol] using n) h2)
theorem dps_im {K : PySem.W.Frag} {H H' : Hp} (e : Im H H') : ∀ {v : List V} {d : List PyData}, nols d = true → DpAll K H v d → DpAll K H' v d
  | _, _, _, .nil => .nil
  | _, _, n, .cons h1 h2 => by
    simp only [nols, Bool.and_eq_true] at n
    exact .cons (dp_im e n.1 h1) (dps_im e n.2 h2)
end
section
variable {K : PySem.W.Frag} {H H' : Hp}
theorem dps_len : ∀ {vs : List V} {ds : List PyData}, DpAll K H vs ds → vs.length = ds.length
  | _, _, .nil => rfl
  | _, _, .cons _ h => congrArg (· + 1) (dps_len h)
theorem dps_get : ∀ {vs : List V} {ds : List PyData} {i : Nat} {d : PyData}, DpAll K H vs ds → ds[i]? = some d → ∃ v, vs[i]? = some v ∧ Dp K H v d
  | _, _, _, _, .nil, h => by simp at h
  | _, _, 0, _, .cons h _, e => by simp at e; subst e; exact ⟨_, rfl, h⟩
  | _, _, i + 1, d, .cons _ h, e => by
    obtain ⟨v, h1, h2⟩ := dps_get (i := i) h (by simpa using e)
    exact ⟨v, by simpa using h1, h2⟩
theorem dps_get' {vs : List V} {ds : List PyData} {i : Nat} {v : V} (h : DpAll K H vs ds) (e : vs[i]? = some v) : ∃ d, ds[i]? = some d ∧ Dp K H v d := by
  have hi := (List.getElem?_eq_some_iff.mp e).1
  rw [dps_len h] at hi
  obtain ⟨u, h1, h2⟩ := dps_get h (List.getElem?_eq_getElem hi)
  rw [e] at h1; cases h1
  exact ⟨_, List.getElem?_eq_getElem hi, h2⟩
theorem dps_at {vs : List V} {ds : List PyData} {i : Int} {d : PyData} (h : DpAll K H vs ds) (e : atI ds i = some d) : ∃ v, atI vs i = some v ∧ Dp K H v d := by
  unfold atI at e ⊢
  rw [dps_len h]
  cases q : ixN ds.length i with
  | none => rw [q] at e; cases e
  | some j =>
    rw [q] at e
    exact dps_get h e
theorem dps_app : ∀ {vs us : List V} {ds es : List PyData}, DpAll K H vs ds → DpAll K H us es → DpAll K H (vs ++ us) (ds ++ es)
  | _, _, _, _, .nil, h => h
  | _, _, _, _, .cons a b, h => .cons a (dps_app b h)
theorem dps_snoc {vs : List V} {v : V} {ds : List PyData} {d : PyData} (h : DpAll K H vs ds) (h1 : Dp K H v d) : DpAll K H (vs ++ [v]) (ds ++ [d]) := dps_app h (.cons h1 .nil)
theorem dps_take : ∀ {vs : List V} {ds : List PyData} (n : Nat), DpAll K H vs ds → DpAll K H (vs.take n) (ds.take n)
  | _, _, 0, _ => .nil
  | _, _, _ + 1, .nil => .nil
  | _, _, n + 1, .cons a b => .cons a (dps_take n b)
theorem dps_drop : ∀ {vs : List V} {ds : List PyData} (n : Nat), DpAll K H vs ds → DpAll K H (vs.drop n) (ds.drop n)
  | _, _, 0, h => h
  | _, _, _ + 1, .nil => .nil
  | _, _, n + 1, .cons _ b => dps_drop n b
theorem dp_bool {v : V} {b : Bool} (h : Dp K H v (.bool b)) : v = .bl b := by cases h; rfl
theorem dp_int {v : V} {i : Int} (h : Dp K H v (.int i)) : v = .int i := by cases h; rfl
theorem dp_str {v : V} {x : Str} (h : Dp K H v (.str x)) : v = .str x := by cases h; rfl
theorem dp_non {v : V} (h : Dp K H v .none) : v = .non := by cases h; rfl
theorem dp_tup {v : V} {ds : List PyData} (h : Dp K H v (.tuple ds)) : ∃ a vs, v = .ref a ∧ SqT K H a vs ∧ DpAll K H vs ds := by
  cases h with | tup h1 h2 => exact ⟨_, _, rfl, h1, h2⟩
theorem dp_lst {v : V} {ds : List PyData} (h : Dp K H v (.list ds)) : ∃ a vs, v = .ref a ∧ SqL K H a vs ∧ DpAll K H vs ds := by
  cases h with | lst h1 h2 => exact ⟨_, _, rfl, h1, h2⟩
end
/-! ### readings by data -/
def Ed (K : PySem.W.Frag) (te : TE) (σ : L2.St) (H : Hp) (d : PyData) : Prop := ∀ H1, Ex H H1 → ∀ Q : VK, (∀ v H2, Ex H1 H2 → Dp K H2 v d → Q v H2) → te σ H1 Q
def EdP (K : PySem.W.Frag) (te : TE) (σ : L2.St) (H : Hp) (P : PyData → Prop) : Prop := ∀ H1, Ex H H1 → ∀ Q : VK, (∀ v H2 d, P d → Ex H1 H2 → Dp K H2 v d → Q v H2) → te σ H1 Q
def EdA (K : PySem.W.Frag) (ta : TA) (σ : L2.St) (H : Hp) (ds : List PyData) : Prop := ∀ H1, Ex H H1 → ∀ Q : List V → Hp → Prop, (∀ vs H2, Ex H1 H2 → DpAll K H2 vs ds → Q vs H2) → ta σ H1 Q
def Et (_ : PySem.W.Frag) (tt : TT) (σ : L2.St) (H : Hp) (b : Bool) : Prop := ∀ H1, Ex H H1 → ∀ Q : Bool → Hp → Prop, (∀ H2, Ex H1 H2 → Q b H2) → tt σ H1 Q
/-- a promise by data: x: what is handed in stands for; pre; what comes back -/
def spF (K : PySem.W.Frag) {α : Type} (args : α → List PyData) (pre : α → Prop) (res : α → PyData) : Sp := fun vs H Q _ => ∃ x, DpAll K H vs (args x) ∧ pre x ∧ ∀ v H', Ex H H' → Dp K H' v (res x) → Q v H'
def spR (K : PySem.W.Frag) {α : Type} (args : α → List PyData) (pre : α → Prop) (res : α → PyData → Prop) : Sp := fun vs H Q _ => ∃ x, DpAll K H vs (args x) ∧ pre x ∧ ∀ v H' d, res x d → Ex H H' → Dp K H' v d → Q v H'
theorem spF_len {K : PySem.W.Frag} {α : Type} {args : α → List PyData} {pre : α → Prop} {res : α → PyData} {n : Nat} (h : ∀ x, (args x).length = n) : ∀ vs H Q E, spF K args pre res vs H Q E → vs.length = n := fun vs H Q E ⟨x, hx, _⟩ => (dps_len hx).trans (h x)
theorem spR_len {K : PySem.W.Frag} {α : Type} {args : α → List PyData} {pre : α → Prop} {res : α → PyData → Prop} {n : Nat} (h : ∀ x, (args x).length = n) : ∀ vs H Q E, spR K args pre res vs H Q E → vs.length = n := fun vs H Q E ⟨x, hx, _⟩ => (dps_len hx).trans (h x)
section
variable {K : PySem.W.Frag} {σ : L2.St} {H H' : Hp} {ta tb tc te : TE} {t u : TT} {ts : TA} {d e : PyData} {v : V}
theorem Ed.mono (e : Ex H H') (h : Ed K te σ H d) : Ed K te σ H' d := fun H1 a Q q => h H1 (e.trans a) Q q
theorem Et.mono {b : Bool} (e : Ex H H') (h : Et K t σ H b) : Et K t σ H' b := fun H1 a Q q => h H1 (e.trans a) Q q
/-- run it -/
theorem Ed.run {Q : VK} (h : Ed K te σ H d) (k : ∀ v H2, Ex H H2 → Dp K H2 v d → Q v H2) : te σ H Q := h H (Ex.refl H) Q k
theorem EdP.run {Q : VK} {P : PyData → Prop} (h : EdP K te σ H P) (k : ∀ v H2 d, P d → Ex H H2 → Dp K H2 v d → Q v H2) : te σ H Q := h H (Ex.refl H) Q k
theorem Et.run {Q : Bool → Hp → Prop} {b : Bool} (h : Et K t σ H b) (k : ∀ H2, Ex H H2 → Q b H2) : t σ H Q := h H (Ex.refl H) Q k
theorem EdA.run {Q : List V → Hp → Prop} {ds : List PyData} (h : EdA K ts σ H ds) (k : ∀ vs H2, Ex H H2 → DpAll K H2 vs ds → Q vs H2) : ts σ H Q := h H (Ex.refl H) Q k
theorem Ed.p (h : Ed K te σ H d) : EdP K te σ H (· = d) := fun H1 e Q q => h H1 e Q fun v H2 e2 hd => q v H2 d rfl e2 hd
theorem EdP.to {P : PyData → Prop} (h : EdP K te σ H P) (hp : ∀ x, P x → x = d) : Ed K te σ H d := fun H1 e Q q => h H1 e Q fun v H2 x px e2 hd => q v H2 e2 (hp x px ▸ hd)
theorem Ed.cast (h : Ed K te σ H d) (e : d = d') : Ed K te σ H d' := e ▸ h
theorem Et.cast {b b' : Bool} (h : Et K t σ H b) (e : b = b') : Et K t σ H b' := e ▸ h
theorem ed_var {i : Nat} (h : σ[i]? = some (some v)) (hd : Dp K H v d) : Ed K (tVar i) σ H d := fun H1 e Q q => ⟨v, h, q v H1 (Ex.refl H1) (dp_mono e hd)⟩
theorem ed_cv (hd : Dp K H v d) : Ed K (tC v) σ H d := fun H1 e Q q => q v H1 (Ex.refl H1) (dp_mono e hd)
theorem ed_int {i : Int} : Ed K (tC (.int i)) σ H (.int i) := ed_cv (.int i)
theorem ed_str {x : Str} : Ed K (tC (.str x)) σ H (.str x) := ed_cv (.str x)
theorem ed_bl {b : Bool} : Ed K (tC (.bl b)) σ H (.bool b) := ed_cv (.bl b)
theorem ed_non : Ed K (tC .non) σ H .none := ed_cv .non
theorem ed_op {r : R2} {x y z : PyData} (ha : Ed K ta σ H x) (hb : Ed K tb σ H y)
    (hr : ∀ a b H1 (Q : VK), Dp K H1 a x → Dp K H1 b y → (∀ v H2, Ex H1 H2 → Dp K H2 v z → Q v H2) → r a b H1 Q) : Ed K (tOp r ta tb) σ H z := fun H1 e Q q =>
  ha H1 e _ fun v1 H2 e2 d1 => hb H2 (e.trans e2) _ fun v2 H3 e3 d2 => hr v1 v2 H3 Q (dp_mono e3 d1) d2 fun v H4 e4 d => q v H4 ((e2.trans e3).trans e4) d
theorem ed_i0 {g : Int → Int → V} {i j : Int} (ha : Ed K ta σ H (.int i)) (hb : Ed K tb σ H (.int j)) (hg : ∀ H, Dp K H (g i j) d) : Ed K (tOp (rI0 g) ta tb) σ H d :=
  ed_op ha hb fun a b H1 Q h1 h2 q => ⟨i, j, dp_int h1, dp_int h2, q _ H1 (Ex.refl H1) (hg H1)⟩
theorem ed_iC {C : Int → Int → Prop} {g : Int → Int → V} {i j : Int} (ha : Ed K ta σ H (.int i)) (hb : Ed K tb σ H (.int j)) (hc : C i j) (hg : ∀ H, Dp K H (g i j) d) : Ed K (tOp (rI C g) ta tb) σ H d :=
  ed_op ha hb fun a b H1 Q h1 h2 q => ⟨i, j, dp_int h1, dp_int h2, hc, q _ H1 (Ex.refl H1) (hg H1)⟩
theorem ed_add {i j : Int} (ha : Ed K ta σ H (.int i)) (hb : Ed K tb σ H (.int j)) : Ed K (tOp (rI0 fun i j => .int (i + j)) ta tb) σ H (.int (i + j)) := ed_i0 ha hb fun _ => .int _
theorem ed_sub {i j : Int} (ha : Ed K ta σ H (.int i)) (hb : Ed K tb σ H (.int j)) : Ed K (tOp (rI0 fun i j => .int (i - j)) ta tb) σ H (.int (i - j)) := ed_i0 ha hb fun _ => .int _
theorem ed_mul {i j : Int} (ha : Ed K ta σ H (.int i)) (hb : Ed K tb σ H (.int j)) (hc : CMulW i j) : Ed K (tOp (rI CMulW fun i j => .int (i * j)) ta tb) σ H (.int (i * j)) := ed_iC ha hb hc fun _ => .int _
theorem ed_div {i j : Int} (ha : Ed K ta σ H (.int i)) (hb : Ed K tb σ H (.int j)) (hc : CDivW i j) : Ed K (tOp (rI CDivW fun i j => .int (i / j)) ta tb) σ H (.int (i / j)) := ed_iC ha hb hc fun _ => .int _
theorem ed_mod {i j : Int} (ha : Ed K ta σ H (.int i)) (hb : Ed K tb σ H (.int j)) (hc : 0 < j) : Ed K (tOp (rI (fun _ j => 0 < j) fun i j => .int (i % j)) ta tb) σ H (.int (i % j)) := ed_iC ha hb hc fun _ => .int _
theorem ed_lt {i j : Int} (ha : Ed K ta σ H (.int i)) (hb : Ed K tb σ H (.int j)) : Ed K (tOp (rI0 fun i j => .bl (decide (i < j))) ta tb) σ H (.bool (decide (i < j))) := ed_i0 ha hb fun _ => .bl _
theorem ed_le {i j : Int} (ha : Ed K ta σ H (.int i)) (hb : Ed K tb σ H (.int j)) : Ed K (tOp (rI0 fun i j => .bl (decide (i ≤ j))) ta tb) σ H (.bool (decide (i ≤ j))) := ed_i0 ha hb fun _ => .bl _
theorem ed_gt {i j : Int} (ha : Ed K ta σ H (.int i)) (hb : Ed K tb σ H (.int j)) : Ed K (tOp (rI0 fun i j => .bl (decide (j < i))) ta tb) σ H (.bool (decide (j < i))) := ed_i0 ha hb fun _ => .bl _
theorem ed_ge {i j : Int} (ha : Ed K ta σ H (.int i)) (hb : Ed K tb σ H (.int j)) : Ed K (tOp (rI0 fun i j => .bl (decide (j ≤ i))) ta tb) σ H (.bool (decide (j ≤ i))) := ed_i0 ha hb fun _ => .bl _
theorem ed_neg {i : Int} (ha : Ed K ta σ H (.int i)) : Ed K (tUn (rU fun i => .int (-i)) ta) σ H (.int (-i)) := fun H1 e Q q =>
  ha H1 e _ fun v H2 e2 h => ⟨i, dp_int h, q _ H2 e2 (.int _)⟩
theorem ed_eqD {x y : PyData} (ha : Ed K ta σ H x) (hb : Ed K tb σ H y) (h1 : SeqAt.shaped x = true) (h2 : SeqAt.shaped y = true) : Ed K (tOp (rEqD K) ta tb) σ H (.bool (PyData.eqv x y)) :=
  ed_op ha hb fun a b H1 Q d1 d2 q => ⟨x, y, d1, d2, h1, h2, q _ H1 (Ex.refl H1) (.bl _)⟩
theorem ed_neD {x y : PyData} (ha : Ed K ta σ H x) (hb : Ed K tb σ H y) (h1 : SeqAt.shaped x = true) (h2 : SeqAt.shaped y = true) : Ed K (tOp (rNeD K) ta tb) σ H (.bool (!PyData.eqv x y)) :=
  ed_op ha hb fun a b H1 Q d1 d2 q => ⟨x, y, d1, d2, h1, h2, q _ H1 (Ex.refl H1) (.bl _)⟩
theorem ed_isN {x : PyData} (ha : Ed K ta σ H x) {b : Bool} (hx : ∀ H v, Dp K H v x → decide (v = .non) = b) : Ed K (tOp (fun x y H Q => y = .non ∧ Q (.bl (decide (x = .non))) H) ta (tC .non)) σ H (.bool b) :=
  ed_op ha ed_non fun a b' H1 Q d1 d2 q => ⟨dp_non d2, by rw [hx H1 a d1]; exact q _ H1 (Ex.refl H1) (.bl _)⟩
theorem ed_notN {x : PyData} (ha : Ed K ta σ H x) {b : Bool} (hx : ∀ H v, Dp K H v x → decide (v = .non) = b) : Ed K (tOp (fun x y H Q => y = .non ∧ Q (.bl (!decide (x = .non))) H) ta (tC .non)) σ H (.bool (!b)) :=
  ed_op ha ed_non fun a b' H1 Q d1 d2 q => ⟨dp_non d2, by rw [hx H1 a d1]; exact q _ H1 (Ex.refl H1) (.bl _)⟩
theorem ed_ixT {ds : List PyData} {i : Int} (ha : Ed K ta σ H (.tuple ds)) (hb : Ed K tb σ H (.int i)) (h : atI ds i = some d) : Ed K (tOp (rIx K) ta tb) σ H d :=
  ed_op ha hb fun a b H1 Q d1 d2 q => by
    obtain ⟨p, vs, e1, s1, a1⟩ := dp_tup d1
    obtain ⟨v, h1, h2⟩ := dps_at a1 h
    exact .inr (.inl ⟨p, vs, i, v, e1, dp_int d2, s1, h1, q v H1 (Ex.refl H1) h2⟩)
theorem ed_ixL {ds : List PyData} {i : Int} (ha : Ed K ta σ H (.list ds)) (hb : Ed K tb σ H (.int i)) (h : atI ds i = some d) : Ed K (tOp (rIx K) ta tb) σ H d :=
  ed_op ha hb fun a b H1 Q d1 d2 q => by
    obtain ⟨p, vs, e1, s1, a1⟩ := dp_lst d1
    obtain ⟨v, h1, h2⟩ := dps_at a1 h
    exact .inl ⟨p, vs, i, v, e1, dp_int d2, s1, h1, q v H1 (Ex.refl H1) h2⟩
theorem eda_nil : EdA K tNil σ H [] := fun H1 e Q q => q [] H1 (Ex.refl H1) .nil
theorem eda_cons {ds : List PyData} (ha : Ed K ta σ H d) (hs : EdA K ts σ H ds) : EdA K (tCons ta ts) σ H (d :: ds) := fun H1 e Q q =>
  ha H1 e _ fun v H2 e2 h2 => hs H2 (e.trans e2) _ fun vs H3 e3 h3 => q (v :: vs) H3 (e2.trans e3) (.cons (dp_mono e3 h2) h3)
theorem ed_tup {ds : List PyData} (h : EdA K ts σ H ds) (hl : ds.length ≤ sizeLine := by (show _ ≤ 16777216; exact Nat.le_of_ble_eq_true rfl)) : Ed K (tTup ts) σ H (.tuple ds) := fun H1 e Q q =>
  h H1 e _ fun vs H2 e2 h2 => ⟨by rw [dps_len h2]; exact hl, fun p hp => q _ _ (e2.trans (Ex.new hp)) (.tup (st_of upd_same) (dps_mono (Ex.new hp) h2))⟩
theorem ed_lst {ds : List PyData} (h : EdA K ts σ H ds) (hl : ds.length ≤ sizeLine := by (show _ ≤ 16777216; exact Nat.le_of_ble_eq_true rfl)) : Ed K (tLst ts) σ H (.list ds) := fun H1 e Q q =>
  h H1 e _ fun vs H2 e2 h2 => ⟨by rw [dps_len h2]; exact hl, fun p hp => q _ _ (e2.trans (Ex.new hp)) (.lst (sq_of upd_same) (dps_mono (Ex.new hp) h2))⟩
theorem ed_call {α : Type} {args : α → List PyData} {pre : α → Prop} {res : α → PyData} (x : α) (h : EdA K ts σ H (args x)) (hp : pre x) : Ed K (tCall (spF K args pre res) [] E0 ts) σ H (res x) := fun H1 e Q q =>
  h H1 e _ fun vs H2 e2 h2 => ⟨x, by rw [List.append_nil]; exact h2, hp, fun v H3 e3 d3 => q v H3 (e2.trans e3) d3⟩
theorem edP_call {α : Type} {args : α → List PyData} {pre : α → Prop} {res : α → PyData → Prop} (x : α) (h : EdA K ts σ H (args x)) (hp : pre x) : EdP K (tCall (spR K args pre res) [] E0 ts) σ H (res x) := fun H1 e Q q =>
  h H1 e _ fun vs H2 e2 h2 => ⟨x, by rw [List.append_nil]; exact h2, hp, fun v H3 d pd e3 d3 => q v H3 d pd (e2.trans e3) d3⟩
theorem ed_if {b : Bool} (h : Et K t σ H b) (h1 : b = true → Ed K ta σ H d) (h2 : b = false → Ed K tb σ H d) : Ed K (tIf t ta tb) σ H d := fun H1 e Q q => h H1 e _ fun H2 e2 => by
  cases b with
  | true =>
    show (if true = true then ta σ H2 Q else tb σ H2 Q)
    rw [if_pos rfl]
    exact h1 rfl H2 (e.trans e2) Q fun v H3 e3 d => q v H3 (e2.trans e3) d
  | false =>
    show (if false = true then ta σ H2 Q else tb σ H2 Q)
    rw [if_neg Bool.false_ne_true]
    exact h2 rfl H2 (e.trans e2) Q fun v H3 e3 d => q v H3 (e2.trans e3) d
theorem et_test {b : Bool} (h : Ed K te σ H (.bool b)) : Et K (tTest te) σ H b := fun H1 e Q q => h H1 e _ fun v H2 e2 d => ⟨b, dp_bool d, q H2 e2⟩
theorem et_B {b : Bool} (h : Ed K te σ H (.bool b)) : Et K (tB te) σ H b := fun H1 e Q q => h H1 e _ fun v H2 e2 d => ⟨b, dp_bool d, q H2 e2⟩
theorem et_not {b : Bool} (h : Et K t σ H b) : Et K (tNot t) σ H (!b) := fun H1 e Q q => h H1 e _ fun H2 e2 => q H2 e2
theorem et_and {a b : Bool} (h1 : Et K t σ H a) (h2 : a = true → Et K u σ H b) : Et K (tAnd t u) σ H (a && b) := fun H1 e Q q => h1 H1 e _ fun H2 e2 => by
  cases a with
  | true =>
    show (if true = true then u σ H2 Q else Q false H2)
    rw [if_pos rfl]
    exact h2 rfl H2 (e.trans e2) Q fun H3 e3 => q H3 (e2.trans e3)
  | false =>
    show (if false = true then u σ H2 Q else Q false H2)
    rw [if_neg Bool.false_ne_true]
    exact q H2 e2
theorem et_or {a b : Bool} (h1 : Et K t σ H a) (h2 : a = false → Et K u σ H b) : Et K (tOr t u) σ H (a || b) := fun H1 e Q q => h1 H1 e _ fun H2 e2 => by
  cases a with
  | true =>
    show (if true = true then Q true H2 else u σ H2 Q)
    rw [if_pos rfl]
    exact q H2 e2
  | false =>
    show (if false = true then Q true H2 else u σ H2 Q)
    rw [if_neg Bool.false_ne_true]
    exact h2 rfl H2 (e.trans e2) Q fun H3 e3 => q H3 (e2.trans e3)
/-- a built-in's call -/
theorem ed_cb {r : List V → Hp → VK → Prop} {ds : List PyData} (h : EdA K ts σ H ds) (hr : ∀ vs H1 (Q : VK), DpAll K H1 vs ds → (∀ v H2, Ex H1 H2 → Dp K H2 v d → Q v H2) → r vs H1 Q) : Ed K (tCB r ts) σ H d := fun H1 e Q q =>
  h H1 e _ fun vs H2 e2 h2 => hr vs H2 Q h2 fun v H3 e3 d3 => q v H3 (e2.trans e3) d3
theorem dps_one {vs : List V} {d : PyData} (h : DpAll K H vs [d]) : ∃ v, vs = [v] ∧ Dp K H v d := by
  cases h with | cons h1 h2 => cases h2; exact ⟨_, rfl, h1⟩
theorem dps_two {vs : List V} {d e : PyData} (h : DpAll K H vs [d, e]) : ∃ v u, vs = [v, u] ∧ Dp K H v d ∧ Dp K H u e := by
  cases h with | cons h1 h2 => obtain ⟨u, rfl, h3⟩ := dps_one h2; exact ⟨_, _, rfl, h1, h3⟩
theorem dps_three {vs : List V} {d e f : PyData} (h : DpAll K H vs [d, e, f]) : ∃ v u w, vs = [v, u, w] ∧ Dp K H v d ∧ Dp K H u e ∧ Dp K H w f := by
  cases h with | cons h1 h2 => obtain ⟨u, w, rfl, h3, h4⟩ := dps_two h2; exact ⟨_, _, _, rfl, h1, h3, h4⟩
theorem ed_lenT {ds : List PyData} (ha : Ed K ta σ H (.tuple ds)) : Ed K (tCB (fun xs H Q => ∃ x n, xs = [x] ∧ LenV K x H n ∧ Q (.int n) H) (tCons ta tNil)) σ H (.int (ds.length : Int)) :=
  ed_cb (eda_cons ha eda_nil) fun vs H1 Q h q => by
    obtain ⟨v, rfl, hv⟩ := dps_one h
    obtain ⟨a, us, rfl, s1, a1⟩ := dp_tup hv
    exact ⟨_, us.length, rfl, .inr ⟨us, s1, rfl⟩, q _ H1 (Ex.refl H1) (by rw [dps_len a1]; exact .int _)⟩
theorem ed_lenL {ds : List PyData} (ha : Ed K ta σ H (.list ds)) : Ed K (tCB (fun xs H Q => ∃ x n, xs = [x] ∧ LenV K x H n ∧ Q (.int n) H) (tCons ta tNil)) σ H (.int (ds.length : Int)) :=
  ed_cb (eda_cons ha eda_nil) fun vs H1 Q h q => by
    obtain ⟨v, rfl, hv⟩ := dps_one h
    obtain ⟨a, us, rfl, s1, a1⟩ := dp_lst hv
    exact ⟨_, us.length, rfl, .inl ⟨us, s1, rfl⟩, q _ H1 (Ex.refl H1) (by rw [dps_len a1]; exact .int _)⟩
theorem ed_lenS {x : Str} (ha : Ed K ta σ H (.str x)) (hx : x.length ≤ sizeLine) : Ed K (tCB (fun xs H Q => ∃ x n, xs = [x] ∧ LenV K x H n ∧ Q (.int n) H) (tCons ta tNil)) σ H (.int (x.length : Int)) :=
  ed_cb (eda_cons ha eda_nil) fun vs H1 Q h q => by
    obtain ⟨v, rfl, hv⟩ := dps_one h
    obtain rfl := dp_str hv
    exact ⟨_, x.length, rfl, ⟨hx, rfl⟩, q _ H1 (Ex.refl H1) (.int _)⟩
theorem ed_abs {i : Int} (ha : Ed K ta σ H (.int i)) : Ed K (tCB (fun xs H Q => ∃ i, xs = [.int i] ∧ Q (.int (if i < 0 then -i else i)) H) (tCons ta tNil)) σ H (.int i.natAbs) :=
  ed_cb (eda_cons ha eda_nil) fun vs H1 Q h q => by
    obtain ⟨v, rfl, hv⟩ := dps_one h
    obtain rfl := dp_int hv
    have e : (if i < 0 then -i else i) = (i.natAbs : Int) := by split <;> omega
    exact ⟨i, rfl, by rw [e]; exact q _ H1 (Ex.refl H1) (.int _)⟩
theorem ed_toint {i : Int} (ha : Ed K ta σ H (.int i)) : Ed K (tCB (fun xs H Q => (∃ i, xs = [.int i] ∧ Q (.int i) H) ∨ ∃ k, xs = [.bl k] ∧ Q (.int (if k then 1 else 0)) H) (tCons ta tNil)) σ H (.int i) :=
  ed_cb (eda_cons ha eda_nil) fun vs H1 Q h q => by
    obtain ⟨v, rfl, hv⟩ := dps_one h
    obtain rfl := dp_int hv
    exact .inl ⟨i, rfl, q _ H1 (Ex.refl H1) (.int _)⟩
theorem ed_b2i {b : Bool} (ha : Ed K ta σ H (.bool b)) : Ed K (tCB (fun xs H Q => (∃ i, xs = [.int i] ∧ Q (.int i) H) ∨ ∃ k, xs = [.bl k] ∧ Q (.int (if k then 1 else 0)) H) (tCons ta tNil)) σ H (.int (if b then 1 else 0)) :=
  ed_cb (eda_cons ha eda_nil) fun vs H1 Q h q => by
    obtain ⟨v, rfl, hv⟩ := dps_one h
    obtain rfl := dp_bool hv
    exact .inr ⟨b, rfl, q _ H1 (Ex.refl H1) (.int _)⟩
theorem ed_max2 {i j : Int} (ha : Ed K ta σ H (.int i)) (hb : Ed K tb σ H (.int j)) : Ed K (tCB (fun xs H Q => ∃ i j, xs = [.int i, .int j] ∧ Q (.int (if j > i then j else i)) H) (tCons ta (tCons tb tNil))) σ H (.int (max i j)) :=
  ed_cb (eda_cons ha (eda_cons hb eda_nil)) fun vs H1 Q h q => by
    obtain ⟨v, u, rfl, h1, h2⟩ := dps_two h
    obtain rfl := dp_int h1
    obtain rfl := dp_int h2
    have e : (if j > i then j else i) = max i j := by split <;> omega
    exact ⟨i, j, rfl, by rw [e]; exact q _ H1 (Ex.refl H1) (.int _)⟩
theorem ed_min2 {i j : Int} (ha : Ed K ta σ H (.int i)) (hb : Ed K tb σ H (.int j)) : Ed K (tCB (fun xs H Q => ∃ i j, xs = [.int i, .int j] ∧ Q (.int (if j < i then j else i)) H) (tCons ta (tCons tb tNil))) σ H (.int (min i j)) :=
  ed_cb (eda_cons ha (eda_cons hb eda_nil)) fun vs H1 Q h q => by
    obtain ⟨v, u, rfl, h1, h2⟩ := dps_two h
    obtain rfl := dp_int h1
    obtain rfl := dp_int h2
    have e : (if j < i then j else i) = min i j := by split <;> omega
    exact ⟨i, j, rfl, by rw [e]; exact q _ H1 (Ex.refl H1) (.int _)⟩
/-- tuple(xs) -/
theorem ed_tupleL {ds : List PyData} (ha : Ed K ta σ H (.list ds)) : Ed K (tCB (fun xs H Q => ∃ p ys, xs = [.ref p] ∧ ((SqL K H p ys ∧ ∀ l, H l = none → Q (.ref l) (upd H l (.tup ys))) ∨ (SqT K H p ys ∧ Q (.ref p) H))) (tCons ta tNil)) σ H (.tuple ds) :=
  ed_cb (eda_cons ha eda_nil) fun vs H1 Q h q => by
    obtain ⟨v, rfl, hv⟩ := dps_one h
    obtain ⟨a, us, rfl, s1, a1⟩ := dp_lst hv
    exact ⟨a, us, rfl, .inl ⟨s1, fun l hl => q _ _ (Ex.new hl) (.tup (st_of upd_same) (dps_mono (Ex.new hl) a1))⟩⟩
theorem ed_listT {ds : List PyData} (ha : Ed K ta σ H (.tuple ds)) : Ed K (tCB (fun xs H Q => ∃ p ys, xs = [.ref p] ∧ (SqL K H p ys ∨ SqT K H p ys) ∧ ∀ l, H l = none → Q (.ref l) (upd H l (.lst ys))) (tCons ta tNil)) σ H (.list ds) :=
  ed_cb (eda_cons ha eda_nil) fun vs H1 Q h q => by
    obtain ⟨v, rfl, hv⟩ := dps_one h
    obtain ⟨a, us, rfl, s1, a1⟩ := dp_tup hv
    exact ⟨a, us, rfl, .inr s1, fun l hl => q _ _ (Ex.new hl) (.lst (sq_of upd_same) (dps_mono (Ex.new hl) a1))⟩
/-! ### statements -/
variable {D : Ends} {t1 t2 : TS}
theorem ret_ed (h : Ed K te σ H d) (k : ∀ v H', Ex H H' → Dp K H' v d → D.rt v H') : tRet te D σ H := h.run k
theorem if_et {b : Bool} (h : Et K t σ H b) (k1 : b = true → ∀ H', Ex H H' → t1 D σ H') (k2 : b = false → ∀ H', Ex H H' → t2 D σ H') : tIfS t t1 t2 D σ H := h.run fun H' e => by
  cases b with
  | true =>
    show (if true = true then t1 D σ H' else t2 D σ H')
    rw [if_pos rfl]; exact k1 rfl H' e
  | false =>
    show (if false = true then t1 D σ H' else t2 D σ H')
    rw [if_neg Bool.false_ne_true]; exact k2 rfl H' e
theorem set_ed {i : Nat} (h : Ed K te σ H d) (k : ∀ v H', Ex H H' → Dp K H' v d → D.nx (σ.set i (some v)) H') : tAsg te (gName i) D σ H := h.run k
theorem par_ed {i j : Nat} {x y : PyData} (h : EdA K ts σ H [x, y]) (k : ∀ v u H', Ex H H' → Dp K H' v x → Dp K H' u y → D.nx ((σ.set i (some v)).set j (some u)) H') : tPar i j ts D σ H := h.run fun vs H' e hd => by
  obtain ⟨v, u, rfl, h1, h2⟩ := dps_two hd
  exact ⟨v, u, rfl, k v u H' e h1 h2⟩
end
end Sw
namespace Sw
open PySem PySem.Spec PyProof.Rows L2 Evl
section
variable {w : World} {K : PySem.W.Frag} {mg : Str → Option Value}
theorem Tx.g_common_divisor (T : Tx w K mg) : mg "common_divisor" = some (.ref (He.ga K "common_divisor")) := T.glo "common_divisor" 0
theorem Tx.g_reduced (T : Tx w K mg) : mg "reduced" = some (.ref (He.ga K "reduced")) := T.glo "reduced" 1
theorem Tx.g_added (T : Tx w K mg) : mg "added" = some (.ref (He.ga K "added")) := T.glo "added" 2
theorem Tx.g_lessened (T : Tx w K mg) : mg "lessened" = some (.ref (He.ga K "lessened")) := T.glo "lessened" 3
theorem Tx.g_times (T : Tx w K mg) : mg "times" = some (.ref (He.ga K "times")) := T.glo "times" 4
theorem Tx.g_over (T : Tx w K mg) : mg "over" = some (.ref (He.ga K "over")) := T.glo "over" 5
theorem Tx.g_compared (T : Tx w K mg) : mg "compared" = some (.ref (He.ga K "compared")) := T.glo "compared" 6
theorem Tx.g_least_of (T : Tx w K mg) : mg "least_of" = some (.ref (He.ga K "least_of")) := T.glo "least_of" 7
theorem Tx.g_total (T : Tx w K mg) : mg "total" = some (.ref (He.ga K "total")) := T.glo "total" 8
theorem Tx.g_fraction_text (T : Tx w K mg) : mg "fraction_text" = some (.ref (He.ga K "fraction_text")) := T.glo "fraction_text" 9
theorem Tx.g_is_number_text (T : Tx w K mg) : mg "is_number_text" = some (.ref (He.ga K "is_number_text")) := T.glo "is_number_text" 10
theorem Tx.g_fraction_in (T : Tx w K mg) : mg "fraction_in" = some (.ref (He.ga K "fraction_in")) := T.glo "fraction_in" 11
theorem Tx.g_NOUGHT (T : Tx w K mg) : mg "NOUGHT" = some (.ref (He.ga K "NOUGHT")) := T.glo "NOUGHT" 12
theorem Tx.g_slope_between (T : Tx w K mg) : mg "slope_between" = some (.ref (He.ga K "slope_between")) := T.glo "slope_between" 13
theorem Tx.g_curve (T : Tx w K mg) : mg "curve" = some (.ref (He.ga K "curve")) := T.glo "curve" 14
theorem Tx.g_nothing (T : Tx w K mg) : mg "nothing" = some (.ref (He.ga K "nothing")) := T.glo "nothing" 15
theorem Tx.g_in_order (T : Tx w K mg) : mg "in_order" = some (.ref (He.ga K "in_order")) := T.glo "in_order" 16
theorem Tx.g_levels_of (T : Tx w K mg) : mg "levels_of" = some (.ref (He.ga K "levels_of")) := T.glo "levels_of" 17
theorem Tx.g_slope_behind (T : Tx w K mg) : mg "slope_behind" = some (.ref (He.ga K "slope_behind")) := T.glo "slope_behind" 18
theorem Tx.g_pay_at (T : Tx w K mg) : mg "pay_at" = some (.ref (He.ga K "pay_at")) := T.glo "pay_at" 19
theorem Tx.g_rises_at (T : Tx w K mg) : mg "rises_at" = some (.ref (He.ga K "rises_at")) := T.glo "rises_at" 20
theorem Tx.g_added_up (T : Tx w K mg) : mg "added_up" = some (.ref (He.ga K "added_up")) := T.glo "added_up" 21
theorem Tx.g_parting (T : Tx w K mg) : mg "parting" = some (.ref (He.ga K "parting")) := T.glo "parting" 22
theorem Tx.g_meetings (T : Tx w K mg) : mg "meetings" = some (.ref (He.ga K "meetings")) := T.glo "meetings" 23
theorem Tx.g_greater_of (T : Tx w K mg) : mg "greater_of" = some (.ref (He.ga K "greater_of")) := T.glo "greater_of" 24
theorem Tx.g_greatest (T : Tx w K mg) : mg "greatest" = some (.ref (He.ga K "greatest")) := T.glo "greatest" 25
theorem Tx.g_reached (T : Tx w K mg) : mg "reached" = some (.ref (He.ga K "reached")) := T.glo "reached" 26
theorem Tx.g_capped (T : Tx w K mg) : mg "capped" = some (.ref (He.ga K "capped")) := T.glo "capped" 27
theorem Tx.g_ZERO (T : Tx w K mg) : mg "ZERO" = some (.ref (He.ga K "ZERO")) := T.glo "ZERO" 28
theorem Tx.g_curve_of (T : Tx w K mg) : mg "curve_of" = some (.ref (He.ga K "curve_of")) := T.glo "curve_of" 29
theorem Tx.g_options_curve (T : Tx w K mg) : mg "options_curve" = some (.ref (He.ga K "options_curve")) := T.glo "options_curve" 30
theorem Tx.g_tidied (T : Tx w K mg) : mg "tidied" = some (.ref (He.ga K "tidied")) := T.glo "tidied" 31
theorem Tx.g_tidy_cap (T : Tx w K mg) : mg "tidy_cap" = some (.ref (He.ga K "tidy_cap")) := T.glo "tidy_cap" 32
theorem Tx.g_tidy_sum (T : Tx w K mg) : mg "tidy_sum" = some (.ref (He.ga K "tidy_sum")) := T.glo "tidy_sum" 33
theorem Tx.g_tidy_options (T : Tx w K mg) : mg "tidy_options" = some (.ref (He.ga K "tidy_options")) := T.glo "tidy_options" 34
theorem Tx.g_level_for (T : Tx w K mg) : mg "level_for" = some (.ref (He.ga K "level_for")) := T.glo "level_for" 35
theorem Tx.g_is_integer (T : Tx w K mg) : mg "is_integer" = some (.ref (He.ga K "is_integer")) := T.glo "is_integer" 36
theorem Tx.g_is_name (T : Tx w K mg) : mg "is_name" = some (.ref (He.ga K "is_name")) := T.glo "is_name" 37
theorem Tx.g_RANKLESS (T : Tx w K mg) : mg "RANKLESS" = some (.ref (He.ga K "RANKLESS")) := T.glo "RANKLESS" 38
theorem Tx.g_integer_in (T : Tx w K mg) : mg "integer_in" = some (.ref (He.ga K "integer_in")) := T.glo "integer_in" 39
theorem Tx.g_Words (T : Tx w K mg) : mg "Words" = some (.ref (He.ga K "Words")) := T.glo "Words" 40
theorem Tx.g_claim_in (T : Tx w K mg) : mg "claim_in" = some (.ref (He.ga K "claim_in")) := T.glo "claim_in" 41
theorem Tx.g_firm_in (T : Tx w K mg) : mg "firm_in" = some (.ref (He.ga K "firm_in")) := T.glo "firm_in" 42
theorem Tx.g_holder_in (T : Tx w K mg) : mg "holder_in" = some (.ref (He.ga K "holder_in")) := T.glo "holder_in" 43
theorem Tx.g_read_web (T : Tx w K mg) : mg "read_web" = some (.ref (He.ga K "read_web")) := T.glo "read_web" 44
theorem Tx.g__law_bag (T : Tx w K mg) : mg "_law_bag" = some (.ref (He.ga K "_law_bag")) := T.glo "_law_bag" 45
theorem Tx.g__law_take (T : Tx w K mg) : mg "_law_take" = some (.ref (He.ga K "_law_take")) := T.glo "_law_take" 46
theorem Tx.g__law_mixed (T : Tx w K mg) : mg "_law_mixed" = some (.ref (He.ga K "_law_mixed")) := T.glo "_law_mixed" 47
theorem Tx.g__law_some (T : Tx w K mg) : mg "_law_some" = some (.ref (He.ga K "_law_some")) := T.glo "_law_some" 48
theorem Tx.g__law_common (T : Tx w K mg) : mg "_law_common" = some (.ref (He.ga K "_law_common")) := T.glo "_law_common" 49
theorem Tx.g__law_reduced (T : Tx w K mg) : mg "_law_reduced" = some (.ref (He.ga K "_law_reduced")) := T.glo "_law_reduced" 50
theorem Tx.g__law_number (T : Tx w K mg) : mg "_law_number" = some (.ref (He.ga K "_law_number")) := T.glo "_law_number" 51
theorem Tx.g__law_claim (T : Tx w K mg) : mg "_law_claim" = some (.ref (He.ga K "_law_claim")) := T.glo "_law_claim" 52
theorem Tx.g__law_options (T : Tx w K mg) : mg "_law_options" = some (.ref (He.ga K "_law_options")) := T.glo "_law_options" 53
theorem Tx.g__law_firm_options (T : Tx w K mg) : mg "_law_firm_options" = some (.ref (He.ga K "_law_firm_options")) := T.glo "_law_firm_options" 54
theorem Tx.g__law_leaves (T : Tx w K mg) : mg "_law_leaves" = some (.ref (He.ga K "_law_leaves")) := T.glo "_law_leaves" 55
theorem Tx.g__law_within (T : Tx w K mg) : mg "_law_within" = some (.ref (He.ga K "_law_within")) := T.glo "_law_within" 56
theorem Tx.g__law_web (T : Tx w K mg) : mg "_law_web" = some (.ref (He.ga K "_law_web")) := T.glo "_law_web" 57
theorem Tx.g__law_number_text (T : Tx w K mg) : mg "_law_number_text" = some (.ref (He.ga K "_law_number_text")) := T.glo "_law_number_text" 58
theorem Tx.g__law_words (T : Tx w K mg) : mg "_law_words" = some (.ref (He.ga K "_law_words")) := T.glo "_law_words" 59
theorem Tx.g__law_web_text (T : Tx w K mg) : mg "_law_web_text" = some (.ref (He.ga K "_law_web_text")) := T.glo "_law_web_text" 60
theorem Tx.g__law_alike (T : Tx w K mg) : mg "_law_alike" = some (.ref (He.ga K "_law_alike")) := T.glo "_law_alike" 61
theorem Tx.g__law_is_below (T : Tx w K mg) : mg "_law_is_below" = some (.ref (He.ga K "_law_is_below")) := T.glo "_law_is_below" 62
theorem Tx.g__law_ascending (T : Tx w K mg) : mg "_law_ascending" = some (.ref (He.ga K "_law_ascending")) := T.glo "_law_ascending" 63
theorem Tx.g__law_levels (T : Tx w K mg) : mg "_law_levels" = some (.ref (He.ga K "_law_levels")) := T.glo "_law_levels" 64
theorem Tx.g__law_multiplied (T : Tx w K mg) : mg "_law_multiplied" = some (.ref (He.ga K "_law_multiplied")) := T.glo "_law_multiplied" 65
theorem Tx.g__law_added (T : Tx w K mg) : mg "_law_added" = some (.ref (He.ga K "_law_added")) := T.glo "_law_added" 66
theorem Tx.g__law_some_levels (T : Tx w K mg) : mg "_law_some_levels" = some (.ref (He.ga K "_law_some_levels")) := T.glo "_law_some_levels" 67
theorem Tx.g__law_lesser (T : Tx w K mg) : mg "_law_lesser" = some (.ref (He.ga K "_law_lesser")) := T.glo "_law_lesser" 68
theorem Tx.g__law_greater (T : Tx w K mg) : mg "_law_greater" = some (.ref (He.ga K "_law_greater")) := T.glo "_law_greater" 69
theorem Tx.g__law_lessened (T : Tx w K mg) : mg "_law_lessened" = some (.ref (He.ga K "_law_lessened")) := T.glo "_law_lessened" 70
theorem Tx.g__law_total (T : Tx w K mg) : mg "_law_total" = some (.ref (He.ga K "_law_total")) := T.glo "_law_total" 71
theorem Tx.g__law_pay (T : Tx w K mg) : mg "_law_pay" = some (.ref (He.ga K "_law_pay")) := T.glo "_law_pay" 72
theorem Tx.g_law (T : Tx w K mg) : mg "law" = some (.ref (He.ga K "law")) := T.glo "law" 73
theorem Tx.f_int (T : Tx w K mg) : mg "int" = none := T.free "int" 74
theorem Tx.f_abs (T : Tx w K mg) : mg "abs" = none := T.free "abs" 75
theorem Tx.f_len (T : Tx w K mg) : mg "len" = none := T.free "len" 76
theorem Tx.f_isinstance (T : Tx w K mg) : mg "isinstance" = none := T.free "isinstance" 77
theorem Tx.f_bool (T : Tx w K mg) : mg "bool" = none := T.free "bool" 78
theorem Tx.f_str (T : Tx w K mg) : mg "str" = none := T.free "str" 79
theorem Tx.f_all (T : Tx w K mg) : mg "all" = none := T.free "all" 80
theorem Tx.f_any (T : Tx w K mg) : mg "any" = none := T.free "any" 81
theorem Tx.f_tuple (T : Tx w K mg) : mg "tuple" = none := T.free "tuple" 82
theorem Tx.f_list (T : Tx w K mg) : mg "list" = none := T.free "list" 83
theorem Tx.f_sorted (T : Tx w K mg) : mg "sorted" = none := T.free "sorted" 84
theorem Tx.f_set (T : Tx w K mg) : mg "set" = none := T.free "set" 85
theorem Tx.f_enumerate (T : Tx w K mg) : mg "enumerate" = none := T.free "enumerate" 86
theorem Tx.f_max (T : Tx w K mg) : mg "max" = none := T.free "max" 87
theorem Tx.f_min (T : Tx w K mg) : mg "min" = none := T.free "min" 88
theorem Tx.f_sum (T : Tx w K mg) : mg "sum" = none := T.free "sum" 89
theorem Tx.f_range (T : Tx w K mg) : mg "range" = none := T.free "range" 90
theorem Tx.f_dict (T : Tx w K mg) : mg "dict" = none := T.free "dict" 91
theorem Tx.f_zip (T : Tx w K mg) : mg "zip" = none := T.free "zip" 92
theorem Tx.f_repr (T : Tx w K mg) : mg "repr" = none := T.free "repr" 93
end
end Sw
/-! data-level readings: lists that change, loops, comprehensions -/
namespace Sw
open PySem PySem.Spec PyProof.Rows L2 Evl
/-- a list of its own at p -/
def Lm (K : PySem.W.Frag) (H : Hp) (p : Addr) (ds : List PyData) : Prop := ∃ vs, H p = some (.lst vs) ∧ DpAll K H vs ds
def EdT (K : PySem.W.Frag) (te : TE) (σ : L2.St) (H : Hp) (ds : List PyData) : Prop := ∀ H1, Ex H H1 → ∀ Q : VK, (∀ p H2, Ex H1 H2 → Lm K H2 p ds → Q (.ref p) H2) → te σ H1 Q
def EdL (K : PySem.W.Frag) (te : TE) (σ : L2.St) (H : Hp) (ds : List PyData) : Prop := ∀ H1, Ex H H1 → ∀ Q : VK, (∀ p H2, Ex H1 H2 → H1 p = none → Lm K H2 p ds → Q (.ref p) H2) → te σ H1 Q
/-- all but what stands at p is as it was -/
def ExB (p : Addr) (H H' : Hp) : Prop := ∀ b o, b ≠ p → H b = some o → H' b = some o
def spL (K : PySem.W.Frag) {α : Type} (args : α → List PyData) (pre : α → Prop) (res : α → List PyData) : Sp := fun vs H Q _ => ∃ x, DpAll K H vs (args x) ∧ pre x ∧ ∀ p H', Ex H H' → H p = none → Lm K H' p (res x) → Q (.ref p) H'
section
variable {K : PySem.W.Frag} {σ : L2.St} {H H' : Hp} {ta tb tc te : TE} {t u : TT} {ts : TA} {d e : PyData} {v : V} {p : Addr} {ds es : List PyData}
theorem spL_len {α : Type} {args : α → List PyData} {pre : α → Prop} {res : α → List PyData} {n : Nat} (h : ∀ x, (args x).length = n) : ∀ vs H Q E, spL K args pre res vs H Q E → vs.length = n := fun vs H Q E ⟨x, hx, _⟩ => (dps_len hx).trans (h x)
theorem Lm.mono (e : Ex H H') (h : Lm K H p ds) : Lm K H' p ds := by
  obtain ⟨vs, h1, h2⟩ := h
  exact ⟨vs, e _ _ h1, dps_mono e h2⟩
theorem Lm.dp (h : Lm K H p ds) : Dp K H (.ref p) (.list ds) := by
  obtain ⟨vs, h1, h2⟩ := h
  exact .lst (sq_of h1) h2
theorem EdL.toT (h : EdL K te σ H ds) : EdT K te σ H ds := fun H1 e Q q => h H1 e Q fun p H2 e2 _ l => q p H2 e2 l
theorem EdT.toD (h : EdT K te σ H ds) : Ed K te σ H (.list ds) := fun H1 e Q q => h H1 e Q fun p H2 e2 l => q _ H2 e2 l.dp
theorem EdL.toD (h : EdL K te σ H ds) : Ed K te σ H (.list ds) := h.toT.toD
theorem EdL.cast (h : EdL K te σ H ds) (e : ds = es) : EdL K te σ H es := e ▸ h
theorem EdL.run {Q : VK} (h : EdL K te σ H ds) (k : ∀ p H2, Ex H H2 → H p = none → Lm K H2 p ds → Q (.ref p) H2) : te σ H Q := h H (Ex.refl H) Q k
theorem EdT.run {Q : VK} (h : EdT K te σ H ds) (k : ∀ p H2, Ex H H2 → Lm K H2 p ds → Q (.ref p) H2) : te σ H Q := h H (Ex.refl H) Q k
theorem edt_var {i : Nat} (h : σ[i]? = some (some (.ref p))) (l : Lm K H p ds) : EdT K (tVar i) σ H ds := fun H1 e Q q => ⟨_, h, q p H1 (Ex.refl H1) (l.mono e)⟩
theorem edl_lst (h : EdA K ts σ H ds) (hl : ds.length ≤ sizeLine := by (show _ ≤ 16777216; exact Nat.le_of_ble_eq_true rfl)) : EdL K (tLst ts) σ H ds := fun H1 e Q q =>
  h H1 e _ fun vs H2 e2 h2 => ⟨by rw [dps_len h2]; exact hl, fun p hp => q p _ (e2.trans (Ex.new hp)) (fresh_back e2 hp) ⟨vs, upd_same, dps_mono (Ex.new hp) h2⟩⟩
theorem edl_cat (ha : EdT K ta σ H ds) (hb : EdT K tb σ H es) (hl : ds.length + es.length ≤ sizeLine) : EdL K (tOp rCat ta tb) σ H (ds ++ es) := fun H1 e Q q =>
  ha H1 e _ fun p H2 e2 l1 => hb H2 (e.trans e2) _ fun p2 H3 e3 l2 => by
    obtain ⟨vs, a1, a2⟩ := l1.mono e3
    obtain ⟨us, b1, b2⟩ := l2
    exact ⟨p, p2, vs, us, rfl, rfl, a1, b1, by rw [dps_len a2, dps_len b2]; exact hl, fun r hr => q r _ ((e2.trans e3).trans (Ex.new hr)) (fresh_back (e2.trans e3) hr) ⟨_, upd_same, dps_mono (Ex.new hr) (dps_app a2 b2)⟩⟩
theorem edl_call {α : Type} {args : α → List PyData} {pre : α → Prop} {res : α → List PyData} (x : α) (h : EdA K ts σ H (args x)) (hp : pre x) : EdL K (tCall (spL K args pre res) [] E0 ts) σ H (res x) := fun H1 e Q q =>
  h H1 e _ fun vs H2 e2 h2 => ⟨x, by rw [List.append_nil]; exact h2, hp, fun p H3 e3 hn l => q p H3 (e2.trans e3) (fresh_back e2 hn) l⟩
theorem edl_listT (ha : Ed K ta σ H (.tuple ds)) : EdL K (tCB (fun xs H Q => ∃ p ys, xs = [.ref p] ∧ (SqL K H p ys ∨ SqT K H p ys) ∧ ∀ l, H l = none → Q (.ref l) (upd H l (.lst ys))) (tCons ta tNil)) σ H ds := fun H1 e Q q =>
  (eda_cons ha eda_nil) H1 e _ fun vs H2 e2 h2 => by
    obtain ⟨v, rfl, hv⟩ := dps_one h2
    obtain ⟨a, us, rfl, s1, a1⟩ := dp_tup hv
    exact ⟨a, us, rfl, .inr s1, fun l hl => q l _ (e2.trans (Ex.new hl)) (fresh_back e2 hl) ⟨us, upd_same, dps_mono (Ex.new hl) a1⟩⟩
theorem ExB.ex {H0 : Hp} (h0 : H0 p = none) (e : Ex H0 H) (b : ExB p H H') : Ex H0 H' := fun a o h => b a o (ne_of_none h h0) (e a o h)
theorem exB_upd {o : HO} : ExB p H (upd H p o) := fun b u hb h => by rw [upd_ne hb]; exact h
theorem ex_exB (e : Ex H H') : ExB p H H' := fun b o _ h => e b o h
theorem ExB.trans {H1 : Hp} (a : ExB p H H') (b : ExB p H' H1) : ExB p H H1 := fun x o hx h => b x o hx (a x o hx h)
/-! ### lists that change -/
variable {D : Ends} {t1 t2 : TS}
theorem seq_ed (h : t1 { D with nx := t2 D } σ H) : tSeq t1 t2 D σ H := h
theorem newl_ed {i : Nat} (h : EdL K te σ H ds) (k : ∀ p H', Ex H H' → H p = none → Lm K H' p ds → D.nx (σ.set i (some (.ref p))) H') : tAsg te (gName i) D σ H := h.run k
theorem app_ed {i : Nat} (hs : σ[i]? = some (some (.ref p))) (hL : Lm K H p ds) (hn : nols ds = true) (he : Ed K te σ H d) (nd : nol d = true) (hl : ds.length < sizeLine)
    (k : ∀ H', ExB p H H' → Im H H' → Lm K H' p (ds ++ [d]) → D.nx σ H') : tDrop (tBM K "list" rAppend (tVar i) (tCons te tNil)) D σ H := by
  obtain ⟨vs, h1, h2⟩ := hL
  refine ⟨_, hs, .inl ⟨rfl, vs, sq_of h1⟩, he.run fun v H2 e2 d2 => ?_⟩
  have h3 := e2 _ _ h1
  refine ⟨p, vs, v, rfl, rfl, h3, by rw [dps_len h2]; exact hl, k _ ((ex_exB e2).trans exB_upd) ((im_ex e2).trans (im_upd h3 rfl)) ⟨_, upd_same, ?_⟩⟩
  have im : Im H2 (upd H2 p (.lst (vs ++ [v]))) := im_upd h3 rfl
  exact dps_snoc (dps_im im hn (dps_mono e2 h2)) (dp_im im nd d2)
theorem ext_ed {i : Nat} (hs : σ[i]? = some (some (.ref p))) (hL : Lm K H p ds) (hn : nols ds = true) (he : EdT K te σ H es) (ne : nols es = true) (hl : ds.length + es.length ≤ sizeLine)
    (k : ∀ H', ExB p H H' → Im H H' → Lm K H' p (ds ++ es) → D.nx σ H') : tDrop (tBM K "list" rExtend (tVar i) (tCons te tNil)) D σ H := by
  obtain ⟨vs, h1, h2⟩ := hL
  refine ⟨_, hs, .inl ⟨rfl, vs, sq_of h1⟩, he.run fun q H2 e2 l2 => ?_⟩
  have h3 := e2 _ _ h1
  obtain ⟨us, u1, u2⟩ := l2
  refine ⟨p, q, vs, us, rfl, rfl, h3, u1, by rw [dps_len h2, dps_len u2]; exact hl, k _ ((ex_exB e2).trans exB_upd) ((im_ex e2).trans (im_upd h3 rfl)) ⟨_, upd_same, ?_⟩⟩
  have im : Im H2 (upd H2 p (.lst (vs ++ us))) := im_upd h3 rfl
  exact dps_app (dps_im im hn (dps_mono e2 h2)) (dps_im im ne u2)
theorem ins_ed {i n : Nat} (hs : σ[i]? = some (some (.ref p))) (hL : Lm K H p ds) (hn : nols ds = true) (h1 : Ed K ta σ H (.int n)) (h2 : Ed K tb σ H d) (nd : nol d = true) (hl : ds.length < sizeLine) (hn2 : (n : Int) < 2 ^ 63)
    (k : ∀ H', ExB p H H' → Im H H' → Lm K H' p (ds.take n ++ [d] ++ ds.drop n) → D.nx σ H') :
    tDrop (tBM K "list" (fun x vs H Q => ∃ (l : Addr) (xs : List V) (i : Int) (y : V), x = .ref l ∧ vs = [.int i, y] ∧ H l = some (.lst xs) ∧ xs.length < sizeLine ∧ 0 ≤ i ∧ i < 2 ^ 63 ∧
    Q .non (upd H l (.lst (xs.take i.toNat ++ [y] ++ xs.drop i.toNat)))) (tVar i) (tCons ta (tCons tb tNil))) D σ H := by
  obtain ⟨vs, v1, v2⟩ := hL
  refine ⟨_, hs, .inl ⟨rfl, vs, sq_of v1⟩, (eda_cons h1 (eda_cons h2 eda_nil)).run fun us H2 e2 dd => ?_⟩
  obtain ⟨a, y, rfl, da, dy⟩ := dps_two dd
  obtain rfl := dp_int da
  have h3 := e2 _ _ v1
  refine ⟨p, vs, n, y, rfl, rfl, h3, by rw [dps_len v2]; exact hl, Int.natCast_nonneg _, hn2, k _ ((ex_exB e2).trans exB_upd) ((im_ex e2).trans (im_upd h3 rfl)) ⟨_, upd_same, ?_⟩⟩
  have im : Im H2 (upd H2 p (.lst (vs.take (n : Int).toNat ++ [y] ++ vs.drop (n : Int).toNat))) := im_upd h3 rfl
  have q := dps_im im hn (dps_mono e2 v2)
  rw [Int.toNat_natCast]
  rw [Int.toNat_natCast] at q im
  exact dps_app (dps_app (dps_take n q) (.cons (dp_im im nd dy) .nil)) (dps_drop n q)
/-! ### while, for -/
theorem while_et {c : TT} {tb : TS} (Pv : Nat → L2.St → Hp → Prop) (h0 : ∃ m, Pv m σ H)
    (hs : ∀ m σ' H', Pv m σ' H' → ∃ b, Et K c σ' H' b ∧ (b = true → ∀ H2, Ex H' H2 → tb { D with nx := fun σ2 H3 => ∃ m', m' < m ∧ Pv m' σ2 H3, ct := fun σ2 H3 => ∃ m', m' < m ∧ Pv m' σ2 H3, bk := D.nx } σ' H2) ∧ (b = false → ∀ H2, Ex H' H2 → D.nx σ' H2)) :
    tWhile c tb D σ H := by
  refine ⟨Pv, h0, fun m σ' H' hp => ?_⟩
  obtain ⟨b, h1, h2, h3⟩ := hs m σ' H' hp
  refine h1.run fun H2 e2 => ?_
  cases b with
  | true =>
    show (if true = true then _ else _)
    rw [if_pos rfl]
    exact ⟨fun σ2 H3 => ∃ m', m' < m ∧ Pv m' σ2 H3, fun _ _ h => h, h2 rfl H2 e2⟩
  | false =>
    show (if false = true then _ else _)
    rw [if_neg Bool.false_ne_true]
    exact h3 rfl H2 e2
/-- a for over a list | a tuple of data -/
theorem for_dl {g : TG} {tb : TS} (he : Ed K ta σ H (.list ds)) (k : ∀ x H1, Ex H H1 → Dp K H1 x (.list ds) → ∃ Pv : Nat → L2.St → Hp → Prop, Pv 0 σ H1 ∧ (∀ i σ' H', i ≤ ds.length → Pv i σ' H' → Dp K H' x (.list ds)) ∧
      (∀ i d v σ' H', ds[i]? = some d → Dp K H' v d → Pv i σ' H' → g v σ' H' fun σ2 H2 => tb { D with nx := Pv (i + 1), ct := Pv (i + 1), bk := D.nx } σ2 H2) ∧ (∀ σ' H', Pv ds.length σ' H' → D.nx σ' H')) : tFor (iList K ta) g tb D σ H := by
  refine he.run fun x H1 e1 d1 => ?_
  obtain ⟨Pv, h0, hst, hs, hd⟩ := k x H1 e1 d1
  obtain ⟨a, vs, rfl, s1, a1⟩ := dp_lst d1
  refine ⟨a, rfl, ⟨vs, s1⟩, fun i m σ' H' => m = ds.length - i ∧ i ≤ ds.length ∧ Pv i σ' H', ⟨ds.length, by simp, Nat.zero_le _, h0⟩, ?_⟩
  rintro i m σ' H' ⟨rfl, hi, hp⟩
  have dd := hst i σ' H' hi hp
  obtain ⟨a', us, ea, s2, a2⟩ := dp_lst dd
  cases ea
  by_cases hlt : i < ds.length
  · obtain ⟨v, v1, v2⟩ := dps_get a2 (List.getElem?_eq_getElem hlt)
    refine .inr ⟨⟨us, v, s2, v1⟩, Pv (i + 1), fun σ2 H2 q => ⟨ds.length - (i + 1), by omega, rfl, hlt, q⟩, fun y H2 hy => ?_⟩
    obtain ⟨rfl, hy⟩ := hy
    have ey := hy us s2
    rw [v1] at ey
    cases ey
    exact hs i _ v σ' H2 (List.getElem?_eq_getElem hlt) v2 hp
  · have : i = ds.length := by omega
    subst this
    exact .inl ⟨⟨us, s2, by rw [dps_len a2]; exact Nat.le_refl _⟩, hd σ' H' hp⟩
theorem for_dt {g : TG} {tb : TS} (he : Ed K ta σ H (.tuple ds)) (k : ∀ x H1, Ex H H1 → Dp K H1 x (.tuple ds) → ∃ Pv : Nat → L2.St → Hp → Prop, Pv 0 σ H1 ∧ (∀ i σ' H', i ≤ ds.length → Pv i σ' H' → Dp K H' x (.tuple ds)) ∧
      (∀ i d v σ' H', ds[i]? = some d → Dp K H' v d → Pv i σ' H' → g v σ' H' fun σ2 H2 => tb { D with nx := Pv (i + 1), ct := Pv (i + 1), bk := D.nx } σ2 H2) ∧ (∀ σ' H', Pv ds.length σ' H' → D.nx σ' H')) : tFor (iTup K ta) g tb D σ H := by
  refine he.run fun x H1 e1 d1 => ?_
  obtain ⟨Pv, h0, hst, hs, hd⟩ := k x H1 e1 d1
  obtain ⟨a, vs, rfl, s1, a1⟩ := dp_tup d1
  refine ⟨a, rfl, ⟨vs, s1⟩, fun i m σ' H' => m = ds.length - i ∧ i ≤ ds.length ∧ Pv i σ' H', ⟨ds.length, by simp, Nat.zero_le _, h0⟩, ?_⟩
  rintro i m σ' H' ⟨rfl, hi, hp⟩
  have dd := hst i σ' H' hi hp
  obtain ⟨a', us, ea, s2, a2⟩ := dp_tup dd
  cases ea
  by_cases hlt : i < ds.length
  · obtain ⟨v, v1, v2⟩ := dps_get a2 (List.getElem?_eq_getElem hlt)
    refine .inr ⟨⟨us, v, s2, v1⟩, Pv (i + 1), fun σ2 H2 q => ⟨ds.length - (i + 1), by omega, rfl, hlt, q⟩, fun y H2 hy => ?_⟩
    obtain ⟨rfl, hy⟩ := hy
    have ey := hy us s2
    rw [v1] at ey
    cases ey
    exact hs i _ v σ' H2 (List.getElem?_eq_getElem hlt) v2 hp
  · have : i = ds.length := by omega
    subst this
    exact .inl ⟨⟨us, s2, by rw [dps_len a2]; exact Nat.le_refl _⟩, hd σ' H' hp⟩
/-! ### targets, comprehensions -/
def Tg (g : TG) (σ : L2.St) (H : Hp) (v : V) (σ2 : L2.St) : Prop := ∀ Q : L2.St → Hp → Prop, Q σ2 H → g v σ H Q
theorem tg_name {i : Nat} : Tg (gName i) σ H v (σ.set i (some v)) := fun _ q => q
theorem tg_two {i j : Nat} {a : Addr} {x y : V} (h : SqT K H a [x, y]) : Tg (gTup K 2 (gCons (gName i) (gCons (gName j) gNil))) σ H (.ref a) ((σ.set i (some x)).set j (some y)) := fun Q q => ⟨a, _, rfl, h, rfl, x, _, rfl, y, _, rfl, rfl, q⟩
theorem tg_three {i j l : Nat} {a : Addr} {x y z : V} (h : SqT K H a [x, y, z]) : Tg (gTup K 3 (gCons (gName i) (gCons (gName j) (gCons (gName l) gNil)))) σ H (.ref a) (((σ.set i (some x)).set j (some y)).set l (some z)) :=
  fun Q q => ⟨a, _, rfl, h, rfl, x, _, rfl, y, _, rfl, z, _, rfl, rfl, q⟩
theorem et_yes : Et K tYes σ H true := fun H1 e Q q => q H1 (Ex.refl H1)
/-- one turn's answer -/
structure Tu (K : PySem.W.Frag) (g : TG) (tt : TT) (te : TE) (ws : List Nat) (σ : L2.St) (H : Hp) (v : V) (b : Bool) (d : PyData) : Prop where
  ex : ∃ σ2, Tg g (wipe σ ws) H v σ2 ∧ wipe σ2 ws = wipe σ ws ∧ Et K tt σ2 H b ∧ (b = true → Ed K te σ2 H d ∧ nol d = true)
end
end Sw
set_option maxHeartbeats 200000
namespace Sw
abbrev Pt := Rat × Rat
def slopeB (a b : Pt) : Rat := (b.2 - a.2) / (b.1 - a.1)
/-- the slope behind the head -/
def hs : List Pt → Rat → Rat
  | a :: b :: _, _ => slopeB a b
  | _, s => s
def ev : List Pt → Rat → Rat → Rat
  | [], _, _ => 0
  | [a], s, x => a.2 + s * (x - a.1)
  | a :: b :: r, s, x => if x < b.1 then a.2 + slopeB a b * (x - a.1) else ev (b :: r) s x
def Srt : List Pt → Prop
  | a :: b :: r => a.1 < b.1 ∧ Srt (b :: r)
  | _ => True
def Can : List Pt → Rat → Prop
  | a :: b :: r, s => slopeB a b ≠ hs (b :: r) s ∧ Can (b :: r) s
  | _, _ => True
def Germ (f : Rat → Rat) (x a b : Rat) : Prop := ∃ e, 0 < e ∧ ∀ y, x ≤ y → y ≤ x + e → f y = a + b * y
def Aff (f : Rat → Rat) (u v : Rat) : Prop := ∃ a b, ∀ x, u ≤ x → x ≤ v → f x = a + b * x
def Ray (f : Rat → Rat) (u s : Rat) : Prop := ∃ a, ∀ x, u ≤ x → f x = a + s * x
theorem half_pos {a : Rat} (h : 0 < a) : 0 < a / 2 := by
  grind
theorem slopeB_mul {a b : Pt} (h : a.1 < b.1) : slopeB a b * (b.1 - a.1) = b.2 - a.2 := by
  unfold slopeB
  have : b.1 - a.1 ≠ 0 := by grind
  exact Rat.div_mul_cancel this
theorem slopeB_line {a b : Pt} {c m : Rat} (h : a.1 < b.1) (h1 : a.2 = c + m * a.1) (h2 : b.2 = c + m * b.1) : slopeB a b = m := by
  have e := slopeB_mul h
  have : b.1 - a.1 ≠ 0 := by grind
  have e2 : (slopeB a b - m) * (b.1 - a.1) = 0 := by grind
  rcases Rat.mul_eq_zero.mp e2 with h | h <;> grind
theorem line_two {a b a' b' u v : Rat} (huv : u < v) (h1 : a + b * u = a' + b' * u) (h2 : a + b * v = a' + b' * v) : a = a' ∧ b = b' := by
  have e2 : (b - b') * (v - u) = 0 := by grind
  have hb : b = b' := by rcases Rat.mul_eq_zero.mp e2 with h | h <;> grind
  subst hb
  exact ⟨by grind, rfl⟩
theorem Germ.unique {f : Rat → Rat} {x a b a' b' : Rat} (h : Germ f x a b) (h' : Germ f x a' b') : a = a' ∧ b = b' := by
  obtain ⟨e, he, h⟩ := h
  obtain ⟨e', he', h'⟩ := h'
  have : ∃ d, 0 < d ∧ d ≤ e ∧ d ≤ e' := by
    by_cases c : e ≤ e'
    · exact ⟨e, he, by grind, c⟩
    · exact ⟨e', he', by grind, by grind⟩
  obtain ⟨d, hd, d1, d2⟩ := this
  have q1 := h x (by grind) (by grind)
  have q2 := h (x + d) (by grind) (by grind)
  have q3 := h' x (by grind) (by grind)
  have q4 := h' (x + d) (by grind) (by grind)
  exact line_two (u := x) (v := x + d) (by grind) (by rw [← q1, q3]) (by rw [← q2, q4])
theorem Germ.congr {f g : Rat → Rat} {x a b : Rat} (h : Germ f x a b) (e : ∀ y, x ≤ y → g y = f y) : Germ g x a b := by
  obtain ⟨d, hd, h⟩ := h
  exact ⟨d, hd, fun y h1 h2 => by rw [e y h1, h y h1 h2]⟩
theorem ev_head {a : Pt} {r : List Pt} {s : Rat} (h : Srt (a :: r)) : ev (a :: r) s a.1 = a.2 := by
  cases r with
  | nil => simp only [ev]; grind
  | cons b r =>
    simp only [ev]
    rw [if_pos h.1]; grind
theorem ev_ge {a b : Pt} {r : List Pt} {s x : Rat} (h : b.1 ≤ x) : ev (a :: b :: r) s x = ev (b :: r) s x := by
  simp only [ev]
  rw [if_neg (by grind)]
theorem ev_germ {a : Pt} {r : List Pt} {s : Rat} (h : Srt (a :: r)) : Germ (ev (a :: r) s) a.1 (a.2 - hs (a :: r) s * a.1) (hs (a :: r) s) := by
  cases r with
  | nil => exact ⟨1, by decide, fun y h1 h2 => by simp only [ev, hs]; grind⟩
  | cons b r =>
    have h1 : a.1 < b.1 := h.1
    refine ⟨(b.1 - a.1) / 2, half_pos (by grind), fun y h2 h3 => ?_⟩
    have : y < b.1 := by grind
    simp only [ev, hs]
    rw [if_pos this]; grind
theorem ev_germ_mid {a b : Pt} {r : List Pt} {s x : Rat} (h1 : a.1 ≤ x) (h2 : x < b.1) : Germ (ev (a :: b :: r) s) x (a.2 - slopeB a b * a.1) (slopeB a b) := by
  refine ⟨(b.1 - x) / 2, half_pos (by grind), fun y h3 h4 => ?_⟩
  have : y < b.1 := by grind
  simp only [ev]
  rw [if_pos this]; grind
theorem uniq : ∀ (cs : List Pt) (a : Pt) (ds : List Pt) (b : Pt) (s t : Rat), Srt (a :: cs) → Srt (b :: ds) → Can (a :: cs) s → Can (b :: ds) t → a.1 = b.1 →
    (∀ x, a.1 ≤ x → ev (a :: cs) s x = ev (b :: ds) t x) → a :: cs = b :: ds ∧ s = t := by
  intro cs
  induction cs with
  | nil =>
    intro a ds b s t h1 h2 c1 c2 e1 e
    have ea : a.2 = b.2 := by
      have := e a.1 (by grind)
      rw [ev_head h1, e1, ev_head h2] at this
      exact this
    have eab : a = b := Prod.ext e1 ea
    subst eab
    have g1 := ev_germ (s := s) h1
    have g2 := (ev_germ (s := t) h2).congr e
    have es := (g1.unique g2).2
    cases ds with
    | nil => exact ⟨rfl, es⟩
    | cons c ds =>
      exfalso
      have h21 : a.1 < c.1 := h2.1
      have g3 := (ev_germ (s := t) h2.2)
      have g4 : Germ (ev [a] s) c.1 (c.2 - hs (c :: ds) t * c.1) (hs (c :: ds) t) := g3.congr fun y hy => by
        rw [e y (by grind), ev_ge hy]
      have g5 : Germ (ev [a] s) c.1 (a.2 - s * a.1) s := ⟨1, by decide, fun y h1 h2 => by simp only [ev]; grind⟩
      have e5 := (g4.unique g5).2
      exact c2.1 (by rw [e5]; exact es.symm)
  | cons c cs ih =>
    intro a ds b s t h1 h2 c1 c2 e1 e
    have ea : a.2 = b.2 := by
      have := e a.1 (by grind)
      rw [ev_head h1, e1, ev_head h2] at this
      exact this
    have eab : a = b := Prod.ext e1 ea
    subst eab
    have g1 := ev_germ (s := s) h1
    have g2 := (ev_germ (s := t) h2).congr e
    have es := (g1.unique g2).2
    have h11 : a.1 < c.1 := h1.1
    cases ds with
    | nil =>
      exfalso
      have g3 := (ev_germ (s := s) h1.2)
      have g4 : Germ (ev [a] t) c.1 (c.2 - hs (c :: cs) s * c.1) (hs (c :: cs) s) := g3.congr fun y hy => by
        rw [← e y (by grind), ev_ge hy]
      have g5 : Germ (ev [a] t) c.1 (a.2 - t * a.1) t := ⟨1, by decide, fun y h1 h2 => by simp only [ev]; grind⟩
      have e5 := (g4.unique g5).2
      exact c1.1 (by rw [e5]; exact es)
    | cons d ds =>
      have h21 : a.1 < d.1 := h2.1
      have esl : slopeB a c = slopeB a d := es
      by_cases k1 : c.1 < d.1
      · exfalso
        have g3 : Germ (ev (a :: c :: cs) s) c.1 (c.2 - hs (c :: cs) s * c.1) (hs (c :: cs) s) := (ev_germ (s := s) h1.2).congr fun y hy => ev_ge hy
        have g4 : Germ (ev (a :: c :: cs) s) c.1 _ (slopeB a d) := (ev_germ_mid (a := a) (b := d) (r := ds) (s := t) (x := c.1) (by grind) k1).congr fun y hy => e y (by grind)
        exact c1.1 (by rw [esl, (g3.unique g4).2])
      · by_cases k2 : d.1 < c.1
        · exfalso
          have g3 : Germ (ev (a :: d :: ds) t) d.1 (d.2 - hs (d :: ds) t * d.1) (hs (d :: ds) t) := (ev_germ (s := t) h2.2).congr fun y hy => ev_ge hy
          have g4 : Germ (ev (a :: d :: ds) t) d.1 _ (slopeB a c) := (ev_germ_mid (a := a) (b := c) (r := cs) (s := s) (x := d.1) (by grind) k2).congr fun y hy => (e y (by grind)).symm
          exact c2.1 (by rw [← esl, (g3.unique g4).2])
        · have k3 : c.1 = d.1 := by grind
          obtain ⟨q1, q2⟩ := ih c ds d s t h1.2 h2.2 c1.2 c2.2 k3 fun x hx => by
            have := e x (by grind)
            rw [ev_ge hx, ev_ge (by grind)] at this
            exact this
          exact ⟨by rw [q1], q2⟩
/-! ### canonical form -/
def canonGo : Pt → List Pt → Rat → List Pt
  | _, [], _ => []
  | k, h :: r, s => if slopeB k h ≠ hs (h :: r) s then h :: canonGo h r s else canonGo k r s
def canon : List Pt → Rat → List Pt
  | [], _ => []
  | a :: r, s => a :: canonGo a r s
theorem hs_drop {k h : Pt} {r : List Pt} {s : Rat} (hS : Srt (k :: h :: r)) (e : slopeB k h = hs (h :: r) s) : hs (k :: r) s = slopeB k h := by
  cases r with
  | nil => simp only [hs] at *; exact e.symm
  | cons n r =>
    simp only [hs] at *
    have h1 : k.1 < h.1 := hS.1
    have h2 : h.1 < n.1 := hS.2.1
    have e1 := slopeB_mul h1
    have e2 := slopeB_mul h2
    exact slopeB_line (c := k.2 - slopeB k h * k.1) (by grind) (by grind) (by grind)
theorem ev_drop {k h : Pt} {r : List Pt} {s x : Rat} (hS : Srt (k :: h :: r)) (e : slopeB k h = hs (h :: r) s) (hx : k.1 ≤ x) : ev (k :: r) s x = ev (k :: h :: r) s x := by
  have e3 := hs_drop hS e
  have h1 : k.1 < h.1 := hS.1
  have e1 := slopeB_mul h1
  cases r with
  | nil =>
    simp only [hs] at e e3
    simp only [ev]
    split <;> grind
  | cons n r =>
    have h2 : h.1 < n.1 := hS.2.1
    have e2 := slopeB_mul h2
    simp only [hs] at e e3
    by_cases c : x < n.1
    · simp only [ev]
      rw [if_pos c, if_pos c]
      split <;> grind
    · rw [ev_ge (by grind), ev_ge (by grind), ev_ge (by grind)]
theorem Srt.skip {k h : Pt} {r : List Pt} (hS : Srt (k :: h :: r)) : Srt (k :: r) := by
  cases r with
  | nil => trivial
  | cons n r => exact ⟨by have := hS.1; have := hS.2.1; grind, hS.2.2⟩
theorem ev_canonGo : ∀ (r : List Pt) (k : Pt) (s x : Rat), Srt (k :: r) → k.1 ≤ x → ev (k :: canonGo k r s) s x = ev (k :: r) s x := by
  intro r
  induction r with
  | nil => intro k s x _ _; rfl
  | cons h r ih =>
    intro k s x hS hx
    unfold canonGo
    by_cases c : slopeB k h ≠ hs (h :: r) s
    · rw [if_pos c]
      by_cases d : x < h.1
      · simp only [ev]
        rw [if_pos d, if_pos d]
      · rw [ev_ge (by grind), ev_ge (by grind)]
        exact ih h s x hS.2 (by grind)
    · rw [if_neg c]
      have c' : slopeB k h = hs (h :: r) s := by grind
      rw [ih k s x hS.skip hx]
      exact ev_drop hS c' hx
theorem hs_canonGo : ∀ (r : List Pt) (k : Pt) (s : Rat), Srt (k :: r) → hs (k :: canonGo k r s) s = hs (k :: r) s := by
  intro r
  induction r with
  | nil => intro k s _; rfl
  | cons h r ih =>
    intro k s hS
    unfold canonGo
    by_cases c : slopeB k h ≠ hs (h :: r) s
    · rw [if_pos c]; rfl
    · rw [if_neg c]
      have c' : slopeB k h = hs (h :: r) s := by grind
      rw [ih k s hS.skip]
      rw [hs_drop hS c']; rfl
theorem mem_canonGo : ∀ (r : List Pt) (k : Pt) (s : Rat) (p : Pt), p ∈ canonGo k r s → p ∈ r := by
  intro r
  induction r with
  | nil => intro k s p h; exact h
  | cons h r ih =>
    intro k s p hp
    unfold canonGo at hp
    split at hp
    · rcases List.mem_cons.mp hp with e | e
      · exact e ▸ List.mem_cons_self
      · exact List.mem_cons_of_mem _ (ih _ _ _ e)
    · exact List.mem_cons_of_mem _ (ih _ _ _ hp)
theorem len_canonGo : ∀ (r : List Pt) (k : Pt) (s : Rat), (canonGo k r s).length ≤ r.length := by
  intro r
  induction r with
  | nil => intro k s; exact Nat.le_refl _
  | cons h r ih =>
    intro k s
    unfold canonGo
    split
    · exact Nat.succ_le_succ (ih _ _)
    · exact Nat.le_succ_of_le (ih _ _)
theorem Srt.lt {k : Pt} : ∀ {r : List Pt} {p : Pt}, Srt (k :: r) → p ∈ r → k.1 < p.1 := by
  intro r
  induction r with
  | nil => intro p _ h; cases h
  | cons h r ih =>
    intro p hS hp
    rcases List.mem_cons.mp hp with e | e
    · rw [e]; exact hS.1
    · exact ih hS.skip e
theorem Srt.cons {k : Pt} {r : List Pt} (h : Srt r) (hl : ∀ p ∈ r, k.1 < p.1) : Srt (k :: r) := by
  cases r with
  | nil => trivial
  | cons a r => exact ⟨hl a List.mem_cons_self, h⟩
theorem Srt.tail {k : Pt} {r : List Pt} (h : Srt (k :: r)) : Srt r := by
  cases r with
  | nil => trivial
  | cons a r => exact h.2
theorem srt_canonGo : ∀ (r : List Pt) (k : Pt) (s : Rat), Srt (k :: r) → Srt (k :: canonGo k r s) := by
  intro r
  induction r with
  | nil => intro k s h; exact h
  | cons h r ih =>
    intro k s hS
    unfold canonGo
    split
    · exact ⟨hS.1, ih h s hS.2⟩
    · exact ih k s hS.skip
theorem can_canonGo : ∀ (r : List Pt) (k : Pt) (s : Rat), Srt (k :: r) → Can (k :: canonGo k r s) s := by
  intro r
  induction r with
  | nil => intro k s h; trivial
  | cons h r ih =>
    intro k s hS
    unfold canonGo
    by_cases c : slopeB k h ≠ hs (h :: r) s
    · rw [if_pos c]
      refine ⟨?_, ih h s hS.2⟩
      rw [hs_canonGo r h s hS.2]; exact c
    · rw [if_neg c]
      exact ih k s hS.skip
/-! ### interpolation -/
def Interp (f : Rat → Rat) (s : Rat) : List Rat → Prop
  | [] => False
  | [l] => Ray f l s
  | l :: l' :: r => Aff f l l' ∧ Interp f s (l' :: r)
def SR (l : List Rat) : Prop := l.Pairwise (· < ·)
theorem srt_map {f : Rat → Rat} : ∀ {l : List Rat}, SR l → Srt (l.map fun x => (x, f x)) := by
  intro l
  induction l with
  | nil => intro _; trivial
  | cons a l ih =>
    intro h
    obtain ⟨h1, h2⟩ := List.pairwise_cons.mp h
    refine Srt.cons (ih h2) fun p hp => ?_
    obtain ⟨x, hx, rfl⟩ := List.mem_map.mp hp
    exact h1 x hx
theorem ev_interp {f : Rat → Rat} {s : Rat} : ∀ {r : List Rat} {l : Rat}, SR (l :: r) → Interp f s (l :: r) → ∀ x, l ≤ x → ev ((l :: r).map fun x => (x, f x)) s x = f x := by
  intro r
  induction r with
  | nil =>
    intro l _ h x hx
    obtain ⟨a, h⟩ := h
    simp only [List.map, ev]
    rw [h l (by grind), h x hx]; grind
  | cons l' r ih =>
    intro l hS h x hx
    obtain ⟨⟨a, b, h1⟩, h2⟩ := h
    obtain ⟨q1, q2⟩ := List.pairwise_cons.mp hS
    have hl : l < l' := q1 l' List.mem_cons_self
    simp only [List.map, ev]
    by_cases c : x < l'
    · rw [if_pos c]
      have e : slopeB (l, f l) (l', f l') = b := slopeB_line (c := a) hl (h1 l (by grind) (by grind)) (h1 l' (by grind) (by grind))
      rw [e, h1 x hx (by grind)]
      have := h1 l (by grind) (by grind)
      grind
    · rw [if_neg c]
      exact ih q2 h2 x (by grind)
theorem interp_of {f : Rat → Rat} {s lo : Rat} {C : Rat → Prop} (H1 : ∀ u v, lo ≤ u → u < v → (∀ w, C w → w ≤ u ∨ v ≤ w) → Aff f u v) (H2 : ∀ u, lo ≤ u → (∀ w, C w → w ≤ u) → Ray f u s) :
    ∀ (ls : List Rat) (l : Rat), SR (l :: ls) → lo ≤ l → (∀ w, C w → w ≤ l ∨ w ∈ ls) → Interp f s (l :: ls) := by
  intro ls
  induction ls with
  | nil =>
    intro l _ hl hC
    exact H2 l hl fun w hw => by
      rcases hC w hw with h | h
      · exact h
      · cases h
  | cons l' r ih =>
    intro l hS hl hC
    obtain ⟨q1, q2⟩ := List.pairwise_cons.mp hS
    have hll : l < l' := q1 l' List.mem_cons_self
    obtain ⟨q3, q4⟩ := List.pairwise_cons.mp q2
    refine ⟨H1 l l' hl hll fun w hw => ?_, ih l' q2 (by grind) fun w hw => ?_⟩
    · rcases hC w hw with h | h
      · exact .inl h
      · rcases List.mem_cons.mp h with e | e
        · right; grind
        · right; have := q3 w e; grind
    · rcases hC w hw with h | h
      · left; grind
      · rcases List.mem_cons.mp h with e | e
        · left; grind
        · exact .inr e
theorem ev_aff : ∀ {r : List Pt} {a : Pt} {s u v : Rat}, Srt (a :: r) → a.1 ≤ u → u < v → (∀ c ∈ r, c.1 ≤ u ∨ v ≤ c.1) → Aff (ev (a :: r) s) u v := by
  intro r
  induction r with
  | nil => intro a s u v _ _ _ _; exact ⟨a.2 - s * a.1, s, fun x _ _ => by simp only [ev]; grind⟩
  | cons b r ih =>
    intro a s u v hS h1 h2 h3
    have hab : a.1 < b.1 := hS.1
    rcases h3 b List.mem_cons_self with h | h
    · obtain ⟨p, q, h4⟩ := ih (s := s) hS.2 h h2 fun c hc => h3 c (List.mem_cons_of_mem _ hc)
      exact ⟨p, q, fun x hx hx2 => by rw [ev_ge (by grind)]; exact h4 x hx hx2⟩
    · refine ⟨a.2 - slopeB a b * a.1, slopeB a b, fun x hx hx2 => ?_⟩
      by_cases c : x < b.1
      · simp only [ev]
        rw [if_pos c]; grind
      · have : x = b.1 := by grind
        rw [this, ev_ge (by grind), ev_head hS.2]
        have := slopeB_mul hab
        grind
theorem ev_ray : ∀ {r : List Pt} {a : Pt} {s u : Rat}, Srt (a :: r) → a.1 ≤ u → (∀ c ∈ r, c.1 ≤ u) → Ray (ev (a :: r) s) u s := by
  intro r
  induction r with
  | nil => intro a s u _ _ _; exact ⟨a.2 - s * a.1, fun x _ => by simp only [ev]; grind⟩
  | cons b r ih =>
    intro a s u hS h1 h3
    have hb := h3 b List.mem_cons_self
    obtain ⟨p, h4⟩ := ih (s := s) hS.2 hb fun c hc => h3 c (List.mem_cons_of_mem _ hc)
    exact ⟨p, fun x hx => by rw [ev_ge (by grind)]; exact h4 x hx⟩
/-! ### a curve of a function -/
structure IsCv (cs : List Pt) (s : Rat) (f : Rat → Rat) : Prop where
  head : ∃ r, cs = (0, 0) :: r
  srt : Srt cs
  can : Can cs s
  eq : ∀ x, 0 ≤ x → ev cs s x = f x
theorem IsCv.unique {cs ds : List Pt} {s t : Rat} {f g : Rat → Rat} (h : IsCv cs s f) (h' : IsCv ds t g) (e : ∀ x, 0 ≤ x → f x = g x) : cs = ds ∧ s = t := by
  obtain ⟨⟨r, rfl⟩, h1, h2, h3⟩ := h
  obtain ⟨⟨q, rfl⟩, k1, k2, k3⟩ := h'
  exact uniq r (0,0) q (0,0) s t h1 k1 h2 k2 rfl fun x hx => by
    have hx' : (0 : Rat) ≤ x := hx
    rw [h3 x hx', k3 x hx', e x hx']
theorem IsCv.congr {cs : List Pt} {s : Rat} {f g : Rat → Rat} (h : IsCv cs s f) (e : ∀ x, 0 ≤ x → f x = g x) : IsCv cs s g :=
  ⟨h.head, h.srt, h.can, fun x hx => by rw [h.eq x hx, e x hx]⟩
theorem isCv_canon {r : List Pt} {s : Rat} {f : Rat → Rat} (h1 : Srt ((0,0) :: r)) (h : ∀ x, 0 ≤ x → ev ((0,0) :: r) s x = f x) : IsCv (canon ((0,0) :: r) s) s f :=
  ⟨⟨_, rfl⟩, srt_canonGo r _ s h1, can_canonGo r _ s h1, fun x hx => (ev_canonGo r (0,0) s x h1 hx).trans (h x hx)⟩
theorem isCv_interp {r : List Rat} {s : Rat} {f : Rat → Rat} (h0 : f 0 = 0) (hS : SR (0 :: r)) (h : Interp f s (0 :: r)) : IsCv (canon ((0 :: r).map fun x => (x, f x)) s) s f := by
  have e : ((0 :: r).map fun x => (x, f x)) = (0,0) :: r.map fun x => (x, f x) := by
    rw [List.map_cons, h0]
  have hs1 := srt_map (f := f) hS
  have hi := ev_interp hS h
  rw [e] at hs1 hi ⊢
  exact isCv_canon hs1 hi
end Sw
namespace Sw
/-! sizes of fractions -/
def Fine (B : Nat) (q : Rat) : Prop := q.num.natAbs < 2 ^ B ∧ q.den < 2 ^ B
theorem Fine.mono {a b : Nat} {q : Rat} (h : Fine a q) (hab : a ≤ b) : Fine b q :=
  ⟨Nat.lt_of_lt_of_le h.1 (Nat.pow_le_pow_right (by decide) hab), Nat.lt_of_lt_of_le h.2 (Nat.pow_le_pow_right (by decide) hab)⟩
theorem natAbs_ediv_le (n : Int) (g : Nat) : (n / (g : Int)).natAbs ≤ n.natAbs ∨ g = 0 := by
  by_cases h : g = 0
  · exact .inr h
  · left
    exact Int.natAbs_ediv_le_natAbs ..
theorem fine_mkRat {n : Int} {d B : Nat} (hd : 0 < d) (hn : n.natAbs < 2 ^ B) (hd2 : d < 2 ^ B) : Fine B (mkRat n d) := by
  have hd0 : d ≠ 0 := by omega
  constructor
  · rw [Rat.num_mkRat, if_neg hd0]
    exact Nat.lt_of_le_of_lt (Int.natAbs_ediv_le_natAbs ..) hn
  · rw [Rat.den_mkRat, if_neg hd0]
    exact Nat.lt_of_le_of_lt (Nat.div_le_self ..) hd2
theorem nat_mul_lt {a b m n : Nat} (ha : a < 2 ^ m) (hb : b < 2 ^ n) : a * b < 2 ^ (m + n) := by
  rw [Nat.pow_add]
  exact Nat.mul_lt_mul'' ha hb
theorem int_mul_lt {a b : Int} {m n : Nat} (ha : a.natAbs < 2 ^ m) (hb : b.natAbs < 2 ^ n) : (a * b).natAbs < 2 ^ (m + n) := by
  rw [Int.natAbs_mul]
  exact nat_mul_lt ha hb
theorem int_add_lt {a b : Int} {m : Nat} (ha : a.natAbs < 2 ^ m) (hb : b.natAbs < 2 ^ m) : (a + b).natAbs < 2 ^ (m + 1) := by
  rw [Nat.pow_succ]
  have := Int.natAbs_add_le a b
  omega
theorem int_sub_lt {a b : Int} {m : Nat} (ha : a.natAbs < 2 ^ m) (hb : b.natAbs < 2 ^ m) : (a - b).natAbs < 2 ^ (m + 1) := by
  rw [Nat.pow_succ]
  omega
theorem Fine.add {a b : Nat} {p q : Rat} (h : Fine a p) (k : Fine b q) : Fine (a + b + 1) (p + q) := by
  rw [Rat.add_def']
  have h1 : (p.num * (q.den : Int)).natAbs < 2 ^ (a + b) := int_mul_lt h.1 k.2
  have h2 : (q.num * (p.den : Int)).natAbs < 2 ^ (a + b) := by rw [Nat.add_comm]; exact int_mul_lt k.1 h.2
  refine fine_mkRat (Nat.mul_pos p.den_pos q.den_pos) (int_add_lt h1 h2) ?_
  exact Nat.lt_of_lt_of_le (nat_mul_lt h.2 k.2) (Nat.pow_le_pow_right (by decide) (Nat.le_succ _))
theorem Fine.sub {a b : Nat} {p q : Rat} (h : Fine a p) (k : Fine b q) : Fine (a + b + 1) (p - q) := by
  rw [Rat.sub_def']
  have h1 : (p.num * (q.den : Int)).natAbs < 2 ^ (a + b) := int_mul_lt h.1 k.2
  have h2 : (q.num * (p.den : Int)).natAbs < 2 ^ (a + b) := by rw [Nat.add_comm]; exact int_mul_lt k.1 h.2
  refine fine_mkRat (Nat.mul_pos p.den_pos q.den_pos) (int_sub_lt h1 h2) ?_
  exact Nat.lt_of_lt_of_le (nat_mul_lt h.2 k.2) (Nat.pow_le_pow_right (by decide) (Nat.le_succ _))
theorem Fine.mul {a b : Nat} {p q : Rat} (h : Fine a p) (k : Fine b q) : Fine (a + b) (p * q) := by
  rw [Rat.mul_def']
  exact fine_mkRat (Nat.mul_pos p.den_pos q.den_pos) (int_mul_lt h.1 k.1) (nat_mul_lt h.2 k.2)
theorem div_mkRat {p q : Rat} (hq : 0 < q) : p / q = mkRat (p.num * q.den) (p.den * q.num.toNat) := by
  have hn : 0 < q.num := by
    have := (Rat.lt_iff 0 q).mp hq
    simpa using this
  have h1 : q⁻¹.num = q.den := by rw [Rat.num_inv, Int.sign_eq_one_of_pos hn, Int.one_mul]
  have h2 : q⁻¹.den = q.num.toNat := by
    rw [Rat.den_inv, if_neg (by omega)]; omega
  rw [Rat.div_def, Rat.mul_def', h1, h2]
theorem num_pos {q : Rat} (hq : 0 < q) : 0 < q.num := by
  have := (Rat.lt_iff 0 q).mp hq
  simpa using this
theorem Fine.div {a b : Nat} {p q : Rat} (h : Fine a p) (k : Fine b q) (hq : 0 < q) : Fine (a + b) (p / q) := by
  rw [div_mkRat hq]
  have hn := num_pos hq
  have k1 : q.num.toNat < 2 ^ b := by have := k.1; omega
  exact fine_mkRat (Nat.mul_pos p.den_pos (by omega)) (int_mul_lt h.1 k.2) (nat_mul_lt h.2 k1)
def rsum : List Rat → Rat := List.foldl (· + ·) 0
theorem foldl_add (a : Rat) : ∀ l : List Rat, l.foldl (· + ·) a = a + rsum l
  | [] => by simp only [List.foldl, rsum]; grind
  | x :: l => by
    have h1 := foldl_add (a + x) l
    have h2 := foldl_add (0 + x) l
    simp only [List.foldl, rsum] at *
    rw [h1, h2]; grind
theorem rsum_nil : rsum [] = 0 := rfl
theorem rsum_cons (x : Rat) (l : List Rat) : rsum (x :: l) = x + rsum l := by
  show l.foldl (· + ·) (0 + x) = _
  rw [foldl_add]; grind
theorem rsum_append (l m : List Rat) : rsum (l ++ m) = rsum l + rsum m := by
  induction l with
  | nil => simp only [List.nil_append, rsum_nil]; grind
  | cons x l ih => rw [List.cons_append, rsum_cons, rsum_cons, ih]; grind
theorem fine_zero : Fine 1 0 := ⟨by decide, by decide⟩
theorem fine_rsum {B : Nat} : ∀ {l : List Rat}, (∀ q ∈ l, Fine B q) → Fine (l.length * (B + 1) + 1) (rsum l)
  | [], _ => fine_zero.mono (by omega)
  | x :: l, h => by
    rw [rsum_cons]
    refine ((h x List.mem_cons_self).add (fine_rsum (l := l) fun q hq => h q (List.mem_cons_of_mem _ hq))).mono ?_
    rw [List.length_cons, Nat.succ_mul]; omega
/-- -1, 0 or 1 -/
def cmpR (p q : Rat) : Int := (if q < p then 1 else 0) - (if p < q then 1 else 0)
theorem cmpR_neg {p q : Rat} : cmpR p q < 0 ↔ p < q := by
  unfold cmpR
  split <;> split <;> grind
theorem cmpR_le {p q : Rat} : cmpR p q ≤ 0 ↔ p ≤ q := by
  unfold cmpR
  split <;> split <;> grind
theorem cmpR_pos {p q : Rat} : 0 < cmpR p q ↔ q < p := by
  unfold cmpR
  split <;> split <;> grind
end Sw
set_option maxHeartbeats 4000000
namespace Sw
open PySem PySem.Spec PyProof.Rows L2 Evl SwT
/-- a fraction as data -/
abbrev fr (q : Rat) : PyData := .tuple [.int q.num, .int (q.den : Int)]
theorem cmul {i j : Int} {a b : Nat} (hi : i.natAbs < 2 ^ a) (hj : j.natAbs < 2 ^ b) (h : a + b ≤ 900000 := by decide) : CMulW i j :=
  wide_mul (a := a + 1) (b := b + 1) (Nat.lt_of_lt_of_le hi (Nat.pow_le_pow_right (by decide) (Nat.le_succ _))) (Nat.lt_of_lt_of_le hj (Nat.pow_le_pow_right (by decide) (Nat.le_succ _))) (Nat.succ_pos _) (Nat.succ_pos _) (by omega)
theorem fr_mk {n : Int} {d : Nat} (h : 0 < d) : fr (mkRat n d) = .tuple [.int (n / ((Nat.gcd n.natAbs d : Nat) : Int)), .int ((d : Int) / ((Nat.gcd n.natAbs d : Nat) : Int))] := by
  have h0 : d ≠ 0 := by omega
  have e1 : (mkRat n d).num = n / ((Nat.gcd n.natAbs d : Nat) : Int) := by rw [Rat.num_mkRat, if_neg h0, Nat.gcd_comm]
  have e2 : (((mkRat n d).den : Nat) : Int) = (d : Int) / ((Nat.gcd n.natAbs d : Nat) : Int) := by rw [Rat.den_mkRat, if_neg h0, Nat.gcd_comm]; exact Int.natCast_ediv ..
  rw [fr, e1, e2]
section
variable {P : Program} {w : World} {K : PySem.W.Frag} {mg : Str → Option Value} {base : Heap}
theorem sc_common_divisor : FnScope ["one", "other"] ["one", "other"] (defScope s_common_divisor) := ⟨rfl, rfl, rfl, by decide +kernel, rfl, by decide +kernel, by decide +kernel⟩
abbrev Cf_common_divisor (P w K mg base) := Cal P w K mg base "common_divisor" 1 ["one", "other"] (spF K (fun x : Nat × Nat => [.int x.1, .int x.2]) (fun _ => True) fun x => .int (Nat.gcd x.1 x.2))
theorem ok_common_divisor (T : Tx w K mg) : Cf_common_divisor P w K mg base := by
  refine T.cal (d := d_common_divisor) 0 0 rfl rfl rfl rfl rfl sc_common_divisor (fun _ _ _ _ _ _ us hl => match us, hl with | [_, _], _ => rfl) (spF_len fun _ => rfl) fun f cdv A outer s H vs Q E hr h => ⟨_, (pss_cons (ps_while PassesOwn.never (pt_cmpR (op_neD hr.units) (pv 1) pe_int (nomark _)) (pss_one (ps_par (i := 0) (j := 1) rfl sc_common_divisor.nd rfl rfl (by decide) rfl rfl (pa_cons (pv 1) (pa_cons (pe_op op_mod (pe_callTy call_int1 (by rfl) T.f_int (by decide +kernel) (pa_cons (pv 0) pa_nil)) (pv 1)) pa_nil)) (by rfl))))
      (pss_one (ps_ret (pv 0)))), ?_⟩
  obtain ⟨⟨a, b⟩, hd, _, k⟩ := h
  obtain ⟨v, u, rfl, h1, h2⟩ := dps_two hd
  obtain rfl := dp_int h1
  obtain rfl := dp_int h2
  refine seq_ed (while_et (K := K) (fun y σ H' => ∃ x : Nat, σ = [some (.int x), some (.int y)] ∧ Nat.gcd x y = Nat.gcd a b ∧ Ex H H') ⟨b, a, rfl, rfl, Ex.refl H⟩ ?_)
  rintro y σ H' ⟨x, rfl, hg, e⟩
  refine ⟨_, et_test (K := K) (ed_neD (ed_var rfl (.int _)) ed_int rfl rfl), fun hb H2 e2 => ?_, fun hb H2 e2 => ?_⟩
  · have hy : 0 < y := by
      have : y ≠ 0 := fun z => by subst z; simp [PyData.eqv] at hb
      omega
    refine par_ed (K := K) (eda_cons (ed_var rfl (.int _)) (eda_cons (ed_mod (ed_toint (ed_var rfl (.int _))) (ed_var rfl (.int _)) (by omega)) eda_nil)) fun v u H3 e3 d1 d2 => ?_
    obtain rfl := dp_int d1
    obtain rfl := dp_int d2
    refine ⟨x % y, Nat.mod_lt _ hy, y, by rw [Int.natCast_emod]; rfl, ?_, (e.trans e2).trans e3⟩
    rw [← hg, Nat.gcd_comm x y, Nat.gcd_rec y x, Nat.gcd_comm]
  · have hy : y = 0 := by
      have : (PyData.int (y : Int)).eqv (.int 0) = true := by simpa using hb
      simpa [PyData.eqv] using this
    subst hy
    rw [Nat.gcd_zero_right] at hg
    exact ret_ed (K := K) (ed_var rfl (.int _)) fun v H3 e3 d => k v H3 ((e.trans e2).trans e3) (by show Dp K H3 v (.int ((Nat.gcd a b : Nat) : Int)); rw [← hg]; exact d)
theorem sc_reduced : FnScope ["n", "d", "shared"] ["n", "d"] (defScope s_reduced) := ⟨rfl, rfl, rfl, by decide +kernel, rfl, by decide +kernel, by decide +kernel⟩
abbrev Cf_reduced (P w K mg base) := Cal P w K mg base "reduced" 2 ["n", "d"] (spF K (fun x : Int × Nat => [.int x.1, .int x.2]) (fun x => 0 < x.2 ∧ x.2 < 2 ^ 9000) fun x => fr (mkRat x.1 x.2))
theorem ok_reduced (T : Tx w K mg) (C_common_divisor : Cf_common_divisor P w K mg base) : Cf_reduced P w K mg base := by
  refine T.cal (d := d_reduced) 1 1 rfl rfl rfl rfl rfl sc_reduced (fun _ _ _ _ _ _ us hl => match us, hl with | [_, _], _ => rfl) (spF_len fun _ => rfl) fun f cdv A outer s H vs Q E hr h => ⟨_, (pss_cons (ps_set (i := 2) sc_reduced.nd rfl (by first | exact Or.inl rfl | exact Or.inr rfl) (pe_cc C_common_divisor (hr.mono (by decide)) (by rfl) (pa_cons (pe_callB call_abs (by rfl) T.f_abs (by decide +kernel) (pa_cons (pv 0) pa_nil)) (pa_cons (pe_callB call_abs (by rfl) T.f_abs (by decide +kernel) (pa_cons (pv 1) pa_nil)) pa_nil))))
      (pss_cons (ps_set (i := 2) sc_reduced.nd rfl (by first | exact Or.inl rfl | exact Or.inr rfl) (pe_ifExp (pt_cmpR op_gt (pv 1) pe_int (nomark _)) (pv 2) (pe_op op_sub pe_int (pv 2))))
      (pss_one (ps_ret (pe_tup (pa_cons (pe_op op_fdivW (pv 0) (pv 2)) (pa_cons (pe_op op_fdivW (pv 1) (pv 2)) pa_nil))))))), ?_⟩
  obtain ⟨⟨n, d⟩, hd, ⟨hp, hs⟩, k⟩ := h
  obtain ⟨v, u, rfl, h1, h2⟩ := dps_two hd
  obtain rfl := dp_int h1
  obtain rfl := dp_int h2
  refine seq_ed (set_ed (ed_call (n.natAbs, d) (eda_cons (ed_abs (ed_var rfl (.int _))) (eda_cons ((ed_abs (ed_var rfl (.int _))).cast (congrArg PyData.int (by simp))) eda_nil)) trivial) fun g H1 e1 dg => ?_)
  obtain rfl := dp_int dg
  refine seq_ed (set_ed (K := K) (ed_if (et_test (ed_gt (ed_var rfl (.int _)) ed_int)) (fun _ => ed_var rfl (.int _)) fun hb => ?_) fun g H2 e2 dg => ?_)
  · have : (0 : Int) < d := by omega
    simp [hp] at hb
  obtain rfl := dp_int dg
  have hg : 0 < Nat.gcd n.natAbs d := Nat.gcd_pos_of_pos_right _ hp
  have hl : Nat.gcd n.natAbs d < 2 ^ 9000 := Nat.lt_of_le_of_lt (Nat.gcd_le_right _ hp) hs
  have hc : ∀ i, CDivW i ((Nat.gcd n.natAbs d : Nat) : Int) := fun i => wide_div (b := 9000) (by omega) (by rw [Int.natAbs_natCast]; exact hl) (by decide) (by decide)
  refine ret_ed (K := K) (ed_tup (eda_cons (ed_div (ed_var rfl (.int _)) (ed_var rfl (.int _)) (hc _)) (eda_cons (ed_div (ed_var rfl (.int _)) (ed_var rfl (.int _)) (hc _)) eda_nil))) fun v H3 e3 dv => ?_
  exact k v H3 ((e1.trans e2).trans e3) (by show Dp K H3 v (fr (mkRat n d)); rw [fr_mk hp]; exact dv)
end
end Sw
namespace Sw
open PySem PySem.Spec PyProof.Rows L2 Evl SwT
def FB : Nat := 4000
theorem fb_two : FB + FB ≤ 9000 := by decide
theorem fden {B : Nat} {q : Rat} (h : Fine B q) : ((q.den : Nat) : Int).natAbs < 2 ^ B := by rw [Int.natAbs_natCast]; exact h.2
theorem den2 {p q : Rat} (hp : Fine FB p) (hq : Fine FB q) : 0 < p.den * q.den ∧ p.den * q.den < 2 ^ 9000 :=
  ⟨Nat.mul_pos p.den_pos q.den_pos, Nat.lt_of_lt_of_le (nat_mul_lt hp.2 hq.2) (Nat.pow_le_pow_right (by decide) fb_two)⟩
section
variable {P : Program} {w : World} {K : PySem.W.Frag} {mg : Str → Option Value} {base : Heap}
/-- of two fractions -/
abbrev sp2 (K : PySem.W.Frag) (res : Rat → Rat → PyData) : Sp := spF K (fun x : Rat × Rat => [fr x.1, fr x.2]) (fun x => Fine FB x.1 ∧ Fine FB x.2) fun x => res x.1 x.2
theorem sc_added : FnScope ["one", "other"] ["one", "other"] (defScope s_added) := ⟨rfl, rfl, rfl, by decide +kernel, rfl, by decide +kernel, by decide +kernel⟩
abbrev Cf_added (P w K mg base) := Cal P w K mg base "added" 3 ["one", "other"] (sp2 K fun p q => fr (p + q))
theorem ok_added (T : Tx w K mg) (C_reduced : Cf_reduced P w K mg base) : Cf_added P w K mg base := by
  refine T.cal (d := d_added) 2 2 rfl rfl rfl rfl rfl sc_added (fun _ _ _ _ _ _ us hl => match us, hl with | [_, _], _ => rfl) (spF_len fun _ => rfl) fun f cdv A outer s H vs Q E hr h => ⟨_, (pss_one (ps_ret (pe_cc C_reduced (hr.mono (by decide)) (by rfl) (pa_cons (pe_op op_add (pe_op op_mulW (pe_ix ix_seq (pv 0) pe_int (fun _ _ => rfl)) (pe_ix ix_seq (pv 1) pe_int (fun _ _ => rfl))) (pe_op op_mulW (pe_ix ix_seq (pv 1) pe_int (fun _ _ => rfl)) (pe_ix ix_seq (pv 0) pe_int (fun _ _ => rfl)))) (pa_cons (pe_op op_mulW (pe_ix ix_seq (pv 0) pe_int (fun _ _ => rfl)) (pe_ix ix_seq (pv 1) pe_int (fun _ _ => rfl))) pa_nil))))), ?_⟩
  obtain ⟨⟨p, q⟩, hd, ⟨hp, hq⟩, k⟩ := h
  obtain ⟨v, u, rfl, h1, h2⟩ := dps_two hd
  refine ret_ed (ed_call (p.num * q.den + q.num * p.den, p.den * q.den) (eda_cons (ed_add (ed_mul (ed_ixT (ed_var rfl h1) ed_int rfl) (ed_ixT (ed_var rfl h2) ed_int rfl) (cmul hp.1 (fden hq)))
    (ed_mul (ed_ixT (ed_var rfl h2) ed_int rfl) (ed_ixT (ed_var rfl h1) ed_int rfl) (cmul hq.1 (fden hp)))) (eda_cons ((ed_mul (ed_ixT (ed_var rfl h1) ed_int rfl) (ed_ixT (ed_var rfl h2) ed_int rfl) (cmul (fden hp) (fden hq))).cast
      (congrArg PyData.int (Int.natCast_mul ..).symm)) eda_nil)) (den2 hp hq)) fun v H3 e3 dv => ?_
  exact k v H3 e3 (by show Dp K H3 v (fr (p + q)); rw [Rat.add_def']; exact dv)
theorem sc_lessened : FnScope ["one", "other"] ["one", "other"] (defScope s_lessened) := ⟨rfl, rfl, rfl, by decide +kernel, rfl, by decide +kernel, by decide +kernel⟩
abbrev Cf_lessened (P w K mg base) := Cal P w K mg base "lessened" 3 ["one", "other"] (sp2 K fun p q => fr (p - q))
theorem ok_lessened (T : Tx w K mg) (C_reduced : Cf_reduced P w K mg base) : Cf_lessened P w K mg base := by
  refine T.cal (d := d_lessened) 3 3 rfl rfl rfl rfl rfl sc_lessened (fun _ _ _ _ _ _ us hl => match us, hl with | [_, _], _ => rfl) (spF_len fun _ => rfl) fun f cdv A outer s H vs Q E hr h => ⟨_, (pss_one (ps_ret (pe_cc C_reduced (hr.mono (by decide)) (by rfl) (pa_cons (pe_op op_sub (pe_op op_mulW (pe_ix ix_seq (pv 0) pe_int (fun _ _ => rfl)) (pe_ix ix_seq (pv 1) pe_int (fun _ _ => rfl))) (pe_op op_mulW (pe_ix ix_seq (pv 1) pe_int (fun _ _ => rfl)) (pe_ix ix_seq (pv 0) pe_int (fun _ _ => rfl)))) (pa_cons (pe_op op_mulW (pe_ix ix_seq (pv 0) pe_int (fun _ _ => rfl)) (pe_ix ix_seq (pv 1) pe_int (fun _ _ => rfl))) pa_nil))))), ?_⟩
  obtain ⟨⟨p, q⟩, hd, ⟨hp, hq⟩, k⟩ := h
  obtain ⟨v, u, rfl, h1, h2⟩ := dps_two hd
  refine ret_ed (ed_call (p.num * q.den - q.num * p.den, p.den * q.den) (eda_cons (ed_sub (ed_mul (ed_ixT (ed_var rfl h1) ed_int rfl) (ed_ixT (ed_var rfl h2) ed_int rfl) (cmul hp.1 (fden hq)))
    (ed_mul (ed_ixT (ed_var rfl h2) ed_int rfl) (ed_ixT (ed_var rfl h1) ed_int rfl) (cmul hq.1 (fden hp)))) (eda_cons ((ed_mul (ed_ixT (ed_var rfl h1) ed_int rfl) (ed_ixT (ed_var rfl h2) ed_int rfl) (cmul (fden hp) (fden hq))).cast
      (congrArg PyData.int (Int.natCast_mul ..).symm)) eda_nil)) (den2 hp hq)) fun v H3 e3 dv => ?_
  exact k v H3 e3 (by show Dp K H3 v (fr (p - q)); rw [Rat.sub_def']; exact dv)
theorem sc_times : FnScope ["one", "other"] ["one", "other"] (defScope s_times) := ⟨rfl, rfl, rfl, by decide +kernel, rfl, by decide +kernel, by decide +kernel⟩
abbrev Cf_times (P w K mg base) := Cal P w K mg base "times" 3 ["one", "other"] (sp2 K fun p q => fr (p * q))
theorem ok_times (T : Tx w K mg) (C_reduced : Cf_reduced P w K mg base) : Cf_times P w K mg base := by
  refine T.cal (d := d_times) 4 4 rfl rfl rfl rfl rfl sc_times (fun _ _ _ _ _ _ us hl => match us, hl with | [_, _], _ => rfl) (spF_len fun _ => rfl) fun f cdv A outer s H vs Q E hr h => ⟨_, (pss_one (ps_ret (pe_cc C_reduced (hr.mono (by decide)) (by rfl) (pa_cons (pe_op op_mulW (pe_ix ix_seq (pv 0) pe_int (fun _ _ => rfl)) (pe_ix ix_seq (pv 1) pe_int (fun _ _ => rfl))) (pa_cons (pe_op op_mulW (pe_ix ix_seq (pv 0) pe_int (fun _ _ => rfl)) (pe_ix ix_seq (pv 1) pe_int (fun _ _ => rfl))) pa_nil))))), ?_⟩
  obtain ⟨⟨p, q⟩, hd, ⟨hp, hq⟩, k⟩ := h
  obtain ⟨v, u, rfl, h1, h2⟩ := dps_two hd
  refine ret_ed (ed_call (p.num * q.num, p.den * q.den) (eda_cons (ed_mul (ed_ixT (ed_var rfl h1) ed_int rfl) (ed_ixT (ed_var rfl h2) ed_int rfl) (cmul hp.1 hq.1))
    (eda_cons ((ed_mul (ed_ixT (ed_var rfl h1) ed_int rfl) (ed_ixT (ed_var rfl h2) ed_int rfl) (cmul (fden hp) (fden hq))).cast
      (congrArg PyData.int (Int.natCast_mul ..).symm)) eda_nil)) (den2 hp hq)) fun v H3 e3 dv => ?_
  exact k v H3 e3 (by show Dp K H3 v (fr (p * q)); rw [Rat.mul_def']; exact dv)
theorem sc_over : FnScope ["one", "other"] ["one", "other"] (defScope s_over) := ⟨rfl, rfl, rfl, by decide +kernel, rfl, by decide +kernel, by decide +kernel⟩
abbrev Cf_over (P w K mg base) := Cal P w K mg base "over" 3 ["one", "other"] (spF K (fun x : Rat × Rat => [fr x.1, fr x.2]) (fun x => Fine FB x.1 ∧ Fine FB x.2 ∧ 0 < x.2) fun x => fr (x.1 / x.2))
theorem ok_over (T : Tx w K mg) (C_reduced : Cf_reduced P w K mg base) : Cf_over P w K mg base := by
  refine T.cal (d := d_over) 5 5 rfl rfl rfl rfl rfl sc_over (fun _ _ _ _ _ _ us hl => match us, hl with | [_, _], _ => rfl) (spF_len fun _ => rfl) fun f cdv A outer s H vs Q E hr h => ⟨_, (pss_one (ps_ret (pe_cc C_reduced (hr.mono (by decide)) (by rfl) (pa_cons (pe_op op_mulW (pe_ix ix_seq (pv 0) pe_int (fun _ _ => rfl)) (pe_ix ix_seq (pv 1) pe_int (fun _ _ => rfl))) (pa_cons (pe_op op_mulW (pe_ix ix_seq (pv 0) pe_int (fun _ _ => rfl)) (pe_ix ix_seq (pv 1) pe_int (fun _ _ => rfl))) pa_nil))))), ?_⟩
  obtain ⟨⟨p, q⟩, hd, ⟨hp, hq, hpos⟩, k⟩ := h
  obtain ⟨v, u, rfl, h1, h2⟩ := dps_two hd
  have hn : 0 < q.num := num_pos hpos
  have hn2 : q.num.toNat < 2 ^ FB := Nat.lt_of_le_of_lt (show q.num.toNat ≤ q.num.natAbs by omega) hq.1
  refine ret_ed (ed_call (p.num * q.den, p.den * q.num.toNat) (eda_cons (ed_mul (ed_ixT (ed_var rfl h1) ed_int rfl) (ed_ixT (ed_var rfl h2) ed_int rfl) (cmul hp.1 (fden hq)))
    (eda_cons ((ed_mul (ed_ixT (ed_var rfl h1) ed_int rfl) (ed_ixT (ed_var rfl h2) ed_int rfl) (cmul (fden hp) hq.1)).cast
      (congrArg PyData.int ?_)) eda_nil)) ⟨Nat.mul_pos p.den_pos (by omega), Nat.lt_of_lt_of_le (nat_mul_lt hp.2 hn2) (Nat.pow_le_pow_right (by decide) fb_two)⟩) fun v H3 e3 dv => ?_
  · show _ = (((p.den * q.num.toNat : Nat)) : Int)
    rw [Int.natCast_mul, Int.toNat_of_nonneg (by omega)]
  exact k v H3 e3 (by show Dp K H3 v (fr (p / q)); rw [div_mkRat hpos]; exact dv)
theorem cmp_val (p q : Rat) : ((if decide (q.num * p.den < p.num * q.den) = true then (1 : Int) else 0) - (if decide (p.num * q.den < q.num * p.den) = true then 1 else 0)) = cmpR p q := by
  unfold cmpR
  simp only [Rat.lt_iff, decide_eq_true_eq]
theorem sc_compared : FnScope ["one", "other", "mine", "its"] ["one", "other"] (defScope s_compared) := ⟨rfl, rfl, rfl, by decide +kernel, rfl, by decide +kernel, by decide +kernel⟩
abbrev Cf_compared (P w K mg base) := Cal P w K mg base "compared" 1 ["one", "other"] (sp2 K fun p q => .int (cmpR p q))
theorem ok_compared (T : Tx w K mg) : Cf_compared P w K mg base := by
  refine T.cal (d := d_compared) 6 6 rfl rfl rfl rfl rfl sc_compared (fun _ _ _ _ _ _ us hl => match us, hl with | [_, _], _ => rfl) (spF_len fun _ => rfl) fun f cdv A outer s H vs Q E hr h => ⟨_, (pss_cons (ps_par (i := 2) (j := 3) rfl sc_compared.nd rfl rfl (by decide) rfl rfl (pa_cons (pe_op op_mulW (pe_ix ix_seq (pv 0) pe_int (fun _ _ => rfl)) (pe_ix ix_seq (pv 1) pe_int (fun _ _ => rfl))) (pa_cons (pe_op op_mulW (pe_ix ix_seq (pv 1) pe_int (fun _ _ => rfl)) (pe_ix ix_seq (pv 0) pe_int (fun _ _ => rfl))) pa_nil)) (by rfl))
      (pss_one (ps_ret (pe_op op_sub (pe_callTy call_int1 (by rfl) T.f_int (by decide +kernel) (pa_cons (pe_cmpR op_gt (pv 2) (pv 3) (nomark _)) pa_nil)) (pe_callTy call_int1 (by rfl) T.f_int (by decide +kernel) (pa_cons (pe_cmpR op_lt (pv 2) (pv 3) (nomark _)) pa_nil)))))), ?_⟩
  obtain ⟨⟨p, q⟩, hd, ⟨hp, hq⟩, k⟩ := h
  obtain ⟨v, u, rfl, h1, h2⟩ := dps_two hd
  refine seq_ed (par_ed (eda_cons (ed_mul (ed_ixT (ed_var rfl h1) ed_int rfl) (ed_ixT (ed_var rfl h2) ed_int rfl) (cmul hp.1 (fden hq)))
    (eda_cons (ed_mul (ed_ixT (ed_var rfl h2) ed_int rfl) (ed_ixT (ed_var rfl h1) ed_int rfl) (cmul hq.1 (fden hp))) eda_nil)) fun m i H2 e2 d1 d2 => ?_)
  refine ret_ed (ed_sub (ed_b2i (ed_gt (ed_var rfl d1) (ed_var rfl d2))) (ed_b2i (ed_lt (ed_var rfl d1) (ed_var rfl d2)))) fun v H3 e3 dv => ?_
  exact k v H3 (e2.trans e3) (by show Dp K H3 v (.int (cmpR p q)); rw [← cmp_val]; exact dv)
end
end Sw
set_option maxHeartbeats 200000
namespace Sw
/-! germs: sums, least and greatest; lines of bounded size -/
theorem two_eps {e e' : Rat} (he : 0 < e) (he' : 0 < e') : ∃ d, 0 < d ∧ d ≤ e ∧ d ≤ e' := by
  by_cases c : e ≤ e'
  · exact ⟨e, he, by grind, c⟩
  · exact ⟨e', he', by grind, by grind⟩
theorem germ_add {f g : Rat → Rat} {x a b a' b' : Rat} (h : Germ f x a b) (k : Germ g x a' b') : Germ (fun y => f y + g y) x (a + a') (b + b') := by
  obtain ⟨e, he, h⟩ := h
  obtain ⟨e', he', k⟩ := k
  obtain ⟨d, hd, d1, d2⟩ := two_eps he he'
  exact ⟨d, hd, fun y h1 h2 => by show f y + g y = _; rw [h y h1 (by grind), k y h1 (by grind)]; grind⟩
theorem germ_at {f : Rat → Rat} {x a b : Rat} (h : Germ f x a b) : f x = a + b * x := by
  obtain ⟨e, he, h⟩ := h
  exact h x (by grind) (by grind)
/-- a line that is above at x stays above for a while -/
theorem line_stays {x u v : Rat} (h : u + v * x < 0) : ∃ d, 0 < d ∧ ∀ y, x ≤ y → y ≤ x + d → u + v * y ≤ 0 := by
  by_cases c : v ≤ 0
  · refine ⟨1, by decide, fun y h1 h2 => ?_⟩
    have : v * y ≤ v * x := by
      have := Rat.mul_le_mul_of_nonneg_left (a := x) (b := y) (c := -v) h1 (by grind)
      grind
    grind
  · have hv : 0 < v := by grind
    refine ⟨-(u + v * x) / v, ?_, fun y h1 h2 => ?_⟩
    · rw [Rat.div_def]
      exact Rat.mul_pos (by grind) (Rat.inv_pos.mpr hv)
    · have h3 : v * y ≤ v * (x + -(u + v * x) / v) := Rat.mul_le_mul_of_nonneg_left h2 (by grind)
      have h4 : v * (-(u + v * x) / v) = -(u + v * x) := by
        rw [Rat.mul_comm]; exact Rat.div_mul_cancel (by grind)
      grind
theorem germ_min {f g : Rat → Rat} {x a b a' b' : Rat} (h : Germ f x a b) (k : Germ g x a' b') : Germ (fun y => min (f y) (g y)) x a b ∨ Germ (fun y => min (f y) (g y)) x a' b' := by
  have h0 := h
  have k0 := k
  obtain ⟨e, he, h⟩ := h
  obtain ⟨e', he', k⟩ := k
  obtain ⟨d, hd, d1, d2⟩ := two_eps he he'
  have le : ∀ y, (fun y => min (f y) (g y)) y = if f y ≤ g y then f y else g y := fun y => Rat.min_def
  rcases (by grind : (a - a') + (b - b') * x < 0 ∨ (a' - a) + (b' - b) * x < 0 ∨ (a + b * x = a' + b' * x)) with c | c | c
  · left
    obtain ⟨d3, hd3, s⟩ := line_stays c
    obtain ⟨d4, hd4, d5, d6⟩ := two_eps hd hd3
    refine ⟨d4, hd4, fun y h1 h2 => ?_⟩
    have := s y h1 (by grind)
    rw [le, h y h1 (by grind), k y h1 (by grind)]
    rw [if_pos (by grind)]
  · right
    obtain ⟨d3, hd3, s⟩ := line_stays c
    obtain ⟨d4, hd4, d5, d6⟩ := two_eps hd hd3
    refine ⟨d4, hd4, fun y h1 h2 => ?_⟩
    have := s y h1 (by grind)
    rw [le, h y h1 (by grind), k y h1 (by grind)]
    split <;> grind
  · by_cases c2 : b ≤ b'
    · left
      refine ⟨d, hd, fun y h1 h2 => ?_⟩
      rw [le, h y h1 (by grind), k y h1 (by grind)]
      have : (b' - b) * (y - x) ≥ 0 := Rat.mul_nonneg (by grind) (by grind)
      rw [if_pos (by grind)]
    · right
      refine ⟨d, hd, fun y h1 h2 => ?_⟩
      rw [le, h y h1 (by grind), k y h1 (by grind)]
      have : (b - b') * (y - x) ≥ 0 := Rat.mul_nonneg (by grind) (by grind)
      split <;> grind
theorem germ_max {f g : Rat → Rat} {x a b a' b' : Rat} (h : Germ f x a b) (k : Germ g x a' b') : Germ (fun y => max (f y) (g y)) x a b ∨ Germ (fun y => max (f y) (g y)) x a' b' := by
  obtain ⟨e, he, h⟩ := h
  obtain ⟨e', he', k⟩ := k
  obtain ⟨d, hd, d1, d2⟩ := two_eps he he'
  have le : ∀ y, (fun y => max (f y) (g y)) y = if f y ≤ g y then g y else f y := fun y => Rat.max_def
  rcases (by grind : (a - a') + (b - b') * x < 0 ∨ (a' - a) + (b' - b) * x < 0 ∨ (a + b * x = a' + b' * x)) with c | c | c
  · right
    obtain ⟨d3, hd3, s⟩ := line_stays c
    obtain ⟨d4, hd4, d5, d6⟩ := two_eps hd hd3
    refine ⟨d4, hd4, fun y h1 h2 => ?_⟩
    have := s y h1 (by grind)
    rw [le, h y h1 (by grind), k y h1 (by grind)]
    rw [if_pos (by grind)]
  · left
    obtain ⟨d3, hd3, s⟩ := line_stays c
    obtain ⟨d4, hd4, d5, d6⟩ := two_eps hd hd3
    refine ⟨d4, hd4, fun y h1 h2 => ?_⟩
    have := s y h1 (by grind)
    rw [le, h y h1 (by grind), k y h1 (by grind)]
    split <;> grind
  · by_cases c2 : b ≤ b'
    · right
      refine ⟨d, hd, fun y h1 h2 => ?_⟩
      rw [le, h y h1 (by grind), k y h1 (by grind)]
      have : (b' - b) * (y - x) ≥ 0 := Rat.mul_nonneg (by grind) (by grind)
      rw [if_pos (by grind)]
    · left
      refine ⟨d, hd, fun y h1 h2 => ?_⟩
      rw [le, h y h1 (by grind), k y h1 (by grind)]
      have : (b - b') * (y - x) ≥ 0 := Rat.mul_nonneg (by grind) (by grind)
      split <;> grind
/-! ### lines of bounded size -/
def DD : Nat := 1407000
def Grid (n : Nat) (q : Rat) : Prop := ∃ z : Int, (n : Rat) * q = z
theorem Grid.add {n : Nat} {p q : Rat} (h : Grid n p) (k : Grid n q) : Grid n (p + q) := by
  obtain ⟨z, h⟩ := h
  obtain ⟨y, k⟩ := k
  exact ⟨z + y, by rw [Rat.intCast_add, ← h, ← k]; grind⟩
theorem Grid.neg {n : Nat} {p : Rat} (h : Grid n p) : Grid n (-p) := by
  obtain ⟨z, h⟩ := h
  exact ⟨-z, by rw [Rat.intCast_neg, ← h]; grind⟩
theorem Grid.sub {n : Nat} {p q : Rat} (h : Grid n p) (k : Grid n q) : Grid n (p - q) := by
  have := h.add k.neg
  have e : p - q = p + -q := by grind
  rw [e]; exact this
theorem Grid.mul {n m : Nat} {p q : Rat} (h : Grid n p) (k : Grid m q) : Grid (n * m) (p * q) := by
  obtain ⟨z, h⟩ := h
  obtain ⟨y, k⟩ := k
  exact ⟨z * y, by rw [Rat.intCast_mul, Rat.natCast_mul, ← h, ← k]; grind⟩
theorem Grid.zero {n : Nat} : Grid n 0 := ⟨0, by grind⟩
theorem Grid.nat {n k : Nat} : Grid n (k : Rat) := ⟨((n * k : Nat) : Int), by rw [Rat.intCast_natCast, Rat.natCast_mul]⟩
theorem Grid.up {n m : Nat} {q : Rat} (h : Grid n q) : Grid (n * m) q := by
  obtain ⟨z, h⟩ := h
  exact ⟨z * m, by rw [Rat.intCast_mul, Rat.natCast_mul, ← h, Rat.intCast_natCast]; grind⟩
/-- a quotient of two integers -/
theorem fine_of {q : Rat} {n : Int} {d B : Nat} (hd : 0 < d) (h : (d : Rat) * q = n) (hn : n.natAbs < 2 ^ B) (hd2 : d < 2 ^ B) : Fine B q := by
  have e : q = mkRat n d := by
    rw [Rat.mkRat_eq_div, ← h, Rat.mul_comm]
    refine (Rat.mul_div_cancel ?_).symm
    intro z
    have := Rat.natCast_eq_zero_iff.mp z
    omega
  rw [e]
  exact fine_mkRat hd hn hd2
theorem abs_int_lt {z : Int} {M : Nat} (h1 : (z : Rat) ≤ (M : Rat)) (h2 : -(M : Rat) ≤ (z : Rat)) : z.natAbs ≤ M := by
  have h3 : z ≤ (M : Int) := by
    have : (z : Rat) ≤ ((M : Int) : Rat) := by rw [Rat.intCast_natCast]; exact h1
    exact Rat.intCast_le_intCast.mp this
  have h4 : -(M : Int) ≤ z := by
    have : ((-(M : Int) : Int) : Rat) ≤ (z : Rat) := by rw [Rat.intCast_neg, Rat.intCast_natCast]; exact h2
    exact Rat.intCast_le_intCast.mp this
  omega
def Bnd (M q : Rat) : Prop := -M ≤ q ∧ q ≤ M
theorem grid_nat {n : Nat} {q : Rat} {M : Nat} (h : Grid n q) (hb : Bnd (M : Rat) q) : ∃ z : Int, (n : Rat) * q = z ∧ z.natAbs ≤ n * M := by
  obtain ⟨z, h⟩ := h
  have hn : (0 : Rat) ≤ (n : Rat) := Rat.natCast_nonneg
  refine ⟨z, h, abs_int_lt ?_ ?_⟩
  · rw [← h, Rat.natCast_mul]; exact Rat.mul_le_mul_of_nonneg_left hb.2 hn
  · rw [← h, Rat.natCast_mul]
    have := Rat.mul_le_mul_of_nonneg_left hb.1 hn
    grind
theorem grid_fine {n : Nat} {q : Rat} {M B : Nat} (h : Grid n q) (hb : Bnd (M : Rat) q) (h0 : 0 < n) (hM : n * M < 2 ^ B) (hn : n < 2 ^ B) : Fine B q := by
  obtain ⟨z, h1, h2⟩ := grid_nat h hb
  exact fine_of h0 h1 (Nat.lt_of_le_of_lt h2 hM) hn
/-- the line a + b x has coefficients of the grid, bounded by M -/
def PP : Nat := 2 ^ 41
structure GLine (M a b : Rat) : Prop where
  gb : Grid DD b
  ga : Grid (DD * DD) a
  bb : Bnd M b
  ba : Bnd (M * PP) a
def GL (M : Rat) (f : Rat → Rat) : Prop := ∀ x, 0 ≤ x → ∃ a b, GLine M a b ∧ Germ f x a b
theorem Bnd.mono {M N q : Rat} (h : Bnd M q) (hm : M ≤ N) : Bnd N q := ⟨by have := h.1; grind, by have := h.2; grind⟩
theorem Bnd.add {M N p q : Rat} (h : Bnd M p) (k : Bnd N q) : Bnd (M + N) (p + q) := ⟨by have := h.1; have := k.1; grind, by have := h.2; have := k.2; grind⟩
theorem pp_nonneg : (0 : Rat) ≤ (PP : Rat) := Rat.natCast_nonneg
theorem GLine.mono {M N a b : Rat} (h : GLine M a b) (hm : M ≤ N) : GLine N a b :=
  ⟨h.gb, h.ga, h.bb.mono hm, h.ba.mono (Rat.mul_le_mul_of_nonneg_right hm pp_nonneg)⟩
theorem GLine.add {M N a b a' b' : Rat} (h : GLine M a b) (k : GLine N a' b') : GLine (M + N) (a + a') (b + b') :=
  ⟨h.gb.add k.gb, h.ga.add k.ga, h.bb.add k.bb, by
    have := h.ba.add k.ba
    have e : (M + N) * (PP : Rat) = M * PP + N * PP := by grind
    rw [e]; exact this⟩
theorem GL.mono {M N : Rat} {f : Rat → Rat} (h : GL M f) (hm : M ≤ N) : GL N f := fun x hx => by
  obtain ⟨a, b, h1, h2⟩ := h x hx
  exact ⟨a, b, h1.mono hm, h2⟩
theorem GL.congr {M : Rat} {f g : Rat → Rat} (h : GL M f) (e : ∀ x, 0 ≤ x → g x = f x) : GL M g := fun x hx => by
  obtain ⟨a, b, h1, h2⟩ := h x hx
  exact ⟨a, b, h1, h2.congr fun y hy => e y (by grind)⟩
theorem gl_add {M N : Rat} {f g : Rat → Rat} (h : GL M f) (k : GL N g) : GL (M + N) (fun x => f x + g x) := fun x hx => by
  obtain ⟨a, b, h1, h2⟩ := h x hx
  obtain ⟨a', b', k1, k2⟩ := k x hx
  exact ⟨_, _, h1.add k1, germ_add h2 k2⟩
theorem gl_max {M : Rat} {f g : Rat → Rat} (h : GL M f) (k : GL M g) : GL M (fun x => max (f x) (g x)) := fun x hx => by
  obtain ⟨a, b, h1, h2⟩ := h x hx
  obtain ⟨a', b', k1, k2⟩ := k x hx
  rcases germ_max h2 k2 with q | q
  · exact ⟨a, b, h1, q⟩
  · exact ⟨a', b', k1, q⟩
theorem gl_min {M : Rat} {f g : Rat → Rat} (h : GL M f) (k : GL M g) : GL M (fun x => min (f x) (g x)) := fun x hx => by
  obtain ⟨a, b, h1, h2⟩ := h x hx
  obtain ⟨a', b', k1, k2⟩ := k x hx
  rcases germ_min h2 k2 with q | q
  · exact ⟨a, b, h1, q⟩
  · exact ⟨a', b', k1, q⟩
/-- a constant -/
theorem gl_const {M q : Rat} (h0 : 0 ≤ M) (hg : Grid DD q) (hb : Bnd (M * PP) q) : GL M (fun _ => q) := fun x hx =>
  ⟨q, 0, ⟨Grid.zero, hg.up, ⟨by grind, by grind⟩, hb⟩, 1, by decide, fun y _ _ => by grind⟩
theorem gl_zero {M : Rat} (h0 : 0 ≤ M) : GL M (fun _ => 0) := gl_const h0 Grid.zero ⟨by have := Rat.mul_nonneg h0 pp_nonneg; grind, Rat.mul_nonneg h0 pp_nonneg⟩
/-- c (x - l) -/
theorem gl_line {M c l : Rat} (hc : Grid DD c) (hl : Grid DD l) (hb : Bnd M c) (ha : Bnd (M * PP) (c * l)) : GL M (fun x => (x - l) * c) := fun x hx =>
  ⟨-(c * l), c, ⟨hc, (hc.mul hl).neg, hb, ⟨by have := ha.2; grind, by have := ha.1; grind⟩⟩, 1, by decide, fun y _ _ => by grind⟩
/-! ### what a curve of such lines is made of -/
def MM : Nat := 2 ^ 47
theorem gl_slope {a b : Rat} (h : GLine (MM : Rat) a b) : Fine 69 b := grid_fine h.gb h.bb (by decide) (by decide) (by decide)
theorem gl_icept {a b : Rat} (h : GLine (MM : Rat) a b) : Fine 131 a := by
  have e : (MM : Rat) * (PP : Rat) = ((MM * PP : Nat) : Rat) := (Rat.natCast_mul ..).symm
  have hb : Bnd ((MM * PP : Nat) : Rat) a := by rw [← e]; exact h.ba
  exact grid_fine h.ga hb (by decide) (by decide) (by decide)
theorem gl_cross {a b a' b' l : Rat} (h : GLine (MM : Rat) a b) (k : GLine (MM : Rat) a' b') (hb : b ≠ b') (e : a + b * l = a' + b' * l) : Fine 140 l := by
  have e1 : (MM : Rat) * (PP : Rat) = ((MM * PP : Nat) : Rat) := (Rat.natCast_mul ..).symm
  have ha : Bnd ((MM * PP : Nat) : Rat) a := by rw [← e1]; exact h.ba
  have ha' : Bnd ((MM * PP : Nat) : Rat) a' := by rw [← e1]; exact k.ba
  obtain ⟨z1, p1, q1⟩ := grid_nat h.ga ha
  obtain ⟨z2, p2, q2⟩ := grid_nat k.ga ha'
  obtain ⟨y1, r1, s1⟩ := grid_nat h.gb h.bb
  obtain ⟨y2, r2, s2⟩ := grid_nat k.gb k.bb
  have hy : y1 ≠ y2 := fun z => by
    subst z
    apply hb
    have hd : ((DD : Nat) : Rat) ≠ 0 := fun z => by have := Rat.natCast_eq_zero_iff.mp z; revert this; decide
    have : (DD : Rat) * (b - b') = 0 := by grind
    rcases Rat.mul_eq_zero.mp this with z | z
    · exact absurd z hd
    · grind
  -- D^2 (b' - b) l = D^2 (a - a')
  have m1 : (((y2 - y1) * (DD : Int) : Int) : Rat) * l = ((z1 - z2 : Int) : Rat) := by
    rw [Rat.intCast_mul, Rat.intCast_sub, Rat.intCast_sub, Rat.intCast_natCast, ← r1, ← r2, ← p1, ← p2, Rat.natCast_mul]
    grind
  have b1 : DD * (DD * (MM * PP)) * 4 < 2 ^ 140 := by decide
  have b2 : DD * MM * DD * 4 < 2 ^ 140 := by decide
  have b3 : DD = 1407000 := rfl
  have zz : (z1 - z2).natAbs < 2 ^ 140 := by
    have : (z1 - z2).natAbs ≤ z1.natAbs + z2.natAbs := by omega
    have e5 : DD * (DD * (MM * PP)) = DD * DD * (MM * PP) := by rw [Nat.mul_assoc]
    omega
  have yy : (y2 - y1).natAbs * DD < 2 ^ 140 := by
    have h1 : (y2 - y1).natAbs ≤ 2 * (DD * MM) := by omega
    have := Nat.mul_le_mul_right DD h1
    have e5 : 2 * (DD * MM) * DD * 2 = DD * MM * DD * 4 := by rw [Nat.mul_assoc 2]; omega
    omega
  rcases (by omega : 0 < y2 - y1 ∨ 0 < y1 - y2) with c | c
  · refine fine_of (n := z1 - z2) (d := (y2 - y1).natAbs * DD) (Nat.mul_pos (by omega) (by decide)) ?_ zz yy
    rw [← m1]
    congr 1
    have : (((y2 - y1).natAbs * DD : Nat) : Int) = (y2 - y1) * (DD : Int) := by rw [Int.natCast_mul]; congr 1; omega
    rw [← this, Rat.intCast_natCast]
  · refine fine_of (n := z2 - z1) (d := (y2 - y1).natAbs * DD) (Nat.mul_pos (by omega) (by decide)) ?_ (by omega) yy
    have e3 : (((y2 - y1).natAbs * DD : Nat) : Int) = -((y2 - y1) * (DD : Int)) := by rw [Int.natCast_mul, ← Int.neg_mul]; congr 1; omega
    have e4 : (((y2 - y1).natAbs * DD : Nat) : Rat) = -(((y2 - y1) * (DD : Int) : Int) : Rat) := by rw [← Rat.intCast_natCast, e3, Rat.intCast_neg]
    rw [e4]
    have e5 : z2 - z1 = -(z1 - z2) := by omega
    rw [e5, Rat.intCast_neg, ← m1]
    grind
theorem gl_val {f : Rat → Rat} {B : Nat} {x : Rat} (h : GL (MM : Rat) f) (hx : 0 ≤ x) (hB : Fine B x) : Fine (B + 201) (f x) := by
  obtain ⟨a, b, h1, h2⟩ := h x hx
  rw [germ_at h2]
  exact ((gl_icept h1).add ((gl_slope h1).mul hB)).mono (by omega)
/-- corners, slopes of few bits -/
structure Fc (cs : List Pt) (s : Rat) : Prop where
  lv : ∀ p ∈ cs, Fine 140 p.1
  py : ∀ p ∈ cs, Fine 341 p.2
  sl : Fine 69 s
theorem fc_go {M : Rat} : ∀ (r : List Pt) (k : Pt) (s : Rat), Srt (k :: r) → Can (k :: r) s → 0 ≤ k.1 → GL (MM : Rat) (ev (k :: r) s) → Fine 140 k.1 → (∀ p ∈ k :: r, Fine 140 p.1) ∧ Fine 69 s := by
  intro r
  induction r with
  | nil =>
    intro k s hS hC h0 hG hk
    obtain ⟨a, b, h1, h2⟩ := hG k.1 h0
    have e := (h2.unique (ev_germ hS)).2
    refine ⟨fun p hp => by rw [List.mem_singleton.mp hp]; exact hk, ?_⟩
    have : b = s := e
    rw [← this]; exact gl_slope h1
  | cons n r ih =>
    intro k s hS hC h0 hG hk
    have hkn : k.1 < n.1 := hS.1
    obtain ⟨a, b, h1, h2⟩ := hG k.1 h0
    have u1 := h2.unique (ev_germ hS)
    obtain ⟨a', b', k1, k2⟩ := hG n.1 (by grind)
    have g2 : Germ (ev (k :: n :: r) s) n.1 _ _ := (ev_germ (s := s) hS.2).congr fun y hy => ev_ge hy
    have u2 := k2.unique g2
    have hb : b ≠ b' := by rw [u1.2, u2.2]; exact hC.1
    have hn : Fine 140 n.1 := gl_cross h1 k1 hb (by
      rw [u1.1, u1.2, u2.1, u2.2]
      have := slopeB_mul hkn
      simp only [hs] at *
      grind)
    have hG' : GL (MM : Rat) (ev (n :: r) s) := fun x hx => by
      by_cases c : n.1 ≤ x
      · obtain ⟨a, b, q1, q2⟩ := hG x hx
        exact ⟨a, b, q1, q2.congr fun y hy => (ev_ge (by grind)).symm⟩
      · -- ahead of its head it is a line
        cases r with
        | nil =>
          exact ⟨a', b', k1, 1, by decide, fun y h3 h4 => by
            rw [u2.1, u2.2]; simp only [ev, hs]; grind⟩
        | cons m r =>
          have hnm : n.1 < m.1 := hS.2.1
          exact ⟨a', b', k1, n.1 - x, by grind, fun y h3 h4 => by
            rw [u2.1, u2.2]
            simp only [ev, hs]
            rw [if_pos (by grind)]; grind⟩
    obtain ⟨q1, q2⟩ := ih n s hS.2 hC.2 (by grind) hG' hn
    exact ⟨fun p hp => by
      rcases List.mem_cons.mp hp with e | e
      · rw [e]; exact hk
      · exact q1 p e, q2⟩
theorem ev_mem {cs : List Pt} {s : Rat} : ∀ {a : Pt} {r : List Pt}, cs = a :: r → Srt cs → ∀ p ∈ cs, ev cs s p.1 = p.2 := by
  induction cs with
  | nil => intro a r h; cases h
  | cons b t ih =>
    intro a r h hS p hp
    cases h
    rcases List.mem_cons.mp hp with e | e
    · rw [e]; exact ev_head hS
    · cases t with
      | nil => cases e
      | cons c t =>
        have := hS.lt e
        have hle : c.1 ≤ p.1 := by
          rcases List.mem_cons.mp e with e2 | e2
          · rw [e2]; grind
          · have := hS.2.lt e2; grind
        rw [ev_ge hle]
        exact ih rfl hS.2 p e
theorem IsCv.fc {cs : List Pt} {s : Rat} {f : Rat → Rat} (h : IsCv cs s f) (hG : GL (MM : Rat) f) : Fc cs s := by
  obtain ⟨⟨r, rfl⟩, h1, h2, h3⟩ := h
  have hG2 : GL (MM : Rat) (ev ((0,0) :: r) s) := hG.congr fun x hx => h3 x hx
  obtain ⟨q1, q2⟩ := fc_go (M := 0) r (0,0) s h1 h2 (by decide) hG2 (by show Fine 140 0; exact fine_zero.mono (by decide))
  refine ⟨q1, fun p hp => ?_, q2⟩
  have hp0 : 0 ≤ p.1 := by
    rcases List.mem_cons.mp hp with e | e
    · rw [e]; show (0 : Rat) ≤ 0; grind
    · have := h1.lt e; grind
  have := gl_val hG2 hp0 (q1 p hp)
  rw [ev_mem rfl h1 p hp] at this
  exact this
end Sw
namespace Sw
/-! what the program's functions on curves reckon, and what it means -/
/-! ### in order -/
def insU (ls : List Rat) (x : Rat) : List Rat :=
  if x ∈ ls then ls else ls.take (ls.filter fun y => decide (y < x)).length ++ [x] ++ ls.drop (ls.filter fun y => decide (y < x)).length
def inOrder (qs : List Rat) : List Rat := qs.foldl insU []
theorem sr_cut {x : Rat} : ∀ {ls : List Rat}, SR ls → ls.take (ls.filter fun y => decide (y < x)).length = (ls.filter fun y => decide (y < x)) ∧ ls.drop (ls.filter fun y => decide (y < x)).length = (ls.filter fun y => !decide (y < x))
  | [], _ => ⟨rfl, rfl⟩
  | a :: r, h => by
    obtain ⟨h1, h2⟩ := List.pairwise_cons.mp h
    by_cases c : a < x
    · obtain ⟨q1, q2⟩ := sr_cut (x := x) h2
      simp only [List.filter, decide_eq_true c, List.length_cons, List.take_succ_cons, List.drop_succ_cons, Bool.not_true]
      exact ⟨by rw [q1], q2⟩
    · have e1 : (r.filter fun y => decide (y < x)) = [] := List.filter_eq_nil_iff.mpr fun y hy => by
        have := h1 y hy
        simp only [decide_eq_true_eq]; grind
      have e2 : (r.filter fun y => !decide (y < x)) = r := List.filter_eq_self.mpr fun y hy => by
        have := h1 y hy
        simp only [Bool.not_eq_true', decide_eq_false_iff_not]; grind
      simp only [List.filter, decide_eq_false c, Bool.not_false]
      rw [e1, e2]
      exact ⟨rfl, rfl⟩
theorem sr_insU {ls : List Rat} {x : Rat} (h : SR ls) : SR (insU ls x) := by
  unfold insU
  split
  · exact h
  · rename_i hx
    obtain ⟨q1, q2⟩ := sr_cut (x := x) h
    rw [q1, q2]
    unfold SR at *
    rw [List.append_assoc]
    refine List.pairwise_append.mpr ⟨h.filter _, List.pairwise_cons.mpr ⟨fun y hy => ?_, h.filter _⟩, fun a ha b hb => ?_⟩
    · obtain ⟨m1, m2⟩ := List.mem_filter.mp hy
      simp only [Bool.not_eq_true', decide_eq_false_iff_not] at m2
      have : y ≠ x := fun z => hx (z ▸ m1)
      grind
    · obtain ⟨m1, m2⟩ := List.mem_filter.mp ha
      simp only [decide_eq_true_eq] at m2
      rcases List.mem_cons.mp hb with e | e
      · rw [e]; exact m2
      · obtain ⟨m3, m4⟩ := List.mem_filter.mp e
        simp only [Bool.not_eq_true', decide_eq_false_iff_not] at m4
        grind
theorem mem_insU {ls : List Rat} {x y : Rat} : y ∈ insU ls x ↔ y ∈ ls ∨ y = x := by
  unfold insU
  split
  · rename_i hx
    constructor
    · exact fun h => .inl h
    · rintro (h | h)
      · exact h
      · rw [h]; exact hx
  · constructor
    · intro h
      rcases List.mem_append.mp h with h | h
      · rcases List.mem_append.mp h with h | h
        · exact .inl (List.mem_of_mem_take h)
        · exact .inr (List.mem_singleton.mp h)
      · exact .inl (List.mem_of_mem_drop h)
    · rintro (h | h)
      · have := List.take_append_drop (ls.filter fun y => decide (y < x)).length ls
        rw [← this] at h
        rcases List.mem_append.mp h with h | h
        · exact List.mem_append_left _ (List.mem_append_left _ h)
        · exact List.mem_append_right _ h
      · exact List.mem_append_left _ (List.mem_append_right _ (List.mem_singleton.mpr h))
theorem len_insU {ls : List Rat} {x : Rat} : (insU ls x).length ≤ ls.length + 1 := by
  unfold insU
  split
  · omega
  · simp only [List.length_append, List.length_take, List.length_drop, List.length_singleton]; omega
theorem foldl_insU : ∀ (qs ls : List Rat), SR ls → SR (qs.foldl insU ls) ∧ (∀ y, y ∈ qs.foldl insU ls ↔ y ∈ ls ∨ y ∈ qs) ∧ (qs.foldl insU ls).length ≤ ls.length + qs.length
  | [], ls, h => ⟨h, fun y => by simp, by simp⟩
  | x :: qs, ls, h => by
    obtain ⟨a, b, c⟩ := foldl_insU qs (insU ls x) (sr_insU h)
    refine ⟨a, fun y => ?_, ?_⟩
    · rw [List.foldl_cons, b, mem_insU, List.mem_cons, or_assoc]
    · rw [List.foldl_cons]
      have := len_insU (ls := ls) (x := x)
      rw [List.length_cons]; omega
theorem sr_inOrder (qs : List Rat) : SR (inOrder qs) := (foldl_insU qs [] List.Pairwise.nil).1
theorem mem_inOrder {qs : List Rat} {y : Rat} : y ∈ inOrder qs ↔ y ∈ qs := by
  have := (foldl_insU qs [] List.Pairwise.nil).2.1 y
  simpa [inOrder] using this
theorem len_inOrder (qs : List Rat) : (inOrder qs).length ≤ qs.length := by
  have := (foldl_insU qs [] List.Pairwise.nil).2.2
  simpa [inOrder] using this
theorem inOrder_zero {qs : List Rat} (h0 : (0 : Rat) ∈ qs) (hq : ∀ x ∈ qs, 0 ≤ x) : ∃ r, inOrder qs = 0 :: r := by
  have hm : (0 : Rat) ∈ inOrder qs := mem_inOrder.mpr h0
  have hs := sr_inOrder qs
  cases e : inOrder qs with
  | nil => rw [e] at hm; cases hm
  | cons a r =>
    rw [e] at hm hs
    have ha : 0 ≤ a := hq a (mem_inOrder.mp (by rw [e]; exact List.mem_cons_self))
    rcases List.mem_cons.mp hm with z | z
    · exact ⟨r, by rw [← z]⟩
    · have := (List.pairwise_cons.mp hs).1 0 z
      grind
/-! ### curves -/
abbrev Cv := List Pt × Rat
def evc (c : Cv) (x : Rat) : Rat := ev c.1 c.2 x
def Ok (c : Cv) : Prop := IsCv c.1 c.2 (evc c)
theorem IsCv.ok {cs : List Pt} {s : Rat} {f : Rat → Rat} (h : IsCv cs s f) : Ok (cs, s) := ⟨h.head, h.srt, h.can, fun _ _ => rfl⟩
theorem IsCv.evc {c : Cv} {f : Rat → Rat} (h : IsCv c.1 c.2 f) {x : Rat} (hx : 0 ≤ x) : evc c x = f x := h.eq x hx
/-- two curves that pay alike are one -/
theorem Ok.ext {c d : Cv} (h : Ok c) (k : Ok d) (e : ∀ x, 0 ≤ x → Sw.evc c x = Sw.evc d x) : c = d := by
  obtain ⟨h1, h2⟩ := IsCv.unique h k e
  exact Prod.ext h1 h2
theorem Ok.zero {c : Cv} (h : Ok c) : Sw.evc c 0 = 0 := by
  obtain ⟨⟨r, e⟩, h1, _, _⟩ := h
  unfold Sw.evc
  rw [e] at h1 ⊢
  exact ev_head h1
theorem Ok.nonneg {c : Cv} (h : Ok c) {p : Pt} (hp : p ∈ c.1) : 0 ≤ p.1 := by
  obtain ⟨⟨r, e⟩, h1, _, _⟩ := h
  rw [e] at h1 hp
  rcases List.mem_cons.mp hp with z | z
  · rw [z]; show (0 : Rat) ≤ 0; grind
  · have := h1.lt z; grind
theorem Ok.mem {c : Cv} (h : Ok c) {p : Pt} (hp : p ∈ c.1) : Sw.evc c p.1 = p.2 := by
  obtain ⟨⟨r, e⟩, h1, _, _⟩ := h
  exact ev_mem e h1 p hp
def cnt (cs : List Pt) (x : Rat) : Nat := (cs.filter fun c => decide (c.1 ≤ x)).length
/-- the slope just above x -/
def rs (c : Cv) (x : Rat) : Rat := hs (c.1.drop (cnt c.1 x - 1)) c.2
theorem cnt_cons {a : Pt} {r : List Pt} {x : Rat} (h : a.1 ≤ x) : cnt (a :: r) x = cnt r x + 1 := by
  unfold cnt
  rw [List.filter_cons_of_pos (by simpa using h), List.length_cons]
theorem cnt_out {r : List Pt} {x : Rat} (h : ∀ p ∈ r, x < p.1) : cnt r x = 0 := by
  unfold cnt
  rw [List.filter_eq_nil_iff.mpr fun p hp => by have := h p hp; simp only [decide_eq_true_eq]; grind]
  rfl
theorem ev_at : ∀ (r : List Pt) (a : Pt) (s x : Rat), Srt (a :: r) → a.1 ≤ x → 1 ≤ cnt (a :: r) x ∧ ∃ c, (a :: r)[cnt (a :: r) x - 1]? = some c ∧ c.1 ≤ x ∧
    ev (a :: r) s x = c.2 + hs ((a :: r).drop (cnt (a :: r) x - 1)) s * (x - c.1) ∧ Germ (ev (a :: r) s) x (c.2 - hs ((a :: r).drop (cnt (a :: r) x - 1)) s * c.1) (hs ((a :: r).drop (cnt (a :: r) x - 1)) s) := by
  intro r
  induction r with
  | nil =>
    intro a s x hS hx
    rw [cnt_cons hx, cnt_out (by simp)]
    exact ⟨by omega, a, rfl, hx, by show ev [a] s x = a.2 + s * (x - a.1); simp only [ev], 1, by decide, fun y h1 h2 => by show ev [a] s y = (a.2 - s * a.1) + s * y; simp only [ev]; grind⟩
  | cons b r ih =>
    intro a s x hS hx
    by_cases c : x < b.1
    · have e : cnt (b :: r) x = 0 := cnt_out fun p hp => by
        rcases List.mem_cons.mp hp with z | z
        · rw [z]; exact c
        · have := hS.2.lt z; grind
      rw [cnt_cons hx, e]
      exact ⟨by omega, a, rfl, hx, by show ev (a :: b :: r) s x = a.2 + slopeB a b * (x - a.1); simp only [ev]; rw [if_pos c], ev_germ_mid hx c⟩
    · have hb : b.1 ≤ x := by grind
      obtain ⟨h1, q, h2, h3, h4, h5⟩ := ih b s x hS.2 hb
      rw [cnt_cons hx]
      obtain ⟨m, hm⟩ : ∃ m, cnt (b :: r) x = m + 1 := ⟨cnt (b :: r) x - 1, by omega⟩
      rw [hm] at h2 h4 h5 ⊢
      refine ⟨by omega, q, h2, h3, ?_, ?_⟩
      · rw [ev_ge hb]; exact h4
      · exact h5.congr fun y hy => ev_ge (by grind)
theorem Ok.at {c : Cv} (h : Ok c) {x : Rat} (hx : 0 ≤ x) : 1 ≤ cnt c.1 x ∧ ∃ p, c.1[cnt c.1 x - 1]? = some p ∧ p.1 ≤ x ∧ evc c x = p.2 + rs c x * (x - p.1) ∧ Germ (evc c) x (p.2 - rs c x * p.1) (rs c x) := by
  obtain ⟨⟨r, e⟩, h1, _, _⟩ := h
  have := ev_at r (0,0) c.2 x (by rw [← e]; exact h1) hx
  rw [← e] at this
  exact this
theorem Ok.aff {c : Cv} (h : Ok c) {u v : Rat} (h0 : 0 ≤ u) (huv : u < v) (hc : ∀ p ∈ c.1, p.1 ≤ u ∨ v ≤ p.1) : Aff (evc c) u v := by
  obtain ⟨⟨r, e⟩, h1, _, _⟩ := h
  unfold evc
  rw [e] at h1 hc ⊢
  exact ev_aff h1 h0 huv fun q hq => hc q (List.mem_cons_of_mem _ hq)
theorem Ok.ray {c : Cv} (h : Ok c) {u : Rat} (h0 : 0 ≤ u) (hc : ∀ p ∈ c.1, p.1 ≤ u) : Ray (evc c) u c.2 := by
  obtain ⟨⟨r, e⟩, h1, _, _⟩ := h
  unfold evc
  rw [e] at h1 hc ⊢
  exact ev_ray h1 h0 fun q hq => hc q (List.mem_cons_of_mem _ hq)
/-! ### sums -/
def lvls (L : List Cv) : List Rat := inOrder (0 :: L.flatMap fun c => c.1.map (·.1))
def sumOf (L : List Cv) (x : Rat) : Rat := rsum (L.map fun c => evc c x)
def slopes (L : List Cv) : Rat := rsum (L.map (·.2))
def addedUp (L : List Cv) : Cv := (canon ((lvls L).map fun l => (l, sumOf L l)) (slopes L), slopes L)
theorem mem_lvls {L : List Cv} {x : Rat} : x ∈ lvls L ↔ x = 0 ∨ ∃ c ∈ L, ∃ p ∈ c.1, p.1 = x := by
  unfold lvls
  rw [mem_inOrder, List.mem_cons, List.mem_flatMap]
  constructor
  · rintro (h | ⟨c, hc, h⟩)
    · exact .inl h
    · obtain ⟨p, hp, e⟩ := List.mem_map.mp h
      exact .inr ⟨c, hc, p, hp, e⟩
  · rintro (h | ⟨c, hc, p, hp, e⟩)
    · exact .inl h
    · exact .inr ⟨c, hc, List.mem_map.mpr ⟨p, hp, e⟩⟩
theorem lvls_nonneg {L : List Cv} (h : ∀ c ∈ L, Ok c) {x : Rat} (hx : x ∈ lvls L) : 0 ≤ x := by
  rcases mem_lvls.mp hx with e | ⟨c, hc, p, hp, e⟩
  · rw [e]; grind
  · rw [← e]; exact (h c hc).nonneg hp
theorem lvls_head {L : List Cv} (h : ∀ c ∈ L, Ok c) : ∃ r, lvls L = 0 :: r := by
  refine inOrder_zero List.mem_cons_self fun x hx => ?_
  exact lvls_nonneg h (mem_inOrder.mpr hx)
theorem sr_lvls (L : List Cv) : SR (lvls L) := sr_inOrder _
theorem aff_sum {u v : Rat} : ∀ {L : List Cv}, (∀ c ∈ L, Aff (evc c) u v) → Aff (sumOf L) u v
  | [], _ => ⟨0, 0, fun x _ _ => by simp only [sumOf, List.map, rsum_nil]; grind⟩
  | c :: L, h => by
    obtain ⟨a, b, h1⟩ := h c List.mem_cons_self
    obtain ⟨a', b', h2⟩ := aff_sum (L := L) fun d hd => h d (List.mem_cons_of_mem _ hd)
    refine ⟨a + a', b + b', fun x hx hx2 => ?_⟩
    have e1 := h1 x hx hx2
    have e2 := h2 x hx hx2
    unfold sumOf at e2 ⊢
    rw [List.map_cons, rsum_cons, e1, e2]; grind
theorem ray_sum {u : Rat} : ∀ {L : List Cv}, (∀ c ∈ L, Ray (evc c) u c.2) → Ray (sumOf L) u (slopes L)
  | [], _ => ⟨0, fun x _ => by simp only [sumOf, slopes, List.map, rsum_nil]; grind⟩
  | c :: L, h => by
    obtain ⟨a, h1⟩ := h c List.mem_cons_self
    obtain ⟨a', h2⟩ := ray_sum (L := L) fun d hd => h d (List.mem_cons_of_mem _ hd)
    refine ⟨a + a', fun x hx => ?_⟩
    have e1 := h1 x hx
    have e2 := h2 x hx
    unfold sumOf slopes at e2 ⊢
    rw [List.map_cons, List.map_cons, rsum_cons, rsum_cons, e1, e2]; grind
theorem sum_zero : ∀ {L : List Cv}, (∀ c ∈ L, Ok c) → sumOf L 0 = 0
  | [], _ => rfl
  | c :: L, h => by
    have e1 := (h c List.mem_cons_self).zero
    have e2 := sum_zero (L := L) fun d hd => h d (List.mem_cons_of_mem _ hd)
    unfold sumOf at e2 ⊢
    rw [List.map_cons, rsum_cons, e1, e2]; grind
theorem addedUp_is {L : List Cv} (h : ∀ c ∈ L, Ok c) : IsCv (addedUp L).1 (addedUp L).2 (sumOf L) := by
  obtain ⟨r, e⟩ := lvls_head h
  have hs := sr_lvls L
  unfold addedUp
  simp only
  rw [e] at hs ⊢
  refine isCv_interp (sum_zero h) hs (interp_of (lo := 0) (C := fun w => ∃ c ∈ L, ∃ p ∈ c.1, p.1 = w) (fun u v h0 huv hc => ?_) (fun u h0 hc => ?_) r 0 hs (by grind) fun w hw => ?_)
  · exact aff_sum fun c hcL => (h c hcL).aff h0 huv fun p hp => hc p.1 ⟨c, hcL, p, hp, rfl⟩
  · exact ray_sum fun c hcL => (h c hcL).ray h0 fun p hp => hc p.1 ⟨c, hcL, p, hp, rfl⟩
  · have : w ∈ lvls L := mem_lvls.mpr (.inr hw)
    rw [e] at this
    rcases List.mem_cons.mp this with z | z
    · left; rw [z]; grind
    · exact .inr z
/-! ### the greater one -/
def absR (q : Rat) : Rat := if q < 0 then -q else q
def meetAt (c d : Cv) (l : Rat) (nx : Option Rat) : List Rat :=
  if (evc c l - evc d l) * (rs c l - rs d l) < 0 then
    (match nx with
    | none => [l + absR (evc c l - evc d l) / absR (rs c l - rs d l)]
    | some n => if l + absR (evc c l - evc d l) / absR (rs c l - rs d l) < n then [l + absR (evc c l - evc d l) / absR (rs c l - rs d l)] else [])
  else []
def meets (c d : Cv) : List Rat → List Rat
  | [] => []
  | l :: r => meetAt c d l r.head? ++ meets c d r
def gLvls (c d : Cv) : List Rat := inOrder (lvls [c, d] ++ meets c d (lvls [c, d]))
def gSlope (c d : Cv) : Rat := if evc c ((gLvls c d).getLastD 0) - evc d ((gLvls c d).getLastD 0) > 0 ∨ (evc c ((gLvls c d).getLastD 0) - evc d ((gLvls c d).getLastD 0) = 0 ∧ rs c ((gLvls c d).getLastD 0) - rs d ((gLvls c d).getLastD 0) > 0) then c.2 else d.2
def maxOf (c d : Cv) (x : Rat) : Rat := max (evc c x) (evc d x)
def greaterOf (c d : Cv) : Cv := (canon ((gLvls c d).map fun l => (l, maxOf c d l)) (gSlope c d), gSlope c d)
theorem met_eq {m s l : Rat} (h : m * s < 0) : l + absR m / absR s = l - m / s := by
  have hs : s ≠ 0 := fun z => by rw [z] at h; grind
  unfold absR
  by_cases c : m < 0
  · have : 0 < s := by
      by_cases c2 : 0 < s
      · exact c2
      · exfalso
        have := Rat.mul_nonneg (a := -m) (b := -s) (by grind) (by grind)
        grind
    rw [if_pos c, if_neg (by grind)]
    rw [Rat.div_def, Rat.div_def]; grind
  · have : s < 0 := by
      by_cases c2 : s < 0
      · exact c2
      · exfalso
        have := Rat.mul_nonneg (a := m) (b := s) (by grind) (by grind)
        grind
    rw [if_neg c, if_pos this]
    have e : m / -s = -(m / s) := by
      rw [Rat.div_def, Rat.div_def]
      have : (-s)⁻¹ = -(s⁻¹) := by
        refine Rat.inv_eq_of_mul_eq_one ?_
        have := Rat.mul_inv_cancel s hs
        grind
      rw [this]; grind
    rw [e]; grind
/-- where two lines that part at l with unlike signs cross: behind l -/
theorem mul_pos_cases {a b : Rat} (h : 0 < a * b) : (0 < a ∧ 0 < b) ∨ (a < 0 ∧ b < 0) := by
  by_cases c : 0 < a
  · left
    exact ⟨c, (Rat.mul_pos_iff_of_pos_left c).mp h⟩
  · right
    have ha : a ≠ 0 := fun z => by rw [z] at h; grind
    have h2 : 0 < (-a) * (-b) := by grind
    have := (Rat.mul_pos_iff_of_pos_left (a := -a) (b := -b) (by grind)).mp h2
    exact ⟨by grind, by grind⟩
theorem mul_neg_cases {a b : Rat} (h : a * b < 0) : (0 < a ∧ b < 0) ∨ (a < 0 ∧ 0 < b) := by
  have h2 : 0 < a * (-b) := by grind
  rcases mul_pos_cases h2 with ⟨h3, h4⟩ | ⟨h3, h4⟩
  · exact .inl ⟨h3, by grind⟩
  · exact .inr ⟨h3, by grind⟩
theorem ms_neg {M S Z l : Rat} (hz : Z * S = M) (h : 0 < S * S * ((l - Z) - l)) : M * S < 0 := by
  have : S * S * ((l - Z) - l) = -(M * S) := by rw [← hz]; grind
  grind
theorem zl_pos {u l Z : Rat} (h : l ≤ u) (k : u < l - Z) : 0 < (l - Z) - l := by grind
theorem meets_of {c d : Cv} {x : Rat} : ∀ {ls : List Rat}, x ∈ meets c d ls → ∃ pre l r, ls = pre ++ l :: r ∧ x ∈ meetAt c d l r.head?
  | [], h => by cases h
  | l :: r, h => by
    rcases List.mem_append.mp h with h | h
    · exact ⟨[], l, r, rfl, h⟩
    · obtain ⟨pre, l', r', e, hm⟩ := meets_of (ls := r) h
      exact ⟨l :: pre, l', r', by rw [e]; rfl, hm⟩
theorem meets_mem {c d : Cv} {x l : Rat} {r : List Rat} : ∀ {pre : List Rat}, x ∈ meetAt c d l r.head? → x ∈ meets c d (pre ++ l :: r)
  | [], h => List.mem_append_left _ h
  | _ :: pre, h => List.mem_append_right _ (meets_mem (pre := pre) h)
theorem len_meets {c d : Cv} : ∀ (ls : List Rat), (meets c d ls).length ≤ ls.length
  | [] => Nat.le_refl _
  | l :: r => by
    have h := len_meets (c := c) (d := d) r
    have h2 : (meetAt c d l r.head?).length ≤ 1 := by
      unfold meetAt
      split
      · split
        · exact Nat.le_refl _
        · split <;> simp
      · simp
    unfold meets
    rw [List.length_append, List.length_cons]; omega
/-- a crossing's level lies behind its corner -/
theorem meetAt_gt {c d : Cv} {x l : Rat} {nx : Option Rat} (h : x ∈ meetAt c d l nx) : l < x ∧ (evc c l - evc d l) * (rs c l - rs d l) < 0 ∧ x = l - (evc c l - evc d l) / (rs c l - rs d l) := by
  unfold meetAt at h
  split at h
  · rename_i hneg
    have key : x = l + absR (evc c l - evc d l) / absR (rs c l - rs d l) := by
      split at h
      · exact List.mem_singleton.mp h
      · split at h
        · exact List.mem_singleton.mp h
        · cases h
    have e := met_eq (l := l) hneg
    refine ⟨?_, hneg, by rw [key, e]⟩
    rw [key, e]
    have hs : rs c l - rs d l ≠ 0 := fun z => by rw [z] at hneg; grind
    have h2 : (evc c l - evc d l) / (rs c l - rs d l) < 0 := by
      have h3 := Rat.div_mul_cancel (a := evc c l - evc d l) hs
      generalize hq : (evc c l - evc d l) / (rs c l - rs d l) = q at *
      rcases mul_neg_cases hneg with ⟨p1, p2⟩ | ⟨p1, p2⟩
      · by_cases cq : q < 0
        · exact cq
        · exfalso
          have := Rat.mul_nonneg (a := q) (b := -(rs c l - rs d l)) (by grind) (by grind)
          grind
      · by_cases cq : q < 0
        · exact cq
        · exfalso
          have := Rat.mul_nonneg (a := q) (b := (rs c l - rs d l)) (by grind) (by grind)
          grind
    grind
  · cases h
theorem SR.split_at {u : Rat} : ∀ {ls : List Rat}, SR ls → (∃ x ∈ ls, x ≤ u) → ∃ pre l r, ls = pre ++ l :: r ∧ l ≤ u ∧ ∀ y ∈ r, u < y
  | [], _, ⟨x, hx, _⟩ => by cases hx
  | a :: ls, h, hx => by
    obtain ⟨h1, h2⟩ := List.pairwise_cons.mp h
    by_cases c : ∃ x ∈ ls, x ≤ u
    · obtain ⟨pre, l, r, e, k1, k2⟩ := SR.split_at h2 c
      exact ⟨a :: pre, l, r, by rw [e]; rfl, k1, k2⟩
    · refine ⟨[], a, ls, rfl, ?_, fun y hy => ?_⟩
      · obtain ⟨x, hx, hxu⟩ := hx
        rcases List.mem_cons.mp hx with e | e
        · rw [← e]; exact hxu
        · exact absurd ⟨x, e, hxu⟩ c
      · by_cases c2 : u < y
        · exact c2
        · exact absurd ⟨y, hy, by grind⟩ c
section
variable {c d : Cv} (hc : Ok c) (hd : Ok d)
theorem ok2 {x : Cv} (h : x ∈ [c, d]) (hc : Ok c) (hd : Ok d) : Ok x := by
  rcases List.mem_cons.mp h with e | e
  · rw [e]; exact hc
  · rw [List.mem_singleton.mp e]; exact hd
include hc hd
/-- behind the corner l the difference is a line, up to the next corner -/
theorem diff_line {l : Rat} (h0 : 0 ≤ l) {nx : Option Rat} (hn : ∀ n, nx = some n → l < n) (hl : ∀ p ∈ c.1, p.1 ≤ l ∨ ∃ n, nx = some n ∧ n ≤ p.1) (hl2 : ∀ p ∈ d.1, p.1 ≤ l ∨ ∃ n, nx = some n ∧ n ≤ p.1) :
    ∀ y, l ≤ y → (∀ n, nx = some n → y ≤ n) → evc c y = evc c l + rs c l * (y - l) ∧ evc d y = evc d l + rs d l * (y - l) := by
  have one : ∀ (e : Cv), Ok e → (∀ p ∈ e.1, p.1 ≤ l ∨ ∃ n, nx = some n ∧ n ≤ p.1) → ∀ y, l ≤ y → (∀ n, nx = some n → y ≤ n) → evc e y = evc e l + rs e l * (y - l) := by
    intro e he hp y hy hyn
    obtain ⟨_, p, _, _, _, g⟩ := he.at h0
    cases nx with
    | none =>
      obtain ⟨a, h⟩ := he.ray h0 fun p hpm => by
        rcases hp p hpm with z | ⟨n, z, _⟩
        · exact z
        · cases z
      have g2 : Germ (evc e) l a e.2 := ⟨1, by decide, fun y h1 h2 => h y h1⟩
      obtain ⟨u1, u2⟩ := g.unique g2
      rw [h y hy, h l (by grind), u2]; grind
    | some n =>
      have hln := hn n rfl
      obtain ⟨a, b, h⟩ := he.aff h0 hln fun p hpm => by
        rcases hp p hpm with z | ⟨n', z, z2⟩
        · exact .inl z
        · cases z; exact .inr z2
      have g2 : Germ (evc e) l a b := ⟨n - l, by grind, fun y h1 h2 => h y h1 (by grind)⟩
      obtain ⟨u1, u2⟩ := g.unique g2
      rw [h y hy (hyn n rfl), h l (by grind) (by grind), u2]; grind
  exact fun y hy hyn => ⟨one c hc hl y hy hyn, one d hd hl2 y hy hyn⟩
/-- from u on, up to v where there is a next level: no corner and no crossing between -/
theorem no_sign {u : Rat} (h0 : 0 ≤ u) (hi : Option Rat) (huv : ∀ v, hi = some v → u < v) (hlv : ∀ w ∈ gLvls c d, w ≤ u ∨ ∃ v, hi = some v ∧ v ≤ w) :
    ∃ m s, (∀ y, u ≤ y → (∀ v, hi = some v → y ≤ v) → evc c y - evc d y = m + s * (y - u)) ∧ s = rs c u - rs d u ∧ ((0 ≤ m ∧ (∀ y, u ≤ y → (∀ v, hi = some v → y ≤ v) → 0 ≤ m + s * (y - u))) ∨ (m ≤ 0 ∧ ∀ y, u ≤ y → (∀ v, hi = some v → y ≤ v) → m + s * (y - u) ≤ 0)) := by
  have hsr := sr_lvls [c, d]
  have hz : (0 : Rat) ∈ lvls [c, d] := mem_lvls.mpr (.inl rfl)
  obtain ⟨pre, l, r, e, hlu, hr⟩ := SR.split_at (u := u) hsr ⟨0, hz, h0⟩
  have hl0 : 0 ≤ l := lvls_nonneg (fun x hx => ok2 hx hc hd) (by rw [e]; simp)
  have hg : ∀ x, x ∈ lvls [c, d] → x ∈ gLvls c d := fun x hx => mem_inOrder.mpr (List.mem_append_left _ hx)
  have hm : ∀ x, x ∈ meets c d (lvls [c, d]) → x ∈ gLvls c d := fun x hx => mem_inOrder.mpr (List.mem_append_right _ hx)
  have hnl : ∀ n, r.head? = some n → u < n := fun n hn => hr n (List.mem_of_mem_head? hn)
  have corner : ∀ x ∈ [c, d], ∀ p ∈ x.1, p.1 ≤ l ∨ ∃ n, r.head? = some n ∧ n ≤ p.1 := fun x hx p hp => by
    have hp2 : p.1 ∈ lvls [c, d] := mem_lvls.mpr (.inr ⟨x, hx, p, hp, rfl⟩)
    rw [e] at hp2 hsr
    rcases List.mem_append.mp hp2 with z | z
    · left
      have := (List.pairwise_append.mp hsr).2.2 p.1 z l List.mem_cons_self
      grind
    · rcases List.mem_cons.mp z with z | z
      · left; grind
      · right
        cases r with
        | nil => cases z
        | cons n r =>
          refine ⟨n, rfl, ?_⟩
          have h3 := (List.pairwise_cons.mp ((List.pairwise_append.mp hsr).2.1)).2
          rcases List.mem_cons.mp z with z | z
          · grind
          · have := (List.pairwise_cons.mp h3).1 p.1 z; grind
  have L := diff_line hc hd hl0 (nx := r.head?) (fun n hn => by have := hnl n hn; grind) (corner c (by simp)) (corner d (by simp))
  have hin : ∀ y v, (hi = some v) → y ≤ v → ∀ n, r.head? = some n → y ≤ n := fun y v hv hy n hn => by
    have hn2 : n ∈ gLvls c d := hg n (by rw [e]; exact List.mem_append_right _ (List.mem_cons_of_mem _ (List.mem_of_mem_head? hn)))
    rcases hlv n hn2 with z | ⟨v', z, z2⟩
    · have := hnl n hn; grind
    · rw [hv] at z; cases z; grind
  have hin0 : hi = none → r.head? = none := fun h => by
    cases hh : r.head? with
    | none => rfl
    | some n =>
      have hn2 : n ∈ gLvls c d := hg n (by rw [e]; exact List.mem_append_right _ (List.mem_cons_of_mem _ (List.mem_of_mem_head? hh)))
      rcases hlv n hn2 with z | ⟨v', z, z2⟩
      · have := hnl n hh; grind
      · rw [h] at z; cases z
  have inn : ∀ y, u ≤ y → (∀ v, hi = some v → y ≤ v) → ∀ n, r.head? = some n → y ≤ n := fun y hy hyv n hn => by
    cases hh : hi with
    | none => rw [hin0 hh] at hn; cases hn
    | some v => exact hin y v hh (hyv v hh) n hn
  have hun : ∀ n, r.head? = some n → u ≤ n := fun n hn => by have := hnl n hn; grind
  -- the slopes at u are those at l
  have rsu : ∀ x ∈ [c, d], rs x u = rs x l := fun x hx => by
    have hx' := ok2 hx hc hd
    obtain ⟨_, p, _, _, _, g⟩ := hx'.at h0
    have key : ∀ y, u ≤ y → (∀ n, r.head? = some n → y ≤ n) → evc x y = (evc x l - rs x l * l) + rs x l * y := fun y hy hyn => by
      have := L y (by grind) hyn
      rcases List.mem_cons.mp hx with z | z
      · rw [z] at *; rw [this.1]; grind
      · rw [List.mem_singleton.mp z] at *; rw [this.2]; grind
    have g2 : Germ (evc x) u (evc x l - rs x l * l) (rs x l) := by
      cases hh : r.head? with
      | none => exact ⟨1, by decide, fun y h1 h2 => key y h1 fun n hn => by rw [hh] at hn; cases hn⟩
      | some n =>
        have := hnl n hh
        exact ⟨n - u, by grind, fun y h1 h2 => key y h1 fun n' hn => by rw [hh] at hn; cases hn; grind⟩
    exact (g.unique g2).2
  have ru : rs c u - rs d u = rs c l - rs d l := by rw [rsu c (by simp), rsu d (by simp)]
  refine ⟨evc c u - evc d u, rs c u - rs d u, fun y hy hyv => ?_, rfl, ?_⟩
  · have h1 := L y (by grind) (inn y hy hyv)
    have h2 := L u hlu hun
    rw [h1.1, h1.2, h2.1, h2.2, ru]; grind
  · have h2 := L u hlu hun
    have em : evc c u - evc d u = (evc c l - evc d l) + (rs c l - rs d l) * (u - l) := by rw [h2.1, h2.2]; grind
    -- were there a change of sign behind u, its level would be among the crossings
    have no : ∀ y, u < y → (∀ v, hi = some v → y ≤ v) → ¬ ((evc c u - evc d u) * ((evc c u - evc d u) + (rs c u - rs d u) * (y - u)) < 0) := fun y hy hyv hneg => by
      generalize hM : evc c l - evc d l = M at *
      generalize hS : rs c l - rs d l = S at *
      rw [em, ru] at hneg
      have hs : S ≠ 0 := fun z => by
        rw [z] at hneg
        have : M * M < 0 := by grind
        by_cases c0 : 0 ≤ M
        · have := Rat.mul_nonneg c0 c0; grind
        · have := Rat.mul_nonneg (a := -M) (b := -M) (by grind) (by grind); grind
      have hz := Rat.div_mul_cancel (a := M) hs
      generalize hZ : M / S = Z at *
      -- the crossing is l - Z
      have e1 : M + S * (u - l) = S * (u - (l - Z)) := by grind
      have e2 : M + S * (u - l) + S * (y - u) = S * (y - (l - Z)) := by grind
      have hss : 0 < S * S := by
        by_cases c0 : 0 < S
        · exact Rat.mul_pos c0 c0
        · have := Rat.mul_pos (a := -S) (b := -S) (by grind) (by grind); grind
      have h5 : S * S * ((u - (l - Z)) * (y - (l - Z))) < 0 := by
        rw [e1] at hneg
        have : S * (u - (l - Z)) + S * (y - u) = S * (y - (l - Z)) := by grind
        rw [this] at hneg
        grind
      have h6 : (u - (l - Z)) * (y - (l - Z)) < 0 := (Rat.mul_neg_iff_of_pos_left hss).mp h5
      have h7 : u < l - Z ∧ l - Z < y := by
        rcases mul_neg_cases h6 with ⟨p1, p2⟩ | ⟨p1, p2⟩ <;> grind
      have h8 : M * S < 0 := by
        exact ms_neg hz (Rat.mul_pos hss (zl_pos hlu h7.1))
      have hx : l - Z ∈ gLvls c d := by
        refine hm _ ?_
        rw [e]
        refine meets_mem ?_
        unfold meetAt
        rw [hM, hS, if_pos h8, met_eq h8, hZ]
        cases hh : r.head? with
        | none => exact List.mem_singleton.mpr rfl
        | some n =>
          have := inn y (by grind) hyv n hh
          simp only
          rw [if_pos (by grind)]
          exact List.mem_singleton.mpr rfl
      rcases hlv _ hx with z | ⟨v, z, z2⟩
      · grind
      · have := hyv v z; grind
    by_cases c1 : 0 < evc c u - evc d u
    · left
      refine ⟨by grind, fun y hy hyv => ?_⟩
      by_cases c2 : u < y
      · have := no y c2 hyv
        by_cases c3 : 0 ≤ evc c u - evc d u + (rs c u - rs d u) * (y - u)
        · exact c3
        · exfalso
          apply this
          have h9 := Rat.mul_pos c1 (b := -(evc c u - evc d u + (rs c u - rs d u) * (y - u))) (by grind)
          grind
      · have : y = u := by grind
        rw [this]; grind
    · by_cases c4 : evc c u - evc d u < 0
      · right
        refine ⟨by grind, fun y hy hyv => ?_⟩
        by_cases c2 : u < y
        · have := no y c2 hyv
          by_cases c3 : evc c u - evc d u + (rs c u - rs d u) * (y - u) ≤ 0
          · exact c3
          · exfalso
            apply this
            have h9 := Rat.mul_pos (a := -(evc c u - evc d u)) (b := (evc c u - evc d u + (rs c u - rs d u) * (y - u))) (by grind) (by grind)
            grind
        · have : y = u := by grind
          rw [this]; grind
      · have e0 : evc c u - evc d u = 0 := by grind
        rw [e0]
        by_cases c5 : 0 ≤ rs c u - rs d u
        · left
          exact ⟨by grind, fun y hy _ => by have := Rat.mul_nonneg c5 (b := y - u) (by grind); grind⟩
        · right
          exact ⟨by grind, fun y hy _ => by have := Rat.mul_nonneg (a := -(rs c u - rs d u)) (b := y - u) (by grind) (by grind); grind⟩
end
end Sw
namespace Sw
theorem max_l {a b : Rat} (h : 0 ≤ a - b) : max a b = a := by rw [Rat.max_def]; split <;> grind
theorem max_r {a b : Rat} (h : a - b ≤ 0) : max a b = b := by rw [Rat.max_def]; split <;> grind
theorem sr_last {x : Rat} : ∀ {ls : List Rat}, SR ls → ls ≠ [] → ls.getLastD 0 ∈ ls ∧ ∀ w ∈ ls, w ≤ ls.getLastD 0
  | [], _, h => absurd rfl h
  | [a], _, _ => ⟨List.mem_singleton.mpr rfl, fun w hw => by rw [List.mem_singleton.mp hw]; show a ≤ a; grind⟩
  | a :: b :: r, h, _ => by
    obtain ⟨h1, h2⟩ := List.pairwise_cons.mp h
    obtain ⟨q1, q2⟩ := sr_last (x := x) (ls := b :: r) h2 (by simp)
    have e : (a :: b :: r).getLastD 0 = (b :: r).getLastD 0 := by cases r <;> rfl
    rw [e]
    refine ⟨List.mem_cons_of_mem _ q1, fun w hw => ?_⟩
    rcases List.mem_cons.mp hw with z | z
    · have := h1 _ q1; grind
    · exact q2 w z
section
variable {c d : Cv}
theorem gl_corner (x : Cv) (hx : x ∈ [c, d]) {p : Pt} (hp : p ∈ x.1) : p.1 ∈ gLvls c d := mem_inOrder.mpr (List.mem_append_left _ (mem_lvls.mpr (.inr ⟨x, hx, p, hp, rfl⟩)))
theorem gLvls_nonneg (hc : Ok c) (hd : Ok d) {x : Rat} (hx : x ∈ gLvls c d) : 0 ≤ x := by
  rcases List.mem_append.mp (mem_inOrder.mp hx) with h | h
  · exact lvls_nonneg (fun y hy => ok2 hy hc hd) h
  · obtain ⟨pre, l, r, e, hm⟩ := meets_of h
    have : 0 ≤ l := lvls_nonneg (fun y hy => ok2 hy hc hd) (by rw [e]; simp)
    have := (meetAt_gt hm).1
    grind
theorem gLvls_head (hc : Ok c) (hd : Ok d) : ∃ r, gLvls c d = 0 :: r :=
  inOrder_zero (List.mem_append_left _ (mem_lvls.mpr (.inl rfl))) fun x hx => gLvls_nonneg hc hd (mem_inOrder.mpr hx)
theorem gLast (hc : Ok c) (hd : Ok d) : (gLvls c d).getLastD 0 ∈ gLvls c d ∧ ∀ w ∈ gLvls c d, w ≤ (gLvls c d).getLastD 0 :=
  sr_last (x := 0) (sr_inOrder _) (by obtain ⟨r, e⟩ := gLvls_head hc hd; rw [e]; simp)
theorem max_aff (hc : Ok c) (hd : Ok d) {u v : Rat} (h0 : 0 ≤ u) (huv : u < v) (h : ∀ w ∈ gLvls c d, w ≤ u ∨ v ≤ w) : Aff (maxOf c d) u v := by
  obtain ⟨m, s, h1, h2, h3⟩ := no_sign hc hd h0 (some v) (fun w e => by cases e; exact huv) fun w hw => by
    rcases h w hw with z | z
    · exact .inl z
    · exact .inr ⟨v, rfl, z⟩
  have upto : ∀ {y : Rat}, y ≤ v → ∀ w, some v = some w → y ≤ w := fun hy w e => by cases e; exact hy
  rcases h3 with ⟨_, h3⟩ | ⟨_, h3⟩
  · obtain ⟨a, b, k⟩ := hc.aff h0 huv fun p hp => h p.1 (gl_corner c (by simp) hp)
    refine ⟨a, b, fun x hx hx2 => ?_⟩
    have e1 := h1 x hx (upto hx2)
    have e2 := h3 x hx (upto hx2)
    unfold maxOf
    rw [max_l (by rw [e1]; exact e2), k x hx hx2]
  · obtain ⟨a, b, k⟩ := hd.aff h0 huv fun p hp => h p.1 (gl_corner d (by simp) hp)
    refine ⟨a, b, fun x hx hx2 => ?_⟩
    have e1 := h1 x hx (upto hx2)
    have e2 := h3 x hx (upto hx2)
    unfold maxOf
    rw [max_r (by rw [e1]; exact e2), k x hx hx2]
theorem max_ray (hc : Ok c) (hd : Ok d) : Ray (maxOf c d) ((gLvls c d).getLastD 0) (gSlope c d) := by
  obtain ⟨q1, q2⟩ := gLast hc hd
  have h0 := gLvls_nonneg hc hd q1
  obtain ⟨m, s, h1, h2, h3⟩ := no_sign hc hd h0 none (fun w e => by cases e) fun w hw => .inl (q2 w hw)
  have no : ∀ {y : Rat}, ∀ w, (none : Option Rat) = some w → y ≤ w := fun w e => by cases e
  have em : evc c ((gLvls c d).getLastD 0) - evc d ((gLvls c d).getLastD 0) = m := by
    have := h1 ((gLvls c d).getLastD 0) Rat.le_refl no
    rw [this]; grind
  unfold gSlope
  rw [em, ← h2]
  generalize (gLvls c d).getLastD 0 = t at *
  by_cases cond : m > 0 ∨ (m = 0 ∧ s > 0)
  · rw [if_pos cond]
    obtain ⟨a, k⟩ := hc.ray h0 fun p hp => q2 p.1 (gl_corner c (by simp) hp)
    refine ⟨a, fun x hx => ?_⟩
    have e1 := h1 x hx no
    unfold maxOf
    rw [max_l ?_, k x hx]
    rw [e1]
    rcases cond with c1 | ⟨c1, c2⟩
    · rcases h3 with ⟨_, h3⟩ | ⟨h4, _⟩
      · exact h3 x hx no
      · grind
    · rw [c1]
      have := Rat.mul_nonneg (a := s) (b := x - t) (by grind) (by grind)
      grind
  · rw [if_neg cond]
    obtain ⟨a, k⟩ := hd.ray h0 fun p hp => q2 p.1 (gl_corner d (by simp) hp)
    refine ⟨a, fun x hx => ?_⟩
    have e1 := h1 x hx no
    unfold maxOf
    rw [max_r ?_, k x hx]
    rw [e1]
    by_cases c1 : m < 0
    · rcases h3 with ⟨h4, _⟩ | ⟨_, h3⟩
      · grind
      · exact h3 x hx no
    · have c2 : m = 0 := by
        by_cases z : m > 0
        · exact absurd (.inl z) cond
        · grind
      have c3 : s ≤ 0 := by
        by_cases z : s > 0
        · exact absurd (.inr ⟨c2, z⟩) cond
        · grind
      rw [c2]
      have := Rat.mul_nonneg (a := -s) (b := x - t) (by grind) (by grind)
      grind
theorem greaterOf_is (hc : Ok c) (hd : Ok d) : IsCv (greaterOf c d).1 (greaterOf c d).2 (maxOf c d) := by
  obtain ⟨r, e⟩ := gLvls_head hc hd
  have hs : SR (gLvls c d) := sr_inOrder _
  have hl := (gLast hc hd)
  have hray := max_ray hc hd
  unfold greaterOf
  simp only
  have hmem : ∀ w, w ∈ gLvls c d → w ≤ 0 ∨ w ∈ r := fun w hw => by
    rw [e] at hw
    rcases List.mem_cons.mp hw with z | z
    · left; rw [z]; grind
    · exact .inr z
  have hA : ∀ u v, 0 ≤ u → u < v → (∀ w, w ∈ gLvls c d → w ≤ u ∨ v ≤ w) → Aff (maxOf c d) u v := fun u v h0 huv h => max_aff hc hd h0 huv h
  have hR : ∀ u, (0 : Rat) ≤ u → (∀ w, w ∈ gLvls c d → w ≤ u) → Ray (maxOf c d) u (gSlope c d) := fun u h0 h => by
    obtain ⟨a, k⟩ := hray
    have := h _ hl.1
    exact ⟨a, fun x hx => k x (by grind)⟩
  rw [e] at hs ⊢
  refine isCv_interp ?_ hs (interp_of (lo := 0) (C := fun w => w ∈ gLvls c d) hA hR r 0 hs (by grind) hmem)
  unfold maxOf
  rw [hc.zero, hd.zero, max_l (by grind)]
end
/-! ### the greatest of some -/
def zeroCv : Cv := ([(0, 0)], 0)
theorem zero_is : IsCv zeroCv.1 zeroCv.2 (fun _ => 0) := ⟨⟨[], rfl⟩, trivial, trivial, fun x _ => by simp only [zeroCv, ev]; grind⟩
theorem zero_ok : Ok zeroCv := zero_is.ok
def greatestOf (L : List Cv) : Cv := L.foldl greaterOf zeroCv
def maxL (L : List Cv) (x : Rat) : Rat := L.foldl (fun m c => max m (evc c x)) 0
theorem greatest_go : ∀ (L : List Cv) (z : Cv) (g : Rat → Rat), (∀ c ∈ L, Ok c) → IsCv z.1 z.2 g → IsCv (L.foldl greaterOf z).1 (L.foldl greaterOf z).2 (fun x => L.foldl (fun m c => max m (evc c x)) (g x))
  | [], z, g, _, h => h
  | c :: L, z, g, hL, h => by
    have hz := h.ok
    have h1 := greaterOf_is hz (hL c List.mem_cons_self)
    have h2 : IsCv (greaterOf z c).1 (greaterOf z c).2 (fun x => max (g x) (evc c x)) := h1.congr fun x hx => by
      unfold maxOf
      have : evc z x = g x := h.eq x hx
      rw [this]
    exact greatest_go L (greaterOf z c) _ (fun d hd => hL d (List.mem_cons_of_mem _ hd)) h2
theorem greatestOf_is {L : List Cv} (h : ∀ c ∈ L, Ok c) : IsCv (greatestOf L).1 (greatestOf L).2 (maxL L) := greatest_go L zeroCv _ h zero_is
/-! ### led back -/
def Mono (f : Rat → Rat) : Prop := ∀ x y, 0 ≤ x → x ≤ y → f x ≤ f y
/-- the last corner that pays less -/
def below (c : Cv) (pay : Rat) : List Nat := (List.range c.1.length).filter fun i => decide ((c.1.getD i (0, 0)).2 < pay)
def reachedC (c : Cv) (pay : Rat) : Option Rat :=
  match (below c pay).getLast? with
  | none => some 0
  | some i => if hs (c.1.drop i) c.2 = 0 then none else some ((c.1.getD i (0, 0)).1 + (pay - (c.1.getD i (0, 0)).2) / hs (c.1.drop i) c.2)
theorem hs_last {cs : List Pt} {s : Rat} {i : Nat} {p : Pt} (h : cs[i]? = some p) : (∃ q, cs[i + 1]? = some q ∧ hs (cs.drop i) s = slopeB p q) ∨ (cs[i + 1]? = none ∧ hs (cs.drop i) s = s) := by
  have hi : i < cs.length := (List.getElem?_eq_some_iff.mp h).1
  have e1 : cs.drop i = p :: cs.drop (i + 1) := by
    rw [List.drop_eq_getElem_cons hi]
    congr 1
    rw [List.getElem?_eq_getElem hi] at h
    exact Option.some.inj h
  rw [e1]
  cases e : cs[i + 1]? with
  | none =>
    right
    have : cs.length ≤ i + 1 := List.getElem?_eq_none_iff.mp e
    rw [List.drop_eq_nil_of_le this]
    exact ⟨rfl, rfl⟩
  | some q =>
    left
    have hi2 : i + 1 < cs.length := (List.getElem?_eq_some_iff.mp e).1
    refine ⟨q, rfl, ?_⟩
    rw [List.drop_eq_getElem_cons hi2]
    rw [List.getElem?_eq_getElem hi2] at e
    rw [Option.some.inj e]
    rfl
/-- on from a corner: the line of its slope, up to the next corner -/
theorem Ok.from_ {c : Cv} (h : Ok c) {i : Nat} {p : Pt} (hp : c.1[i]? = some p) : (∀ y, p.1 ≤ y → (∀ q, c.1[i + 1]? = some q → y ≤ q.1) → evc c y = p.2 + hs (c.1.drop i) c.2 * (y - p.1)) ∧ (∀ q, c.1[i + 1]? = some q → p.1 < q.1) := by
  obtain ⟨_, h1, _, _⟩ := h
  have go : ∀ (cs : List Pt) (i : Nat) (s : Rat), Srt cs → cs[i]? = some p → (∀ y, p.1 ≤ y → (∀ q, cs[i + 1]? = some q → y ≤ q.1) → ev cs s y = p.2 + hs (cs.drop i) s * (y - p.1)) ∧ (∀ q, cs[i + 1]? = some q → p.1 < q.1) := by
    intro cs
    induction cs with
    | nil => intro i s _ h; simp at h
    | cons a r ih =>
      intro i s hS hi
      cases i with
      | zero =>
        simp only [List.getElem?_cons_zero, Option.some.injEq] at hi
        subst hi
        cases r with
        | nil => exact ⟨fun y hy _ => by simp only [ev, hs, List.drop], fun q hq => by simp at hq⟩
        | cons b r =>
          have hab : a.1 < b.1 := hS.1
          refine ⟨fun y hy hq => ?_, fun q hq => ?_⟩
          · have hyb := hq b (by simp)
            by_cases c : y < b.1
            · simp only [ev, hs, List.drop]; rw [if_pos c]
            · have : y = b.1 := by grind
              rw [this, ev_ge (by grind), ev_head hS.2]
              simp only [hs, List.drop]
              have := slopeB_mul hab; grind
          · simp only [Nat.zero_add, List.getElem?_cons_succ, List.getElem?_cons_zero, Option.some.injEq] at hq
            rw [← hq]; exact hab
      | succ j =>
        simp only [List.getElem?_cons_succ] at hi
        obtain ⟨q1, q2⟩ := ih j s hS.tail hi
        refine ⟨fun y hy hq => ?_, fun q hq => q2 q (by simpa using hq)⟩
        have := q1 y hy fun q hq' => hq q (by simpa using hq')
        cases r with
        | nil => simp at hi
        | cons b r =>
          have hle : b.1 ≤ y := by
            have hpm : p ∈ b :: r := List.mem_of_getElem? hi
            rcases List.mem_cons.mp hpm with z | z
            · rw [← z]; exact hy
            · have := hS.2.lt z; grind
          rw [ev_ge hle, this]; rfl
  exact go c.1 i c.2 h1 hp
theorem Ok.slope_nonneg {c : Cv} (h : Ok c) (hm : Mono (evc c)) {i : Nat} {p : Pt} (hp : c.1[i]? = some p) : 0 ≤ hs (c.1.drop i) c.2 := by
  obtain ⟨q1, q2⟩ := h.from_ hp
  have h0 := h.nonneg (List.mem_of_getElem? hp)
  by_cases neg : 0 ≤ hs (c.1.drop i) c.2
  · exact neg
  · exfalso
    obtain ⟨y, hy, hyq⟩ : ∃ y, p.1 < y ∧ ∀ q, c.1[i + 1]? = some q → y ≤ q.1 := by
      cases e : c.1[i + 1]? with
      | none => exact ⟨p.1 + 1, by grind, fun q hq => by cases hq⟩
      | some q => exact ⟨q.1, q2 q e, fun q' hq => by cases hq; grind⟩
    have e1 := q1 y (by grind) hyq
    have e2 := q1 p.1 (by grind) (fun q hq => by have := q2 q hq; grind)
    have := hm p.1 y h0 (by grind)
    have h3 := Rat.mul_pos (a := -hs (c.1.drop i) c.2) (b := y - p.1) (by grind) (by grind)
    grind
theorem getD_some {cs : List Pt} {i : Nat} (h : i < cs.length) : cs[i]? = some (cs.getD i (0, 0)) := by
  rw [List.getElem?_eq_getElem h, List.getD_eq_getElem?_getD, List.getElem?_eq_getElem h]; rfl
theorem below_mem {c : Cv} {pay : Rat} {i : Nat} : i ∈ below c pay ↔ i < c.1.length ∧ (c.1.getD i (0, 0)).2 < pay := by
  unfold below
  rw [List.mem_filter, List.mem_range, decide_eq_true_eq]
theorem below_last {c : Cv} {pay : Rat} {i : Nat} (h : (below c pay).getLast? = some i) : i ∈ below c pay ∧ ∀ j ∈ below c pay, j ≤ i := by
  have hm := List.mem_of_getLast? h
  refine ⟨hm, fun j hj => ?_⟩
  have hp : (below c pay).Pairwise (· < ·) := List.Pairwise.filter _ List.pairwise_lt_range
  obtain ⟨ys, e⟩ := List.getLast?_eq_some_iff.mp h
  rw [e] at hp hj
  rcases List.mem_append.mp hj with z | z
  · have := (List.pairwise_append.mp hp).2.2 j z i (List.mem_singleton.mpr rfl)
    omega
  · rw [List.mem_singleton.mp z]; exact Nat.le_refl _
theorem reachedC_spec {c : Cv} (h : Ok c) (hm : Mono (evc c)) {pay : Rat} (h0 : 0 ≤ pay) :
    match reachedC c pay with
    | none => ∀ x, 0 ≤ x → evc c x < pay
    | some l => 0 ≤ l ∧ evc c l = pay ∧ ∀ x, 0 ≤ x → x < l → evc c x < pay := by
  have hhead : c.1[0]? = some (0, 0) := by
    obtain ⟨⟨r, e⟩, _⟩ := h
    rw [e]; rfl
  unfold reachedC
  cases e : (below c pay).getLast? with
  | none =>
    simp only
    have hb : below c pay = [] := List.getLast?_eq_none_iff.mp e
    have hl : 0 < c.1.length := (List.getElem?_eq_some_iff.mp hhead).1
    have hd : c.1.getD 0 (0, 0) = (0, 0) := by
      have := getD_some hl
      rw [hhead] at this
      exact (Option.some.inj this).symm
    have : ¬ ((0 : Rat) < pay) := fun z => by
      have : 0 ∈ below c pay := below_mem.mpr ⟨hl, by rw [hd]; exact z⟩
      rw [hb] at this; cases this
    have hp : pay = 0 := by grind
    exact ⟨by grind, by rw [hp]; exact h.zero, fun x hx hx2 => by grind⟩
  | some i =>
    simp only
    obtain ⟨hi, hlast⟩ := below_last e
    obtain ⟨hi1, hi2⟩ := below_mem.mp hi
    have hp := getD_some hi1
    generalize hP : c.1.getD i (0, 0) = p at *
    obtain ⟨q1, q2⟩ := h.from_ hp
    have hs0 := h.slope_nonneg hm hp
    have hp0 := h.nonneg (List.mem_of_getElem? hp)
    -- the next corner pays enough
    have hnext : ∀ q, c.1[i + 1]? = some q → pay ≤ q.2 := fun q hq => by
      by_cases z : q.2 < pay
      · exfalso
        have hi3 : i + 1 < c.1.length := (List.getElem?_eq_some_iff.mp hq).1
        have hq2 := getD_some hi3
        rw [hq] at hq2
        have : i + 1 ∈ below c pay := below_mem.mpr ⟨hi3, by rw [← Option.some.inj hq2]; exact z⟩
        have := hlast _ this
        omega
      · grind
    by_cases c0 : hs (c.1.drop i) c.2 = 0
    · rw [if_pos c0]
      simp only
      intro x hx
      have hnone : c.1[i + 1]? = none := by
        cases e2 : c.1[i + 1]? with
        | none => rfl
        | some q =>
          exfalso
          have h1 := q1 q.1 (by have := q2 q e2; grind) (fun q' hq' => by rw [e2] at hq'; cases hq'; grind)
          have h2 := hnext q e2
          have h3 := h.mem (List.mem_of_getElem? e2)
          rw [h3, c0] at h1
          grind
      by_cases cx : p.1 ≤ x
      · rw [q1 x cx (fun q hq => by rw [hnone] at hq; cases hq), c0]; grind
      · have := hm x p.1 hx (by grind)
        have h3 := h.mem (List.mem_of_getElem? hp)
        grind
    · rw [if_neg c0]
      simp only
      have hpos : 0 < hs (c.1.drop i) c.2 := by grind
      have hz := Rat.div_mul_cancel (a := pay - p.2) c0
      have hq0 : 0 < (pay - p.2) / hs (c.1.drop i) c.2 := by
        rw [Rat.div_def]; exact Rat.mul_pos (by grind) (Rat.inv_pos.mpr hpos)
      generalize hQ : (pay - p.2) / hs (c.1.drop i) c.2 = Q at *
      generalize hS : hs (c.1.drop i) c.2 = S at *
      have hupto : ∀ q, c.1[i + 1]? = some q → p.1 + Q ≤ q.1 := fun q hq => by
        have h1 := q1 q.1 (by have := q2 q hq; grind) (fun q' hq' => by rw [hq] at hq'; cases hq'; grind)
        have h2 := hnext q hq
        have h3 := h.mem (List.mem_of_getElem? hq)
        rw [h3] at h1
        have h4 : Q * S ≤ S * (q.1 - p.1) := by grind
        have h5 : S * Q ≤ S * (q.1 - p.1) := by grind
        have := Rat.le_of_mul_le_mul_left h5 hpos
        grind
      have hv := q1 (p.1 + Q) (by grind) hupto
      refine ⟨by grind, by rw [hv]; grind, fun x hx hx2 => ?_⟩
      by_cases cx : p.1 ≤ x
      · rw [q1 x cx (fun q hq => by have := hupto q hq; grind)]
        have := Rat.mul_lt_mul_of_pos_left (a := x - p.1) (b := Q) (c := S) (by grind) hpos
        grind
      · have := hm x p.1 hx (by grind)
        have h3 := h.mem (List.mem_of_getElem? hp)
        grind
/-! ### capped -/
def minC (c : Cv) (amount x : Rat) : Rat := min (evc c x) amount
def cappedC (c : Cv) (amount : Rat) : Cv :=
  match reachedC c amount with
  | none => (canon c.1 c.2, c.2)
  | some l => (canon ((c.1.filter fun p => decide (p.1 < l)) ++ [(l, amount)]) 0, 0)
theorem canon_can : ∀ (r : List Pt) (a : Pt) (s : Rat), Can (a :: r) s → canonGo a r s = r
  | [], _, _, _ => rfl
  | b :: r, a, s, h => by
    unfold canonGo
    rw [if_pos h.1, canon_can r b s h.2]
theorem canon_ok {c : Cv} (h : Ok c) : canon c.1 c.2 = c.1 := by
  obtain ⟨⟨r, e⟩, _, h2, _⟩ := h
  rw [e] at h2 ⊢
  show (0, 0) :: canonGo (0, 0) r c.2 = _
  rw [canon_can r _ _ h2]
theorem filter_lt_go : ∀ (r : List Pt) (a : Pt) (s l amount : Rat), Srt (a :: r) → a.1 < l → amount = ev (a :: r) s l → Srt (a :: ((r.filter fun p => decide (p.1 < l)) ++ [(l, amount)])) ∧
    ∀ x, a.1 ≤ x → ev (a :: ((r.filter fun p => decide (p.1 < l)) ++ [(l, amount)])) 0 x = if x < l then ev (a :: r) s x else amount
  | [], a, s, l, am, _, hl, he => by
    refine ⟨⟨hl, trivial⟩, fun x hx => ?_⟩
    simp only [List.filter, List.nil_append, ev]
    split
    · rename_i c
      have : slopeB a (l, am) = s := slopeB_line (c := a.2 - s * a.1) hl (by grind) (by rw [he]; simp only [ev]; grind)
      rw [this]
    · grind
  | b :: r, a, s, l, am, hS, hl, he => by
    have hab : a.1 < b.1 := hS.1
    by_cases c : b.1 < l
    · have e1 : (b :: r).filter (fun p => decide (p.1 < l)) = b :: r.filter (fun p => decide (p.1 < l)) := by rw [List.filter_cons_of_pos (by simpa using c)]
      obtain ⟨q1, q2⟩ := filter_lt_go r b s l am hS.2 c (by rw [he, ev_ge (by grind)])
      rw [e1]
      refine ⟨⟨hab, q1⟩, fun x hx => ?_⟩
      by_cases c2 : x < b.1
      · simp only [List.cons_append, ev]
        rw [if_pos c2, if_pos (by grind), if_pos c2]
      · rw [List.cons_append, ev_ge (by grind), ev_ge (by grind)]
        exact q2 x (by grind)
    · have e1 : (b :: r).filter (fun p => decide (p.1 < l)) = [] := List.filter_eq_nil_iff.mpr fun p hp => by
        simp only [decide_eq_true_eq]
        rcases List.mem_cons.mp hp with z | z
        · rw [z]; exact c
        · have := hS.2.lt z; grind
      rw [e1]
      refine ⟨⟨hl, trivial⟩, fun x hx => ?_⟩
      have hlb : l ≤ b.1 := by grind
      have ham : am = a.2 + slopeB a b * (l - a.1) := by
        rw [he]
        by_cases c3 : l < b.1
        · simp only [ev]; rw [if_pos c3]
        · have : l = b.1 := by grind
          rw [this, ev_ge (by grind), ev_head hS.2]
          have := slopeB_mul hab; grind
      have hsl : slopeB a (l, am) = slopeB a b := slopeB_line (c := a.2 - slopeB a b * a.1) hl (by grind) (by rw [ham]; grind)
      simp only [List.nil_append, ev]
      split
      · rw [hsl, if_pos (by grind)]
      · grind
theorem cappedC_is {c : Cv} (h : Ok c) (hm : Mono (evc c)) {amount : Rat} (h0 : 0 < amount) : IsCv (cappedC c amount).1 (cappedC c amount).2 (minC c amount) := by
  have sp := reachedC_spec h hm (pay := amount) (by grind)
  unfold cappedC
  cases e : reachedC c amount with
  | none =>
    rw [e] at sp
    simp only at sp ⊢
    rw [canon_ok h]
    refine ⟨h.head, h.srt, h.can, fun x hx => ?_⟩
    have := sp x hx
    unfold minC
    rw [Rat.min_def, if_pos (by grind)]; rfl
  | some l =>
    rw [e] at sp
    simp only at sp ⊢
    obtain ⟨s0, s1, s2⟩ := sp
    obtain ⟨⟨r, eh⟩, hS, _, _⟩ := id h
    have hl : 0 < l := by
      by_cases z : l = 0
      · rw [z, h.zero] at s1; grind
      · grind
    have e1 : c.1.filter (fun p => decide (p.1 < l)) = (0, 0) :: r.filter (fun p => decide (p.1 < l)) := by rw [eh, List.filter_cons_of_pos (by simpa using hl)]
    rw [eh] at hS
    have es : amount = ev ((0, 0) :: r) c.2 l := by rw [← s1]; unfold evc; rw [eh]
    obtain ⟨q1, q2⟩ := filter_lt_go r (0, 0) c.2 l amount hS hl es
    rw [e1]
    refine isCv_canon q1 fun x hx => ?_
    have hx' : ((0, 0) : Pt).1 ≤ x := hx
    have ee : ev ((0, 0) :: r) c.2 x = evc c x := by unfold evc; rw [eh]
    rw [List.append_eq]
    rw [q2 x hx', ee]
    unfold minC
    split
    · rename_i c1
      have := s2 x hx c1
      rw [Rat.min_def, if_pos (by grind)]
    · rename_i c1
      have := hm l x s0 (by grind)
      rw [Rat.min_def]
      split <;> grind
end Sw
namespace Sw
/-! claims: what they pay, their curves, sizes -/
inductive Claim where
  | none
  | due (r : Nat) (a : Rat)
  | shares (c : Rat)
  | option (c p : Rat)
  | capped (c : Claim) (a : Rat)
  | sum (cs : List Claim)
mutual
def pay (R : Nat) : Claim → Rat → Rat
  | .none, _ => 0
  | .due r a, x => min (max (x - r) 0) 1 * a
  | .shares c, x => max (x - R) 0 * c
  | .option c p, x => max (x - (R + p)) 0 * c
  | .capped c a, x => min (pay R c x) a
  | .sum cs, x => pays R cs x
def pays (R : Nat) : List Claim → Rat → Rat
  | [], _ => 0
  | c :: cs, x => pay R c x + pays R cs x
end
mutual
/-- all that stands in it, added up -/
def mg : Claim → Rat
  | .none => 0
  | .due _ a => a
  | .shares c => c
  | .option c _ => c
  | .capped c a => mg c + a
  | .sum cs => mgs cs
def mgs : List Claim → Rat
  | [] => 0
  | c :: cs => mg c + mgs cs
end
mutual
def OkC (R : Nat) : Claim → Prop
  | .none => True
  | .due r a => r < R ∧ 0 < a ∧ Grid DD a
  | .shares c => 0 < c ∧ Grid DD c
  | .option c p => 0 < c ∧ Grid DD c ∧ 0 < p ∧ Grid DD p ∧ p ≤ 1000000000000
  | .capped c a => OkC R c ∧ 0 < a ∧ Grid DD a
  | .sum cs => 2 ≤ cs.length ∧ OkCs R cs
def OkCs (R : Nat) : List Claim → Prop
  | [] => True
  | c :: cs => OkC R c ∧ OkCs R cs
end
mutual
def leaves : Claim → Nat
  | .capped c _ => leaves c
  | .sum cs => leavess cs
  | .none => 1
  | .due _ _ => 1
  | .shares _ => 1
  | .option _ _ => 1
def leavess : List Claim → Nat
  | [] => 0
  | c :: cs => leaves c + leavess cs
end
mutual
def depth : Claim → Nat
  | .capped c _ => depth c + 1
  | .sum cs => depths cs + 1
  | .none => 0
  | .due _ _ => 0
  | .shares _ => 0
  | .option _ _ => 0
def depths : List Claim → Nat
  | [] => 0
  | c :: cs => max (depth c) (depths cs)
end
mutual
/-- at most so many corners -/
def nc : Claim → Nat
  | .capped c _ => nc c + 1
  | .sum cs => ncs cs + 1
  | .none => 3
  | .due _ _ => 3
  | .shares _ => 3
  | .option _ _ => 3
def ncs : List Claim → Nat
  | [] => 0
  | c :: cs => nc c + ncs cs
end
theorem pays_eq {R : Nat} {x : Rat} : ∀ cs, pays R cs x = rsum (cs.map fun c => pay R c x)
  | [] => rfl
  | c :: cs => by rw [pays, List.map_cons, rsum_cons, pays_eq cs]
theorem mgs_eq : ∀ cs, mgs cs = rsum (cs.map mg)
  | [] => rfl
  | c :: cs => by rw [mgs, List.map_cons, rsum_cons, mgs_eq cs]
theorem okCs_iff {R : Nat} : ∀ {cs}, OkCs R cs ↔ ∀ c ∈ cs, OkC R c
  | [] => by simp [OkCs]
  | c :: cs => by rw [OkCs, okCs_iff (cs := cs)]; simp
theorem leavess_eq : ∀ cs, leavess cs = (cs.map leaves).sum
  | [] => rfl
  | c :: cs => by rw [leavess, List.map_cons, List.sum_cons, leavess_eq cs]
theorem depths_le {d : Nat} : ∀ {cs}, depths cs ≤ d ↔ ∀ c ∈ cs, depth c ≤ d
  | [] => by simp [depths]
  | c :: cs => by rw [depths, Nat.max_le, depths_le (cs := cs)]; simp
mutual
theorem mg_nonneg {R : Nat} : ∀ {c}, OkC R c → 0 ≤ mg c
  | .none, _ => by simp only [mg]; grind
  | .due _ _, h => by simp only [mg, OkC] at *; grind
  | .shares _, h => by simp only [mg, OkC] at *; grind
  | .option _ _, h => by simp only [mg, OkC] at *; grind
  | .capped c a, h => by
    simp only [mg, OkC] at *
    have := mg_nonneg h.1
    grind
  | .sum cs, h => by simp only [mg, OkC] at *; exact mgs_nonneg h.2
theorem mgs_nonneg {R : Nat} : ∀ {cs}, OkCs R cs → 0 ≤ mgs cs
  | [], _ => by simp only [mgs]; grind
  | c :: cs, h => by
    simp only [mgs, OkCs] at *
    have := mg_nonneg h.1
    have := mgs_nonneg h.2
    grind
end
theorem max_mono {a b : Rat} (h : a ≤ b) : max a 0 ≤ max b 0 := by rw [Rat.max_def, Rat.max_def]; split <;> split <;> grind
theorem max_nonneg {a : Rat} : 0 ≤ max a 0 := by rw [Rat.max_def]; split <;> grind
theorem min_mono {a b c : Rat} (h : a ≤ b) : min a c ≤ min b c := by rw [Rat.min_def, Rat.min_def]; split <;> split <;> grind
theorem min_nonneg {a c : Rat} (h : 0 ≤ a) (k : 0 ≤ c) : 0 ≤ min a c := by rw [Rat.min_def]; split <;> grind
mutual
theorem pay_mono {R : Nat} {x y : Rat} (hxy : x ≤ y) : ∀ {c}, OkC R c → pay R c x ≤ pay R c y
  | .none, _ => by simp only [pay]; grind
  | .due r a, h => by
    simp only [pay, OkC] at *
    exact Rat.mul_le_mul_of_nonneg_right (min_mono (max_mono (by grind))) (by grind)
  | .shares c, h => by
    simp only [pay, OkC] at *
    exact Rat.mul_le_mul_of_nonneg_right (max_mono (by grind)) (by grind)
  | .option c p, h => by
    simp only [pay, OkC] at *
    exact Rat.mul_le_mul_of_nonneg_right (max_mono (by grind)) (by grind)
  | .capped c a, h => by
    simp only [pay, OkC] at *
    exact min_mono (pay_mono hxy h.1)
  | .sum cs, h => by simp only [pay, OkC] at *; exact pays_mono hxy h.2
theorem pays_mono {R : Nat} {x y : Rat} (hxy : x ≤ y) : ∀ {cs}, OkCs R cs → pays R cs x ≤ pays R cs y
  | [], _ => by simp only [pays]; grind
  | c :: cs, h => by
    simp only [pays, OkCs] at *
    have := pay_mono hxy h.1
    have := pays_mono hxy h.2
    grind
end
mutual
theorem pay_nonneg {R : Nat} {x : Rat} : ∀ {c}, OkC R c → 0 ≤ pay R c x
  | .none, _ => by simp only [pay]; grind
  | .due r a, h => by
    simp only [pay, OkC] at *
    exact Rat.mul_nonneg (min_nonneg max_nonneg (by grind)) (by grind)
  | .shares c, h => by
    simp only [pay, OkC] at *
    exact Rat.mul_nonneg max_nonneg (by grind)
  | .option c p, h => by
    simp only [pay, OkC] at *
    exact Rat.mul_nonneg max_nonneg (by grind)
  | .capped c a, h => by
    simp only [pay, OkC] at *
    exact min_nonneg (pay_nonneg h.1) (by grind)
  | .sum cs, h => by simp only [pay, OkC] at *; exact pays_nonneg h.2
theorem pays_nonneg {R : Nat} {x : Rat} : ∀ {cs}, OkCs R cs → 0 ≤ pays R cs x
  | [], _ => by simp only [pays]; grind
  | c :: cs, h => by
    simp only [pays, OkCs] at *
    have := pay_nonneg (x := x) h.1
    have := pays_nonneg (x := x) h.2
    grind
end
/-! ### germs of what a claim pays -/
theorem max_zero {a : Rat} : max a 0 = if a ≤ 0 then 0 else a := by rw [Rat.max_def]
theorem bnd_pp {M a : Rat} (h0 : 0 ≤ M) (h : 0 ≤ a) (hm : a ≤ M) : Bnd (M * PP) a := by
  have h1 : (1 : Rat) ≤ (PP : Rat) := by
    have : ((1 : Nat) : Rat) ≤ ((PP : Nat) : Rat) := Rat.natCast_le_natCast.mpr (by decide)
    exact this
  have h2 := Rat.mul_le_mul_of_nonneg_left h1 h0
  exact ⟨by grind, by grind⟩
theorem bnd_pp2 {M a l : Rat} (h : 0 ≤ a) (hm : a ≤ M) (hl0 : 0 ≤ l) (hl : l ≤ PP) : Bnd (M * PP) (a * l) := by
  have h0 := Rat.mul_nonneg h hl0
  have h1 := Rat.mul_le_mul_of_nonneg_left hl h
  have h2 := Rat.mul_le_mul_of_nonneg_right hm pp_nonneg
  exact ⟨by grind, by grind⟩
theorem grid_dd (k : Nat) : Grid DD (k : Rat) := Grid.nat
theorem six_pp {r : Nat} (h : r ≤ 6) : ((r : Nat) : Rat) ≤ (PP : Rat) := Rat.natCast_le_natCast.mpr (Nat.le_trans h (by decide))
/-- max (x - l) 0 * c -/
theorem gl_up {c l : Rat} (hc : 0 ≤ c) (gc : Grid DD c) (gl : Grid DD l) (hl0 : 0 ≤ l) (hl : l ≤ PP) : GL c (fun x => max (x - l) 0 * c) := by
  have h1 : GL c (fun x => (x - l) * c) := gl_line gc gl ⟨by grind, by grind⟩ (bnd_pp2 hc (by grind) hl0 hl)
  have h2 := gl_max h1 (gl_zero hc)
  refine h2.congr fun x _ => ?_
  rw [max_zero, Rat.max_def]
  by_cases k : x - l ≤ 0
  · rw [if_pos k]
    have := Rat.mul_nonneg (a := -(x - l)) (b := c) (by grind) hc
    split <;> grind
  · rw [if_neg k]
    have := Rat.mul_nonneg (a := (x - l)) (b := c) (by grind) hc
    split <;> grind
theorem gl_due {r : Nat} {a : Rat} (hr : r ≤ 6) (ha : 0 ≤ a) (ga : Grid DD a) : GL a (fun x => min (max (x - r) 0) 1 * a) := by
  have h1 := gl_up ha ga (grid_dd r) Rat.natCast_nonneg (six_pp hr)
  have h2 := gl_min h1 (gl_const ha ga (bnd_pp ha ha (by grind)))
  refine h2.congr fun x _ => ?_
  have hm := max_nonneg (a := x - r)
  generalize max (x - (r : Rat)) 0 = m at *
  rw [Rat.min_def, Rat.min_def]
  by_cases k : m ≤ 1
  · rw [if_pos k]
    have := Rat.mul_nonneg (a := 1 - m) (b := a) (by grind) ha
    split <;> grind
  · rw [if_neg k]
    have := Rat.mul_nonneg (a := m - 1) (b := a) (by grind) ha
    split <;> grind
mutual
theorem gl_pay {R : Nat} (hR : R ≤ 6) : ∀ {c}, OkC R c → GL (mg c) (pay R c)
  | .none, _ => (gl_zero (by simp only [mg]; grind)).congr fun x _ => by simp only [pay]
  | .due r a, h => by
    simp only [mg, OkC] at *
    exact (gl_due (r := r) (by omega) (by grind) h.2.2).congr fun x _ => by simp only [pay]
  | .shares c, h => by
    simp only [mg, OkC] at *
    exact (gl_up (by grind) h.2 (grid_dd R) Rat.natCast_nonneg (six_pp hR)).congr fun x _ => by simp only [pay]
  | .option c p, h => by
    simp only [mg, OkC] at *
    have hl : ((R : Nat) : Rat) + p ≤ (PP : Rat) := by
      have h1 : ((R : Nat) : Rat) ≤ ((6 : Nat) : Rat) := Rat.natCast_le_natCast.mpr hR
      have h2 : ((1000000000006 : Nat) : Rat) ≤ ((PP : Nat) : Rat) := Rat.natCast_le_natCast.mpr (by decide)
      have e1 : ((6 : Nat) : Rat) = 6 := rfl
      have e2 : ((1000000000006 : Nat) : Rat) = 1000000000006 := rfl
      rw [e1] at h1
      rw [e2] at h2
      grind
    have h0 : (0 : Rat) ≤ (R : Rat) := Rat.natCast_nonneg
    exact (gl_up (by grind) h.2.1 ((grid_dd R).add h.2.2.2.1) (by grind) hl).congr fun x _ => by simp only [pay]
  | .capped c a, h => by
    simp only [OkC] at h
    have h1 := gl_pay hR h.1
    have h0 := mg_nonneg h.1
    have e : mg (.capped c a) = mg c + a := by simp only [mg]
    rw [e]
    have hs : 0 ≤ mg c + a := by grind
    exact (gl_min (h1.mono (by grind)) (gl_const hs h.2.2 (bnd_pp hs (by grind) (by grind)))).congr fun x _ => by simp only [pay]
  | .sum cs, h => by
    simp only [OkC] at h
    have e : mg (.sum cs) = mgs cs := by simp only [mg]
    rw [e]
    exact (gl_pays hR h.2).congr fun x _ => by simp only [pay]
theorem gl_pays {R : Nat} (hR : R ≤ 6) : ∀ {cs}, OkCs R cs → GL (mgs cs) (pays R cs)
  | [], _ => (gl_zero (by simp only [mgs]; grind)).congr fun x _ => by simp only [pays]
  | c :: cs, h => by
    simp only [OkCs] at h
    have e : mgs (c :: cs) = mg c + mgs cs := by simp only [mgs]
    rw [e]
    exact (gl_add (gl_pay hR h.1) (gl_pays hR h.2)).congr fun x _ => by simp only [pays]
end
/-! ### curves of claims -/
def beginAt (x : Rat) : List Pt := if x = 0 then [] else [(0, 0)]
mutual
def curveC (R : Nat) : Claim → Cv
  | .none => zeroCv
  | .due r a => (canon (beginAt r ++ [((r : Rat), 0), ((r : Rat) + 1, a)]) 0, 0)
  | .shares c => (canon (beginAt R ++ [((R : Rat), 0)]) c, c)
  | .option c p => (canon (beginAt (R + p) ++ [((R : Rat) + p, 0)]) c, c)
  | .capped c a => cappedC (curveC R c) a
  | .sum cs => addedUp (curvesC R cs)
def curvesC (R : Nat) : List Claim → List Cv
  | [] => []
  | c :: cs => curveC R c :: curvesC R cs
end
theorem curvesC_eq {R : Nat} : ∀ cs, curvesC R cs = cs.map (curveC R)
  | [] => rfl
  | c :: cs => by rw [curvesC, List.map_cons, curvesC_eq cs]
theorem up_is {l c : Rat} (hl : 0 ≤ l) : IsCv (canon (beginAt l ++ [(l, 0)]) c) c (fun x => max (x - l) 0 * c) := by
  unfold beginAt
  by_cases h : l = 0
  · subst h
    rw [if_pos rfl]
    refine isCv_canon (r := []) trivial fun x hx => ?_
    simp only [ev]
    rw [max_zero]
    split
    · have : x = 0 := by grind
      rw [this]; grind
    · grind
  · rw [if_neg h]
    refine isCv_canon (r := [(l, 0)]) ⟨by show (0 : Rat) < l; grind, trivial⟩ fun x hx => ?_
    simp only [ev, List.nil_append]
    rw [max_zero]
    have : slopeB (0, 0) (l, 0) = 0 := slopeB_line (c := 0) (by show (0 : Rat) < l; grind) (by grind) (by grind)
    rw [this]
    split <;> split <;> grind
theorem due_is {r a : Rat} (hr : 0 ≤ r) : IsCv (canon (beginAt r ++ [(r, 0), (r + 1, a)]) 0) 0 (fun x => min (max (x - r) 0) 1 * a) := by
  have h2 : slopeB (r, 0) (r + 1, a) = a := slopeB_line (c := -(a * r)) (by show r < r + 1; grind) (by grind) (by grind)
  have key : ∀ x, min (max (x - r) 0) 1 * a = if x < r then 0 else if x < r + 1 then a * (x - r) else a := fun x => by
    rw [max_zero]
    by_cases c1 : x < r
    · rw [if_pos c1, if_pos (by grind), Rat.min_def, if_pos (by grind)]; grind
    · rw [if_neg c1]
      by_cases c2 : x < r + 1
      · rw [if_pos c2]
        by_cases c3 : x - r ≤ 0
        · have : x = r := by grind
          rw [if_pos c3, Rat.min_def, if_pos (by grind)]; grind
        · rw [if_neg c3, Rat.min_def, if_pos (by grind)]; grind
      · rw [if_neg c2, if_neg (by grind), Rat.min_def]
        split <;> grind
  unfold beginAt
  by_cases h : r = 0
  · rw [if_pos h]
    subst h
    refine isCv_canon (r := [(0 + 1, a)]) ⟨by show (0 : Rat) < 0 + 1; grind, trivial⟩ fun x hx => ?_
    rw [key]
    simp only [ev]
    rw [h2]
    split <;> split <;> grind
  · rw [if_neg h]
    refine isCv_canon (r := [(r, 0), (r + 1, a)]) ⟨by show (0 : Rat) < r; grind, by show r < r + 1; grind, trivial⟩ fun x hx => ?_
    rw [key]
    have h1 : slopeB (0, 0) (r, 0) = 0 := slopeB_line (c := 0) (by show (0 : Rat) < r; grind) (by grind) (by grind)
    simp only [ev, List.nil_append]
    rw [h1, h2]
    split
    · grind
    · split <;> grind
theorem sumOf_curves {R : Nat} {x : Rat} (hx : 0 ≤ x) : ∀ {cs : List Claim}, (∀ c ∈ cs, IsCv (curveC R c).1 (curveC R c).2 (pay R c)) → sumOf (cs.map (curveC R)) x = rsum (cs.map fun c => pay R c x)
  | [], _ => rfl
  | c :: cs, h => by
    have e1 := sumOf_curves hx (cs := cs) fun d hd => h d (List.mem_cons_of_mem _ hd)
    have e2 : evc (curveC R c) x = pay R c x := (h c List.mem_cons_self).eq x hx
    unfold sumOf at e1 ⊢
    rw [List.map_cons, List.map_cons, List.map_cons, rsum_cons, rsum_cons, e1, e2]
mutual
theorem curveC_is {R : Nat} : ∀ {c}, OkC R c → IsCv (curveC R c).1 (curveC R c).2 (pay R c)
  | .none, _ => zero_is.congr fun x _ => by simp only [pay]
  | .due r a, h => (due_is Rat.natCast_nonneg).congr fun x _ => by simp only [pay]
  | .shares c, h => (up_is Rat.natCast_nonneg).congr fun x _ => by simp only [pay]
  | .option c p, h => by
    simp only [OkC] at h
    have h0 : (0 : Rat) ≤ (R : Rat) := Rat.natCast_nonneg
    exact (up_is (l := (R : Rat) + p) (c := c) (by grind)).congr fun x _ => by simp only [pay]
  | .capped c a, h => by
    simp only [OkC] at h
    have h1 := curveC_is h.1
    have hm : Mono (evc (curveC R c)) := fun x y hx hxy => by
      have e1 : evc (curveC R c) x = pay R c x := h1.eq x hx
      have e2 : evc (curveC R c) y = pay R c y := h1.eq y (by grind)
      rw [e1, e2]
      exact pay_mono hxy h.1
    have h2 := cappedC_is h1.ok hm h.2.1
    have e : curveC R (.capped c a) = cappedC (curveC R c) a := by simp only [curveC]
    rw [e]
    refine h2.congr fun x hx => ?_
    unfold minC
    have e1 : evc (curveC R c) x = pay R c x := h1.eq x hx
    rw [e1]; simp only [pay]
  | .sum cs, h => by
    simp only [OkC] at h
    have h1 := curvesC_is h.2
    have e : curveC R (.sum cs) = addedUp (cs.map (curveC R)) := by simp only [curveC, curvesC_eq]
    rw [e]
    refine (addedUp_is fun c hc => ?_).congr fun x hx => ?_
    · obtain ⟨d, hd, rfl⟩ := List.mem_map.mp hc
      exact (h1 d hd).ok
    · rw [sumOf_curves hx h1]
      simp only [pay, pays_eq]
theorem curvesC_is {R : Nat} : ∀ {cs}, OkCs R cs → ∀ c ∈ cs, IsCv (curveC R c).1 (curveC R c).2 (pay R c)
  | [], _, c, hc => by cases hc
  | d :: cs, h, c, hc => by
    simp only [OkCs] at h
    rcases List.mem_cons.mp hc with e | e
    · rw [e]; exact curveC_is h.1
    · exact curvesC_is h.2 c e
end
/-! ### how many corners -/
theorem len_canon (cs : List Pt) (s : Rat) : (canon cs s).length ≤ cs.length := by
  cases cs with
  | nil => exact Nat.le_refl _
  | cons a r => exact Nat.succ_le_succ (len_canonGo r a s)
theorem len_lvls (L : List Cv) : (lvls L).length ≤ (L.map fun c => c.1.length).sum + 1 := by
  unfold lvls
  refine Nat.le_trans (len_inOrder _) ?_
  rw [List.length_cons, List.length_flatMap]
  simp
theorem len_addedUp (L : List Cv) : (addedUp L).1.length ≤ (L.map fun c => c.1.length).sum + 1 := by
  unfold addedUp
  refine Nat.le_trans (len_canon _ _) ?_
  rw [List.length_map]
  exact len_lvls L
theorem len_cappedC (c : Cv) (a : Rat) : (cappedC c a).1.length ≤ c.1.length + 1 := by
  unfold cappedC
  split
  · exact Nat.le_succ_of_le (len_canon _ _)
  · refine Nat.le_trans (len_canon _ _) ?_
    rw [List.length_append]
    have := List.length_filter_le (fun p : Pt => decide (p.1 < ‹Rat›)) c.1
    simp only [List.length_singleton]; omega
theorem len_begin (x : Rat) : (beginAt x).length ≤ 1 := by unfold beginAt; split <;> simp
mutual
theorem len_curveC {R : Nat} : ∀ c, (curveC R c).1.length ≤ nc c
  | .none => by simp only [curveC, nc, zeroCv]; decide
  | .due r a => by
    simp only [curveC, nc]
    refine Nat.le_trans (len_canon _ _) ?_
    have := len_begin (r : Rat)
    simp only [List.length_append, List.length_cons, List.length_nil]; omega
  | .shares c => by
    simp only [curveC, nc]
    refine Nat.le_trans (len_canon _ _) ?_
    have := len_begin (R : Rat)
    simp only [List.length_append, List.length_cons, List.length_nil]; omega
  | .option c p => by
    simp only [curveC, nc]
    refine Nat.le_trans (len_canon _ _) ?_
    have := len_begin ((R : Rat) + p)
    simp only [List.length_append, List.length_cons, List.length_nil]; omega
  | .capped c a => by
    simp only [curveC, nc]
    have := len_cappedC (curveC R c) a
    have := len_curveC (R := R) c
    omega
  | .sum cs => by
    simp only [curveC, nc]
    have := len_addedUp (curvesC R cs)
    have := len_curvesC (R := R) cs
    omega
theorem len_curvesC {R : Nat} : ∀ cs, ((curvesC R cs).map fun c => c.1.length).sum ≤ ncs cs
  | [] => by simp [curvesC, ncs]
  | c :: cs => by
    simp only [curvesC, ncs, List.map_cons, List.sum_cons]
    have := len_curveC (R := R) c
    have := len_curvesC (R := R) cs
    omega
end
mutual
theorem leaves_pos {R : Nat} : ∀ {c}, OkC R c → 1 ≤ leaves c
  | .none, _ => by simp [leaves]
  | .due _ _, _ => by simp [leaves]
  | .shares _, _ => by simp [leaves]
  | .option _ _, _ => by simp [leaves]
  | .capped c a, h => by simp only [OkC, leaves] at *; exact leaves_pos h.1
  | .sum cs, h => by
    simp only [OkC, leaves] at *
    have := leavess_len h.2
    omega
theorem leavess_len {R : Nat} : ∀ {cs}, OkCs R cs → cs.length ≤ leavess cs
  | [], _ => by simp [leavess]
  | c :: cs, h => by
    simp only [OkCs, leavess, List.length_cons] at *
    have := leaves_pos h.1
    have := leavess_len h.2
    omega
end
mutual
theorem nc_le {R : Nat} : ∀ {c}, OkC R c → nc c ≤ (3 + depth c) * leaves c
  | .none, _ => by simp [leaves, nc, depth]
  | .due _ _, _ => by simp [leaves, nc, depth]
  | .shares _, _ => by simp [leaves, nc, depth]
  | .option _ _, _ => by simp [leaves, nc, depth]
  | .capped c a, h => by
    simp only [OkC, leaves, nc, depth] at *
    have h1 := nc_le h.1
    have h2 := leaves_pos h.1
    have e : (3 + (depth c + 1)) * leaves c = (3 + depth c) * leaves c + leaves c := by rw [← Nat.add_assoc, Nat.succ_mul]
    omega
  | .sum cs, h => by
    simp only [OkC, leaves, nc, depth] at *
    have h1 := ncs_le (d := depths cs) h.2 (Nat.le_refl _)
    have h2 := leavess_len h.2
    have e : (3 + (depths cs + 1)) * leavess cs = (3 + depths cs) * leavess cs + leavess cs := by rw [← Nat.add_assoc, Nat.succ_mul]
    omega
theorem ncs_le {R d : Nat} : ∀ {cs}, OkCs R cs → depths cs ≤ d → ncs cs ≤ (3 + d) * leavess cs
  | [], _, _ => by simp [leavess, ncs]
  | c :: cs, h, hd => by
    simp only [OkCs, leavess, ncs, depths] at *
    have h1 := nc_le h.1
    have h2 := ncs_le (d := d) h.2 (by omega)
    have h3 : (3 + depth c) * leaves c ≤ (3 + d) * leaves c := Nat.mul_le_mul_right _ (by omega)
    rw [Nat.mul_add]; omega
end
end Sw
namespace Sw
/-! tidied claims pay alike -/
/-! ### parts by a key -/
theorem rsum_ite {κ : Type} [DecidableEq κ] {k : κ} {g : Rat} {F : κ → Rat} : ∀ {ks : List κ}, ks.Nodup → k ∈ ks → rsum (ks.map fun j => (if k = j then g else 0) + F j) = g + rsum (ks.map F)
  | [], _, h => by cases h
  | j :: ks, hn, h => by
    obtain ⟨h1, h2⟩ := List.nodup_cons.mp hn
    rw [List.map_cons, List.map_cons, rsum_cons, rsum_cons]
    by_cases e : k = j
    · rw [if_pos e]
      have : (ks.map fun j => (if k = j then g else 0) + F j) = ks.map F := List.map_congr_left fun i hi => by
        have : k ≠ i := fun z => h1 (by rw [← e, z]; exact hi)
        rw [if_neg this]; grind
      rw [this]; grind
    · have hk : k ∈ ks := by
        rcases List.mem_cons.mp h with z | z
        · exact absurd z e
        · exact z
      rw [if_neg e, rsum_ite h2 hk]; grind
theorem rsum_zeros {κ : Type} : ∀ ks : List κ, rsum (ks.map fun _ => (0 : Rat)) = 0
  | [] => rfl
  | j :: ks => by rw [List.map_cons, rsum_cons, rsum_zeros ks]; grind
theorem min_l {a b : Rat} (h : a ≤ b) : min a b = a := by rw [Rat.min_def, if_pos h]
theorem part_sum {α κ : Type} [DecidableEq κ] (key : α → κ) (g : α → Rat) {ks : List κ} (hn : ks.Nodup) : ∀ {xs : List α}, (∀ x ∈ xs, key x ∈ ks) → rsum (ks.map fun j => rsum ((xs.filter fun x => decide (key x = j)).map g)) = rsum (xs.map g)
  | [], _ => by
    have : (ks.map fun j => rsum ((([] : List α).filter fun x => decide (key x = j)).map g)) = ks.map fun _ => 0 := List.map_congr_left fun j _ => rfl
    rw [this, rsum_zeros]; rfl
  | x :: xs, h => by
    have ih := part_sum key g hn (xs := xs) fun y hy => h y (List.mem_cons_of_mem _ hy)
    rw [List.map_cons, rsum_cons, ← ih, ← rsum_ite (F := fun j => rsum ((xs.filter fun x => decide (key x = j)).map g)) hn (h x List.mem_cons_self)]
    congr 1
    refine List.map_congr_left fun j _ => ?_
    by_cases e : key x = j
    · rw [List.filter_cons_of_pos (by simpa using e), List.map_cons, rsum_cons, if_pos e]
    · rw [List.filter_cons_of_neg (by simpa using e), if_neg e]; grind
theorem nodup_len {κ : Type} [DecidableEq κ] : ∀ {ks xs : List κ}, ks.Nodup → (∀ k ∈ ks, k ∈ xs) → ks.length ≤ xs.length
  | [], _, _, _ => Nat.zero_le _
  | k :: ks, xs, hn, h => by
    obtain ⟨h1, h2⟩ := List.nodup_cons.mp hn
    have hk := h k List.mem_cons_self
    have := nodup_len (ks := ks) (xs := xs.erase k) h2 fun j hj => (List.mem_erase_of_ne (fun z => h1 (by rw [← z]; exact hj))).mpr (h j (List.mem_cons_of_mem _ hj))
    rw [List.length_erase_of_mem hk] at this
    have : 0 < xs.length := List.length_pos_of_mem hk
    rw [List.length_cons]; omega
/-! ### sorts of claims in a row -/
def duesOf : List Claim → List (Nat × Rat)
  | [] => []
  | .due r a :: cs => (r, a) :: duesOf cs
  | .none :: cs => duesOf cs
  | .shares _ :: cs => duesOf cs
  | .option _ _ :: cs => duesOf cs
  | .capped _ _ :: cs => duesOf cs
  | .sum _ :: cs => duesOf cs
def sharesOf : List Claim → List Rat
  | [] => []
  | .shares c :: cs => c :: sharesOf cs
  | .none :: cs => sharesOf cs
  | .due _ _ :: cs => sharesOf cs
  | .option _ _ :: cs => sharesOf cs
  | .capped _ _ :: cs => sharesOf cs
  | .sum _ :: cs => sharesOf cs
def optsOf : List Claim → List (Rat × Rat)
  | [] => []
  | .option c p :: cs => (c, p) :: optsOf cs
  | .none :: cs => optsOf cs
  | .due _ _ :: cs => optsOf cs
  | .shares _ :: cs => optsOf cs
  | .capped _ _ :: cs => optsOf cs
  | .sum _ :: cs => optsOf cs
def capsOf : List Claim → List (Claim × Rat)
  | [] => []
  | .capped c a :: cs => (c, a) :: capsOf cs
  | .none :: cs => capsOf cs
  | .due _ _ :: cs => capsOf cs
  | .shares _ :: cs => capsOf cs
  | .option _ _ :: cs => capsOf cs
  | .sum _ :: cs => capsOf cs
def isSum : Claim → Bool
  | .sum _ => true
  | _ => false
def NoSum (cs : List Claim) : Prop := ∀ c ∈ cs, isSum c = false
def capC (p : Claim × Rat) : Claim := .capped p.1 p.2
/-- any measure that is nought at none is added up by sorts -/
theorem by_sorts (F : Claim → Rat) (h0 : F .none = 0) : ∀ {cs : List Claim}, NoSum cs →
    rsum (cs.map F) = rsum ((duesOf cs).map fun p => F (.due p.1 p.2)) + (rsum ((sharesOf cs).map fun c => F (.shares c)) + (rsum ((optsOf cs).map fun p => F (.option p.1 p.2)) + rsum ((capsOf cs).map fun p => F (capC p))))
  | [], _ => by simp only [duesOf, sharesOf, optsOf, capsOf, List.map, rsum_nil]; grind
  | c :: cs, h => by
    have ih := by_sorts F h0 (cs := cs) fun d hd => h d (List.mem_cons_of_mem _ hd)
    have hc := h c List.mem_cons_self
    cases c with
    | sum _ => cases hc
    | none => rw [List.map_cons, rsum_cons, ih, h0]; simp only [duesOf, sharesOf, optsOf, capsOf]; grind
    | due r a => rw [List.map_cons, rsum_cons, ih]; simp only [duesOf, sharesOf, optsOf, capsOf, List.map_cons, rsum_cons]; grind
    | shares a => rw [List.map_cons, rsum_cons, ih]; simp only [duesOf, sharesOf, optsOf, capsOf, List.map_cons, rsum_cons]; grind
    | option a p => rw [List.map_cons, rsum_cons, ih]; simp only [duesOf, sharesOf, optsOf, capsOf, List.map_cons, rsum_cons]; grind
    | capped a p => rw [List.map_cons, rsum_cons, ih]; simp only [duesOf, sharesOf, optsOf, capsOf, List.map_cons, rsum_cons, capC]; grind
theorem mem_dues {r : Nat} {a : Rat} : ∀ {cs : List Claim}, (r, a) ∈ duesOf cs ↔ Claim.due r a ∈ cs
  | [] => by simp [duesOf]
  | c :: cs => by cases c <;> simp [duesOf, mem_dues (cs := cs)]
theorem mem_shares {a : Rat} : ∀ {cs : List Claim}, a ∈ sharesOf cs ↔ Claim.shares a ∈ cs
  | [] => by simp [sharesOf]
  | c :: cs => by cases c <;> simp [sharesOf, mem_shares (cs := cs)]
theorem mem_opts {a p : Rat} : ∀ {cs : List Claim}, (a, p) ∈ optsOf cs ↔ Claim.option a p ∈ cs
  | [] => by simp [optsOf]
  | c :: cs => by cases c <;> simp [optsOf, mem_opts (cs := cs)]
theorem mem_caps {c : Claim} {a : Rat} : ∀ {cs : List Claim}, (c, a) ∈ capsOf cs ↔ Claim.capped c a ∈ cs
  | [] => by simp [capsOf]
  | d :: cs => by cases d <;> simp [capsOf, mem_caps (cs := cs)]
theorem count_sorts : ∀ {cs : List Claim}, NoSum cs → (duesOf cs).length + ((sharesOf cs).length + ((optsOf cs).length + ((capsOf cs).map fun p => leaves (capC p)).sum)) ≤ leavess cs
  | [], _ => by simp [duesOf, sharesOf, optsOf, capsOf]
  | c :: cs, h => by
    have ih := count_sorts (cs := cs) fun d hd => h d (List.mem_cons_of_mem _ hd)
    have hc := h c List.mem_cons_self
    cases c with
    | sum _ => cases hc
    | _ => simp only [duesOf, sharesOf, optsOf, capsOf, leavess, leaves, List.length_cons, List.map_cons, List.sum_cons, capC] at *; omega
/-! ### what tidy_sum finds -/
def duesT (cs : List Claim) (rs : List Nat) : List Claim := rs.map fun r => .due r (rsum (((duesOf cs).filter fun p => decide (p.1 = r)).map (·.2)))
def sharesT (cs : List Claim) : List Claim := if sharesOf cs = [] then [] else [.shares (rsum (sharesOf cs))]
def optsT (cs : List Claim) (ps : List Rat) : List Claim := ps.map fun q => .option (rsum (((optsOf cs).filter fun p => decide (p.2 = q)).map (·.1))) q
structure Found (cs : List Claim) (rs : List Nat) (ps : List Rat) (caps : List (Claim × Rat)) : Prop where
  rn : rs.Nodup
  rm : ∀ r, r ∈ rs ↔ ∃ a, (r, a) ∈ duesOf cs
  pn : ps.Nodup
  pm : ∀ p, p ∈ ps ↔ ∃ a, (a, p) ∈ optsOf cs
  cp : caps.Perm (capsOf cs)
def foundT (cs : List Claim) (rs : List Nat) (ps : List Rat) (caps : List (Claim × Rat)) : List Claim := duesT cs rs ++ (sharesT cs ++ (optsT cs ps ++ caps.map capC))
def resultT (found : List Claim) : Claim := if 1 < found.length then .sum found else found.headD .none
theorem perm_rsum {l m : List Rat} (h : l.Perm m) : rsum l = rsum m := by
  induction h with
  | nil => rfl
  | cons x _ ih => rw [rsum_cons, rsum_cons, ih]
  | swap x y l => rw [rsum_cons, rsum_cons, rsum_cons, rsum_cons]; grind
  | trans _ _ h1 h2 => rw [h1, h2]
/-- a measure that is additive in amounts and counts -/
structure AddF (F : Claim → Rat) : Prop where
  none : F .none = 0
  due : ∀ r a b, F (.due r (a + b)) = F (.due r a) + F (.due r b)
  due0 : ∀ r, F (.due r 0) = 0
  sh : ∀ a b, F (.shares (a + b)) = F (.shares a) + F (.shares b)
  sh0 : F (.shares 0) = 0
  op : ∀ a b p, F (.option (a + b) p) = F (.option a p) + F (.option b p)
  op0 : ∀ p, F (.option 0 p) = 0
theorem AddF.rsum {F : Claim → Rat} (G : Rat → Claim) (ha : ∀ a b, F (G (a + b)) = F (G a) + F (G b)) (h0 : F (G 0) = 0) : ∀ l : List Rat, F (G (Sw.rsum l)) = Sw.rsum (l.map fun a => F (G a))
  | [] => h0
  | a :: l => by rw [rsum_cons, ha, AddF.rsum G ha h0 l, List.map_cons, rsum_cons]
theorem found_sum {F : Claim → Rat} (A : AddF F) {cs : List Claim} {rs : List Nat} {ps : List Rat} {caps : List (Claim × Rat)} (hs : NoSum cs) (hf : Found cs rs ps caps) : rsum ((foundT cs rs ps caps).map F) = rsum (cs.map F) := by
  rw [by_sorts F A.none hs]
  unfold foundT
  rw [List.map_append, List.map_append, List.map_append, rsum_append, rsum_append, rsum_append]
  congr 1
  · -- dues
    unfold duesT
    rw [List.map_map]
    rw [← part_sum (fun p : Nat × Rat => p.1) (fun p => F (.due p.1 p.2)) hf.rn (xs := duesOf cs) fun p hp => (hf.rm p.1).mpr ⟨p.2, hp⟩]
    congr 1
    refine List.map_congr_left fun r _ => ?_
    show F (.due r (rsum _)) = _
    rw [AddF.rsum (F := F) (fun a => .due r a) (A.due r) (A.due0 r), List.map_map]
    congr 1
    refine List.map_congr_left fun p hp => ?_
    have := (List.mem_filter.mp hp).2
    simp only [decide_eq_true_eq] at this
    show F (.due r p.2) = F (.due p.1 p.2)
    rw [this]
  congr 1
  · unfold sharesT
    by_cases e : sharesOf cs = []
    · rw [if_pos e, e]; rfl
    · rw [if_neg e]
      show rsum [F (.shares (rsum (sharesOf cs)))] = _
      rw [AddF.rsum (F := F) (fun a => .shares a) A.sh A.sh0, rsum_cons, rsum_nil]; grind
  congr 1
  · unfold optsT
    rw [List.map_map]
    rw [← part_sum (fun p : Rat × Rat => p.2) (fun p => F (.option p.1 p.2)) hf.pn (xs := optsOf cs) fun p hp => (hf.pm p.2).mpr ⟨p.1, hp⟩]
    congr 1
    refine List.map_congr_left fun q _ => ?_
    show F (.option (rsum _) q) = _
    rw [AddF.rsum (F := F) (fun a => .option a q) (fun a b => A.op a b q) (A.op0 q), List.map_map]
    congr 1
    refine List.map_congr_left fun p hp => ?_
    have := (List.mem_filter.mp hp).2
    simp only [decide_eq_true_eq] at this
    show F (.option p.1 q) = F (.option p.1 p.2)
    rw [this]
  · rw [List.map_map]
    exact perm_rsum (hf.cp.map _)
theorem addF_pay (R : Nat) (x : Rat) : AddF (fun c => pay R c x) :=
  ⟨by simp only [pay], fun r a b => by simp only [pay]; grind, fun r => by simp only [pay]; grind, fun a b => by simp only [pay]; grind, by simp only [pay]; grind, fun a b p => by simp only [pay]; grind, fun p => by simp only [pay]; grind⟩
theorem addF_mg : AddF mg :=
  ⟨by simp only [mg], fun r a b => by simp only [mg], fun r => by simp only [mg], fun a b => by simp only [mg], by simp only [mg], fun a b p => by simp only [mg], fun p => by simp only [mg]⟩
theorem rsum_pos : ∀ {l : List Rat}, l ≠ [] → (∀ a ∈ l, 0 < a) → 0 < rsum l
  | [], h, _ => absurd rfl h
  | [a], _, h => by rw [rsum_cons, rsum_nil]; have := h a List.mem_cons_self; grind
  | a :: b :: l, _, h => by
    rw [rsum_cons]
    have := h a List.mem_cons_self
    have := rsum_pos (l := b :: l) (by simp) fun x hx => h x (List.mem_cons_of_mem _ hx)
    grind
theorem rsum_grid {n : Nat} : ∀ {l : List Rat}, (∀ a ∈ l, Grid n a) → Grid n (rsum l)
  | [], _ => Grid.zero
  | a :: l, h => by rw [rsum_cons]; exact (h a List.mem_cons_self).add (rsum_grid fun x hx => h x (List.mem_cons_of_mem _ hx))
section
variable {cs : List Claim} {rs : List Nat} {ps : List Rat} {caps : List (Claim × Rat)}
theorem found_ok {R : Nat} (hs : NoSum cs) (hf : Found cs rs ps caps) (hO : ∀ c ∈ cs, OkC R c) : ∀ c ∈ foundT cs rs ps caps, OkC R c := by
  intro c hc
  unfold foundT at hc
  rcases List.mem_append.mp hc with hc | hc
  · obtain ⟨r, hr, rfl⟩ := List.mem_map.mp hc
    obtain ⟨a, ha⟩ := (hf.rm r).mp hr
    have h1 := hO _ (mem_dues.mp ha)
    simp only [OkC] at h1 ⊢
    have all : ∀ b ∈ ((duesOf cs).filter fun p => decide (p.1 = r)).map (·.2), 0 < b ∧ Grid DD b := fun b hb => by
      obtain ⟨p, hp, rfl⟩ := List.mem_map.mp hb
      have h2 := hO _ ((mem_dues (r := p.1) (a := p.2)).mp (List.mem_filter.mp hp).1)
      simp only [OkC] at h2
      exact h2.2
    refine ⟨h1.1, rsum_pos (fun e => ?_) fun b hb => (all b hb).1, rsum_grid fun b hb => (all b hb).2⟩
    have : a ∈ ((duesOf cs).filter fun p => decide (p.1 = r)).map (·.2) := List.mem_map.mpr ⟨(r, a), List.mem_filter.mpr ⟨ha, by simp⟩, rfl⟩
    rw [e] at this; cases this
  rcases List.mem_append.mp hc with hc | hc
  · unfold sharesT at hc
    split at hc
    · cases hc
    · rename_i e
      rw [List.mem_singleton.mp hc]
      have all : ∀ b ∈ sharesOf cs, 0 < b ∧ Grid DD b := fun b hb => by
        have h2 := hO _ (mem_shares.mp hb)
        simp only [OkC] at h2; exact h2
      simp only [OkC]
      exact ⟨rsum_pos e fun b hb => (all b hb).1, rsum_grid fun b hb => (all b hb).2⟩
  rcases List.mem_append.mp hc with hc | hc
  · obtain ⟨q, hq, rfl⟩ := List.mem_map.mp hc
    obtain ⟨a, ha⟩ := (hf.pm q).mp hq
    have h1 := hO _ (mem_opts.mp ha)
    simp only [OkC] at h1 ⊢
    have all : ∀ b ∈ ((optsOf cs).filter fun p => decide (p.2 = q)).map (·.1), 0 < b ∧ Grid DD b := fun b hb => by
      obtain ⟨p, hp, rfl⟩ := List.mem_map.mp hb
      have h2 := hO _ ((mem_opts (a := p.1) (p := p.2)).mp (List.mem_filter.mp hp).1)
      simp only [OkC] at h2
      exact ⟨h2.1, h2.2.1⟩
    refine ⟨rsum_pos (fun e => ?_) fun b hb => (all b hb).1, rsum_grid fun b hb => (all b hb).2, h1.2.2⟩
    have : a ∈ ((optsOf cs).filter fun p => decide (p.2 = q)).map (·.1) := List.mem_map.mpr ⟨(a, q), List.mem_filter.mpr ⟨ha, by simp⟩, rfl⟩
    rw [e] at this; cases this
  · obtain ⟨p, hp, rfl⟩ := List.mem_map.mp hc
    exact hO _ ((mem_caps (c := p.1) (a := p.2)).mp (hf.cp.mem_iff.mp hp))
theorem found_depth {d : Nat} (hf : Found cs rs ps caps) (hO : ∀ c ∈ cs, depth c ≤ d) : ∀ c ∈ foundT cs rs ps caps, depth c ≤ d := by
  intro c hc
  unfold foundT at hc
  rcases List.mem_append.mp hc with hc | hc
  · obtain ⟨r, hr, rfl⟩ := List.mem_map.mp hc
    simp only [depth]; omega
  rcases List.mem_append.mp hc with hc | hc
  · unfold sharesT at hc
    split at hc
    · cases hc
    · rw [List.mem_singleton.mp hc]; simp only [depth]; omega
  rcases List.mem_append.mp hc with hc | hc
  · obtain ⟨q, hq, rfl⟩ := List.mem_map.mp hc
    simp only [depth]; omega
  · obtain ⟨p, hp, rfl⟩ := List.mem_map.mp hc
    exact hO _ ((mem_caps (c := p.1) (a := p.2)).mp (hf.cp.mem_iff.mp hp))
theorem leavess_append : ∀ (a b : List Claim), leavess (a ++ b) = leavess a + leavess b
  | [], b => by simp [leavess]
  | c :: a, b => by simp only [List.cons_append, leavess, leavess_append a b]; omega
theorem leavess_one {α : Type} {f : α → Claim} (h : ∀ x, leaves (f x) = 1) : ∀ l : List α, leavess (l.map f) = l.length
  | [] => rfl
  | x :: l => by simp only [List.map_cons, leavess, h, leavess_one h l, List.length_cons]; omega
theorem perm_sum {l m : List Nat} (h : l.Perm m) : l.sum = m.sum := by
  induction h with
  | nil => rfl
  | cons x _ ih => rw [List.sum_cons, List.sum_cons, ih]
  | swap x y l => simp only [List.sum_cons]; omega
  | trans _ _ h1 h2 => rw [h1, h2]
theorem found_leaves (hs : NoSum cs) (hf : Found cs rs ps caps) : leavess (foundT cs rs ps caps) ≤ leavess cs := by
  refine Nat.le_trans ?_ (count_sorts hs)
  unfold foundT duesT optsT
  rw [leavess_append, leavess_append, leavess_append, leavess_one (fun _ => rfl), leavess_one (fun _ => rfl)]
  have h1 : rs.length ≤ (duesOf cs).length := by
    have := nodup_len (xs := (duesOf cs).map (·.1)) hf.rn fun r hr => by
      obtain ⟨a, ha⟩ := (hf.rm r).mp hr
      exact List.mem_map.mpr ⟨(r, a), ha, rfl⟩
    rwa [List.length_map] at this
  have h2 : ps.length ≤ (optsOf cs).length := by
    have := nodup_len (xs := (optsOf cs).map (·.2)) hf.pn fun p hp => by
      obtain ⟨a, ha⟩ := (hf.pm p).mp hp
      exact List.mem_map.mpr ⟨(a, p), ha, rfl⟩
    rwa [List.length_map] at this
  have h3 : leavess (sharesT cs) ≤ (sharesOf cs).length := by
    unfold sharesT
    split
    · simp [leavess]
    · rename_i e
      have : 0 < (sharesOf cs).length := List.length_pos_iff.mpr e
      simp only [leavess, leaves]; omega
  have h4 : leavess (caps.map capC) = ((capsOf cs).map fun p => leaves (capC p)).sum := by
    rw [leavess_eq, List.map_map]
    exact perm_sum (hf.cp.map _)
  omega
end
/-- r is what c is tidied to -/
structure Tid (c r : Claim) : Prop where
  pay : ∀ R x, OkC R c → Sw.pay R r x = Sw.pay R c x
  ok : ∀ R, OkC R c → OkC R r
  mg : ∀ R, OkC R c → Sw.mg r ≤ Sw.mg c
  lv : ∀ R, OkC R c → leaves r ≤ leaves c
  dp : depth r ≤ depth c
theorem Tid.refl (c : Claim) : Tid c c := ⟨fun _ _ _ => rfl, fun _ h => h, fun _ _ => Rat.le_refl, fun _ _ => Nat.le_refl _, Nat.le_refl _⟩
/-! ### capped -/
def leastR (a b : Rat) : Rat := if b < a then b else a
def tidyCap (t : Claim) (a : Rat) : Claim :=
  match t with
  | .none => .none
  | .capped t' b => .capped t' (leastR b a)
  | .due r d => if leastR d a = d then .due r d else .capped (.due r d) a
  | .shares c => .capped (.shares c) a
  | .option c p => .capped (.option c p) a
  | .sum cs => .capped (.sum cs) a
theorem least_min {p a b : Rat} : min p (leastR b a) = min (min p b) a := by
  unfold leastR
  rw [Rat.min_def, Rat.min_def, Rat.min_def]
  repeat' split
  all_goals grind
theorem tid_cap {c t : Claim} {a : Rat} (h : Tid c t) : Tid (.capped c a) (tidyCap t a) := by
  have gen : Tid (.capped c a) (.capped t a) := ⟨fun R x hO => by
      simp only [OkC, Sw.pay] at *; rw [h.pay R x hO.1], fun R hO => by simp only [OkC] at *; exact ⟨h.ok R hO.1, hO.2⟩, fun R hO => by
      simp only [OkC, Sw.mg] at *; have := h.mg R hO.1; grind, fun R hO => by simp only [OkC, leaves] at *; exact h.lv R hO.1, by simp only [depth]; have := h.dp; omega⟩
  cases t with
  | none =>
    simp only [tidyCap]
    refine ⟨fun R x hO => ?_, fun R _ => trivial, fun R hO => ?_, fun R hO => ?_, by simp only [depth]; omega⟩
    · simp only [OkC] at hO
      have h1 := h.pay R x hO.1
      simp only [Sw.pay] at h1 ⊢
      rw [← h1, Rat.min_def, if_pos (by grind)]
    · have := mg_nonneg hO
      simp only [Sw.mg] at *; exact this
    · have := leaves_pos hO
      simp only [leaves] at *; exact this
  | capped t' b =>
    simp only [tidyCap]
    refine ⟨fun R x hO => ?_, fun R hO => ?_, fun R hO => ?_, fun R hO => ?_, ?_⟩
    · simp only [OkC] at hO
      have h1 := h.pay R x hO.1
      simp only [Sw.pay] at h1 ⊢
      rw [least_min, h1]
    · simp only [OkC] at hO
      have h1 := h.ok R hO.1
      simp only [OkC] at h1 ⊢
      unfold leastR
      split
      · exact ⟨h1.1, hO.2⟩
      · exact h1
    · simp only [OkC] at hO
      have h1 := h.mg R hO.1
      have h2 := h.ok R hO.1
      simp only [OkC, Sw.mg] at h1 h2 ⊢
      unfold leastR
      split <;> grind
    · simp only [OkC] at hO
      have h1 := h.lv R hO.1
      simp only [leaves] at h1 ⊢; exact h1
    · have := h.dp
      simp only [depth] at this ⊢; omega
  | due r d =>
    simp only [tidyCap]
    by_cases e : leastR d a = d
    · rw [if_pos e]
      refine ⟨fun R x hO => ?_, fun R hO => ?_, fun R hO => ?_, fun R hO => ?_, by simp only [depth]; omega⟩
      · simp only [OkC] at hO
        have h1 := h.pay R x hO.1
        have h2 := h.ok R hO.1
        simp only [OkC] at h2
        have hda : d ≤ a := by unfold leastR at e; split at e <;> grind
        have h3 : pay R (.capped c a) x = min (pay R c x) a := by simp only [Sw.pay]
        rw [h3, ← h1]
        have hm : min (max (x - (r : Rat)) 0) 1 ≤ 1 := by rw [Rat.min_def]; split <;> grind
        have h5 := Rat.mul_le_mul_of_nonneg_right hm (c := d) (by grind)
        have h6 : pay R (.due r d) x = min (max (x - (r : Rat)) 0) 1 * d := by simp only [Sw.pay]
        rw [min_l (by rw [h6]; grind)]
      · simp only [OkC] at hO
        exact h.ok R hO.1
      · simp only [OkC] at hO
        have h1 := h.mg R hO.1
        simp only [Sw.mg] at h1 ⊢; grind
      · simp only [OkC] at hO
        have h1 := h.lv R hO.1
        simp only [leaves] at h1 ⊢; exact h1
    · rw [if_neg e]; exact gen
  | shares _ => exact gen
  | option _ _ => exact gen
  | sum _ => exact gen
/-! ### sums -/
/-- what a tidied part gives to the row -/
def opened : Claim → List Claim
  | .sum cs => cs
  | .none => [.none]
  | .due r a => [.due r a]
  | .shares c => [.shares c]
  | .option c p => [.option c p]
  | .capped c a => [.capped c a]
theorem opened_pay {R : Nat} {x : Rat} (c : Claim) : rsum ((opened c).map fun d => pay R d x) = pay R c x := by
  cases c <;> simp only [opened, List.map, rsum_cons, rsum_nil, pay, pays_eq] <;> grind
theorem opened_mg (c : Claim) : rsum ((opened c).map mg) = mg c := by
  cases c <;> simp only [opened, List.map, rsum_cons, rsum_nil, mg, mgs_eq] <;> grind
theorem opened_leaves (c : Claim) : leavess (opened c) = leaves c := by
  cases c <;> simp only [opened, leavess, leaves] <;> omega
theorem opened_ok {R : Nat} {c : Claim} (h : OkC R c) : ∀ d ∈ opened c, OkC R d := by
  cases c with
  | sum cs => simp only [OkC] at h; exact okCs_iff.mp h.2
  | _ => intro d hd; simp only [opened, List.mem_singleton] at hd; rw [hd]; exact h
theorem opened_depth {c : Claim} {d : Nat} (h : depth c ≤ d) (hd : d ≤ 1) : (∀ e ∈ opened c, depth e ≤ d) ∧ NoSum (opened c) := by
  cases c with
  | sum cs =>
    simp only [depth] at h
    have h2 : ∀ e ∈ cs, depth e ≤ 0 := depths_le.mp (by omega)
    refine ⟨fun e he => Nat.le_trans (h2 e he) (Nat.zero_le _), fun e he => ?_⟩
    have := h2 e he
    cases e with
    | sum _ => simp only [depth] at this; omega
    | _ => rfl
  | _ =>
    refine ⟨fun e he => ?_, fun e he => ?_⟩
    · simp only [opened, List.mem_singleton] at he; rw [he]; exact h
    · simp only [opened, List.mem_singleton] at he; rw [he]; rfl
/-- each part, its tidied one -/
inductive Tids : List Claim → List Claim → Prop
  | nil : Tids [] []
  | cons {c t : Claim} {cs ts : List Claim} : Tid c t → Tids cs ts → Tids (c :: cs) (t :: ts)
theorem tids_pay {R : Nat} {x : Rat} : ∀ {cs ts : List Claim}, Tids cs ts → OkCs R cs → rsum ((ts.flatMap opened).map fun d => pay R d x) = pays R cs x
  | _, _, .nil, _ => rfl
  | _, _, .cons h1 h2, hO => by
    simp only [OkCs] at hO
    rw [List.flatMap_cons, List.map_append, rsum_append, opened_pay, h1.pay R x hO.1, tids_pay h2 hO.2]
    simp only [pays]
theorem tids_mg {R : Nat} : ∀ {cs ts : List Claim}, Tids cs ts → OkCs R cs → rsum ((ts.flatMap opened).map mg) ≤ mgs cs
  | _, _, .nil, _ => by simp only [List.flatMap_nil, List.map, rsum_nil, mgs]; grind
  | _, _, .cons h1 h2, hO => by
    simp only [OkCs] at hO
    rw [List.flatMap_cons, List.map_append, rsum_append, opened_mg]
    have := h1.mg R hO.1
    have := tids_mg h2 hO.2
    simp only [mgs]; grind
theorem tids_leaves {R : Nat} : ∀ {cs ts : List Claim}, Tids cs ts → OkCs R cs → leavess (ts.flatMap opened) ≤ leavess cs
  | _, _, .nil, _ => Nat.le_refl _
  | _, _, .cons h1 h2, hO => by
    simp only [OkCs] at hO
    rw [List.flatMap_cons, leavess_append, opened_leaves]
    have := h1.lv R hO.1
    have := tids_leaves h2 hO.2
    simp only [leavess]; omega
theorem tids_ok {R : Nat} : ∀ {cs ts : List Claim}, Tids cs ts → OkCs R cs → ∀ d ∈ ts.flatMap opened, OkC R d
  | _, _, .nil, _, d, hd => by cases hd
  | _, _, .cons h1 h2, hO, d, hd => by
    simp only [OkCs] at hO
    rw [List.flatMap_cons] at hd
    rcases List.mem_append.mp hd with h | h
    · exact opened_ok (h1.ok R hO.1) d h
    · exact tids_ok h2 hO.2 d h
theorem tids_depth {n : Nat} (hn : n ≤ 1) : ∀ {cs ts : List Claim}, Tids cs ts → depths cs ≤ n → (∀ d ∈ ts.flatMap opened, depth d ≤ n) ∧ NoSum (ts.flatMap opened)
  | _, _, .nil, _ => ⟨fun d hd => (by cases hd), fun d hd => (by cases hd)⟩
  | _, _, .cons h1 h2, hd => by
    simp only [depths] at hd
    rw [List.flatMap_cons]
    obtain ⟨a1, a2⟩ := opened_depth (Nat.le_trans h1.dp (show _ ≤ n by omega)) hn
    obtain ⟨b1, b2⟩ := tids_depth hn h2 (by omega)
    refine ⟨fun d hd => ?_, fun d hd => ?_⟩
    · rcases List.mem_append.mp hd with h | h
      · exact a1 d h
      · exact b1 d h
    · rcases List.mem_append.mp hd with h | h
      · exact a2 d h
      · exact b2 d h
theorem result_cases (l : List Claim) : (2 ≤ l.length ∧ resultT l = .sum l) ∨ (∃ c, l = [c] ∧ resultT l = c) ∨ (l = [] ∧ resultT l = .none) := by
  match l with
  | [] => exact .inr (.inr ⟨rfl, rfl⟩)
  | [c] => exact .inr (.inl ⟨c, rfl, rfl⟩)
  | a :: b :: r => exact .inl ⟨by simp, by unfold resultT; rw [if_pos (by simp)]⟩
theorem tid_sum {cs ts : List Claim} {rs : List Nat} {ps : List Rat} {caps : List (Claim × Rat)} (h : Tids cs ts) (hd : depths cs ≤ 1) (hf : Found (ts.flatMap opened) rs ps caps) : Tid (.sum cs) (resultT (foundT (ts.flatMap opened) rs ps caps)) := by
  obtain ⟨_, hs⟩ := tids_depth (n := 1) (Nat.le_refl _) h hd
  obtain ⟨hdd, _⟩ := tids_depth (n := depths cs) hd h (Nat.le_refl _)
  have fd := found_depth hf hdd
  have fl := found_leaves hs hf
  have fp : ∀ R x, rsum ((foundT (ts.flatMap opened) rs ps caps).map fun d => Sw.pay R d x) = rsum ((ts.flatMap opened).map fun d => Sw.pay R d x) := fun R x => found_sum (addF_pay R x) hs hf
  have fm := found_sum addF_mg hs hf
  have fo : ∀ R, OkCs R cs → ∀ c ∈ foundT (ts.flatMap opened) rs ps caps, OkC R c := fun R hO => found_ok hs hf (tids_ok h hO)
  generalize foundT (ts.flatMap opened) rs ps caps = F at *
  have pay' : ∀ R x, OkCs R cs → rsum (F.map fun d => Sw.pay R d x) = pays R cs x := fun R x hO => by rw [fp, tids_pay h hO]
  have mg' : ∀ R, OkCs R cs → rsum (F.map Sw.mg) ≤ mgs cs := fun R hO => by rw [fm]; exact tids_mg h hO
  have lv' : ∀ R, OkCs R cs → leavess F ≤ leavess cs := fun R hO => Nat.le_trans fl (tids_leaves h hO)
  rcases result_cases F with ⟨h2, e⟩ | ⟨c, e1, e⟩ | ⟨e1, e⟩
  · rw [e]
    refine ⟨fun R x hO => ?_, fun R hO => ?_, fun R hO => ?_, fun R hO => ?_, ?_⟩
    · simp only [OkC] at hO; simp only [Sw.pay]; rw [pays_eq, pay' R x hO.2]
    · simp only [OkC] at hO ⊢; exact ⟨h2, okCs_iff.mpr (fo R hO.2)⟩
    · simp only [OkC] at hO; simp only [Sw.mg]; rw [mgs_eq]; exact mg' R hO.2
    · simp only [OkC] at hO; simp only [leaves]; exact lv' R hO.2
    · simp only [depth]
      have := depths_le.mpr fd
      omega
  · rw [e]
    subst e1
    refine ⟨fun R x hO => ?_, fun R hO => ?_, fun R hO => ?_, fun R hO => ?_, ?_⟩
    · simp only [OkC] at hO
      have := pay' R x hO.2
      simp only [List.map, rsum_cons, rsum_nil] at this
      simp only [Sw.pay]; rw [← this]; grind
    · simp only [OkC] at hO; exact fo R hO.2 c (by simp)
    · simp only [OkC] at hO
      have := mg' R hO.2
      simp only [List.map, rsum_cons, rsum_nil] at this
      simp only [Sw.mg]; grind
    · simp only [OkC] at hO
      have := lv' R hO.2
      simp only [leavess] at this
      simp only [leaves]; omega
    · have := fd c (by simp)
      simp only [depth]; omega
  · rw [e]
    subst e1
    refine ⟨fun R x hO => ?_, fun R hO => trivial, fun R hO => ?_, fun R hO => ?_, by simp only [depth]; omega⟩
    · simp only [OkC] at hO
      have := pay' R x hO.2
      simp only [List.map, rsum_nil] at this
      simp only [Sw.pay]; exact this
    · have := mg_nonneg hO
      simp only [Sw.mg] at *; exact this
    · have := leaves_pos hO
      simp only [leaves] at *; exact this
/-- so its curve is the same -/
theorem tid_curve {R : Nat} {c r : Claim} (h : Tid c r) (hO : OkC R c) : curveC R r = curveC R c := by
  refine Ok.ext (curveC_is (h.ok R hO)).ok (curveC_is hO).ok fun x hx => ?_
  have e1 : evc (curveC R r) x = pay R r x := (curveC_is (h.ok R hO)).eq x hx
  have e2 : evc (curveC R c) x = pay R c x := (curveC_is hO).eq x hx
  rw [e1, e2, h.pay R x hO]
end Sw
set_option maxHeartbeats 4000000
/-! plain data: equality, depth -/
namespace Sw
open PySem PySem.Spec PyProof.Rows L2 Evl SwT
mutual
def pl : PyData → Bool
  | .none => true
  | .int _ => true
  | .str x => PyData.strOk x
  | .list xs => pls xs
  | .tuple xs => pls xs
  | .bool _ => false
  | .dict _ => false
def pls : List PyData → Bool
  | [] => true
  | x :: xs => pl x && pls xs
end
theorem pls_iff : ∀ {xs : List PyData}, pls xs = true ↔ ∀ x ∈ xs, pl x = true
  | [] => by simp [pls]
  | x :: xs => by rw [pls, Bool.and_eq_true, pls_iff (xs := xs)]; simp
mutual
theorem eqv_iff : ∀ {d e : PyData}, pl d = true → pl e = true → (PyData.eqv d e = true ↔ d = e)
  | .bool _, _, h, _ => by simp [pl] at h
  | .dict _, _, h, _ => by simp [pl] at h
  | _, .bool _, _, h => by simp [pl] at h
  | _, .dict _, _, h => by simp [pl] at h
  | .none, .none, _, _ => by simp [PyData.eqv]
  | .none, .int _, _, _ => by simp [PyData.eqv]
  | .none, .str _, _, _ => by simp [PyData.eqv]
  | .none, .list _, _, _ => by simp [PyData.eqv]
  | .none, .tuple _, _, _ => by simp [PyData.eqv]
  | .int _, .none, _, _ => by simp [PyData.eqv]
  | .int _, .int _, _, _ => by simp [PyData.eqv]
  | .int _, .str _, _, _ => by simp [PyData.eqv]
  | .int _, .list _, _, _ => by simp [PyData.eqv]
  | .int _, .tuple _, _, _ => by simp [PyData.eqv]
  | .str _, .none, _, _ => by simp [PyData.eqv]
  | .str _, .int _, _, _ => by simp [PyData.eqv]
  | .str _, .str _, _, _ => by simp [PyData.eqv]
  | .str _, .list _, _, _ => by simp [PyData.eqv]
  | .str _, .tuple _, _, _ => by simp [PyData.eqv]
  | .list _, .none, _, _ => by simp [PyData.eqv]
  | .list _, .int _, _, _ => by simp [PyData.eqv]
  | .list _, .str _, _, _ => by simp [PyData.eqv]
  | .list xs, .list ys, h, k => by
    simp only [pl] at h k
    simp only [PyData.eqv, PyData.list.injEq]
    exact eqvAll_iff h k
  | .list _, .tuple _, _, _ => by simp [PyData.eqv]
  | .tuple _, .none, _, _ => by simp [PyData.eqv]
  | .tuple _, .int _, _, _ => by simp [PyData.eqv]
  | .tuple _, .str _, _, _ => by simp [PyData.eqv]
  | .tuple _, .list _, _, _ => by simp [PyData.eqv]
  | .tuple xs, .tuple ys, h, k => by
    simp only [pl] at h k
    simp only [PyData.eqv, PyData.tuple.injEq]
    exact eqvAll_iff h k
theorem eqvAll_iff : ∀ {xs ys : List PyData}, pls xs = true → pls ys = true → (PyData.eqvAll xs ys = true ↔ xs = ys)
  | [], [], _, _ => by simp [PyData.eqvAll]
  | [], _ :: _, _, _ => by simp [PyData.eqvAll]
  | _ :: _, [], _, _ => by simp [PyData.eqvAll]
  | x :: xs, y :: ys, h, k => by
    simp only [pls, Bool.and_eq_true] at h k
    simp only [PyData.eqvAll, Bool.and_eq_true, List.cons.injEq]
    rw [eqv_iff h.1 k.1, eqvAll_iff h.2 k.2]
end
mutual
theorem pl_lay : ∀ {d : PyData}, pl d = true → d.canLay0 = true
  | .bool _, h => by simp [pl] at h
  | .dict _, h => by simp [pl] at h
  | .none, _ => by simp [PyData.canLay0]
  | .int _, _ => by simp [PyData.canLay0]
  | .str _, h => by simp only [pl] at h; simp only [PyData.canLay0]; exact h
  | .list xs, h => by simp only [pl] at h; simp only [PyData.canLay0]; exact pls_lay h
  | .tuple xs, h => by simp only [pl] at h; simp only [PyData.canLay0]; exact pls_lay h
theorem pls_lay : ∀ {d : List PyData}, pls d = true → PyData.canLayAll0 d = true
  | [], _ => by simp [PyData.canLayAll0]
  | x :: xs, h => by
    simp only [pls, Bool.and_eq_true] at h
    simp only [PyData.canLayAll0, Bool.and_eq_true]
    exact ⟨pl_lay h.1, pls_lay h.2⟩
end
theorem depthAll_le {n : Nat} : ∀ {xs : List PyData}, (∀ x ∈ xs, PyData.depth x ≤ n) → PyData.depthAll xs ≤ n
  | [], _ => by simp [PyData.depthAll]
  | x :: xs, h => by
    simp only [PyData.depthAll]
    have := h x List.mem_cons_self
    have := depthAll_le (xs := xs) fun y hy => h y (List.mem_cons_of_mem _ hy)
    omega
/-- plain, at most n deep -/
def Sh (n : Nat) (d : PyData) : Prop := pl d = true ∧ d.depth ≤ n
theorem Sh.mono {n m : Nat} {d : PyData} (h : Sh n d) (hm : n ≤ m) : Sh m d := ⟨h.1, Nat.le_trans h.2 hm⟩
theorem sh_int {n : Nat} {i : Int} : Sh n (.int i) := ⟨rfl, by simp [PyData.depth]⟩
theorem sh_non {n : Nat} : Sh n .none := ⟨rfl, by simp [PyData.depth]⟩
theorem sh_str {n : Nat} {x : Str} (h : PyData.strOk x = true) : Sh n (.str x) := ⟨h, by simp [PyData.depth]⟩
theorem sh_tup {n : Nat} {ds : List PyData} (h : ∀ d ∈ ds, Sh n d) : Sh (n + 1) (.tuple ds) :=
  ⟨by simp only [pl]; exact pls_iff.mpr fun d hd => (h d hd).1, by simp only [PyData.depth]; have := depthAll_le fun d hd => (h d hd).2; omega⟩
theorem sh_lst {n : Nat} {ds : List PyData} (h : ∀ d ∈ ds, Sh n d) : Sh (n + 1) (.list ds) :=
  ⟨by simp only [pl]; exact pls_iff.mpr fun d hd => (h d hd).1, by simp only [PyData.depth]; have := depthAll_le fun d hd => (h d hd).2; omega⟩
theorem Sh.shaped {d : PyData} (h : Sh 60 d) : SeqAt.shaped d = true := by
  unfold SeqAt.shaped
  rw [pl_lay h.1, Bool.true_and]
  exact decide_eq_true (Nat.le_trans h.2 (by decide))
theorem sh_fr {n : Nat} {q : Rat} : Sh (n + 1) (fr q) := sh_tup fun d hd => by
  simp only [List.mem_cons, List.not_mem_nil, or_false] at hd
  rcases hd with rfl | rfl
  · exact sh_int
  · exact sh_int
theorem fr_inj {p q : Rat} (h : fr p = fr q) : p = q := by
  simp only [fr, PyData.tuple.injEq, List.cons.injEq, PyData.int.injEq, and_true] at h
  exact Rat.ext h.1 (by omega)
theorem nol_fr (q : Rat) : nol (fr q) = true := rfl
/-- a corner, corners, a curve -/
abbrev ptD (p : Pt) : PyData := .tuple [fr p.1, fr p.2]
abbrev cvD (c : Cv) : PyData := .tuple [.tuple (c.1.map ptD), fr c.2]
theorem nol_pt (p : Pt) : nol (ptD p) = true := rfl
theorem nols_map {α : Type} {f : α → PyData} (h : ∀ x, nol (f x) = true) (l : List α) : nols (l.map f) = true := nols_of fun d hd => by
  obtain ⟨x, _, rfl⟩ := List.mem_map.mp hd
  exact h x
theorem nol_cv (c : Cv) : nol (cvD c) = true := by
  have h : nols (c.1.map ptD) = true := nols_map nol_pt _
  show nols [.tuple (c.1.map ptD), fr c.2] = true
  simp only [nols, nol, h, Bool.and_self]
theorem sh_pt {n : Nat} {p : Pt} : Sh (n + 2) (ptD p) := sh_tup fun d hd => by
  simp only [List.mem_cons, List.not_mem_nil, or_false] at hd
  rcases hd with rfl | rfl <;> exact sh_fr
theorem sh_map {α : Type} {f : α → PyData} {n : Nat} (h : ∀ x, Sh n (f x)) (l : List α) : ∀ d ∈ l.map f, Sh n d := fun d hd => by
  obtain ⟨x, _, rfl⟩ := List.mem_map.mp hd
  exact h x
theorem sh_cv {n : Nat} {c : Cv} : Sh (n + 4) (cvD c) := sh_tup fun d hd => by
  simp only [List.mem_cons, List.not_mem_nil, or_false] at hd
  rcases hd with rfl | rfl
  · exact sh_tup (sh_map (fun _ => sh_pt) _)
  · exact sh_fr
section
variable {K : PySem.W.Frag} {σ : L2.St} {H H' : Hp} {ta tb te : TE} {d e : PyData} {v : V}
theorem ed_eq {b : Bool} (ha : Ed K ta σ H d) (hb : Ed K tb σ H e) (h1 : Sh 60 d) (h2 : Sh 60 e) (h : b = true ↔ d = e) : Ed K (tOp (rEqD K) ta tb) σ H (.bool b) :=
  (ed_eqD ha hb h1.shaped h2.shaped).cast (congrArg PyData.bool (Bool.eq_iff_iff.mpr ((eqv_iff h1.1 h2.1).trans h.symm)))
theorem ed_ne {b : Bool} (ha : Ed K ta σ H d) (hb : Ed K tb σ H e) (h1 : Sh 60 d) (h2 : Sh 60 e) (h : b = true ↔ d ≠ e) : Ed K (tOp (rNeD K) ta tb) σ H (.bool b) :=
  (ed_neD ha hb h1.shaped h2.shaped).cast (congrArg PyData.bool (Bool.eq_iff_iff.mpr (by
    rw [Bool.not_eq_true']
    rw [h]
    constructor
    · intro z z2; rw [(eqv_iff h1.1 h2.1).mpr z2] at z; cases z
    · intro z
      cases q : PyData.eqv d e with
      | false => rfl
      | true => exact absurd ((eqv_iff h1.1 h2.1).mp q) z)))
theorem ed_eqi {i j : Int} (ha : Ed K ta σ H (.int i)) (hb : Ed K tb σ H (.int j)) : Ed K (tOp (rEqD K) ta tb) σ H (.bool (decide (i = j))) :=
  ed_eq ha hb sh_int sh_int (by simp)
theorem ed_nei {i j : Int} (ha : Ed K ta σ H (.int i)) (hb : Ed K tb σ H (.int j)) : Ed K (tOp (rNeD K) ta tb) σ H (.bool (decide (i ≠ j))) :=
  ed_ne ha hb sh_int sh_int (by simp)
theorem ed_eqfr {p q : Rat} (ha : Ed K ta σ H (fr p)) (hb : Ed K tb σ H (fr q)) : Ed K (tOp (rEqD K) ta tb) σ H (.bool (decide (p = q))) :=
  ed_eq ha hb sh_fr sh_fr (by rw [decide_eq_true_eq]; exact ⟨fun e => by rw [e], fr_inj⟩)
theorem ed_nefr {p q : Rat} (ha : Ed K ta σ H (fr p)) (hb : Ed K tb σ H (fr q)) : Ed K (tOp (rNeD K) ta tb) σ H (.bool (decide (p ≠ q))) :=
  ed_ne ha hb sh_fr sh_fr (by rw [decide_eq_true_eq]; exact ⟨fun e z => e (fr_inj z), fun e z => e (by rw [z])⟩)
/-- an item of mapped data -/
theorem atI_map {α : Type} {f : α → PyData} {l : List α} {i : Nat} {x : α} (h : l[i]? = some x) : atI (l.map f) (i : Int) = some (f x) := atI_nat (by rw [List.getElem?_map, h]; rfl)
theorem mem_get {α : Type} {f : α → PyData} {l : List α} {d : PyData} (h : d ∈ l.map f) : ∃ x ∈ l, d = f x := by
  obtain ⟨x, hx, e⟩ := List.mem_map.mp h
  exact ⟨x, hx, e.symm⟩
end
end Sw
/-! more readings by data: unpacking, ranges, comprehensions over mapped data, in -/
namespace Sw
open PySem PySem.Spec PyProof.Rows L2 Evl SwT
theorem get_mapD {α : Type} {f : α → PyData} {l : List α} {i : Nat} {d : PyData} (h : (l.map f)[i]? = some d) : ∃ x, l[i]? = some x ∧ d = f x := by
  rw [List.getElem?_map] at h
  cases e : l[i]? with
  | none => rw [e] at h; cases h
  | some x => rw [e] at h; exact ⟨x, rfl, (Option.some.inj h).symm⟩
section
variable {K : PySem.W.Frag} {σ : L2.St} {H H' : Hp} {ta tb tc te : TE} {t u : TT} {ts : TA} {d e : PyData} {v : V} {p : Addr} {ds es : List PyData} {D : Ends}
/-- list or tuple -/
def seqD (b : Bool) (ds : List PyData) : PyData := if b then .list ds else .tuple ds
theorem ed_ixQ {b : Bool} {i : Int} (ha : Ed K ta σ H (seqD b ds)) (hb : Ed K tb σ H (.int i)) (h : atI ds i = some d) : Ed K (tOp (rIx K) ta tb) σ H d := by
  cases b with
  | true => exact ed_ixL ha hb h
  | false => exact ed_ixT ha hb h
theorem ed_lenQ {b : Bool} (ha : Ed K ta σ H (seqD b ds)) : Ed K (tCB (fun xs H Q => ∃ x n, xs = [x] ∧ LenV K x H n ∧ Q (.int n) H) (tCons ta tNil)) σ H (.int (ds.length : Int)) := by
  cases b with
  | true => exact ed_lenL ha
  | false => exact ed_lenT ha
theorem unp2_ed {i j : Nat} {x y : PyData} (h : Ed K te σ H (.tuple [x, y])) (k : ∀ v u H', Ex H H' → Dp K H' v x → Dp K H' u y → D.nx ((σ.set i (some v)).set j (some u)) H') :
    tAsg te (gTup K 2 (gCons (gName i) (gCons (gName j) gNil))) D σ H := h.run fun z H' e hd => by
  obtain ⟨a, vs, rfl, s1, a1⟩ := dp_tup hd
  obtain ⟨v, u, rfl, h1, h2⟩ := dps_two a1
  exact tg_two s1 _ (k v u H' e h1 h2)
theorem unp3_ed {i j l : Nat} {x y z : PyData} (h : Ed K te σ H (.tuple [x, y, z])) (k : ∀ v u w H', Ex H H' → Dp K H' v x → Dp K H' u y → Dp K H' w z → D.nx (((σ.set i (some v)).set j (some u)).set l (some w)) H') :
    tAsg te (gTup K 3 (gCons (gName i) (gCons (gName j) (gCons (gName l) gNil)))) D σ H := h.run fun z H' e hd => by
  obtain ⟨a, vs, rfl, s1, a1⟩ := dp_tup hd
  obtain ⟨v, u, w, rfl, h1, h2, h3⟩ := dps_three a1
  exact tg_three s1 _ (k v u w H' e h1 h2 h3)
/-- a for over what a name holds -/
theorem for_vl {i0 : Nat} {g : TG} {tb : TS} (hs0 : σ[i0]? = some (some v)) (hd0 : Dp K H v (.list ds)) (Pv : Nat → L2.St → Hp → Prop) (h0 : Pv 0 σ H) (hst : ∀ i σ' H', i ≤ ds.length → Pv i σ' H' → Dp K H' v (.list ds))
    (hs : ∀ i d u σ' H', ds[i]? = some d → Dp K H' u d → Pv i σ' H' → g u σ' H' fun σ2 H2 => tb { D with nx := Pv (i + 1), ct := Pv (i + 1), bk := D.nx } σ2 H2) (hd : ∀ σ' H', Pv ds.length σ' H' → D.nx σ' H') : tFor (iList K (tVar i0)) g tb D σ H := by
  obtain ⟨a, vs, rfl, s1, a1⟩ := dp_lst hd0
  refine ⟨_, hs0, a, rfl, ⟨vs, s1⟩, fun i m σ' H' => m = ds.length - i ∧ i ≤ ds.length ∧ Pv i σ' H', ⟨ds.length, by simp, Nat.zero_le _, h0⟩, ?_⟩
  rintro i m σ' H' ⟨rfl, hi, hp⟩
  obtain ⟨a', us, ea, s2, a2⟩ := dp_lst (hst i σ' H' hi hp)
  cases ea
  by_cases hlt : i < ds.length
  · obtain ⟨v, v1, v2⟩ := dps_get a2 (List.getElem?_eq_getElem hlt)
    refine .inr ⟨⟨us, v, s2, v1⟩, Pv (i + 1), fun σ2 H2 q => ⟨ds.length - (i + 1), by omega, rfl, hlt, q⟩, fun y H2 hy => ?_⟩
    obtain ⟨rfl, hy⟩ := hy
    have ey := hy us s2
    rw [v1] at ey
    cases ey
    exact hs i _ v σ' H2 (List.getElem?_eq_getElem hlt) v2 hp
  · have : i = ds.length := by omega
    subst this
    exact .inl ⟨⟨us, s2, by rw [dps_len a2]; exact Nat.le_refl _⟩, hd σ' H' hp⟩
/-- for i in range(lo, hi) -/
theorem for_rng2 {g : TG} {tb : TS} {lo hi : Int} (he : EdA K ts σ H [.int lo, .int hi]) (hl : -(2 ^ 62) ≤ lo ∧ lo < 2 ^ 62 ∧ -(2 ^ 62) ≤ hi ∧ hi < 2 ^ 62) (k : ∀ H1, Ex H H1 → ∃ Pv : Nat → L2.St → Hp → Prop, Pv 0 σ H1 ∧
      (∀ (i : Nat) σ' H', i < (hi - lo).toNat → Pv i σ' H' → g (.int (lo + i)) σ' H' fun σ2 H2 => tb { D with nx := Pv (i + 1), ct := Pv (i + 1), bk := D.nx } σ2 H2) ∧ (∀ σ' H', Pv (hi - lo).toNat σ' H' → D.nx σ' H')) : tFor (iRng2 ts) g tb D σ H := by
  refine he.run fun vs H1 e1 dd => ?_
  obtain ⟨v, u, rfl, h1, h2⟩ := dps_two dd
  obtain rfl := dp_int h1
  obtain rfl := dp_int h2
  obtain ⟨Pv, h0, hs, hd⟩ := k H1 e1
  exact ⟨lo, hi, rfl, hl, for_range Pv h0 hs hd⟩
theorem for_rng1 {g : TG} {tb : TS} {n : Nat} (he : EdA K ts σ H [.int n]) (hl : (n : Int) < 2 ^ 62) (k : ∀ H1, Ex H H1 → ∃ Pv : Nat → L2.St → Hp → Prop, Pv 0 σ H1 ∧
      (∀ (i : Nat) σ' H', i < n → Pv i σ' H' → g (.int i) σ' H' fun σ2 H2 => tb { D with nx := Pv (i + 1), ct := Pv (i + 1), bk := D.nx } σ2 H2) ∧ (∀ σ' H', Pv n σ' H' → D.nx σ' H')) : tFor (iRng1 ts) g tb D σ H := by
  refine he.run fun vs H1 e1 dd => ?_
  obtain ⟨v, rfl, h1⟩ := dps_one dd
  obtain rfl := dp_int h1
  obtain ⟨Pv, h0, hs, hd⟩ := k H1 e1
  refine ⟨n, rfl, by omega, hl, for_range (lo := 0) (n := (n : Int).toNat) Pv h0 (fun i σ' H' hi hp => ?_) (by rw [Int.toNat_natCast]; exact hd)⟩
  rw [Int.zero_add]
  exact hs i σ' H' (by omega) hp
/-! ### comprehensions -/
def EdI (K : PySem.W.Frag) (wi : TI) (σ : L2.St) (H : Hp) (ds : List PyData) : Prop := ∀ H1, Ex H H1 → ∀ R : It → Hp → Prop,
  (∀ J H2, Ex H1 H2 → (∀ H', Ex H2 H' → (∀ i, i < ds.length → J.go i H') ∧ J.stop ds.length H' ∧ ∀ i d y H'', ds[i]? = some d → J.yld i H' y H'' → Ex H' H'' ∧ Dp K H'' y d) → R J H2) → wi σ H1 R
theorem edi_list (he : Ed K ta σ H (.list ds)) : EdI K (iList K ta) σ H ds := fun H1 e R k => he H1 e _ fun x H2 e2 d2 => by
  obtain ⟨a, vs, rfl, s1, a1⟩ := dp_lst d2
  refine ⟨a, rfl, ⟨vs, s1⟩, k _ H2 e2 fun H' e' => ?_⟩
  have s2 := ex_l e' s1
  have a2 := dps_mono e' a1
  refine ⟨fun i hi => ?_, ⟨vs, s2, by rw [dps_len a2]; exact Nat.le_refl _⟩, fun i d y H'' hd hy => ?_⟩
  · obtain ⟨v, v1, _⟩ := dps_get a2 (List.getElem?_eq_getElem hi)
    exact ⟨vs, v, s2, v1⟩
  · obtain ⟨rfl, hy⟩ := hy
    obtain ⟨v, v1, v2⟩ := dps_get a2 hd
    have ey := hy vs s2
    rw [v1] at ey
    cases ey
    exact ⟨Ex.refl _, v2⟩
theorem edi_tup (he : Ed K ta σ H (.tuple ds)) : EdI K (iTup K ta) σ H ds := fun H1 e R k => he H1 e _ fun x H2 e2 d2 => by
  obtain ⟨a, vs, rfl, s1, a1⟩ := dp_tup d2
  refine ⟨a, rfl, ⟨vs, s1⟩, k _ H2 e2 fun H' e' => ?_⟩
  have s2 := ex_t e' s1
  have a2 := dps_mono e' a1
  refine ⟨fun i hi => ?_, ⟨vs, s2, by rw [dps_len a2]; exact Nat.le_refl _⟩, fun i d y H'' hd hy => ?_⟩
  · obtain ⟨v, v1, _⟩ := dps_get a2 (List.getElem?_eq_getElem hi)
    exact ⟨vs, v, s2, v1⟩
  · obtain ⟨rfl, hy⟩ := hy
    obtain ⟨v, v1, v2⟩ := dps_get a2 hd
    have ey := hy vs s2
    rw [v1] at ey
    cases ey
    exact ⟨Ex.refl _, v2⟩
theorem edi_rng1 {n : Nat} (he : EdA K ts σ H [.int n]) (hl : (n : Int) < 2 ^ 62) : EdI K (iRng1 ts) σ H ((List.range n).map fun i : Nat => PyData.int (i : Int)) := fun H1 e R k => he H1 e _ fun vs H2 e2 d2 => by
  obtain ⟨v, rfl, h1⟩ := dps_one d2
  obtain rfl := dp_int h1
  refine ⟨n, rfl, by omega, hl, k _ H2 e2 fun H' e' => ?_⟩
  rw [List.length_map, List.length_range, Int.toNat_natCast]
  refine ⟨fun i hi => hi, Nat.le_refl _, fun i d y H'' hd hy => ?_⟩
  obtain ⟨rfl, rfl⟩ := hy
  obtain ⟨x, hx, rfl⟩ := get_mapD hd
  have hi : i < n := by have := (List.getElem?_eq_some_iff.mp hx).1; rwa [List.length_range] at this
  rw [List.getElem?_range hi] at hx
  cases hx
  rw [Int.zero_add]
  exact ⟨Ex.refl _, .int _⟩
def EdLP (K : PySem.W.Frag) (te : TE) (σ : L2.St) (H : Hp) (P : List PyData → Prop) : Prop := ∀ H1, Ex H H1 → ∀ Q : VK, (∀ p H2 es, P es → Ex H1 H2 → H1 p = none → Lm K H2 p es → Q (.ref p) H2) → te σ H1 Q
theorem EdLP.run {Q : VK} {P : List PyData → Prop} (h : EdLP K te σ H P) (k : ∀ p H2 es, P es → Ex H H2 → H p = none → Lm K H2 p es → Q (.ref p) H2) : te σ H Q := h H (Ex.refl H) Q k
structure TuP (K : PySem.W.Frag) (g : TG) (tt : TT) (te : TE) (ws : List Nat) (σ : L2.St) (H : Hp) (v : V) (b : Bool) (R : PyData → Prop) : Prop where
  ex : ∃ σ2, Tg g (wipe σ ws) H v σ2 ∧ wipe σ2 ws = wipe σ ws ∧ Et K tt σ2 H b ∧ (b = true → EdP K te σ2 H R ∧ ∀ d, R d → nol d = true)
theorem paired_snoc {α β : Type} {R : α → β → Prop} {x : α} {y : β} (h : R x y) : ∀ {xs : List α} {ys : List β}, Paired R xs ys → Paired R (xs ++ [x]) (ys ++ [y])
  | _, _, .nil => .cons h .nil
  | _, _, .cons a b => .cons a (paired_snoc h b)
theorem lc_mP {α : Type} {wi : TI} {g : TG} {tt : TT} {ws : List Nat} (e : α → PyData) (xs : List α) (p : α → Bool) (R : α → PyData → Prop) (he : EdI K wi σ H (xs.map e)) (hl : xs.length ≤ sizeLine)
    (hb : ∀ x ∈ xs, ∀ v H1, Ex H H1 → Dp K H1 v (e x) → TuP K g tt te ws σ H1 v (p x) (R x)) : EdLP K (tLc wi g tt te ws) σ H (Paired R (xs.filter p)) := fun H0 e0 Q q => by
  refine he H0 e0 _ fun J H1 e1 hJ => ?_
  refine fun D hD => ⟨fun i m H' => m = xs.length - i ∧ i ≤ xs.length ∧ Ex H1 H' ∧ ∃ es, Paired R ((xs.take i).filter p) es ∧ Lm K H' D es ∧ nols es = true, ⟨xs.length, by simp, Nat.zero_le _, Ex.new hD, [], .nil, ⟨[], upd_same, .nil⟩, rfl⟩, ?_⟩
  rintro i m H' ⟨rfl, hi, ex, es, pr, lm, hn⟩
  obtain ⟨j1, j2, j3⟩ := hJ H' ex
  rw [List.length_map] at j1 j2
  by_cases hlt : i < xs.length
  · have hg := List.getElem?_eq_getElem hlt
    refine .inr ⟨j1 i hlt, fun H'' => i + 1 ≤ xs.length ∧ Ex H1 H'' ∧ ∃ es, Paired R ((xs.take (i + 1)).filter p) es ∧ Lm K H'' D es ∧ nols es = true, fun H'' ⟨c1, c2, c3⟩ => ⟨xs.length - (i + 1), by omega, rfl, c1, c2, c3⟩, fun y H'' hy => ?_⟩
    obtain ⟨ey, dy⟩ := j3 i (e xs[i]) y H'' (by rw [List.getElem?_map, hg]; rfl) hy
    obtain ⟨σ2, tg, hw, ht, hb2⟩ := (hb xs[i] (List.getElem_mem hlt) y H'' (((e0.trans e1).trans ex).trans ey) dy).ex
    refine tg _ ⟨hw, ht.run fun H3 e3 => ?_⟩
    have tk : xs.take (i + 1) = xs.take i ++ [xs[i]] := by rw [List.take_add_one, hg]; rfl
    have el : es.length ≤ i := by
      rw [← pr.length]
      exact Nat.le_trans (List.length_filter_le ..) (by rw [List.length_take]; omega)
    cases hp : p xs[i] with
    | true =>
      show (if true = true then _ else _)
      rw [if_pos rfl]
      obtain ⟨h4, h5⟩ := hb2 hp
      refine h4 H3 e3 _ fun y H4 d rd e4 dy => ?_
      obtain ⟨us, u1, u2⟩ := lm.mono ((ey.trans e3).trans e4)
      have im : Im H4 (upd H4 D (.lst (us ++ [y]))) := im_upd u1 rfl
      refine ⟨us, u1, by rw [dps_len u2]; omega, hlt, fun b o hb => ?_, es ++ [d], ?_, ⟨_, upd_same, dps_snoc (dps_im im hn u2) (dp_im im (h5 d rd) dy)⟩, nols_of fun z hz => ?_⟩
      · rw [upd_ne (ne_of_none hb hD)]; exact e4 _ _ (e3 _ _ (ey _ _ (ex _ _ hb)))
      · rw [tk, List.filter_append]
        have : [xs[i]].filter p = [xs[i]] := by rw [List.filter_cons_of_pos hp]; rfl
        rw [this]
        exact paired_snoc rd pr
      · rcases List.mem_append.mp hz with h | h
        · exact nols_mem hn h
        · rw [List.mem_singleton.mp h]; exact h5 d rd
    | false =>
      show (if false = true then _ else _)
      rw [if_neg Bool.false_ne_true]
      refine ⟨hlt, (ex.trans ey).trans e3, es, ?_, lm.mono (ey.trans e3), hn⟩
      rw [tk, List.filter_append]
      have : [xs[i]].filter p = [] := by rw [List.filter_cons_of_neg (by rw [hp]; decide)]; rfl
      rw [this, List.append_nil]
      exact pr
  · have : i = xs.length := by omega
    subst this
    rw [List.take_length] at pr
    exact .inl ⟨j2, q D H' es pr (e1.trans ex) (fresh_back e1 hD) lm⟩
theorem paired_map {α β : Type} {f : α → β} : ∀ {xs : List α} {ys : List β}, Paired (fun x y => y = f x) xs ys → ys = xs.map f
  | _, _, .nil => rfl
  | _, _, .cons h t => by rw [List.map_cons, h, paired_map t]
theorem lc_m {α : Type} {wi : TI} {g : TG} {tt : TT} {ws : List Nat} (e : α → PyData) (xs : List α) (p : α → Bool) (f : α → PyData) (he : EdI K wi σ H (xs.map e)) (hl : xs.length ≤ sizeLine)
    (hb : ∀ x ∈ xs, ∀ v H1, Ex H H1 → Dp K H1 v (e x) → Tu K g tt te ws σ H1 v (p x) (f x)) : EdL K (tLc wi g tt te ws) σ H ((xs.filter p).map f) := fun H0 e0 Q q =>
  lc_mP e xs p (fun x d => d = f x) he hl (fun x hx v H1 e1 d1 => by
    obtain ⟨σ2, t1, t2, t3, t4⟩ := (hb x hx v H1 e1 d1).ex
    exact ⟨σ2, t1, t2, t3, fun z => ⟨(t4 z).1.p, fun d hd => hd ▸ (t4 z).2⟩⟩) H0 e0 Q fun p H2 es pr e2 hn lm => q p H2 e2 hn (paired_map pr ▸ lm)
/-- no test -/
theorem lc_m1 {α : Type} {wi : TI} {g : TG} {ws : List Nat} (e : α → PyData) (xs : List α) (f : α → PyData) (he : EdI K wi σ H (xs.map e)) (hl : xs.length ≤ sizeLine)
    (hb : ∀ x ∈ xs, ∀ v H1, Ex H H1 → Dp K H1 v (e x) → Tu K g tYes te ws σ H1 v true (f x)) : EdL K (tLc wi g tYes te ws) σ H (xs.map f) := by
  have := lc_m e xs (fun _ => true) f he hl hb
  rwa [List.filter_eq_self.mpr fun _ _ => rfl] at this
theorem tu_name {i : Nat} {tt : TT} {b : Bool} {ws : List Nat} (hw : wipe ((wipe σ ws).set i (some v)) ws = wipe σ ws) (ht : Et K tt ((wipe σ ws).set i (some v)) H b) (he : b = true → Ed K te ((wipe σ ws).set i (some v)) H d ∧ nol d = true) : Tu K (gName i) tt te ws σ H v b d :=
  ⟨_, tg_name, hw, ht, he⟩
theorem tu_two {i j : Nat} {tt : TT} {b : Bool} {ws : List Nat} {x y : PyData} (hd : Dp K H v (.tuple [x, y])) (k : ∀ a c, Dp K H a x → Dp K H c y → wipe (((wipe σ ws).set i (some a)).set j (some c)) ws = wipe σ ws ∧ Et K tt (((wipe σ ws).set i (some a)).set j (some c)) H b ∧ (b = true → Ed K te (((wipe σ ws).set i (some a)).set j (some c)) H d ∧ nol d = true)) :
    Tu K (gTup K 2 (gCons (gName i) (gCons (gName j) gNil))) tt te ws σ H v b d := by
  obtain ⟨a, vs, rfl, s1, a1⟩ := dp_tup hd
  obtain ⟨x1, y1, rfl, h1, h2⟩ := dps_two a1
  obtain ⟨k1, k2, k3⟩ := k x1 y1 h1 h2
  exact ⟨_, tg_two s1, k1, k2, k3⟩
/-- x in a list, x not in a list -/
theorem ed_in {b : Bool} (ha : Ed K ta σ H d) (hb : Ed K tb σ H (.list ds)) (h1 : Sh 50 d) (h2 : ∀ e ∈ ds, Sh 50 e) (h : b = true ↔ d ∈ ds) : Ed K (tOp (rInD K) ta tb) σ H (.bool b) :=
  ed_op ha hb fun a c H1 Q d1 d2 q => ⟨d, ds, d1, d2, (h1.mono (by decide)).shaped, ((sh_lst h2).mono (by decide)).shaped, by
    have : (ds.any fun z => PyData.eqv z d) = b := Bool.eq_iff_iff.mpr (by
      rw [h, List.any_eq_true]
      constructor
      · rintro ⟨z, hz, he⟩
        rw [← (eqv_iff (h2 z hz).1 h1.1).mp he]; exact hz
      · intro hm
        exact ⟨d, hm, (eqv_iff h1.1 h1.1).mpr rfl⟩)
    rw [this]; exact q _ H1 (Ex.refl H1) (.bl _)⟩
theorem ed_notin {b : Bool} (ha : Ed K ta σ H d) (hb : Ed K tb σ H (.list ds)) (h1 : Sh 50 d) (h2 : ∀ e ∈ ds, Sh 50 e) (h : b = true ↔ d ∉ ds) : Ed K (tOp (rNotInD K) ta tb) σ H (.bool b) :=
  ed_op ha hb fun a c H1 Q d1 d2 q => ⟨d, ds, d1, d2, (h1.mono (by decide)).shaped, ((sh_lst h2).mono (by decide)).shaped, by
    have : (!(ds.any fun z => PyData.eqv z d)) = b := Bool.eq_iff_iff.mpr (by
      rw [h, Bool.not_eq_true', List.any_eq_false]
      constructor
      · intro hz hm
        exact hz d hm ((eqv_iff h1.1 h1.1).mpr rfl)
      · intro hm z hz he
        exact hm (by rw [← (eqv_iff (h2 z hz).1 h1.1).mp he]; exact hz))
    rw [this]; exact q _ H1 (Ex.refl H1) (.bl _)⟩
end
end Sw
/-! rules that name the head's fragment as it is (for the blocks of comprehensions) -/
namespace Sw
open PySem PySem.Spec PyProof.Rows L2 Evl
section
variable {X : Cx} {K : PySem.W.Frag} {pos : Pos} {tg : Expr}
theorem ix_seqK (h : X.K = K) : IxR X (rIx K) := by subst h; exact ix_seq
theorem pg_tupK {es : List Expr} {k : Nat} {t : TGs} {n : Nat} (hK : X.K = K) (hc : X.calm = true) (h : PGs X es t)
    (hn : (assignEach es X.env).length = n := by rfl) (hst : (assignEach es X.env).findIdx? (·.1) = none := by rfl) : PG X (.Tuple es k pos) (gTup K n t) := by subst hK; exact pg_tup hc h hn hst
theorem op_eqDK (h : X.K = K) (hu : X.A.units + 64 < cLine) : OpR X (compareOp .Eq) (rEqD K) := by subst h; exact op_eqD hu
theorem op_neDK (h : X.K = K) (hu : X.A.units + 64 < cLine) : OpR X (compareOp .NotEq) (rNeD K) := by subst h; exact op_neD hu
theorem op_inDK (h : X.K = K) (hu : X.A.units + 65 < cLine) : OpR X (compareOp .In) (rInD K) := by subst h; exact op_inD hu
theorem op_notInDK (h : X.K = K) (hu : X.A.units + 65 < cLine) : OpR X (compareOp .NotIn) (rNotInD K) := by subst h; exact op_notInD hu
theorem op_in_seqK (h : X.K = K) : OpR X (compareOp .In) (rIn K false) := by subst h; exact op_in_seq
theorem op_notIn_seqK (h : X.K = K) : OpR X (compareOp .NotIn) (rIn K true) := by subst h; exact op_notIn_seq
theorem call_lenK (h : X.K = K) : CallR X (.builtin "len") (fun xs H Q => ∃ x n, xs = [x] ∧ LenV K x H n ∧ Q (.int n) H) := by subst h; exact call_len
theorem cr_sumK (h : X.K = K) (hc : X.calm = true) : CallR X (.builtin "sum") (rSum K) := by subst h; exact cr_sum hc
theorem cr_allK (h : X.K = K) (hc : X.calm = true) : CallR X (.builtin "all") (rAll K) := by subst h; exact cr_all hc
theorem cr_anyK (h : X.K = K) (hc : X.calm = true) : CallR X (.builtin "any") (rAny K) := by subst h; exact cr_any hc
theorem call_tuple_ofK (h : X.K = K) : CallR X (.type "tuple") (fun xs H Q => ∃ p ys, xs = [.ref p] ∧ ((SqL K H p ys ∧ ∀ l, H l = none → Q (.ref l) (upd H l (.tup ys))) ∨ (SqT K H p ys ∧ Q (.ref p) H))) := by subst h; exact call_tuple_of
theorem call_list_ofK (h : X.K = K) : CallR X (.type "list") (fun xs H Q => ∃ p ys, xs = [.ref p] ∧ (SqL K H p ys ∨ SqT K H p ys) ∧ ∀ l, H l = none → Q (.ref l) (upd H l (.lst ys))) := by subst h; exact call_list_of
theorem sl_listK (h : X.K = K) : SlR X (rSlL K) := by subst h; exact sl_list
theorem sl_tupAK (h : X.K = K) : SlR X (rSlA K) := by subst h; exact sl_tupA
theorem pi_listK {l : Expr} {tl : TE} (h : X.K = K) (hl : PE X l tl) : PI X tg l (iList K tl) := by subst h; exact pi_list hl
theorem pi_tupK {l : Expr} {tl : TE} (h : X.K = K) (hl : PE X l tl) : PI X tg l (iTup K tl) := by subst h; exact pi_tup hl
theorem pe_joinK {o e : Expr} {to te : TE} {apos pos : Pos} (hK : X.K = K) (ho : PE X o to) (he : PE X e te) (hs : starEach [e] X.env = [(false, eval e X.env)] := by rfl) (hbase : attributeBase o "join" X.env (eval o X.env) = eval o X.env := by rfl) (hline : (apos.endLine == pos.line) = true := by rfl) :
    PE X (.Call (.Attribute o "join" apos) [e] [] pos) (tM1 (fun x xs H Q => ∃ a p, ∃ ys : List Str, x = .str a ∧ xs = [.ref p] ∧ (SqL K H p (ys.map V.str) ∨ SqT K H p (ys.map V.str)) ∧
      (ys.map (·.length)).sum + ys.length * a.length ≤ 16777216 ∧ Q (.str (Txt.join a ys)) H) to te) := by subst hK; exact pe_join ho he hs hbase hline
theorem nil_ed {D : Ends} {σ : L2.St} {H : Hp} (h : D.nx σ H) : tNext D σ H := h
end
end Sw
set_option maxHeartbeats 200000
/-! enumerate over a tuple -/
namespace PySem
open Sem (wp)
set_option maxHeartbeats 1000000 in
theorem sw_meets_enum {v : Value} {o : Obj} {H : Heap → Prop} (B : Begins v o H) :
    Meets (Builtin.«enumerate.__new__» ⟨[.type "enumerate", v], []⟩) (fun _ R s => H s.heap ∧
      R (.ok (.ret (.ref (s.heap.push o).objs.size))) { s with heap := (s.heap.push o).push { cls := .type "enumerate", data := .fields #[.none, .bool false, .ref s.heap.objs.size, rawInt 0, .none, .none] } }) :=
  .of_wp fun prog w A R s h => by
    obtain ⟨hp, g, d, tk, os⟩ := s; obtain ⟨h1, h⟩ := h
    have hsub := sub_enumerate
    have q1 : ∀ {A' : Around} {E : Value → Shared → Prop} {Q : Value → Shared → Prop}, Q (.ref hp.objs.size) ⟨hp.push o, g, d, tk, os⟩ → wpAny (model prog w) A' (pyIter v) Q E ⟨hp, g, d, tk, os⟩ :=
      fun q => B.iter prog w _ _ ⟨hp, g, d, tk, os⟩ _ h1 q
    wp_walk using q1
    refine wpAny_stack_any fun st => wpAny_pure ?_
    split
    · rename_i c _ _ _ _ _
      cases (c == Value.type "enumerate")
      · wp_walk using q1
        exact ⟨_, rfl, h⟩
      · wp_walk using q1
        exact ⟨_, rfl, h⟩
    · wp_walk using q1
      exact ⟨_, rfl, h⟩
theorem sw_enum_begins {prog : Program} {w : World} {A : Around} {E : Value → Shared → Prop} {s : Shared} {v : Value} {o : Obj} {H : Heap → Prop} {Q : Value → Shared → Prop} (B : Begins v o H) (h1 : H s.heap)
    (h : ∀ h', IsEnum h' (s.heap.objs.size + 1) s.heap.objs.size 0 .none → h'.get? s.heap.objs.size = some o → h'.objs.size = s.heap.objs.size + 2 →
      (∀ b o, s.heap.get? b = some o → h'.get? b = some o) → Q (.ref (s.heap.objs.size + 1)) { s with heap := h' }) :
    wpAny (model prog w) A (call (.type "enumerate") [v]) Q E s := by
  refine callType_new F.called_enumerate (by decide) (F.typeCall_enumerate_1 _) (F.newCall_enumerate_1 _) (fun obj => F.args_object_init_2 obj _) F.entry_enumerate_new
    (sw_meets_enum B) ⟨h1, ?_⟩
  have hz : (s.heap.push o).objs.size = s.heap.objs.size + 1 := Heap.size_push ..
  show _ ∧ _
  rw [hz]
  have he : IsEnum ((s.heap.push o).push { cls := .type "enumerate", data := .fields #[.none, .bool false, .ref s.heap.objs.size, rawInt 0, .none, .none] }) (s.heap.objs.size + 1) s.heap.objs.size 0 .none := by
    have := Heap.get?_push_size (s.heap.push o) (o := { cls := .type "enumerate", data := .fields #[.none, .bool false, .ref s.heap.objs.size, rawInt 0, .none, .none] }) rfl
    rw [hz] at this; exact this
  refine ⟨⟨_, he, rfl⟩, h _ he (Heap.get?_push_of_some _ (Heap.get?_push_size _ B.free)) (by rw [Heap.size_push, hz]) fun b o x => Heap.get?_push_of_some _ (Heap.get?_push_of_some _ x)⟩
end PySem
namespace Sw
open PySem PySem.Spec PyProof.Rows L2 Evl
def IteT (K : PySem.W.Frag) (a : Addr) : It :=
  ⟨fun i H => ∃ (xs : List V) (x : V), SqT K H a xs ∧ xs[i]? = some x, fun i H v H' => ∃ T x, v = .ref T ∧ H T = none ∧ H' = upd H T (.tup [.int (i : Nat), x]) ∧ ∀ xs, SqT K H a xs → xs[i]? = some x, fun i H => ∃ xs : List V, SqT K H a xs ∧ xs.length ≤ i⟩
theorem turn_enumT {P : Program} {w : World} {K : PySem.W.Frag} {elts : List Expr} {kk : Nat} {tpos : Pos} (a e it : Addr) :
    Turn P w K (.Tuple elts kk tpos) (IteT K a) [e, it] e (fun i h => (∃ old, IsEnum h e it ((i : Nat) : Int) old) ∧ h.IsTupleIter it a i ∧ e ≠ it) where
  mem := by simp
  obj := fun i h st b hb => by
    obtain ⟨⟨old, he⟩, ⟨o, ho, hc, hd⟩, _⟩ := st
    have e' : b = e ∨ b = it := by simpa using hb
    rcases e' with z | z
    · rw [z]; exact ⟨_, he, fun v q => nomatch q⟩
    · rw [z]; exact ⟨o, ho, fun v q => by rw [hd] at q; cases q⟩
  keep := fun i h h' st k => let ⟨⟨old, he⟩, hi, hne⟩ := st; ⟨⟨old, k e (by simp) _ he⟩, hi.at fun o q => k it (by simp) o q, hne⟩
  item := by
    intro X hP hw hK hc i pins s σ H E I hf st hg
    subst hP hw hK
    obtain ⟨⟨old, he⟩, hit, hne⟩ := st
    obtain ⟨xs, x, hq, hx⟩ := hg
    obtain ⟨its, rv, p, hz⟩ := I.tuple hq
    obtain ⟨u, hu, ru⟩ := rv.get hx
    have hel : e < s.heap.objs.size := Heap.lt_size he
    have hil : it < s.heap.objs.size := by obtain ⟨_, q, _⟩ := hit; exact Heap.lt_size q
    have p2 : s.heap.IsTuple a its.toArray := p
    have hia : a ≠ it := fun z => by
      subst z
      obtain ⟨o1, h1, c1, _⟩ := p2
      obtain ⟨o2, h2, c2, _⟩ := hit
      rw [h1] at h2; cases h2
      rw [c1] at c2; exact absurd c2 (by decide)
    have hea : e ≠ a := fun z => by
      subst z
      obtain ⟨o1, h1, c1, _⟩ := p2
      have h2 : s.heap.get? e = some _ := he
      rw [h1] at h2; cases h2
      exact absurd c1 (by show ¬ (Value.type _ = Value.type _); decide)
    have hlt : i < its.toArray.size := by
      have := (List.getElem?_eq_some_iff.mp hu).1
      simpa using this
    refine wpAny_pyNext_enum_itemD (Draws.of_in1 (Draws.tuple (show X.A.in1.in1.handled = none from I.ok.hd hc) it a hia its.toArray)) he ⟨hit, p2⟩ hlt hne (by simp [hne, hea]) fun y h' tk hPx ho hit' hT hsz hk => ?_
    have ey : y = u := by
      have : its[i]? = some y := by simpa using hPx
      rw [hu] at this; exact (Option.some.inj this).symm
    subst ey
    refine ⟨_, rfl, wpAny_letOwnedTupleGo_enum (s := { s with heap := h', toks := tk + 1 }) ho fun h'' he' sb => ?_⟩
    have hT2 : h''.get? s.heap.objs.size = some { cls := .type "tuple", data := .seq #[.int i tk, y] } := (sb.2 _ (Nat.ne_of_gt hel)).trans hT
    have new : ObjOk X.prog X.w (upd H s.heap.objs.size (.tup [.int (i : Nat), x])) h'' s.heap.objs.size (.tup [.int (i : Nat), x]) :=
      ⟨by show 2 ≤ sizeLine; decide, [.int i tk, y], .cons ⟨_, rfl⟩ (.cons ru .nil), ⟨_, hT2, rfl, _, rfl⟩⟩
    have I1 : Inv X pins σ (upd H s.heap.objs.size (.tup [.int (i : Nat), x])) { s with heap := h'', toks := tk + 1 } :=
      I.turnedNew (ch := [e, it]) (fun b ob hb q => (sb.2 b (fun z => hb (by simp [z]))).trans (hk b ob (fun z => hb (by simp [z])) (fun z => hb (by simp [z])) q)) hf (Nat.le_refl _) new
    refine ⟨.ref s.heap.objs.size, _, I1, rfl, ⟨_, x, rfl, I.hok.fresh (Nat.le_refl _), rfl, fun ys hy => by rw [I.tuple_inj hy hq]; exact hx⟩, ⟨⟨y, ?_⟩, hit'.1.at fun o q => (sb.2 it (Ne.symm hne)).trans q, hne⟩, fun b hb => ?_⟩
    · have e1 : ((i + 1 : Nat) : Int) = (i : Int) + 1 := by omega
      rw [e1]; exact he'
    · have hb' : b < s.heap.objs.size := by
        have e' : b = e ∨ b = it := by simpa using hb
        rcases e' with z | z
        · rw [z]; exact hel
        · rw [z]; exact hil
      rw [upd_ne (Nat.ne_of_lt hb')]
      exact (hf b hb).1
  done := by
    intro X hP hw hK hc i pins s σ H E I hf st hg
    subst hP hw hK
    obtain ⟨⟨old, he⟩, hit, hne⟩ := st
    obtain ⟨xs, hq, hx⟩ := hg
    obtain ⟨its, rv, p, hz⟩ := I.tuple hq
    have p2 : s.heap.IsTuple a its.toArray := p
    have hia : a ≠ it := fun z => by
      subst z
      obtain ⟨o1, h1, c1, _⟩ := p2
      obtain ⟨o2, h2, c2, _⟩ := hit
      rw [h1] at h2; cases h2
      rw [c1] at c2; exact absurd c2 (by decide)
    obtain ⟨f0, f1, f2, f3, f4, f5⟩ := hf it (by simp)
    have hl := rv.length
    exact wpAny_pyNext_enum_endD (A := X.A) (P := fun _ _ => True) (n := i) (fp := [it, a]) (St := fun j h => j = i ∧ h.IsTupleIter it a i ∧ h.IsTuple a its.toArray)
      { live := fun j h st => let ⟨o, ho, _⟩ := st.2.1; ⟨o, ho⟩
        frame := fun j h h' st hk => ⟨st.1, st.2.1.at fun o q => hk it (by simp) o q, st.2.2.at fun o q => hk a (by simp) o q⟩
        item := fun j s Q E hj st hQ => absurd st.1 (Nat.ne_of_lt hj)
        done := fun s Q E st hE => wpAny_nextOf_tuple_end (show X.A.in1.handled = none from I.ok.hd hc) st.2.1 st.2.2 (by simp; omega) hE } he ⟨rfl, hit, p2⟩ fun h' eb => ⟨rfl, I.turned (t' := s.toks) (fun b o hb q => eb b o hb q) f0 f1 f3 f4 f5⟩
  self := fun A i s Q E st h => let ⟨⟨_, he⟩, _⟩ := st; wpAny_pyIter_enum he h
def iEnumT (K : PySem.W.Frag) (ta : TA) : TI := fun σ H R => ta σ H fun vs H1 => ∃ a xs, vs = [.ref a] ∧ SqT K H1 a xs ∧ R (IteT K a) H1
theorem pi_enumT {X : Cx} {K : PySem.W.Frag} {e : Expr} {ta : TA} {p pos tpos : Pos} {elts : List Expr} {kk : Nat} (hK : X.K = K) (hg : Gl X "enumerate") (hm : X.mg "enumerate" = none) (ha : PA X [e] ta) (hs : starEach [e] X.env = [(false, eval e X.env)] := by rfl) :
    PI X (.Tuple elts kk tpos) (.Call (.Name "enumerate" p) [e] [] pos) (iEnumT K ta) := by
  subst hK
  refine ⟨fun pins s σ H R I h => ?_⟩
  refine Call_ (ld_blt I hg hm boot_enumerate (PyProof.Rows.callWith_type1 (thn (ha.run pos pins s σ H _ I h) fun us s1 ⟨vs, H1, I1, r1, q1⟩ => ?_) hs rfl))
  obtain ⟨a, xs, ex, hq, q⟩ := q1
  subst ex
  cases r1 with
  | cons r rr =>
    cases rr
    cases r
    obtain ⟨its, rv, p', hz⟩ := I1.tuple hq
    have p2 : s1.heap.IsTuple a its.toArray := p'
    refine sw_enum_begins (begins_tuple a its.toArray) p2 fun h' he hit hsz hk => wpAny_pyIter_enum he ?_
    have I2 : Inv X pins σ H1 { s1 with heap := h' } := I1.kept (t' := s1.toks) hk
    refine ⟨s1.heap.objs.size + 1, [s1.heap.objs.size + 1, s1.heap.objs.size], _, _, H1, rfl, I2, turn_enumT a (s1.heap.objs.size + 1) s1.heap.objs.size, ⟨⟨.none, he⟩, ⟨_, hit, rfl, rfl⟩, Nat.succ_ne_self _⟩, fun b hb => ?_, q⟩
    have e' : b = s1.heap.objs.size + 1 ∨ b = s1.heap.objs.size := by simpa using hb
    have hle : s1.heap.objs.size ≤ b := by
      rcases e' with z | z
      · rw [z]; exact Nat.le_add_right _ _
      · rw [z]; exact Nat.le_refl _
    exact I1.fpOk hle (I1.hok.fresh hle)
section
variable {K : PySem.W.Frag} {σ : L2.St} {H H' : Hp} {ts : TA} {ds : List PyData} {D : Ends}
def numbered (ds : List PyData) : List PyData := ds.mapIdx fun i d => .tuple [.int (i : Int), d]
theorem edi_enumT (he : EdA K ts σ H [.tuple ds]) : EdI K (iEnumT K ts) σ H (numbered ds) := fun H1 e R k => he H1 e _ fun zs H2 e2 d2 => by
  obtain ⟨x, rfl, d3⟩ := dps_one d2
  obtain ⟨a, vs, rfl, s1, a1⟩ := dp_tup d3
  refine ⟨a, vs, rfl, s1, k _ H2 e2 fun H' e' => ?_⟩
  have s2 := ex_t e' s1
  have a2 := dps_mono e' a1
  have hl : (numbered ds).length = ds.length := List.length_mapIdx
  rw [hl]
  refine ⟨fun i hi => ?_, ⟨vs, s2, by rw [dps_len a2]; exact Nat.le_refl _⟩, fun i d y H'' hd hy => ?_⟩
  · obtain ⟨v, v1, _⟩ := dps_get a2 (List.getElem?_eq_getElem hi)
    exact ⟨vs, v, s2, v1⟩
  · obtain ⟨T, x, rfl, hT, rfl, hy⟩ := hy
    unfold numbered at hd
    rw [List.getElem?_mapIdx] at hd
    cases q : ds[i]? with
    | none => rw [q] at hd; cases hd
    | some d' =>
      rw [q] at hd
      cases hd
      obtain ⟨v, v1, v2⟩ := dps_get a2 q
      have ey := hy vs s2
      rw [v1] at ey
      cases ey
      exact ⟨Ex.new hT, .tup (st_of upd_same) (.cons (.int _) (.cons (dp_mono (Ex.new hT) v2) .nil))⟩
theorem for_enT {i j : Nat} {tb : TS} (he : EdA K ts σ H [.tuple ds]) (k : ∀ x H1, Ex H H1 → Dp K H1 x (.tuple ds) → ∃ Pv : Nat → L2.St → Hp → Prop, Pv 0 σ H1 ∧ (∀ n σ' H', n ≤ ds.length → Pv n σ' H' → Dp K H' x (.tuple ds)) ∧
    (∀ (n : Nat) d v σ' H0 H', ds[n]? = some d → Ex H0 H' → Dp K H' v d → Pv n σ' H0 → tb { D with nx := Pv (n + 1), ct := Pv (n + 1), bk := D.nx } ((σ'.set i (some (.int (n : Int)))).set j (some v)) H') ∧ (∀ σ' H', Pv ds.length σ' H' → D.nx σ' H')) :
    tFor (iEnumT K ts) (gTup K 2 (gCons (gName i) (gCons (gName j) gNil))) tb D σ H := by
  refine he.run fun zs H1 e1 d1 => ?_
  obtain ⟨x, rfl, d3⟩ := dps_one d1
  obtain ⟨Pv, h0, hst, hs, hd⟩ := k x H1 e1 d3
  obtain ⟨a, vs, rfl, s1, a1⟩ := dp_tup d3
  refine ⟨a, vs, rfl, s1, fun n m σ' H' => m = ds.length - n ∧ n ≤ ds.length ∧ Pv n σ' H', ⟨ds.length, by simp, Nat.zero_le _, h0⟩, ?_⟩
  rintro n m σ' H' ⟨rfl, hi, hp⟩
  obtain ⟨a', us, ea, s2, a2⟩ := dp_tup (hst n σ' H' hi hp)
  cases ea
  by_cases hlt : n < ds.length
  · obtain ⟨v, v1, v2⟩ := dps_get a2 (List.getElem?_eq_getElem hlt)
    refine .inr ⟨⟨us, v, s2, v1⟩, Pv (n + 1), fun σ2 H2 q => ⟨ds.length - (n + 1), by omega, rfl, hlt, q⟩, fun y H2 hy => ?_⟩
    obtain ⟨T, u, rfl, hT, rfl, hy⟩ := hy
    have ey := hy us s2
    rw [v1] at ey
    cases ey
    exact tg_two (st_of upd_same) _ (hs n _ v σ' H' _ (List.getElem?_eq_getElem hlt) (Ex.new hT) (dp_mono (Ex.new hT) v2) hp)
  · have : n = ds.length := by omega
    subst this
    exact .inl ⟨⟨us, s2, by rw [dps_len a2]; exact Nat.le_refl _⟩, hd σ' H' hp⟩
end
end Sw
/-! the set of a list of whole numbers -/
namespace SwSet
open PySem PySem.Spec PyProof.Rows L2
open Sem (wp)
/-- a set just made -/
abbrev bare (w : World) : Obj := { cls := .type "set", dict := none, data := .set #[] 0 (.fresh 0 0 (!w.params.followText "set-order")) }
abbrev with1 (w : World) (h : Heap) : Heap := h.push (bare w)
section
variable {P : Program} {w : World} {A : Around} {E : Value → Shared → Prop} {s : Shared}
/-- what the filling leaves -/
def Filled (w : World) (s : Shared) (ns : List Int) (r : Value) (s₂ : Shared) : Prop :=
  r = .none ∧ ∃ h' tk c, s₂ = { s with heap := h', toks := tk } ∧ SetR w h' s.heap.objs.size (fun j => decide (j ∈ ns)) c ∧ c ≤ ns.length ∧ ∀ b o, s.heap.get? b = some o → h'.get? b = some o
set_option maxHeartbeats 3200000 in
theorem of_list {l : Addr} {items : Array Value} (ns : List Int) {Q : Value → Shared → Prop} (hh : A.handled = none) (hl : s.heap.IsList l items) (hit : IntsAre items.toList ns) (hb : ns.length + 1 < scanBound)
    (h : ∀ r s', Filled w s ns r s' → Q (.ref s.heap.objs.size) s') : wpAny (model P w) A (call (.type "set") [.ref l]) Q E s := by
  have sz : items.size = ns.length := by have q := IntsAre.length hit; rwa [Array.length_toList] at q
  obtain ⟨_, _, hm⟩ := F.called_set.mro
  have a1 := F.called_set.made
  have a2 := F.called_set.sub
  refine wpAny_call (codeAny_of_tree (show wpAny _ _ (callAny (.type "set") _) _ _ _ from wpAny_pure ⟨Code.quiet_builtin _ (by decide +kernel), codeAny_builtin F.entry_type_call ?_⟩))
  rw [Around.under_plain (weight_type_call_type "set" [.ref l] []) rfl]
  have a3 := F.called_set.notType
  have a4 := F.called_set.canCreate
  have a5 := F.typeCall_set_1 (.ref l)
  repeat (any_goals (first | assumption | wp_step))
  refine codeAny_mono (code_set_led1 (.ref l) (E := E) (Q₁ := fun v s1 => v = .ref s.heap.objs.size ∧ s1 = { s with heap := with1 w s.heap }) ⟨rfl, rfl⟩) fun r s1 hr => ?_
  cases r with
  | error e => exact hr
  | ok fl => cases fl with
    | ret v =>
      obtain ⟨e1, e2⟩ := hr
      subst e1 e2
      have hS : (with1 w s.heap).get? s.heap.objs.size = some (bare w) := Heap.get?_push_size _ rfl
      have hT : Shared.TypeIs { s with heap := with1 w s.heap } (.ref s.heap.objs.size) "set" := ⟨_, hS, rfl⟩
      have b1 := F.called_set.init.lookup
      have b2 := F.called_set.init.bind (.ref s.heap.objs.size)
      repeat (any_goals (first | assumption | wp_step))
      refine codeAny_mono (codeAny_call_builtin (R := wants (Filled w s ns) E) F.called_set.init.plain F.entry_set_init (check_set_init_1 hT ?_)) fun r2 s2 hr2 => ?_
      · obtain ⟨⟨_, dc, _, sls⟩, hol, hcl, nl, hdl⟩ := hl
        simp only at hcl hdl
        subst hcl hdl
        have hol' : (with1 w s.heap).get? l = some { cls := .type "list", dict := dc, data := .seq items nl, slots := sls } := Heap.get?_push_of_some _ hol
        have c1 := F.sub_list_set
        have c2 := F.sub_list_frozenset
        have c3 : (Value.type "list" == Value.type "dict") = false := by decide
        have hl1 : (with1 w s.heap).IsList l items := ⟨_, hol', rfl, nl, rfl⟩
        unfold Builtin.«set.__init__» noKeywords Builtin.Frozenset.updateFrom
        generalize hp : pyIter = pyI
        wp_walk
        subst hp
        refine wpAny_pyIter_list hl1 (wpAny_bind (wpAny_runValue ?_))
        have lt : l < s.heap.objs.size := Heap.lt_size hol
        have szw : (with1 w s.heap).objs.size = s.heap.objs.size + 1 := Heap.size_push ..
        have ne1 : l ≠ (with1 w s.heap).objs.size := by rw [szw]; exact Nat.ne_of_lt (Nat.lt_succ_of_lt lt)
        have nf : s.heap.objs.size ∉ [(with1 w s.heap).objs.size, l] := by
          rw [szw]
          simp only [List.mem_cons, List.not_mem_nil, or_false, not_or]
          exact ⟨Nat.ne_of_lt (Nat.lt_succ_self _), Nat.ne_of_gt lt⟩
        refine set_update_ints ((Walks.list (show A.in1.in1.in1.handled = none by simp [hh]) _ l ne1 items).toS) s.heap.objs.size nf ns sz hb (fun i v hv => ?_) (items.size - 0) 0 _ (by omega) (Nat.zero_le _)
          ⟨⟨_, Heap.get?_push_size _ rfl, rfl, rfl⟩, hl1.push _⟩ ⟨0, Nat.le_refl 0, setR_new_at (Heap.get?_push_of_some _ hS)⟩ fun s' c' hmv hc' hS' => ?_
        · have hi : i < ns.length := by rw [← sz]; exact (Array.getElem?_eq_some_iff.mp hv).1
          obtain ⟨t, e⟩ := PyProof.Rows.IntsAre.int_at hit i v (by rw [Array.getElem?_toList]; exact hv)
          exact ⟨ns[i], t, List.getElem?_eq_getElem hi, by rw [e, List.getD_eq_getElem?_getD, List.getElem?_eq_getElem hi]; rfl⟩
        · obtain ⟨hp2, g2, d2, tk2, os2⟩ := s'
          obtain rfl : g2 = s.gens := hmv.gens
          obtain rfl : d2 = s.drawn := hmv.drawn
          obtain rfl : os2 = s.os := hmv.os
          rw [sz] at hc'
          refine wpAny_pure (show wpAny _ _ (ret Value.none) _ _ _ from wpAny_pure ⟨rfl, hp2, tk2, c', rfl, hS', hc', fun b o e => ?_⟩)
          have q0 : b < s.heap.objs.size := Heap.lt_size e
          refine hmv.heap b o ?_ (Heap.get?_push_of_some _ (Heap.get?_push_of_some _ e))
          rw [szw]
          simp only [List.mem_cons, List.not_mem_nil, or_false, not_or]
          exact ⟨Nat.ne_of_lt q0, Nat.ne_of_lt (Nat.lt_succ_of_lt q0)⟩
      · cases r2 with
        | error e => exact hr2
        | ok f2 => cases f2 with
          | ret r =>
            have hr3 := hr2
            obtain ⟨e1, h', tk, c', e2, hS', hc', hk'⟩ := hr2
            subst e1 e2
            repeat (any_goals (first | assumption | wp_step))
            exact h _ _ hr3
          | _ => exact hr2.elim
    | _ => exact hr.elim
end
end SwSet
namespace Sw
open PySem PySem.Spec PyProof.Rows L2 Evl
theorem ints_vals : ∀ {ns : List Int} {us : List Value}, Vals (ns.map V.int) us → IntsAre us ns
  | [], _, .nil => .nil
  | n :: ns, _, .cons ⟨k, hk⟩ t => by subst hk; exact .cons n k (ints_vals t)
/-- set(xs) of a list of whole numbers -/
def rSetL (K : PySem.W.Frag) (w : World) : List V → Hp → VK → Prop := fun xs H Q => ∃ (p : Addr) (ns : List Int), xs = [.ref p] ∧ SqL K H p (ns.map V.int) ∧ ns.length ≤ 1000 ∧
  ∀ q c, H q = none → c ≤ ns.length → Q (.ref q) (upd H q (SetO w q (fun j => decide (j ∈ ns)) c))
theorem cr_setL {X : Cx} (hc : X.calm = true) : CallR X (.type "set") (rSetL X.K X.w) := by
  intro pins s σ H xs us Q I r h
  obtain ⟨p, ns, rfl, hq, hl, q⟩ := h
  rw [Vals.ref1 r]
  obtain ⟨its, rv, pl, hz⟩ := I.list hq
  refine SwSet.of_list ns (I.ok.hd hc) pl.isList (by simpa using ints_vals rv) (by unfold scanBound; omega) fun r s' ⟨_, h', tk, c, e, hS, hcn, hk⟩ => ?_
  subst e
  exact ⟨.ref _, upd H s.heap.objs.size (SetO X.w s.heap.objs.size (fun j => decide (j ∈ ns)) c), I.laid (t' := tk) hk (Nat.le_refl _) (setO_new hS), rfl, q _ c (I.hok.fresh (Nat.le_refl _)) hcn⟩
end Sw
set_option maxHeartbeats 4000000
namespace Sw
open PySem PySem.Spec PyProof.Rows L2 Evl SwT
def leastL (qs : List Rat) : Rat := qs.foldl (fun f x => if x < f then x else f) (qs.headD 0)
theorem leastL_two (a b : Rat) : leastL [a, b] = leastR a b := by
  unfold leastL leastR
  have h : ¬ (a < a) := by grind
  simp [h]
def leastGo (f : Rat) (qs : List Rat) : Rat := qs.foldl (fun f x => if x < f then x else f) f
theorem leastGo_spec : ∀ (qs : List Rat) (f : Rat), (leastGo f qs = f ∨ leastGo f qs ∈ qs) ∧ leastGo f qs ≤ f ∧ ∀ x ∈ qs, leastGo f qs ≤ x
  | [], f => ⟨.inl rfl, by show f ≤ f; grind, fun x hx => by cases hx⟩
  | a :: qs, f => by
    obtain ⟨h1, h2, h3⟩ := leastGo_spec qs (if a < f then a else f)
    have e : leastGo f (a :: qs) = leastGo (if a < f then a else f) qs := rfl
    rw [e]
    refine ⟨?_, ?_, fun x hx => ?_⟩
    · rcases h1 with h | h
      · rw [h]
        split
        · exact .inr List.mem_cons_self
        · exact .inl rfl
      · exact .inr (List.mem_cons_of_mem _ h)
    · split at h2 <;> grind
    · rcases List.mem_cons.mp hx with z | z
      · rw [z]; split at h2 <;> grind
      · exact h3 x z
theorem leastL_mem {qs : List Rat} (h : qs ≠ []) : leastL qs ∈ qs := by
  cases qs with
  | nil => exact absurd rfl h
  | cons a r =>
    have := (leastGo_spec (a :: r) a).1
    rcases this with z | z
    · show leastGo a (a :: r) ∈ _; rw [z]; exact List.mem_cons_self
    · exact z
theorem take_snoc {α : Type} {l : List α} {i : Nat} {x : α} (h : l[i]? = some x) : l.take (i + 1) = l.take i ++ [x] := by
  rw [List.take_add_one, h]; rfl
theorem get_map {α : Type} {f : α → PyData} {l : List α} {i : Nat} {d : PyData} (h : (l.map f)[i]? = some d) : ∃ x, l[i]? = some x ∧ d = f x := by
  rw [List.getElem?_map] at h
  cases e : l[i]? with
  | none => rw [e] at h; cases h
  | some x => rw [e] at h; exact ⟨x, rfl, (Option.some.inj h).symm⟩
section
variable {P : Program} {w : World} {K : PySem.W.Frag} {mg : Str → Option Value} {base : Heap}
theorem sc_least_of : FnScope ["fractions", "found", "one"] ["fractions"] (defScope s_least_of) := ⟨rfl, rfl, rfl, by decide +kernel, rfl, by decide +kernel, by decide +kernel⟩
abbrev Cf_least_of (P w K mg base) := Cal P w K mg base "least_of" 2 ["fractions"] (spF K (fun qs : List Rat => [.list (qs.map fr)]) (fun qs => qs ≠ [] ∧ ∀ q ∈ qs, Fine FB q) fun qs => fr (leastL qs))
theorem ok_least_of (T : Tx w K mg) (C_compared : Cf_compared P w K mg base) : Cf_least_of P w K mg base := by
  refine T.cal (d := d_least_of) 7 7 rfl rfl rfl rfl rfl sc_least_of (fun _ _ _ _ _ _ us hl => match us, hl with | [_], _ => rfl) (spF_len fun _ => rfl) fun f cdv A outer s H vs Q E hr h => ⟨_, (pss_cons (ps_set (i := 1) sc_least_of.nd rfl (by first | exact Or.inl rfl | exact Or.inr rfl) (pe_ix ix_seq (pv 0) pe_int (fun _ _ => rfl)))
      (pss_cons (ps_for PassesOwn.never rfl (pi_list (pv 0)) (pg_name (i := 2) sc_least_of.nd rfl (by first | exact Or.inl rfl | exact Or.inr rfl)) (pss_one (ps_if (pt_cmpR op_lt (pe_cc C_compared (hr.mono (by decide)) (by rfl) (pa_cons (pv 2) (pa_cons (pv 1) pa_nil))) pe_int (nomark _)) (pss_one (ps_set (i := 1) sc_least_of.nd rfl (by first | exact Or.inl rfl | exact Or.inr rfl) (pv 2))) pss_nil)))
      (pss_one (ps_ret (pv 1))))), ?_⟩
  obtain ⟨qs, hd, ⟨hne, hf⟩, k⟩ := h
  obtain ⟨v, rfl, h1⟩ := dps_one hd
  obtain ⟨a, r, rfl⟩ : ∃ a r, qs = a :: r := by cases qs with | nil => exact absurd rfl hne | cons a r => exact ⟨a, r, rfl⟩
  refine seq_ed (set_ed (ed_ixL (ed_var rfl h1) ed_int (atI_map (i := 0) (x := a) rfl)) fun m H1 e1 d1 => ?_)
  refine seq_ed (for_dl (ed_var rfl (dp_mono e1 h1)) fun x H2 e2 dx => ⟨fun i σ H' => ∃ (g : V) (o : Option V), σ = [some v, some g, o] ∧ Ex H2 H' ∧ Dp K H' g (fr (leastGo a ((a :: r).take i))), ⟨m, none, rfl, Ex.refl _, dp_mono e2 d1⟩, fun i σ' H' _ ⟨g, o, _, e, _⟩ => dp_mono e dx, ?_, ?_⟩)
  · rintro i d u σ' H' hi du ⟨g, o, rfl, e, dg⟩
    obtain ⟨q, hq, rfl⟩ := get_map hi
    have hqm : q ∈ a :: r := List.mem_of_getElem? hq
    have hgf : Fine FB (leastGo a ((a :: r).take i)) := by
      rcases (leastGo_spec ((a :: r).take i) a).1 with z | z
      · rw [z]; exact hf a List.mem_cons_self
      · exact hf _ (List.mem_of_mem_take z)
    refine if_et (K := K) (et_test (ed_lt (ed_call (q, leastGo a ((a :: r).take i)) (eda_cons (ed_var rfl du) (eda_cons (ed_var rfl dg) eda_nil)) ⟨hf q hqm, hgf⟩) ed_int)) (fun hb H3 e3 => ?_) fun hb H3 e3 => ?_
    · refine set_ed (ed_var rfl (dp_mono e3 du)) fun u2 H4 e4 d4 => ⟨u2, _, rfl, (e.trans e3).trans e4, ?_⟩
      have : q < leastGo a ((a :: r).take i) := cmpR_neg.mp (by simpa using hb)
      rw [take_snoc hq]
      show Dp K H4 u2 (fr (List.foldl _ a _))
      rw [List.foldl_append]
      show Dp K H4 u2 (fr (if q < leastGo a ((a :: r).take i) then q else _))
      rw [if_pos this]; exact d4
    · refine ⟨g, _, rfl, e.trans e3, ?_⟩
      have : ¬ q < leastGo a ((a :: r).take i) := fun z => by
        have := cmpR_neg.mpr z
        simp only [decide_eq_false_iff_not] at hb
        exact hb this
      rw [take_snoc hq]
      show Dp K H3 g (fr (List.foldl _ a _))
      rw [List.foldl_append]
      show Dp K H3 g (fr (if q < leastGo a ((a :: r).take i) then q else leastGo a ((a :: r).take i)))
      rw [if_neg this]; exact dp_mono e3 dg
  · rintro σ' H' ⟨g, o, rfl, e, dg⟩
    rw [List.length_map, List.take_length] at dg
    exact ret_ed (ed_var rfl dg) fun u H4 e4 d4 => k u H4 (((e1.trans e2).trans e).trans e4) d4
theorem sc_total : FnScope ["fractions", "found", "one"] ["fractions"] (defScope s_total) := ⟨rfl, rfl, rfl, by decide +kernel, rfl, by decide +kernel, by decide +kernel⟩
abbrev Cf_total (P w K mg base) := Cal P w K mg base "total" 4 ["fractions"] (spF K (fun qs : List Rat => [.list (qs.map fr)]) (fun qs => ∃ B, qs.length * (B + 1) + 1 ≤ FB ∧ ∀ q ∈ qs, Fine B q) fun qs => fr (rsum qs))
theorem ok_total (T : Tx w K mg) (C_added : Cf_added P w K mg base) : Cf_total P w K mg base := by
  refine T.cal (d := d_total) 8 8 rfl rfl rfl rfl rfl sc_total (fun _ _ _ _ _ _ us hl => match us, hl with | [_], _ => rfl) (spF_len fun _ => rfl) fun f cdv A outer s H vs Q E hr h => ⟨_, (pss_cons (ps_set (i := 1) sc_total.nd rfl (by first | exact Or.inl rfl | exact Or.inr rfl) (pe_tup (pa_cons pe_int (pa_cons pe_int pa_nil))))
      (pss_cons (ps_for PassesOwn.never rfl (pi_list (pv 0)) (pg_name (i := 2) sc_total.nd rfl (by first | exact Or.inl rfl | exact Or.inr rfl)) (pss_one (ps_set (i := 1) sc_total.nd rfl (by first | exact Or.inl rfl | exact Or.inr rfl) (pe_cc C_added (hr.mono (by decide)) (by rfl) (pa_cons (pv 1) (pa_cons (pv 2) pa_nil))))))
      (pss_one (ps_ret (pv 1))))), ?_⟩
  obtain ⟨qs, hd, ⟨B, hB, hf⟩, k⟩ := h
  obtain ⟨v, rfl, h1⟩ := dps_one hd
  refine seq_ed (set_ed (K := K) (ed_tup (eda_cons ed_int (eda_cons ed_int eda_nil))) fun m H1 e1 d1 => ?_)
  refine seq_ed (for_dl (ed_var rfl (dp_mono e1 h1)) fun x H2 e2 dx => ⟨fun i σ H' => ∃ (g : V) (o : Option V), σ = [some v, some g, o] ∧ Ex H2 H' ∧ Dp K H' g (fr (rsum (qs.take i))), ⟨m, none, rfl, Ex.refl _, dp_mono e2 d1⟩, fun i σ' H' _ ⟨g, o, _, e, _⟩ => dp_mono e dx, ?_, ?_⟩)
  · rintro i d u σ' H' hi du ⟨g, o, rfl, e, dg⟩
    obtain ⟨q, hq, rfl⟩ := get_map hi
    have hqm : q ∈ qs := List.mem_of_getElem? hq
    have hlt : i < qs.length := (List.getElem?_eq_some_iff.mp hq).1
    have hb1 : (qs.take i).length * (B + 1) + 1 ≤ FB := by
      have : (qs.take i).length ≤ qs.length := by rw [List.length_take]; omega
      have := Nat.mul_le_mul_right (B + 1) this
      omega
    have hb2 : B ≤ FB := by
      have : 1 * (B + 1) ≤ qs.length * (B + 1) := Nat.mul_le_mul_right _ (by omega)
      omega
    refine set_ed (ed_call (rsum (qs.take i), q) (eda_cons (ed_var rfl dg) (eda_cons (ed_var rfl du) eda_nil)) ⟨(fine_rsum fun z hz => hf z (List.mem_of_mem_take hz)).mono hb1, (hf q hqm).mono hb2⟩) fun u2 H4 e4 d4 => ⟨u2, _, rfl, e.trans e4, ?_⟩
    rw [take_snoc hq, rsum_append]
    have e5 : rsum (qs.take i) + rsum [q] = rsum (qs.take i) + q := by rw [rsum_cons, rsum_nil]; grind
    rw [e5]; exact d4
  · rintro σ' H' ⟨g, o, rfl, e, dg⟩
    rw [List.length_map, List.take_length] at dg
    exact ret_ed (ed_var rfl dg) fun u H4 e4 d4 => k u H4 (((e1.trans e2).trans e).trans e4) d4
end
end Sw
namespace Sw
open PySem PySem.Spec PyProof.Rows L2 Evl SwT
theorem hud_of {k : Nat} {A : Around} (r : Room k A) : A.units + 65 < cLine := by have := r.un; omega
section
variable {P : Program} {w : World} {K : PySem.W.Frag} {mg : Str → Option Value} {base : Heap}
theorem Tx.nought (T : Tx w K mg) (H : Hp) : Dp K H (.ref (He.ga K "NOUGHT")) (fr 0) := by
  obtain ⟨h, X, G, c⟩ := T.ex
  have h1 := (He.ba c.more).1
  exact .tup (He.tupB_ok h1 H) (.cons (.int 0) (.cons (.int 1) .nil))
theorem Tx.zero (T : Tx w K mg) (H : Hp) : Dp K H (.ref (He.ga K "ZERO")) (fr 0) := by
  obtain ⟨h, X, G, c⟩ := T.ex
  have h1 := (He.ba (He.ba c.more).2).1
  exact .tup (He.tupB_ok h1 H) (.cons (.int 0) (.cons (.int 1) .nil))
theorem fb_le {n : Nat} (h : n ≤ 4000) : n ≤ FB := h
theorem Fine.fb {n : Nat} {q : Rat} (h : Fine n q) (hn : n ≤ 4000) : Fine FB q := h.mono hn
theorem sc_slope_between : FnScope ["one", "other"] ["one", "other"] (defScope s_slope_between) := ⟨rfl, rfl, rfl, by decide +kernel, rfl, by decide +kernel, by decide +kernel⟩
abbrev Cf_slope_between (P w K mg base) := Cal P w K mg base "slope_between" 4 ["one", "other"] (spF K (fun x : Pt × Pt => [ptD x.1, ptD x.2]) (fun x => x.1.1 < x.2.1 ∧ (Fine 1900 x.1.1 ∧ Fine 1900 x.1.2) ∧ Fine 1900 x.2.1 ∧ Fine 1900 x.2.2) fun x => fr (slopeB x.1 x.2))
theorem ok_slope_between (T : Tx w K mg) (C_lessened : Cf_lessened P w K mg base) (C_over : Cf_over P w K mg base) : Cf_slope_between P w K mg base := by
  refine T.cal (d := d_slope_between) 12 13 rfl rfl rfl rfl rfl sc_slope_between (fun _ _ _ _ _ _ us hl => match us, hl with | [_, _], _ => rfl) (spF_len fun _ => rfl) fun f cdv A outer s H vs Q E hr h => ⟨_, (pss_one (ps_ret (pe_cc C_over (hr.mono (by decide)) (by rfl) (pa_cons (pe_cc C_lessened (hr.mono (by decide)) (by rfl) (pa_cons (pe_ix ix_seq (pv 1) pe_int (fun _ _ => rfl)) (pa_cons (pe_ix ix_seq (pv 0) pe_int (fun _ _ => rfl)) pa_nil))) (pa_cons (pe_cc C_lessened (hr.mono (by decide)) (by rfl) (pa_cons (pe_ix ix_seq (pv 1) pe_int (fun _ _ => rfl)) (pa_cons (pe_ix ix_seq (pv 0) pe_int (fun _ _ => rfl)) pa_nil))) pa_nil))))), ?_⟩
  obtain ⟨⟨p, q⟩, hd, ⟨hlt, ⟨f1, f2⟩, f3, f4⟩, k⟩ := h
  obtain ⟨v, u, rfl, h1, h2⟩ := dps_two hd
  have g1 := (f4.sub f2).fb (by decide)
  have g2 := (f3.sub f1).fb (by decide)
  have hpos : 0 < q.1 - p.1 := by have : p.1 < q.1 := hlt; grind
  exact ret_ed (ed_call (q.2 - p.2, q.1 - p.1) (eda_cons (ed_call (q.2, p.2) (eda_cons (ed_ixT (ed_var rfl h2) ed_int rfl) (eda_cons (ed_ixT (ed_var rfl h1) ed_int rfl) eda_nil)) ⟨f4.fb (by decide), f2.fb (by decide)⟩)
    (eda_cons (ed_call (q.1, p.1) (eda_cons (ed_ixT (ed_var rfl h2) ed_int rfl) (eda_cons (ed_ixT (ed_var rfl h1) ed_int rfl) eda_nil)) ⟨f3.fb (by decide), f1.fb (by decide)⟩) eda_nil)) ⟨g1, g2, hpos⟩) fun v H3 e3 dv => k v H3 e3 dv
theorem sc_nothing : FnScope [] [] (defScope s_nothing) := ⟨rfl, rfl, rfl, by decide +kernel, rfl, by decide +kernel, by decide +kernel⟩
abbrev Cf_nothing (P w K mg base) := Cal P w K mg base "nothing" 1 [] (spF K (fun _ : Unit => []) (fun _ => True) fun _ => cvD zeroCv)
theorem ok_nothing (T : Tx w K mg) : Cf_nothing P w K mg base := by
  refine T.cal (d := d_nothing) 14 15 rfl rfl rfl rfl rfl sc_nothing (fun _ _ _ _ _ _ us hl => match us, hl with | [], _ => rfl) (spF_len fun _ => rfl) fun f cdv A outer s H vs Q E hr h => ⟨_, (pss_one (ps_ret (pe_tup (pa_cons (pe_tup (pa_cons (pe_tup (pa_cons (pe_glob (v := .ref (He.ga K "NOUGHT")) (by rfl) T.g_NOUGHT rfl) (pa_cons (pe_glob (v := .ref (He.ga K "NOUGHT")) (by rfl) T.g_NOUGHT rfl) pa_nil))) pa_nil)) (pa_cons (pe_glob (v := .ref (He.ga K "NOUGHT")) (by rfl) T.g_NOUGHT rfl) pa_nil))))), ?_⟩
  obtain ⟨⟨⟩, hd, _, k⟩ := h
  exact ret_ed (ed_tup (eda_cons (ed_tup (eda_cons (ed_tup (eda_cons (ed_cv (T.nought H)) (eda_cons (ed_cv (T.nought H)) eda_nil))) eda_nil)) (eda_cons (ed_cv (T.nought H)) eda_nil))) fun v H3 e3 dv => k v H3 e3 dv
/-- neighbours' levels rise -/
theorem srt_next {cs : List Pt} : ∀ {i : Nat} {p q : Pt}, Srt cs → cs[i]? = some p → cs[i + 1]? = some q → p.1 < q.1 := by
  induction cs with
  | nil => intro i p q _ h; simp at h
  | cons a r ih =>
    intro i p q hS h1 h2
    cases i with
    | zero =>
      simp only [List.getElem?_cons_zero, Option.some.injEq] at h1
      simp only [Nat.zero_add, List.getElem?_cons_succ] at h2
      subst h1
      exact hS.lt (List.mem_of_getElem? h2)
    | succ j => exact ih hS.tail (by simpa using h1) (by simpa using h2)
theorem mem_fr {q : Rat} {l : List Rat} : fr q ∉ l.map fr ↔ q ∉ l := by
  refine not_congr ⟨fun h => ?_, fun h => List.mem_map.mpr ⟨q, h, rfl⟩⟩
  obtain ⟨x, hx, e⟩ := List.mem_map.mp h
  rw [← fr_inj e]; exact hx
def F19 (cs : List Pt) : Prop := ∀ p ∈ cs, Fine 1900 p.1 ∧ Fine 1900 p.2
theorem sc_slope_behind : FnScope ["one", "at", "corners", "slope"] ["one", "at"] (defScope s_slope_behind) := ⟨rfl, rfl, rfl, by decide +kernel, rfl, by decide +kernel, by decide +kernel⟩
abbrev Cf_slope_behind (P w K mg base) := Cal P w K mg base "slope_behind" 5 ["one", "at"] (spF K (fun x : Cv × Nat => [cvD x.1, .int x.2]) (fun x => x.2 < x.1.1.length ∧ Srt x.1.1 ∧ F19 x.1.1) fun x => fr (hs (x.1.1.drop x.2) x.1.2))
theorem ok_slope_behind (T : Tx w K mg) (C_slope_between : Cf_slope_between P w K mg base) : Cf_slope_behind P w K mg base := by
  refine T.cal (d := d_slope_behind) 17 18 rfl rfl rfl rfl rfl sc_slope_behind (fun _ _ _ _ _ _ us hl => match us, hl with | [_, _], _ => rfl) (spF_len fun _ => rfl) fun f cdv A outer s H vs Q E hr h => ⟨_, (pss_cons (ps_asg (pv 0) (pg_tup rfl (pgs_cons (pg_name (i := 2) sc_slope_behind.nd rfl (by first | exact Or.inl rfl | exact Or.inr rfl)) (pgs_cons (pg_name (i := 3) sc_slope_behind.nd rfl (by first | exact Or.inl rfl | exact Or.inr rfl)) pgs_nil))))
      (pss_one (ps_ret (pe_ifExp (pt_cmpR (op_eqD hr.units) (pe_op op_add (pv 1) pe_int) (pe_callB call_len (by rfl) T.f_len (by decide +kernel) (pa_cons (pv 2) pa_nil)) (nomark _)) (pv 3) (pe_cc C_slope_between (hr.mono (by decide)) (by rfl) (pa_cons (pe_ix ix_seq (pv 2) (pv 1) (fun _ _ => rfl)) (pa_cons (pe_ix ix_seq (pv 2) (pe_op op_add (pv 1) pe_int) (fun _ _ => rfl)) pa_nil))))))), ?_⟩
  obtain ⟨⟨c, i⟩, hd, ⟨hi, hS, hF⟩, k⟩ := h
  dsimp only at hd hi hS hF k
  obtain ⟨v, u, rfl, h1, h2⟩ := dps_two hd
  obtain rfl := dp_int h2
  refine seq_ed (unp2_ed (ed_var rfl h1) fun x y H1 e1 dx dy => ?_)
  have hp := List.getElem?_eq_getElem hi
  refine ret_ed (d := fr (hs (c.1.drop i) c.2)) (ed_if (et_test (ed_eqi (ed_add (ed_var rfl (.int _)) ed_int) (ed_lenT (ed_var rfl dx)))) (fun hb => ?_) fun hb => ?_) fun v H3 e3 dv => k v H3 (e1.trans e3) dv
  · rw [List.length_map] at hb
    have hl : c.1[i + 1]? = none := List.getElem?_eq_none_iff.mpr (by have := of_decide_eq_true hb; omega)
    rcases hs_last (s := c.2) hp with ⟨q, z, _⟩ | ⟨_, z⟩
    · rw [hl] at z; cases z
    · rw [z]; exact ed_var rfl dy
  · rw [List.length_map] at hb
    have hl : i + 1 < c.1.length := by have := of_decide_eq_false hb; omega
    have hq := List.getElem?_eq_getElem hl
    rcases hs_last (s := c.2) hp with ⟨q, z, z2⟩ | ⟨z, _⟩
    · rw [z2]
      exact ed_call (c.1[i], q) (eda_cons (ed_ixT (ed_var rfl dx) (ed_var rfl (.int _)) (atI_map hp)) (eda_cons (ed_ixT (ed_var rfl dx) (ed_add (ed_var rfl (.int _)) ed_int) (atI_map (i := i + 1) z)) eda_nil)) ⟨srt_next hS hp z, hF _ (List.mem_of_getElem? hp), hF _ (List.mem_of_getElem? z)⟩
    · rw [hq] at z; cases z
theorem sc_in_order : FnScope ["fractions", "found", "one", "at", "other"] ["fractions"] (defScope s_in_order) := ⟨rfl, rfl, rfl, by decide +kernel, rfl, by decide +kernel, by decide +kernel⟩
abbrev Cf_in_order (P w K mg base) := Cal P w K mg base "in_order" 2 ["fractions"] (spF K (fun qs : List Rat => [.list (qs.map fr)]) (fun qs => qs.length ≤ 1000000 ∧ ∀ q ∈ qs, Fine FB q) fun qs => .tuple ((inOrder qs).map fr))
theorem ok_in_order (T : Tx w K mg) (C_compared : Cf_compared P w K mg base) : Cf_in_order P w K mg base := by
  refine T.cal (d := d_in_order) 15 16 rfl rfl rfl rfl rfl sc_in_order (fun _ _ _ _ _ _ us hl => match us, hl with | [_], _ => rfl) (spF_len fun _ => rfl) fun f cdv A outer s H vs Q E hr h => ⟨_, (pss_cons (ps_set (i := 1) sc_in_order.nd rfl (by first | exact Or.inl rfl | exact Or.inr rfl) (pe_lst pa_nil))
      (pss_cons (ps_for PassesOwn.never rfl (pi_list (pv 0)) (pg_name (i := 2) sc_in_order.nd rfl (by first | exact Or.inl rfl | exact Or.inr rfl)) (pss_one (ps_if (pt_cmpR (op_notInD (hud_of hr)) (pv 2) (pv 1) rfl) (pss_cons (ps_set (i := 3) sc_in_order.nd rfl (by first | exact Or.inl rfl | exact Or.inr rfl) (pe_callB call_len (by rfl) T.f_len (by decide +kernel) (pa_cons (pe_lc rfl sc_in_order.nd (pi_list (pv 1)) (blkOk_by (own := [("other", 4)]) (N := ["fractions", "found", "one", "at", "other"]) (by kernel_rfl)) (fun _ _ _ _ _ => (pg_name (i := 4) sc_in_order.nd rfl (by first | exact Or.inl rfl | exact Or.inr rfl))) (fun _ _ _ _ _ => (pts_one (pt_cmpR op_lt (pe_cc C_compared (hr.mono (by decide)) (by rfl) (pa_cons (pv 4) (pa_cons (pv 2) pa_nil))) pe_int (nomark _)))) (fun _ _ _ _ _ => (pv 4))) pa_nil)))
      (pss_one (ps_expr (pe_bm PySem.F.plainAttrs_list PySem.F.slot_list_insert PySem.F.type_list_insert mt_insert (pv 1) (pa_cons (pv 3) (pa_cons (pv 2) pa_nil)))))) pss_nil)))
      (pss_one (ps_ret (pe_callTy call_tuple_of (by rfl) T.f_tuple (by decide +kernel) (pa_cons (pv 1) pa_nil)))))), ?_⟩
  obtain ⟨qs, hd, ⟨hlen, hf⟩, k⟩ := h
  obtain ⟨v, rfl, h1⟩ := dps_one hd
  dsimp only at hd hlen hf k
  refine seq_ed (newl_ed (K := K) (edl_lst eda_nil) fun p H1 e1 hp l1 => ?_)
  refine seq_ed (for_vl rfl (dp_mono e1 h1) (fun i σ H' => ∃ (o a b : Option V), σ = [some v, some (.ref p), o, a, b] ∧ Ex H H' ∧ Lm K H' p (((qs.take i).foldl insU []).map fr)) ⟨none, none, none, rfl, e1, l1⟩ (fun i σ' H' _ ⟨_, _, _, _, e, _⟩ => dp_mono e h1) ?_ ?_)
  · rintro i d u σ' H' hi du ⟨o, a, b, rfl, e, l⟩
    obtain ⟨q, hq, rfl⟩ := get_map hi
    have hqm : q ∈ qs := List.mem_of_getElem? hq
    have e5 : ((qs.take (i + 1)).foldl insU []) = insU ((qs.take i).foldl insU []) q := by rw [take_snoc hq, List.foldl_append]; rfl
    obtain ⟨sr, hm, hl⟩ := foldl_insU (qs.take i) [] List.Pairwise.nil
    have hl2 : (qs.take i).length ≤ qs.length := by rw [List.length_take]; omega
    simp only [List.length_nil, Nat.zero_add] at hl
    have hfin : ∀ y ∈ (qs.take i).foldl insU [], Fine FB y := fun y hy => by
      rcases (hm y).mp hy with z | z
      · cases z
      · exact hf y (List.mem_of_mem_take z)
    generalize (qs.take i).foldl insU [] = fs at *
    refine if_et (b := decide (q ∉ fs)) (et_test (ed_notin (ed_var rfl du) (edt_var rfl l).toD sh_fr (sh_map (fun _ => sh_fr) _) (by rw [decide_eq_true_eq, mem_fr]))) (fun hb H3 e3 => ?_) fun hb H3 e3 => ?_
    · have hb : q ∉ fs := of_decide_eq_true hb
      refine seq_ed (set_ed (ed_lenL (lc_m fr fs (fun y => decide (y < q)) fr (edi_list (edt_var rfl (l.mono e3)).toD) (by show _ ≤ 16777216; omega) fun y hy v1 H4 e4 d4 => ?_).toD) fun n H4 e4 d4 => ?_)
      · refine tu_name rfl ((et_test (ed_lt (ed_call (y, q) (eda_cons (ed_var rfl d4) (eda_cons (ed_var rfl (dp_mono e4 (dp_mono e3 du))) eda_nil)) ⟨hfin y hy, hf q hqm⟩) ed_int)).cast ?_) fun _ => ⟨ed_var rfl d4, rfl⟩
        exact decide_eq_decide.mpr cmpR_neg
      · obtain rfl := dp_int d4
        rw [List.length_map]
        refine ins_ed (n := (fs.filter fun y => decide (y < q)).length) rfl (l.mono (e3.trans e4)) (nols_map nol_fr _) (ed_var rfl (.int _)) (ed_var rfl (dp_mono (e3.trans e4) du)) rfl (by rw [List.length_map]; show _ < 16777216; omega) (by have := List.length_filter_le (fun y => decide (y < q)) fs; omega) fun H5 b5 i5 l5 => ⟨_, _, _, rfl, b5.ex hp ((e.trans e3).trans e4), ?_⟩
        · rw [e5]
          unfold insU
          rw [if_neg hb, List.map_append, List.map_append, List.map_take, List.map_drop]
          exact l5
    · have hb : q ∈ fs := by have := of_decide_eq_false hb; simpa using this
      have : insU fs q = fs := by unfold insU; rw [if_pos hb]
      exact ⟨_, _, _, rfl, e.trans e3, by rw [e5, this]; exact l.mono e3⟩
  · rintro σ' H' ⟨o, a, b, rfl, e, l⟩
    rw [List.length_map, List.take_length] at l
    exact ret_ed (ed_tupleL (edt_var rfl l).toD) fun u H4 e4 d4 => k u H4 (e.trans e4) d4
end
end Sw
namespace Sw
open PySem PySem.Spec PyProof.Rows L2 Evl SwT
def lens (L : List Cv) : Nat := (L.map fun c => c.1.length).sum
theorem lens_take (L : List Cv) (i : Nat) : ((L.take i).flatMap fun c => c.1.map (·.1)).length ≤ lens L := by
  have e : ((L.take i).flatMap fun c => c.1.map (·.1)).length = lens (L.take i) := by
    unfold lens
    rw [List.length_flatMap]; simp
  rw [e]
  unfold lens
  have h2 := congrArg List.sum (congrArg (List.map fun c : Cv => c.1.length) (List.take_append_drop i L))
  rw [List.map_append, List.sum_append] at h2
  omega
theorem lens_mem {L : List Cv} {c : Cv} (h : c ∈ L) : c.1.length ≤ lens L := by
  unfold lens
  obtain ⟨a, b, e⟩ := List.append_of_mem h
  rw [e]; simp; omega
def lvlsIn (L : List Cv) : List Rat := 0 :: L.flatMap fun c => c.1.map (·.1)
/-- a curve of few bits, few corners -/
structure Small (c : Cv) : Prop where
  ok : Ok c
  gl : GL (MM : Rat) (evc c)
  ln : c.1.length ≤ 100000
theorem Small.fc {c : Cv} (h : Small c) : Fc c.1 c.2 := h.ok.fc h.gl
theorem Small.val {c : Cv} (h : Small c) {B : Nat} {x : Rat} (h0 : 0 ≤ x) (hx : Fine B x) : Fine (B + 201) (evc c x) := gl_val h.gl h0 hx
theorem cnt_le (cs : List Pt) (x : Rat) : cnt cs x ≤ cs.length := List.length_filter_le ..
section
variable {P : Program} {w : World} {K : PySem.W.Frag} {mg : Str → Option Value} {base : Heap}
theorem sc_levels_of : FnScope ["curves", "found", "one", "level", "pay"] ["curves"] (defScope s_levels_of) := ⟨rfl, rfl, rfl, by decide +kernel, rfl, by decide +kernel, by decide +kernel⟩
abbrev Cf_levels_of (P w K mg base) := Cal P w K mg base "levels_of" 3 ["curves"] (spF K (fun L : List Cv => [.list (L.map cvD)]) (fun L => (∀ c ∈ L, ∀ p ∈ c.1, Fine FB p.1) ∧ lens L + 1 ≤ 1000000) fun L => .tuple ((lvls L).map fr))
theorem ok_levels_of (T : Tx w K mg) (C_in_order : Cf_in_order P w K mg base) : Cf_levels_of P w K mg base := by
  refine T.cal (d := d_levels_of) 16 17 rfl rfl rfl rfl rfl sc_levels_of (fun _ _ _ _ _ _ us hl => match us, hl with | [_], _ => rfl) (spF_len fun _ => rfl) fun f cdv A outer s H vs Q E hr h => ⟨_, (pss_cons (ps_set (i := 1) sc_levels_of.nd rfl (by first | exact Or.inl rfl | exact Or.inr rfl) (pe_lst (pa_cons (pe_glob (v := .ref (He.ga K "NOUGHT")) (by rfl) T.g_NOUGHT rfl) pa_nil)))
      (pss_cons (ps_for PassesOwn.never rfl (pi_list (pv 0)) (pg_name (i := 2) sc_levels_of.nd rfl (by first | exact Or.inl rfl | exact Or.inr rfl)) (pss_one (ps_expr (pe_bm PySem.F.plainAttrs_list PySem.F.slot_list_extend PySem.F.type_list_extend mt_extend (pv 1) (pa_cons (pe_lc rfl sc_levels_of.nd (pi_tup (pe_ix ix_seq (pv 2) pe_int (fun _ _ => rfl))) (blkOk_by (own := [("level", 3), ("pay", 4)]) (N := ["curves", "found", "one", "level", "pay"]) (by kernel_rfl)) (fun _ _ _ _ _ => (pg_tupK (K := K) (n := 2) rfl rfl (pgs_cons (pg_name (i := 3) sc_levels_of.nd rfl (by first | exact Or.inl rfl | exact Or.inr rfl)) (pgs_cons (pg_name (i := 4) sc_levels_of.nd rfl (by first | exact Or.inl rfl | exact Or.inr rfl)) pgs_nil)))) (fun _ _ _ _ _ => pts_nil) (fun _ _ _ _ _ => (pv 3))) pa_nil)))))
      (pss_one (ps_ret (pe_cc C_in_order (hr.mono (by decide)) (by rfl) (pa_cons (pv 1) pa_nil)))))), ?_⟩
  obtain ⟨L, hd, ⟨hF, hl⟩, k⟩ := h
  dsimp only at hd hF hl k
  obtain ⟨v, rfl, h1⟩ := dps_one hd
  refine seq_ed (newl_ed (edl_lst (eda_cons (ed_cv (T.nought H)) eda_nil)) fun p H1 e1 hp l1 => ?_)
  refine seq_ed (for_vl rfl (dp_mono e1 h1) (fun i σ H' => ∃ (o a b : Option V), σ = [some v, some (.ref p), o, a, b] ∧ Ex H H' ∧ Lm K H' p ((0 :: (L.take i).flatMap fun c => c.1.map (·.1)).map fr)) ⟨none, none, none, rfl, e1, l1⟩ (fun i σ' H' _ ⟨_, _, _, _, e, _⟩ => dp_mono e h1) ?_ ?_)
  · rintro i d u σ' H' hi du ⟨o, a, b, rfl, e, l⟩
    obtain ⟨c, hc, rfl⟩ := get_map hi
    have hcm := List.mem_of_getElem? hc
    have h2 := lens_mem hcm
    have h3 := lens_take L i
    refine ext_ed rfl l (nols_map nol_fr _) (lc_m1 ptD c.1 (fun q => fr q.1) (edi_tup (ed_ixT (ed_var rfl du) ed_int rfl)) (by show _ ≤ 16777216; omega) fun q hq v1 H2 e2 d2 => ?_).toT (nols_map (fun _ => rfl) _)
      (by rw [List.length_map, List.length_map, List.length_cons]; show _ ≤ 16777216; omega) fun H2 b2 i2 l2 => ⟨_, _, _, rfl, b2.ex hp e, ?_⟩
    · exact tu_two d2 fun a c ha hc => ⟨rfl, et_yes, fun _ => ⟨ed_var rfl ha, rfl⟩⟩
    · rw [take_snoc hc, List.flatMap_append]
      have e5 : (0 :: (((L.take i).flatMap fun c => c.1.map (·.1)) ++ ([c].flatMap fun c => c.1.map (·.1)))).map fr = ((0 :: (L.take i).flatMap fun c => c.1.map (·.1)).map fr) ++ c.1.map fun q => fr q.1 := by simp
      rw [e5]; exact l2
  · rintro σ' H' ⟨o, a, b, rfl, e, l⟩
    rw [List.length_map, List.take_length] at l
    dsimp only
    refine ret_ed (K := K) (d := .tuple ((inOrder (lvlsIn L)).map fr)) ?_ fun u H4 e4 d4 => k u H4 (e.trans e4) d4
    refine ed_call (lvlsIn L) (eda_cons (edt_var rfl l).toD eda_nil) ⟨?_, fun q hq => ?_⟩
    · have := lens_take L L.length
      rw [List.take_length] at this
      show (_ :: _ : List Rat).length ≤ _
      rw [List.length_cons]; omega
    · rcases List.mem_cons.mp hq with z | z
      · rw [z]; exact fine_zero.fb (by decide)
      · obtain ⟨c, hc, hz⟩ := List.mem_flatMap.mp z
        obtain ⟨pt, hpt, rfl⟩ := List.mem_map.mp hz
        exact hF c hc pt hpt
theorem Small.f19 {c : Cv} (h : Small c) : F19 c.1 := fun p hp => ⟨(h.fc.lv p hp).mono (by decide), (h.fc.py p hp).mono (by decide)⟩
theorem Small.slope {c : Cv} (h : Small c) {i : Nat} {p : Pt} (hp : c.1[i]? = some p) : Fine 964 (hs (c.1.drop i) c.2) := by
  rcases hs_last (s := c.2) hp with ⟨q, z, z2⟩ | ⟨_, z⟩
  · rw [z2]
    have hlt := srt_next h.ok.srt hp z
    have hq := List.mem_of_getElem? z
    have hp := List.mem_of_getElem? hp
    exact (((h.fc.py q hq).sub (h.fc.py p hp)).div ((h.fc.lv q hq).sub (h.fc.lv p hp)) (by grind)).mono (by decide)
  · rw [z]; exact h.fc.sl.mono (by decide)
theorem sc_pay_at : FnScope ["one", "level", "at", "begin", "pay", "corner"] ["one", "level"] (defScope s_pay_at) := ⟨rfl, rfl, rfl, by decide +kernel, rfl, by decide +kernel, by decide +kernel⟩
abbrev Cf_pay_at (P w K mg base) := Cal P w K mg base "pay_at" 6 ["one", "level"] (spF K (fun x : Cv × Rat => [cvD x.1, fr x.2]) (fun x => Small x.1 ∧ 0 ≤ x.2 ∧ Fine 1900 x.2) fun x => fr (evc x.1 x.2))
theorem ok_pay_at (T : Tx w K mg) (C_added : Cf_added P w K mg base) (C_compared : Cf_compared P w K mg base) (C_lessened : Cf_lessened P w K mg base) (C_slope_behind : Cf_slope_behind P w K mg base) (C_times : Cf_times P w K mg base) : Cf_pay_at P w K mg base := by
  refine T.cal (d := d_pay_at) 18 19 rfl rfl rfl rfl rfl sc_pay_at (fun _ _ _ _ _ _ us hl => match us, hl with | [_, _], _ => rfl) (spF_len fun _ => rfl) fun f cdv A outer s H vs Q E hr h => ⟨_, (pss_cons (ps_set (i := 2) sc_pay_at.nd rfl (by first | exact Or.inl rfl | exact Or.inr rfl) (pe_op op_sub (pe_callB call_len (by rfl) T.f_len (by decide +kernel) (pa_cons (pe_lc rfl sc_pay_at.nd (pi_tup (pe_ix ix_seq (pv 0) pe_int (fun _ _ => rfl))) (blkOk_by (own := [("corner", 5)]) (N := ["one", "level", "at", "begin", "pay", "corner"]) (by kernel_rfl)) (fun _ _ _ _ _ => (pg_name (i := 5) sc_pay_at.nd rfl (by first | exact Or.inl rfl | exact Or.inr rfl))) (fun _ _ _ _ _ => (pts_one (pt_cmpR op_le (pe_cc C_compared (hr.mono (by decide)) (by rfl) (pa_cons (pe_ix (ix_seqK (K := K) rfl) (pv 5) pe_int (fun _ _ => rfl)) (pa_cons (pv 1) pa_nil))) pe_int (nomark _)))) (fun _ _ _ _ _ => (pv 5))) pa_nil)) pe_int))
      (pss_cons (ps_asg (pe_ix ix_seq (pe_ix ix_seq (pv 0) pe_int (fun _ _ => rfl)) (pv 2) (fun _ _ => rfl)) (pg_tup rfl (pgs_cons (pg_name (i := 3) sc_pay_at.nd rfl (by first | exact Or.inl rfl | exact Or.inr rfl)) (pgs_cons (pg_name (i := 4) sc_pay_at.nd rfl (by first | exact Or.inl rfl | exact Or.inr rfl)) pgs_nil))))
      (pss_one (ps_ret (pe_cc C_added (hr.mono (by decide)) (by rfl) (pa_cons (pv 4) (pa_cons (pe_cc C_times (hr.mono (by decide)) (by rfl) (pa_cons (pe_cc C_slope_behind (hr.mono (by decide)) (by rfl) (pa_cons (pv 0) (pa_cons (pv 2) pa_nil))) (pa_cons (pe_cc C_lessened (hr.mono (by decide)) (by rfl) (pa_cons (pv 1) (pa_cons (pv 3) pa_nil))) pa_nil))) pa_nil))))))), ?_⟩
  obtain ⟨⟨c, x⟩, hd, ⟨hS, h0, hx⟩, k⟩ := h
  dsimp only at hd hS h0 hx k
  obtain ⟨v, u, rfl, h1, h2⟩ := dps_two hd
  obtain ⟨hc1, pt, hpt, hle, hev, _⟩ := hS.ok.at h0
  have hpm := List.mem_of_getElem? hpt
  have hcl := cnt_le c.1 x
  have hln := hS.ln
  refine seq_ed (set_ed (d := .int ((cnt c.1 x - 1 : Nat) : Int)) ((ed_sub (ed_lenL (lc_m ptD c.1 (fun p => decide (p.1 ≤ x)) ptD (edi_tup (ed_ixT (ed_var rfl h1) ed_int rfl)) (by show _ ≤ 16777216; omega) fun p hp v1 H2 e2 d2 => ?_).toD) ed_int).cast ?_) fun n H1 e1 d1 => ?_)
  · refine tu_name rfl ((et_test (ed_le (ed_call (p.1, x) (eda_cons (ed_ixT (ed_var rfl d2) ed_int rfl) (eda_cons (ed_var rfl (dp_mono e2 h2)) eda_nil)) ⟨(hS.fc.lv p hp).fb (by decide), hx.fb (by decide)⟩) ed_int)).cast ?_) fun _ => ⟨ed_var rfl d2, rfl⟩
    exact decide_eq_decide.mpr cmpR_le
  · rw [List.length_map]
    congr 1
    have : (c.1.filter fun p => decide (p.1 ≤ x)).length = cnt c.1 x := rfl
    rw [this]; omega
  obtain rfl := dp_int d1
  have h1' := dp_mono e1 h1
  have h2' := dp_mono e1 h2
  refine seq_ed (unp2_ed (ed_ixT (ed_ixT (d := .tuple (c.1.map ptD)) (ed_var rfl h1') ed_int rfl) (ed_var rfl (.int _)) (atI_map hpt)) fun b y H2 e2 db dy => ?_)
  have f1 := hS.slope hpt
  have f2 := hx.sub (hS.fc.lv pt hpm)
  have f3 := f1.mul f2
  dsimp only
  refine ret_ed (d := fr (pt.2 + hs (c.1.drop (cnt c.1 x - 1)) c.2 * (x - pt.1))) (ed_call (pt.2, hs (c.1.drop (cnt c.1 x - 1)) c.2 * (x - pt.1)) (eda_cons (ed_var rfl dy) (eda_cons (ed_call (hs (c.1.drop (cnt c.1 x - 1)) c.2, x - pt.1)
    (eda_cons (ed_call (c, cnt c.1 x - 1) (eda_cons (ed_var rfl (dp_mono e2 h1')) (eda_cons (ed_var rfl (.int _)) eda_nil)) ⟨by show cnt c.1 x - 1 < c.1.length; omega, hS.ok.srt, hS.f19⟩) (eda_cons (ed_call (x, pt.1) (eda_cons (ed_var rfl (dp_mono e2 h2')) (eda_cons (ed_var rfl db) eda_nil)) ⟨hx.fb (by decide), (hS.fc.lv pt hpm).fb (by decide)⟩) eda_nil))
    ⟨f1.fb (by decide), f2.fb (by decide)⟩) eda_nil)) ⟨(hS.fc.py pt hpm).fb (by decide), f3.fb (by decide)⟩) fun z H3 e3 dz => k z H3 ((e1.trans e2).trans e3) ?_
  rw [hev]; exact dz
theorem sc_rises_at : FnScope ["one", "level", "corner"] ["one", "level"] (defScope s_rises_at) := ⟨rfl, rfl, rfl, by decide +kernel, rfl, by decide +kernel, by decide +kernel⟩
abbrev Cf_rises_at (P w K mg base) := Cal P w K mg base "rises_at" 6 ["one", "level"] (spF K (fun x : Cv × Rat => [cvD x.1, fr x.2]) (fun x => Small x.1 ∧ 0 ≤ x.2 ∧ Fine 1900 x.2) fun x => fr (rs x.1 x.2))
theorem ok_rises_at (T : Tx w K mg) (C_compared : Cf_compared P w K mg base) (C_slope_behind : Cf_slope_behind P w K mg base) : Cf_rises_at P w K mg base := by
  refine T.cal (d := d_rises_at) 19 20 rfl rfl rfl rfl rfl sc_rises_at (fun _ _ _ _ _ _ us hl => match us, hl with | [_, _], _ => rfl) (spF_len fun _ => rfl) fun f cdv A outer s H vs Q E hr h => ⟨_, (pss_one (ps_ret (pe_cc C_slope_behind (hr.mono (by decide)) (by rfl) (pa_cons (pv 0) (pa_cons (pe_op op_sub (pe_callB call_len (by rfl) T.f_len (by decide +kernel) (pa_cons (pe_lc rfl sc_rises_at.nd (pi_tup (pe_ix ix_seq (pv 0) pe_int (fun _ _ => rfl))) (blkOk_by (own := [("corner", 2)]) (N := ["one", "level", "corner"]) (by kernel_rfl)) (fun _ _ _ _ _ => (pg_name (i := 2) sc_rises_at.nd rfl (by first | exact Or.inl rfl | exact Or.inr rfl))) (fun _ _ _ _ _ => (pts_one (pt_cmpR op_le (pe_cc C_compared (hr.mono (by decide)) (by rfl) (pa_cons (pe_ix (ix_seqK (K := K) rfl) (pv 2) pe_int (fun _ _ => rfl)) (pa_cons (pv 1) pa_nil))) pe_int (nomark _)))) (fun _ _ _ _ _ => (pv 2))) pa_nil)) pe_int) pa_nil))))), ?_⟩
  obtain ⟨⟨c, x⟩, hd, ⟨hS, h0, hx⟩, k⟩ := h
  dsimp only at hd hS h0 hx k
  obtain ⟨v, u, rfl, h1, h2⟩ := dps_two hd
  obtain ⟨hc1, pt, hpt, hle, hev, _⟩ := hS.ok.at h0
  have hcl := cnt_le c.1 x
  have hln := hS.ln
  refine ret_ed (ed_call (c, cnt c.1 x - 1) (eda_cons (ed_var rfl h1) (eda_cons ((ed_sub (ed_lenL (lc_m ptD c.1 (fun p => decide (p.1 ≤ x)) ptD (edi_tup (ed_ixT (ed_var rfl h1) ed_int rfl)) (by show _ ≤ 16777216; omega) fun p hp v1 H2 e2 d2 => ?_).toD) ed_int).cast ?_) eda_nil)) ⟨by show cnt c.1 x - 1 < c.1.length; omega, hS.ok.srt, hS.f19⟩) fun z H3 e3 dz => k z H3 e3 dz
  · refine tu_name rfl ((et_test (ed_le (ed_call (p.1, x) (eda_cons (ed_ixT (ed_var rfl d2) ed_int rfl) (eda_cons (ed_var rfl (dp_mono e2 h2)) eda_nil)) ⟨(hS.fc.lv p hp).fb (by decide), hx.fb (by decide)⟩) ed_int)).cast ?_) fun _ => ⟨ed_var rfl d2, rfl⟩
    exact decide_eq_decide.mpr cmpR_le
  · rw [List.length_map]
    show PyData.int _ = .int ((cnt c.1 x - 1 : Nat) : Int)
    congr 1
    have : (c.1.filter fun p => decide (p.1 ≤ x)).length = cnt c.1 x := rfl
    rw [this]; omega
end
end Sw
namespace Sw
open PySem PySem.Spec PyProof.Rows L2 Evl SwT
theorem atI_mapL {α : Type} {f : α → PyData} (l : List α) (x : α) : atI ((l ++ [x]).map f) (-1) = some (f x) := by
  rw [List.map_append]; exact atI_last _ _
section
variable {P : Program} {w : World} {K : PySem.W.Frag} {mg : Str → Option Value} {base : Heap}
theorem sc_curve : FnScope ["corners", "slope", "kept", "at", "here", "ahead"] ["corners", "slope"] (defScope s_curve) := ⟨rfl, rfl, rfl, by decide +kernel, rfl, by decide +kernel, by decide +kernel⟩
abbrev Cf_curve (P w K mg base) := Cal P w K mg base "curve" 5 ["corners", "slope"] (spF K (fun x : Bool × Cv => [seqD x.1 (x.2.1.map ptD), fr x.2.2]) (fun x => x.2.1 ≠ [] ∧ Srt x.2.1 ∧ F19 x.2.1 ∧ x.2.1.length ≤ 1000000) fun x => cvD (canon x.2.1 x.2.2, x.2.2))
theorem ok_curve (T : Tx w K mg) (C_slope_between : Cf_slope_between P w K mg base) : Cf_curve P w K mg base := by
  refine T.cal (d := d_curve) 13 14 rfl rfl rfl rfl rfl sc_curve (fun _ _ _ _ _ _ us hl => match us, hl with | [_, _], _ => rfl) (spF_len fun _ => rfl) fun f cdv A outer s H vs Q E hr h => ⟨_, (pss_cons (ps_set (i := 2) sc_curve.nd rfl (by first | exact Or.inl rfl | exact Or.inr rfl) (pe_lst (pa_cons (pe_ix ix_seq (pv 0) pe_int (fun _ _ => rfl)) pa_nil)))
      (pss_cons (ps_for PassesOwn.never rfl (pi_range2 (by rfl) T.f_range (pa_cons pe_int (pa_cons (pe_callB call_len (by rfl) T.f_len (by decide +kernel) (pa_cons (pv 0) pa_nil)) pa_nil))) (pg_name (i := 3) sc_curve.nd rfl (by first | exact Or.inl rfl | exact Or.inr rfl)) (pss_cons (ps_set (i := 4) sc_curve.nd rfl (by first | exact Or.inl rfl | exact Or.inr rfl) (pe_ix ix_seq (pv 0) (pv 3) (fun _ _ => rfl)))
      (pss_cons (ps_set (i := 5) sc_curve.nd rfl (by first | exact Or.inl rfl | exact Or.inr rfl) (pe_ifExp (pt_cmpR (op_eqD hr.units) (pe_op op_add (pv 3) pe_int) (pe_callB call_len (by rfl) T.f_len (by decide +kernel) (pa_cons (pv 0) pa_nil)) (nomark _)) (pv 1) (pe_cc C_slope_between (hr.mono (by decide)) (by rfl) (pa_cons (pv 4) (pa_cons (pe_ix ix_seq (pv 0) (pe_op op_add (pv 3) pe_int) (fun _ _ => rfl)) pa_nil)))))
      (pss_one (ps_if (pt_cmpR (op_neD hr.units) (pe_cc C_slope_between (hr.mono (by decide)) (by rfl) (pa_cons (pe_ix ix_seq (pv 2) (pe_un un_neg pe_int) (fun _ _ => rfl)) (pa_cons (pv 4) pa_nil))) (pv 5) (nomark _)) (pss_one (ps_expr (pe_bm PySem.F.plainAttrs_list PySem.F.slot_list_append PySem.F.type_list_append mt_append (pv 2) (pa_cons (pv 4) pa_nil)))) pss_nil)))))
      (pss_one (ps_ret (pe_tup (pa_cons (pe_callTy call_tuple_of (by rfl) T.f_tuple (by decide +kernel) (pa_cons (pv 2) pa_nil)) (pa_cons (pv 1) pa_nil))))))), ?_⟩
  obtain ⟨⟨b, cs, s⟩, hd, ⟨hne, hS, hF, hl⟩, k⟩ := h
  dsimp only at hd hne hS hF hl k
  obtain ⟨v, u, rfl, h1, h2⟩ := dps_two hd
  cases cs with | nil => exact absurd rfl hne | cons a r
  rw [List.length_cons] at hl
  refine seq_ed (newl_ed (K := K) (ds := ([a] : List Pt).map ptD) (edl_lst (eda_cons (ed_ixQ (ed_var rfl h1) ed_int (atI_map (i := 0) (x := a) rfl)) eda_nil)) fun p H1 e1 hp l1 => ?_)
  refine seq_ed (for_rng2 (K := K) (lo := 1) (hi := (((a :: r).map ptD).length : Int)) (eda_cons ed_int (eda_cons (ed_lenQ (ed_var rfl (dp_mono e1 h1))) eda_nil)) (by rw [List.length_map, List.length_cons]; omega) fun H2 e2 =>
    ⟨fun i σ H' => ∃ (ks : List Pt) (k : Pt) (o1 o2 o3 : Option V), σ = [some v, some u, some (.ref p), o1, o2, o3] ∧ Ex H H' ∧ Lm K H' p ((ks ++ [k]).map ptD) ∧ ks ++ k :: canonGo k (r.drop i) s = canon (a :: r) s ∧ k ∈ a :: r ∧ Srt (k :: r.drop i) ∧ ks.length ≤ i,
      ⟨[], a, none, none, none, rfl, e1.trans e2, l1.mono e2, rfl, List.mem_cons_self, hS, Nat.le_refl _⟩, ?_, ?_⟩)
  · rintro i σ' H' hi ⟨ks, kk, o1, o2, o3, rfl, e, l, hc, hkm, hk, hkl⟩
    have hi : i < r.length := by rw [List.length_map, List.length_cons] at hi; omega
    have hg : (a :: r)[i + 1]? = some r[i] := by rw [List.getElem?_cons_succ]; exact List.getElem?_eq_getElem hi
    have hdr : r.drop i = r[i] :: r.drop (i + 1) := List.drop_eq_getElem_cons hi
    rw [hdr] at hc hk
    have hhm : r[i] ∈ a :: r := List.mem_cons_of_mem _ (List.getElem_mem hi)
    generalize hx : r[i] = x at *
    have ei : (1 : Int) + (i : Int) = ((i + 1 : Nat) : Int) := by omega
    refine seq_ed (set_ed (K := K) (d := ptD x) (ed_ixQ (ed_var rfl (dp_mono e h1)) (ed_var rfl (.int _)) (by rw [ei]; exact atI_map hg)) fun here H3 e3 d3 => ?_)
    have h1' := dp_mono (e.trans e3) h1
    refine seq_ed (set_ed (K := K) (d := fr (hs (x :: r.drop (i + 1)) s)) (ed_if (et_test (ed_eqi (ed_add (ed_var rfl (.int _)) ed_int) (ed_lenQ (ed_var rfl h1')))) (fun hb => ?_) fun hb => ?_) fun ah H4 e4 d4 => ?_)
    · have hb := of_decide_eq_true hb
      rw [List.length_map, List.length_cons] at hb
      have : r.drop (i + 1) = [] := List.drop_eq_nil_of_le (by omega)
      rw [this]
      exact ed_var rfl (dp_mono (e.trans e3) h2)
    · have hb := of_decide_eq_false hb
      rw [List.length_map, List.length_cons] at hb
      have hj : i + 1 < r.length := by omega
      have hg2 : (a :: r)[i + 2]? = some r[i + 1] := by rw [List.getElem?_cons_succ]; exact List.getElem?_eq_getElem hj
      have hd2 : r.drop (i + 1) = r[i + 1] :: r.drop (i + 2) := List.drop_eq_getElem_cons hj
      have hlt : x.1 < r[i + 1].1 := srt_next hS hg hg2
      have h2m : r[i + 1] ∈ a :: r := List.mem_cons_of_mem _ (List.getElem_mem hj)
      rw [hd2]
      show Ed K _ _ _ (fr (slopeB x r[i + 1]))
      exact ed_call (x, r[i + 1]) (eda_cons (ed_var rfl d3) (eda_cons (ed_ixQ (ed_var rfl h1') (ed_add (ed_var rfl (.int _)) ed_int) (by rw [show (1 : Int) + (i : Int) + 1 = ((i + 2 : Nat) : Int) by omega]; exact atI_map hg2)) eda_nil)) ⟨hlt, hF _ hhm, hF _ h2m⟩
    · have hlt : kk.1 < x.1 := hk.lt List.mem_cons_self
      dsimp only
      refine if_et (K := K) (b := decide (slopeB kk x ≠ hs (x :: r.drop (i + 1)) s)) (et_test (ed_nefr (ed_call (kk, x) (eda_cons (ed_ixL (edt_var rfl (l.mono (e3.trans e4))).toD (ed_neg ed_int) (atI_mapL _ _)) (eda_cons (ed_var rfl (dp_mono e4 d3)) eda_nil)) ⟨hlt, hF _ hkm, hF _ hhm⟩) (ed_var rfl d4))) (fun hb H5 e5 => ?_) fun hb H5 e5 => ?_
      · have hb := of_decide_eq_true hb
        refine app_ed rfl (l.mono ((e3.trans e4).trans e5)) (nols_map nol_pt _) (ed_var rfl (dp_mono (e4.trans e5) d3)) (nol_pt _) (by rw [List.length_map, List.length_append]; show _ < 16777216; simp; omega) fun H6 b6 i6 l6 => ⟨ks ++ [kk], x, _, _, _, rfl, b6.ex hp (((e.trans e3).trans e4).trans e5), ?_, ?_, hhm, hk.tail, ?_⟩
        · rw [List.map_append]; exact l6
        · rw [← hc]
          show _ = ks ++ kk :: (if slopeB kk x ≠ hs (x :: r.drop (i + 1)) s then x :: canonGo x (r.drop (i + 1)) s else canonGo kk (r.drop (i + 1)) s)
          rw [if_pos hb]; simp
        · rw [List.length_append]; simp; omega
      · have hb := of_decide_eq_false hb
        refine ⟨ks, kk, _, _, _, rfl, ((e.trans e3).trans e4).trans e5, l.mono ((e3.trans e4).trans e5), ?_, hkm, hk.skip, by omega⟩
        rw [← hc]
        show _ = ks ++ kk :: (if slopeB kk x ≠ hs (x :: r.drop (i + 1)) s then x :: canonGo x (r.drop (i + 1)) s else canonGo kk (r.drop (i + 1)) s)
        rw [if_neg hb]
  · rintro σ' H' ⟨ks, kk, o1, o2, o3, rfl, e, l, hc, hkm, hk, hkl⟩
    have hz : r.drop ((((a :: r).map ptD).length : Int) - 1).toNat = [] := List.drop_eq_nil_of_le (by rw [List.length_map, List.length_cons]; omega)
    rw [hz] at hc
    have hc : canon (a :: r) s = ks ++ [kk] := by rw [← hc]; rfl
    dsimp only
    refine ret_ed (K := K) (d := cvD (canon (a :: r) s, s)) ?_ fun u H4 e4 d4 => k u H4 (e.trans e4) d4
    rw [hc]
    exact ed_tup (eda_cons (ed_tupleL (edt_var rfl l).toD) (eda_cons (ed_var rfl (dp_mono e h2)) eda_nil))
theorem lens_lvls (L : List Cv) : (lvls L).length ≤ lens L + 1 := by
  have h := len_inOrder (lvlsIn L)
  have h2 := lens_take L L.length
  rw [List.take_length] at h2
  have h3 : (lvlsIn L).length = (L.flatMap fun c => c.1.map (·.1)).length + 1 := List.length_cons
  have h4 : (lvls L).length = (inOrder (lvlsIn L)).length := rfl
  omega
theorem lvls_fine {L : List Cv} (h : ∀ c ∈ L, Small c) {x : Rat} (hx : x ∈ lvls L) : Fine 140 x ∧ 0 ≤ x := by
  refine ⟨?_, lvls_nonneg (fun c hc => (h c hc).ok) hx⟩
  rcases mem_lvls.mp hx with z | ⟨c, hc, p, hp, z⟩
  · rw [z]; exact fine_zero.mono (by decide)
  · rw [← z]; exact (h c hc).fc.lv p hp
theorem sc_added_up : FnScope ["curves", "corners", "level", "one"] ["curves"] (defScope s_added_up) := ⟨rfl, rfl, rfl, by decide +kernel, rfl, by decide +kernel, by decide +kernel⟩
abbrev Cf_added_up (P w K mg base) := Cal P w K mg base "added_up" 7 ["curves"] (spF K (fun L : List Cv => [.list (L.map cvD)]) (fun L => L ≠ [] ∧ (∀ c ∈ L, Small c) ∧ lens L ≤ 100000 ∧ L.length ≤ 10 ∧ Small (addedUp L)) fun L => cvD (addedUp L))
theorem ok_added_up (T : Tx w K mg) (C_curve : Cf_curve P w K mg base) (C_levels_of : Cf_levels_of P w K mg base) (C_nothing : Cf_nothing P w K mg base) (C_pay_at : Cf_pay_at P w K mg base) (C_total : Cf_total P w K mg base) : Cf_added_up P w K mg base := by
  refine T.cal (d := d_added_up) 20 21 rfl rfl rfl rfl rfl sc_added_up (fun _ _ _ _ _ _ us hl => match us, hl with | [_], _ => rfl) (spF_len fun _ => rfl) fun f cdv A outer s H vs Q E hr h => ⟨_, (pss_cons (ps_if (pt_cmpR (op_eqD hr.units) (pe_callB call_len (by rfl) T.f_len (by decide +kernel) (pa_cons (pv 0) pa_nil)) pe_int (nomark _)) (pss_one (ps_ret (pe_cc0 C_nothing (hr.mono (by decide)) (by rfl)))) pss_nil)
      (pss_cons (ps_setLc (i := 1) rfl sc_added_up.nd rfl rfl (sw_true rfl rfl rfl (by decide +kernel)) (pi_tup (pe_cc C_levels_of (hr.mono (by decide)) (by rfl) (pa_cons (pv 0) pa_nil))) (blkOk_by (own := [("level", 2)]) (N := ["curves", "corners", "level", "one"]) (by kernel_rfl)) (fun _ _ _ _ _ => (pg_name (i := 2) sc_added_up.nd rfl (by first | exact Or.inl rfl | exact Or.inr rfl))) (fun _ _ _ _ _ => pts_nil) (fun _ _ _ _ _ => (pe_tup (pa_cons (pv 2) (pa_cons (pe_cc C_total (hr.mono (by decide)) (by rfl) (pa_cons (pe_lc rfl sc_added_up.nd (pi_listK (K := K) rfl (pv 0)) (blkOk_by (own := [("one", 3)]) (N := ["curves", "corners", "level", "one"]) (by kernel_rfl)) (fun _ _ _ _ _ => (pg_name (i := 3) sc_added_up.nd rfl (by first | exact Or.inl rfl | exact Or.inr rfl))) (fun _ _ _ _ _ => pts_nil) (fun _ _ _ _ _ => (pe_cc C_pay_at (hr.mono (by decide)) (by rfl) (pa_cons (pv 3) (pa_cons (pv 2) pa_nil))))) pa_nil)) pa_nil)))))
      (pss_one (ps_ret (pe_cc C_curve (hr.mono (by decide)) (by rfl) (pa_cons (pv 1) (pa_cons (pe_cc C_total (hr.mono (by decide)) (by rfl) (pa_cons (pe_lc rfl sc_added_up.nd (pi_list (pv 0)) (blkOk_by (own := [("one", 3)]) (N := ["curves", "corners", "level", "one"]) (by kernel_rfl)) (fun _ _ _ _ _ => (pg_name (i := 3) sc_added_up.nd rfl (by first | exact Or.inl rfl | exact Or.inr rfl))) (fun _ _ _ _ _ => pts_nil) (fun _ _ _ _ _ => (pe_ix (ix_seqK (K := K) rfl) (pv 3) pe_int (fun _ _ => rfl)))) pa_nil)) pa_nil))))))), ?_⟩
  obtain ⟨L, hd, ⟨hne, hS, hl, hn, hA⟩, k⟩ := h
  dsimp only at hd hne hS hl hn hA k
  obtain ⟨v, rfl, h1⟩ := dps_one hd
  have hlv := lens_lvls L
  have hLF : ∀ c ∈ L, ∀ p ∈ c.1, Fine FB p.1 := fun c hc p hp => ((hS c hc).fc.lv p hp).fb (by decide)
  have hval : ∀ x ∈ lvls L, ∀ c ∈ L, Fine 341 (evc c x) := fun x hx c hc => (hS c hc).val (lvls_fine hS hx).2 (lvls_fine hS hx).1
  have hsum : ∀ x ∈ lvls L, Fine 341 (sumOf L x) := fun x hx => by
    have h0 := (lvls_fine hS hx).2
    rw [← (addedUp_is fun c hc => (hS c hc).ok).evc h0]
    exact hA.val h0 (lvls_fine hS hx).1
  refine seq_ed (if_et (K := K) (b := decide ((L.length : Int) = 0)) (et_test ((ed_eqi (ed_lenL (ed_var rfl h1)) ed_int).cast (by rw [List.length_map]))) (fun hb => ?_) fun _ H1 e1 => ?_)
  · exact absurd (List.length_eq_zero_iff.mp (by have := of_decide_eq_true hb; omega)) hne
  refine nil_ed ?_
  dsimp only
  refine seq_ed (newl_ed (K := K) (ds := ((lvls L).map fun l => (l, sumOf L l)).map ptD) ((lc_m1 fr (lvls L) (fun l => ptD (l, sumOf L l)) (edi_tup (ed_call (res := fun L => .tuple ((lvls L).map fr)) L (eda_cons (ed_var rfl (dp_mono e1 h1)) eda_nil) ⟨hLF, by omega⟩)) (by show _ ≤ 16777216; omega) fun x hx v1 H2 e2 d2 => ?_).cast (by rw [List.map_map]; rfl)) fun p H2 e2 hp l2 => ?_)
  · refine tu_name rfl et_yes fun _ => ⟨?_, nol_pt _⟩
    refine ed_tup (eda_cons (ed_var rfl d2) (eda_cons (ed_call (L.map fun c => evc c x) (eda_cons ((lc_m1 cvD L (fun c => fr (evc c x)) (edi_list (ed_var rfl (dp_mono (e1.trans e2) h1))) (by show _ ≤ 16777216; omega) fun c hc v3 H3 e3 d3 => ?_).toD.cast (by rw [List.map_map]; rfl)) eda_nil) ⟨341, by rw [List.length_map]; show _ ≤ 4000; omega, fun q hq => ?_⟩) eda_nil))
    · refine tu_name rfl et_yes fun _ => ⟨?_, nol_fr _⟩
      exact ed_call (c, x) (eda_cons (ed_var rfl d3) (eda_cons (ed_var rfl (dp_mono e3 d2)) eda_nil)) ⟨hS c hc, (lvls_fine hS hx).2, (lvls_fine hS hx).1.mono (by decide)⟩
    · obtain ⟨c, hc, rfl⟩ := List.mem_map.mp hq
      exact hval x hx c hc
  dsimp only
  refine ret_ed (K := K) (d := cvD (addedUp L)) ?_ fun u H4 e4 d4 => k u H4 ((e1.trans e2).trans e4) d4
  refine ed_call (true, ((lvls L).map fun l => (l, sumOf L l)), slopes L) (eda_cons (edt_var rfl l2).toD (eda_cons ((ed_call (L.map fun c : Cv => c.2 : List Rat) (eda_cons ((lc_m1 cvD L (fun c => fr c.2) (edi_list (ed_var rfl (dp_mono (e1.trans e2) h1))) (by show _ ≤ 16777216; omega) fun c hc v3 H3 e3 d3 => ?_).toD.cast (by rw [List.map_map]; rfl)) eda_nil) ⟨69, by rw [List.length_map]; show _ ≤ 4000; omega, fun q hq => ?_⟩).cast rfl) eda_nil)) ⟨?_, srt_map (sr_lvls L), fun p hp => ?_, ?_⟩
  · exact tu_name rfl et_yes fun _ => ⟨ed_ixT (ed_var rfl d3) ed_int rfl, nol_fr _⟩
  · obtain ⟨r, e⟩ := lvls_head fun c hc => (hS c hc).ok
    show (lvls L).map _ ≠ []
    rw [e]; simp
  · obtain ⟨x, hx, rfl⟩ := List.mem_map.mp hp
    exact ⟨(lvls_fine hS hx).1.mono (by decide), (hsum x hx).mono (by decide)⟩
  · show ((lvls L).map _).length ≤ _
    rw [List.length_map]; omega
  · obtain ⟨c, hc, rfl⟩ := List.mem_map.mp hq
    exact (hS c hc).fc.sl
end
end Sw
set_option maxHeartbeats 200000
/-! where two curves meet: sizes -/
namespace Sw
theorem num_neg {q : Rat} : q.num < 0 ↔ q < 0 := by have := @Rat.num_nonneg q; grind
theorem num_pos' {q : Rat} : 0 < q.num ↔ 0 < q := by have := Rat.lt_iff 0 q; simp at this; exact this.symm
theorem num_mul_neg {p q : Rat} : p.num * q.num < 0 ↔ p * q < 0 := by
  have hp : p.num = 0 ↔ p = 0 := Rat.num_eq_zero
  have hq : q.num = 0 ↔ q = 0 := Rat.num_eq_zero
  constructor
  · intro h
    rcases Int.lt_trichotomy p.num 0 with a | a | a
    · rcases Int.lt_trichotomy q.num 0 with b | b | b
      · have := Int.mul_pos_of_neg_of_neg a b; omega
      · rw [b] at h; simp at h
      · have h1 := num_neg.mp a
        have h2 := num_pos'.mp b
        have := Rat.mul_pos (a := -p) (b := q) (by grind) h2
        grind
    · rw [a] at h; simp at h
    · rcases Int.lt_trichotomy q.num 0 with b | b | b
      · have h1 := num_pos'.mp a
        have h2 := num_neg.mp b
        have := Rat.mul_pos (a := p) (b := -q) h1 (by grind)
        grind
      · rw [b] at h; simp at h
      · have := Int.mul_pos a b; omega
  · intro h
    rcases mul_neg_cases h with ⟨a, b⟩ | ⟨a, b⟩
    · exact Int.mul_neg_of_pos_of_neg (num_pos'.mpr a) (num_neg.mpr b)
    · exact Int.mul_neg_of_neg_of_pos (num_neg.mpr a) (num_pos'.mpr b)
theorem absR_num (q : Rat) : (absR q).num = (q.num.natAbs : Int) ∧ (absR q).den = q.den := by
  unfold absR
  split
  · rename_i h
    have := num_neg.mpr h
    rw [Rat.neg_num, Rat.neg_den]
    exact ⟨by omega, rfl⟩
  · rename_i h
    have : ¬ q.num < 0 := fun z => h (num_neg.mp z)
    exact ⟨by omega, rfl⟩
theorem absR_pos {q : Rat} (h : q ≠ 0) : 0 < absR q := by unfold absR; split <;> grind
theorem fine_absR {B : Nat} {q : Rat} (h : Fine B q) : Fine B (absR q) := by
  have := absR_num q
  exact ⟨by rw [this.1, Int.natAbs_natCast]; exact h.1, by rw [this.2]; exact h.2⟩
/-- where two curves of few bits meet -/
theorem meet_fine {c d : Cv} (hc : Ok c) (hd : Ok d) (gc : GL (MM : Rat) (evc c)) (gd : GL (MM : Rat) (evc d)) {x l : Rat} {nx : Option Rat} (h0 : 0 ≤ l) (h : x ∈ meetAt c d l nx) : Fine 140 x := by
  obtain ⟨hlt, hneg, hx⟩ := meetAt_gt h
  obtain ⟨_, p, _, _, _, g1⟩ := hc.at h0
  obtain ⟨_, q, _, _, _, g2⟩ := hd.at h0
  obtain ⟨a, b, l1, k1⟩ := gc l h0
  obtain ⟨a', b', l2, k2⟩ := gd l h0
  have e1 := g1.unique k1
  have e2 := g2.unique k2
  have v1 := germ_at k1
  have v2 := germ_at k2
  have hb : b - b' ≠ 0 := fun z => by
    rw [e1.2, e2.2, z] at hneg
    grind
  rw [e1.2, e2.2] at hx
  refine gl_cross l1 l2 (fun z => hb (by rw [z]; grind)) ?_
  rw [hx, v1, v2]
  have : ((a + b * l) - (a' + b' * l)) / (b - b') * (b - b') = (a + b * l) - (a' + b' * l) := Rat.div_mul_cancel hb
  grind
end Sw
set_option maxHeartbeats 4000000
namespace Sw
open PySem PySem.Spec PyProof.Rows L2 Evl SwT
theorem Small.rs {c : Cv} (h : Small c) {x : Rat} (h0 : 0 ≤ x) : Fine 964 (rs c x) := by
  obtain ⟨_, p, hp, _⟩ := h.ok.at h0
  exact h.slope hp
theorem fr_absR (q : Rat) : fr (absR q) = .tuple [.int (q.num.natAbs : Int), .int (q.den : Int)] := by
  show PyData.tuple [.int (absR q).num, .int ((absR q).den : Int)] = _
  rw [(absR_num q).1, (absR_num q).2]
theorem len_meets2 {c d : Cv} (hc : Small c) (hd : Small d) : (lvls [c, d]).length ≤ 200001 ∧ (meets c d (lvls [c, d])).length ≤ 200001 := by
  have h1 := lens_lvls [c, d]
  have h2 : lens [c, d] = c.1.length + d.1.length := by simp [lens]
  have h3 := hc.ln
  have h4 := hd.ln
  have h5 := len_meets (c := c) (d := d) (lvls [c, d])
  omega
theorem small2 {c d : Cv} (hc : Small c) (hd : Small d) : ∀ z ∈ [c, d], Small z := fun z hz => by
  simp only [List.mem_cons, List.not_mem_nil, or_false] at hz
  rcases hz with rfl | rfl
  · exact hc
  · exact hd
theorem meets_fine {c d : Cv} (hc : Small c) (hd : Small d) {x : Rat} (hx : x ∈ meets c d (lvls [c, d])) : Fine 140 x ∧ 0 ≤ x := by
  obtain ⟨pre, l, r, e, h⟩ := meets_of hx
  have hl := lvls_fine (small2 hc hd) (x := l) (by rw [e]; simp)
  refine ⟨meet_fine hc.ok hd.ok hc.gl hd.gl hl.2 h, ?_⟩
  have := (meetAt_gt h).1
  have := hl.2
  grind
theorem gl_fine {c d : Cv} (hc : Small c) (hd : Small d) {x : Rat} (hx : x ∈ gLvls c d) : Fine 140 x ∧ 0 ≤ x := by
  rcases List.mem_append.mp (mem_inOrder.mp hx) with z | z
  · exact lvls_fine (small2 hc hd) z
  · exact meets_fine hc hd z
theorem par_newl {K : PySem.W.Frag} {σ : L2.St} {H : Hp} {ta tb : TE} {ds : List PyData} {d : PyData} {D : Ends} {i j : Nat} (ha : EdL K ta σ H ds) (hb : Ed K tb σ H d)
    (k : ∀ p u H', Ex H H' → H p = none → Lm K H' p ds → Dp K H' u d → D.nx ((σ.set i (some (.ref p))).set j (some u)) H') : tPar i j (tCons ta (tCons tb tNil)) D σ H :=
  ha.run fun p H1 e1 hp l1 => hb H1 e1 _ fun u H2 e2 d2 => ⟨_, u, rfl, k p u H2 (e1.trans e2) hp (l1.mono e2) d2⟩
theorem head_drop {α : Type} : ∀ (l : List α) (n : Nat), (l.drop n).head? = l[n]? := fun l n => List.head?_drop
section
variable {P : Program} {w : World} {K : PySem.W.Frag} {mg : Str → Option Value} {base : Heap}
theorem sc_parting : FnScope ["one", "other", "level", "more"] ["one", "other", "level"] (defScope s_parting) := ⟨rfl, rfl, rfl, by decide +kernel, rfl, by decide +kernel, by decide +kernel⟩
abbrev Cf_parting (P w K mg base) := Cal P w K mg base "parting" 7 ["one", "other", "level"] (spF K (fun x : Cv × Cv × Rat => [cvD x.1, cvD x.2.1, fr x.2.2]) (fun x => Small x.1 ∧ Small x.2.1 ∧ 0 ≤ x.2.2 ∧ Fine 140 x.2.2) fun x => .tuple [fr (evc x.1 x.2.2 - evc x.2.1 x.2.2), fr (rs x.1 x.2.2 - rs x.2.1 x.2.2)])
theorem ok_parting (T : Tx w K mg) (C_lessened : Cf_lessened P w K mg base) (C_pay_at : Cf_pay_at P w K mg base) (C_rises_at : Cf_rises_at P w K mg base) : Cf_parting P w K mg base := by
  refine T.cal (d := d_parting) 21 22 rfl rfl rfl rfl rfl sc_parting (fun _ _ _ _ _ _ us hl => match us, hl with | [_, _, _], _ => rfl) (spF_len fun _ => rfl) fun f cdv A outer s H vs Q E hr h => ⟨_, (pss_cons (ps_set (i := 3) sc_parting.nd rfl (by first | exact Or.inl rfl | exact Or.inr rfl) (pe_cc C_lessened (hr.mono (by decide)) (by rfl) (pa_cons (pe_cc C_pay_at (hr.mono (by decide)) (by rfl) (pa_cons (pv 0) (pa_cons (pv 2) pa_nil))) (pa_cons (pe_cc C_pay_at (hr.mono (by decide)) (by rfl) (pa_cons (pv 1) (pa_cons (pv 2) pa_nil))) pa_nil))))
      (pss_one (ps_ret (pe_tup (pa_cons (pv 3) (pa_cons (pe_cc C_lessened (hr.mono (by decide)) (by rfl) (pa_cons (pe_cc C_rises_at (hr.mono (by decide)) (by rfl) (pa_cons (pv 0) (pa_cons (pv 2) pa_nil))) (pa_cons (pe_cc C_rises_at (hr.mono (by decide)) (by rfl) (pa_cons (pv 1) (pa_cons (pv 2) pa_nil))) pa_nil))) pa_nil)))))), ?_⟩
  obtain ⟨⟨c, d, x⟩, hd, ⟨hc, hdd, h0, hx⟩, k⟩ := h
  dsimp only at hd hc hdd h0 hx k
  obtain ⟨v, u, t, rfl, h1, h2, h3⟩ := dps_three hd
  have hx2 : Fine 1900 x := hx.mono (by decide)
  refine seq_ed (set_ed (ed_call (evc c x, evc d x) (eda_cons (ed_call (c, x) (eda_cons (ed_var rfl h1) (eda_cons (ed_var rfl h3) eda_nil)) ⟨hc, h0, hx2⟩) (eda_cons (ed_call (d, x) (eda_cons (ed_var rfl h2) (eda_cons (ed_var rfl h3) eda_nil)) ⟨hdd, h0, hx2⟩) eda_nil)) ⟨(hc.val h0 hx).fb (by decide), (hdd.val h0 hx).fb (by decide)⟩) fun m H1 e1 d1 => ?_)
  dsimp only
  refine ret_ed (K := K) (d := .tuple [fr (evc c x - evc d x), fr (rs c x - rs d x)]) ?_ fun u H4 e4 d4 => k u H4 (e1.trans e4) d4
  exact ed_tup (eda_cons (ed_var rfl d1) (eda_cons (ed_call (rs c x, rs d x) (eda_cons (ed_call (c, x) (eda_cons (ed_var rfl (dp_mono e1 h1)) (eda_cons (ed_var rfl (dp_mono e1 h3)) eda_nil)) ⟨hc, h0, hx2⟩) (eda_cons (ed_call (d, x) (eda_cons (ed_var rfl (dp_mono e1 h2)) (eda_cons (ed_var rfl (dp_mono e1 h3)) eda_nil)) ⟨hdd, h0, hx2⟩) eda_nil)) ⟨(hc.rs h0).fb (by decide), (hdd.rs h0).fb (by decide)⟩) eda_nil))
theorem sc_meetings : FnScope ["one", "other", "found", "levels", "at", "level", "more", "steeper", "met"] ["one", "other"] (defScope s_meetings) := ⟨rfl, rfl, rfl, by decide +kernel, rfl, by decide +kernel, by decide +kernel⟩
abbrev Cf_meetings (P w K mg base) := Cal P w K mg base "meetings" 8 ["one", "other"] (spL K (fun x : Cv × Cv => [cvD x.1, cvD x.2]) (fun x => Small x.1 ∧ Small x.2) fun x => (meets x.1 x.2 (lvls [x.1, x.2])).map fr)
theorem ok_meetings (T : Tx w K mg) (C_added : Cf_added P w K mg base) (C_compared : Cf_compared P w K mg base) (C_levels_of : Cf_levels_of P w K mg base) (C_over : Cf_over P w K mg base) (C_parting : Cf_parting P w K mg base) : Cf_meetings P w K mg base := by
  refine T.cal (d := d_meetings) 22 23 rfl rfl rfl rfl rfl sc_meetings (fun _ _ _ _ _ _ us hl => match us, hl with | [_, _], _ => rfl) (spL_len fun _ => rfl) fun f cdv A outer s H vs Q E hr h => ⟨_, (pss_cons (ps_par (i := 2) (j := 3) rfl sc_meetings.nd rfl rfl (by decide) rfl rfl (pa_cons (pe_lst pa_nil) (pa_cons (pe_cc C_levels_of (hr.mono (by decide)) (by rfl) (pa_cons (pe_lst (pa_cons (pv 0) (pa_cons (pv 1) pa_nil))) pa_nil)) pa_nil)) (by rfl))
      (pss_cons (ps_for PassesOwn.never rfl (pi_enumT (K := K) rfl (by rfl) T.f_enumerate (pa_cons (pv 3) pa_nil)) (pg_tup rfl (pgs_cons (pg_name (i := 4) sc_meetings.nd rfl (by first | exact Or.inl rfl | exact Or.inr rfl)) (pgs_cons (pg_name (i := 5) sc_meetings.nd rfl (by first | exact Or.inl rfl | exact Or.inr rfl)) pgs_nil))) (pss_cons (ps_asg (pe_cc C_parting (hr.mono (by decide)) (by rfl) (pa_cons (pv 0) (pa_cons (pv 1) (pa_cons (pv 5) pa_nil)))) (pg_tup rfl (pgs_cons (pg_name (i := 6) sc_meetings.nd rfl (by first | exact Or.inl rfl | exact Or.inr rfl)) (pgs_cons (pg_name (i := 7) sc_meetings.nd rfl (by first | exact Or.inl rfl | exact Or.inr rfl)) pgs_nil))))
      (pss_one (ps_if (pt_cmpR op_lt (pe_op op_mulW (pe_ix ix_seq (pv 6) pe_int (fun _ _ => rfl)) (pe_ix ix_seq (pv 7) pe_int (fun _ _ => rfl))) pe_int (nomark _)) (pss_cons (ps_set (i := 8) sc_meetings.nd rfl (by first | exact Or.inl rfl | exact Or.inr rfl) (pe_cc C_added (hr.mono (by decide)) (by rfl) (pa_cons (pv 5) (pa_cons (pe_cc C_over (hr.mono (by decide)) (by rfl) (pa_cons (pe_tup (pa_cons (pe_callB call_abs (by rfl) T.f_abs (by decide +kernel) (pa_cons (pe_ix ix_seq (pv 6) pe_int (fun _ _ => rfl)) pa_nil)) (pa_cons (pe_ix ix_seq (pv 6) pe_int (fun _ _ => rfl)) pa_nil))) (pa_cons (pe_tup (pa_cons (pe_callB call_abs (by rfl) T.f_abs (by decide +kernel) (pa_cons (pe_ix ix_seq (pv 7) pe_int (fun _ _ => rfl)) pa_nil)) (pa_cons (pe_ix ix_seq (pv 7) pe_int (fun _ _ => rfl)) pa_nil))) pa_nil))) pa_nil))))
      (pss_one (ps_if (PW.pt (pw_or (pt_cmpR (op_eqD hr.units) (pe_op op_add (pv 4) pe_int) (pe_callB call_len (by rfl) T.f_len (by decide +kernel) (pa_cons (pv 3) pa_nil)) (nomark _)) (pw_or1 (pt_cmpR op_lt (pe_cc C_compared (hr.mono (by decide)) (by rfl) (pa_cons (pv 8) (pa_cons (pe_ix ix_seq (pv 3) (pe_op op_add (pv 4) pe_int) (fun _ _ => rfl)) pa_nil))) pe_int (nomark _))))) (pss_one (ps_expr (pe_bm PySem.F.plainAttrs_list PySem.F.slot_list_append PySem.F.type_list_append mt_append (pv 2) (pa_cons (pv 8) pa_nil)))) pss_nil))) pss_nil))))
      (pss_one (ps_ret (pv 2))))), ?_⟩
  obtain ⟨⟨c, d⟩, hd, ⟨hc, hdd⟩, k⟩ := h
  dsimp only at hd hc hdd k
  obtain ⟨v, u, rfl, h1, h2⟩ := dps_two hd
  have hS := small2 hc hdd
  have hln := len_meets2 hc hdd
  have hside : lens [c, d] + 1 ≤ 1000000 := by
    have h2 : lens [c, d] = c.1.length + d.1.length := by simp [lens]
    have h3 := hc.ln
    have h4 := hdd.ln
    omega
  generalize hls : lvls [c, d] = ls at *
  have hfin : ∀ x ∈ ls, Fine 140 x ∧ 0 ≤ x := fun x hx => lvls_fine hS (by rw [hls]; exact hx)
  refine seq_ed (par_newl (K := K) (ds := []) (d := .tuple (ls.map fr)) (edl_lst eda_nil) ((ed_call [c, d] (eda_cons (ed_lst (eda_cons (ed_var rfl h1) (eda_cons (ed_var rfl h2) eda_nil))) eda_nil) ⟨fun z hz p hp => ((hS z hz).fc.lv p hp).fb (by decide), hside⟩).cast (by rw [hls])) fun p w1 H1 e1 hp l1 d1 => ?_)
  dsimp only
  refine seq_ed (for_enT (K := K) (ds := ls.map fr) (eda_cons (ed_var rfl d1) eda_nil) fun x H2 e2 d2 => ⟨fun n σ H' => ∃ (fs : List Rat) (o1 o2 o3 o4 o5 : Option V), σ = [some v, some u, some (.ref p), some w1, o1, o2, o3, o4, o5] ∧ Ex H H' ∧ Im H2 H' ∧ Lm K H' p (fs.map fr) ∧ fs ++ meets c d (ls.drop n) = meets c d ls,
    ⟨[], none, none, none, none, none, rfl, e1.trans e2, Im.refl _, l1.mono e2, rfl⟩, ?_, ?_, ?_⟩)
  · rintro n σ' H' hn ⟨fs, o1, o2, o3, o4, o5, rfl, e, im, l, hm⟩
    exact dp_im im (by simp only [nol]; exact nols_map nol_fr _) d2
  · rintro n dd lv σ' H0 H' hn e0 dl ⟨fs, o1, o2, o3, o4, o5, rfl, e, im, l, hm⟩
    obtain ⟨x, hx, rfl⟩ := get_map hn
    have hxm := List.mem_of_getElem? hx
    have hlt := (List.getElem?_eq_some_iff.mp hx).1
    have hdr : ls.drop n = x :: ls.drop (n + 1) := by rw [List.drop_eq_getElem_cons hlt, (List.getElem?_eq_some_iff.mp hx).2]
    have hme : meets c d (ls.drop n) = meetAt c d x ls[n + 1]? ++ meets c d (ls.drop (n + 1)) := by rw [hdr]; show meetAt c d x (ls.drop (n + 1)).head? ++ _ = _; rw [head_drop]
    rw [hme] at hm
    have hfl := (hfin x hxm).1
    have hf0 := (hfin x hxm).2
    have e' := e.trans e0
    have f1 := (hc.val hf0 hfl).sub (hdd.val hf0 hfl)
    have f2 := (hc.rs hf0).sub (hdd.rs hf0)
    have lens2 : fs.length ≤ 200001 := by
      have := congrArg List.length hm
      rw [List.length_append] at this
      omega
    dsimp only
    refine seq_ed (unp2_ed (K := K) (ed_call (c, d, x) (eda_cons (ed_var rfl (dp_mono e' h1)) (eda_cons (ed_var rfl (dp_mono e' h2)) (eda_cons (ed_var rfl dl) eda_nil))) ⟨hc, hdd, hf0, hfl⟩) fun mo st H3 e3 d3 d4 => ?_)
    dsimp only at d3 d4 ⊢
    generalize hM : evc c x - evc d x = M at *
    generalize hSt : rs c x - rs d x = S at *
    have hma : ∀ nx, meetAt c d x nx = if M * S < 0 then (match nx with | none => [x + absR M / absR S] | some n => if x + absR M / absR S < n then [x + absR M / absR S] else []) else [] := fun nx => by rw [← hM, ← hSt]; rfl
    have e3' := e'.trans e3
    refine if_et (K := K) (b := decide (M * S < 0)) (et_test ((ed_lt (ed_mul (ed_ixT (ed_var rfl d3) ed_int rfl) (ed_ixT (ed_var rfl d4) ed_int rfl) (cmul f1.1 f2.1)) ed_int).cast (congrArg PyData.bool (decide_eq_decide.mpr num_mul_neg)))) (fun hb H4 e4 => ?_) fun hb H4 e4 => ?_
    · have hb := of_decide_eq_true hb
      have hS0 : S ≠ 0 := fun z => by rw [z] at hb; grind
      have f3 : Fine 2612 (absR M / absR S) := ((fine_absR f1).div (fine_absR f2) (absR_pos hS0)).mono (by decide)
      have f4 := hfl.add f3
      refine seq_ed (set_ed (K := K) (d := fr (x + absR M / absR S)) (ed_call (x, absR M / absR S) (eda_cons (ed_var rfl (dp_mono (e3.trans e4) dl)) (eda_cons (ed_call (absR M, absR S)
        (eda_cons ((ed_tup (eda_cons (ed_abs (ed_ixT (ed_var rfl (dp_mono e4 d3)) ed_int rfl)) (eda_cons (ed_ixT (ed_var rfl (dp_mono e4 d3)) ed_int rfl) eda_nil))).cast (fr_absR M).symm)
          (eda_cons ((ed_tup (eda_cons (ed_abs (ed_ixT (ed_var rfl (dp_mono e4 d4)) ed_int rfl)) (eda_cons (ed_ixT (ed_var rfl (dp_mono e4 d4)) ed_int rfl) eda_nil))).cast (fr_absR S).symm) eda_nil)) ⟨(fine_absR f1).fb (by decide), (fine_absR f2).fb (by decide), absR_pos hS0⟩) eda_nil)) ⟨hfl.fb (by decide), f3.fb (by decide)⟩) fun met H5 e5 d5 => ?_)
      dsimp only
      generalize hX : x + absR M / absR S = y at *
      have im5 : Im H2 H5 := im.trans (im_ex (((e0.trans e3).trans e4).trans e5))
      have d1' : Dp K H5 w1 (.tuple (ls.map fr)) := dp_im im5 (by simp only [nol]; exact nols_map nol_fr _) (dp_mono e2 d1)
      refine if_et (K := K) (b := (decide ((n : Int) + 1 = ((ls.map fr).length : Int)) || match ls[n + 1]? with | none => false | some z => decide (y < z))) (et_or (et_test (ed_eqi (ed_add (ed_var rfl (.int _)) ed_int) (ed_lenT (ed_var rfl d1')))) fun hb2 => ?_) (fun hb2 H6 e6 => ?_) fun hb2 H6 e6 => ?_
      · have hb2 := of_decide_eq_false hb2
        rw [List.length_map] at hb2
        have hj : n + 1 < ls.length := by omega
        have hg := List.getElem?_eq_getElem hj
        rw [hg]
        show Et K _ _ _ (decide (y < ls[n + 1]))
        refine (et_test (ed_lt (ed_call (y, ls[n + 1]) (eda_cons (ed_var rfl d5) (eda_cons (ed_ixT (ed_var rfl d1') (ed_add (ed_var rfl (.int _)) ed_int) (atI_map (i := n + 1) hg)) eda_nil)) ⟨f4.fb (by decide), (hfin _ (List.getElem_mem hj)).1.fb (by decide)⟩) ed_int)).cast ?_
        exact decide_eq_decide.mpr cmpR_neg
      · have l6 := l.mono ((((e0.trans e3).trans e4).trans e5).trans e6)
        refine app_ed rfl l6 (nols_map nol_fr _) (ed_var rfl (dp_mono e6 d5)) (nol_fr _) (by rw [List.length_map]; show _ < 16777216; omega) fun H7 b7 i7 l7 => ⟨fs ++ [y], _, _, _, _, _, rfl, b7.ex hp (((e3'.trans e4).trans e5).trans e6), (im5.trans (im_ex e6)).trans i7, by rw [List.map_append]; exact l7, ?_⟩
        rw [← hm, hma, if_pos hb]
        cases hg : ls[n + 1]? with
        | none => simp
        | some z =>
          rw [hg] at hb2
          have hj := (List.getElem?_eq_some_iff.mp hg).1
          rw [List.length_map, decide_eq_false (by omega), Bool.false_or] at hb2
          dsimp only
          rw [if_pos (of_decide_eq_true hb2)]; simp
      · refine ⟨fs, _, _, _, _, _, rfl, ((e3'.trans e4).trans e5).trans e6, im5.trans (im_ex e6), l.mono ((((e0.trans e3).trans e4).trans e5).trans e6), ?_⟩
        rw [← hm, hma, if_pos hb]
        rw [Bool.or_eq_false_iff] at hb2
        cases hg : ls[n + 1]? with
        | none =>
          have := List.getElem?_eq_none_iff.mp hg
          have h9 := of_decide_eq_false hb2.1
          rw [List.length_map] at h9
          omega
        | some z =>
          have h9 := hb2.2
          rw [hg] at h9
          dsimp only
          rw [if_neg (of_decide_eq_false h9)]; simp
    · have hb := of_decide_eq_false hb
      refine ⟨fs, _, _, _, _, _, rfl, e3'.trans e4, im.trans (im_ex ((e0.trans e3).trans e4)), l.mono ((e0.trans e3).trans e4), ?_⟩
      rw [← hm, hma, if_neg hb]; simp
  · rintro σ' H' ⟨fs, o1, o2, o3, o4, o5, rfl, e, im, l, hm⟩
    rw [List.length_map, List.drop_length] at hm
    have hm : fs = meets c d ls := by rw [← hm]; simp [meets]
    subst hm
    dsimp only
    exact ⟨_, rfl, k p H' e hp l⟩
end
end Sw
namespace Sw
open PySem PySem.Spec PyProof.Rows L2 Evl SwT
section
variable {K : PySem.W.Frag} {σ : L2.St} {H H' : Hp} {ta tb : TE}
theorem ed_andV {a b : Bool} (h1 : Ed K ta σ H (.bool a)) (h2 : a = true → Ed K tb σ H (.bool b)) : Ed K (tAndV ta tb) σ H (.bool (a && b)) := fun H1 e Q q => h1 H1 e _ fun v H2 e2 d => ⟨a, dp_bool d, by
  cases a with
  | true => rw [if_pos rfl]; exact h2 rfl H2 (e.trans e2) Q fun v H3 e3 d3 => q v H3 (e2.trans e3) d3
  | false => rw [if_neg Bool.false_ne_true]; exact q _ H2 e2 (.bl _)⟩
theorem ed_orV {a b : Bool} (h1 : Ed K ta σ H (.bool a)) (h2 : a = false → Ed K tb σ H (.bool b)) : Ed K (tOrV ta tb) σ H (.bool (a || b)) := fun H1 e Q q => h1 H1 e _ fun v H2 e2 d => ⟨a, dp_bool d, by
  cases a with
  | true => rw [if_pos rfl]; exact q _ H2 e2 (.bl _)
  | false => rw [if_neg Bool.false_ne_true]; exact h2 rfl H2 (e.trans e2) Q fun v H3 e3 d3 => q v H3 (e2.trans e3) d3⟩
theorem ed_notV {a : Bool} (h1 : Ed K ta σ H (.bool a)) : Ed K (tNotV ta) σ H (.bool (!a)) := fun H1 e Q q => h1 H1 e _ fun v H2 e2 d => ⟨a, dp_bool d, q _ H2 e2 (.bl _)⟩
end
theorem ed_call0 {K : PySem.W.Frag} {σ : L2.St} {H : Hp} {α : Type} {args : α → List PyData} {pre : α → Prop} {res : α → PyData} (x : α) (hp : pre x) (h0 : args x = [] := by rfl) : Ed K (tCall (spF K args pre res) [] E0 tNil) σ H (res x) := ed_call x (by rw [h0]; exact eda_nil) hp
theorem maxOf_if (c d : Cv) (x : Rat) : maxOf c d x = if evc d x < evc c x then evc c x else evc d x := by
  unfold maxOf
  rw [Rat.max_def]
  split <;> split <;> grind
theorem canon_len (cs : List Pt) (s : Rat) : (canon cs s).length ≤ cs.length := by
  cases cs with
  | nil => exact Nat.le_refl _
  | cons a r => simp only [canon, List.length_cons]; have := len_canonGo r a s; omega
theorem greater_len (c d : Cv) : (greaterOf c d).1.length ≤ 2 * (c.1.length + d.1.length + 1) := by
  have h1 := lens_lvls [c, d]
  have h2 : lens [c, d] = c.1.length + d.1.length := by simp [lens]
  have h3 := len_meets (c := c) (d := d) (lvls [c, d])
  have h4 := len_inOrder (lvls [c, d] ++ meets c d (lvls [c, d]))
  rw [List.length_append] at h4
  have h5 := canon_len ((gLvls c d).map fun l => (l, maxOf c d l)) (gSlope c d)
  rw [List.length_map] at h5
  have h6 : (gLvls c d).length = (inOrder (lvls [c, d] ++ meets c d (lvls [c, d]))).length := rfl
  show (canon _ _).length ≤ _
  omega
theorem greater_small {c d : Cv} (hc : Small c) (hd : Small d) (hl : c.1.length + d.1.length ≤ 40000) : Small (greaterOf c d) := by
  have h := greaterOf_is hc.ok hd.ok
  exact ⟨h.ok, (gl_max hc.gl hd.gl).congr fun x hx => h.evc hx, by have := greater_len c d; omega⟩
theorem zero_small : Small zeroCv := ⟨zero_ok, (gl_zero (M := (MM : Rat)) Rat.natCast_nonneg).congr fun x hx => zero_is.evc hx, by decide⟩
def gbnd : Nat → Nat
  | 0 => 1
  | n + 1 => 2 * (gbnd n + 201)
theorem greatest_small : ∀ (L : List Cv) (z : Cv) (n : Nat), (∀ c ∈ L, Small c ∧ c.1.length ≤ 200) → Small z → z.1.length ≤ gbnd n → n + L.length ≤ 4 → Small (L.foldl greaterOf z) ∧ (L.foldl greaterOf z).1.length ≤ gbnd (n + L.length)
  | [], z, n, _, hz, hl, _ => ⟨hz, hl⟩
  | c :: L, z, n, h, hz, hl, hn => by
    rw [List.length_cons] at hn
    obtain ⟨h1, h2⟩ := h c List.mem_cons_self
    have h3 := greater_len z c
    have h4 : gbnd n ≤ 6046 := by
      have : n = 0 ∨ n = 1 ∨ n = 2 ∨ n = 3 := by omega
      rcases this with rfl | rfl | rfl | rfl <;> decide
    have := greatest_small L (greaterOf z c) (n + 1) (fun x hx => h x (List.mem_cons_of_mem _ hx)) (greater_small hz h1 (by omega)) (by show _ ≤ 2 * (gbnd n + 201); omega) (by omega)
    rw [List.length_cons, show n + (L.length + 1) = n + 1 + L.length by omega]
    exact this
section
variable {P : Program} {w : World} {K : PySem.W.Frag} {mg : Str → Option Value} {base : Heap}
theorem sc_greater_of : FnScope ["one", "other", "corners", "level", "more", "steeper", "is_mine", "mine", "its"] ["one", "other"] (defScope s_greater_of) := ⟨rfl, rfl, rfl, by decide +kernel, rfl, by decide +kernel, by decide +kernel⟩
abbrev Cf_greater_of (P w K mg base) := Cal P w K mg base "greater_of" 9 ["one", "other"] (spF K (fun x : Cv × Cv => [cvD x.1, cvD x.2]) (fun x => Small x.1 ∧ Small x.2) fun x => cvD (greaterOf x.1 x.2))
theorem ok_greater_of (T : Tx w K mg) (C_compared : Cf_compared P w K mg base) (C_curve : Cf_curve P w K mg base) (C_in_order : Cf_in_order P w K mg base) (C_levels_of : Cf_levels_of P w K mg base) (C_meetings : Cf_meetings P w K mg base) (C_parting : Cf_parting P w K mg base) (C_pay_at : Cf_pay_at P w K mg base) : Cf_greater_of P w K mg base := by
  refine T.cal (d := d_greater_of) 23 24 rfl rfl rfl rfl rfl sc_greater_of (fun _ _ _ _ _ _ us hl => match us, hl with | [_, _], _ => rfl) (spF_len fun _ => rfl) fun f cdv A outer s H vs Q E hr h => ⟨_, (pss_cons (ps_set (i := 2) sc_greater_of.nd rfl (by first | exact Or.inl rfl | exact Or.inr rfl) (pe_lst pa_nil))
      (pss_cons (ps_for PassesOwn.never rfl (pi_tup (pe_cc C_in_order (hr.mono (by decide)) (by rfl) (pa_cons (pe_op op_cat (pe_callTy call_list_of (by rfl) T.f_list (by decide +kernel) (pa_cons (pe_cc C_levels_of (hr.mono (by decide)) (by rfl) (pa_cons (pe_lst (pa_cons (pv 0) (pa_cons (pv 1) pa_nil))) pa_nil)) pa_nil)) (pe_cc C_meetings (hr.mono (by decide)) (by rfl) (pa_cons (pv 0) (pa_cons (pv 1) pa_nil)))) pa_nil))) (pg_name (i := 3) sc_greater_of.nd rfl (by first | exact Or.inl rfl | exact Or.inr rfl)) (pss_cons (ps_par (i := 7) (j := 8) rfl sc_greater_of.nd rfl rfl (by decide) rfl rfl (pa_cons (pe_cc C_pay_at (hr.mono (by decide)) (by rfl) (pa_cons (pv 0) (pa_cons (pv 3) pa_nil))) (pa_cons (pe_cc C_pay_at (hr.mono (by decide)) (by rfl) (pa_cons (pv 1) (pa_cons (pv 3) pa_nil))) pa_nil)) (by rfl))
      (pss_one (ps_expr (pe_bm PySem.F.plainAttrs_list PySem.F.slot_list_append PySem.F.type_list_append mt_append (pv 2) (pa_cons (pe_tup (pa_cons (pv 3) (pa_cons (pe_ifExp (pt_cmpR op_gt (pe_cc C_compared (hr.mono (by decide)) (by rfl) (pa_cons (pv 7) (pa_cons (pv 8) pa_nil))) pe_int (nomark _)) (pv 7) (pv 8)) pa_nil))) pa_nil))))))
      (pss_cons (ps_asg (pe_cc C_parting (hr.mono (by decide)) (by rfl) (pa_cons (pv 0) (pa_cons (pv 1) (pa_cons (pe_ix ix_seq (pe_ix ix_seq (pv 2) (pe_un un_neg pe_int) (fun _ _ => rfl)) pe_int (fun _ _ => rfl)) pa_nil)))) (pg_tup rfl (pgs_cons (pg_name (i := 4) sc_greater_of.nd rfl (by first | exact Or.inl rfl | exact Or.inr rfl)) (pgs_cons (pg_name (i := 5) sc_greater_of.nd rfl (by first | exact Or.inl rfl | exact Or.inr rfl)) pgs_nil))))
      (pss_cons (ps_set (i := 6) sc_greater_of.nd rfl (by first | exact Or.inl rfl | exact Or.inr rfl) (pe_or (pe_cmpR op_gt (pe_ix ix_seq (pv 4) pe_int (fun _ _ => rfl)) pe_int (nomark _)) (pe_one (pe_and (pe_cmpR (op_eqD hr.units) (pe_ix ix_seq (pv 4) pe_int (fun _ _ => rfl)) pe_int (nomark _)) (pe_one (pe_cmpR op_gt (pe_ix ix_seq (pv 5) pe_int (fun _ _ => rfl)) pe_int (nomark _)))))))
      (pss_one (ps_ret (pe_cc C_curve (hr.mono (by decide)) (by rfl) (pa_cons (pv 2) (pa_cons (pe_ifExp (pt_val (pv 6)) (pe_ix ix_seq (pv 0) pe_int (fun _ _ => rfl)) (pe_ix ix_seq (pv 1) pe_int (fun _ _ => rfl))) pa_nil))))))))), ?_⟩
  obtain ⟨⟨c, d⟩, hd, ⟨hc, hdd⟩, k⟩ := h
  dsimp only at hd hc hdd k
  obtain ⟨v, u, rfl, h1, h2⟩ := dps_two hd
  have hS := small2 hc hdd
  have hln := len_meets2 hc hdd
  have hside : lens [c, d] + 1 ≤ 1000000 := by
    have h2 : lens [c, d] = c.1.length + d.1.length := by simp [lens]
    have h3 := hc.ln
    have h4 := hdd.ln
    omega
  have hgl : (gLvls c d).length ≤ 400002 := by
    have h4 := len_inOrder (lvls [c, d] ++ meets c d (lvls [c, d]))
    rw [List.length_append] at h4
    have h6 : (gLvls c d).length = (inOrder (lvls [c, d] ++ meets c d (lvls [c, d]))).length := rfl
    omega
  have hfin : ∀ x ∈ gLvls c d, Fine 140 x ∧ 0 ≤ x := fun x hx => gl_fine hc hdd hx
  have hval : ∀ x ∈ gLvls c d, Fine 341 (evc c x) ∧ Fine 341 (evc d x) := fun x hx => ⟨hc.val (hfin x hx).2 (hfin x hx).1, hdd.val (hfin x hx).2 (hfin x hx).1⟩
  have hff : ∀ q ∈ lvls [c, d] ++ meets c d (lvls [c, d]), Fine FB q := fun q hq => by
    rcases List.mem_append.mp hq with z | z
    · exact (lvls_fine hS z).1.fb (by decide)
    · exact (meets_fine hc hdd z).1.fb (by decide)
  refine seq_ed (newl_ed (K := K) (edl_lst eda_nil) fun p H1 e1 hp l1 => ?_)
  dsimp only
  refine seq_ed (for_dt (K := K) (ds := (gLvls c d).map fr) ((ed_call (lvls [c, d] ++ meets c d (lvls [c, d])) (eda_cons ((edl_cat (ds := (lvls [c, d]).map fr) (es := (meets c d (lvls [c, d])).map fr) (edl_listT (ed_call [c, d] (eda_cons (ed_lst (eda_cons (ed_var rfl (dp_mono e1 h1)) (eda_cons (ed_var rfl (dp_mono e1 h2)) eda_nil))) eda_nil)
      ⟨fun z hz p hp => ((hS z hz).fc.lv p hp).fb (by decide), hside⟩)).toT (edl_call (c, d) (eda_cons (ed_var rfl (dp_mono e1 h1)) (eda_cons (ed_var rfl (dp_mono e1 h2)) eda_nil)) ⟨hc, hdd⟩).toT (by rw [List.length_map, List.length_map]; show _ ≤ 16777216; omega)).toD.cast (by rw [List.map_append])) eda_nil)
      ⟨by rw [List.length_append]; omega, hff⟩)) fun x H2 e2 d2 =>
    ⟨fun n σ H' => ∃ (o1 o2 o3 o4 o5 o6 : Option V), σ = [some v, some u, some (.ref p), o1, o2, o3, o4, o5, o6] ∧ Ex H H' ∧ Im H2 H' ∧ Lm K H' p ((((gLvls c d).take n).map fun l => (l, maxOf c d l)).map ptD), ⟨none, none, none, none, none, none, rfl, e1.trans e2, Im.refl _, l1.mono e2⟩, ?_, ?_, ?_⟩)
  · rintro n σ' H' hn ⟨o1, o2, o3, o4, o5, o6, rfl, e, im, l⟩
    exact dp_im im (by simp only [nol]; exact nols_map nol_fr _) d2
  · rintro n dd lv σ' H' hn dl ⟨o1, o2, o3, o4, o5, o6, rfl, e, im, l⟩
    obtain ⟨x, hx, rfl⟩ := get_map hn
    have hxm := List.mem_of_getElem? hx
    obtain ⟨hfl, hf0⟩ := hfin x hxm
    obtain ⟨f1, f2⟩ := hval x hxm
    refine seq_ed (par_ed (K := K) (eda_cons (ed_call (c, x) (eda_cons (ed_var rfl (dp_mono e h1)) (eda_cons (ed_var rfl dl) eda_nil)) ⟨hc, hf0, hfl.mono (by decide)⟩) (eda_cons (ed_call (d, x) (eda_cons (ed_var rfl (dp_mono e h2)) (eda_cons (ed_var rfl dl) eda_nil)) ⟨hdd, hf0, hfl.mono (by decide)⟩) eda_nil)) fun mi it H3 e3 d3 d4 => ?_)
    dsimp only at d3 d4 ⊢
    refine app_ed (K := K) rfl (l.mono e3) (nols_map nol_pt _) (d := ptD (x, maxOf c d x)) (ed_tup (eda_cons (ed_var rfl (dp_mono e3 dl)) (eda_cons (ed_if (b := decide (evc d x < evc c x)) ((et_test (ed_gt (ed_call (evc c x, evc d x) (eda_cons (ed_var rfl d3) (eda_cons (ed_var rfl d4) eda_nil)) ⟨f1.fb (by decide), f2.fb (by decide)⟩) ed_int)).cast (decide_eq_decide.mpr cmpR_pos)) (fun hb => ?_) fun hb => ?_) eda_nil))) (nol_pt _)
      (by rw [List.length_map, List.length_map, List.length_take]; show _ < 16777216; omega) fun H4 b4 i4 l4 => ⟨_, _, _, _, _, _, rfl, b4.ex hp (e.trans e3), (im.trans (im_ex e3)).trans i4, ?_⟩
    · show Ed K _ _ _ (fr (maxOf c d x))
      rw [maxOf_if, if_pos (of_decide_eq_true hb)]
      exact ed_var rfl d3
    · show Ed K _ _ _ (fr (maxOf c d x))
      rw [maxOf_if, if_neg (of_decide_eq_false hb)]
      exact ed_var rfl d4
    · rw [take_snoc hx, List.map_append, List.map_append]; exact l4
  · rintro σ' H' ⟨o1, o2, o3, o4, o5, o6, rfl, e, im, l⟩
    rw [List.length_map, List.take_length] at l
    obtain ⟨r0, hr0⟩ := gLvls_head hc.ok hdd.ok
    have hla := gLast hc.ok hdd.ok
    generalize hL : (gLvls c d).getLastD 0 = la at *
    have hsplit : ∃ ini, gLvls c d = ini ++ [la] := by
      have hne : gLvls c d ≠ [] := by rw [hr0]; simp
      refine ⟨(gLvls c d).dropLast, ?_⟩
      rw [← hL, List.getLastD_eq_getLast?, List.getLast?_eq_some_getLast hne]
      exact (List.dropLast_concat_getLast hne).symm
    obtain ⟨ini, hini⟩ := hsplit
    have hcl : atI (((gLvls c d).map fun l => (l, maxOf c d l)).map ptD) (-1) = some (ptD (la, maxOf c d la)) := by rw [hini, List.map_append]; exact atI_mapL _ _
    obtain ⟨hfl, hf0⟩ := hfin la hla.1
    dsimp only
    refine seq_ed (unp2_ed (K := K) (ed_call (c, d, la) (eda_cons (ed_var rfl (dp_mono e h1)) (eda_cons (ed_var rfl (dp_mono e h2)) (eda_cons (ed_ixT (ed_ixL (edt_var rfl l).toD (ed_neg ed_int) hcl) ed_int rfl) eda_nil))) ⟨hc, hdd, hf0, hfl⟩) fun mo st H3 e3 d3 d4 => ?_)
    dsimp only at d3 d4 ⊢
    have hgs : gSlope c d = if evc c la - evc d la > 0 ∨ (evc c la - evc d la = 0 ∧ rs c la - rs d la > 0) then c.2 else d.2 := by unfold gSlope; rw [hL]
    generalize hM : evc c la - evc d la = M at *
    generalize hSt : rs c la - rs d la = S at *
    refine seq_ed (set_ed (K := K) (d := .bool (decide (0 < M.num) || (decide (M.num = 0) && decide (0 < S.num)))) (ed_orV (ed_gt (ed_ixT (ed_var rfl d3) ed_int rfl) ed_int) fun _ => ed_andV (ed_eqi (ed_ixT (ed_var rfl d3) ed_int rfl) ed_int) fun _ => ed_gt (ed_ixT (ed_var rfl d4) ed_int rfl) ed_int) fun im2 H4 e4 d5 => ?_)
    have e' := (e.trans e3).trans e4
    dsimp only
    refine ret_ed (K := K) (d := cvD (greaterOf c d)) ?_ fun z H5 e5 d6 => k z H5 (e'.trans e5) d6
    have hq : (decide (0 < M.num) || (decide (M.num = 0) && decide (0 < S.num))) = decide (M > 0 ∨ (M = 0 ∧ S > 0)) := by
      rw [Bool.eq_iff_iff]
      simp [num_pos', Rat.num_eq_zero]
    refine ed_call (true, ((gLvls c d).map fun l => (l, maxOf c d l)), gSlope c d) (eda_cons (edt_var rfl (l.mono (e3.trans e4))).toD (eda_cons (ed_if (et_B (ed_var rfl d5)) (fun hb => ?_) fun hb => ?_) eda_nil)) ⟨?_, srt_map (sr_inOrder _), fun pt hpt => ?_, ?_⟩
    · rw [hq] at hb
      show Ed K _ _ _ (fr (gSlope c d))
      rw [hgs, if_pos (of_decide_eq_true hb)]
      exact ed_ixT (ed_var rfl (dp_mono e' h1)) ed_int rfl
    · rw [hq] at hb
      show Ed K _ _ _ (fr (gSlope c d))
      rw [hgs, if_neg (of_decide_eq_false hb)]
      exact ed_ixT (ed_var rfl (dp_mono e' h2)) ed_int rfl
    · show (gLvls c d).map _ ≠ []
      rw [hini]; simp
    · obtain ⟨x, hx, rfl⟩ := List.mem_map.mp hpt
      refine ⟨(hfin x hx).1.mono (by decide), ?_⟩
      show Fine 1900 (maxOf c d x)
      rw [maxOf_if]
      split
      · exact (hval x hx).1.mono (by decide)
      · exact (hval x hx).2.mono (by decide)
    · show ((gLvls c d).map _).length ≤ _
      rw [List.length_map]; omega
theorem sc_greatest : FnScope ["curves", "found", "one"] ["curves"] (defScope s_greatest) := ⟨rfl, rfl, rfl, by decide +kernel, rfl, by decide +kernel, by decide +kernel⟩
abbrev Cf_greatest (P w K mg base) := Cal P w K mg base "greatest" 10 ["curves"] (spF K (fun L : List Cv => [.list (L.map cvD)]) (fun L => (∀ c ∈ L, Small c ∧ c.1.length ≤ 200) ∧ L.length ≤ 4) fun L => cvD (greatestOf L))
theorem ok_greatest (T : Tx w K mg) (C_greater_of : Cf_greater_of P w K mg base) (C_nothing : Cf_nothing P w K mg base) : Cf_greatest P w K mg base := by
  refine T.cal (d := d_greatest) 24 25 rfl rfl rfl rfl rfl sc_greatest (fun _ _ _ _ _ _ us hl => match us, hl with | [_], _ => rfl) (spF_len fun _ => rfl) fun f cdv A outer s H vs Q E hr h => ⟨_, (pss_cons (ps_set (i := 1) sc_greatest.nd rfl (by first | exact Or.inl rfl | exact Or.inr rfl) (pe_cc0 C_nothing (hr.mono (by decide)) (by rfl)))
      (pss_cons (ps_for PassesOwn.never rfl (pi_list (pv 0)) (pg_name (i := 2) sc_greatest.nd rfl (by first | exact Or.inl rfl | exact Or.inr rfl)) (pss_one (ps_set (i := 1) sc_greatest.nd rfl (by first | exact Or.inl rfl | exact Or.inr rfl) (pe_cc C_greater_of (hr.mono (by decide)) (by rfl) (pa_cons (pv 1) (pa_cons (pv 2) pa_nil))))))
      (pss_one (ps_ret (pv 1))))), ?_⟩
  obtain ⟨L, hd, ⟨hS, hl⟩, k⟩ := h
  dsimp only at hd hS hl k
  obtain ⟨v, rfl, h1⟩ := dps_one hd
  refine seq_ed (set_ed (K := K) (d := cvD zeroCv) (ed_call0 () trivial) fun z H1 e1 dz => ?_)
  dsimp only
  refine seq_ed (for_vl (K := K) rfl (dp_mono e1 h1) (fun n σ H' => ∃ (zz : V) (o : Option V), σ = [some v, some zz, o] ∧ Ex H H' ∧ Dp K H' zz (cvD ((L.take n).foldl greaterOf zeroCv))) ⟨z, none, rfl, e1, dz⟩ (fun n σ' H' _ ⟨_, _, _, e, _⟩ => dp_mono e h1) ?_ ?_)
  · rintro n dd u σ' H' hn du ⟨zz, o, rfl, e, dz⟩
    obtain ⟨c, hc, rfl⟩ := get_map hn
    have hcm := List.mem_of_getElem? hc
    have hlt := (List.getElem?_eq_some_iff.mp hc).1
    have hsm := greatest_small (L.take n) zeroCv 0 (fun c hc => hS c (List.mem_of_mem_take hc)) zero_small (by decide) (by rw [List.length_take]; omega)
    refine set_ed (K := K) (ed_call ((L.take n).foldl greaterOf zeroCv, c) (eda_cons (ed_var rfl dz) (eda_cons (ed_var rfl du) eda_nil)) ⟨hsm.1, (hS c hcm).1⟩) fun y H2 e2 d2 => ⟨y, _, rfl, e.trans e2, ?_⟩
    rw [take_snoc hc, List.foldl_append]
    exact d2
  · rintro σ' H' ⟨zz, o, rfl, e, dz⟩
    rw [List.length_map, List.take_length] at dz
    dsimp only
    exact ret_ed (K := K) (d := cvD (greatestOf L)) (ed_var rfl dz) fun y H5 e5 d6 => k y H5 (e.trans e5) d6
end
end Sw
namespace Sw
open PySem PySem.Spec PyProof.Rows L2 Evl SwT
def optD : Option Rat → PyData
  | none => .none
  | some q => fr q
theorem numbered_pts (cs : List Pt) : numbered (cs.map ptD) = (List.range cs.length).map fun i : Nat => PyData.tuple [.int (i : Int), ptD (cs.getD i (0, 0))] := by
  unfold numbered
  apply List.ext_getElem?
  intro i
  rw [List.getElem?_mapIdx, List.getElem?_map, List.getElem?_map]
  by_cases h : i < cs.length
  · rw [List.getElem?_range h, List.getElem?_eq_getElem h]
    simp [List.getD_eq_getElem?_getD, List.getElem?_eq_getElem h]
  · rw [List.getElem?_eq_none (by omega), List.getElem?_eq_none (by simp; omega)]; rfl
theorem srt_filter {q : Pt → Bool} : ∀ {cs : List Pt}, Srt cs → Srt (cs.filter q)
  | [], _ => trivial
  | a :: r, h => by
    have ih := srt_filter (q := q) h.tail
    rw [List.filter_cons]
    split
    · exact Srt.cons ih fun p hp => h.lt (List.mem_filter.mp hp).1
    · exact ih
theorem srt_snoc {l : Pt} : ∀ {cs : List Pt}, Srt cs → (∀ p ∈ cs, p.1 < l.1) → Srt (cs ++ [l])
  | [], _, _ => trivial
  | a :: r, h, hl => by
    have ih := srt_snoc (l := l) h.tail fun p hp => hl p (List.mem_cons_of_mem _ hp)
    refine Srt.cons ih fun p hp => ?_
    rcases List.mem_append.mp hp with z | z
    · exact h.lt z
    · rw [List.mem_singleton.mp z]; exact hl a List.mem_cons_self
theorem reached_cases (c : Cv) (pay : Rat) : (below c pay = [] ∧ reachedC c pay = some 0) ∨ ∃ ini i, below c pay = ini ++ [i] ∧ i < c.1.length ∧
    reachedC c pay = if hs (c.1.drop i) c.2 = 0 then none else some ((c.1.getD i (0, 0)).1 + (pay - (c.1.getD i (0, 0)).2) / hs (c.1.drop i) c.2) := by
  unfold reachedC
  by_cases h : below c pay = []
  · exact .inl ⟨h, by rw [h]; rfl⟩
  · have h1 := List.getLast?_eq_some_getLast h
    refine .inr ⟨(below c pay).dropLast, (below c pay).getLast h, (List.dropLast_concat_getLast h).symm, (below_mem.mp (List.getLast_mem h)).1, ?_⟩
    rw [h1]
theorem reached_fine {c : Cv} (h : Small c) (hm : Mono (evc c)) {B : Nat} {pay l : Rat} (hp : Fine B pay) (e : reachedC c pay = some l) : Fine (B + 1600) l := by
  rcases reached_cases c pay with ⟨_, z⟩ | ⟨ini, i, _, hi, z⟩
  · rw [z] at e; cases e; exact fine_zero.mono (by omega)
  · rw [z] at e
    split at e
    · cases e
    · rename_i hne
      cases e
      have hg := getD_some hi
      have hpm := List.mem_of_getElem? hg
      have h0 := h.ok.slope_nonneg hm hg
      exact ((h.fc.lv _ hpm).add ((hp.sub (h.fc.py _ hpm)).div (h.slope hg) (by grind))).mono (by omega)
section
variable {P : Program} {w : World} {K : PySem.W.Frag} {mg : Str → Option Value} {base : Heap}
theorem non_fr {H : Hp} {v : V} {q : Rat} (h : Dp K H v (fr q)) : decide (v = .non) = false := by
  obtain ⟨a, vs, rfl, _⟩ := dp_tup h
  rfl
theorem sc_reached : FnScope ["one", "pay", "ahead", "level", "paid", "slope", "at", "corner"] ["one", "pay"] (defScope s_reached) := ⟨rfl, rfl, rfl, by decide +kernel, rfl, by decide +kernel, by decide +kernel⟩
abbrev Cf_reached (P w K mg base) := Cal P w K mg base "reached" 6 ["one", "pay"] (spF K (fun x : Cv × Rat => [cvD x.1, fr x.2]) (fun x => Small x.1 ∧ Mono (evc x.1) ∧ Fine 1500 x.2) fun x => optD (reachedC x.1 x.2))
theorem ok_reached (T : Tx w K mg) (C_added : Cf_added P w K mg base) (C_compared : Cf_compared P w K mg base) (C_lessened : Cf_lessened P w K mg base) (C_over : Cf_over P w K mg base) (C_slope_behind : Cf_slope_behind P w K mg base) : Cf_reached P w K mg base := by
  refine T.cal (d := d_reached) 25 26 rfl rfl rfl rfl rfl sc_reached (fun _ _ _ _ _ _ us hl => match us, hl with | [_, _], _ => rfl) (spF_len fun _ => rfl) fun f cdv A outer s H vs Q E hr h => ⟨_, (pss_cons (ps_setLc (i := 2) rfl sc_reached.nd rfl rfl (sw_true rfl rfl rfl (by decide +kernel)) (pi_enumT (K := K) rfl (by rfl) T.f_enumerate (pa_cons (pe_ix ix_seq (pv 0) pe_int (fun _ _ => rfl)) pa_nil)) (blkOk_by (own := [("at", 6), ("corner", 7)]) (N := ["one", "pay", "ahead", "level", "paid", "slope", "at", "corner"]) (by kernel_rfl)) (fun _ _ _ _ _ => (pg_tupK (K := K) (n := 2) rfl rfl (pgs_cons (pg_name (i := 6) sc_reached.nd rfl (by first | exact Or.inl rfl | exact Or.inr rfl)) (pgs_cons (pg_name (i := 7) sc_reached.nd rfl (by first | exact Or.inl rfl | exact Or.inr rfl)) pgs_nil)))) (fun _ _ _ _ _ => (pts_one (pt_cmpR op_lt (pe_cc C_compared (hr.mono (by decide)) (by rfl) (pa_cons (pe_ix (ix_seqK (K := K) rfl) (pv 7) pe_int (fun _ _ => rfl)) (pa_cons (pv 1) pa_nil))) pe_int (nomark _)))) (fun _ _ _ _ _ => (pv 6)))
      (pss_cons (ps_if (pt_cmpR (op_eqD hr.units) (pv 2) (pe_lst pa_nil) (nomark _)) (pss_one (ps_ret (pe_glob (v := .ref (He.ga K "NOUGHT")) (by rfl) T.g_NOUGHT rfl))) pss_nil)
      (pss_cons (ps_asg (pe_ix ix_seq (pe_ix ix_seq (pv 0) pe_int (fun _ _ => rfl)) (pe_ix ix_seq (pv 2) (pe_un un_neg pe_int) (fun _ _ => rfl)) (fun _ _ => rfl)) (pg_tup rfl (pgs_cons (pg_name (i := 3) sc_reached.nd rfl (by first | exact Or.inl rfl | exact Or.inr rfl)) (pgs_cons (pg_name (i := 4) sc_reached.nd rfl (by first | exact Or.inl rfl | exact Or.inr rfl)) pgs_nil))))
      (pss_cons (ps_set (i := 5) sc_reached.nd rfl (by first | exact Or.inl rfl | exact Or.inr rfl) (pe_cc C_slope_behind (hr.mono (by decide)) (by rfl) (pa_cons (pv 0) (pa_cons (pe_ix ix_seq (pv 2) (pe_un un_neg pe_int) (fun _ _ => rfl)) pa_nil))))
      (pss_one (ps_ret (pe_ifExp (pt_cmpR (op_eqD hr.units) (pv 5) (pe_glob (v := .ref (He.ga K "NOUGHT")) (by rfl) T.g_NOUGHT rfl) (nomark _)) pe_non (pe_cc C_added (hr.mono (by decide)) (by rfl) (pa_cons (pv 3) (pa_cons (pe_cc C_over (hr.mono (by decide)) (by rfl) (pa_cons (pe_cc C_lessened (hr.mono (by decide)) (by rfl) (pa_cons (pv 1) (pa_cons (pv 4) pa_nil))) (pa_cons (pv 5) pa_nil))) pa_nil)))))))))), ?_⟩
  obtain ⟨⟨c, y⟩, hd, ⟨hc, hm, hy⟩, k⟩ := h
  dsimp only at hd hc hm hy k
  obtain ⟨v, u, rfl, h1, h2⟩ := dps_two hd
  have hln := hc.ln
  have hgm : ∀ i, i < c.1.length → c.1.getD i (0, 0) ∈ c.1 := fun i hi => List.mem_of_getElem? (getD_some hi)
  refine seq_ed (set_ed (K := K) (d := .list ((below c y).map fun i : Nat => PyData.int (i : Int))) (lc_m (fun i : Nat => PyData.tuple [.int (i : Int), ptD (c.1.getD i (0, 0))]) (List.range c.1.length) (fun i : Nat => decide ((c.1.getD i (0, 0)).2 < y)) (fun i : Nat => PyData.int (i : Int)) (by rw [← numbered_pts]; exact edi_enumT (eda_cons (ed_ixT (d := .tuple (c.1.map ptD)) (ed_var rfl h1) ed_int rfl) eda_nil)) (by rw [List.length_range]; show _ ≤ 16777216; omega) fun i hi v1 H2 e2 d2 => ?_).toD fun ah H1 e1 da => ?_)
  · rw [List.mem_range] at hi
    refine tu_two d2 fun a b ha hb => ⟨rfl, ?_, fun _ => ⟨ed_var rfl ha, rfl⟩⟩
    exact (et_test (ed_lt (ed_call ((c.1.getD i (0, 0)).2, y) (eda_cons (ed_ixT (ed_var rfl hb) ed_int rfl) (eda_cons (ed_var rfl (dp_mono e2 h2)) eda_nil)) ⟨(hc.fc.py _ (hgm i hi)).fb (by decide), hy.fb (by decide)⟩) ed_int)).cast (decide_eq_decide.mpr cmpR_neg)
  dsimp only
  have hsh : ∀ d ∈ (below c y).map (fun i : Nat => PyData.int (i : Int)), Sh 50 d := sh_map (fun _ => sh_int) _
  refine seq_ed (if_et (K := K) (b := decide (below c y = [])) (et_test (ed_eq (ed_var rfl da) (ed_lst eda_nil) ((sh_lst hsh).mono (by decide)) (sh_lst fun d hd => by cases hd) (by rw [decide_eq_true_eq]; simp))) (fun hb H2 e2 => ?_) fun hb H2 e2 => ?_)
  · have hb := of_decide_eq_true hb
    rcases reached_cases c y with ⟨_, z⟩ | ⟨ini, i, z, _⟩
    · rw [z] at k
      exact ret_ed (K := K) (d := fr 0) (ed_cv (T.nought H2)) fun z H3 e3 d3 => k z H3 ((e1.trans e2).trans e3) d3
    · rw [hb] at z; simp at z
  · have hb := of_decide_eq_false hb
    refine nil_ed ?_
    rcases reached_cases c y with ⟨z, _⟩ | ⟨ini, i, hbe, hi, hre⟩
    · exact absurd z hb
    rw [hre] at k
    have hg := getD_some hi
    generalize hp : c.1.getD i (0, 0) = p at *
    have hpm := List.mem_of_getElem? hg
    have hla : atI ((below c y).map fun i : Nat => PyData.int (i : Int)) (-1) = some (.int (i : Int)) := by rw [hbe]; exact atI_mapL (f := fun i : Nat => PyData.int (i : Int)) _ _
    dsimp only
    have e12 := e1.trans e2
    refine seq_ed (unp2_ed (K := K) (x := fr p.1) (y := fr p.2) (ed_ixT (ed_ixT (d := .tuple (c.1.map ptD)) (ed_var rfl (dp_mono e12 h1)) ed_int rfl) (ed_ixL (ed_var rfl (dp_mono e2 da)) (ed_neg ed_int) hla) (atI_map hg)) fun lv pd H3 e3 dl dp => ?_)
    dsimp only
    have e13 := e12.trans e3
    refine seq_ed (set_ed (K := K) (d := fr (hs (c.1.drop i) c.2)) (ed_call (c, i) (eda_cons (ed_var rfl (dp_mono e13 h1)) (eda_cons (ed_ixL (ed_var rfl (dp_mono (e2.trans e3) da)) (ed_neg ed_int) hla) eda_nil)) ⟨hi, hc.ok.srt, hc.f19⟩) fun sl H4 e4 ds => ?_)
    have h0 := hc.ok.slope_nonneg hm hg
    have fs := hc.slope hg
    generalize hs (c.1.drop i) c.2 = S at *
    dsimp only
    refine ret_ed (K := K) (d := optD (if S = 0 then none else some (p.1 + (y - p.2) / S))) (ed_if (et_test (ed_eqfr (ed_var rfl ds) (ed_cv (T.nought H4)))) (fun hz => ?_) fun hz => ?_) fun z H5 e5 d5 => k z H5 ((e13.trans e4).trans e5) d5
    · rw [if_pos (of_decide_eq_true hz)]; exact ed_non
    · have hz := of_decide_eq_false hz
      rw [if_neg hz]
      have f1 := hy.sub (hc.fc.py p hpm)
      have f2 := f1.div fs (show 0 < S by grind)
      exact ed_call (p.1, (y - p.2) / S) (eda_cons (ed_var rfl (dp_mono e4 dl)) (eda_cons (ed_call (y - p.2, S) (eda_cons (ed_call (y, p.2) (eda_cons (ed_var rfl (dp_mono (e13.trans e4) h2)) (eda_cons (ed_var rfl (dp_mono e4 dp)) eda_nil)) ⟨hy.fb (by decide), (hc.fc.py p hpm).fb (by decide)⟩) (eda_cons (ed_var rfl ds) eda_nil))
        ⟨f1.fb (by decide), fs.fb (by decide), by grind⟩) eda_nil)) ⟨(hc.fc.lv p hpm).fb (by decide), f2.fb (by decide)⟩
theorem sc_level_for : FnScope ["one", "pay"] ["one", "pay"] (defScope s_level_for) := ⟨rfl, rfl, rfl, by decide +kernel, rfl, by decide +kernel, by decide +kernel⟩
abbrev Cf_level_for (P w K mg base) := Cal P w K mg base "level_for" 7 ["one", "pay"] (spF K (fun x : Cv × Rat => [cvD x.1, fr x.2]) (fun x => Small x.1 ∧ Mono (evc x.1) ∧ Fine 1500 x.2) fun x => optD (reachedC x.1 x.2))
theorem ok_level_for (T : Tx w K mg) (C_reached : Cf_reached P w K mg base) : Cf_level_for P w K mg base := by
  refine T.cal (d := d_level_for) 33 35 rfl rfl rfl rfl rfl sc_level_for (fun _ _ _ _ _ _ us hl => match us, hl with | [_, _], _ => rfl) (spF_len fun _ => rfl) fun f cdv A outer s H vs Q E hr h => ⟨_, (pss_one (ps_ret (pe_cc C_reached (hr.mono (by decide)) (by rfl) (pa_cons (pv 0) (pa_cons (pv 1) pa_nil))))), ?_⟩
  obtain ⟨⟨c, y⟩, hd, hp, k⟩ := h
  obtain ⟨v, u, rfl, h1, h2⟩ := dps_two hd
  exact ret_ed (ed_call (c, y) (eda_cons (ed_var rfl h1) (eda_cons (ed_var rfl h2) eda_nil)) hp) fun z H5 e5 d5 => k z H5 e5 d5
theorem sc_capped : FnScope ["one", "amount", "level", "corners", "corner"] ["one", "amount"] (defScope s_capped) := ⟨rfl, rfl, rfl, by decide +kernel, rfl, by decide +kernel, by decide +kernel⟩
abbrev Cf_capped (P w K mg base) := Cal P w K mg base "capped" 7 ["one", "amount"] (spF K (fun x : Cv × Rat => [cvD x.1, fr x.2]) (fun x => Small x.1 ∧ Mono (evc x.1) ∧ Fine 69 x.2) fun x => cvD (cappedC x.1 x.2))
theorem ok_capped (T : Tx w K mg) (C_compared : Cf_compared P w K mg base) (C_curve : Cf_curve P w K mg base) (C_reached : Cf_reached P w K mg base) : Cf_capped P w K mg base := by
  refine T.cal (d := d_capped) 26 27 rfl rfl rfl rfl rfl sc_capped (fun _ _ _ _ _ _ us hl => match us, hl with | [_, _], _ => rfl) (spF_len fun _ => rfl) fun f cdv A outer s H vs Q E hr h => ⟨_, (pss_cons (ps_set (i := 2) sc_capped.nd rfl (by first | exact Or.inl rfl | exact Or.inr rfl) (pe_cc C_reached (hr.mono (by decide)) (by rfl) (pa_cons (pv 0) (pa_cons (pv 1) pa_nil))))
      (pss_cons (ps_if (pt_cmpR op_isN (pv 2) pe_non (nomark _)) (pss_one (ps_ret (pe_cc C_curve (hr.mono (by decide)) (by rfl) (pa_cons (pe_ix ix_seq (pv 0) pe_int (fun _ _ => rfl)) (pa_cons (pe_ix ix_seq (pv 0) pe_int (fun _ _ => rfl)) pa_nil))))) pss_nil)
      (pss_cons (ps_setLc (i := 3) rfl sc_capped.nd rfl rfl (sw_true rfl rfl rfl (by decide +kernel)) (pi_tup (pe_ix ix_seq (pv 0) pe_int (fun _ _ => rfl))) (blkOk_by (own := [("corner", 4)]) (N := ["one", "amount", "level", "corners", "corner"]) (by kernel_rfl)) (fun _ _ _ _ _ => (pg_name (i := 4) sc_capped.nd rfl (by first | exact Or.inl rfl | exact Or.inr rfl))) (fun _ _ _ _ _ => (pts_one (pt_cmpR op_lt (pe_cc C_compared (hr.mono (by decide)) (by rfl) (pa_cons (pe_ix (ix_seqK (K := K) rfl) (pv 4) pe_int (fun _ _ => rfl)) (pa_cons (pv 2) pa_nil))) pe_int (nomark _)))) (fun _ _ _ _ _ => (pv 4)))
      (pss_one (ps_ret (pe_cc C_curve (hr.mono (by decide)) (by rfl) (pa_cons (pe_op op_cat (pv 3) (pe_lst (pa_cons (pe_tup (pa_cons (pv 2) (pa_cons (pv 1) pa_nil))) pa_nil))) (pa_cons (pe_glob (v := .ref (He.ga K "NOUGHT")) (by rfl) T.g_NOUGHT rfl) pa_nil)))))))), ?_⟩
  obtain ⟨⟨c, y⟩, hd, ⟨hc, hm, hy⟩, k⟩ := h
  dsimp only at hd hc hm hy k
  obtain ⟨v, u, rfl, h1, h2⟩ := dps_two hd
  have hln := hc.ln
  unfold cappedC at k
  refine seq_ed (set_ed (K := K) (d := optD (reachedC c y)) (ed_call (c, y) (eda_cons (ed_var rfl h1) (eda_cons (ed_var rfl h2) eda_nil)) ⟨hc, hm, hy.mono (by decide)⟩) fun lv H1 e1 dl => ?_)
  cases hre : reachedC c y with
  | none =>
    rw [hre] at dl k
    dsimp only
    refine seq_ed (if_et (K := K) (b := true) (et_test (ed_isN (ed_var rfl dl) fun H v h => by rw [dp_non h]; rfl)) (fun _ H2 e2 => ?_) fun hb => absurd hb (by decide))
    refine ret_ed (K := K) (d := cvD (canon c.1 c.2, c.2)) ?_ fun z H3 e3 d3 => k z H3 ((e1.trans e2).trans e3) d3
    obtain ⟨r, hcr⟩ := hc.ok.head
    exact ed_call (false, c) (eda_cons (ed_ixT (ed_var rfl (dp_mono (e1.trans e2) h1)) ed_int rfl) (eda_cons (ed_ixT (ed_var rfl (dp_mono (e1.trans e2) h1)) ed_int rfl) eda_nil)) ⟨by rw [hcr]; simp, hc.ok.srt, hc.f19, by show c.1.length ≤ _; omega⟩
  | some l =>
    rw [hre] at dl k
    have fl := reached_fine hc hm hy hre
    dsimp only
    refine seq_ed (if_et (K := K) (b := false) (et_test (ed_isN (ed_var rfl dl) fun H v h => non_fr h)) (fun hb => absurd hb (by decide)) fun _ H2 e2 => nil_ed ?_)
    dsimp only
    have e12 := e1.trans e2
    refine seq_ed (newl_ed (K := K) (ds := (c.1.filter fun p : Pt => decide (p.1 < l)).map ptD) (lc_m ptD c.1 (fun p : Pt => decide (p.1 < l)) ptD (edi_tup (ed_ixT (ed_var rfl (dp_mono e12 h1)) ed_int rfl)) (by show _ ≤ 16777216; omega) fun p hp v1 H3 e3 d3 => ?_) fun a H3 e3 hp l3 => ?_)
    · refine tu_name rfl ?_ fun _ => ⟨ed_var rfl d3, nol_pt _⟩
      exact (et_test (ed_lt (ed_call (p.1, l) (eda_cons (ed_ixT (ed_var rfl d3) ed_int rfl) (eda_cons (ed_var rfl (dp_mono (e2.trans e3) dl)) eda_nil)) ⟨(hc.fc.lv p hp).fb (by decide), fl.fb (by decide)⟩) ed_int)).cast (decide_eq_decide.mpr cmpR_neg)
    dsimp only
    have hfl : (c.1.filter fun p : Pt => decide (p.1 < l)).length ≤ c.1.length := List.length_filter_le ..
    refine ret_ed (K := K) (d := cvD (canon ((c.1.filter fun p : Pt => decide (p.1 < l)) ++ [(l, y)]) 0, 0)) ?_ fun z H4 e4 d4 => k z H4 ((e12.trans e3).trans e4) d4
    refine ed_call (true, ((c.1.filter fun p : Pt => decide (p.1 < l)) ++ [(l, y)], 0)) (eda_cons ((edl_cat (edt_var rfl l3) (edl_lst (eda_cons (ed_tup (eda_cons (ed_var rfl (dp_mono (e2.trans e3) dl)) (eda_cons (ed_var rfl (dp_mono (e12.trans e3) h2)) eda_nil))) eda_nil)).toT (by rw [List.length_map]; show _ ≤ 16777216; simp only [List.length_cons, List.length_nil]; omega)).toD.cast (by simp [seqD, optD])) (eda_cons (ed_cv (T.nought H3)) eda_nil))
      ⟨by simp, srt_snoc (srt_filter hc.ok.srt) fun p hp => ?_, fun p hp => ?_, by rw [List.length_append]; simp only [List.length_cons, List.length_nil]; omega⟩
    · exact of_decide_eq_true (List.mem_filter.mp hp).2
    · rcases List.mem_append.mp hp with z | z
      · exact hc.f19 p (List.mem_filter.mp z).1
      · rw [List.mem_singleton.mp z]; exact ⟨fl.mono (by decide), hy.mono (by decide)⟩
end
end Sw
namespace Sw
open PySem PySem.Spec PyProof.Rows L2 Evl SwT
mutual
def claimD : Claim → PyData
  | .none => .tuple [.str "none"]
  | .due r a => .tuple [.str "due", .int (r : Int), fr a]
  | .shares c => .tuple [.str "shares", fr c]
  | .option c p => .tuple [.str "option", fr c, fr p]
  | .capped c a => .tuple [.str "capped", claimD c, fr a]
  | .sum cs => .tuple [.str "sum", .tuple (claimsD cs)]
def claimsD : List Claim → List PyData
  | [] => []
  | c :: cs => claimD c :: claimsD cs
end
theorem claimsD_eq : ∀ cs, claimsD cs = cs.map claimD
  | [] => rfl
  | c :: cs => by rw [claimsD, List.map_cons, claimsD_eq cs]
def wordS : Claim → Str
  | .none => "none"
  | .due _ _ => "due"
  | .shares _ => "shares"
  | .option _ _ => "option"
  | .capped _ _ => "capped"
  | .sum _ => "sum"
theorem claimD_word (c : Claim) : ∃ r, claimD c = .tuple (.str (wordS c) :: r) := by
  cases c <;> exact ⟨_, by simp only [claimD, wordS]; rfl⟩
mutual
theorem nol_claim : ∀ c, nol (claimD c) = true
  | .none => rfl
  | .due _ _ => rfl
  | .shares _ => rfl
  | .option _ _ => rfl
  | .capped c a => by simp only [claimD, nol, nols, nol_claim c, Bool.and_self]
  | .sum cs => by simp only [claimD, nol, nols, nol_claims cs, Bool.and_self]
theorem nol_claims : ∀ cs, nols (claimsD cs) = true
  | [] => rfl
  | c :: cs => by simp only [claimsD, nols, nol_claim c, nol_claims cs, Bool.and_self]
end
section
variable {K : PySem.W.Frag} {σ : L2.St} {H H' : Hp} {ta tb te : TE} {ts : TA} {ds es : List PyData}
theorem ed_eqs {x y : Str} (ha : Ed K ta σ H (.str x)) (hb : Ed K tb σ H (.str y)) (h1 : PyData.strOk x = true) (h2 : PyData.strOk y = true) : Ed K (tOp (rEqD K) ta tb) σ H (.bool (decide (x = y))) :=
  ed_eq ha hb (sh_str h1) (sh_str h2) (by rw [decide_eq_true_eq, PyData.str.injEq])
theorem ed_nes {x y : Str} (ha : Ed K ta σ H (.str x)) (hb : Ed K tb σ H (.str y)) (h1 : PyData.strOk x = true) (h2 : PyData.strOk y = true) : Ed K (tOp (rNeD K) ta tb) σ H (.bool (decide (x ≠ y))) :=
  ed_ne ha hb (sh_str h1) (sh_str h2) (by rw [decide_eq_true_eq, ne_eq, ne_eq, PyData.str.injEq])
theorem dps_strs : ∀ {ss : List Str} {vs : List V}, DpAll K H vs (ss.map PyData.str) → vs = ss.map V.str
  | [], _, .nil => rfl
  | s :: ss, _, .cons h t => by rw [List.map_cons, dp_str h, dps_strs t]
theorem inV_strs (x : Str) (ss : List Str) : inV (.str x) (ss.map V.str) = decide (x ∈ ss) := by
  induction ss with
  | nil => rfl
  | cons a r ih =>
    show (eqV (.str a) (.str x) || inV (.str x) (r.map V.str)) = _
    have e : eqV (.str a) (.str x) = decide (x = a) := by
      show (a == x) = _
      rw [Bool.eq_iff_iff, beq_iff_eq, decide_eq_true_eq]
      exact eq_comm
    rw [ih, e, Bool.eq_iff_iff, Bool.or_eq_true, decide_eq_true_eq, decide_eq_true_eq, decide_eq_true_eq, List.mem_cons]
theorem flat_strs (ss : List Str) : (ss.map V.str).all flatV = true := by
  induction ss with
  | nil => rfl
  | cons a r ih => rw [List.map_cons, List.all_cons, ih]; rfl
theorem ed_inS {x : Str} {ss : List Str} (ha : Ed K ta σ H (.str x)) (hb : Ed K tb σ H (.tuple (ss.map PyData.str))) : Ed K (tOp (rIn K false) ta tb) σ H (.bool (decide (x ∈ ss))) :=
  ed_op ha hb fun a b H1 Q d1 d2 q => by
    obtain ⟨p, vs, rfl, s1, a1⟩ := dp_tup d2
    obtain rfl := dps_strs a1
    obtain rfl := dp_str d1
    refine ⟨p, _, rfl, .inr s1, rfl, flat_strs ss, ?_⟩
    rw [inV_strs]
    exact q _ H1 (Ex.refl H1) (.bl _)
theorem eda_starL (ha : Ed K te σ H (.list ds)) (hs : EdA K ts σ H es) : EdA K (StX.tStar K te ts) σ H (ds ++ es) := fun H1 e Q q =>
  ha H1 e _ fun v H2 e2 d2 => by
    obtain ⟨p, vs, rfl, s1, a1⟩ := dp_lst d2
    exact ⟨p, vs, rfl, .inr s1, hs H2 (e.trans e2) _ fun us H3 e3 d3 => q _ H3 (e2.trans e3) (dps_app (dps_mono e3 a1) d3)⟩
theorem eda_starT (ha : Ed K te σ H (.tuple ds)) (hs : EdA K ts σ H es) : EdA K (StX.tStar K te ts) σ H (ds ++ es) := fun H1 e Q q =>
  ha H1 e _ fun v H2 e2 d2 => by
    obtain ⟨p, vs, rfl, s1, a1⟩ := dp_tup d2
    exact ⟨p, vs, rfl, .inl s1, hs H2 (e.trans e2) _ fun us H3 e3 d3 => q _ H3 (e2.trans e3) (dps_app (dps_mono e3 a1) d3)⟩
end
/-- a claim that is walked: its curve is small -/
structure Wc (R : Nat) (c : Claim) : Prop where
  ok : OkC R c
  m : mg c ≤ (MM : Rat)
  l : leaves c ≤ 9
  d : depth c ≤ 2
theorem Wc.small {R : Nat} (hR : R ≤ 6) {c : Claim} (h : Wc R c) : Small (curveC R c) ∧ (curveC R c).1.length ≤ 150 := by
  have h1 := curveC_is h.ok
  have h2 := len_curveC (R := R) c
  have h3 := nc_le h.ok
  have h4 := h.l
  have h5 := h.d
  have h6 : (3 + depth c) * leaves c ≤ 5 * 9 := Nat.mul_le_mul (by omega) h4
  exact ⟨⟨h1.ok, ((gl_pay hR h.ok).mono h.m).congr fun x hx => h1.evc hx, by omega⟩, by omega⟩
theorem Wc.mono {R : Nat} {c : Claim} (h : Wc R c) : Mono (evc (curveC R c)) := fun x y h0 hxy => by
  have h1 := curveC_is h.ok
  rw [h1.evc h0, h1.evc (show 0 ≤ y by grind)]
  exact pay_mono hxy h.ok
theorem fr_nat (n : Nat) : fr (n : Rat) = .tuple [.int (n : Int), .int 1] := by
  show PyData.tuple [.int (n : Rat).num, .int ((n : Rat).den : Int)] = _
  rw [Rat.num_natCast, Rat.den_natCast]; rfl
theorem grid_fine69 {q : Rat} (h : Grid DD q) (h0 : 0 ≤ q) (hm : q ≤ (MM : Rat)) : Fine 69 q :=
  grid_fine (M := MM) h ⟨by have : (0 : Rat) ≤ (MM : Rat) := Rat.natCast_nonneg; grind, hm⟩ (by decide) (by decide) (by decide)
theorem mgs_mem {R : Nat} : ∀ {cs : List Claim} {c : Claim}, OkCs R cs → c ∈ cs → mg c ≤ mgs cs ∧ leaves c ≤ leavess cs ∧ depth c ≤ depths cs
  | a :: cs, c, h, hc => by
    simp only [OkCs] at h
    have h1 := mg_nonneg h.1
    have h2 := mgs_nonneg h.2
    simp only [mgs, leavess, depths]
    rcases List.mem_cons.mp hc with z | z
    · rw [z]; exact ⟨by grind, by omega, by omega⟩
    · have := mgs_mem h.2 z
      exact ⟨by grind, by omega, by omega⟩
theorem Wc.cap {R : Nat} {c : Claim} {a : Rat} (h : Wc R (.capped c a)) : Wc R c ∧ 0 < a ∧ Fine 69 a ∧ depth c + 1 ≤ depth (.capped c a) := by
  obtain ⟨h1, h2, h3, h4⟩ := h
  simp only [OkC, mg, leaves, depth] at *
  have := mg_nonneg h1.1
  exact ⟨⟨h1.1, by grind, h3, by omega⟩, h1.2.1, grid_fine69 h1.2.2 (by grind) (by grind), by omega⟩
theorem Wc.sub {R : Nat} {cs : List Claim} (h : Wc R (.sum cs)) : 2 ≤ cs.length ∧ cs.length ≤ 9 ∧ ∀ c ∈ cs, Wc R c ∧ depth c + 1 ≤ depth (.sum cs) := by
  obtain ⟨h1, h2, h3, h4⟩ := h
  simp only [OkC, mg, leaves, depth] at *
  have h5 := leavess_len h1.2
  refine ⟨h1.1, by omega, fun c hc => ?_⟩
  have h6 := mgs_mem h1.2 hc
  exact ⟨⟨okCs_iff.mp h1.2 c hc, by grind, by omega, by omega⟩, by omega⟩
theorem fine_nat {B n : Nat} (h : n < 2 ^ B) (h1 : 1 < 2 ^ B) : Fine B (n : Rat) := ⟨by rw [Rat.num_natCast]; simpa using h, by rw [Rat.den_natCast]; exact h1⟩
section
variable {K : PySem.W.Frag} {σ : L2.St} {H H' : Hp} {D : Ends} {t1 : TS}
theorem skip_eqs {i : Nat} {x y : Str} {v : V} (hs : σ[i]? = some (some v)) (hv : Dp K H v (.str x)) (h : (PyData.strOk x && PyData.strOk y && !decide (x = y)) = true) (k : ∀ H', Ex H H' → D.nx σ H') : tIfS (tTest (tOp (rEqD K) (tVar i) (tC (.str y)))) t1 tNext D σ H := by
  simp only [Bool.and_eq_true, Bool.not_eq_true', decide_eq_false_iff_not] at h
  exact if_et (b := false) ((et_test (ed_eqs (ed_var hs hv) ed_str h.1.1 h.1.2)).cast (decide_eq_false h.2)) (fun z => absurd z (by decide)) fun _ H' e => k H' e
theorem take_eqs {i : Nat} {x y : Str} {v : V} {t2 : TS} (hs : σ[i]? = some (some v)) (hv : Dp K H v (.str x)) (h : (PyData.strOk x && decide (x = y)) = true) (k : ∀ H', Ex H H' → t1 D σ H') : tIfS (tTest (tOp (rEqD K) (tVar i) (tC (.str y)))) t1 t2 D σ H := by
  simp only [Bool.and_eq_true, decide_eq_true_eq] at h
  exact if_et (b := true) ((et_test (ed_eqs (ed_var hs hv) ed_str h.1 (h.2 ▸ h.1))).cast (decide_eq_true h.2)) (fun _ H' e => k H' e) fun z => absurd z (by decide)
end
theorem srt_begin {x : Rat} {r : List Pt} {p : Pt} (h0 : 0 ≤ x) (hp : p.1 = x) (h : Srt (p :: r)) : Srt (beginAt x ++ p :: r) := by
  unfold beginAt
  split
  · exact h
  · refine Srt.cons h fun q hq => ?_
    have hx : 0 < x := by grind
    rcases List.mem_cons.mp hq with z | z
    · rw [z, hp]; exact hx
    · have := h.lt z
      show 0 < q.1
      grind
theorem f19_begin {x : Rat} {r : List Pt} (h : F19 r) : F19 (beginAt x ++ r) := fun p hp => by
  rcases List.mem_append.mp hp with z | z
  · unfold beginAt at z
    split at z
    · cases z
    · rw [List.mem_singleton.mp z]; exact ⟨fine_zero.mono (by decide), fine_zero.mono (by decide)⟩
  · exact h p z
section
variable {P : Program} {w : World} {K : PySem.W.Frag} {mg : Str → Option Value} {base : Heap}
theorem ed_begin (T : Tx w K mg) {σ : L2.St} {H : Hp} {x : Rat} {t : TT} {b : Bool} (hb : b = decide (x ≠ 0)) (ht : Et K t σ H b) :
    Ed K (tIf t (tLst (tCons (tTup (tCons (tC (.ref (He.ga K "ZERO"))) (tCons (tC (.ref (He.ga K "ZERO"))) tNil))) tNil)) (tLst tNil)) σ H (.list ((beginAt x).map ptD)) := by
  refine ed_if ht (fun h => ?_) fun h => ?_
  · rw [hb] at h
    unfold beginAt
    rw [if_neg (of_decide_eq_true h)]
    exact ed_lst (eda_cons (ed_tup (eda_cons (ed_cv (T.zero H)) (eda_cons (ed_cv (T.zero H)) eda_nil))) eda_nil)
  · rw [hb] at h
    unfold beginAt
    rw [if_pos (by simpa using h)]
    exact ed_lst eda_nil
theorem sc_curve_of : FnScope ["ranks", "claim", "word", "begin", "first", "one"] ["ranks", "claim"] (defScope s_curve_of) := ⟨rfl, rfl, rfl, by decide +kernel, rfl, by decide +kernel, by decide +kernel⟩
abbrev Cf_curve_of (P w K mg base) (n : Nat) := Cal P w K mg base "curve_of" (n + 8) ["ranks", "claim"] (spF K (fun x : Nat × Claim => [.int x.1, claimD x.2]) (fun x => depth x.2 < n ∧ x.1 ≤ 6 ∧ Wc x.1 x.2) fun x => cvD (curveC x.1 x.2))
theorem ok_curve_of (T : Tx w K mg) (C_added : Cf_added P w K mg base) (C_added_up : Cf_added_up P w K mg base) (C_capped : Cf_capped P w K mg base) (C_curve : Cf_curve P w K mg base) (C_nothing : Cf_nothing P w K mg base) : ∀ n, Cf_curve_of P w K mg base n
  | 0 => T.cal (d := d_curve_of) 27 29 rfl rfl rfl rfl rfl sc_curve_of (fun _ _ _ _ _ _ us hl => match us, hl with | [_, _], _ => rfl) (spF_len fun _ => rfl) fun f cdv A outer s H vs Q E hr h => absurd h fun ⟨x, _, h, _⟩ => absurd h.1 (Nat.not_lt_zero _)
  | n + 1 => by
    have C_curve_of := ok_curve_of T C_added C_added_up C_capped C_curve C_nothing n
    refine T.cal (d := d_curve_of) 27 29 rfl rfl rfl rfl rfl sc_curve_of (fun _ _ _ _ _ _ us hl => match us, hl with | [_, _], _ => rfl) (spF_len fun _ => rfl) fun f cdv A outer s H vs Q E hr h => ⟨_, (pss_cons (ps_set (i := 2) sc_curve_of.nd rfl (by first | exact Or.inl rfl | exact Or.inr rfl) (pe_ix ix_seq (pv 1) pe_int (fun _ _ => rfl)))
      (pss_cons (ps_if (pt_cmpR (op_eqD hr.units) (pv 2) pe_str (nomark _)) (pss_one (ps_ret (pe_cc0 C_nothing (hr.mono (by omega)) (by rfl)))) pss_nil)
      (pss_cons (ps_if (pt_cmpR (op_eqD hr.units) (pv 2) pe_str (nomark _)) (pss_cons (ps_set (i := 3) sc_curve_of.nd rfl (by first | exact Or.inl rfl | exact Or.inr rfl) (pe_ifExp (pt_cmpR op_gt (pe_ix ix_seq (pv 1) pe_int (fun _ _ => rfl)) pe_int (nomark _)) (pe_lst (pa_cons (pe_tup (pa_cons (pe_glob (v := .ref (He.ga K "ZERO")) (by rfl) T.g_ZERO rfl) (pa_cons (pe_glob (v := .ref (He.ga K "ZERO")) (by rfl) T.g_ZERO rfl) pa_nil))) pa_nil)) (pe_lst pa_nil)))
      (pss_one (ps_ret (pe_cc C_curve (hr.mono (by omega)) (by rfl) (pa_cons (pe_lst (StX.pa_star (pv 3) (pa_cons (pe_tup (pa_cons (pe_tup (pa_cons (pe_ix ix_seq (pv 1) pe_int (fun _ _ => rfl)) (pa_cons pe_int pa_nil))) (pa_cons (pe_glob (v := .ref (He.ga K "ZERO")) (by rfl) T.g_ZERO rfl) pa_nil))) (pa_cons (pe_tup (pa_cons (pe_tup (pa_cons (pe_op op_add (pe_ix ix_seq (pv 1) pe_int (fun _ _ => rfl)) pe_int) (pa_cons pe_int pa_nil))) (pa_cons (pe_ix ix_seq (pv 1) pe_int (fun _ _ => rfl)) pa_nil))) pa_nil)))) (pa_cons (pe_glob (v := .ref (He.ga K "ZERO")) (by rfl) T.g_ZERO rfl) pa_nil)))))) pss_nil)
      (pss_cons (ps_if (pt_cmpR op_in_seq (pv 2) (pe_tup (pa_cons pe_str (pa_cons pe_str pa_nil))) rfl) (pss_cons (ps_set (i := 4) sc_curve_of.nd rfl (by first | exact Or.inl rfl | exact Or.inr rfl) (pe_ifExp (pt_cmpR (op_eqD hr.units) (pv 2) pe_str (nomark _)) (pe_cc C_added (hr.mono (by omega)) (by rfl) (pa_cons (pe_tup (pa_cons (pv 0) (pa_cons pe_int pa_nil))) (pa_cons (pe_ix ix_seq (pv 1) pe_int (fun _ _ => rfl)) pa_nil))) (pe_tup (pa_cons (pv 0) (pa_cons pe_int pa_nil)))))
      (pss_cons (ps_set (i := 3) sc_curve_of.nd rfl (by first | exact Or.inl rfl | exact Or.inr rfl) (pe_ifExp (pt_cmpR (op_neD hr.units) (pv 4) (pe_glob (v := .ref (He.ga K "ZERO")) (by rfl) T.g_ZERO rfl) (nomark _)) (pe_lst (pa_cons (pe_tup (pa_cons (pe_glob (v := .ref (He.ga K "ZERO")) (by rfl) T.g_ZERO rfl) (pa_cons (pe_glob (v := .ref (He.ga K "ZERO")) (by rfl) T.g_ZERO rfl) pa_nil))) pa_nil)) (pe_lst pa_nil)))
      (pss_one (ps_ret (pe_cc C_curve (hr.mono (by omega)) (by rfl) (pa_cons (pe_lst (StX.pa_star (pv 3) (pa_cons (pe_tup (pa_cons (pv 4) (pa_cons (pe_glob (v := .ref (He.ga K "ZERO")) (by rfl) T.g_ZERO rfl) pa_nil))) pa_nil))) (pa_cons (pe_ix ix_seq (pv 1) pe_int (fun _ _ => rfl)) pa_nil))))))) pss_nil)
      (pss_cons (ps_if (pt_cmpR (op_eqD hr.units) (pv 2) pe_str (nomark _)) (pss_one (ps_ret (pe_cc C_capped (hr.mono (by omega)) (by rfl) (pa_cons (pe_cc C_curve_of (hr.mono (by omega)) (by rfl) (pa_cons (pv 0) (pa_cons (pe_ix ix_seq (pv 1) pe_int (fun _ _ => rfl)) pa_nil))) (pa_cons (pe_ix ix_seq (pv 1) pe_int (fun _ _ => rfl)) pa_nil))))) pss_nil)
      (pss_one (ps_ret (pe_cc C_added_up (hr.mono (by omega)) (by rfl) (pa_cons (pe_lc rfl sc_curve_of.nd (pi_tup (pe_ix ix_seq (pv 1) pe_int (fun _ _ => rfl))) (blkOk_by (own := [("one", 5)]) (N := ["ranks", "claim", "word", "begin", "first", "one"]) (by kernel_rfl)) (fun _ _ _ _ _ => (pg_name (i := 5) sc_curve_of.nd rfl (by first | exact Or.inl rfl | exact Or.inr rfl))) (fun _ _ _ _ _ => pts_nil) (fun _ _ _ _ _ => (pe_cc C_curve_of (hr.mono (by omega)) (by rfl) (pa_cons (pv 0) (pa_cons (pv 5) pa_nil))))) pa_nil))))))))), ?_⟩
    obtain ⟨⟨R, c⟩, hd, ⟨hn, hR, hW⟩, k⟩ := h
    dsimp only at hd hn hR hW k
    obtain ⟨v, u, rfl, h1, h2⟩ := dps_two hd
    obtain rfl := dp_int h1
    have h0 := T.zero
    obtain ⟨rest, hw⟩ := claimD_word c
    refine seq_ed (set_ed (K := K) (d := .str (wordS c)) (ed_ixT (by rw [← hw]; exact ed_var rfl h2) ed_int (atI_nat (j := 0) rfl)) fun wv H1 e1 dw => ?_)
    dsimp only
    cases c with
    | none =>
      refine seq_ed (take_eqs (K := K) rfl dw (by decide +kernel) fun H2 e2 => ?_)
      exact ret_ed (K := K) (d := cvD zeroCv) (ed_call0 () trivial) fun z H3 e3 d3 => k z H3 ((e1.trans e2).trans e3) d3
    | due r a =>
      simp only [claimD] at h2
      replace dw : Dp K H1 wv (.str "due") := dw
      have hok := hW.ok
      simp only [OkC] at hok
      have ha : Fine 69 a := grid_fine69 hok.2.2 (by grind) hW.m
      have hr0 : (0 : Rat) ≤ (r : Rat) := Rat.natCast_nonneg
      refine seq_ed (skip_eqs (K := K) rfl dw (by decide +kernel) fun H2 e2 => ?_)
      dsimp only
      refine seq_ed (take_eqs (K := K) rfl (dp_mono e2 dw) (by decide +kernel) fun H3 e3 => ?_)
      have e13 := (e1.trans e2).trans e3
      refine seq_ed (set_ed (K := K) (d := .list ((beginAt r).map ptD)) (ed_begin T (b := decide ((0 : Int) < (r : Int))) (decide_eq_decide.mpr ⟨fun z z2 => ?_, fun z => ?_⟩) (et_test (ed_gt (ed_ixT (ed_var rfl (dp_mono e13 h2)) ed_int rfl) ed_int))) fun bv H4 e4 db => ?_)
      · have : ((r : Nat) : Rat) = ((0 : Nat) : Rat) := z2
        have := Rat.natCast_inj.mp this
        omega
      · have : r ≠ 0 := fun z2 => z (by rw [z2]; rfl)
        omega
      · have e14 := e13.trans e4
        dsimp only
        refine ret_ed (K := K) (d := cvD (curveC R (.due r a))) ?_ fun z H5 e5 d5 => k z H5 (e14.trans e5) d5
        refine ed_call (true, (beginAt r ++ [((r : Rat), 0), ((r : Rat) + 1, a)], 0)) (eda_cons ((ed_lst (eda_starL (ed_var rfl db) (eda_cons (d := ptD ((r : Rat), 0)) (ed_tup (eda_cons ((ed_tup (eda_cons (ed_ixT (ed_var rfl (dp_mono e14 h2)) ed_int rfl) (eda_cons ed_int eda_nil))).cast (fr_nat r).symm) (eda_cons (ed_cv (T.zero H4)) eda_nil)))
          (eda_cons (d := ptD ((r : Rat) + 1, a)) (ed_tup (eda_cons ((ed_tup (eda_cons (ed_add (ed_ixT (ed_var rfl (dp_mono e14 h2)) ed_int rfl) ed_int) (eda_cons ed_int eda_nil))).cast (by rw [show ((r : Rat) + 1) = ((r + 1 : Nat) : Rat) by rw [Rat.natCast_add]; rfl, fr_nat]; rfl)) (eda_cons (ed_ixT (ed_var rfl (dp_mono e14 h2)) ed_int rfl) eda_nil))) eda_nil))) ?_).cast (by simp [seqD])) (eda_cons (ed_cv (T.zero H4)) eda_nil)) ⟨by simp, ?_, ?_, ?_⟩
        · have := len_begin (r : Rat)
          rw [List.length_append, List.length_map]; show _ ≤ 16777216
          simp only [List.length_cons, List.length_nil]; omega
        · exact srt_begin hr0 rfl ⟨by show (r : Rat) < (r : Rat) + 1; grind, trivial⟩
        · refine f19_begin fun p hp => ?_
          have f1 : Fine 10 (r : Rat) := fine_nat (by omega) (by decide)
          rcases List.mem_cons.mp hp with z | z
          · rw [z]; exact ⟨f1.mono (by decide), fine_zero.mono (by decide)⟩
          · rw [List.mem_singleton.mp z]
            refine ⟨?_, ha.mono (by decide)⟩
            show Fine 1900 ((r : Rat) + 1)
            rw [show ((r : Rat) + 1) = ((r + 1 : Nat) : Rat) by rw [Rat.natCast_add]; rfl]
            exact (fine_nat (B := 10) (by omega) (by decide)).mono (by decide)
        · have := len_begin (r : Rat)
          show (_ ++ _ : List Pt).length ≤ _
          rw [List.length_append]
          simp only [List.length_cons, List.length_nil]; omega
    | shares c =>
      simp only [claimD] at h2
      replace dw : Dp K H1 wv (.str "shares") := dw
      have hok := hW.ok
      simp only [OkC] at hok
      have hc : Fine 69 c := grid_fine69 hok.2 (by grind) hW.m
      have hr0 : (0 : Rat) ≤ (R : Rat) := Rat.natCast_nonneg
      refine seq_ed (skip_eqs (K := K) rfl dw (by decide +kernel) fun H2 e2 => ?_)
      dsimp only
      refine seq_ed (skip_eqs (K := K) rfl (dp_mono e2 dw) (by decide +kernel) fun H3 e3 => ?_)
      dsimp only
      have e13 := (e1.trans e2).trans e3
      refine seq_ed (if_et (K := K) (b := true) ((et_test (ed_inS (ss := ["shares", "option"]) (ed_var rfl (dp_mono (e2.trans e3) dw)) (ed_tup (eda_cons ed_str (eda_cons ed_str eda_nil))))).cast (by decide +kernel)) (fun _ H4 e4 => ?_) fun z => absurd z (by decide))
      have e14 := e13.trans e4
      refine seq_ed (set_ed (K := K) (d := fr (R : Rat)) (ed_if (b := false) ((et_test (ed_eqs (ed_var rfl (dp_mono ((e2.trans e3).trans e4) dw)) ed_str (by decide +kernel) (by decide +kernel))).cast (by decide +kernel)) (fun z => absurd z (by decide)) fun _ => (ed_tup (eda_cons (ed_var rfl (.int _)) (eda_cons ed_int eda_nil))).cast (fr_nat R).symm) fun fv H5 e5 df => ?_)
      have e15 := e14.trans e5
      refine seq_ed (set_ed (K := K) (d := .list ((beginAt R).map ptD)) (ed_begin T rfl (et_test (ed_nefr (ed_var rfl df) (ed_cv (T.zero H5))))) fun bv H6 e6 db => ?_)
      have e16 := e15.trans e6
      dsimp only
      refine ret_ed (K := K) (d := cvD (curveC R (.shares c))) ?_ fun z H7 e7 d7 => k z H7 (e16.trans e7) d7
      refine ed_call (true, (beginAt R ++ [((R : Rat), 0)], c)) (eda_cons ((ed_lst (eda_starL (ed_var rfl db) (eda_cons (d := ptD ((R : Rat), 0)) (ed_tup (eda_cons (ed_var rfl (dp_mono e6 df)) (eda_cons (ed_cv (T.zero H6)) eda_nil))) eda_nil)) ?_).cast (by simp [seqD])) (eda_cons (ed_ixT (ed_var rfl (dp_mono e16 h2)) ed_int rfl) eda_nil)) ⟨by simp, ?_, ?_, ?_⟩
      · have := len_begin (R : Rat)
        rw [List.length_append, List.length_map]; show _ ≤ 16777216
        simp only [List.length_cons, List.length_nil]; omega
      · exact srt_begin hr0 rfl trivial
      · refine f19_begin fun p hp => ?_
        have f1 : Fine 10 (R : Rat) := fine_nat (by omega) (by decide)
        rw [List.mem_singleton.mp hp]; exact ⟨f1.mono (by decide), fine_zero.mono (by decide)⟩
      · have := len_begin (R : Rat)
        show (_ ++ _ : List Pt).length ≤ _
        rw [List.length_append]
        simp only [List.length_cons, List.length_nil]; omega
    | option c p =>
      simp only [claimD] at h2
      replace dw : Dp K H1 wv (.str "option") := dw
      have hok := hW.ok
      simp only [OkC] at hok
      have hc : Fine 69 c := grid_fine69 hok.2.1 (by grind) hW.m
      have hp : Fine 69 p := grid_fine69 hok.2.2.2.1 (by grind) (by
        have h1 := hok.2.2.2.2
        have h2 : (1000000000000 : Rat) ≤ (MM : Rat) := by
          have h3 : ((1000000000000 : Nat) : Rat) ≤ (MM : Rat) := Rat.natCast_le_natCast.mpr (by decide)
          exact h3
        grind)
      have hr0 : (0 : Rat) ≤ (R : Rat) := Rat.natCast_nonneg
      have f1 : Fine 10 (R : Rat) := fine_nat (by omega) (by decide)
      refine seq_ed (skip_eqs (K := K) rfl dw (by decide +kernel) fun H2 e2 => ?_)
      dsimp only
      refine seq_ed (skip_eqs (K := K) rfl (dp_mono e2 dw) (by decide +kernel) fun H3 e3 => ?_)
      dsimp only
      have e13 := (e1.trans e2).trans e3
      refine seq_ed (if_et (K := K) (b := true) ((et_test (ed_inS (ss := ["shares", "option"]) (ed_var rfl (dp_mono (e2.trans e3) dw)) (ed_tup (eda_cons ed_str (eda_cons ed_str eda_nil))))).cast (by decide +kernel)) (fun _ H4 e4 => ?_) fun z => absurd z (by decide))
      have e14 := e13.trans e4
      refine seq_ed (set_ed (K := K) (d := fr ((R : Rat) + p)) (ed_if (b := true) ((et_test (ed_eqs (ed_var rfl (dp_mono ((e2.trans e3).trans e4) dw)) ed_str (by decide +kernel) (by decide +kernel))).cast (by decide +kernel)) (fun _ => ed_call ((R : Rat), p) (eda_cons ((ed_tup (eda_cons (ed_var rfl (.int _)) (eda_cons ed_int eda_nil))).cast (fr_nat R).symm) (eda_cons (ed_ixT (ed_var rfl (dp_mono e14 h2)) ed_int rfl) eda_nil)) ⟨f1.fb (by decide), hp.fb (by decide)⟩) fun z => absurd z (by decide)) fun fv H5 e5 df => ?_)
      have e15 := e14.trans e5
      refine seq_ed (set_ed (K := K) (d := .list ((beginAt ((R : Rat) + p)).map ptD)) (ed_begin T rfl (et_test (ed_nefr (ed_var rfl df) (ed_cv (T.zero H5))))) fun bv H6 e6 db => ?_)
      have e16 := e15.trans e6
      dsimp only
      refine ret_ed (K := K) (d := cvD (curveC R (.option c p))) ?_ fun z H7 e7 d7 => k z H7 (e16.trans e7) d7
      refine ed_call (true, (beginAt ((R : Rat) + p) ++ [((R : Rat) + p, 0)], c)) (eda_cons ((ed_lst (eda_starL (ed_var rfl db) (eda_cons (d := ptD ((R : Rat) + p, 0)) (ed_tup (eda_cons (ed_var rfl (dp_mono e6 df)) (eda_cons (ed_cv (T.zero H6)) eda_nil))) eda_nil)) ?_).cast (by simp [seqD])) (eda_cons (ed_ixT (ed_var rfl (dp_mono e16 h2)) ed_int rfl) eda_nil)) ⟨by simp, ?_, ?_, ?_⟩
      · have := len_begin ((R : Rat) + p)
        rw [List.length_append, List.length_map]; show _ ≤ 16777216
        simp only [List.length_cons, List.length_nil]; omega
      · exact srt_begin (by grind) rfl trivial
      · refine f19_begin fun q hq => ?_
        rw [List.mem_singleton.mp hq]; exact ⟨(f1.add hp).mono (by decide), fine_zero.mono (by decide)⟩
      · have := len_begin ((R : Rat) + p)
        show (_ ++ _ : List Pt).length ≤ _
        rw [List.length_append]
        simp only [List.length_cons, List.length_nil]; omega
    | capped c a =>
      simp only [claimD] at h2
      replace dw : Dp K H1 wv (.str "capped") := dw
      obtain ⟨hWc, ha0, ha, hdp⟩ := hW.cap
      refine seq_ed (skip_eqs (K := K) rfl dw (by decide +kernel) fun H2 e2 => ?_)
      dsimp only
      refine seq_ed (skip_eqs (K := K) rfl (dp_mono e2 dw) (by decide +kernel) fun H3 e3 => ?_)
      dsimp only
      have e13 := (e1.trans e2).trans e3
      refine seq_ed (if_et (K := K) (b := false) ((et_test (ed_inS (ss := ["shares", "option"]) (ed_var rfl (dp_mono (e2.trans e3) dw)) (ed_tup (eda_cons ed_str (eda_cons ed_str eda_nil))))).cast (by decide +kernel)) (fun z => absurd z (by decide)) fun _ H4 e4 => nil_ed ?_)
      dsimp only
      refine seq_ed (take_eqs (K := K) rfl (dp_mono ((e2.trans e3).trans e4) dw) (by decide +kernel) fun H5 e5 => ?_)
      have e15 := (e13.trans e4).trans e5
      refine ret_ed (K := K) (d := cvD (cappedC (curveC R c) a)) (ed_call (curveC R c, a) (eda_cons (ed_call (R, c) (eda_cons (ed_var rfl (.int _)) (eda_cons (ed_ixT (ed_var rfl (dp_mono e15 h2)) ed_int rfl) eda_nil)) ⟨by show depth c < n; omega, hR, hWc⟩) (eda_cons (ed_ixT (ed_var rfl (dp_mono e15 h2)) ed_int rfl) eda_nil)) ⟨(hWc.small hR).1, hWc.mono, ha⟩) fun z H7 e7 d7 => k z H7 (e15.trans e7) d7
    | sum cs =>
      simp only [claimD] at h2
      replace dw : Dp K H1 wv (.str "sum") := dw
      obtain ⟨hl2, hl9, hsub⟩ := hW.sub
      have hsm := (hW.small hR).1
      refine seq_ed (skip_eqs (K := K) rfl dw (by decide +kernel) fun H2 e2 => ?_)
      dsimp only
      refine seq_ed (skip_eqs (K := K) rfl (dp_mono e2 dw) (by decide +kernel) fun H3 e3 => ?_)
      dsimp only
      have e13 := (e1.trans e2).trans e3
      refine seq_ed (if_et (K := K) (b := false) ((et_test (ed_inS (ss := ["shares", "option"]) (ed_var rfl (dp_mono (e2.trans e3) dw)) (ed_tup (eda_cons ed_str (eda_cons ed_str eda_nil))))).cast (by decide +kernel)) (fun z => absurd z (by decide)) fun _ H4 e4 => nil_ed ?_)
      dsimp only
      refine seq_ed (skip_eqs (K := K) rfl (dp_mono ((e2.trans e3).trans e4) dw) (by decide +kernel) fun H5 e5 => ?_)
      dsimp only
      have e15 := (e13.trans e4).trans e5
      have hcv : curveC R (.sum cs) = addedUp (cs.map (curveC R)) := by simp only [curveC]; rw [curvesC_eq]
      rw [hcv] at k hsm
      rw [claimsD_eq] at h2
      have hln : ∀ cs : List Claim, (∀ c ∈ cs, Wc R c) → lens (cs.map (curveC R)) ≤ 150 * cs.length := fun cs => by
        induction cs with
        | nil => intro _; exact Nat.le_refl _
        | cons a r ih =>
          intro h
          have h1 := ih fun c hc => h c (List.mem_cons_of_mem _ hc)
          have h2 := ((h a List.mem_cons_self).small hR).2
          unfold lens at *
          simp only [List.map_cons, List.sum_cons, List.length_cons] at *
          omega
      have hln := hln cs fun c hc => (hsub c hc).1
      refine ret_ed (K := K) (d := cvD (addedUp (cs.map (curveC R)))) ?_ fun z H7 e7 d7 => k z H7 (e15.trans e7) d7
      refine ed_call (cs.map (curveC R)) (eda_cons ((lc_m1 claimD cs (fun c => cvD (curveC R c)) (edi_tup (ed_ixT (ed_var rfl (dp_mono e15 h2)) ed_int rfl)) (by show _ ≤ 16777216; omega) fun c hc v1 H6 e6 d6 => ?_).toD.cast (by rw [List.map_map]; rfl)) eda_nil) ⟨?_, ?_, by omega, by rw [List.length_map]; omega, hsm⟩
      · refine tu_name rfl et_yes fun _ => ⟨?_, nol_cv _⟩
        exact ed_call (R, c) (eda_cons (ed_var rfl (.int _)) (eda_cons (ed_var rfl d6) eda_nil)) ⟨by show depth c < n; have := (hsub c hc).2; omega, hR, (hsub c hc).1⟩
      · intro z
        have := congrArg List.length z
        rw [List.length_map] at this
        simp only [List.length_nil] at this; omega
      · intro z hz
        obtain ⟨c, hc, rfl⟩ := List.mem_map.mp hz
        exact ((hsub c hc).1.small hR).1
end
end Sw
namespace Sw
open PySem PySem.Spec PyProof.Rows L2 Evl SwT
theorem claimD_inj_word {c d : Claim} (h : wordS c ≠ wordS d) : claimD c ≠ claimD d := fun z => by
  obtain ⟨r, e⟩ := claimD_word c
  obtain ⟨r', e'⟩ := claimD_word d
  rw [e, e'] at z
  simp only [PyData.tuple.injEq, List.cons.injEq, PyData.str.injEq] at z
  exact h z.1
theorem word_ok (c : Claim) : PyData.strOk (wordS c) = true := by cases c <;> (simp only [wordS]; decide +kernel)
def dueTest (a : Rat) : Claim → Bool
  | .due _ b => decide (leastR b a = b)
  | _ => false
theorem word_none {c : Claim} (h : wordS c = "none") : c = .none := by cases c <;> first | rfl | (simp only [wordS] at h; exact absurd h (by decide +kernel))
theorem word_due {c : Claim} (h : wordS c = "due") : ∃ r b, c = .due r b := by cases c <;> first | exact ⟨_, _, rfl⟩ | (simp only [wordS] at h; exact absurd h (by decide +kernel))
theorem word_shares {c : Claim} (h : wordS c = "shares") : ∃ b, c = .shares b := by cases c <;> first | exact ⟨_, rfl⟩ | (simp only [wordS] at h; exact absurd h (by decide +kernel))
theorem word_option {c : Claim} (h : wordS c = "option") : ∃ r b, c = .option r b := by cases c <;> first | exact ⟨_, _, rfl⟩ | (simp only [wordS] at h; exact absurd h (by decide +kernel))
theorem word_capped {c : Claim} (h : wordS c = "capped") : ∃ r b, c = .capped r b := by cases c <;> first | exact ⟨_, _, rfl⟩ | (simp only [wordS] at h; exact absurd h (by decide +kernel))
theorem word_sum {c : Claim} (h : wordS c = "sum") : ∃ cs, c = .sum cs := by cases c <;> first | exact ⟨_, rfl⟩ | (simp only [wordS] at h; exact absurd h (by decide +kernel))
section
variable {P : Program} {w : World} {K : PySem.W.Frag} {mg : Str → Option Value} {base : Heap}
theorem sc_options_curve : FnScope ["ranks", "options", "claim"] ["ranks", "options"] (defScope s_options_curve) := ⟨rfl, rfl, rfl, by decide +kernel, rfl, by decide +kernel, by decide +kernel⟩
abbrev Cf_options_curve (P w K mg base) := Cal P w K mg base "options_curve" 12 ["ranks", "options"] (spF K (fun x : Nat × List Claim => [.int x.1, .tuple (x.2.map claimD)]) (fun x => x.1 ≤ 6 ∧ x.2.length ≤ 4 ∧ ∀ c ∈ x.2, Wc x.1 c) fun x => cvD (greatestOf (x.2.map (curveC x.1))))
theorem ok_options_curve (T : Tx w K mg) (C_curve_of : Cf_curve_of P w K mg base 3) (C_greatest : Cf_greatest P w K mg base) : Cf_options_curve P w K mg base := by
  refine T.cal (d := d_options_curve) 28 30 rfl rfl rfl rfl rfl sc_options_curve (fun _ _ _ _ _ _ us hl => match us, hl with | [_, _], _ => rfl) (spF_len fun _ => rfl) fun f cdv A outer s H vs Q E hr h => ⟨_, (pss_one (ps_ret (pe_cc C_greatest (hr.mono (by decide)) (by rfl) (pa_cons (pe_lc rfl sc_options_curve.nd (pi_tup (pv 1)) (blkOk_by (own := [("claim", 2)]) (N := ["ranks", "options", "claim"]) (by kernel_rfl)) (fun _ _ _ _ _ => (pg_name (i := 2) sc_options_curve.nd rfl (by first | exact Or.inl rfl | exact Or.inr rfl))) (fun _ _ _ _ _ => pts_nil) (fun _ _ _ _ _ => (pe_cc C_curve_of (hr.mono (by decide)) (by rfl) (pa_cons (pv 0) (pa_cons (pv 2) pa_nil))))) pa_nil)))), ?_⟩
  obtain ⟨⟨R, cs⟩, hd, ⟨hR, hl, hW⟩, k⟩ := h
  dsimp only at hd hR hl hW k
  obtain ⟨v, u, rfl, h1, h2⟩ := dps_two hd
  obtain rfl := dp_int h1
  refine ret_ed (K := K) (d := cvD (greatestOf (cs.map (curveC R)))) ?_ fun z H7 e7 d7 => k z H7 e7 d7
  refine ed_call (cs.map (curveC R)) (eda_cons ((lc_m1 claimD cs (fun c => cvD (curveC R c)) (edi_tup (ed_var rfl h2)) (by show _ ≤ 16777216; omega) fun c hc v1 H6 e6 d6 => ?_).toD.cast (by rw [List.map_map]; rfl)) eda_nil) ⟨?_, by rw [List.length_map]; exact hl⟩
  · refine tu_name rfl et_yes fun _ => ⟨?_, nol_cv _⟩
    exact ed_call (R, c) (eda_cons (ed_var rfl (.int _)) (eda_cons (ed_var rfl d6) eda_nil)) ⟨by show depth c < 3; have := (hW c hc).d; omega, hR, hW c hc⟩
  · intro z hz
    obtain ⟨c, hc, rfl⟩ := List.mem_map.mp hz
    have := (hW c hc).small hR
    exact ⟨this.1, by omega⟩
theorem sc_tidy_cap : FnScope ["claim", "amount"] ["claim", "amount"] (defScope s_tidy_cap) := ⟨rfl, rfl, rfl, by decide +kernel, rfl, by decide +kernel, by decide +kernel⟩
abbrev Cf_tidy_cap (P w K mg base) := Cal P w K mg base "tidy_cap" 3 ["claim", "amount"] (spF K (fun x : Claim × Rat => [claimD x.1, fr x.2]) (fun x => Fine FB x.2 ∧ (∀ c b, x.1 = .capped c b → Fine FB b) ∧ ∀ r b, x.1 = .due r b → Fine FB b) fun x => claimD (tidyCap x.1 x.2))
theorem ok_tidy_cap (T : Tx w K mg) (C_least_of : Cf_least_of P w K mg base) : Cf_tidy_cap P w K mg base := by
  refine T.cal (d := d_tidy_cap) 30 32 rfl rfl rfl rfl rfl sc_tidy_cap (fun _ _ _ _ _ _ us hl => match us, hl with | [_, _], _ => rfl) (spF_len fun _ => rfl) fun f cdv A outer s H vs Q E hr h => ⟨_, (pss_cons (ps_if (pt_cmpR (op_eqD hr.units) (pe_ix ix_seq (pv 0) pe_int (fun _ _ => rfl)) pe_str (nomark _)) (pss_one (ps_ret (pv 0))) pss_nil)
      (pss_cons (ps_if (pt_cmpR (op_eqD hr.units) (pe_ix ix_seq (pv 0) pe_int (fun _ _ => rfl)) pe_str (nomark _)) (pss_one (ps_ret (pe_tup (pa_cons pe_str (pa_cons (pe_ix ix_seq (pv 0) pe_int (fun _ _ => rfl)) (pa_cons (pe_cc C_least_of (hr.mono (by decide)) (by rfl) (pa_cons (pe_lst (pa_cons (pe_ix ix_seq (pv 0) pe_int (fun _ _ => rfl)) (pa_cons (pv 1) pa_nil))) pa_nil)) pa_nil)))))) pss_nil)
      (pss_cons (ps_if (PW.pt (pw_and (pt_cmpR (op_eqD hr.units) (pe_ix ix_seq (pv 0) pe_int (fun _ _ => rfl)) pe_str (nomark _)) (pw_and1 (pt_cmpR (op_eqD hr.units) (pe_cc C_least_of (hr.mono (by decide)) (by rfl) (pa_cons (pe_lst (pa_cons (pe_ix ix_seq (pv 0) pe_int (fun _ _ => rfl)) (pa_cons (pv 1) pa_nil))) pa_nil)) (pe_ix ix_seq (pv 0) pe_int (fun _ _ => rfl)) (nomark _))))) (pss_one (ps_ret (pv 0))) pss_nil)
      (pss_one (ps_ret (pe_tup (pa_cons pe_str (pa_cons (pv 0) (pa_cons (pv 1) pa_nil))))))))), ?_⟩
  obtain ⟨⟨c, a⟩, hd, ⟨ha, hc1, hc2⟩, k⟩ := h
  dsimp only at hd ha hc1 hc2 k
  obtain ⟨v, u, rfl, h1, h2⟩ := dps_two hd
  obtain ⟨rest, hw⟩ := claimD_word c
  have wd : ∀ {H'}, Ex H H' → ∀ {σ : L2.St}, σ[0]? = some (some v) → Ed K (tOp (rIx K) (tVar 0) (tC (.int 0))) σ H' (.str (wordS c)) := fun {H'} e {σ} hs => ed_ixT (by rw [← hw]; exact ed_var hs (dp_mono e h1)) ed_int (atI_nat (j := 0) rfl)
  have wq : ∀ (y : Str) {H'}, Ex H H' → ∀ {σ : L2.St}, σ[0]? = some (some v) → PyData.strOk y = true → Et K (tTest (tOp (rEqD K) (tOp (rIx K) (tVar 0) (tC (.int 0))) (tC (.str y)))) σ H' (decide (wordS c = y)) := fun y H' e σ hs hy => et_test (ed_eqs (wd e hs) ed_str (word_ok c) hy)
  refine seq_ed (if_et (wq "none" (Ex.refl _) rfl (by decide +kernel)) (fun hb H1 e1 => ?_) fun hb H1 e1 => nil_ed ?_)
  · have hb := of_decide_eq_true hb
    obtain rfl := word_none hb
    exact ret_ed (ed_var rfl (dp_mono e1 h1)) fun z H7 e7 d7 => k z H7 (e1.trans e7) d7
  dsimp only
  refine seq_ed (if_et (wq "capped" e1 rfl (by decide +kernel)) (fun hb H2 e2 => ?_) fun hb2 H2 e2 => nil_ed ?_)
  · have hb := of_decide_eq_true hb
    obtain ⟨c, b, rfl⟩ := word_capped hb
    · have e12 := e1.trans e2
      simp only [claimD] at h1
      refine ret_ed (K := K) (d := claimD (.capped c (leastR b a))) ?_ fun z H7 e7 d7 => k z H7 (e12.trans e7) d7
      simp only [claimD]
      refine ed_tup (eda_cons ed_str (eda_cons (ed_ixT (ed_var rfl (dp_mono e12 h1)) ed_int rfl) (eda_cons ((ed_call [b, a] (eda_cons (ed_lst (eda_cons (ed_ixT (ed_var rfl (dp_mono e12 h1)) ed_int rfl) (eda_cons (ed_var rfl (dp_mono e12 h2)) eda_nil))) eda_nil) ⟨by simp, fun q hq => ?_⟩).cast (by rw [leastL_two])) eda_nil)))
      simp only [List.mem_cons, List.not_mem_nil, or_false] at hq
      rcases hq with rfl | rfl
      · exact hc1 _ _ rfl
      · exact ha
  dsimp only
  have e12 := e1.trans e2
  refine seq_ed (if_et (K := K) (b := decide (wordS c = "due") && dueTest a c) (et_and (wq "due" e12 rfl (by decide +kernel)) fun hb => ?_) (fun hb3 H3 e3 => ?_) fun hb3 H3 e3 => nil_ed ?_)
  · have hb := of_decide_eq_true hb
    obtain ⟨r, b, rfl⟩ := word_due hb
    · simp only [claimD] at h1
      show Et K _ _ _ (decide (leastR b a = b))
      refine et_test (ed_eqfr ((ed_call [b, a] (eda_cons (ed_lst (eda_cons (ed_ixT (ed_var rfl (dp_mono e12 h1)) ed_int rfl) (eda_cons (ed_var rfl (dp_mono e12 h2)) eda_nil))) eda_nil) ⟨by simp, fun q hq => ?_⟩).cast (by rw [leastL_two])) (ed_ixT (ed_var rfl (dp_mono e12 h1)) ed_int rfl))
      simp only [List.mem_cons, List.not_mem_nil, or_false] at hq
      rcases hq with rfl | rfl
      · exact hc2 _ _ rfl
      · exact ha
  · rw [Bool.and_eq_true] at hb3
    cases c with
    | due r b =>
      have h9 := of_decide_eq_true hb3.2
      refine ret_ed (K := K) (ed_var rfl (dp_mono (e12.trans e3) h1)) fun z H7 e7 d7 => k z H7 ((e12.trans e3).trans e7) ?_
      simp only [tidyCap]
      rw [if_pos h9]; exact d7
    | none => exact absurd hb3.2 (by simp [dueTest])
    | capped _ _ => exact absurd hb3.2 (by simp [dueTest])
    | shares _ => exact absurd hb3.2 (by simp [dueTest])
    | option _ _ => exact absurd hb3.2 (by simp [dueTest])
    | sum _ => exact absurd hb3.2 (by simp [dueTest])
  · dsimp only
    have e13 := e12.trans e3
    refine ret_ed (K := K) (d := claimD (.capped c a)) (by simp only [claimD]; exact ed_tup (eda_cons ed_str (eda_cons (ed_var rfl (dp_mono e13 h1)) (eda_cons (ed_var rfl (dp_mono e13 h2)) eda_nil)))) fun z H7 e7 d7 => k z H7 (e13.trans e7) ?_
    have hb := of_decide_eq_false hb
    have hb2 := of_decide_eq_false hb2
    cases c with
    | none => exact absurd rfl hb
    | capped _ _ => exact absurd rfl hb2
    | due r b =>
      have : leastR b a ≠ b := by
        have z : (decide (wordS (.due r b) = "due")) = true := decide_eq_true rfl
        rw [z, Bool.true_and] at hb3
        exact of_decide_eq_false hb3
      simp only [tidyCap]
      rw [if_neg this]; exact d7
    | shares _ => exact d7
    | option _ _ => exact d7
    | sum _ => exact d7
end
end Sw
/-! the order of tuples, down to where two first part -/
namespace SwOrd
open PySem PySem.SeqAt PyProof.Rows
open PySem.AutoSeq1 (wpAny_loadPart')
open PySem.MeetsSeq PySem.MeetsSeq2 PySem.MeetsSeq3
open Ob
theorem tup_less (l b : Addr) (xs ys : Array Value) (n n2 : Nat) (dd dd2 : Option Addr) (sl sl2 : Array (Option Value)) (e r : Nat → Bool) :
    Meets (Builtin.«tuple.__lt__» ⟨[.ref l, .ref b], []⟩)
      (fun A R s => (s.heap.get? l = some { cls := .type "tuple", dict := dd, data := .seq xs n, slots := sl } ∧ s.heap.get? b = some { cls := .type "tuple", dict := dd2, data := .seq ys n2, slots := sl2 }) ∧
        (∀ j (h1 : j < xs.size) (h2 : j < ys.size), EqAt A.in1 s xs[j] ys[j] (e j)) ∧
        (∀ j (h1 : j < xs.size) (h2 : j < ys.size), (∀ i, i < j → e i = true) → e j = false → RcOp .Lt A.in1 s xs[j] ys[j] (r j)) ∧
        R (.ok (.ret (.bool (lexAt e r (decide (xs.size < ys.size)) 0 (min xs.size ys.size))))) s) :=
  .of_wp fun prog w A R s h => by
    obtain ⟨hp, g, d, tk, os⟩ := s
    obtain ⟨⟨hl, hb⟩, he, hr, h⟩ := h
    have f2 := AutoSeq1.sub_tuple_tuple
    have zl : (xs.toList.zip ys.toList).length = min xs.size ys.size := by simp
    wp_walk using wpAny_loadPart' hl, wpAny_loadPart' hb, wpAny_forIn_list _ (fun rest q s' => q.1 = none ∧ s' = ⟨hp, g, d, tk, os⟩ ∧ ∃ i, (∀ k, k < i → e k = true) ∧ rest = (xs.toList.zip ys.toList).drop i ∧
      R (.ok (.ret (.bool (lexAt e r (decide (xs.size < ys.size)) i (min xs.size ys.size - i))))) ⟨hp, g, d, tk, os⟩) _
    case turn =>
      rintro ⟨y, x⟩ rest q s' ⟨_, rfl, i, hall, hz, hR⟩
      have hi : i < (xs.toList.zip ys.toList).length := by
        rcases Nat.lt_or_ge i (xs.toList.zip ys.toList).length with k | k
        · exact k
        · rw [List.drop_of_length_le k] at hz; exact nomatch hz
      have hm : i < min xs.size ys.size := zl ▸ hi
      have i1 : i < xs.size := by omega
      have i2 : i < ys.size := by omega
      rw [List.drop_eq_getElem_cons hi] at hz
      obtain ⟨hd, htl⟩ := List.cons.inj hz
      have e1 : y = xs[i] := by have k := congrArg Prod.fst hd; simpa using k
      have e2 : x = ys[i] := by have k := congrArg Prod.snd hd; simpa using k
      subst e1 e2
      rw [show min xs.size ys.size - i = (min xs.size ys.size - (i + 1)) + 1 by omega, lexAt_succ] at hR
      refine wpAny_bind (he i i1 i2 prog w _ _ ?_)
      cases hei : e i with
      | true =>
        rw [hei, if_pos rfl] at hR
        wp_walk
        exact ⟨rfl, rfl, i + 1, fun k hk => by rcases Nat.lt_succ_iff_lt_or_eq.mp hk with z | z; exact hall k z; rw [z]; exact hei, htl, hR⟩
      | false =>
        rw [hei, if_neg Bool.false_ne_true] at hR
        have q := hr i i1 i2 hall hei prog w
        wp_walk using q
        exact ⟨_, rfl, by simpa using hR⟩
    case fin =>
      rintro ⟨q1, q2⟩ s' ⟨hq, rfl, i, _, hz, hR⟩
      simp only at hq
      subst hq
      have k : min xs.size ys.size ≤ i := by
        rcases Nat.lt_or_ge i (xs.toList.zip ys.toList).length with k | k
        · rw [List.drop_eq_getElem_cons k] at hz; exact nomatch hz
        · exact zl ▸ k
      rw [Nat.sub_eq_zero_of_le k, lexAt_zero] at hR
      wp_walk
      exact ⟨_, rfl, by simpa [Builtin.Tuple.tupleCompareSizes] using hR⟩
    case h => exact ⟨rfl, rfl, 0, fun k hk => absurd hk (Nat.not_lt_zero _), rfl, by simpa using h⟩
theorem less_of {A : Around} {s : Shared} {l b : Addr} {xs ys : Array Value} {e r : Nat → Bool} (hl : s.heap.IsTuple l xs) (hb : s.heap.IsTuple b ys) (hu : A.units < cLine)
    (he : ∀ j (h1 : j < xs.size) (h2 : j < ys.size), EqAt A.in1 s xs[j] ys[j] (e j))
    (hr : ∀ j (h1 : j < xs.size) (h2 : j < ys.size), (∀ i, i < j → e i = true) → e j = false → RcOp .Lt A.in1 s xs[j] ys[j] (r j)) :
    RcOp .Lt A s (.ref l) (.ref b) (lexAt e r (decide (xs.size < ys.size)) 0 (min xs.size ys.size)) := fun prog w E Q h => by
  obtain ⟨⟨_, d1, _, s1⟩, h1, c1, n1, k1⟩ := id hl
  obtain ⟨⟨_, d2, _, s2⟩, h2, c2, n2, k2⟩ := id hb
  simp only at c1 k1 c2 k2
  subst c1 k1 c2 k2
  exact richCompare_meets_room (op := .Lt) ⟨_, h1, rfl⟩ ⟨_, h2, rfl⟩ F.slot_tuple_lt F.entry_tuple_lt (F.args_tuple_lt_2 _ _) (tup_less l b xs ys n1 n2 d1 d2 s1 s2 e r) ⟨⟨h1, h2⟩, he, hr, ⟨(fun x => nomatch x), h⟩⟩ hu
/-! ### of data -/
mutual
def dlt : PyData → PyData → Bool
  | .int a, .int b => decide (a < b)
  | .str x, .str y => decide (x.cps.toList < y.cps.toList)
  | .tuple xs, .tuple ys => dltL xs ys
  | _, _ => false
def dltL : List PyData → List PyData → Bool
  | [], [] => false
  | [], _ :: _ => true
  | _ :: _, [] => false
  | x :: xs, y :: ys => if PyData.eqv x y = true then dltL xs ys else dlt x y
end
mutual
/-- of one kind where they first part -/
def cmb : PyData → PyData → Prop
  | .int _, .int _ => True
  | .str _, .str _ => True
  | .tuple xs, .tuple ys => cmbL xs ys
  | _, _ => False
def cmbL : List PyData → List PyData → Prop
  | x :: xs, y :: ys => if PyData.eqv x y = true then cmbL xs ys else cmb x y
  | _, _ => True
end
/-- at place j -/
def eAt (xs ys : List PyData) (j : Nat) : Bool := match xs[j]?, ys[j]? with
  | some x, some y => PyData.eqv x y
  | _, _ => true
def rAt (xs ys : List PyData) (j : Nat) : Bool := match xs[j]?, ys[j]? with
  | some x, some y => dlt x y
  | _, _ => true
theorem lex_shift {e r : Nat → Bool} {z : Bool} : ∀ (k i : Nat), lexAt e r z (i + 1) k = lexAt (fun j => e (j + 1)) (fun j => r (j + 1)) z i k
  | 0, _ => rfl
  | k + 1, i => by rw [lexAt_succ, lexAt_succ, lex_shift k (i + 1)]
theorem lex_dlt : ∀ (xs ys : List PyData), lexAt (eAt xs ys) (rAt xs ys) (decide (xs.length < ys.length)) 0 (min xs.length ys.length) = dltL xs ys
  | [], [] => rfl
  | [], y :: ys => by
    show decide (0 < (y :: ys).length) = true
    simp
  | x :: xs, [] => by
    show decide ((x :: xs).length < 0) = false
    simp
  | x :: xs, y :: ys => by
    have em : min (x :: xs).length (y :: ys).length = min xs.length ys.length + 1 := by simp only [List.length_cons]; omega
    have ez : decide ((x :: xs).length < (y :: ys).length) = decide (xs.length < ys.length) := by simp only [List.length_cons]; exact decide_eq_decide.mpr (by omega)
    rw [em, ez, lexAt_succ, lex_shift]
    have ih := lex_dlt xs ys
    show (if PyData.eqv x y = true then lexAt (eAt xs ys) (rAt xs ys) _ 0 _ else dlt x y) = _
    rw [ih]
    simp only [dltL]
theorem cmb_at : ∀ {xs ys : List PyData} {j : Nat} {x y : PyData}, cmbL xs ys → xs[j]? = some x → ys[j]? = some y → (∀ i, i < j → eAt xs ys i = true) → eAt xs ys j = false → cmb x y
  | a :: xs, b :: ys, 0, x, y, h, h1, h2, _, h3 => by
    simp only [List.getElem?_cons_zero, Option.some.injEq] at h1 h2
    subst h1 h2
    have h3 : PyData.eqv a b = false := h3
    simp only [cmbL, h3, Bool.false_eq_true, if_false] at h
    exact h
  | a :: xs, b :: ys, j + 1, x, y, h, h1, h2, h4, h3 => by
    have h0 : PyData.eqv a b = true := h4 0 (Nat.zero_lt_succ _)
    simp only [cmbL, h0, if_true] at h
    exact cmb_at (xs := xs) (ys := ys) (j := j) h (by simpa using h1) (by simpa using h2) (fun i hi => h4 (i + 1) (Nat.succ_lt_succ hi)) h3
  | [], _, _, _, _, _, h1, _, _, _ => by simp at h1
  | _ :: _, [], _, _, _, _, _, h2, _, _ => by simp at h2
theorem reads_len {h : Heap} : ∀ {vs : List Value} {ds : List PyData} {as : List Addr}, ReadsAll h vs ds as → vs.length = ds.length
  | _, _, _, .nil => rfl
  | _, _, _, .cons _ t => by rw [List.length_cons, List.length_cons, reads_len t]
theorem reads_at {h : Heap} : ∀ {vs : List Value} {ds : List PyData} {as : List Addr} {j : Nat} (h1 : j < vs.length), ReadsAll h vs ds as → ∃ d bs, ds[j]? = some d ∧ Reads h vs[j] d bs
  | _, _, _, 0, _, .cons r _ => ⟨_, _, rfl, r⟩
  | _, _, _, j + 1, h1, .cons _ t => by
    obtain ⟨d, bs, k1, k2⟩ := reads_at (j := j) (Nat.lt_of_succ_lt_succ h1) t
    exact ⟨d, bs, by simpa using k1, by simpa using k2⟩
theorem canAll_at : ∀ {ds : List PyData} {j : Nat} {d : PyData}, PyData.canLayAll0 ds = true → ds[j]? = some d → d.canLay0 = true
  | x :: xs, 0, d, h, e => by
    simp only [PyData.canLayAll0, Bool.and_eq_true] at h
    simp only [List.getElem?_cons_zero, Option.some.injEq] at e
    rw [← e]; exact h.1
  | x :: xs, j + 1, d, h, e => by
    simp only [PyData.canLayAll0, Bool.and_eq_true] at h
    exact canAll_at h.2 (by simpa using e)
  | [], _, _, _, e => by simp at e
theorem depthAll_at : ∀ {ds : List PyData} {j : Nat} {d : PyData}, ds[j]? = some d → d.depth ≤ PyData.depthAll ds
  | x :: xs, 0, d, e => by
    simp only [List.getElem?_cons_zero, Option.some.injEq] at e
    simp only [PyData.depthAll]
    rw [← e]; omega
  | x :: xs, j + 1, d, e => by
    have := depthAll_at (ds := xs) (j := j) (d := d) (by simpa using e)
    simp only [PyData.depthAll]; omega
  | [], _, _, e => by simp at e
/-- x < y of data -/
theorem rc_less : ∀ (n : Nat) {da db : PyData} {A : Around} {s : Shared} {a b : Value} {as bs : List Addr}, da.depth ≤ n → Reads s.heap a da as → Reads s.heap b db bs → da.canLay0 = true → db.canLay0 = true → A.units + n + 1 < cLine → cmb da db → RcOp .Lt A s a b (dlt da db)
  | n, da, db, A, s, a, b, as, bs, hd, ra, rb, la, lb, hu, hc => by
    cases da with
    | int i =>
      cases db <;> simp only [cmb] at hc
      cases ra; cases rb
      simp only [dlt]
      exact RcOp.lt_int _ _ _ _
    | str x =>
      cases db <;> simp only [cmb] at hc
      cases ra; cases rb
      simp only [dlt]
      exact fun prog w E Q h => PyProof.Rows.lt_str (prog := prog) (w := w) h
    | tuple xs =>
      cases db <;> simp only [cmb] at hc
      rename_i ys
      cases ra with
      | tuple g1 g2 g3 g4 =>
      cases rb with
      | tuple k1 k2 k3 k4 =>
      rename_i a1 o1 vs1 n1 a2 o2 vs2 n2
      simp only [dlt]
      have l1 := reads_len g4
      have l2 := reads_len k4
      rw [Array.length_toList] at l1 l2
      simp only [PyData.canLay0] at la lb
      simp only [PyData.depth] at hd
      rw [← lex_dlt, ← l1, ← l2]
      refine less_of ⟨o1, g1, g2, n1, g3⟩ ⟨o2, k1, k2, n2, k3⟩ (by omega) (fun j h1 h2 => ?_) fun j h1 h2 hall hj => ?_
      · obtain ⟨x, bs1, x1, x2⟩ := reads_at (j := j) (by rw [Array.length_toList]; exact h1) g4
        obtain ⟨y, bs2, y1, y2⟩ := reads_at (j := j) (by rw [Array.length_toList]; exact h2) k4
        have q := eqAt_reads x y A.in1 s _ _ _ _ x2 y2 (canAll_at la x1) (canAll_at lb y1) (by have := depthAll_at x1; rw [Around.in1_units]; omega)
        have ee : eAt xs ys j = PyData.eqv x y := by unfold eAt; rw [x1, y1]
        rw [ee]; simpa using q
      · obtain ⟨x, bs1, x1, x2⟩ := reads_at (j := j) (by rw [Array.length_toList]; exact h1) g4
        obtain ⟨y, bs2, y1, y2⟩ := reads_at (j := j) (by rw [Array.length_toList]; exact h2) k4
        have ee : rAt xs ys j = dlt x y := by unfold rAt; rw [x1, y1]
        have dx := depthAll_at x1
        cases n with
        | zero => omega
        | succ m =>
          have q := rc_less m (A := A.in1) (s := s) (by omega) x2 y2 (canAll_at la x1) (canAll_at lb y1) (by rw [Around.in1_units]; omega) (cmb_at hc x1 y1 hall hj)
          rw [ee]; simpa using q
    | none => cases db <;> simp only [cmb] at hc
    | bool _ => cases db <;> simp only [cmb] at hc
    | list _ => cases db <;> simp only [cmb] at hc
    | dict _ => cases db <;> simp only [cmb] at hc
end SwOrd
namespace Sw
open PySem PySem.Spec PyProof.Rows L2 Evl SwOrd
/-! the order of capped claims -/
def lx : List Int → List Int → Bool
  | [], [] => false
  | [], _ :: _ => true
  | _ :: _, [] => false
  | x :: xs, y :: ys => if x = y then lx xs ys else decide (x < y)
theorem lx_asym : ∀ {a b : List Int}, lx a b = true → lx b a = false
  | [], [], h => by simp [lx] at h
  | [], _ :: _, _ => rfl
  | _ :: _, [], h => by simp [lx] at h
  | x :: xs, y :: ys, h => by
    simp only [lx] at h ⊢
    by_cases e : x = y
    · rw [if_pos e] at h
      rw [if_pos e.symm]; exact lx_asym h
    · rw [if_neg e] at h
      rw [if_neg (fun z => e z.symm)]
      have := of_decide_eq_true h
      exact decide_eq_false (by omega)
theorem lx_tr : ∀ {a b c : List Int}, lx b a = false → lx c b = false → lx c a = false
  | [], _, [], _, _ => rfl
  | [], [], _ :: _, _, h => by simp [lx] at h ⊢
  | [], _ :: _, _ :: _, h, _ => by simp [lx]
  | _ :: _, [], [], h, _ => by simp [lx] at h
  | _ :: _, _ :: _, [], _, h => by simp [lx] at h
  | _ :: _, [], _ :: _, h, _ => by simp [lx] at h
  | x :: xs, y :: ys, z :: zs, h1, h2 => by
    simp only [lx] at *
    by_cases e1 : y = x
    · rw [if_pos e1] at h1
      by_cases e2 : z = y
      · rw [if_pos e2] at h2
        rw [if_pos (e2.trans e1)]
        exact lx_tr h1 h2
      · rw [if_neg e2] at h2
        rw [if_neg (fun q => e2 (q.trans e1.symm))]
        have := of_decide_eq_false h2
        exact decide_eq_false (by omega)
    · rw [if_neg e1] at h1
      have h1 := of_decide_eq_false h1
      by_cases e2 : z = y
      · rw [if_neg (fun q => e1 (e2.symm.trans q))]
        exact decide_eq_false (by omega)
      · rw [if_neg e2] at h2
        have h2 := of_decide_eq_false h2
        rw [if_neg (by omega)]
        exact decide_eq_false (by omega)
theorem swo_lx {α : Type} (f : α → List Int) : SrtO.Swo fun v u => lx (f v) (f u) := ⟨fun _ _ h => lx_asym h, fun _ _ _ h k => lx_tr h k⟩
def lxk : List Int → List Int → Bool → Bool
  | [], [], R => R
  | [], _ :: _, _ => true
  | _ :: _, [], _ => false
  | x :: xs, y :: ys, R => if x = y then lxk xs ys R else decide (x < y)
def isLeaf : Claim → Bool
  | .due _ _ => true
  | .shares _ => true
  | .option _ _ => true
  | _ => false
def code : Claim → List Int
  | .due r a => [0, r, a.num, a.den]
  | .option c p => [1, c.num, c.den, p.num, p.den]
  | .shares c => [2, c.num, c.den]
  | _ => []
def codeI (p : Claim × Rat) : List Int := code p.1 ++ [p.2.num, p.2.den]
def sg (b R x : Bool) : Bool := cond b R x
theorem sg_if {b R x : Bool} : (if b = true then R else x) = sg b R x := by cases b <;> rfl
theorem seg_int {i j : Int} {R : Bool} : sg (PyData.eqv (.int i) (.int j)) R (dlt (.int i) (.int j)) = if i = j then R else decide (i < j) := by
  have : PyData.eqv (.int i) (.int j) = decide (i = j) := by
    rw [Bool.eq_iff_iff, decide_eq_true_eq, eqv_iff (by rfl) (by rfl)]; simp
  rw [this]
  simp only [dlt]
  by_cases h : i = j
  · rw [if_pos h, decide_eq_true h]; rfl
  · rw [if_neg h, decide_eq_false h]; rfl
theorem seg_nil {R : Bool} : sg (PyData.eqvAll [] []) R (dltL [] []) = R := by simp [PyData.eqvAll, sg]
theorem seg_cons {x y : PyData} {xs ys : List PyData} {R : Bool} : sg (PyData.eqvAll (x :: xs) (y :: ys)) R (dltL (x :: xs) (y :: ys)) = sg (PyData.eqv x y) (sg (PyData.eqvAll xs ys) R (dltL xs ys)) (dlt x y) := by
  have e : PyData.eqvAll (x :: xs) (y :: ys) = (PyData.eqv x y && PyData.eqvAll xs ys) := by simp only [PyData.eqvAll]
  rw [e]
  simp only [dltL]
  rw [sg_if]
  cases PyData.eqv x y <;> rfl
theorem seg_tup {xs ys : List PyData} {R : Bool} : sg (PyData.eqv (.tuple xs) (.tuple ys)) R (dlt (.tuple xs) (.tuple ys)) = sg (PyData.eqvAll xs ys) R (dltL xs ys) := by
  rw [show PyData.eqv (.tuple xs) (.tuple ys) = PyData.eqvAll xs ys by simp [PyData.eqv]]; simp only [dlt]
theorem seg_fr {a b : Rat} {R : Bool} : sg (PyData.eqv (fr a) (fr b)) R (dlt (fr a) (fr b)) = if a.num = b.num then (if (a.den : Int) = b.den then R else decide ((a.den : Int) < b.den)) else decide (a.num < b.num) := by
  show sg (PyData.eqv (.tuple _) (.tuple _)) R (dlt (.tuple _) (.tuple _)) = _
  rw [seg_tup, seg_cons, seg_int, seg_cons, seg_int, seg_nil]
theorem seg_strT {x y : Str} {R : Bool} (h : (x == y) = true) : sg (PyData.eqv (.str x) (.str y)) R (dlt (.str x) (.str y)) = R := by
  have : PyData.eqv (.str x) (.str y) = true := by simp only [PyData.eqv]; exact h
  rw [this]; rfl
theorem seg_strF {x y : Str} {R b : Bool} (h : (x == y) = false) (hb : decide (x.cps.toList < y.cps.toList) = b) : sg (PyData.eqv (.str x) (.str y)) R (dlt (.str x) (.str y)) = b := by
  have : PyData.eqv (.str x) (.str y) = false := by simp only [PyData.eqv]; exact h
  rw [this]
  simp only [dlt]
  exact hb
theorem seg_claim {c d : Claim} {R : Bool} (hc : isLeaf c = true) (hd : isLeaf d = true) : sg (PyData.eqv (claimD c) (claimD d)) R (dlt (claimD c) (claimD d)) = lxk (code c) (code d) R := by
  cases c <;> first | (simp only [isLeaf, Bool.false_eq_true] at hc) | skip
  all_goals (cases d <;> first | (simp only [isLeaf, Bool.false_eq_true] at hd) | skip)
  all_goals simp only [claimD, code, lxk]
  all_goals rw [seg_tup, seg_cons]
  · rw [seg_strT (by decide +kernel), seg_cons, seg_int, seg_cons, seg_fr, seg_nil]; simp
  · rw [if_neg (by decide)]; exact seg_strF (by decide +kernel) (by decide +kernel)
  · rw [if_neg (by decide)]; exact seg_strF (by decide +kernel) (by decide +kernel)
  · rw [if_neg (by decide)]; exact seg_strF (by decide +kernel) (by decide +kernel)
  · rw [seg_strT (by decide +kernel), seg_cons, seg_fr, seg_nil]; simp
  · rw [if_neg (by decide)]; exact seg_strF (by decide +kernel) (by decide +kernel)
  · rw [if_neg (by decide)]; exact seg_strF (by decide +kernel) (by decide +kernel)
  · rw [if_neg (by decide)]; exact seg_strF (by decide +kernel) (by decide +kernel)
  · rw [seg_strT (by decide +kernel), seg_cons, seg_fr, seg_cons, seg_fr, seg_nil]; simp
theorem cmb_fr {a b : Rat} : cmb (fr a) (fr b) := by
  show cmb (.tuple _) (.tuple _)
  simp only [cmb, cmbL]
  split
  · split <;> trivial
  · trivial
theorem cmb_claim {c d : Claim} (hc : isLeaf c = true) (hd : isLeaf d = true) : cmb (claimD c) (claimD d) := by
  cases c <;> first | (simp only [isLeaf, Bool.false_eq_true] at hc) | skip
  all_goals (cases d <;> first | (simp only [isLeaf, Bool.false_eq_true] at hd) | skip)
  all_goals simp only [claimD, cmb, cmbL]
  all_goals (repeat' split) <;> first | trivial | exact cmb_fr | (exfalso; revert ‹PyData.eqv _ _ = true›; simp only [PyData.eqv]; decide +kernel) | skip
end Sw
namespace Sw
open PySem PySem.Spec PyProof.Rows L2 Evl SwOrd
abbrev capD (p : Claim × Rat) : PyData := .tuple [.str "capped", claimD p.1, fr p.2]
theorem capD_eq (p : Claim × Rat) : capD p = claimD (capC p) := by simp only [capC, claimD]
theorem code_item {p q : Claim × Rat} (hc : isLeaf p.1 = true) (hd : isLeaf q.1 = true) : lx (codeI p) (codeI q) = sg (PyData.eqv (claimD p.1) (claimD q.1)) (sg (PyData.eqv (fr p.2) (fr q.2)) false (dlt (fr p.2) (fr q.2))) (dlt (claimD p.1) (claimD q.1)) := by
  rw [seg_claim hc hd, seg_fr]
  obtain ⟨c, a⟩ := p
  obtain ⟨d, b⟩ := q
  dsimp only at *
  cases c <;> first | (simp only [isLeaf, Bool.false_eq_true] at hc) | skip
  all_goals (cases d <;> first | (simp only [isLeaf, Bool.false_eq_true] at hd) | skip)
  all_goals simp only [codeI, code, lx, lxk, List.cons_append, List.nil_append]
  all_goals rw [if_neg (by decide), if_neg (by decide)]
theorem lay_leaf {c : Claim} (h : isLeaf c = true) : (claimD c).canLay0 = true ∧ (claimD c).depth ≤ 3 := by
  have : Sh 3 (claimD c) := by
    cases c <;> first | (simp only [isLeaf, Bool.false_eq_true] at h) | skip
    all_goals simp only [claimD]
    all_goals refine sh_tup fun d hd => ?_
    all_goals simp only [List.mem_cons, List.not_mem_nil, or_false] at hd
    · rcases hd with rfl | rfl | rfl
      · exact sh_str (by decide +kernel)
      · exact sh_int
      · exact sh_fr
    · rcases hd with rfl | rfl
      · exact sh_str (by decide +kernel)
      · exact sh_fr
    · rcases hd with rfl | rfl | rfl
      · exact sh_str (by decide +kernel)
      · exact sh_fr
      · exact sh_fr
  exact ⟨pl_lay this.1, this.2⟩
section
variable {prog : Program} {w : World} {A : Around} {s : Shared}
def RdI (h : Heap) (v : Value) (p : Claim × Rat) : Prop := ∃ as, Reads h v (capD p) as
theorem item_parts {hp : Heap} {v : Value} {p : Claim × Rat} (h : RdI hp v p) : ∃ (a : Addr) (o : Obj) (n : Nat) (t : Tok) (c f : Value) (bs cs : List Addr), v = .ref a ∧ hp.get? a = some o ∧ o.cls = .type "tuple" ∧ o.data = .seq #[.str "capped" t, c, f] n ∧ Reads hp c (claimD p.1) bs ∧ Reads hp f (fr p.2) cs := by
  obtain ⟨as, r⟩ := h
  cases r with
  | tuple h1 h2 h3 h4 =>
    rename_i a o vs n
    generalize hl : vs.toList = l at h4
    cases h4 with
    | cons r1 h4 =>
      cases r1
      cases h4 with
      | cons r2 h4 =>
        cases h4 with
        | cons r3 h4 =>
          cases h4
          have e := congrArg List.toArray hl
          rw [Array.toArray_toList] at e
          exact ⟨a, o, n, _, _, _, _, _, rfl, h1, h2, e ▸ h3, r2, r3⟩
theorem item_less {v u : Value} {p q : Claim × Rat} (h1 : RdI s.heap v p) (h2 : RdI s.heap u q) (hp : isLeaf p.1 = true) (hq : isLeaf q.1 = true) (hu : A.units + 10 < cLine) :
    wpAny (model prog w) A (keyLt' (tuples' true) v u) (fun r s' => s' = s ∧ r = lx (codeI p) (codeI q)) (fun _ _ => False) s := by
  obtain ⟨a, o, n, t, c, f, _, _, rfl, ho, hc, hd, r1, r2⟩ := item_parts h1
  obtain ⟨a', o', n', t', c', f', _, _, rfl, ho', hc', hd', r1', r2'⟩ := item_parts h2
  rw [code_item hp hq]
  have l1 := lay_leaf hp
  have l2 := lay_leaf hq
  have lf : ∀ q : Rat, (fr q).canLay0 = true ∧ (fr q).depth ≤ 1 := fun q => ⟨pl_lay (sh_fr (n := 0) (q := q)).1, (sh_fr (n := 0) (q := q)).2⟩
  refine PySem.W.kat_lt ho hd ho' hd' ?_
  show PySem.W.KatLex prog w A true (decide (3 < 3)) _ [(.str "capped" t, .str "capped" t'), (c, c'), (f, f')] 0 s
  have e0 : SeqAt.EqAt A s (.str "capped" t) (.str "capped" t') (PyData.eqv (.str "capped") (.str "capped")) := SeqAt.eqAt_reads _ _ A s _ _ _ _ (.str _ _) (.str _ _) (by simp [PyData.canLay0]; decide +kernel) (by simp [PyData.canLay0]; decide +kernel) (by simp [PyData.depth]; omega)
  have e0' : PyData.eqv (.str "capped") (.str "capped") = true := by simp only [PyData.eqv]; decide +kernel
  rw [e0'] at e0
  refine PySem.W.kat_cons (e0 prog w _ _ (PySem.W.kat_yes ?_))
  have e1 := SeqAt.eqAt_reads _ _ A s _ _ _ _ r1 r1' l1.1 l2.1 (by have := l1.2; omega)
  refine PySem.W.kat_cons (e1 prog w _ _ (PySem.W.kat_go (fun z => ?_) fun z => ?_))
  · rw [z]
    have e2 := SeqAt.eqAt_reads _ _ A s _ _ _ _ r2 r2' (lf _).1 (lf _).1 (by have := (lf p.2).2; omega)
    refine PySem.W.kat_yes (PySem.W.kat_cons (e2 prog w _ _ (PySem.W.kat_go (fun z2 => ?_) fun z2 => ?_)))
    · rw [z2]
      exact PySem.W.kat_yes (PySem.W.kat_nil ⟨rfl, rfl⟩)
    · rw [z2]
      refine PySem.W.kat_no (PySem.W.kat_one _ _ ?_)
      exact rc_less 1 (lf _).2 r2 r2' (lf _).1 (lf _).1 (by omega) cmb_fr prog w _ _ ⟨rfl, rfl⟩
  · rw [z]
    refine PySem.W.kat_no (PySem.W.kat_one _ _ ?_)
    exact rc_less 3 l1.2 r1 r1' l1.1 l2.1 (by omega) (cmb_claim hp hq) prog w _ _ ⟨rfl, rfl⟩
theorem firsts_items {h : Heap} : ∀ {vs : List Value}, (∀ v ∈ vs, ∃ p, RdI h v p) → ∃ fs, PySem.W.KatTups h vs fs ∧ fs.length = vs.length ∧ ∀ f ∈ fs, ∃ t, f = Value.str "capped" t
  | [], _ => ⟨[], PySem.W.KatTups.nil, rfl, fun _ k => by cases k⟩
  | v :: vs, hv => by
    obtain ⟨fs, k1, k2, k3⟩ := firsts_items (vs := vs) fun u hu => hv u (List.mem_cons_of_mem _ hu)
    obtain ⟨p, hp⟩ := hv v List.mem_cons_self
    obtain ⟨a, o, n, t, c, f, _, _, rfl, ho, hc, hd, _⟩ := item_parts hp
    exact ⟨.str "capped" t :: fs, PySem.W.KatTups.cons ho hc hd rfl k1, by rw [List.length_cons, List.length_cons, k2], fun f hf => by
      rcases List.mem_cons.mp hf with z | z
      · exact ⟨t, z⟩
      · exact k3 f z⟩
/-- what an item's order goes by -/
noncomputable def keyI (h : Heap) (ps : List (Claim × Rat)) (v : Value) : List Int := by
  classical exact if k : ∃ p, RdI h v p ∧ p ∈ ps then codeI k.choose else []
theorem items_sortable {a : Addr} {vs : List Value} {ps : List (Claim × Rat)} (h2 : 2 ≤ vs.length) (hl : ∀ p ∈ ps, isLeaf p.1 = true)
    (h0 : Heap) (hk0 : ∀ b o, h0.get? b = some o → b ≠ a ∧ s.heap.get? b = some o) (hu : A.units + 10 < cLine) (hv0 : ∀ v ∈ vs, ∃ p, RdI h0 v p ∧ p ∈ ps) : SrtO.SortableO prog w A s a vs fun v u => lx (keyI h0 ps v) (keyI h0 ps u) := by
  intro h' keep
  have old : ∀ b o, h0.get? b = some o → h'.get? b = some o := fun b o e => keep b o (hk0 b o e).1 (hk0 b o e).2
  have rd : ∀ v p, RdI h0 v p → RdI h' v p := fun v p ⟨as, r⟩ => ⟨as, PyProof.Rows.Reads.keeps old r⟩
  obtain ⟨fs, k1, k2, k3⟩ := firsts_items (h := h') fun v hm => by
    obtain ⟨p, hp, _⟩ := hv0 v hm
    exact ⟨p, rd v p hp⟩
  refine ⟨tuples' true, fun Q E hq => ?_, fun p q hp hq => ?_⟩
  · refine PySem.W.kat_kind (T := .type "str") k1 (by omega) (fun f hm => ?_) (by rfl) ?_
    · obtain ⟨t, rfl⟩ := k3 f hm
      exact PySem.W.Looks.now
    · rw [show (Value.type "str" != Value.type "tuple") = true by decide +kernel]
      exact hq
  · have kk : ∀ v ∈ vs, ∃ p, RdI h0 v p ∧ p ∈ ps ∧ keyI h0 ps v = codeI p := fun v hm => by
      have ex := hv0 v hm
      exact ⟨ex.choose, ex.choose_spec.1, ex.choose_spec.2, by unfold keyI; rw [dif_pos ex]⟩
    obtain ⟨p1, r1, m1, e1⟩ := kk _ hp
    obtain ⟨p2, r2, m2, e2⟩ := kk _ hq
    show wpAny (model prog w) A (keyLt' (tuples' true) p.1 q.1) (fun r s' => s' = _ ∧ r = lx (keyI h0 ps p.1) (keyI h0 ps q.1)) (fun _ _ => False) _
    rw [e1, e2]
    exact item_less (s := { s with heap := h' }) (rd _ _ r1) (rd _ _ r2) (hl _ m1) (hl _ m2) hu
theorem paired_perm {α β : Type} {R : α → β → Prop} {xs ys : List α} (p : xs.Perm ys) : ∀ {zs : List β}, Paired R ys zs → ∃ ws : List β, ws.Perm zs ∧ Paired R xs ws := by
  induction p with
  | nil => intro zs h; cases h; exact ⟨[], .nil, .nil⟩
  | cons x _ ih =>
    intro zs h
    cases h with
    | cons h t =>
      obtain ⟨ws, k1, k2⟩ := ih t
      exact ⟨_ :: ws, k1.cons _, .cons h k2⟩
  | swap x y l =>
    intro zs h
    cases h with
    | cons h t =>
      cases t with
      | cons h2 t => exact ⟨_, List.Perm.swap _ _ _, .cons h2 (.cons h t)⟩
  | trans _ _ ih1 ih2 =>
    intro zs h
    obtain ⟨ws, k1, k2⟩ := ih2 h
    obtain ⟨us, j1, j2⟩ := ih1 k2
    exact ⟨us, j1.trans k1, j2⟩
/-- sorted(xs) of capped claims -/
def rSortC (K : PySem.W.Frag) : List V → Hp → VK → Prop := fun vs H Q => ∃ (a : Addr) (xs : List V) (ps : List (Claim × Rat)), vs = [.ref a] ∧ SqL K H a xs ∧ DpAll K H xs (ps.map capD) ∧ (∀ p ∈ ps, isLeaf p.1 = true) ∧
  ∀ (q : Addr) (ys : List V) (qs : List (Claim × Rat)), H q = none → qs.Perm ps → DpAll K H ys (qs.map capD) → Q (.ref q) (upd H q (.lst ys))
theorem dps_paired {K : PySem.W.Frag} {H : Hp} : ∀ {xs : List V} {ps : List (Claim × Rat)} {us : List Value}, DpAll K H xs (ps.map capD) → Vals xs us → ∃ zs : List (V × (Claim × Rat)), Paired (fun u z => RelV z.1 u ∧ Dp K H z.1 (capD z.2)) us zs ∧ zs.map (·.2) = ps
  | _, [], _, .nil, .nil => ⟨[], .nil, rfl⟩
  | _, p :: ps, _, .cons h t, .cons r rr => by
    obtain ⟨zs, k1, k2⟩ := dps_paired t rr
    exact ⟨(_, p) :: zs, .cons ⟨r, h⟩ k1, by rw [List.map_cons, k2]⟩
theorem paired_dps {K : PySem.W.Frag} {H : Hp} : ∀ {us : List Value} {zs : List (V × (Claim × Rat))}, Paired (fun u z => RelV z.1 u ∧ Dp K H z.1 (capD z.2)) us zs → Vals (zs.map (·.1)) us ∧ DpAll K H (zs.map (·.1)) ((zs.map (·.2)).map capD)
  | _, _, .nil => ⟨.nil, .nil⟩
  | _, _, .cons h t => ⟨.cons h.1 (paired_dps t).1, .cons h.2 (paired_dps t).2⟩
theorem paired_mem {α β : Type} {R : α → β → Prop} : ∀ {us : List α} {zs : List β} {u : α}, Paired R us zs → u ∈ us → ∃ z ∈ zs, R u z
  | _, _, _, .cons h t, m => by
    rcases List.mem_cons.mp m with e | e
    · exact ⟨_, List.mem_cons_self, e ▸ h⟩
    · obtain ⟨z, k1, k2⟩ := paired_mem t e
      exact ⟨z, List.mem_cons_of_mem _ k1, k2⟩
theorem cr_sortC {X : Cx} (hu : X.A.units + 65 < cLine) : CallR X (.builtin "sorted") (rSortC X.K) := by
  intro pins s σ H vs us Q I r h
  obtain ⟨a, xs, ps, rfl, hs, hd, hl, q⟩ := h
  obtain ⟨its, rv, pl, hz⟩ := I.list hs
  rw [Vals.ref1 r]
  obtain ⟨zs, hp, hzs⟩ := dps_paired hd rv
  have hv0 : ∀ v ∈ its, ∃ p, RdI s.heap v p ∧ p ∈ ps := fun v hm => by
    obtain ⟨z, z1, z2⟩ := paired_mem hp hm
    exact ⟨z.2, Dp.reads I _ _ _ z2.2 z2.1, hzs ▸ List.mem_map.mpr ⟨z, z1, rfl⟩⟩
  have hl0 : its.length ≤ sizeLine := by rw [← rv.length]; exact hz
  refine SrtO.sorted_ord (ltv := fun v u => lx (keyI s.heap ps v) (keyI s.heap ps u)) (swo_lx _) pl.isList hl0 (fun h2 h₁ b hb hk => ?_) fun out _ hst => ?_
  · exact items_sortable (s := { s with heap := h₁ }) h2 hl s.heap hk (by rw [Around.in1_units, Around.in1_units]; omega) hv0
  · obtain ⟨c, hc⟩ := sortedAll_at s.heap its out.toArray
    obtain ⟨ws, w1, w2⟩ := paired_perm hst.perm hp
    obtain ⟨d1, d2⟩ := paired_dps w2
    have hlen : (ws.map (·.1)).length ≤ sizeLine := by rw [d1.length, hst.perm.length_eq]; exact hl0
    exact ⟨.ref _, upd H (s.heap.objs.size + 1) (.lst (ws.map (·.1))), I.laid (t' := s.toks) (fun _ _ => sortedAll_old) (Nat.le_succ _) ⟨hlen, out, c, d1, hc⟩, rfl, q _ _ _ (I.hok.fresh (Nat.le_succ _)) (by rw [← hzs]; exact w1.map _) d2⟩
end
end Sw
namespace SwExt
open PySem PySem.AutoSeq1
theorem ext_tup (l b : Addr) (xs ys : Array Value) (n m : Nat) (dd : Option Addr) (sl : Array (Option Value)) (h0 : ¬ (!xs.isEmpty && Builtin.List.listTooLong (xs.size + ys.size)) = true) (h1 : xs.size ≤ sizeLine) (h2 : xs.size + ys.size ≤ sizeLine + 1) :
    Meets (Builtin.«list.extend» ⟨[.ref l, .ref b], []⟩) (fun _ R s => (s.heap.get? l = some { cls := .type "list", dict := none, data := .seq xs n, slots := #[] } ∧ s.heap.get? b = some { cls := .type "tuple", dict := dd, data := .seq ys m, slots := sl }) ∧
      R (.ok (.ret Value.none)) { s with heap := s.heap.update l (Obj.mapSeq fun z => z ++ ys), toks := s.toks }) :=
  .of_wp fun prog w A R s h => by
    obtain ⟨hp, g, d, tk, os⟩ := s
    obtain ⟨⟨hl, hb⟩, h⟩ := h
    have f1 := idx_int
    have f2 := sub_tuple_tuple
    have f3 := sub_list_list
    have f4 := sub_tuple_list
    have f5 := sub_list_tuple
    have hz : (xs ++ ys).size ≤ sizeLine + 1 := by rw [Array.size_append]; exact h2
    wp_walk using (wpAny_updateSeq hl rfl (hz := h1) (_hz' := hz)), wpAny_loadPart' hl, wpAny_loadPart' hb
    exact ⟨_, rfl, h⟩
end SwExt
namespace Sw
open PySem PySem.Spec PyProof.Rows L2 Evl
/-- xs.extend(ys), ys a list or a tuple -/
def rExtQ (K : PySem.W.Frag) : V → List V → Hp → VK → Prop := fun x vs H Q => ∃ (l b : Addr) (xs zs : List V), x = .ref l ∧ vs = [.ref b] ∧ H l = some (.lst xs) ∧ (H b = some (.lst zs) ∨ SqT K H b zs) ∧ xs.length + zs.length ≤ sizeLine ∧ Q .non (upd H l (.lst (xs ++ zs)))
theorem mt_extendQ {X : Cx} : MtR X "list.extend" (rExtQ X.K) := by
  intro pins s σ H x vs v us Q I rx rv h
  obtain ⟨l, b, xs, zs, rfl, rfl, hH, hb, hz, q⟩ := h
  rcases hb with hb | hb
  · exact mt_extend pins s σ H _ _ v us Q I rx rv ⟨l, b, xs, zs, rfl, rfl, hH, hb, hz, q⟩
  · cases rx
    obtain ⟨u, rfl, ru⟩ := rv.one
    cases ru
    obtain ⟨z, its, n, r, hl, e⟩ := I.lstM hH
    obtain ⟨ts, r2, ⟨⟨_, dd, _, sl⟩, ho, hc, m, hd⟩, hz2⟩ := I.tuple hb
    simp only at hc hd
    subst hc hd
    have q1 : its.length = xs.length := r.length.symm
    have q2 : ts.length = zs.length := r2.length.symm
    have sz : its.toArray.size + ts.toArray.size ≤ sizeLine := by simp only [List.size_toArray]; omega
    have nl : ¬ (!its.toArray.isEmpty && Builtin.List.listTooLong (its.toArray.size + ts.toArray.size)) = true := by
      rw [notLongL sz, Bool.and_false]; exact Bool.false_ne_true
    refine call_meets F.slot_list_extend ⟨_, e, rfl⟩ F.entry_list_extend (F.args_list_extend_2 _ _) (SwExt.ext_tup l b its.toArray ts.toArray n m dd sl nl (by rw [List.size_toArray]; omega) (by omega)) ⟨⟨e, ho⟩, ?_⟩
    exact ⟨.non, _, I.lset (its' := its ++ ts) (t' := s.toks) hH e (by simp) (r.append r2) (by rw [List.length_append]; omega), rfl, q⟩
end Sw
namespace Sw
open PySem PySem.Spec PyProof.Rows L2 Evl SwT
theorem Lm.exB {K : PySem.W.Frag} {H H' : Hp} {p q : Addr} {ds : List PyData} (h : Lm K H q ds) (b : ExB p H H') (hq : q ≠ p) (im : Im H H') (hn : nols ds = true) : Lm K H' q ds := by
  obtain ⟨vs, h1, h2⟩ := h
  exact ⟨vs, b _ _ hq h1, dps_im im hn h2⟩
theorem dps_ints {K : PySem.W.Frag} {H : Hp} : ∀ ns : List Int, DpAll K H (ns.map V.int) (ns.map PyData.int)
  | [] => .nil
  | n :: ns => .cons (.int n) (dps_ints ns)
section
variable {K : PySem.W.Frag} {w : World} {σ : L2.St} {H H' : Hp} {ta te : TE} {ts : TA} {D : Ends}
theorem edp_sortedSet {ms : List Int} (ha : EdT K te σ H (ms.map PyData.int)) (hl : ms.length ≤ 60) :
    EdLP K (tCB (rSortedSet w) (tCons (tCB (rSetL K w) (tCons te tNil)) tNil)) σ H fun es => ∃ ns : List Int, ns.Pairwise (· < ·) ∧ (∀ k, k ∈ ns ↔ k ∈ ms) ∧ es = ns.map PyData.int := fun H1 e Q q =>
  ha H1 e _ fun p H2 e2 l => by
    obtain ⟨vs, v1, v2⟩ := l
    have hv : vs = ms.map V.int := by
      clear v1 q ha
      induction ms generalizing vs with
      | nil => cases v2; rfl
      | cons m ms ih =>
        cases v2 with
        | cons h t => rw [List.map_cons, dp_int h, ih (by simp only [List.length_cons] at hl; omega) _ t]
    subst hv
    refine ⟨p, ms, rfl, sq_of v1, by omega, fun r c hr hc => ⟨r, _, c, rfl, upd_same, by omega, fun ns d h1 h2 h3 h4 => ?_⟩⟩
    refine q d _ _ ⟨ns, h1, fun k => by rw [h2 k, decide_eq_true_eq], rfl⟩ ((e2.trans (Ex.new hr)).trans (Ex.new h4)) (fresh_back (e2.trans (Ex.new hr)) h4) ⟨_, upd_same, ?_⟩
    exact dps_ints ns
theorem edp_sortC {ps : List (Claim × Rat)} (ha : EdT K te σ H (ps.map capD)) (hl : ∀ p ∈ ps, isLeaf p.1 = true) : EdLP K (tCB (rSortC K) (tCons te tNil)) σ H fun es => ∃ qs : List (Claim × Rat), qs.Perm ps ∧ es = qs.map capD := fun H1 e Q q =>
  ha H1 e _ fun p H2 e2 l => by
    obtain ⟨vs, v1, v2⟩ := l
    refine ⟨p, vs, ps, rfl, sq_of v1, v2, hl, fun r ys qs hr hp hd => ?_⟩
    exact q r _ _ ⟨qs, hp, rfl⟩ (e2.trans (Ex.new hr)) (fresh_back e2 hr) ⟨ys, upd_same, dps_mono (Ex.new hr) hd⟩
/-- a for over a list of its own, unchanged by the turns -/
theorem for_lm {g : TG} {tb : TS} {P : List PyData → Prop} (he : EdLP K ta σ H P) (k : ∀ q H1 ds, P ds → Ex H H1 → H q = none → Lm K H1 q ds → ∃ Pv : Nat → L2.St → Hp → Prop, Pv 0 σ H1 ∧ (∀ i σ' H', i ≤ ds.length → Pv i σ' H' → Lm K H' q ds) ∧
      (∀ i d v σ' H', ds[i]? = some d → Dp K H' v d → Pv i σ' H' → g v σ' H' fun σ2 H2 => tb { D with nx := Pv (i + 1), ct := Pv (i + 1), bk := D.nx } σ2 H2) ∧ (∀ σ' H', Pv ds.length σ' H' → D.nx σ' H')) : tFor (iList K ta) g tb D σ H := by
  refine he.run fun q H1 ds pd e1 hq l1 => ?_
  obtain ⟨Pv, h0, hst, hs, hd⟩ := k q H1 ds pd e1 hq l1
  refine ⟨q, rfl, ⟨_, sq_of l1.choose_spec.1⟩, fun i m σ' H' => m = ds.length - i ∧ i ≤ ds.length ∧ Pv i σ' H', ⟨ds.length, by simp, Nat.zero_le _, h0⟩, ?_⟩
  rintro i m σ' H' ⟨rfl, hi, hp⟩
  obtain ⟨us, s2, a2⟩ := hst i σ' H' hi hp
  by_cases hlt : i < ds.length
  · obtain ⟨v, v1, v2⟩ := dps_get a2 (List.getElem?_eq_getElem hlt)
    refine .inr ⟨⟨us, v, sq_of s2, v1⟩, Pv (i + 1), fun σ2 H2 z => ⟨ds.length - (i + 1), by omega, rfl, hlt, z⟩, fun y H2 hy => ?_⟩
    obtain ⟨rfl, hy⟩ := hy
    have ey := hy us (sq_of s2)
    rw [v1] at ey
    cases ey
    exact hs i _ v σ' H2 (List.getElem?_eq_getElem hlt) v2 hp
  · have : i = ds.length := by omega
    subst this
    exact .inl ⟨⟨us, sq_of s2, by rw [dps_len a2]; exact Nat.le_refl _⟩, hd σ' H' hp⟩
/-- extend by a list of its own -/
theorem extP_ed {i : Nat} {p : Addr} {ds : List PyData} {P : List PyData → Prop} (hs : σ[i]? = some (some (.ref p))) (hL : Lm K H p ds) (hn : nols ds = true) (he : EdLP K te σ H P) (ne : ∀ es, P es → nols es = true ∧ ds.length + es.length ≤ sizeLine)
    (k : ∀ es H', P es → ExB p H H' → Im H H' → Lm K H' p (ds ++ es) → D.nx σ H') : tDrop (tBM K "list" rExtend (tVar i) (tCons te tNil)) D σ H := by
  obtain ⟨vs, h1, h2⟩ := hL
  refine ⟨_, hs, .inl ⟨rfl, vs, sq_of h1⟩, he.run fun q H2 es pe e2 hq l2 => ?_⟩
  have h3 := e2 _ _ h1
  obtain ⟨us, u1, u2⟩ := l2
  have im : Im H2 (upd H2 p (.lst (vs ++ us))) := im_upd h3 rfl
  refine ⟨p, q, vs, us, rfl, rfl, h3, u1, by rw [dps_len h2, dps_len u2]; exact (ne es pe).2, k es _ pe ((ex_exB e2).trans exB_upd) ((im_ex e2).trans im) ⟨_, upd_same, ?_⟩⟩
  exact dps_app (dps_im im hn (dps_mono e2 h2)) (dps_im im (ne es pe).1 u2)
/-- extend by a list or a tuple -/
theorem extQ_ed {i : Nat} {p : Addr} {ds es : List PyData} {b : Bool} (hs : σ[i]? = some (some (.ref p))) (hL : Lm K H p ds) (hn : nols ds = true) (he : if b then Ed K te σ H (.tuple es) else EdT K te σ H es) (ne : nols es = true) (hl : ds.length + es.length ≤ sizeLine)
    (k : ∀ H', ExB p H H' → Im H H' → Lm K H' p (ds ++ es) → D.nx σ H') : tDrop (tBM K "list" (rExtQ K) (tVar i) (tCons te tNil)) D σ H := by
  obtain ⟨vs, h1, h2⟩ := hL
  refine ⟨_, hs, .inl ⟨rfl, vs, sq_of h1⟩, ?_⟩
  cases b with
  | true =>
    rw [if_pos rfl] at he
    refine he.run fun u H2 e2 d2 => ?_
    obtain ⟨q, us, rfl, u1, u2⟩ := dp_tup d2
    have h3 := e2 _ _ h1
    have im : Im H2 (upd H2 p (.lst (vs ++ us))) := im_upd h3 rfl
    exact ⟨p, q, vs, us, rfl, rfl, h3, .inr u1, by rw [dps_len h2, dps_len u2]; exact hl, k _ ((ex_exB e2).trans exB_upd) ((im_ex e2).trans im) ⟨_, upd_same, dps_app (dps_im im hn (dps_mono e2 h2)) (dps_im im ne u2)⟩⟩
  | false =>
    rw [if_neg Bool.false_ne_true] at he
    refine he.run fun q H2 e2 l2 => ?_
    obtain ⟨us, u1, u2⟩ := l2
    have h3 := e2 _ _ h1
    have im : Im H2 (upd H2 p (.lst (vs ++ us))) := im_upd h3 rfl
    exact ⟨p, q, vs, us, rfl, rfl, h3, .inl u1, by rw [dps_len h2, dps_len u2]; exact hl, k _ ((ex_exB e2).trans exB_upd) ((im_ex e2).trans im) ⟨_, upd_same, dps_app (dps_im im hn (dps_mono e2 h2)) (dps_im im ne u2)⟩⟩
theorem nols_app {ds es : List PyData} (h1 : nols ds = true) (h2 : nols es = true) : nols (ds ++ es) = true := nols_of fun d hd => by
  rcases List.mem_append.mp hd with z | z
  · exact nols_mem h1 z
  · exact nols_mem h2 z
end
/-! ### options by their price -/
def pricesGo : Nat → List Rat → List Rat
  | 0, _ => []
  | n + 1, left => if left = [] then [] else leastL left :: pricesGo n (left.filter fun q => decide (q ≠ leastL left))
def pricesOf (left : List Rat) : List Rat := pricesGo left.length left
theorem filter_less {l : List Rat} (h : l ≠ []) : (l.filter fun q => decide (q ≠ leastL l)).length < l.length := by
  have hm := leastL_mem h
  obtain ⟨a, b, e⟩ := List.append_of_mem hm
  generalize leastL l = m at *
  rw [e, List.filter_append, List.filter_cons_of_neg (by simp), List.length_append, List.length_append, List.length_cons]
  have := List.length_filter_le (fun q => decide (q ≠ m)) a
  have := List.length_filter_le (fun q => decide (q ≠ m)) b
  omega
theorem prices_mem : ∀ (n : Nat) (left : List Rat), left.length ≤ n → (pricesGo n left).Nodup ∧ ∀ p, p ∈ pricesGo n left ↔ p ∈ left
  | 0, left, h => by
    have : left = [] := List.length_eq_zero_iff.mp (by omega)
    subst this
    exact ⟨List.nodup_nil, fun p => Iff.rfl⟩
  | n + 1, left, h => by
    by_cases hne : left = []
    · subst hne
      simp [pricesGo]
    · have hl := filter_less hne
      obtain ⟨h1, h2⟩ := prices_mem n (left.filter fun q => decide (q ≠ leastL left)) (by omega)
      simp only [pricesGo, if_neg hne]
      refine ⟨List.nodup_cons.mpr ⟨fun z => ?_, h1⟩, fun p => ?_⟩
      · have := (h2 _).mp z
        simp at this
      · rw [List.mem_cons, h2 p, List.mem_filter]
        constructor
        · rintro (z | z)
          · rw [z]; exact leastL_mem hne
          · exact z.1
        · intro z
          by_cases e : p = leastL left
          · exact .inl e
          · exact .inr ⟨z, by simpa using e⟩
theorem prices_fuel : ∀ (n m : Nat) (left : List Rat), left.length ≤ n → left.length ≤ m → pricesGo n left = pricesGo m left
  | 0, 0, _, _, _ => rfl
  | 0, m + 1, left, h, _ => by
    have : left = [] := List.length_eq_zero_iff.mp (by omega)
    subst this; simp [pricesGo]
  | n + 1, 0, left, _, h => by
    have : left = [] := List.length_eq_zero_iff.mp (by omega)
    subst this; simp [pricesGo]
  | n + 1, m + 1, left, h1, h2 => by
    simp only [pricesGo]
    by_cases hne : left = []
    · rw [if_pos hne, if_pos hne]
    · rw [if_neg hne, if_neg hne]
      have hl := filter_less hne
      rw [prices_fuel n m _ (by omega) (by omega)]
abbrev opD (p : Rat × Rat) : PyData := .tuple [.str "option", fr p.1, fr p.2]
def optsR (os : List (Rat × Rat)) (q : Rat) : Rat × Rat := (rsum ((os.filter fun p => decide (p.2 = q)).map (·.1)), q)
section
variable {P : Program} {w : World} {K : PySem.W.Frag} {mg : Str → Option Value} {base : Heap}
theorem sc_tidy_options : FnScope ["options", "found", "left", "price", "one"] ["options"] (defScope s_tidy_options) := ⟨rfl, rfl, rfl, by decide +kernel, rfl, by decide +kernel, by decide +kernel⟩
abbrev Cf_tidy_options (P w K mg base) := Cal P w K mg base "tidy_options" 5 ["options"] (spL K (fun os : List (Rat × Rat) => [.list (os.map opD)]) (fun os => os.length ≤ 20 ∧ ∀ p ∈ os, Fine 100 p.1 ∧ Fine 100 p.2) fun os => ((pricesOf (os.map (·.2))).map (optsR os)).map opD)
theorem ok_tidy_options (T : Tx w K mg) (C_least_of : Cf_least_of P w K mg base) (C_total : Cf_total P w K mg base) : Cf_tidy_options P w K mg base := by
  refine T.cal (d := d_tidy_options) 32 34 rfl rfl rfl rfl rfl sc_tidy_options (fun _ _ _ _ _ _ us hl => match us, hl with | [_], _ => rfl) (spL_len fun _ => rfl) fun f cdv A outer s H vs Q E hr h => ⟨_, (pss_cons (ps_set (i := 1) sc_tidy_options.nd rfl (by first | exact Or.inl rfl | exact Or.inr rfl) (pe_lst pa_nil))
      (pss_cons (ps_setLc (i := 2) rfl sc_tidy_options.nd rfl rfl (sw_true rfl rfl rfl (by decide +kernel)) (pi_list (pv 0)) (blkOk_by (own := [("one", 4)]) (N := ["options", "found", "left", "price", "one"]) (by kernel_rfl)) (fun _ _ _ _ _ => (pg_name (i := 4) sc_tidy_options.nd rfl (by first | exact Or.inl rfl | exact Or.inr rfl))) (fun _ _ _ _ _ => pts_nil) (fun _ _ _ _ _ => (pe_ix (ix_seqK (K := K) rfl) (pv 4) pe_int (fun _ _ => rfl))))
      (pss_cons (ps_while PassesOwn.never (pt_cmpR (op_neD hr.units) (pv 2) (pe_lst pa_nil) (nomark _)) (pss_cons (ps_set (i := 3) sc_tidy_options.nd rfl (by first | exact Or.inl rfl | exact Or.inr rfl) (pe_cc C_least_of (hr.mono (by decide)) (by rfl) (pa_cons (pv 2) pa_nil)))
      (pss_cons (ps_expr (pe_bm PySem.F.plainAttrs_list PySem.F.slot_list_append PySem.F.type_list_append mt_append (pv 1) (pa_cons (pe_tup (pa_cons pe_str (pa_cons (pe_cc C_total (hr.mono (by decide)) (by rfl) (pa_cons (pe_lc rfl sc_tidy_options.nd (pi_list (pv 0)) (blkOk_by (own := [("one", 4)]) (N := ["options", "found", "left", "price", "one"]) (by kernel_rfl)) (fun _ _ _ _ _ => (pg_name (i := 4) sc_tidy_options.nd rfl (by first | exact Or.inl rfl | exact Or.inr rfl))) (fun _ _ _ _ _ => (pts_one (pt_cmpR (op_eqDK (K := K) rfl hr.units) (pe_ix (ix_seqK (K := K) rfl) (pv 4) pe_int (fun _ _ => rfl)) (pv 3) (nomark _)))) (fun _ _ _ _ _ => (pe_ix (ix_seqK (K := K) rfl) (pv 4) pe_int (fun _ _ => rfl)))) pa_nil)) (pa_cons (pv 3) pa_nil)))) pa_nil)))
      (pss_one (ps_setLc (i := 2) rfl sc_tidy_options.nd rfl rfl (sw_true rfl rfl rfl (by decide +kernel)) (pi_list (pv 2)) (blkOk_by (own := [("one", 4)]) (N := ["options", "found", "left", "price", "one"]) (by kernel_rfl)) (fun _ _ _ _ _ => (pg_name (i := 4) sc_tidy_options.nd rfl (by first | exact Or.inl rfl | exact Or.inr rfl))) (fun _ _ _ _ _ => (pts_one (pt_cmpR (op_neDK (K := K) rfl hr.units) (pv 4) (pv 3) (nomark _)))) (fun _ _ _ _ _ => (pv 4)))))))
      (pss_one (ps_ret (pv 1)))))), ?_⟩
  obtain ⟨os, hd, ⟨hl, hF⟩, k⟩ := h
  dsimp only at hd hl hF k
  obtain ⟨v, rfl, h1⟩ := dps_one hd
  refine seq_ed (newl_ed (K := K) (ds := []) (edl_lst eda_nil) fun p H1 e1 hp l1 => ?_)
  dsimp only
  refine seq_ed (newl_ed (K := K) (ds := (os.map fun p : Rat × Rat => p.2).map fr) ((lc_m1 opD os (fun p => fr p.2) (edi_list (ed_var rfl (dp_mono e1 h1))) (by show _ ≤ 16777216; omega) fun x hx v1 H2 e2 d2 => ?_).cast (by rw [List.map_map]; rfl)) fun lf H2 e2 hlf dl => ?_)
  · exact tu_name rfl et_yes fun _ => ⟨ed_ixT (ed_var rfl d2) ed_int rfl, nol_fr _⟩
  dsimp only
  refine seq_ed (while_et (K := K) (fun m σ H' => ∃ (dn left : List Rat) (lv : Addr) (o1 o2 : Option V), σ = [some v, some (.ref p), some (.ref lv), o1, o2] ∧ lv ≠ p ∧ m = left.length ∧ Ex H H' ∧ Lm K H' p ((dn.map (optsR os)).map opD) ∧ Lm K H' lv (left.map fr) ∧ dn ++ pricesGo left.length left = pricesOf (os.map (·.2)) ∧ (∀ q ∈ left, q ∈ os.map (·.2)) ∧ left.length + dn.length ≤ os.length)
    ⟨_, [], os.map (·.2), lf, none, none, rfl, fun z => ne_of_none l1.choose_spec.1 hlf z.symm, rfl, e1.trans e2, l1.mono e2, dl, rfl, fun _ h => h, by simp⟩ ?_)
  rintro m σ' H' ⟨dn, left, lv, o1, o2, rfl, hlp, rfl, e, l, dlv, hpr, hsub, hlen⟩
  refine ⟨decide (left ≠ []), et_test (ed_ne (edt_var rfl dlv).toD (ed_lst eda_nil) ((sh_lst (sh_map (fun _ => sh_fr (n := 0)) _)).mono (by decide)) (sh_lst fun d hd => by cases hd) (by rw [decide_eq_true_eq]; simp)), fun hb H3 e3 => ?_, fun hb H3 e3 => ?_⟩
  · have hne := of_decide_eq_true hb
    have hfl : ∀ q ∈ left, Fine 100 q := fun q hq => by
      obtain ⟨x, hx, rfl⟩ := List.mem_map.mp (hsub q hq)
      exact (hF x hx).2
    have hml := leastL_mem hne
    have hless := filter_less hne
    refine seq_ed (set_ed (K := K) (d := fr (leastL left)) (ed_call left (eda_cons (edt_var rfl (dlv.mono e3)).toD eda_nil) ⟨hne, fun q hq => (hfl q hq).fb (by decide)⟩) fun pv H4 e4 dp => ?_)
    have hpl : pricesGo left.length left = leastL left :: pricesGo (left.filter fun q => decide (q ≠ leastL left)).length (left.filter fun q => decide (q ≠ leastL left)) := by
      cases hn : left.length with
      | zero => exact absurd (List.length_eq_zero_iff.mp hn) hne
      | succ n =>
        simp only [pricesGo, if_neg hne]
        rw [prices_fuel n _ _ (by omega) (Nat.le_refl _)]
    rw [hpl] at hpr
    generalize hq : leastL left = q at *
    dsimp only
    have e14 := (e.trans e3).trans e4
    refine seq_ed (app_ed (K := K) rfl (l.mono (e3.trans e4)) (nols_map (fun _ => rfl) _) (d := opD (optsR os q)) (ed_tup (eda_cons ed_str (eda_cons ((ed_call (((os.filter fun p : Rat × Rat => decide (p.2 = q)).map fun p : Rat × Rat => p.1) : List Rat) (eda_cons ((lc_m opD os (fun p => decide (p.2 = q)) (fun p => fr p.1) (edi_list (ed_var rfl (dp_mono e14 h1))) (by show _ ≤ 16777216; omega) fun x hx v1 H5 e5 d5 => ?_).toD.cast (by rw [List.map_map]; rfl)) eda_nil) ⟨100, ?_, fun z hz => ?_⟩).cast rfl) (eda_cons (ed_var rfl dp) eda_nil)))) rfl (by rw [List.length_map, List.length_map]; show _ < 16777216; omega) fun H5 b5 i5 l5 => ?_)
    · exact tu_name rfl (et_test (ed_eqfr (ed_ixT (ed_var rfl d5) ed_int rfl) (ed_var rfl (dp_mono e5 dp)))) fun _ => ⟨ed_ixT (ed_var rfl d5) ed_int rfl, nol_fr _⟩
    · have e15 := b5.ex hp e14
      have dl5 := ((dlv.mono (e3.trans e4)).exB b5 hlp i5 (nols_map nol_fr _))
      dsimp only
      refine newl_ed (K := K) (ds := (left.filter fun z => decide (z ≠ q)).map fr) (lc_m fr left (fun z => decide (z ≠ q)) fr (edi_list (edt_var rfl dl5).toD) (by show _ ≤ 16777216; omega) fun x hx v1 H6 e6 d6 => ?_) fun l2 H6 e6 hl2 d6 => ?_
      · exact tu_name rfl (et_test (ed_nefr (ed_var rfl d6) (ed_var rfl (dp_mono e6 (dp_im i5 (nol_fr _) dp))))) fun _ => ⟨ed_var rfl d6, nol_fr _⟩
      · refine ⟨_, hless, dn ++ [q], left.filter fun z => decide (z ≠ q), l2, _, _, rfl, fun z => ne_of_none l5.choose_spec.1 hl2 z.symm, rfl, e15.trans e6, ?_, d6, ?_, fun z hz => hsub z (List.mem_filter.mp hz).1, ?_⟩
        · rw [List.map_append, List.map_append]; exact l5.mono e6
        · rw [← hpr]; simp
        · rw [List.length_append]; simp only [List.length_cons, List.length_nil]; omega
    · have := List.length_filter_le (fun p : Rat × Rat => decide (p.2 = q)) os
      rw [List.length_map]
      show _ ≤ 4000
      omega
    · obtain ⟨x, hx, rfl⟩ := List.mem_map.mp hz
      exact (hF x (List.mem_filter.mp hx).1).1
  · have hb := of_decide_eq_false hb
    have hb : left = [] := by simpa using hb
    subst hb
    dsimp only
    rw [show pricesGo ([] : List Rat).length [] = [] from rfl, List.append_nil] at hpr
    subst hpr
    exact ⟨_, rfl, k p H3 (e.trans e3) hp (l.mono e3)⟩
end
end Sw
namespace Sw
open PySem PySem.Spec PyProof.Rows L2 Evl SwT
def isDue : Claim → Bool | .due _ _ => true | _ => false
def isShares : Claim → Bool | .shares _ => true | _ => false
def isOpt : Claim → Bool | .option _ _ => true | _ => false
def isCap : Claim → Bool | .capped _ _ => true | _ => false
def dueAt (r : Nat) : Claim → Bool | .due q _ => decide (q = r) | _ => false
def rankD : Claim → PyData | .due r _ => .int (r : Int) | _ => .none
def amtD : Claim → PyData | .due _ a => fr a | _ => .none
def shD : Claim → PyData | .shares a => fr a | _ => .none
theorem q_due (c : Claim) : decide (wordS c = "due") = isDue c := by
  rw [Bool.eq_iff_iff, decide_eq_true_eq]
  refine ⟨fun h => ?_, fun h => ?_⟩
  · obtain ⟨_, _, rfl⟩ := word_due h; rfl
  · cases c <;> first | rfl | (simp only [isDue, Bool.false_eq_true] at h)
theorem q_shares (c : Claim) : decide (wordS c = "shares") = isShares c := by
  rw [Bool.eq_iff_iff, decide_eq_true_eq]
  refine ⟨fun h => ?_, fun h => ?_⟩
  · obtain ⟨_, rfl⟩ := word_shares h; rfl
  · cases c <;> first | rfl | (simp only [isShares, Bool.false_eq_true] at h)
theorem q_opt (c : Claim) : decide (wordS c = "option") = isOpt c := by
  rw [Bool.eq_iff_iff, decide_eq_true_eq]
  refine ⟨fun h => ?_, fun h => ?_⟩
  · obtain ⟨_, _, rfl⟩ := word_option h; rfl
  · cases c <;> first | rfl | (simp only [isOpt, Bool.false_eq_true] at h)
theorem q_cap (c : Claim) : decide (wordS c = "capped") = isCap c := by
  rw [Bool.eq_iff_iff, decide_eq_true_eq]
  refine ⟨fun h => ?_, fun h => ?_⟩
  · obtain ⟨_, _, rfl⟩ := word_capped h; rfl
  · cases c <;> first | rfl | (simp only [isCap, Bool.false_eq_true] at h)
theorem q_sum (c : Claim) : decide (wordS c = "sum") = isSum c := by
  rw [Bool.eq_iff_iff, decide_eq_true_eq]
  refine ⟨fun h => ?_, fun h => ?_⟩
  · obtain ⟨_, rfl⟩ := word_sum h; rfl
  · cases c <;> first | rfl | (simp only [isSum, Bool.false_eq_true] at h)
theorem f_dues : ∀ cs : List Claim, (cs.filter isDue).map rankD = ((duesOf cs).map fun x => ((x.1 : Nat) : Int)).map PyData.int
  | [] => rfl
  | c :: cs => by
    have ih := f_dues cs
    cases c <;> simp only [List.filter_cons, isDue, if_true, Bool.false_eq_true, if_false, duesOf, List.map_cons, rankD] <;> rw [ih]
theorem f_dueAt (r : Nat) : ∀ cs : List Claim, (cs.filter (dueAt r)).map amtD = (((duesOf cs).filter fun p => decide (p.1 = r)).map (·.2)).map fr
  | [] => rfl
  | c :: cs => by
    have ih := f_dueAt r cs
    cases c with
    | due q a =>
      simp only [duesOf, List.filter_cons, dueAt]
      by_cases h : q = r
      · simp [h, amtD, ih]
      · simp [h, ih]
    | _ => simp only [duesOf, List.filter_cons, dueAt, Bool.false_eq_true, if_false]; exact ih
theorem f_shares : ∀ cs : List Claim, (cs.filter isShares).map shD = (sharesOf cs).map fr
  | [] => rfl
  | c :: cs => by
    have ih := f_shares cs
    cases c <;> simp only [List.filter_cons, isShares, if_true, Bool.false_eq_true, if_false, sharesOf, List.map_cons, shD] <;> rw [ih]
theorem f_opts : ∀ cs : List Claim, (cs.filter isOpt).map claimD = (optsOf cs).map opD
  | [] => rfl
  | c :: cs => by
    have ih := f_opts cs
    cases c <;> simp only [List.filter_cons, isOpt, if_true, Bool.false_eq_true, if_false, optsOf, List.map_cons, claimD] <;> rw [ih]
theorem f_caps : ∀ cs : List Claim, (cs.filter isCap).map claimD = (capsOf cs).map capD
  | [] => rfl
  | c :: cs => by
    have ih := f_caps cs
    cases c <;> simp only [List.filter_cons, isCap, if_true, Bool.false_eq_true, if_false, capsOf, List.map_cons, claimD] <;> rw [ih]
theorem optsT_eq (cs : List Claim) (ps : List Rat) : (ps.map (optsR (optsOf cs))).map opD = (optsT cs ps).map claimD := by
  unfold optsT
  rw [List.map_map, List.map_map]
  apply List.map_congr_left
  intro q _
  simp only [Function.comp, optsR, claimD]
theorem caps_eq (qs : List (Claim × Rat)) : qs.map capD = (qs.map capC).map claimD := by
  rw [List.map_map]
  apply List.map_congr_left
  intro q _
  exact capD_eq q
mutual
theorem sh_claim : ∀ (c : Claim) (n : Nat), 2 + 2 * depth c ≤ n → Sh n (claimD c)
  | .none, n + 1, _ => by
    simp only [claimD]
    refine sh_tup fun d hd => ?_
    rw [List.mem_singleton.mp hd]; exact sh_str (by decide +kernel)
  | .due r a, n + 2, _ => by
    simp only [claimD]
    refine sh_tup fun d hd => ?_
    simp only [List.mem_cons, List.not_mem_nil, or_false] at hd
    rcases hd with rfl | rfl | rfl
    · exact sh_str (by decide +kernel)
    · exact sh_int
    · exact sh_fr
  | .shares a, n + 2, _ => by
    simp only [claimD]
    refine sh_tup fun d hd => ?_
    simp only [List.mem_cons, List.not_mem_nil, or_false] at hd
    rcases hd with rfl | rfl
    · exact sh_str (by decide +kernel)
    · exact sh_fr
  | .option a p, n + 2, _ => by
    simp only [claimD]
    refine sh_tup fun d hd => ?_
    simp only [List.mem_cons, List.not_mem_nil, or_false] at hd
    rcases hd with rfl | rfl | rfl
    · exact sh_str (by decide +kernel)
    · exact sh_fr
    · exact sh_fr
  | .capped c a, n + 2, h => by
    simp only [depth] at h
    simp only [claimD]
    refine sh_tup fun d hd => ?_
    simp only [List.mem_cons, List.not_mem_nil, or_false] at hd
    rcases hd with rfl | rfl | rfl
    · exact sh_str (by decide +kernel)
    · exact sh_claim c (n + 1) (by omega)
    · exact sh_fr
  | .sum cs, n + 2, h => by
    simp only [depth] at h
    simp only [claimD]
    refine sh_tup fun d hd => ?_
    simp only [List.mem_cons, List.not_mem_nil, or_false] at hd
    rcases hd with rfl | rfl
    · exact sh_str (by decide +kernel)
    · exact sh_tup (sh_claims cs n (by omega))
  | .none, 0, h => by omega
  | .due _ _, 0, h => by omega
  | .due _ _, 1, h => by simp only [depth] at h; omega
  | .shares _, 0, h => by omega
  | .shares _, 1, h => by simp only [depth] at h; omega
  | .option _ _, 0, h => by omega
  | .option _ _, 1, h => by simp only [depth] at h; omega
  | .capped _ _, 0, h => by omega
  | .capped _ _, 1, h => by simp only [depth] at h; omega
  | .sum _, 0, h => by omega
  | .sum _, 1, h => by simp only [depth] at h; omega
theorem sh_claims : ∀ (cs : List Claim) (n : Nat), 2 + 2 * depths cs ≤ n → ∀ d ∈ claimsD cs, Sh n d
  | [], _, _, _, hd => by simp only [claimsD] at hd; cases hd
  | c :: cs, n, h, d, hd => by
    simp only [depths] at h
    simp only [claimsD] at hd
    rcases List.mem_cons.mp hd with z | z
    · rw [z]; exact sh_claim c n (by omega)
    · exact sh_claims cs n (by omega) d z
end
def NN (r : Claim) : Prop := ∀ a, r ≠ .capped .none a
theorem tids_snoc {c t : Claim} (h : Tid c t) : ∀ {cs ts : List Claim}, Tids cs ts → Tids (cs ++ [c]) (ts ++ [t])
  | _, _, .nil => .cons h .nil
  | _, _, .cons a b => .cons a (tids_snoc h b)
theorem rsum_nonneg {F : Claim → Rat} : ∀ {cs : List Claim}, (∀ d ∈ cs, 0 ≤ F d) → 0 ≤ rsum (cs.map F)
  | [], _ => Rat.le_refl
  | b :: cs, h => by
    rw [List.map_cons, rsum_cons]
    have := h b List.mem_cons_self
    have := rsum_nonneg (F := F) (cs := cs) fun d hd => h d (List.mem_cons_of_mem _ hd)
    grind
theorem rsum_mem {F : Claim → Rat} : ∀ {cs : List Claim} {c : Claim}, (∀ d ∈ cs, 0 ≤ F d) → c ∈ cs → F c ≤ rsum (cs.map F)
  | a :: cs, c, h, hc => by
    rw [List.map_cons, rsum_cons]
    have h0 : 0 ≤ rsum (cs.map F) := rsum_nonneg fun d hd => h d (List.mem_cons_of_mem _ hd)
    have ha := h a List.mem_cons_self
    rcases List.mem_cons.mp hc with z | z
    · rw [z]; grind
    · have := rsum_mem (F := F) (fun d hd => h d (List.mem_cons_of_mem _ hd)) z
      grind
/-- what stands in the row -/
structure Row (R : Nat) (cs : List Claim) : Prop where
  ok : ∀ c ∈ cs, OkC R c
  mg : ∀ c ∈ cs, Sw.mg c ≤ (MM : Rat)
  ns : NoSum cs
  dp : ∀ c ∈ cs, depth c ≤ 1
  lv : leavess cs ≤ 9
  cp : ∀ c a, Claim.capped c a ∈ cs → isLeaf c = true
theorem row_of {R : Nat} {cs ts : List Claim} (h : Tids cs ts) (hW : Wc R (.sum cs)) (hn : ∀ t ∈ ts, NN t) (hd : ∀ t ∈ ts, depth t ≤ 1) : Row R (ts.flatMap opened) := by
  obtain ⟨h1, h2, h3, h4⟩ := hW
  simp only [OkC, Sw.mg, leaves, depth] at *
  have hok := tids_ok h h1.2
  have hdp := tids_depth (n := 1) (Nat.le_refl _) h (by omega)
  have hmg := tids_mg h h1.2
  refine ⟨hok, fun c hc => ?_, hdp.2, hdp.1, Nat.le_trans (tids_leaves h h1.2) h3, fun c a hc => ?_⟩
  · have := rsum_mem (F := Sw.mg) (fun d hd => mg_nonneg (hok d hd)) hc
    grind
  · obtain ⟨t, ht, ho⟩ := List.mem_flatMap.mp hc
    have hdc := hdp.1 _ hc
    simp only [depth] at hdc
    have hcn : c ≠ .none := by
      rintro rfl
      cases t with
      | sum l =>
        have := hd _ ht
        simp only [depth] at this
        simp only [opened] at ho
        have := depths_le.mp (Nat.le_of_eq (show depths l = 0 by omega)) _ ho
        simp only [depth] at this
        omega
      | capped c' a' =>
        simp only [opened, List.mem_singleton] at ho
        exact hn _ ht a ho.symm
      | _ => simp only [opened, List.mem_singleton] at ho; cases ho
    cases c with
    | none => exact absurd rfl hcn
    | capped _ _ => simp only [depth] at hdc; omega
    | sum _ => simp only [depth] at hdc; omega
    | _ => rfl
end Sw
namespace Sw
open PySem PySem.Spec PyProof.Rows L2 Evl SwT
theorem nols_claims (cs : List Claim) : nols (cs.map claimD) = true := nols_map nol_claim _
theorem caps_count : ∀ {l : List (Claim × Rat)}, (∀ x ∈ l, isLeaf x.1 = true) → l.length ≤ (l.map fun p => leaves (capC p)).sum
  | [], _ => Nat.le_refl _
  | x :: l, h => by
    have ih := caps_count fun y hy => h y (List.mem_cons_of_mem _ hy)
    have hx := h x List.mem_cons_self
    rw [List.map_cons, List.sum_cons, List.length_cons]
    have : 1 ≤ leaves (capC x) := by
      unfold capC
      simp only [leaves]
      cases hq : x.1 <;> rw [hq] at hx <;> simp [isLeaf, leaves] at *
    omega
theorem toNat_nodup : ∀ {ns : List Int}, ns.Pairwise (· < ·) → (∀ k ∈ ns, 0 ≤ k) → (ns.map Int.toNat).Nodup
  | [], _, _ => List.nodup_nil
  | n :: ns, h, h0 => by
    obtain ⟨h1, h2⟩ := List.pairwise_cons.mp h
    rw [List.map_cons]
    refine List.nodup_cons.mpr ⟨fun z => ?_, toNat_nodup h2 fun k hk => h0 k (List.mem_cons_of_mem _ hk)⟩
    obtain ⟨m, hm, e⟩ := List.mem_map.mp z
    have := h1 m hm
    have := h0 m (List.mem_cons_of_mem _ hm)
    have := h0 n List.mem_cons_self
    omega
section
variable {K : PySem.W.Frag} {σ : L2.St} {H H' : Hp} {ta tb te : TE} {t : TT} {D : Ends} {ds : List PyData}
theorem setP_ed {i : Nat} {P : PyData → Prop} (h : EdP K te σ H P) (k : ∀ v H' d, P d → Ex H H' → Dp K H' v d → D.nx (σ.set i (some v)) H') : tAsg te (gName i) D σ H := h.run k
theorem retP_ed {P : PyData → Prop} (h : EdP K te σ H P) (k : ∀ v H' d, P d → Ex H H' → Dp K H' v d → D.rt v H') : tRet te D σ H := h.run k
theorem edt_ifF (h : Et K t σ H false) (h2 : EdT K tb σ H ds) : EdT K (tIf t ta tb) σ H ds := fun H1 e Q q => h H1 e _ fun H2 e2 => by
  show (if false = true then ta σ H2 Q else tb σ H2 Q)
  rw [if_neg Bool.false_ne_true]
  exact h2 H2 (e.trans e2) Q fun v H3 e3 d => q v H3 (e2.trans e3) d
theorem if_join {t1 : TS} {b : Bool} {Pst : Hp → Prop} (h : Et K t σ H b) (k : ∀ H', Pst H' → D.nx σ H') (h1 : (∀ H', Pst H' → D.nx σ H') → b = true → ∀ H', Ex H H' → t1 D σ H') (h2 : b = false → ∀ H', Ex H H' → Pst H') : tIfS t t1 tNext D σ H :=
  if_et h (h1 k) fun hb H' e => nil_ed (k H' (h2 hb H' e))
theorem EdL.toP (h : EdL K te σ H ds) : EdLP K te σ H (· = ds) := fun H1 e Q q => h H1 e Q fun p H2 e2 hn l => q p H2 ds rfl e2 hn l
end
section
variable {P : Program} {w : World} {K : PySem.W.Frag} {mg : Str → Option Value} {base : Heap}
abbrev Cf_tidied (P w K mg base) (n : Nat) := Cal P w K mg base "tidied" (2 * n + 8) ["claim"] (spR K (fun c : Claim => [claimD c]) (fun c => depth c < n ∧ ∃ R, Wc R c) fun c d => ∃ r, Tid c r ∧ NN r ∧ d = claimD r)
abbrev Cf_tidy_sum (P w K mg base) (n : Nat) := Cal P w K mg base "tidy_sum" (2 * n + 9) ["claims"] (spR K (fun cs : List Claim => [.tuple (cs.map claimD)]) (fun cs => depths cs < n ∧ ∃ R, Wc R (.sum cs)) fun cs d => ∃ r, Tid (.sum cs) r ∧ NN r ∧ d = claimD r)
theorem sc_tidy_sum : FnScope ["claims", "some", "one", "found", "rank", "shares", "own"] ["claims"] (defScope s_tidy_sum) := ⟨rfl, rfl, rfl, by decide +kernel, rfl, by decide +kernel, by decide +kernel⟩
/-- the filtered comprehension over the row, by the word -/
theorem row_word {σ : L2.St} {H : Hp} {v1 : V} {c : Claim} {x : Str} {i : Nat} (hs : σ[i]? = some (some v1)) (d1 : Dp K H v1 (claimD c)) (hx : PyData.strOk x = true) : Et K (tTest (tOp (rEqD K) (tOp (rIx K) (tVar i) (tC (.int 0))) (tC (.str x)))) σ H (decide (wordS c = x)) := by
  obtain ⟨rest, hw⟩ := claimD_word c
  exact et_test (ed_eqs (ed_ixT (by rw [← hw]; exact ed_var hs d1) ed_int (atI_nat (j := 0) rfl)) ed_str (word_ok c) hx)
theorem ok_tidy_sum (T : Tx w K mg) (C_tidy_options : Cf_tidy_options P w K mg base) (C_total : Cf_total P w K mg base) (n : Nat) (C_tidied : Cf_tidied P w K mg base n) : Cf_tidy_sum P w K mg base n := by
  refine T.cal (d := d_tidy_sum) 31 33 rfl rfl rfl rfl rfl sc_tidy_sum (fun _ _ _ _ _ _ us hl => match us, hl with | [_], _ => rfl) (spR_len fun _ => rfl) fun f cdv A outer s H vs Q E hr h => ⟨_, (pss_cons (ps_set (i := 1) sc_tidy_sum.nd rfl (by first | exact Or.inl rfl | exact Or.inr rfl) (pe_lst pa_nil))
      (pss_cons (ps_for PassesOwn.never rfl (pi_tup (pv 0)) (pg_name (i := 2) sc_tidy_sum.nd rfl (by first | exact Or.inl rfl | exact Or.inr rfl)) (pss_cons (ps_set (i := 6) sc_tidy_sum.nd rfl (by first | exact Or.inl rfl | exact Or.inr rfl) (pe_cc C_tidied (hr.mono (by omega)) (by rfl) (pa_cons (pv 2) pa_nil)))
      (pss_one (ps_expr (pe_bm PySem.F.plainAttrs_list PySem.F.slot_list_extend PySem.F.type_list_extend mt_extendQ (pv 1) (pa_cons (pe_ifExp (pt_cmpR (op_eqD hr.units) (pe_ix ix_seq (pv 6) pe_int (fun _ _ => rfl)) pe_str (nomark _)) (pe_ix ix_seq (pv 6) pe_int (fun _ _ => rfl)) (pe_lst (pa_cons (pv 6) pa_nil))) pa_nil))))))
      (pss_cons (ps_set (i := 3) sc_tidy_sum.nd rfl (by first | exact Or.inl rfl | exact Or.inr rfl) (pe_lst pa_nil))
      (pss_cons (ps_for PassesOwn.never rfl (pi_list (pe_callB (cr_sortedSet rfl) (by rfl) T.f_sorted (by decide +kernel) (pa_cons (pe_callTy (cr_setL rfl) (by rfl) T.f_set (by decide +kernel) (pa_cons (pe_lc rfl sc_tidy_sum.nd (pi_list (pv 1)) (blkOk_by (own := [("one", 2)]) (N := ["claims", "some", "one", "found", "rank", "shares", "own"]) (by kernel_rfl)) (fun _ _ _ _ _ => (pg_name (i := 2) sc_tidy_sum.nd rfl (by first | exact Or.inl rfl | exact Or.inr rfl))) (fun _ _ _ _ _ => (pts_one (pt_cmpR (op_eqDK (K := K) rfl hr.units) (pe_ix (ix_seqK (K := K) rfl) (pv 2) pe_int (fun _ _ => rfl)) pe_str (nomark _)))) (fun _ _ _ _ _ => (pe_ix (ix_seqK (K := K) rfl) (pv 2) pe_int (fun _ _ => rfl)))) pa_nil)) pa_nil))) (pg_name (i := 4) sc_tidy_sum.nd rfl (by first | exact Or.inl rfl | exact Or.inr rfl)) (pss_one (ps_expr (pe_bm PySem.F.plainAttrs_list PySem.F.slot_list_append PySem.F.type_list_append mt_append (pv 3) (pa_cons (pe_tup (pa_cons pe_str (pa_cons (pv 4) (pa_cons (pe_cc C_total (hr.mono (by omega)) (by rfl) (pa_cons (pe_lc rfl sc_tidy_sum.nd (pi_list (pv 1)) (blkOk_by (own := [("one", 2)]) (N := ["claims", "some", "one", "found", "rank", "shares", "own"]) (by kernel_rfl)) (fun _ _ _ _ _ => (pg_name (i := 2) sc_tidy_sum.nd rfl (by first | exact Or.inl rfl | exact Or.inr rfl))) (fun _ _ _ _ _ => (pts_one (PW.pt (pw_and (pt_cmpR (op_eqDK (K := K) rfl hr.units) (pe_ix (ix_seqK (K := K) rfl) (pv 2) pe_int (fun _ _ => rfl)) pe_str (nomark _)) (pw_and1 (pt_cmpR (op_eqDK (K := K) rfl hr.units) (pe_ix (ix_seqK (K := K) rfl) (pv 2) pe_int (fun _ _ => rfl)) (pv 4) (nomark _))))))) (fun _ _ _ _ _ => (pe_ix (ix_seqK (K := K) rfl) (pv 2) pe_int (fun _ _ => rfl)))) pa_nil)) pa_nil)))) pa_nil)))))
      (pss_cons (ps_setLc (i := 5) rfl sc_tidy_sum.nd rfl rfl (sw_true rfl rfl rfl (by decide +kernel)) (pi_list (pv 1)) (blkOk_by (own := [("one", 2)]) (N := ["claims", "some", "one", "found", "rank", "shares", "own"]) (by kernel_rfl)) (fun _ _ _ _ _ => (pg_name (i := 2) sc_tidy_sum.nd rfl (by first | exact Or.inl rfl | exact Or.inr rfl))) (fun _ _ _ _ _ => (pts_one (pt_cmpR (op_eqDK (K := K) rfl hr.units) (pe_ix (ix_seqK (K := K) rfl) (pv 2) pe_int (fun _ _ => rfl)) pe_str (nomark _)))) (fun _ _ _ _ _ => (pe_ix (ix_seqK (K := K) rfl) (pv 2) pe_int (fun _ _ => rfl))))
      (pss_cons (ps_if (pt_cmpR (op_neD hr.units) (pv 5) (pe_lst pa_nil) (nomark _)) (pss_one (ps_expr (pe_bm PySem.F.plainAttrs_list PySem.F.slot_list_append PySem.F.type_list_append mt_append (pv 3) (pa_cons (pe_tup (pa_cons pe_str (pa_cons (pe_cc C_total (hr.mono (by omega)) (by rfl) (pa_cons (pv 5) pa_nil)) pa_nil))) pa_nil)))) pss_nil)
      (pss_cons (ps_expr (pe_bm PySem.F.plainAttrs_list PySem.F.slot_list_extend PySem.F.type_list_extend mt_extend (pv 3) (pa_cons (pe_cc C_tidy_options (hr.mono (by omega)) (by rfl) (pa_cons (pe_lc rfl sc_tidy_sum.nd (pi_list (pv 1)) (blkOk_by (own := [("one", 2)]) (N := ["claims", "some", "one", "found", "rank", "shares", "own"]) (by kernel_rfl)) (fun _ _ _ _ _ => (pg_name (i := 2) sc_tidy_sum.nd rfl (by first | exact Or.inl rfl | exact Or.inr rfl))) (fun _ _ _ _ _ => (pts_one (pt_cmpR (op_eqDK (K := K) rfl hr.units) (pe_ix (ix_seqK (K := K) rfl) (pv 2) pe_int (fun _ _ => rfl)) pe_str (nomark _)))) (fun _ _ _ _ _ => (pv 2))) pa_nil)) pa_nil)))
      (pss_cons (ps_expr (pe_bm PySem.F.plainAttrs_list PySem.F.slot_list_extend PySem.F.type_list_extend mt_extend (pv 3) (pa_cons (pe_callB (cr_sortC (hud_of hr)) (by rfl) T.f_sorted (by decide +kernel) (pa_cons (pe_lc rfl sc_tidy_sum.nd (pi_list (pv 1)) (blkOk_by (own := [("one", 2)]) (N := ["claims", "some", "one", "found", "rank", "shares", "own"]) (by kernel_rfl)) (fun _ _ _ _ _ => (pg_name (i := 2) sc_tidy_sum.nd rfl (by first | exact Or.inl rfl | exact Or.inr rfl))) (fun _ _ _ _ _ => (pts_one (pt_cmpR (op_eqDK (K := K) rfl hr.units) (pe_ix (ix_seqK (K := K) rfl) (pv 2) pe_int (fun _ _ => rfl)) pe_str (nomark _)))) (fun _ _ _ _ _ => (pv 2))) pa_nil)) pa_nil)))
      (pss_cons (ps_if (pt_cmpR op_gt (pe_callB call_len (by rfl) T.f_len (by decide +kernel) (pa_cons (pv 3) pa_nil)) pe_int (nomark _)) (pss_one (ps_ret (pe_tup (pa_cons pe_str (pa_cons (pe_callTy call_tuple_of (by rfl) T.f_tuple (by decide +kernel) (pa_cons (pv 3) pa_nil)) pa_nil))))) pss_nil)
      (pss_one (ps_ret (pe_ifExp (pt_cmpR (op_neD hr.units) (pv 3) (pe_lst pa_nil) (nomark _)) (pe_ix ix_seq (pv 3) pe_int (fun _ _ => rfl)) (pe_tup (pa_cons pe_str pa_nil)))))))))))))), ?_⟩
  obtain ⟨cs, hd, ⟨hn, R, hW⟩, k⟩ := h
  dsimp only at hd hn hW k
  obtain ⟨v, rfl, h1⟩ := dps_one hd
  obtain ⟨hl2, hl9, hsub⟩ := hW.sub
  have hdp1 : depths cs ≤ 1 := by have := hW.d; simp only [depth] at this; omega
  have hok : OkCs R cs := by have := hW.ok; simp only [OkC] at this; exact this.2
  have hlen : ∀ i ts, Tids (cs.take i) ts → (ts.flatMap opened).length ≤ 9 := fun i ts h => by
    have h1 : OkCs R (cs.take i) := okCs_iff.mpr fun c hc => okCs_iff.mp hok c (List.mem_of_mem_take hc)
    have h2 := leavess_len (okCs_iff.mpr (tids_ok h h1))
    have h3 := tids_leaves h h1
    have h4 := leavess_append (cs.take i) (cs.drop i)
    rw [List.take_append_drop] at h4
    have h5 := hW.l
    simp only [leaves] at h5
    omega
  refine seq_ed (newl_ed (K := K) (ds := []) (edl_lst eda_nil) fun p H1 e1 hp l1 => ?_)
  dsimp only
  refine seq_ed (for_dt (K := K) (ds := cs.map claimD) (ed_var rfl (dp_mono e1 h1)) fun x H2 e2 d2 =>
    ⟨fun i σ H' => ∃ (ts : List Claim) (o1 o2 o3 o4 o5 : Option V), σ = [some v, some (.ref p), o1, o2, o3, o4, o5] ∧ Ex H H' ∧ Im H2 H' ∧ Tids (cs.take i) ts ∧ (∀ t ∈ ts, NN t) ∧ (∀ t ∈ ts, depth t ≤ 1) ∧ Lm K H' p ((ts.flatMap opened).map claimD),
      ⟨[], none, none, none, none, none, rfl, e1.trans e2, Im.refl _, .nil, fun _ h => (by cases h), fun _ h => (by cases h), l1.mono e2⟩, ?_, ?_, ?_⟩)
  · rintro i σ' H' hi ⟨ts, o1, o2, o3, o4, o5, rfl, e, im, ht, hn1, hd1, l⟩
    exact dp_im im (by simp only [nol]; exact nols_claims _) d2
  · rintro i dd u σ' H' hi du ⟨ts, o1, o2, o3, o4, o5, rfl, e, im, ht, hn1, hd1, l⟩
    obtain ⟨c, hc, rfl⟩ := get_mapD hi
    have hcm := List.mem_of_getElem? hc
    obtain ⟨hWc, hdc⟩ := hsub c hcm
    have hdc2 := depths_le.mp (Nat.le_refl (depths cs)) c hcm
    refine seq_ed (setP_ed (K := K) (edP_call c (eda_cons (ed_var rfl du) eda_nil) ⟨by omega, R, hWc⟩) fun ov H3 d hq e3 d3 => ?_)
    obtain ⟨r, hr1, hr2, rfl⟩ := hq
    have htt : Tids (cs.take (i + 1)) (ts ++ [r]) := by rw [take_snoc hc]; exact tids_snoc hr1 ht
    have hln := hlen (i + 1) _ htt
    have hfm : (ts ++ [r]).flatMap opened = ts.flatMap opened ++ opened r := by rw [List.flatMap_append]; simp
    rw [hfm, List.length_append] at hln
    dsimp only
    refine extQ_ed (K := K) (b := isSum r) (es := (opened r).map claimD) rfl (l.mono e3) (nols_claims _) ?_ (nols_claims _) (by rw [List.length_map, List.length_map]; show _ ≤ 16777216; omega) fun H4 b4 i4 l4 => ⟨ts ++ [r], _, _, _, _, _, rfl, b4.ex hp (e.trans e3), (im.trans (im_ex e3)).trans i4, htt, fun t hh => ?_, fun t hh => ?_, by rw [hfm, List.map_append]; exact l4⟩
    · have hw0 : Et K _ _ _ (decide (wordS r = "sum")) := row_word (σ := ([some v, some (V.ref p), o1, o2, o3, o4, o5].set 2 (some u)).set 6 (some ov)) (i := 6) rfl d3 (by decide +kernel)
      rw [q_sum] at hw0
      cases r with
      | sum l =>
        simp only [claimD] at d3
        rw [claimsD_eq] at d3
        show Ed K _ _ _ _
        exact ed_if hw0 (fun _ => ed_ixT (ed_var rfl d3) ed_int rfl) fun z => absurd z (by simp [isSum])
      | none => exact edt_ifF hw0 (edl_lst (eda_cons (ed_var rfl d3) eda_nil)).toT
      | due _ _ => exact edt_ifF hw0 (edl_lst (eda_cons (ed_var rfl d3) eda_nil)).toT
      | shares _ => exact edt_ifF hw0 (edl_lst (eda_cons (ed_var rfl d3) eda_nil)).toT
      | option _ _ => exact edt_ifF hw0 (edl_lst (eda_cons (ed_var rfl d3) eda_nil)).toT
      | capped _ _ => exact edt_ifF hw0 (edl_lst (eda_cons (ed_var rfl d3) eda_nil)).toT
    · rcases List.mem_append.mp hh with z | z
      · exact hn1 t z
      · rw [List.mem_singleton.mp z]; exact hr2
    · rcases List.mem_append.mp hh with z | z
      · exact hd1 t z
      · rw [List.mem_singleton.mp z]; exact Nat.le_trans hr1.dp (by omega)
  · rintro σ' H' ⟨ts, o1, o2, o3, o4, o5, rfl, e, im, ht, hn1, hd1, l⟩
    rw [List.length_map, List.take_length] at ht
    have hrow := row_of ht hW hn1 hd1
    have htid := fun rs ps caps (hf : Found (ts.flatMap opened) rs ps caps) => tid_sum ht hdp1 hf
    generalize hS : ts.flatMap opened = S at *
    clear im d2
    have hSl : S.length ≤ 9 := Nat.le_trans (leavess_len (okCs_iff.mpr hrow.ok)) hrow.lv
    have hdu : ∀ x ∈ duesOf S, Fine 69 x.2 := fun x hx => by
      have hm : Claim.due x.1 x.2 ∈ S := mem_dues.mp hx
      have := hrow.ok _ hm
      simp only [OkC] at this
      exact grid_fine69 this.2.2 (by grind) (hrow.mg _ hm)
    have hsh : ∀ a ∈ sharesOf S, Fine 69 a := fun a ha => by
      have hm := mem_shares.mp ha
      have := hrow.ok _ hm
      simp only [OkC] at this
      exact grid_fine69 this.2 (by grind) (hrow.mg _ hm)
    have hop : ∀ x ∈ optsOf S, Fine 69 x.1 ∧ Fine 69 x.2 := fun x hx => by
      have hm : Claim.option x.1 x.2 ∈ S := mem_opts.mp hx
      have h5 := hrow.ok _ hm
      simp only [OkC] at h5
      refine ⟨grid_fine69 h5.2.1 (by grind) (hrow.mg _ hm), grid_fine69 h5.2.2.2.1 (by grind) ?_⟩
      have h3 : ((1000000000000 : Nat) : Rat) ≤ (MM : Rat) := Rat.natCast_le_natCast.mpr (by decide)
      have h4 : x.2 ≤ ((1000000000000 : Nat) : Rat) := h5.2.2.2.2
      grind
    have hdl : (duesOf S).length ≤ 9 := by have := count_sorts hrow.ns; have := hrow.lv; omega
    have hshl : (sharesOf S).length ≤ 9 := by have := count_sorts hrow.ns; have := hrow.lv; omega
    have hopl : (optsOf S).length ≤ 9 := by have := count_sorts hrow.ns; have := hrow.lv; omega
    dsimp only
    refine seq_ed (newl_ed (K := K) (ds := []) (edl_lst eda_nil) fun pf H3 e3 hpf lf => ?_)
    have hne : pf ≠ p := fun z => ne_of_none l.choose_spec.1 hpf z.symm
    have hpf0 : H pf = none := fresh_back e hpf
    dsimp only
    have hrk : ∀ {c : Claim}, isDue c = true → ∃ q a, c = .due q a := fun {c} h => by
      cases c <;> first | exact ⟨_, _, rfl⟩ | (simp only [isDue, Bool.false_eq_true] at h)
    have edS : ∀ {σ : L2.St} {H' : Hp}, σ[1]? = some (some (.ref p)) → Lm K H' p (S.map claimD) → EdI K (iList K (tVar 1)) σ H' (S.map claimD) := fun hs hl => edi_list (edt_var hs hl).toD
    refine seq_ed (for_lm (K := K) (edp_sortedSet (ms := (duesOf S).map fun x : Nat × Rat => ((x.1 : Nat) : Int)) ((lc_m claimD S isDue rankD (edS rfl (l.mono e3)) (by show _ ≤ 16777216; omega) fun c hc v1 H4 e4 d4 => ?_).cast (f_dues S)).toT (by rw [List.length_map]; omega)) fun q H4 ds hds e4 hq4 lq => ?_)
    · refine tu_name rfl ((row_word rfl d4 (by decide +kernel)).cast (q_due c)) fun hb => ?_
      obtain ⟨r, a, rfl⟩ := hrk hb
      simp only [claimD] at d4
      exact ⟨ed_ixT (ed_var rfl d4) ed_int rfl, rfl⟩
    obtain ⟨ns, hn1, hn2, rfl⟩ := hds
    have hn0 : ∀ m ∈ ns, 0 ≤ m := fun m hm => by
      obtain ⟨x, _, rfl⟩ := List.mem_map.mp ((hn2 m).mp hm)
      exact Int.natCast_nonneg _
    generalize hrs : ns.map Int.toNat = rs at *
    have hrn : rs.Nodup := hrs ▸ toNat_nodup hn1 hn0
    have hrm : ∀ r, r ∈ rs ↔ ∃ a, (r, a) ∈ duesOf S := fun r => by
      rw [← hrs, List.mem_map]
      constructor
      · rintro ⟨m, hm, rfl⟩
        obtain ⟨x, hx, rfl⟩ := List.mem_map.mp ((hn2 m).mp hm)
        exact ⟨x.2, hx⟩
      · rintro ⟨a, ha⟩
        exact ⟨(r : Int), (hn2 _).mpr (List.mem_map.mpr ⟨(r, a), ha, rfl⟩), rfl⟩
    have hrl : rs.length ≤ 9 := by
      have := nodup_len (ks := rs) (xs := (duesOf S).map (·.1)) hrn fun r hr => by
        obtain ⟨a, ha⟩ := (hrm r).mp hr
        exact List.mem_map.mpr ⟨_, ha, rfl⟩
      rw [List.length_map] at this
      omega
    have hnl : ns.length = rs.length := by rw [← hrs, List.length_map]
    have hqp : q ≠ pf := fun z => ne_of_none lf.choose_spec.1 hq4 z.symm
    refine ⟨fun i σ H' => ∃ (o1 o2 o3 o4 : Option V), σ = [some v, some (.ref p), o1, some (.ref pf), o2, o3, o4] ∧ Ex H H' ∧ Lm K H' p (S.map claimD) ∧ Lm K H' q (ns.map PyData.int) ∧ Lm K H' pf ((duesT S (rs.take i)).map claimD),
      ⟨_, _, _, _, rfl, (e.trans e3).trans e4, l.mono (e3.trans e4), lq, lf.mono e4⟩, ?_, ?_, ?_⟩
    · rintro i σ' H' hi ⟨o1, o2, o3, o4, rfl, e, l, lq, lf⟩
      exact lq
    · rintro i dd u σ' H' hi du ⟨o1, o2, o3, o4, rfl, e, l, lq, lf⟩
      obtain ⟨m, hm, rfl⟩ := get_mapD hi
      obtain rfl := dp_int du
      have hm0 := hn0 m (List.mem_of_getElem? hm)
      have hri : rs[i]? = some m.toNat := by rw [← hrs, List.getElem?_map, hm]; rfl
      have hmr : m = ((m.toNat : Nat) : Int) := by omega
      generalize m.toNat = r at *
      subst hmr
      have hdt : duesT S (rs.take (i + 1)) = duesT S (rs.take i) ++ [.due r (rsum (((duesOf S).filter fun p => decide (p.1 = r)).map (·.2)))] := by
        unfold duesT
        rw [take_snoc hri, List.map_append]; rfl
      refine app_ed (K := K) rfl lf (nols_claims _) (d := claimD (.due r (rsum (((duesOf S).filter fun p => decide (p.1 = r)).map (·.2))))) (by
        simp only [claimD]
        refine ed_tup (eda_cons ed_str (eda_cons (ed_var rfl (.int _)) (eda_cons ((ed_call ((((duesOf S).filter fun p : Nat × Rat => decide (p.1 = r)).map fun p : Nat × Rat => p.2) : List Rat) (eda_cons ((lc_m claimD S (dueAt r) amtD (edS rfl l) (by show _ ≤ 16777216; omega) fun c hc v1 H5 e5 d5 => ?_).toD.cast (congrArg PyData.list (f_dueAt r S))) eda_nil) ⟨69, ?_, fun z hz => ?_⟩).cast rfl) eda_nil)))
        · refine tu_name rfl ((et_and (b := dueAt r c) ((row_word rfl d5 (by decide +kernel)).cast (q_due c)) fun hb => ?_).cast ?_) fun hb => ?_
          · obtain ⟨q, a, rfl⟩ := hrk hb
            simp only [claimD] at d5
            exact (et_test (ed_eqi (ed_ixT (ed_var rfl d5) ed_int rfl) (ed_var rfl (.int _)))).cast (by simp only [dueAt]; exact decide_eq_decide.mpr (by omega))
          · cases c <;> simp [isDue, dueAt]
          · cases c with
            | due q a =>
              simp only [claimD] at d5
              exact ⟨ed_ixT (ed_var rfl d5) ed_int rfl, nol_fr _⟩
            | _ => simp only [dueAt, Bool.false_eq_true] at hb
        · have := List.length_filter_le (fun p : Nat × Rat => decide (p.1 = r)) (duesOf S)
          rw [List.length_map]
          show _ ≤ 4000
          omega
        · obtain ⟨x, hx, rfl⟩ := List.mem_map.mp hz
          exact hdu x (List.mem_filter.mp hx).1) (nol_claim _) (by rw [List.length_map]; unfold duesT; rw [List.length_map, List.length_take]; show _ < 16777216; omega) fun H5 b5 i5 l5 => ⟨_, _, _, _, rfl, b5.ex hpf0 e, l.exB b5 hne.symm i5 (nols_claims _), lq.exB b5 hqp i5 (nols_map (fun _ => rfl) _), by rw [hdt, List.map_append]; exact l5⟩
    · rintro σ' H' ⟨o1, o2, o3, o4, rfl, e, l, lq, lf⟩
      rw [List.length_map, hnl, List.take_length] at lf
      clear lq
      dsimp only
      refine seq_ed (newl_ed (K := K) (ds := (sharesOf S).map fr) ((lc_m claimD S isShares shD (edS rfl l) (by show _ ≤ 16777216; omega) fun c hc v1 H4 e4 d4 => ?_).cast (f_shares S)) fun sq H4 e4 hsq lsq => ?_)
      · refine tu_name rfl ((row_word rfl d4 (by decide +kernel)).cast (q_shares c)) fun hb => ?_
        cases c with
        | shares a =>
          simp only [claimD] at d4
          exact ⟨ed_ixT (ed_var rfl d4) ed_int rfl, nol_fr _⟩
        | _ => simp only [isShares, Bool.false_eq_true] at hb
      have e4' := e.trans e4
      have hduT : (duesT S rs).length ≤ 9 := by unfold duesT; rw [List.length_map]; exact hrl
      dsimp only
      refine seq_ed (if_join (K := K) (b := decide (sharesOf S ≠ [])) (Pst := fun H' => Ex H H' ∧ Lm K H' p (S.map claimD) ∧ Lm K H' pf ((duesT S rs ++ sharesT S).map claimD)) (et_test (ed_ne (edt_var rfl lsq).toD (ed_lst eda_nil) ((sh_lst (sh_map (fun _ => sh_fr (n := 0)) _)).mono (by decide)) (sh_lst fun d hd => by cases hd) (by rw [decide_eq_true_eq]; simp))) (fun H5 hh => ?_) (fun kk hb H5 e5 => ?_) fun hb H5 e5 => ?_)
      · obtain ⟨e5, l, lf⟩ := hh
        have hpr := prices_mem ((optsOf S).map fun x : Rat × Rat => x.2).length ((optsOf S).map fun x : Rat × Rat => x.2) (Nat.le_refl _)
        have hpl : (pricesOf ((optsOf S).map fun x : Rat × Rat => x.2)).length ≤ 9 := by
          have h := nodup_len (xs := (optsOf S).map fun x : Rat × Rat => x.2) hpr.1 fun r hr => (hpr.2 r).mp hr
          have he : ((optsOf S).map fun x : Rat × Rat => x.2).length = (optsOf S).length := List.length_map _
          exact Nat.le_trans h (by rw [he]; exact hopl)
        have hst : (sharesT S).length ≤ 1 := by unfold sharesT; split <;> simp
        have hlen0 : (duesT S rs ++ sharesT S).length ≤ 10 := by rw [List.length_append]; omega
        generalize hps : pricesOf ((optsOf S).map fun x : Rat × Rat => x.2) = ps at *
        have hpn : ps.Nodup := hps ▸ hpr.1
        have hpm : ∀ p, p ∈ ps ↔ ∃ a, (a, p) ∈ optsOf S := fun p => by
          rw [← hps]
          refine (hpr.2 p).trans ?_
          rw [List.mem_map]
          exact ⟨fun ⟨x, hx, z⟩ => ⟨x.1, by rw [← z]; exact hx⟩, fun ⟨a, ha⟩ => ⟨(a, p), ha, rfl⟩⟩
        dsimp only
        refine seq_ed (extP_ed (K := K) rfl lf (nols_claims _) (EdL.toP (ds := (optsT S ps).map claimD) ((edl_call (optsOf S) (eda_cons ((lc_m claimD S isOpt claimD (edS rfl l) (by show _ ≤ 16777216; omega) fun c hc v1 H6 e6 d6 => ?_).toD.cast (congrArg PyData.list (f_opts S))) eda_nil) ⟨by omega, fun x hx => ⟨(hop x hx).1.mono (by decide), (hop x hx).2.mono (by decide)⟩⟩).cast (by rw [hps]; exact optsT_eq S ps))) (fun es hes => by
            subst hes
            refine ⟨nols_claims _, ?_⟩
            rw [List.length_map, List.length_map]
            unfold optsT
            rw [List.length_map]
            show _ ≤ 16777216
            omega) fun es H6 hes b6 i6 l6 => ?_)
        · exact tu_name rfl ((row_word rfl d6 (by decide +kernel)).cast (q_opt c)) fun hb => ⟨ed_var rfl d6, nol_claim _⟩
        · subst hes
          have e6 := b6.ex hpf0 e5
          have l' := l.exB b6 hne.symm i6 (nols_claims _)
          rw [← List.map_append] at l6
          have hcl : ∀ x ∈ capsOf S, isLeaf x.1 = true := fun x hx => hrow.cp x.1 x.2 (mem_caps.mp hx)
          have hcpl : (capsOf S).length ≤ 9 := by
            have h1 := count_sorts hrow.ns
            have h2 := hrow.lv
            have h3 := caps_count hcl
            omega
          dsimp only
          refine seq_ed (extP_ed (K := K) rfl l6 (nols_claims _) (edp_sortC ((lc_m claimD S isCap claimD (edS rfl l') (by show _ ≤ 16777216; omega) fun c hc v1 H7 e7 d7 => ?_).cast (f_caps S)).toT hcl) (fun es hes => by
            obtain ⟨qs, hq1, rfl⟩ := hes
            rw [caps_eq]
            refine ⟨nols_claims _, ?_⟩
            have := hq1.length_eq
            simp only [List.length_map, List.length_append] at *
            unfold optsT
            rw [List.length_map]
            show _ ≤ 16777216
            omega) fun es H7 hes b7 i7 l7 => ?_)
          · exact tu_name rfl ((row_word rfl d7 (by decide +kernel)).cast (q_cap c)) fun hb => ⟨ed_var rfl d7, nol_claim _⟩
          · obtain ⟨qs, hq1, rfl⟩ := hes
            have e7 := b7.ex hpf0 e6
            rw [caps_eq, ← List.map_append] at l7
            have hF : Found S rs ps qs := ⟨hrn, hrm, hpn, hpm, hq1⟩
            have hT := htid rs ps qs hF
            have hfd : duesT S rs ++ sharesT S ++ optsT S ps ++ qs.map capC = foundT S rs ps qs := by unfold foundT; simp only [List.append_assoc]
            rw [hfd] at l7
            have hfdp := found_depth hF hrow.dp
            have hflen : (foundT S rs ps qs).length ≤ 100 := by
              rw [← hfd]
              have := hq1.length_eq
              simp only [List.length_map, List.length_append]
              unfold optsT
              rw [List.length_map]
              rw [List.length_append] at hlen0
              omega
            have hcm : ∀ a, Claim.capped .none a ∉ foundT S rs ps qs := fun a hm => by
              rw [← hfd] at hm
              rcases List.mem_append.mp hm with hm | hm
              · rcases List.mem_append.mp hm with hm | hm
                · rcases List.mem_append.mp hm with hm | hm
                  · unfold duesT at hm; obtain ⟨_, _, z⟩ := List.mem_map.mp hm; cases z
                  · unfold sharesT at hm; split at hm
                    · cases hm
                    · cases List.mem_singleton.mp hm
                · unfold optsT at hm; obtain ⟨_, _, z⟩ := List.mem_map.mp hm; cases z
              · obtain ⟨x, hx, z⟩ := List.mem_map.mp hm
                unfold capC at z
                have h1 : x.1 = .none := by injection z
                have h2 := hcl x (hq1.mem_iff.mp hx)
                rw [h1] at h2
                simp [isLeaf] at h2
            generalize foundT S rs ps qs = F at *
            dsimp only
            refine seq_ed (if_et (K := K) (b := decide (1 < F.length)) ((et_test (ed_gt (ed_lenL (edt_var rfl l7).toD) ed_int)).cast (decide_eq_decide.mpr (by rw [List.length_map]; omega))) (fun hb H8 e8 => ?_) fun hb H8 e8 => nil_ed ?_)
            · have hb := of_decide_eq_true hb
              refine ret_ed (K := K) (d := claimD (.sum F)) (by
                simp only [claimD]
                rw [claimsD_eq]
                exact ed_tup (eda_cons ed_str (eda_cons (ed_tupleL (edt_var rfl (l7.mono e8)).toD) eda_nil))) fun z H9 e9 d9 => k z H9 _ ⟨.sum F, ?_, fun a z => (by cases z), rfl⟩ ((e7.trans e8).trans e9) d9
              have : resultT F = .sum F := by unfold resultT; rw [if_pos hb]
              rw [← this]; exact hT
            · have hb := of_decide_eq_false hb
              have hre : resultT F = F.headD .none := by unfold resultT; rw [if_neg hb]
              have hsF : ∀ d ∈ F.map claimD, Sh 50 d := fun d hd => by
                obtain ⟨c, hc, rfl⟩ := List.mem_map.mp hd
                have := hfdp c hc
                exact sh_claim c 50 (by omega)
              dsimp only
              refine ret_ed (K := K) (d := claimD (F.headD .none)) (ed_if (b := decide (F ≠ [])) (et_test (ed_ne (edt_var rfl (l7.mono e8)).toD (ed_lst eda_nil) ((sh_lst hsF).mono (by decide)) (sh_lst fun d hd => by cases hd) (by rw [decide_eq_true_eq]; simp))) (fun hz => ?_) fun hz => ?_) fun z H9 e9 d9 => k z H9 _ ⟨F.headD .none, by rw [← hre]; exact hT, fun a z => ?_, rfl⟩ ((e7.trans e8).trans e9) d9
              · have hz := of_decide_eq_true hz
                cases F with
                | nil => exact absurd rfl hz
                | cons a r => exact ed_ixL (edt_var rfl (l7.mono e8)).toD ed_int (atI_map (i := 0) rfl)
              · have hz := of_decide_eq_false hz
                have : F = [] := by simpa using hz
                subst this
                simp only [List.headD_nil, claimD]
                exact ed_tup (eda_cons ed_str eda_nil)
              · cases F with
                | nil => cases z
                | cons b r =>
                  simp only [List.headD_cons] at z
                  exact hcm a (by rw [z]; exact List.mem_cons_self)
      · have hb := of_decide_eq_true hb
        refine app_ed (K := K) rfl ((lf.mono e4).mono e5) (nols_claims _) (d := claimD (.shares (rsum (sharesOf S)))) (by
          simp only [claimD]
          exact ed_tup (eda_cons ed_str (eda_cons (ed_call (sharesOf S) (eda_cons (edt_var rfl (lsq.mono e5)).toD eda_nil) ⟨69, by show _ ≤ 4000; omega, hsh⟩) eda_nil))) (nol_claim _) (by rw [List.length_map]; show _ < 16777216; omega) fun H6 b6 i6 l6 => ?_
        have hst : sharesT S = [.shares (rsum (sharesOf S))] := by unfold sharesT; rw [if_neg hb]
        exact kk H6 ⟨b6.ex hpf0 (e4'.trans e5), (l.mono (e4.trans e5)).exB b6 hne.symm i6 (nols_claims _), by rw [hst, List.map_append]; exact l6⟩
      · have hb := of_decide_eq_false hb
        have hst : sharesT S = [] := by unfold sharesT; rw [if_pos (by simpa using hb)]
        exact ⟨e4'.trans e5, l.mono (e4.trans e5), by rw [hst, List.append_nil]; exact lf.mono (e4.trans e5)⟩
end
end Sw
namespace Sw
open PySem PySem.Spec PyProof.Rows L2 Evl SwT
section
variable {K : PySem.W.Frag} {σ : L2.St} {H H' : Hp} {ta tb te : TE} {ts : TA} {t : TT} {D : Ends} {es : List PyData}
theorem edP_callF {α : Type} {args : α → List PyData} {pre : α → Prop} {res : α → PyData} {P R : PyData → Prop} (h : EdP K ta σ H P) (hs : EdA K ts σ H es) (hx : ∀ d, P d → ∃ x, args x = d :: es ∧ pre x ∧ R (res x)) : EdP K (tCall (spF K args pre res) [] E0 (tCons ta ts)) σ H R := fun H1 e Q q =>
  h H1 e _ fun v H2 d pd e2 dv => hs H2 (e.trans e2) _ fun vs H3 e3 dvs => by
    obtain ⟨x, x1, x2, x3⟩ := hx d pd
    exact ⟨x, by rw [List.append_nil, x1]; exact .cons (dp_mono e3 dv) dvs, x2, fun v' H4 e4 d4 => q v' H4 _ x3 ((e2.trans e3).trans e4) d4⟩
theorem EdP.weak {P R : PyData → Prop} (h : EdP K te σ H P) (k : ∀ d, P d → R d) : EdP K te σ H R := fun H1 e Q q => h H1 e Q fun v H2 d pd e2 dd => q v H2 d (k d pd) e2 dd
theorem edP_if {b : Bool} {P : PyData → Prop} (h : Et K t σ H b) (h1 : b = true → EdP K ta σ H P) (h2 : b = false → EdP K tb σ H P) : EdP K (tIf t ta tb) σ H P := fun H1 e Q q => h H1 e _ fun H2 e2 => by
  cases b with
  | true =>
    show (if true = true then ta σ H2 Q else tb σ H2 Q)
    rw [if_pos rfl]
    exact h1 rfl H2 (e.trans e2) Q fun v H3 d pd e3 dd => q v H3 d pd (e2.trans e3) dd
  | false =>
    show (if false = true then ta σ H2 Q else tb σ H2 Q)
    rw [if_neg Bool.false_ne_true]
    exact h2 rfl H2 (e.trans e2) Q fun v H3 d pd e3 dd => q v H3 d pd (e2.trans e3) dd
end
theorem nn_cap {t : Claim} {a : Rat} (h : NN t) : NN (tidyCap t a) := fun b z => by
  cases t with
  | none => simp only [tidyCap] at z; cases z
  | capped c q => simp only [tidyCap] at z; injection z with z1 z2; exact h q (by rw [z1])
  | due r q => simp only [tidyCap] at z; split at z <;> cases z
  | shares _ => simp only [tidyCap] at z; cases z
  | option _ _ => simp only [tidyCap] at z; cases z
  | sum _ => simp only [tidyCap] at z; cases z
theorem cap_fine {R : Nat} {t : Claim} (h : OkC R t) (hm : mg t ≤ (MM : Rat)) : (∀ c b, t = .capped c b → Fine FB b) ∧ ∀ r b, t = .due r b → Fine FB b := by
  refine ⟨fun c b z => ?_, fun r b z => ?_⟩
  · subst z
    simp only [OkC, mg] at h hm
    have := mg_nonneg h.1
    exact (grid_fine69 h.2.2 (by grind) (by grind)).fb (by decide)
  · subst z
    simp only [OkC, mg] at h hm
    exact (grid_fine69 h.2.2 (by grind) hm).fb (by decide)
section
variable {P : Program} {w : World} {K : PySem.W.Frag} {mg : Str → Option Value} {base : Heap}
theorem sc_tidied : FnScope ["claim"] ["claim"] (defScope s_tidied) := ⟨rfl, rfl, rfl, by decide +kernel, rfl, by decide +kernel, by decide +kernel⟩
theorem ok_tidied (T : Tx w K mg) (C_tidy_cap : Cf_tidy_cap P w K mg base) (C_tidy_options : Cf_tidy_options P w K mg base) (C_total : Cf_total P w K mg base) : ∀ n, Cf_tidied P w K mg base n
  | 0 => T.cal (d := d_tidied) 29 31 rfl rfl rfl rfl rfl sc_tidied (fun _ _ _ _ _ _ us hl => match us, hl with | [_], _ => rfl) (spR_len fun _ => rfl) fun f cdv A outer s H vs Q E hr h => absurd h fun ⟨x, _, h, _⟩ => absurd h.1 (Nat.not_lt_zero _)
  | n + 1 => by
    have C_tidied := ok_tidied T C_tidy_cap C_tidy_options C_total n
    have C_tidy_sum := ok_tidy_sum T C_tidy_options C_total n C_tidied
    refine T.cal (d := d_tidied) 29 31 rfl rfl rfl rfl rfl sc_tidied (fun _ _ _ _ _ _ us hl => match us, hl with | [_], _ => rfl) (spR_len fun _ => rfl) fun f cdv A outer s H vs Q E hr h => ⟨_, (pss_cons (ps_if (pt_cmpR (op_eqD hr.units) (pe_ix ix_seq (pv 0) pe_int (fun _ _ => rfl)) pe_str (nomark _)) (pss_one (ps_ret (pe_cc C_tidy_cap (hr.mono (by omega)) (by rfl) (pa_cons (pe_cc C_tidied (hr.mono (by omega)) (by rfl) (pa_cons (pe_ix ix_seq (pv 0) pe_int (fun _ _ => rfl)) pa_nil)) (pa_cons (pe_ix ix_seq (pv 0) pe_int (fun _ _ => rfl)) pa_nil))))) pss_nil)
      (pss_one (ps_ret (pe_ifExp (pt_cmpR (op_eqD hr.units) (pe_ix ix_seq (pv 0) pe_int (fun _ _ => rfl)) pe_str (nomark _)) (pe_cc C_tidy_sum (hr.mono (by omega)) (by rfl) (pa_cons (pe_ix ix_seq (pv 0) pe_int (fun _ _ => rfl)) pa_nil)) (pv 0))))), ?_⟩
    obtain ⟨c, hd, ⟨hn, R, hW⟩, k⟩ := h
    dsimp only at hd hn hW k
    obtain ⟨v, rfl, h1⟩ := dps_one hd
    refine seq_ed (if_et (K := K) (row_word rfl h1 (by decide +kernel)) (fun hb H1 e1 => ?_) fun hb H1 e1 => nil_ed ?_)
    · obtain ⟨c, a, rfl⟩ := word_capped (of_decide_eq_true hb)
      obtain ⟨hWc, ha0, ha, hdp⟩ := hW.cap
      simp only [claimD] at h1
      have hW' := hW
      simp only [depth] at hn hdp
      refine retP_ed (K := K) (P := fun d => ∃ r, Tid (.capped c a) r ∧ NN r ∧ d = claimD r) (edP_callF (edP_call c (eda_cons (ed_ixT (ed_var rfl (dp_mono e1 h1)) ed_int rfl) eda_nil) ⟨by omega, R, hWc⟩) (eda_cons (ed_ixT (ed_var rfl (dp_mono e1 h1)) ed_int rfl) eda_nil) fun d hd => ?_) fun v H2 d hr e2 d2 => k v H2 d hr (e1.trans e2) d2
      obtain ⟨t, t1, t2, rfl⟩ := hd
      have hok := t1.ok R hWc.ok
      have hmg := t1.mg R hWc.ok
      have hm := hWc.m
      obtain ⟨f1, f2⟩ := cap_fine hok (by grind)
      exact ⟨(t, a), rfl, ⟨ha.fb (by decide), f1, f2⟩, tidyCap t a, tid_cap t1, nn_cap t2, rfl⟩
    · dsimp only
      have hb := of_decide_eq_false hb
      refine retP_ed (K := K) (P := fun d => ∃ r, Tid c r ∧ NN r ∧ d = claimD r) (edP_if (row_word rfl (dp_mono e1 h1) (by decide +kernel)) (fun hz => ?_) fun hz => (ed_var rfl (dp_mono e1 h1)).p.weak fun d z => ⟨c, Tid.refl c, fun a z2 => ?_, z⟩) fun v H2 d hr e2 d2 => k v H2 d hr (e1.trans e2) d2
      · obtain ⟨cs, rfl⟩ := word_sum (of_decide_eq_true hz)
        simp only [claimD] at h1
        rw [claimsD_eq] at h1
        simp only [depth] at hn
        exact edP_call cs (eda_cons (ed_ixT (ed_var rfl (dp_mono e1 h1)) ed_int rfl) eda_nil) ⟨by omega, R, hW⟩
      · subst z2
        exact hb rfl
end
end Sw
/-! readings of texts -/
namespace Sw
open PySem PySem.Spec PyProof.Rows L2 Evl SwT
abbrev numS (n : Nat) : Str := Str.ofString (toString ((n : Nat) : Int))
theorem numS_l (n : Nat) : (numS n).cps.toList = TL.numL n := TL.tl_num n
theorem dig (n : Nat) : ∀ c ∈ TL.numL n, 48 ≤ c ∧ c ≤ 57 := fun c hc => TL.numL_digits n c hc
theorem strOk_of {x : Str} (h : ∀ c ∈ x.cps.toList, c < 128) : PyData.strOk x = true := by
  unfold PyData.strOk
  rw [← Array.all_toList, List.all_eq_true]
  intro c hc
  exact decide_eq_true (Nat.lt_trans (h c hc) (by decide))
theorem numS_ok (n : Nat) : PyData.strOk (numS n) = true := strOk_of fun c hc => by
  rw [numS_l] at hc
  have := dig n c hc
  omega
theorem numS_len {n k : Nat} (hk : 0 < k) (h : n < 10 ^ k) : (numS n).length ≤ k := by
  show (numS n).cps.size ≤ k
  rw [← Array.length_toList, numS_l]
  exact TL.numL_len hk h
theorem numS_pos (n : Nat) : 0 < (numS n).length := by
  show 0 < (numS n).cps.size
  rw [← Array.length_toList, numS_l]
  exact List.length_pos_iff.mpr (TL.numL_ne n)
theorem app_l (x y : Str) : (x ++ y).cps.toList = x.cps.toList ++ y.cps.toList := TL.tl_append x y
theorem str_ext {x y : Str} (h : x.cps.toList = y.cps.toList) : x = y := TL.ext_tl h
section
variable {K : PySem.W.Frag} {σ : L2.St} {H H' : Hp} {ta tb tc te : TE} {t : TT} {x y : Str} {v : V}
theorem ed_strI {i : Int} (ha : Ed K ta σ H (.int i)) (hi : i.natAbs.log2 < 1920) : Ed K (tCB (fun xs H Q => ∃ i, xs = [.int i] ∧ i.natAbs.log2 < 1920 ∧ Q (.str (toString i)) H) (tCons ta tNil)) σ H (.str (Str.ofString (toString i))) :=
  ed_cb (eda_cons ha eda_nil) fun vs H1 Q h q => by
    obtain ⟨v, rfl, hv⟩ := dps_one h
    obtain rfl := dp_int hv
    exact ⟨i, rfl, hi, q _ H1 (Ex.refl H1) (.str _)⟩
theorem ed_intS {n : Int} (ha : Ed K ta σ H (.str x)) (hn : PySem.intText? x = some n) (hl : x.length ≤ 640) : Ed K (tCB (fun xs H Q => ∃ a n, xs = [.str a] ∧ PySem.intText? a = some n ∧ a.length ≤ 640 ∧ Q (.int n) H) (tCons ta tNil)) σ H (.int n) :=
  ed_cb (eda_cons ha eda_nil) fun vs H1 Q h q => by
    obtain ⟨v, rfl, hv⟩ := dps_one h
    obtain rfl := dp_str hv
    exact ⟨x, n, rfl, hn, hl, q _ H1 (Ex.refl H1) (.int _)⟩
theorem ed_catS (ha : Ed K ta σ H (.str x)) (hb : Ed K tb σ H (.str y)) (hl : x.length + y.length ≤ sizeLine) : Ed K (tOp (fun x y H Q => ∃ i j, x = .str i ∧ y = .str j ∧ i.length + j.length ≤ sizeLine ∧ Q (.str (i ++ j)) H) ta tb) σ H (.str (x ++ y)) :=
  ed_op ha hb fun a b H1 Q d1 d2 q => ⟨x, y, dp_str d1, dp_str d2, hl, q _ H1 (Ex.refl H1) (.str _)⟩
theorem ed_inC {c : Nat} (ha : Ed K ta σ H (.str ⟨#[c]⟩)) (hb : Ed K tb σ H (.str y)) : Ed K (tOp (fun x y H Q => ∃ (c : Nat) (z : Str), x = .str ⟨#[c]⟩ ∧ y = .str z ∧ Q (.bl (decide (c ∈ z.cps.toList))) H) ta tb) σ H (.bool (decide (c ∈ y.cps.toList))) :=
  ed_op ha hb fun a b H1 Q d1 d2 q => ⟨c, y, dp_str d1, dp_str d2, q _ H1 (Ex.refl H1) (.bl _)⟩
theorem ed_notInC {c : Nat} (ha : Ed K ta σ H (.str ⟨#[c]⟩)) (hb : Ed K tb σ H (.str y)) : Ed K (tOp (fun x y H Q => ∃ (c : Nat) (z : Str), x = .str ⟨#[c]⟩ ∧ y = .str z ∧ Q (.bl (!decide (c ∈ z.cps.toList))) H) ta tb) σ H (.bool (!decide (c ∈ y.cps.toList))) :=
  ed_op ha hb fun a b H1 Q d1 d2 q => ⟨c, y, dp_str d1, dp_str d2, q _ H1 (Ex.refl H1) (.bl _)⟩
theorem dps_strs' : ∀ ss : List Str, DpAll K H (ss.map V.str) (ss.map PyData.str)
  | [] => .nil
  | s :: ss => .cons (.str s) (dps_strs' ss)
theorem dps_bools : ∀ {bs : List Bool} {vs : List V}, DpAll K H vs (bs.map PyData.bool) → vs = bs.map V.bl
  | [], _, .nil => rfl
  | b :: bs, _, .cons h t => by rw [List.map_cons, dp_bool h, dps_bools t]
theorem ed_all {bs : List Bool} (ha : Ed K te σ H (.list (bs.map PyData.bool))) : Ed K (tCB (rAll K) (tCons te tNil)) σ H (.bool (bs.all id)) :=
  ed_cb (eda_cons ha eda_nil) fun vs H1 Q h q => by
    obtain ⟨v, rfl, hv⟩ := dps_one h
    obtain ⟨a, us, rfl, s1, a1⟩ := dp_lst hv
    obtain rfl := dps_bools a1
    exact ⟨a, bs, rfl, s1, q _ H1 (Ex.refl H1) (.bl _)⟩
theorem ed_any {bs : List Bool} (ha : Ed K te σ H (.list (bs.map PyData.bool))) : Ed K (tCB (rAny K) (tCons te tNil)) σ H (.bool (bs.any id)) :=
  ed_cb (eda_cons ha eda_nil) fun vs H1 Q h q => by
    obtain ⟨v, rfl, hv⟩ := dps_one h
    obtain ⟨a, us, rfl, s1, a1⟩ := dp_lst hv
    obtain rfl := dps_bools a1
    exact ⟨a, bs, rfl, s1, q _ H1 (Ex.refl H1) (.bl _)⟩
theorem edi_str (he : Ed K te σ H (.str x)) : EdI K (iStr te) σ H (x.cps.toList.map fun c => PyData.str ⟨#[c]⟩) := fun H1 e R k => he H1 e _ fun v H2 e2 d2 => by
  obtain rfl := dp_str d2
  refine ⟨x, rfl, k _ H2 e2 fun H' e' => ?_⟩
  rw [List.length_map, Array.length_toList]
  refine ⟨fun i hi => hi, Nat.le_refl _, fun i d y H'' hd hy => ?_⟩
  obtain ⟨rfl, c, hc, rfl⟩ := hy
  obtain ⟨c', hc', rfl⟩ := get_mapD hd
  rw [Array.getElem?_toList] at hc'
  rw [hc] at hc'
  cases hc'
  exact ⟨Ex.refl _, .str _⟩
/-- all(..) over the signs of a text -/
theorem sign_all {g : TG} {ws : List Nat} (f : Nat → Bool) (he : EdI K te' σ H (x.cps.toList.map fun c => PyData.str ⟨#[c]⟩)) (hl : x.length ≤ sizeLine)
    (hb : ∀ c ∈ x.cps.toList, ∀ v H1, Ex H H1 → Dp K H1 v (.str ⟨#[c]⟩) → Tu K g tYes te ws σ H1 v true (.bool (f c))) : Ed K (tLc te' g tYes te ws) σ H (.list ((x.cps.toList.map f).map PyData.bool)) :=
  (lc_m1 (fun c => PyData.str ⟨#[c]⟩) x.cps.toList (fun c => PyData.bool (f c)) he (by rw [Array.length_toList]; exact hl) hb).toD.cast (by rw [List.map_map]; rfl)
/-- a < b <= c, of whole numbers -/
theorem ed_chain {g1 g2 : Int → Int → Bool} {i j k : Int} (ha : Ed K ta σ H (.int i)) (hb : Ed K tb σ H (.int j)) (hc : Ed K tc σ H (.int k)) : Ed K (tChain (rI0 fun i j => .bl (g1 i j)) (rI0 fun i j => .bl (g2 i j)) ta tb tc) σ H (.bool (g1 i j && g2 j k)) := fun H1 e Q q =>
  ha H1 e _ fun v H2 e2 d2 => hb H2 (e.trans e2) _ fun u H3 e3 d3 => ⟨i, j, dp_int d2, dp_int d3, g1 i j, rfl, by
    cases hz : g1 i j with
    | true =>
      rw [if_pos rfl]
      refine hc H3 ((e.trans e2).trans e3) _ fun z H4 e4 d4 => ⟨j, k, dp_int d3, dp_int d4, ?_⟩
      exact q _ H4 ((e2.trans e3).trans e4) (by rw [hz, Bool.true_and]; exact .bl _)
    | false =>
      rw [if_neg Bool.false_ne_true]
      exact q _ H3 (e2.trans e3) (by rw [hz, Bool.false_and]; exact .bl _)⟩
/-- a <= b <= c, of texts -/
theorem ed_chainS {a b c : Str} (ha : Ed K ta σ H (.str a)) (hb : Ed K tb σ H (.str b)) (hc : Ed K tc σ H (.str c)) : Ed K (tChain (fun x y H Q => ∃ i j, x = .str i ∧ y = .str j ∧ Q (.bl (!decide (j.cps.toList < i.cps.toList))) H) (fun x y H Q => ∃ i j, x = .str i ∧ y = .str j ∧ Q (.bl (!decide (j.cps.toList < i.cps.toList))) H) ta tb tc) σ H
    (.bool (!decide (b.cps.toList < a.cps.toList) && !decide (c.cps.toList < b.cps.toList))) := fun H1 e Q q =>
  ha H1 e _ fun v H2 e2 d2 => hb H2 (e.trans e2) _ fun u H3 e3 d3 => ⟨a, b, dp_str d2, dp_str d3, !decide (b.cps.toList < a.cps.toList), rfl, by
    cases hz : (!decide (b.cps.toList < a.cps.toList)) with
    | true =>
      rw [if_pos rfl]
      refine hc H3 ((e.trans e2).trans e3) _ fun z H4 e4 d4 => ⟨b, c, dp_str d3, dp_str d4, ?_⟩
      exact q _ H4 ((e2.trans e3).trans e4) (by rw [hz, Bool.true_and]; exact .bl _)
    | false =>
      rw [if_neg Bool.false_ne_true]
      exact q _ H3 (e2.trans e3) (by rw [hz, Bool.false_and]; exact .bl _)⟩
theorem ed_isiS (ha : Ed K ta σ H (.str x)) : Ed K (tCB (rIsi K) (tCons ta (tCons (tC (.ty "str")) tNil))) σ H (.bool true) := fun H1 e Q q =>
  ha H1 e _ fun v H2 e2 d2 => ⟨_, _, _, _, true, rfl, .ty _, by obtain rfl := dp_str d2; exact .base (.str _), if_pos (beq_self_eq_true _), q _ H2 e2 (.bl _)⟩
theorem ed_isiI {i : Int} (ha : Ed K ta σ H (.int i)) : Ed K (tCB (rIsi K) (tCons ta (tCons (tC (.ty "int")) tNil))) σ H (.bool true) := fun H1 e Q q =>
  ha H1 e _ fun v H2 e2 d2 => ⟨_, _, _, _, true, rfl, .ty _, by obtain rfl := dp_int d2; exact .base (.int _), if_pos (beq_self_eq_true _), q _ H2 e2 (.bl _)⟩
theorem ed_isiB {i : Int} (ha : Ed K ta σ H (.int i)) : Ed K (tCB (rIsi K) (tCons ta (tCons (tC (.ty "bool")) tNil))) σ H (.bool false) := fun H1 e Q q =>
  ha H1 e _ fun v H2 e2 d2 => ⟨_, _, _, _, false, rfl, .ty _, by obtain rfl := dp_int d2; exact .base (.int _), by kernel_rfl, q _ H2 e2 (.bl _)⟩
theorem ed_split (ha : Ed K ta σ H (.str x)) (hy : (y.length == 0) = false) (hl : x.length + 2 ≤ sizeLine) : EdL K (tM1 (fun x xs H Q => ∃ a b, x = .str a ∧ xs = [.str b] ∧ (b.length == 0) = false ∧ a.length + 2 ≤ sizeLine ∧ rNewStrs (Txt.split a b) H Q) ta (tC (.str y))) σ H ((Txt.split x y).map PyData.str) := fun H1 e Q q =>
  ha H1 e _ fun v H2 e2 d2 => by
    obtain rfl := dp_str d2
    refine ⟨⟨x, rfl⟩, x, y, rfl, rfl, hy, hl, fun p hp => q p _ (e2.trans (Ex.new hp)) (fresh_back e2 hp) ⟨_, upd_same, ?_⟩⟩
    exact dps_strs' _
end
end Sw
namespace Sw
open PySem PySem.Spec PyProof.Rows L2 Evl SwT
/-- a fraction's text -/
def frS (q : Rat) : Str := if q.den = 1 then numS q.num.toNat else numS q.num.toNat ++ "/" ++ numS q.den
/-- a fraction that is written in a text -/
structure Wf (q : Rat) : Prop where
  pos : 0 < q
  n : q.num.toNat < 10 ^ 20
  d : q.den < 10 ^ 20
theorem Wf.num {q : Rat} (h : Wf q) : ((q.num.toNat : Nat) : Int) = q.num := by
  have := num_pos'.mpr h.pos
  omega
theorem log_small {i : Int} (h : i.natAbs < 10 ^ 20) : i.natAbs.log2 < 1920 := by
  by_cases h0 : i.natAbs = 0
  · rw [h0]; decide
  · exact (Nat.log2_lt h0).mpr (Nat.lt_trans h (by decide))
theorem frS_l (q : Rat) : (frS q).cps.toList = if q.den = 1 then TL.numL q.num.toNat else TL.numL q.num.toNat ++ 47 :: TL.numL q.den := by
  unfold frS
  split
  · exact numS_l _
  · rw [app_l, app_l, numS_l, numS_l]
    show (_ ++ [47]) ++ _ = _
    simp
theorem frS_low (q : Rat) : ∀ c ∈ (frS q).cps.toList, c ≠ 32 ∧ c ≠ 10 ∧ 45 < c ∧ c < 58 := fun c hc => by
  rw [frS_l] at hc
  split at hc
  · have := dig _ c hc; omega
  · rcases List.mem_append.mp hc with z | z
    · have := dig _ c z; omega
    · rcases List.mem_cons.mp z with z | z
      · omega
      · have := dig _ c z; omega
theorem frS_ok (q : Rat) : PyData.strOk (frS q) = true := strOk_of fun c hc => by have := frS_low q c hc; omega
theorem frS_len {q : Rat} (h : Wf q) : (frS q).length ≤ 41 := by
  show (frS q).cps.size ≤ 41
  rw [← Array.length_toList, frS_l]
  have h1 := TL.numL_len (k := 20) (by decide) h.n
  have h2 := TL.numL_len (k := 20) (by decide) h.d
  split
  · omega
  · rw [List.length_append, List.length_cons]; omega
/-- its parts -/
def frP (q : Rat) : List Str := if q.den = 1 then [numS q.num.toNat] else [numS q.num.toNat, numS q.den]
theorem frP_split (q : Rat) : Txt.split (frS q) "/" = frP q := by
  have e : frS q = Txt.join "/" (frP q) := by
    unfold frS frP
    split
    · rfl
    · rfl
  rw [e]
  refine TL.split_join (s := 47) (S := []) rfl (by decide +kernel) (by unfold frP; split <;> simp) fun p hp => ?_
  have hn : ∀ n : Nat, (47 : Nat) ∉ TL.tl (numS n) := fun n h => by
    have h : 47 ∈ (numS n).cps.toList := h
    rw [numS_l] at h
    have := dig n 47 h
    omega
  unfold frP at hp
  split at hp
  · rw [List.mem_singleton.mp hp]; exact hn _
  · simp only [List.mem_cons, List.not_mem_nil, or_false] at hp
    rcases hp with rfl | rfl <;> exact hn _
theorem digits_all (n : Nat) : ((numS n).cps.toList.map fun c => decide (c ∈ ("0123456789" : Str).cps.toList)).all id = true := by
  rw [List.all_map, List.all_eq_true]
  intro c hc
  rw [numS_l] at hc
  have h := dig n c hc
  show decide (c ∈ [48, 49, 50, 51, 52, 53, 54, 55, 56, 57]) = true
  simp only [decide_eq_true_eq, List.mem_cons, List.not_mem_nil, or_false]
  omega
section
variable {P : Program} {w : World} {K : PySem.W.Frag} {mg : Str → Option Value} {base : Heap}
theorem sc_fraction_text : FnScope ["one"] ["one"] (defScope s_fraction_text) := ⟨rfl, rfl, rfl, by decide +kernel, rfl, by decide +kernel, by decide +kernel⟩
abbrev Cf_fraction_text (P w K mg base) := Cal P w K mg base "fraction_text" 1 ["one"] (spF K (fun q : Rat => [fr q]) (fun q => Wf q) fun q => .str (frS q))
theorem ok_fraction_text (T : Tx w K mg) : Cf_fraction_text P w K mg base := by
  refine T.cal (d := d_fraction_text) 9 9 rfl rfl rfl rfl rfl sc_fraction_text (fun _ _ _ _ _ _ us hl => match us, hl with | [_], _ => rfl) (spF_len fun _ => rfl) fun f cdv A outer s H vs Q E hr h => ⟨_, (pss_one (ps_ret (pe_ifExp (pt_cmpR (op_eqD hr.units) (pe_ix ix_seq (pv 0) pe_int (fun _ _ => rfl)) pe_int (nomark _)) (pe_callTy call_str_int (by rfl) T.f_str (by decide +kernel) (pa_cons (pe_ix ix_seq (pv 0) pe_int (fun _ _ => rfl)) pa_nil)) (pe_op op_add_str (pe_op op_add_str (pe_callTy call_str_int (by rfl) T.f_str (by decide +kernel) (pa_cons (pe_ix ix_seq (pv 0) pe_int (fun _ _ => rfl)) pa_nil)) pe_str) (pe_callTy call_str_int (by rfl) T.f_str (by decide +kernel) (pa_cons (pe_ix ix_seq (pv 0) pe_int (fun _ _ => rfl)) pa_nil)))))), ?_⟩
  obtain ⟨q, hd, hW, k⟩ := h
  obtain ⟨v, rfl, h1⟩ := dps_one hd
  dsimp only at hW k
  have l1 : q.num.natAbs.log2 < 1920 := log_small (by have := hW.n; have := hW.num; omega)
  have l2 : ((q.den : Nat) : Int).natAbs.log2 < 1920 := log_small (by have := hW.d; omega)
  have n1 := numS_len (k := 20) (by decide) hW.n
  have n2 := numS_len (k := 20) (by decide) hW.d
  have en : Str.ofString (toString q.num) = numS q.num.toNat := by show _ = Str.ofString (toString _); rw [hW.num]
  refine ret_ed (K := K) (d := .str (frS q)) (ed_if (et_test (ed_eqi (ed_ixT (ed_var rfl h1) ed_int rfl) ed_int)) (fun hb => ?_) fun hb => ?_) fun z H7 e7 d7 => k z H7 e7 d7
  · have hb : q.den = 1 := by have := of_decide_eq_true hb; omega
    unfold frS
    rw [if_pos hb, ← en]
    exact ed_strI (ed_ixT (ed_var rfl h1) ed_int rfl) l1
  · have hb : q.den ≠ 1 := by have := of_decide_eq_false hb; omega
    unfold frS
    rw [if_neg hb, ← en]
    refine ed_catS (ed_catS (ed_strI (ed_ixT (ed_var rfl h1) ed_int rfl) l1) ed_str ?_) (ed_strI (ed_ixT (ed_var rfl h1) ed_int rfl) l2) ?_
    · rw [en]; show (numS _).length + 1 ≤ 16777216; omega
    · rw [en]
      have : (numS q.num.toNat ++ "/" : Str).length = (numS q.num.toNat).length + 1 := by
        show (_ ++ _ : Str).cps.size = _
        rw [← Array.length_toList, app_l, List.length_append, Array.length_toList]; rfl
      show (numS q.num.toNat ++ "/" : Str).length + (numS q.den).length ≤ 16777216
      omega
theorem sc_is_number_text : FnScope ["text", "sign"] ["text"] (defScope s_is_number_text) := ⟨rfl, rfl, rfl, by decide +kernel, rfl, by decide +kernel, by decide +kernel⟩
abbrev Cf_is_number_text (P w K mg base) := Cal P w K mg base "is_number_text" 1 ["text"] (spF K (fun n : Nat => [.str (numS n)]) (fun n => n < 10 ^ 20) fun _ => .bool true)
theorem ok_is_number_text (T : Tx w K mg) : Cf_is_number_text P w K mg base := by
  refine T.cal (d := d_is_number_text) 10 10 rfl rfl rfl rfl rfl sc_is_number_text (fun _ _ _ _ _ _ us hl => match us, hl with | [_], _ => rfl) (spF_len fun _ => rfl) fun f cdv A outer s H vs Q E hr h => ⟨_, (pss_one (ps_ret (pe_and (pe_chain op_lt op_le pe_int (pe_callB call_len (by rfl) T.f_len (by decide +kernel) (pa_cons (pv 0) pa_nil)) pe_int) (pe_one (pe_callB (cr_all rfl) (by rfl) T.f_all (by decide +kernel) (pa_cons (pe_lc rfl sc_is_number_text.nd (pi_str (pv 0)) (blkOk_by (own := [("sign", 1)]) (N := ["text", "sign"]) (by kernel_rfl)) (fun _ _ _ _ _ => (pg_name (i := 1) sc_is_number_text.nd rfl (by first | exact Or.inl rfl | exact Or.inr rfl))) (fun _ _ _ _ _ => pts_nil) (fun _ _ _ _ _ => (pe_cmpR op_in_sign (pv 1) pe_str rfl))) pa_nil)))))), ?_⟩
  obtain ⟨n, hd, hn, k⟩ := h
  obtain ⟨v, rfl, h1⟩ := dps_one hd
  dsimp only at hn k
  have n1 := numS_len (k := 20) (by decide) hn
  have n0 := numS_pos n
  refine ret_ed (K := K) (d := .bool true) ((ed_andV (ed_chain (g1 := fun i j => decide (i < j)) (g2 := fun i j => decide (i ≤ j)) ed_int (ed_lenS (ed_var rfl h1) (by show _ ≤ 16777216; omega)) ed_int) fun _ => ed_all (sign_all (fun c => decide (c ∈ ("0123456789" : Str).cps.toList)) (edi_str (ed_var rfl h1)) (by show _ ≤ 16777216; omega) fun c hc v1 H1 e1 d1 => ?_)).cast ?_) fun z H7 e7 d7 => k z H7 e7 d7
  · exact tu_name rfl et_yes fun _ => ⟨ed_inC (ed_var rfl d1) ed_str, rfl⟩
  · rw [digits_all, Bool.and_true]
    congr 1
    rw [Bool.and_eq_true, decide_eq_true_eq, decide_eq_true_eq]
    omega
end
end Sw
namespace Sw
open PySem PySem.Spec PyProof.Rows L2 Evl SwT
theorem ed_sl1 {K : PySem.W.Frag} {σ : L2.St} {H : Hp} {te : TE} {x : Str} (ha : Ed K te σ H (.str x)) (hl : x.length ≤ sizeLine) : Ed K (tSl rSlS te tNoPart (tPart (tC (.int 1)))) σ H (.str (cutS x none (some 1))) := fun H1 e Q q =>
  ha H1 e _ fun v H2 e2 d2 => ⟨1, rfl, x, dp_str d2, hl, q _ H2 e2 (.str _)⟩
theorem cut1_sub {x : Str} {c : Nat} (h : c ∈ (cutS x none (some 1)).cps.toList) : c ∈ x.cps.toList := by
  unfold cutS at h
  simp only [List.toList_toArray] at h
  exact List.mem_of_mem_drop (List.mem_of_mem_take h)
theorem cut1_ok {x : Str} (h : ∀ c ∈ x.cps.toList, c < 128) : PyData.strOk (cutS x none (some 1)) = true := strOk_of fun c hc => h c (cut1_sub hc)
def frN (q : Rat) : List Nat := if q.den = 1 then [q.num.toNat] else [q.num.toNat, q.den]
theorem frP_N (q : Rat) : frP q = (frN q).map numS := by unfold frP frN; split <;> rfl
theorem all_true {α : Type} (l : List α) : ((l.map fun _ => true).all id) = true := by rw [List.all_map, List.all_eq_true]; intro _ _; rfl
section
variable {P : Program} {w : World} {K : PySem.W.Frag} {mg : Str → Option Value} {base : Heap}
theorem sc_fraction_in : FnScope ["text", "body", "parts", "n", "d", "found", "part"] ["text"] (defScope s_fraction_in) := ⟨rfl, rfl, rfl, by decide +kernel, rfl, by decide +kernel, by decide +kernel⟩
abbrev Cf_fraction_in (P w K mg base) := Cal P w K mg base "fraction_in" 3 ["text"] (spF K (fun q : Rat => [.str (frS q)]) (fun q => Wf q) fun q => fr q)
theorem ok_fraction_in (T : Tx w K mg) (C_fraction_text : Cf_fraction_text P w K mg base) (C_is_number_text : Cf_is_number_text P w K mg base) (C_reduced : Cf_reduced P w K mg base) : Cf_fraction_in P w K mg base := by
  refine T.cal (d := d_fraction_in) 11 11 rfl rfl rfl rfl rfl sc_fraction_in (fun _ _ _ _ _ _ us hl => match us, hl with | [_], _ => rfl) (spF_len fun _ => rfl) fun f cdv A outer s H vs Q E hr h => ⟨_, (pss_cons (ps_set (i := 1) sc_fraction_in.nd rfl (by first | exact Or.inl rfl | exact Or.inr rfl) (pe_ifExp (pt_cmpR (op_eqD hr.units) (pe_slice sl_str (pv 0) po_none (po_some pe_int)) pe_str (nomark _)) (pe_slice sl_str (pv 0) (po_some pe_int) po_none) (pv 0)))
      (pss_cons (ps_set (i := 2) sc_fraction_in.nd rfl (by first | exact Or.inl rfl | exact Or.inr rfl) (pe_split (pv 1) pe_str))
      (pss_cons (ps_if (PW.pt (pw_or (pt_cmpR op_gt (pe_callB call_len (by rfl) T.f_len (by decide +kernel) (pa_cons (pv 2) pa_nil)) pe_int (nomark _)) (pw_or1 (pt_not (pt_val (pe_callB (cr_all rfl) (by rfl) T.f_all (by decide +kernel) (pa_cons (pe_lc rfl sc_fraction_in.nd (pi_list (pv 2)) (blkOk_by (own := [("part", 6)]) (N := ["text", "body", "parts", "n", "d", "found", "part"]) (by kernel_rfl)) (fun _ _ _ _ _ => (pg_name (i := 6) sc_fraction_in.nd rfl (by first | exact Or.inl rfl | exact Or.inr rfl))) (fun _ _ _ _ _ => pts_nil) (fun _ _ _ _ _ => (pe_cc C_is_number_text (hr.mono (by decide)) (by rfl) (pa_cons (pv 6) pa_nil)))) pa_nil))))))) (pss_one (ps_ret pe_non)) pss_nil)
      (pss_cons (ps_par (i := 3) (j := 4) rfl sc_fraction_in.nd rfl rfl (by decide) rfl rfl (pa_cons (pe_callTy call_int_str (by rfl) T.f_int (by decide +kernel) (pa_cons (pe_ix ix_seq (pv 2) pe_int (fun _ _ => rfl)) pa_nil)) (pa_cons (pe_ifExp (pt_cmpR (op_eqD hr.units) (pe_callB call_len (by rfl) T.f_len (by decide +kernel) (pa_cons (pv 2) pa_nil)) pe_int (nomark _)) (pe_callTy call_int_str (by rfl) T.f_int (by decide +kernel) (pa_cons (pe_ix ix_seq (pv 2) (pe_un un_neg pe_int) (fun _ _ => rfl)) pa_nil)) pe_int) pa_nil)) (by rfl))
      (pss_cons (ps_if (pt_cmpR (op_eqD hr.units) (pv 4) pe_int (nomark _)) (pss_one (ps_ret pe_non)) pss_nil)
      (pss_cons (ps_set (i := 5) sc_fraction_in.nd rfl (by first | exact Or.inl rfl | exact Or.inr rfl) (pe_cc C_reduced (hr.mono (by decide)) (by rfl) (pa_cons (pe_ifExp (pt_cmpR (op_eqD hr.units) (pe_slice sl_str (pv 0) po_none (po_some pe_int)) pe_str (nomark _)) (pe_op op_sub pe_int (pv 3)) (pv 3)) (pa_cons (pv 4) pa_nil))))
      (pss_one (ps_ret (pe_ifExp (pt_cmpR (op_eqD hr.units) (pe_cc C_fraction_text (hr.mono (by decide)) (by rfl) (pa_cons (pv 5) pa_nil)) (pv 0) (nomark _)) (pv 5) pe_non))))))))), ?_⟩
  obtain ⟨q, hd, hW, k⟩ := h
  obtain ⟨v, rfl, h1⟩ := dps_one hd
  dsimp only at hd hW k
  have hln := frS_len hW
  have low : ∀ c ∈ (frS q).cps.toList, c < 128 := fun c hc => by have := frS_low q c hc; omega
  have hcut : decide (cutS (frS q) none (some 1) = "-") = false := decide_eq_false fun z => by
    have : (45 : Nat) ∈ (cutS (frS q) none (some 1)).cps.toList := by rw [z]; exact List.mem_singleton.mpr rfl
    have := frS_low q 45 (cut1_sub this)
    omega
  have hmin : ∀ {σ : L2.St} {H' : Hp}, Ex H H' → σ[0]? = some (some v) → Et K (tTest (tOp (rEqD K) (tSl rSlS (tVar 0) tNoPart (tPart (tC (.int 1)))) (tC (.str "-")))) σ H' false := fun e hs =>
    (et_test (ed_eqs (ed_sl1 (ed_var hs (dp_mono e h1)) (by show _ ≤ 16777216; omega)) ed_str (cut1_ok low) (by decide +kernel))).cast hcut
  refine seq_ed (set_ed (K := K) (d := .str (frS q)) (ed_if (hmin (Ex.refl _) rfl) (fun z => absurd z (by decide)) fun _ => ed_var rfl h1) fun bv H1 e1 d1 => ?_)
  dsimp only
  refine seq_ed (set_ed (K := K) (d := .list ((frP q).map PyData.str)) ((ed_split (ed_var rfl d1) (by decide +kernel) (by show _ ≤ 16777216; omega)).toD.cast (by rw [frP_split])) fun pv H2 e2 d2 => ?_)
  have hpl : (frP q).length = (frN q).length := by rw [frP_N, List.length_map]
  have hnl : (frN q).length = if q.den = 1 then 1 else 2 := by unfold frN; split <;> rfl
  have hN : ∀ n ∈ frN q, n < 10 ^ 20 := fun n hn => by
    unfold frN at hn
    split at hn
    · rw [List.mem_singleton.mp hn]; exact hW.n
    · simp only [List.mem_cons, List.not_mem_nil, or_false] at hn
      rcases hn with rfl | rfl
      · exact hW.n
      · exact hW.d
  have hint : ∀ {n : Nat}, n < 10 ^ 20 → PySem.intText? (numS n) = some (n : Int) ∧ (numS n).length ≤ 640 := fun {n} h => by
    have h2 := numS_len (k := 20) (by decide) h
    exact ⟨TL.int_num (Nat.le_trans (TL.numL_len (k := 20) (by decide) h) (by decide)), by omega⟩
  dsimp only
  refine seq_ed (if_et (K := K) (b := false) ((et_or (a := decide ((2 : Int) < ((frP q).map PyData.str).length)) (b := !true) (et_test (ed_gt (ed_lenL (ed_var rfl d2)) ed_int)) fun _ => et_not (et_B ((ed_all (K := K) (bs := (frN q).map fun _ => true) ((lc_m1 (fun n => PyData.str (numS n)) (frN q) (fun _ => PyData.bool true) (edi_list (ed_var rfl (by rw [frP_N, List.map_map] at d2; exact d2))) (by rw [hnl]; show _ ≤ 16777216; split <;> omega) fun n hn v1 H3 e3 d3 => ?_).toD.cast (by rw [List.map_map]; rfl))).cast (by rw [all_true])))).cast ?_) (fun z => absurd z (by decide)) fun _ H3 e3 => nil_ed ?_)
  · exact tu_name rfl et_yes fun _ => ⟨ed_call n (eda_cons (ed_var rfl d3) eda_nil) (hN n hn), rfl⟩
  · rw [List.length_map, hpl, hnl, Bool.not_true, Bool.or_false]
    exact decide_eq_false (by split <;> omega)
  have d23 := dp_mono e3 d2
  dsimp only
  refine seq_ed (par_ed (K := K) (x := .int q.num) (y := .int (q.den : Int)) (eda_cons ((ed_intS (x := numS q.num.toNat) (ed_ixL (ed_var rfl d23) ed_int ?_) (hint hW.n).1 (hint hW.n).2).cast (by rw [hW.num])) (eda_cons (ed_if (et_test (ed_eqi (ed_lenL (ed_var rfl d23)) ed_int)) (fun hb => ?_) fun hb => ?_) eda_nil)) fun nv dv H4 e4 dn dd => ?_)
  · unfold frP; split <;> rfl
  · have hb := of_decide_eq_true hb
    rw [List.length_map, hpl, hnl] at hb
    have hq : q.den ≠ 1 := fun z => by rw [if_pos z] at hb; omega
    refine ed_intS (x := numS q.den) (ed_ixL (ed_var rfl d23) (ed_neg ed_int) ?_) (hint hW.d).1 (hint hW.d).2
    unfold frP
    rw [if_neg hq]
    exact atI_last [PyData.str (numS q.num.toNat)] _
  · have hb := of_decide_eq_false hb
    rw [List.length_map, hpl, hnl] at hb
    have hq : q.den = 1 := by
      by_cases z : q.den = 1
      · exact z
      · rw [if_neg z] at hb; exact absurd rfl hb
    rw [hq]
    exact ed_int
  · dsimp only
    have hd0 : 0 < q.den := q.den_pos
    have e14 := ((e1.trans e2).trans e3).trans e4
    refine seq_ed (if_et (K := K) (b := false) ((et_test (ed_eqi (ed_var rfl dd) ed_int)).cast (decide_eq_false (by omega))) (fun z => absurd z (by decide)) fun _ H5 e5 => nil_ed ?_)
    dsimp only
    have e15 := e14.trans e5
    refine seq_ed (set_ed (K := K) (d := fr q) ((ed_call (q.num, q.den) (eda_cons (ed_if (hmin e15 rfl) (fun z => absurd z (by decide)) fun _ => ed_var rfl (dp_mono e5 dn)) (eda_cons (ed_var rfl (dp_mono e5 dd)) eda_nil)) ⟨hd0, Nat.lt_trans hW.d (Nat.lt_of_lt_of_le (show 10 ^ 20 < 2 ^ 67 by decide) (Nat.pow_le_pow_right (by decide) (by decide)))⟩).cast (by rw [Rat.mkRat_self])) fun fv H6 e6 d6 => ?_)
    dsimp only
    have e16 := e15.trans e6
    exact ret_ed (K := K) (d := fr q) (ed_if (b := true) ((et_test (ed_eqs (ed_call q (eda_cons (ed_var rfl d6) eda_nil) hW) (ed_var rfl (dp_mono e16 h1)) (frS_ok q) (frS_ok q))).cast (decide_eq_true rfl)) (fun _ => ed_var rfl d6) fun z => absurd z (by decide)) fun z H7 e7 d7 => k z H7 (e16.trans e7) d7
theorem sc_is_integer : FnScope ["thing"] ["thing"] (defScope s_is_integer) := ⟨rfl, rfl, rfl, by decide +kernel, rfl, by decide +kernel, by decide +kernel⟩
abbrev Cf_is_integer (P w K mg base) := Cal P w K mg base "is_integer" 1 ["thing"] (spF K (fun n : Int => [.int n]) (fun _ => True) fun _ => .bool true)
theorem ok_is_integer (T : Tx w K mg) : Cf_is_integer P w K mg base := by
  refine T.cal (d := d_is_integer) 34 36 rfl rfl rfl rfl rfl sc_is_integer (fun _ _ _ _ _ _ us hl => match us, hl with | [_], _ => rfl) (spF_len fun _ => rfl) fun f cdv A outer s H vs Q E hr h => ⟨_, (pss_one (ps_ret (pe_and (pe_callB call_isi (by rfl) T.f_isinstance (by decide +kernel) (pa_cons (pv 0) (pa_cons (pe_bltn (v := .ty "int") (u := .type "int") (by rfl) T.f_int (by decide +kernel) rfl) pa_nil))) (pe_one (pe_not (pe_callB call_isi (by rfl) T.f_isinstance (by decide +kernel) (pa_cons (pv 0) (pa_cons (pe_bltn (v := .ty "bool") (u := .type "bool") (by rfl) T.f_bool (by decide +kernel) rfl) pa_nil)))))))), ?_⟩
  obtain ⟨n, hd, hn, k⟩ := h
  obtain ⟨v, rfl, h1⟩ := dps_one hd
  exact ret_ed (K := K) (d := .bool true) ((ed_andV (ed_isiI (ed_var rfl h1)) fun _ => ed_notV (ed_isiB (ed_var rfl h1))).cast rfl) fun z H7 e7 d7 => k z H7 e7 d7
/-- a name -/
structure Nm (x : Str) : Prop where
  l0 : 1 ≤ x.length
  l1 : x.length ≤ 12
  az : ∀ c ∈ x.cps.toList, 97 ≤ c ∧ c ≤ 122
theorem Nm.ok {x : Str} (h : Nm x) : PyData.strOk x = true := strOk_of fun c hc => by have := h.az c hc; omega
theorem sc_is_name : FnScope ["thing", "sign"] ["thing"] (defScope s_is_name) := ⟨rfl, rfl, rfl, by decide +kernel, rfl, by decide +kernel, by decide +kernel⟩
abbrev Cf_is_name (P w K mg base) := Cal P w K mg base "is_name" 1 ["thing"] (spF K (fun x : Str => [.str x]) (fun x => Nm x) fun _ => .bool true)
theorem ok_is_name (T : Tx w K mg) : Cf_is_name P w K mg base := by
  refine T.cal (d := d_is_name) 35 37 rfl rfl rfl rfl rfl sc_is_name (fun _ _ _ _ _ _ us hl => match us, hl with | [_], _ => rfl) (spF_len fun _ => rfl) fun f cdv A outer s H vs Q E hr h => ⟨_, (pss_cons (ps_if (PW.pt (pw_or (pt_not (pt_val (pe_callB call_isi (by rfl) T.f_isinstance (by decide +kernel) (pa_cons (pv 0) (pa_cons (pe_bltn (v := .ty "str") (u := .type "str") (by rfl) T.f_str (by decide +kernel) rfl) pa_nil))))) (pw_or1 (pt_not (pt_chain op_le op_le pe_int (pe_callB call_len (by rfl) T.f_len (by decide +kernel) (pa_cons (pv 0) pa_nil)) pe_int))))) (pss_one (ps_ret pe_bl)) pss_nil)
      (pss_one (ps_ret (pe_callB (cr_all rfl) (by rfl) T.f_all (by decide +kernel) (pa_cons (pe_lc rfl sc_is_name.nd (pi_str (pv 0)) (blkOk_by (own := [("sign", 1)]) (N := ["thing", "sign"]) (by kernel_rfl)) (fun _ _ _ _ _ => (pg_name (i := 1) sc_is_name.nd rfl (by first | exact Or.inl rfl | exact Or.inr rfl))) (fun _ _ _ _ _ => pts_nil) (fun _ _ _ _ _ => (pe_chain op_le_str op_le_str pe_str (pv 1) pe_str))) pa_nil))))), ?_⟩
  obtain ⟨x, hd, hn, k⟩ := h
  obtain ⟨v, rfl, h1⟩ := dps_one hd
  dsimp only at hn k
  have n0 := hn.l0
  have n1 := hn.l1
  refine seq_ed (if_et (K := K) (b := false) ((et_or (a := !true) (b := !(decide ((1 : Int) ≤ x.length) && decide ((x.length : Int) ≤ 12))) (et_not (et_B (ed_isiS (ed_var rfl h1)))) fun _ => et_not (et_test (ed_chain (g1 := fun i j => decide (i ≤ j)) (g2 := fun i j => decide (i ≤ j)) ed_int (ed_lenS (ed_var rfl h1) (by show _ ≤ 16777216; omega)) ed_int))).cast ?_) (fun z => absurd z (by decide)) fun _ H1 e1 => nil_ed ?_)
  · rw [decide_eq_true (show (1 : Int) ≤ x.length by omega), decide_eq_true (show (x.length : Int) ≤ 12 by omega)]; rfl
  dsimp only
  refine ret_ed (K := K) (d := .bool true) ((ed_all (sign_all (fun c => !decide (([c] : List Nat) < [97]) && !decide (([122] : List Nat) < [c])) (edi_str (ed_var rfl (dp_mono e1 h1))) (by show _ ≤ 16777216; omega) fun c hc v1 H2 e2 d2 => ?_)).cast ?_) fun z H7 e7 d7 => k z H7 (e1.trans e7) d7
  · exact tu_name rfl et_yes fun _ => ⟨ed_chainS ed_str (ed_var rfl d2) ed_str, rfl⟩
  · congr 1
    rw [List.all_map, List.all_eq_true]
    intro c hc
    have := hn.az c hc
    show (!decide (([c] : List Nat) < [97]) && !decide (([122] : List Nat) < [c])) = true
    simp [List.cons_lt_cons_iff]
    omega
theorem sc_integer_in : FnScope ["word", "sign"] ["word"] (defScope s_integer_in) := ⟨rfl, rfl, rfl, by decide +kernel, rfl, by decide +kernel, by decide +kernel⟩
abbrev Cf_integer_in (P w K mg base) := Cal P w K mg base "integer_in" 1 ["word"] (spF K (fun n : Nat => [.str (numS n)]) (fun n => n < 10 ^ 20) fun n => .int (n : Int))
theorem ok_integer_in (T : Tx w K mg) : Cf_integer_in P w K mg base := by
  refine T.cal (d := d_integer_in) 36 39 rfl rfl rfl rfl rfl sc_integer_in (fun _ _ _ _ _ _ us hl => match us, hl with | [_], _ => rfl) (spF_len fun _ => rfl) fun f cdv A outer s H vs Q E hr h => ⟨_, (pss_cons (ps_if (PW.pt (pw_or (pt_cmpR (op_eqD hr.units) (pv 0) pe_str (nomark _)) (pw_or (pt_val (pe_callB (cr_any rfl) (by rfl) T.f_any (by decide +kernel) (pa_cons (pe_lc rfl sc_integer_in.nd (pi_str (pv 0)) (blkOk_by (own := [("sign", 1)]) (N := ["word", "sign"]) (by kernel_rfl)) (fun _ _ _ _ _ => (pg_name (i := 1) sc_integer_in.nd rfl (by first | exact Or.inl rfl | exact Or.inr rfl))) (fun _ _ _ _ _ => pts_nil) (fun _ _ _ _ _ => (pe_cmpR op_notIn_sign (pv 1) pe_str rfl))) pa_nil))) (pw_or1 (pt_cmpR op_gt (pe_callB call_len (by rfl) T.f_len (by decide +kernel) (pa_cons (pv 0) pa_nil)) pe_int (nomark _)))))) (pss_one (ps_ret pe_non)) pss_nil)
      (pss_one (ps_ret (pe_ifExp (pt_cmpR (op_eqD hr.units) (pe_callTy call_str_int (by rfl) T.f_str (by decide +kernel) (pa_cons (pe_callTy call_int_str (by rfl) T.f_int (by decide +kernel) (pa_cons (pv 0) pa_nil)) pa_nil)) (pv 0) (nomark _)) (pe_callTy call_int_str (by rfl) T.f_int (by decide +kernel) (pa_cons (pv 0) pa_nil)) pe_non)))), ?_⟩
  obtain ⟨n, hd, hn, k⟩ := h
  obtain ⟨v, rfl, h1⟩ := dps_one hd
  dsimp only at hn k
  have n1 := numS_len (k := 20) (by decide) hn
  have n0 := numS_pos n
  have hint : PySem.intText? (numS n) = some (n : Int) := TL.int_num (Nat.le_trans (TL.numL_len (k := 20) (by decide) hn) (by decide))
  have hlog : ((n : Nat) : Int).natAbs.log2 < 1920 := log_small (by omega)
  have hany : ((numS n).cps.toList.map fun c => !decide (c ∈ ("0123456789" : Str).cps.toList)).any id = false := by
    rw [List.any_map, List.any_eq_false]
    intro c hc
    rw [numS_l] at hc
    have h := dig n c hc
    show ¬ (!decide (c ∈ [48, 49, 50, 51, 52, 53, 54, 55, 56, 57])) = true
    simp only [Bool.not_eq_true', decide_eq_false_iff_not, List.mem_cons, List.not_mem_nil, or_false]
    omega
  refine seq_ed (if_et (K := K) (b := false) ((et_or (a := decide (numS n = "")) (b := false || decide ((40 : Int) < (numS n).length)) (et_test (ed_eqs (ed_var rfl h1) ed_str (numS_ok n) (by decide +kernel))) fun _ => et_or (a := false) (et_B ((ed_any (sign_all (fun c => !decide (c ∈ ("0123456789" : Str).cps.toList)) (edi_str (ed_var rfl h1)) (by show _ ≤ 16777216; omega) fun c hc v1 H1 e1 d1 => ?_)).cast (by rw [hany]))) fun _ => et_test (ed_gt (ed_lenS (ed_var rfl h1) (by show _ ≤ 16777216; omega)) ed_int)).cast ?_) (fun z => absurd z (by decide)) fun _ H1 e1 => nil_ed ?_)
  · exact tu_name rfl et_yes fun _ => ⟨ed_notInC (ed_var rfl d1) ed_str, rfl⟩
  · have : numS n ≠ "" := fun z => by rw [z] at n0; exact absurd n0 (by decide)
    rw [decide_eq_false this, decide_eq_false (show ¬ (40 : Int) < (numS n).length by omega)]; rfl
  dsimp only
  exact ret_ed (K := K) (d := .int (n : Int)) (ed_if (b := true) ((et_test (ed_eqs (ed_strI (ed_intS (ed_var rfl (dp_mono e1 h1)) hint (by omega)) hlog) (ed_var rfl (dp_mono e1 h1)) (numS_ok n) (numS_ok n))).cast (decide_eq_true rfl)) (fun _ => ed_intS (ed_var rfl (dp_mono e1 h1)) hint (by omega)) fun z => absurd z (by decide)) fun z H7 e7 d7 => k z H7 (e1.trans e7) d7
end
end Sw
/-! an object of words: frames, readings -/
namespace Sw
open PySem PySem.Spec PyProof.Rows L2 Evl SwT
section
variable {P : Program} {w : World} {K : PySem.W.Frag} {mg : Str → Option Value} {base : Heap}
theorem Tx.fact (T : Tx w K mg) {f : He.Fa} (i : Nat) (h : SwT.fa[i]? = some f) : ∃ h : Heap, K.In h ∧ h.Ns mainGlobals mg ∧ f.ok K = true := by
  obtain ⟨hp, X, G, c⟩ := T.ex
  exact ⟨hp, X, G, c.t.d.fact i h⟩
abbrev WC (K : PySem.W.Frag) : Addr := He.ga K "Words"
theorem Tx.cls (T : Tx w K mg) : Cls K (WC K) := by
  obtain ⟨_, _, _, c⟩ := T.fact (f := .cls "Words") 96 rfl
  exact He.cls_ok c
theorem Tx.na_words (T : Tx w K mg) : NoAttr K (WC K) "words" := by
  obtain ⟨_, _, _, c⟩ := T.fact (f := .noat "Words" "words") 97 rfl
  exact He.noat_ok c
theorem Tx.na_line (T : Tx w K mg) : NoAttr K (WC K) "line" := by
  obtain ⟨_, _, _, c⟩ := T.fact (f := .noat "Words" "line") 98 rfl
  exact He.noat_ok c
theorem Tx.na_at (T : Tx w K mg) : NoAttr K (WC K) "at" := by
  obtain ⟨_, _, _, c⟩ := T.fact (f := .noat "Words" "at") 99 rfl
  exact He.noat_ok c
theorem Tx.mkr (T : Tx w K mg) : Mk K (WC K) (He.ma K (WC K) "__init__") := by
  obtain ⟨_, _, _, c⟩ := T.fact (f := .mkr "Words") 108 rfl
  exact He.mkr_ok c
theorem Tx.g_MOST_RANKS (T : Tx w K mg) : ∃ u, mg "MOST_RANKS" = some u ∧ RelV (.int 6) u := by
  obtain ⟨_, X, G, c⟩ := T.fact (f := .int "MOST_RANKS" 6) 94 rfl
  obtain ⟨t, h⟩ := He.int_ok X G c
  exact ⟨_, h, t, rfl⟩
theorem Tx.g_LAST_NAME (T : Tx w K mg) : ∃ u, mg "LAST_NAME" = some u ∧ RelV (.str "zzzzzzzzzzzz") u := by
  obtain ⟨_, X, G, c⟩ := T.fact (f := .str "LAST_NAME" "zzzzzzzzzzzz") 95 rfl
  obtain ⟨t, h⟩ := He.str_ok X G c
  exact ⟨_, h, t, rfl⟩
theorem Tx.rankless (T : Tx w K mg) (H : Hp) : Dp K H (.ref (He.ga K "RANKLESS")) (.tuple ((["none", "shares", "option", "capped", "sum"] : List Str).map PyData.str)) := by
  obtain ⟨h, X, G, c⟩ := T.ex
  have h1 := (He.ba (He.ba c.more).2).2
  exact .tup (He.tupB_ok h1 H) (.cons (.str _) (.cons (.str _) (.cons (.str _) (.cons (.str _) (.cons (.str _) .nil)))))
/-- a method of the class -/
structure CalM (P : Program) (w : World) (K : PySem.W.Frag) (mg : Str → Option Value) (base : Heap) (m : Str) (k : Nat) (ps : List Str) (sp : Sp) : Prop where
  cls : Cls K (WC K)
  meth : Meth K (WC K) m (He.ma K (WC K) m)
  ex : ∃ fd, FnOk P w K mg base CX0 k (He.ma K (WC K) m) fd ps sp ∧ Binds K fd ps []
theorem Tx.fn (T : Tx w K mg) {m : Str} {d : He.DefD} {k : Nat} {N ps : List Str} {sp : Sp} (i : Nat) (hd : SwT.fn[i]? = some d) (h1 : d.at_ = (("Words" : Str), some m)) (h2 : d.dfl = []) (h3 : d.kwd = [])
    (S : FnScope N ps d.scope) (hb : ∀ (kV doc pm : Value) (an : Option Addr) (cdv ct : Value) (us : List Value), us.length = ps.length → bindArgs (PySem.W.fnOf d.name d.qual d.params d.body d.scope .none kV doc pm an cdv ct) ⟨us, []⟩ = pure (ps.zip us))
    (len : ∀ vs H Q E, sp vs H Q E → vs.length = ps.length)
    (hbody : ∀ (f : Addr) (cdv : Value) (A : Around) (outer : List Env) (s : Shared) (H : Hp) (vs : List V) (Q : VK) (E : XK), Room k (A.deeper (envOfC d.qual d.scope s.heap.objs.size f cdv)) → sp vs H Q E →
      ∃ t, PSs (cxOf CX0 P w K mg base N d.qual d.scope f cdv A outer s H E).nox d.body t ∧ t { nx := fun _ H' => Q .non H', rt := Q } (start N vs) H) : ∃ fd, FnOk P w K mg base CX0 (k + 1) (He.ma K (WC K) m) fd ps sp ∧ Binds K fd ps [] := by
  obtain ⟨hp, X, G, c⟩ := T.ex
  obtain ⟨fd, F⟩ := c.t.d.def_ i hd
  have e1 : d.dvs K = [] := by unfold He.DefD.dvs; rw [h2]; rfl
  have e2 : d.kws K = [] := by unfold He.DefD.kws; rw [h3]; rfl
  have e3 : He.fAd K d.at_ = He.ma K (WC K) m := by rw [h1]; rfl
  rw [e1, e2, e3] at F
  refine ⟨fd, F.ok S len fun cdv A outer s H vs Q E hr h => ?_, F.bindsN hb⟩
  obtain ⟨t, h1, h2⟩ := hbody (He.ma K (WC K) m) cdv A outer s H vs Q E hr h
  exact ⟨t, PSs.nox h1, h2⟩
theorem Tx.calM (T : Tx w K mg) {m : Str} {d : He.DefD} {k : Nat} {N ps : List Str} {sp : Sp} (i : Nat) (hd : SwT.fn[i]? = some d) (h1 : d.at_ = (("Words" : Str), some m)) (h2 : d.dfl = []) (h3 : d.kwd = [])
    (S : FnScope N ps d.scope) (hb : ∀ (kV doc pm : Value) (an : Option Addr) (cdv ct : Value) (us : List Value), us.length = ps.length → bindArgs (PySem.W.fnOf d.name d.qual d.params d.body d.scope .none kV doc pm an cdv ct) ⟨us, []⟩ = pure (ps.zip us))
    (j : Nat) (hj : SwT.fa[j]? = some (.meth "Words" m)) (len : ∀ vs H Q E, sp vs H Q E → vs.length = ps.length)
    (hbody : ∀ (f : Addr) (cdv : Value) (A : Around) (outer : List Env) (s : Shared) (H : Hp) (vs : List V) (Q : VK) (E : XK), Room k (A.deeper (envOfC d.qual d.scope s.heap.objs.size f cdv)) → sp vs H Q E →
      ∃ t, PSs (cxOf CX0 P w K mg base N d.qual d.scope f cdv A outer s H E).nox d.body t ∧ t { nx := fun _ H' => Q .non H', rt := Q } (start N vs) H) : CalM P w K mg base m (k + 1) ps sp := by
  obtain ⟨_, _, _, c⟩ := T.fact j hj
  exact ⟨T.cls, He.meth_ok c, T.fn i hd h1 h2 h3 S hb len hbody⟩
end
section
variable {X : Cx} {o e : Expr} {es : List Expr} {ta : TE} {t : TA} {apos pos : Pos} {m : Str} {k : Nat} {ps : List Str} {sp : Sp} {pl : Sem Bool}
theorem pe_mm (C : CalM X.prog X.w X.K X.mg X.base m k ps sp) (hr : Room k X.A) (he : PE X o ta) (ha : PA X (e :: es) t)
    (hst : starEach (e :: es) X.env = (false, eval e X.env) :: starEach es X.env := by rfl) (hpl : (backTo pos (starEach es X.env)).any (·.1) = false := by rfl)
    (ht : eval (.Call (.Attribute o m apos) (e :: es) [] pos) X.env = (do
      let ov ← eval o X.env
      standAt apos.atName
      let (f, first) ← holding [ov] (getMethod ov m pl)
      callWith pos f first (backTo pos (starEach (e :: es) X.env)) (backToKw pos (keywordEach [] X.env))) := by rfl) :
    PE X (.Call (.Attribute o m apos) (e :: es) [] pos) (tMeth (WC X.K) m sp [] E0 ta t) := by
  obtain ⟨fd, F, hb⟩ := C.ex
  exact pe_meth he C.cls C.meth F hr hb .nil pass0 ha hst hpl ht
theorem pe_mm0 (C : CalM X.prog X.w X.K X.mg X.base m k ps sp) (hr : Room k X.A) (he : PE X o ta)
    (ht : eval (.Call (.Attribute o m apos) [] [] pos) X.env = (do
      let ov ← eval o X.env
      standAt apos.atName
      let (f, first) ← holding [ov] (getMethod ov m pl)
      callWith pos f first (backTo pos (starEach [] X.env)) (backToKw pos (keywordEach [] X.env))) := by rfl) :
    PE X (.Call (.Attribute o m apos) [] [] pos) (tMeth (WC X.K) m sp [] E0 ta tNil) := by
  obtain ⟨fd, F, hb⟩ := C.ex
  exact pe_meth0 he C.cls C.meth F hr hb .nil pass0 ht
end
/-! ### frames -/
structure ExW (H H' : Hp) : Prop where
  o : ∀ b o, (∀ C dx fs, o ≠ .ins C dx fs) → H b = some o → H' b = some o
  i : ∀ b C dx fs, H b = some (.ins C dx fs) → ∃ dx' fs', H' b = some (.ins C dx' fs')
theorem ExW.refl (H : Hp) : ExW H H := ⟨fun _ _ _ h => h, fun _ _ _ _ h => ⟨_, _, h⟩⟩
theorem ExW.trans {H H1 H2 : Hp} (a : ExW H H1) (b : ExW H1 H2) : ExW H H2 := ⟨fun x o n h => b.o x o n (a.o x o n h), fun x C dx fs h => by
  obtain ⟨_, _, h1⟩ := a.i x C dx fs h
  exact b.i x _ _ _ h1⟩
theorem Ex.w {H H' : Hp} (e : Ex H H') : ExW H H' := ⟨fun b o _ h => e b o h, fun b C dx fs h => ⟨_, _, e _ _ h⟩⟩
theorem ExW.back {H H' : Hp} {p : Addr} (e : ExW H H') (h : H' p = none) : H p = none := by
  cases q : H p with
  | none => rfl
  | some o =>
    by_cases k : ∃ C dx fs, o = .ins C dx fs
    · obtain ⟨C, dx, fs, rfl⟩ := k
      obtain ⟨_, _, z⟩ := e.i _ _ _ _ q
      rw [h] at z; cases z
    · have := e.o p o (fun C dx fs z => k ⟨C, dx, fs, z⟩) q
      rw [h] at this; cases this
theorem exw_ins {H : Hp} {a C : Addr} {dx dx' : Addr} {fs fs' : List (Str × V)} (h : H a = some (.ins C dx fs)) : ExW H (upd H a (.ins C dx' fs')) := ⟨fun b o n hb => by
  have : b ≠ a := fun z => by subst z; rw [h] at hb; cases hb; exact n _ _ _ rfl
  rw [upd_ne this]; exact hb, fun b D e f hb => by
  by_cases z : b = a
  · subst z
    rw [h] at hb; cases hb
    exact ⟨_, _, upd_same⟩
  · exact ⟨_, _, by rw [upd_ne z]; exact hb⟩⟩
theorem ExB.w {H0 H H' : Hp} {p : Addr} (b : ExB p H H') (e : ExW H0 H) (h0 : H0 p = none) : ExW H0 H' := ⟨fun x o n h => b x o (ne_of_none h h0) (e.o x o n h), fun x C dx fs h => by
  obtain ⟨dx', fs', h1⟩ := e.i x C dx fs h
  exact ⟨_, _, b x _ (ne_of_none h h0) h1⟩⟩
theorem st_w {K : PySem.W.Frag} {H H' : Hp} {a : Addr} {xs : List V} (e : ExW H H') (h : SqT K H a xs) : SqT K H' a xs := by
  rcases h with (h | ⟨o, h⟩) | h
  · exact .inl (.inl (e.o a _ (fun _ _ _ z => nomatch z) h))
  · exact .inl (.inr ⟨o, e.o a _ (fun _ _ _ z => nomatch z) h⟩)
  · exact .inr h
theorem sl_w {K : PySem.W.Frag} {H H' : Hp} {a : Addr} {xs : List V} (e : ExW H H') (h : SqL K H a xs) : SqL K H' a xs := by
  rcases h with (h | ⟨o, h⟩) | h
  · exact .inl (.inl (e.o a _ (fun _ _ _ z => nomatch z) h))
  · exact .inl (.inr ⟨o, e.o a _ (fun _ _ _ z => nomatch z) h⟩)
  · exact .inr h
mutual
theorem dp_w {K : PySem.W.Frag} {H H' : Hp} (e : ExW H H') : ∀ {v : V} {d : PyData}, Dp K H v d → Dp K H' v d
  | _, _, .non => .non
  | _, _, .bl b => .bl b
  | _, _, .int i => .int i
  | _, _, .str x => .str x
  | _, _, .lst h1 h2 => .lst (sl_w e h1) (dps_w e h2)
  | _, _, .tup h1 h2 => .tup (st_w e h1) (dps_w e h2)
theorem dps_w {K : PySem.W.Frag} {H H' : Hp} (e : ExW H H') : ∀ {v : List V} {d : List PyData}, DpAll K H v d → DpAll K H' v d
  | _, _, .nil => .nil
  | _, _, .cons h1 h2 => .cons (dp_w e h1) (dps_w e h2)
end
theorem Lm.w {K : PySem.W.Frag} {H H' : Hp} {p : Addr} {ds : List PyData} (e : ExW H H') (h : Lm K H p ds) : Lm K H' p ds := by
  obtain ⟨vs, h1, h2⟩ := h
  exact ⟨vs, e.o _ _ (fun _ _ _ z => nomatch z) h1, dps_w e h2⟩
/-- the words at a, i of them taken -/
structure Wd (K : PySem.W.Frag) (H : Hp) (a q : Addr) (ws : List Str) (i : Nat) : Prop where
  at_ : ∃ dx l, H a = some (.ins (WC K) dx [("words", .ref q), ("line", l), ("at", .int (i : Int))])
  ws : Lm K H q (ws.map PyData.str)
theorem Wd.mono {K : PySem.W.Frag} {H H' : Hp} {a q : Addr} {ws : List Str} {i : Nat} (e : Ex H H') (h : Wd K H a q ws i) : Wd K H' a q ws i := by
  obtain ⟨⟨dx, l, h1⟩, h2⟩ := h
  exact ⟨⟨dx, l, e _ _ h1⟩, h2.mono e⟩
theorem Wd.exB {K : PySem.W.Frag} {H H' : Hp} {a q p : Addr} {ws : List Str} {i : Nat} (b : ExB p H H') (im : Im H H') (ha : a ≠ p) (hq : q ≠ p) (h : Wd K H a q ws i) : Wd K H' a q ws i := by
  obtain ⟨⟨dx, l, h1⟩, h2⟩ := h
  exact ⟨⟨dx, l, b _ _ ha h1⟩, h2.exB b hq im (nols_map (fun _ => rfl) _)⟩
end Sw
namespace Sw
open PySem PySem.Spec PyProof.Rows L2 Evl SwT
section
variable {K : PySem.W.Frag} {σ : L2.St} {H H' : Hp} {ta tb te : TE} {ts : TA} {v : V} {a : Addr} {d : PyData} {D : Ends}
theorem ed_fld {i : Nat} {C dx : Addr} {fs : List (Str × V)} {f : Str} (hs : σ[i]? = some (some (.ref a))) (h : H a = some (.ins C dx fs)) (c : Cls K C) (n : NoAttr K C f) (l : fs.lookup f = some v) (hd : Dp K H v d) : Ed K (tFld K (tVar i) f) σ H d :=
  fun H1 e Q q => ⟨_, hs, a, C, dx, fs, v, rfl, e _ _ h, c, n, l, q v H1 (Ex.refl H1) (dp_mono e hd)⟩
theorem dp_notnon (hd : Dp K H v d) (h : d ≠ .none) : decide (v = .non) = false := by
  refine decide_eq_false fun z => ?_
  subst z
  cases hd; exact h rfl
theorem isN_no {i : Nat} (hs : σ[i]? = some (some v)) (hd : Dp K H v d) (h : d ≠ .none) : Et K (tTest (tOp (fun x y H Q => y = .non ∧ Q (.bl (decide (x = .non))) H) (tVar i) (tC .non))) σ H false :=
  et_test (ed_isN (ed_var hs hd) fun _ _ z => dp_notnon z h)
theorem ed_ifT {t : TT} (h : Et K t σ H true) (h1 : Ed K ta σ H d) : Ed K (tIf t ta tb) σ H d := ed_if h (fun _ => h1) fun z => absurd z (by decide)
theorem ed_ifF {t : TT} (h : Et K t σ H false) (h1 : Ed K tb σ H d) : Ed K (tIf t ta tb) σ H d := ed_if h (fun z => absurd z (by decide)) fun _ => h1
end
/-- self.word() -/
abbrev spWord (K : PySem.W.Frag) : Sp := fun vs H Q _ => ∃ a q ws i s, vs = [.ref a] ∧ Wd K H a q ws i ∧ ws[i]? = some s ∧ ∀ v H', Ex H H' → Dp K H' v (.str s) → Q v H'
/-- a call that takes one word -/
abbrev spTake (K : PySem.W.Frag) {α : Type} (args : α → List PyData) (pre : α → Option Str → Prop) (res : α → PyData) : Sp := fun vs H Q _ => ∃ a q ws i us x, vs = .ref a :: us ∧ Wd K H a q ws i ∧ DpAll K H us (args x) ∧ pre x ws[i]? ∧ ∀ v H', ExW H H' → Wd K H' a q ws (i + 1) → Dp K H' v (res x) → Q v H'
theorem spTake_len {K : PySem.W.Frag} {α : Type} {args : α → List PyData} {pre : α → Option Str → Prop} {res : α → PyData} {n : Nat} (h : ∀ x, (args x).length + 1 = n) : ∀ vs H Q E, spTake K args pre res vs H Q E → vs.length = n := fun vs H Q E ⟨a, q, ws, i, us, x, e, _, hd, _⟩ => by rw [e, List.length_cons, dps_len hd]; exact h x
section
variable {K : PySem.W.Frag} {σ : L2.St} {H H' : Hp} {ts : TA} {v : V} {a q : Addr} {ws : List Str} {i : Nat}
theorem wd_noat (hw : Wd K H a q ws i) (m : Str) (h : (m == "words" || m == "line" || m == "at") = false) : ∃ dx l, H a = some (.ins (WC K) dx [("words", .ref q), ("line", l), ("at", .int (i : Int))]) ∧ ([("words", V.ref q), ("line", l), ("at", .int (i : Int))] : List (Str × V)).lookup m = none := by
  obtain ⟨dx, l, h1⟩ := hw.at_
  refine ⟨dx, l, h1, ?_⟩
  simp only [Bool.or_eq_false_iff] at h
  simp only [List.lookup_cons, h.1.1, h.1.2, h.2, List.lookup_nil]
theorem ed_word {j : Nat} {s : Str} (hs : σ[j]? = some (some (.ref a))) (hw : Wd K H a q ws i) (hi : ws[i]? = some s) : Ed K (tMeth (WC K) "word" (spWord K) [] E0 (tVar j) tNil) σ H (.str s) := fun H1 e Q k => by
  obtain ⟨dx, l, h1, h2⟩ := wd_noat (hw.mono e) "word" (by decide +kernel)
  exact ⟨_, hs, a, dx, _, rfl, h1, h2, a, q, ws, i, s, rfl, hw.mono e, hi, k⟩
/-- a call that takes a word -/
theorem take_run {α : Type} {args : α → List PyData} {pre : α → Option Str → Prop} {res : α → PyData} {m : Str} {j : Nat} {Q : VK} (x : α) (hm : (m == "words" || m == "line" || m == "at") = false) (hs : σ[j]? = some (some (.ref a))) (hw : Wd K H a q ws i) (ha : EdA K ts σ H (args x)) (hp : pre x ws[i]?)
    (k : ∀ v H', ExW H H' → Wd K H' a q ws (i + 1) → Dp K H' v (res x) → Q v H') : tMeth (WC K) m (spTake K args pre res) [] E0 (tVar j) ts σ H Q := by
  obtain ⟨dx, l, h1, h2⟩ := wd_noat hw m hm
  refine ⟨_, hs, a, dx, _, rfl, h1, h2, ha.run fun vs H2 e2 d2 => ⟨a, q, ws, i, vs, x, by rw [List.append_nil], hw.mono e2, d2, hp, fun v H3 e3 w3 d3 => k v H3 ((Ex.w e2).trans e3) w3 d3⟩⟩
end
section
variable {P : Program} {w : World} {K : PySem.W.Frag} {mg : Str → Option Value} {base : Heap}
theorem sc_W_word : FnScope ["self"] ["self"] (defScope s_W_word) := ⟨rfl, rfl, rfl, by decide +kernel, rfl, by decide +kernel, by decide +kernel⟩
abbrev Cf_W_word (P w K mg base) := CalM P w K mg base "word" 1 ["self"] (spWord K)
theorem ok_W_word (T : Tx w K mg) : Cf_W_word P w K mg base := by
  refine T.calM (d := d_W_word) 39 rfl rfl rfl rfl sc_W_word (fun _ _ _ _ _ _ us hl => match us, hl with | [_], _ => rfl) 101 rfl (fun vs H Q E ⟨_, _, _, _, _, e, _⟩ => by rw [e]; rfl) fun f cdv A outer s H vs Q E hr h => ⟨_, (pss_one (ps_ret (pe_ifExp (pt_cmpR op_lt (pe_fld (pv 0) rfl) (pe_callB call_len (by rfl) T.f_len (by decide +kernel) (pa_cons (pe_fld (pv 0) rfl) pa_nil)) (nomark _)) (pe_ix ix_seq (pe_fld (pv 0) rfl) (pe_fld (pv 0) rfl) (fun _ _ => rfl)) pe_non))), ?_⟩
  obtain ⟨a, q, ws, i, x, rfl, hw, hi, k⟩ := h
  obtain ⟨dx, l, h1⟩ := hw.at_
  have hlt := (List.getElem?_eq_some_iff.mp hi).1
  have fa : ∀ {σ : L2.St}, σ[0]? = some (some (.ref a)) → Ed K (tFld K (tVar 0) "at") σ H (.int (i : Int)) := fun hs => ed_fld hs h1 T.cls T.na_at (by rfl) (.int _)
  have fw : ∀ {σ : L2.St}, σ[0]? = some (some (.ref a)) → Ed K (tFld K (tVar 0) "words") σ H (.list (ws.map PyData.str)) := fun hs => ed_fld hs h1 T.cls T.na_words (by rfl) hw.ws.dp
  exact ret_ed (K := K) (d := .str x) (ed_ifT (et_test ((ed_lt (fa rfl) (ed_lenL (fw rfl))).cast (by rw [List.length_map, decide_eq_true (by omega)]))) (ed_ixL (fw rfl) (fa rfl) (atI_map hi))) fun z H7 e7 d7 => k z H7 e7 d7
theorem sc_W_stop : FnScope ["self"] ["self"] (defScope s_W_stop) := ⟨rfl, rfl, rfl, by decide +kernel, rfl, by decide +kernel, by decide +kernel⟩
abbrev Cf_W_stop (P w K mg base) := CalM P w K mg base "stop" 1 ["self"] (fun vs _ _ _ => vs.length = 1 ∧ False)
theorem ok_W_stop (T : Tx w K mg) : Cf_W_stop P w K mg base := by
  exact T.calM (d := d_W_stop) 38 rfl rfl rfl rfl sc_W_stop (fun _ _ _ _ _ _ us hl => match us, hl with | [_], _ => rfl) 100 rfl (fun vs H Q E h => h.1) fun f cdv A outer s H vs Q E hr h => h.2.elim
theorem sc_W_taken : FnScope ["self", "value"] ["self", "value"] (defScope s_W_taken) := ⟨rfl, rfl, rfl, by decide +kernel, rfl, by decide +kernel, by decide +kernel⟩
abbrev Cf_W_taken (P w K mg base) := CalM P w K mg base "taken" 2 ["self", "value"] (spTake K (fun d : PyData => [d]) (fun d _ => d ≠ .none) fun d => d)
theorem ok_W_taken (T : Tx w K mg) : Cf_W_taken P w K mg base := by
  refine T.calM (d := d_W_taken) 40 rfl rfl rfl rfl sc_W_taken (fun _ _ _ _ _ _ us hl => match us, hl with | [_, _], _ => rfl) 102 rfl (spTake_len fun _ => rfl) fun f cdv A outer s H vs Q E hr h => ⟨_, (pss_cons (ps_if (pt_cmpR op_isN (pv 1) pe_non (nomark _)) pss_never pss_nil)
      (pss_cons (ps_fldaug (pv 0) pe_int in_add)
      (pss_one (ps_ret (pv 1))))), ?_⟩
  obtain ⟨a, q, ws, i, us, d, rfl, hw, hd, hne, k⟩ := h
  obtain ⟨v, rfl, h1⟩ := dps_one hd
  refine seq_ed (if_et (K := K) (isN_no rfl h1 hne) (fun z => absurd z (by decide)) fun _ H1 e1 => nil_ed ?_)
  dsimp only
  obtain ⟨dx, l, ha⟩ := (hw.mono e1).at_
  have hq : q ≠ a := fun z => by
    obtain ⟨us, u1, _⟩ := (hw.mono e1).ws
    rw [z, ha] at u1; cases u1
  refine ⟨_, rfl, a, _, dx, _, .int (i : Int), rfl, ha, T.cls, T.na_at, by rfl, i, 1, rfl, rfl, dx, _, ha, by show 3 < 1000; decide, ?_⟩
  have hp : putF "at" (V.int ((i : Int) + 1)) ([("words", V.ref q), ("line", l), ("at", V.int (i : Int))] : List (Str × V)) = ([("words", V.ref q), ("line", l), ("at", V.int ((i + 1 : Nat) : Int))] : List (Str × V)) := by rfl
  rw [hp]
  have ew : ExW H1 (upd H1 a (.ins (WC K) dx [("words", V.ref q), ("line", l), ("at", V.int ((i + 1 : Nat) : Int))])) := exw_ins ha
  dsimp only
  exact ret_ed (K := K) (ed_var rfl (dp_w ew (dp_mono e1 h1))) fun z H7 e7 d7 => k z H7 (((Ex.w e1).trans ew).trans (Ex.w e7)) (Wd.mono e7 ⟨⟨dx, l, upd_same⟩, (hw.mono e1).ws.w ew⟩) d7
theorem sc_W_one_of : FnScope ["self", "words"] ["self", "words"] (defScope s_W_one_of) := ⟨rfl, rfl, rfl, by decide +kernel, rfl, by decide +kernel, by decide +kernel⟩
abbrev Cf_W_one_of (P w K mg base) := CalM P w K mg base "one_of" 3 ["self", "words"] (spTake K (fun x : List Str × Str => [.tuple (x.1.map PyData.str)]) (fun x o => o = some x.2 ∧ x.2 ∈ x.1) fun x => .str x.2)
theorem ok_W_one_of (T : Tx w K mg) (C_W_taken : Cf_W_taken P w K mg base) (C_W_word : Cf_W_word P w K mg base) : Cf_W_one_of P w K mg base := by
  refine T.calM (d := d_W_one_of) 41 rfl rfl rfl rfl sc_W_one_of (fun _ _ _ _ _ _ us hl => match us, hl with | [_, _], _ => rfl) 103 rfl (spTake_len fun _ => rfl) fun f cdv A outer s H vs Q E hr h => ⟨_, (pss_one (ps_ret (pe_mm C_W_taken (hr.mono (by decide)) (pv 0) (pa_cons (pe_ifExp (pt_cmpR op_in_seq (pe_mm0 C_W_word (hr.mono (by decide)) (pv 0)) (pv 1) rfl) (pe_mm0 C_W_word (hr.mono (by decide)) (pv 0)) pe_non) pa_nil)))), ?_⟩
  obtain ⟨a, q, ws, i, us, ⟨ss, x⟩, rfl, hw, hd, ⟨hx, hm⟩, k⟩ := h
  dsimp only at hd hx hm k
  obtain ⟨v, rfl, h1⟩ := dps_one hd
  exact take_run (K := K) (.str x) (by decide +kernel) rfl hw (eda_cons (ed_ifT (et_test ((ed_inS (ed_word rfl hw hx) (ed_var rfl h1)).cast (by rw [decide_eq_true hm]))) (ed_word rfl hw hx)) eda_nil) (fun z => nomatch z) k
theorem sc_W_fraction : FnScope ["self", "found"] ["self"] (defScope s_W_fraction) := ⟨rfl, rfl, rfl, by decide +kernel, rfl, by decide +kernel, by decide +kernel⟩
abbrev Cf_W_fraction (P w K mg base) := CalM P w K mg base "fraction" 4 ["self"] (spTake K (fun _ : Rat => []) (fun x o => o = some (frS x) ∧ Wf x) fun x => fr x)
theorem ok_W_fraction (T : Tx w K mg) (C_W_taken : Cf_W_taken P w K mg base) (C_W_word : Cf_W_word P w K mg base) (C_fraction_in : Cf_fraction_in P w K mg base) : Cf_W_fraction P w K mg base := by
  refine T.calM (d := d_W_fraction) 43 rfl rfl rfl rfl sc_W_fraction (fun _ _ _ _ _ _ us hl => match us, hl with | [_], _ => rfl) 105 rfl (spTake_len fun _ => rfl) fun f cdv A outer s H vs Q E hr h => ⟨_, (pss_cons (ps_set (i := 1) sc_W_fraction.nd rfl (by first | exact Or.inl rfl | exact Or.inr rfl) (pe_ifExp (pt_cmpR op_notN (pe_mm0 C_W_word (hr.mono (by decide)) (pv 0)) pe_non (nomark _)) (pe_cc C_fraction_in (hr.mono (by decide)) (by rfl) (pa_cons (pe_mm0 C_W_word (hr.mono (by decide)) (pv 0)) pa_nil)) pe_non))
      (pss_one (ps_ret (pe_mm C_W_taken (hr.mono (by decide)) (pv 0) (pa_cons (pe_ifExp (PW.pt (pw_and (pt_cmpR op_notN (pv 1) pe_non (nomark _)) (pw_and1 (pt_cmpR op_gt (pe_ix ix_seq (pv 1) pe_int (fun _ _ => rfl)) pe_int (nomark _))))) (pv 1) pe_non) pa_nil))))), ?_⟩
  obtain ⟨a, q, ws, i, us, x, rfl, hw, hd, ⟨hx, hW⟩, k⟩ := h
  dsimp only at hd hx hW k
  cases hd
  refine seq_ed (set_ed (K := K) (d := fr x) (ed_ifT ((et_test (ed_notN (ed_word rfl hw hx) (b := false) fun _ _ z => dp_notnon z (fun q => nomatch q))).cast rfl) (ed_call x (eda_cons (ed_word rfl hw hx) eda_nil) hW)) fun fv H1 e1 d1 => ?_)
  dsimp only
  have hpos : 0 < x.num := num_pos'.mpr hW.pos
  refine take_run (K := K) (fr x) (by decide +kernel) rfl (hw.mono e1) (eda_cons (ed_ifT ((et_and (a := true) (b := decide (0 < x.num)) ((et_test (ed_notN (ed_var rfl d1) (b := false) fun _ _ z => non_fr z)).cast rfl) fun _ => et_test (ed_gt (ed_ixT (ed_var rfl d1) ed_int rfl) ed_int)).cast (by rw [decide_eq_true hpos]; rfl)) (ed_var rfl d1)) eda_nil) (fun z => nomatch z) fun v H2 e2 w2 d2 => k v H2 ((Ex.w e1).trans e2) w2 d2
theorem sc_W_integer : FnScope ["self", "least", "most", "found", "is_good"] ["self", "least", "most"] (defScope s_W_integer) := ⟨rfl, rfl, rfl, by decide +kernel, rfl, by decide +kernel, by decide +kernel⟩
abbrev Cf_W_integer (P w K mg base) := CalM P w K mg base "integer" 4 ["self", "least", "most"] (spTake K (fun x : Nat × Int × Option Int => [.int x.2.1, match x.2.2 with | none => .none | some m => .int m]) (fun x o => o = some (numS x.1) ∧ x.1 < 10 ^ 20 ∧ x.2.1 ≤ x.1 ∧ ∀ m, x.2.2 = some m → (x.1 : Int) ≤ m) fun x => .int (x.1 : Int))
theorem ok_W_integer (T : Tx w K mg) (C_W_taken : Cf_W_taken P w K mg base) (C_W_word : Cf_W_word P w K mg base) (C_integer_in : Cf_integer_in P w K mg base) (C_is_integer : Cf_is_integer P w K mg base) : Cf_W_integer P w K mg base := by
  refine T.calM (d := d_W_integer) 44 rfl rfl rfl rfl sc_W_integer (fun _ _ _ _ _ _ us hl => match us, hl with | [_, _, _], _ => rfl) 106 rfl (spTake_len fun _ => rfl) fun f cdv A outer s H vs Q E hr h => ⟨_, (pss_cons (ps_set (i := 3) sc_W_integer.nd rfl (by first | exact Or.inl rfl | exact Or.inr rfl) (pe_ifExp (pt_cmpR op_notN (pe_mm0 C_W_word (hr.mono (by decide)) (pv 0)) pe_non (nomark _)) (pe_cc C_integer_in (hr.mono (by decide)) (by rfl) (pa_cons (pe_mm0 C_W_word (hr.mono (by decide)) (pv 0)) pa_nil)) pe_non))
      (pss_cons (ps_set (i := 4) sc_W_integer.nd rfl (by first | exact Or.inl rfl | exact Or.inr rfl) (pe_and (pe_cc C_is_integer (hr.mono (by decide)) (by rfl) (pa_cons (pv 3) pa_nil)) (pe_and (pe_cmpR op_ge (pv 3) (pv 1) (nomark _)) (pe_one (pe_or (pe_cmpR op_isN (pv 2) pe_non (nomark _)) (pe_one (pe_cmpR op_le (pv 3) (pv 2) (nomark _))))))))
      (pss_one (ps_ret (pe_mm C_W_taken (hr.mono (by decide)) (pv 0) (pa_cons (pe_ifExp (pt_val (pv 4)) (pv 3) pe_non) pa_nil)))))), ?_⟩
  obtain ⟨a, q, ws, i, us, ⟨n, l, m⟩, rfl, hw, hd, ⟨hx, hn, hl, hm⟩, k⟩ := h
  dsimp only at hd hx hn hl hm k
  obtain ⟨v, u, rfl, h1, h2⟩ := dps_two hd
  refine seq_ed (set_ed (K := K) (d := .int (n : Int)) (ed_ifT ((et_test (ed_notN (ed_word rfl hw hx) (b := false) fun _ _ z => dp_notnon z (fun q => nomatch q))).cast rfl) (ed_call n (eda_cons (ed_word rfl hw hx) eda_nil) hn)) fun fv H1 e1 d1 => ?_)
  dsimp only
  refine seq_ed (set_ed (K := K) (d := .bool true) ((ed_andV (a := true) (b := decide (l ≤ (n : Int)) && true) (ed_call (n : Int) (eda_cons (ed_var rfl d1) eda_nil) trivial) fun _ => ed_andV (ed_ge (ed_var rfl d1) (ed_var rfl (dp_mono e1 h1))) fun _ => ?_).cast (by rw [decide_eq_true hl]; rfl)) fun gv H2 e2 d2 => ?_)
  · cases m with
    | none => exact (ed_orV (a := true) (b := false) (ed_isN (ed_var rfl (dp_mono e1 h2)) fun _ _ z => by rw [dp_non z]; rfl) fun z => absurd z (by decide)).cast rfl
    | some m => exact (ed_orV (a := false) (b := decide ((n : Int) ≤ m)) (ed_isN (ed_var rfl (dp_mono e1 h2)) fun _ _ z => dp_notnon z (fun q => nomatch q)) fun _ => ed_le (ed_var rfl d1) (ed_var rfl (dp_mono e1 h2))).cast (by rw [decide_eq_true (hm m rfl)]; rfl)
  · dsimp only
    refine take_run (K := K) (.int (n : Int)) (by decide +kernel) rfl ((hw.mono e1).mono e2) (eda_cons (ed_ifT (et_B (ed_var rfl d2)) (ed_var rfl (dp_mono e2 d1))) eda_nil) (fun z => nomatch z) fun v H3 e3 w3 d3 => k v H3 (((Ex.w e1).trans (Ex.w e2)).trans e3) w3 d3
theorem sc_W_end : FnScope ["self"] ["self"] (defScope s_W_end) := ⟨rfl, rfl, rfl, by decide +kernel, rfl, by decide +kernel, by decide +kernel⟩
abbrev Cf_W_end (P w K mg base) := CalM P w K mg base "end" 2 ["self"] (fun vs H Q _ => ∃ a q ws, vs = [.ref a] ∧ Wd K H a q ws ws.length ∧ ∀ H', Ex H H' → Q .non H')
theorem ok_W_end (T : Tx w K mg) : Cf_W_end P w K mg base := by
  refine T.calM (d := d_W_end) 45 rfl rfl rfl rfl sc_W_end (fun _ _ _ _ _ _ us hl => match us, hl with | [_], _ => rfl) 107 rfl (fun vs H Q E ⟨_, _, _, e, _⟩ => by rw [e]; rfl) fun f cdv A outer s H vs Q E hr h => ⟨_, (pss_one (ps_if (pt_cmpR op_lt (pe_fld (pv 0) rfl) (pe_callB call_len (by rfl) T.f_len (by decide +kernel) (pa_cons (pe_fld (pv 0) rfl) pa_nil)) (nomark _)) pss_never pss_nil)), ?_⟩
  obtain ⟨a, q, ws, rfl, hw, k⟩ := h
  obtain ⟨dx, l, h1⟩ := hw.at_
  have fa : ∀ {σ : L2.St}, σ[0]? = some (some (.ref a)) → Ed K (tFld K (tVar 0) "at") σ H (.int (ws.length : Int)) := fun hs => ed_fld hs h1 T.cls T.na_at (by rfl) (.int _)
  have fw : ∀ {σ : L2.St}, σ[0]? = some (some (.ref a)) → Ed K (tFld K (tVar 0) "words") σ H (.list (ws.map PyData.str)) := fun hs => ed_fld hs h1 T.cls T.na_words (by rfl) hw.ws.dp
  exact if_et (K := K) (b := false) (et_test ((ed_lt (fa rfl) (ed_lenL (fw rfl))).cast (by rw [List.length_map, decide_eq_false (by omega)]))) (fun z => absurd z (by decide)) fun _ H1 e1 => nil_ed (k H1 e1)
end
end Sw
namespace Sw
open PySem PySem.Spec PyProof.Rows L2 Evl SwT
mutual
/-- a claim's words -/
def wordsC : Claim → List Str
  | .none => ["none"]
  | .due r a => ["due", numS r, frS a]
  | .shares c => ["shares", frS c]
  | .option c p => ["option", frS c, frS p]
  | .capped c a => "capped" :: frS a :: wordsC c
  | .sum cs => "sum" :: numS cs.length :: wordsCs cs
def wordsCs : List Claim → List Str
  | [] => []
  | c :: cs => wordsC c ++ wordsCs cs
end
mutual
/-- a claim that can be written and read back -/
def Wr (R : Nat) : Claim → Prop
  | .none => True
  | .due r a => r < R ∧ Wf a
  | .shares c => Wf c
  | .option c p => Wf c ∧ Wf p
  | .capped c a => Wr R c ∧ Wf a
  | .sum cs => 2 ≤ cs.length ∧ cs.length < 1000 ∧ Wrs R cs
def Wrs (R : Nat) : List Claim → Prop
  | [] => True
  | c :: cs => Wr R c ∧ Wrs R cs
end
theorem wordsCs_eq : ∀ cs, wordsCs cs = cs.flatMap wordsC
  | [] => rfl
  | c :: cs => by rw [wordsCs, List.flatMap_cons, wordsCs_eq cs]
theorem wrs_iff {R : Nat} : ∀ {cs}, Wrs R cs ↔ ∀ c ∈ cs, Wr R c
  | [] => by simp [Wrs]
  | c :: cs => by rw [Wrs, wrs_iff (cs := cs)]; simp
theorem wordsC_head (c : Claim) : ∃ r, wordsC c = wordS c :: r := by cases c <;> exact ⟨_, by simp only [wordsC, wordS]; rfl⟩
/-- from place i on these words stand -/
def Starts (ws : List Str) (i : Nat) (l : List Str) : Prop := ∃ post, ws.drop i = l ++ post
theorem Starts.head {ws l : List Str} {i : Nat} {x : Str} (h : Starts ws i (x :: l)) : ws[i]? = some x ∧ Starts ws (i + 1) l := by
  obtain ⟨post, e⟩ := h
  have hl : i < ws.length := by
    have := congrArg List.length e
    rw [List.length_drop, List.cons_append, List.length_cons] at this
    omega
  rw [List.drop_eq_getElem_cons hl, List.cons_append] at e
  obtain ⟨e1, e2⟩ := List.cons.inj e
  exact ⟨by rw [List.getElem?_eq_getElem hl, e1], post, e2⟩
theorem Starts.app {ws a b : List Str} {i : Nat} (h : Starts ws i (a ++ b)) : Starts ws i a ∧ Starts ws (i + a.length) b := by
  obtain ⟨post, e⟩ := h
  refine ⟨⟨b ++ post, by rw [e, List.append_assoc]⟩, post, ?_⟩
  rw [← List.drop_drop, e, List.append_assoc, List.drop_left]
/-! ### readings that take words -/
section
variable {K : PySem.W.Frag} {σ : L2.St} {H H' : Hp} {ta te : TE} {ts : TA} {v : V} {a q : Addr} {ws : List Str} {i j : Nat} {d : PyData} {ds : List PyData} {D : Ends}
def Ew (K : PySem.W.Frag) (a q : Addr) (ws : List Str) (te : TE) (σ : L2.St) (H : Hp) (i j : Nat) (d : PyData) : Prop := ∀ H1, ExW H H1 → Wd K H1 a q ws i → ∀ Q : VK, (∀ v H2, ExW H1 H2 → Wd K H2 a q ws j → Dp K H2 v d → Q v H2) → te σ H1 Q
def EwA (K : PySem.W.Frag) (a q : Addr) (ws : List Str) (ts : TA) (σ : L2.St) (H : Hp) (i j : Nat) (ds : List PyData) : Prop := ∀ H1, ExW H H1 → Wd K H1 a q ws i → ∀ Q : List V → Hp → Prop, (∀ vs H2, ExW H1 H2 → Wd K H2 a q ws j → DpAll K H2 vs ds → Q vs H2) → ts σ H1 Q
theorem ew_str {x : Str} : Ew K a q ws (tC (.str x)) σ H i i (.str x) := fun H1 e w Q k => k _ H1 (ExW.refl _) w (.str _)
theorem ew_var {n : Nat} (hs : σ[n]? = some (some v)) (hd : Dp K H v d) : Ew K a q ws (tVar n) σ H i i d := fun H1 e w Q k => ⟨v, hs, k _ H1 (ExW.refl _) w (dp_w e hd)⟩
theorem ew_take {α : Type} {args : α → List PyData} {pre : α → Option Str → Prop} {res : α → PyData} {m : Str} {n : Nat} (x : α) (hm : (m == "words" || m == "line" || m == "at") = false) (hs : σ[n]? = some (some (.ref a))) (ha : ∀ H1, ExW H H1 → EdA K ts σ H1 (args x)) (hp : pre x ws[i]?) :
    Ew K a q ws (tMeth (WC K) m (spTake K args pre res) [] E0 (tVar n) ts) σ H i (i + 1) (res x) := fun H1 e w Q k => take_run x hm hs w (ha H1 e) hp k
theorem ewa_nil : EwA K a q ws tNil σ H i i [] := fun H1 e w Q k => k [] H1 (ExW.refl _) w .nil
theorem ewa_cons {k : Nat} (h1 : Ew K a q ws ta σ H i k d) (h2 : EwA K a q ws ts σ H k j ds) : EwA K a q ws (tCons ta ts) σ H i j (d :: ds) := fun H1 e w Q z =>
  h1 H1 e w _ fun v H2 e2 w2 d2 => h2 H2 (e.trans e2) w2 _ fun vs H3 e3 w3 d3 => z (v :: vs) H3 (e2.trans e3) w3 (.cons (dp_w e3 d2) d3)
theorem ew_tup (h : EwA K a q ws ts σ H i j ds) (hl : ds.length ≤ sizeLine := by (show _ ≤ 16777216; exact Nat.le_of_ble_eq_true rfl)) : Ew K a q ws (tTup ts) σ H i j (.tuple ds) := fun H1 e w Q k =>
  h H1 e w _ fun vs H2 e2 w2 d2 => ⟨by rw [dps_len d2]; exact hl, fun p hp => k _ _ (e2.trans (Ex.w (Ex.new hp))) (w2.mono (Ex.new hp)) (.tup (st_of upd_same) (dps_mono (Ex.new hp) d2))⟩
theorem ret_ew (h : Ew K a q ws te σ H i j d) (w : Wd K H a q ws i) (k : ∀ v H', ExW H H' → Wd K H' a q ws j → Dp K H' v d → D.rt v H') : tRet te D σ H := h H (ExW.refl _) w _ k
theorem set_ew {n : Nat} (h : Ew K a q ws te σ H i j d) (w : Wd K H a q ws i) (k : ∀ v H', ExW H H' → Wd K H' a q ws j → Dp K H' v d → D.nx (σ.set n (some v)) H') : tAsg te (gName n) D σ H := h H (ExW.refl _) w _ k
theorem drop_ew (h : Ew K a q ws te σ H i j d) (w : Wd K H a q ws i) (k : ∀ H', ExW H H' → Wd K H' a q ws j → D.nx σ H') : tDrop te D σ H := h H (ExW.refl _) w _ fun v H' e w _ => k H' e w
end
section
variable {K : PySem.W.Frag} {σ : L2.St} {H H' : Hp} {ta te : TE} {v : V} {a q p : Addr} {ws : List Str} {i j n m : Nat} {d : PyData} {ds : List PyData} {D : Ends}
theorem Wd.ne (w : Wd K H a q ws i) (h : H p = none) : a ≠ p ∧ q ≠ p := by
  obtain ⟨⟨dx, l, h1⟩, us, u1, _⟩ := w
  exact ⟨ne_of_none h1 h, ne_of_none u1 h⟩
theorem par_ewl (h : Ew K a q ws ta σ H i j d) (w : Wd K H a q ws i) (k : ∀ v p H1 H', ExW H H1 → H1 p = none → Ex H1 H' → a ≠ p → q ≠ p → Wd K H' a q ws j → Dp K H' v d → Lm K H' p [] → D.nx ((σ.set n (some v)).set m (some (.ref p))) H') : tPar n m (tCons ta (tCons (tLst tNil) tNil)) D σ H :=
  h H (ExW.refl _) w _ fun v H2 e2 w2 d2 => ⟨Nat.zero_le _, fun p hp => ⟨v, _, rfl, k v p H2 _ e2 hp (Ex.new hp) (w2.ne hp).1 (w2.ne hp).2 (w2.mono (Ex.new hp)) (dp_mono (Ex.new hp) d2) ⟨[], upd_same, .nil⟩⟩⟩
theorem app_ew (hs : σ[n]? = some (some (.ref p))) (hL : Lm K H p ds) (hn : nols ds = true) (he : Ew K a q ws te σ H i j d) (w : Wd K H a q ws i) (nd : nol d = true) (hl : ds.length < sizeLine) (ha : a ≠ p) (hq : q ≠ p)
    (k : ∀ H2 H', ExW H H2 → ExB p H2 H' → Im H2 H' → Wd K H' a q ws j → Lm K H' p (ds ++ [d]) → D.nx σ H') : tDrop (tBM K "list" rAppend (tVar n) (tCons te tNil)) D σ H := by
  obtain ⟨vs, h1, h2⟩ := hL
  refine ⟨_, hs, .inl ⟨rfl, vs, sq_of h1⟩, he H (ExW.refl _) w _ fun v H2 e2 w2 d2 => ?_⟩
  have h3 := e2.o p (.lst vs) (fun _ _ _ z => nomatch z) h1
  have im : Im H2 (upd H2 p (.lst (vs ++ [v]))) := im_upd h3 rfl
  refine ⟨p, vs, v, rfl, rfl, h3, by rw [dps_len h2]; exact hl, k H2 _ e2 exB_upd im (w2.exB exB_upd im ha hq) ⟨_, upd_same, ?_⟩⟩
  exact dps_snoc (dps_im im hn (dps_w e2 h2)) (dp_im im nd d2)
end
/-- claim_in -/
abbrev spCI (K : PySem.W.Frag) (n : Nat) : Sp := fun vs H Q _ => ∃ a q ws i R c, vs = [.ref a, .int ((R : Nat) : Int)] ∧ Wd K H a q ws i ∧ Starts ws i (wordsC c) ∧ depth c < n ∧ Wr R c ∧ R ≤ 6 ∧ ∀ v H', ExW H H' → Wd K H' a q ws (i + (wordsC c).length) → Dp K H' v (claimD c) → Q v H'
section
variable {P : Program} {w : World} {K : PySem.W.Frag} {mg : Str → Option Value} {base : Heap}
theorem ew_claim {n R : Nat} {c : Claim} {σ : L2.St} {H : Hp} {a q : Addr} {ws : List Str} {i : Nat} (hs : σ[0]? = some (some (.ref a))) (h1 : σ[1]? = some (some (.int (R : Int)))) (hst : Starts ws i (wordsC c)) (hd : depth c < n) (hw : Wr R c) (hR : R ≤ 6) :
    Ew K a q ws (tCall (spCI K n) [] E0 (tCons (tVar 0) (tCons (tVar 1) tNil))) σ H i (i + (wordsC c).length) (claimD c) := fun H1 e w Q k => ⟨_, hs, _, h1, a, q, ws, i, R, c, rfl, w, hst, hd, hw, hR, k⟩
theorem sc_claim_in : FnScope ["words", "ranks", "word", "many", "found", "rank", "count", "amount"] ["words", "ranks"] (defScope s_claim_in) := ⟨rfl, rfl, rfl, by decide +kernel, rfl, by decide +kernel, by decide +kernel⟩
abbrev Cf_claim_in (P w K mg base) (n : Nat) := Cal P w K mg base "claim_in" (n + 8) ["words", "ranks"] (spCI K n)
theorem ok_claim_in (T : Tx w K mg) (C_W_fraction : Cf_W_fraction P w K mg base) (C_W_integer : Cf_W_integer P w K mg base) (C_W_one_of : Cf_W_one_of P w K mg base) : ∀ n, Cf_claim_in P w K mg base n
  | 0 => T.cal (d := d_claim_in) 46 41 rfl rfl rfl rfl rfl sc_claim_in (fun _ _ _ _ _ _ us hl => match us, hl with | [_, _], _ => rfl) (fun vs H Q E ⟨_, _, _, _, _, _, e, _⟩ => by rw [e]; rfl) fun f cdv A outer s H vs Q E hr h => absurd h fun ⟨_, _, _, _, _, _, _, _, _, h, _⟩ => absurd h (Nat.not_lt_zero _)
  | n + 1 => by
    have C_claim_in := ok_claim_in T C_W_fraction C_W_integer C_W_one_of n
    refine T.cal (d := d_claim_in) 46 41 rfl rfl rfl rfl rfl sc_claim_in (fun _ _ _ _ _ _ us hl => match us, hl with | [_, _], _ => rfl) (fun vs H Q E ⟨_, _, _, _, _, _, e, _⟩ => by rw [e]; rfl) fun f cdv A outer s H vs Q E hr h => ⟨_, (pss_cons (ps_set (i := 2) sc_claim_in.nd rfl (by first | exact Or.inl rfl | exact Or.inr rfl) (pe_mm C_W_one_of (hr.mono (by omega)) (pv 0) (pa_cons (pe_ifExp (pt_cmpR op_gt (pv 1) pe_int (nomark _)) (pe_tup (pa_cons pe_str (pa_cons pe_str (pa_cons pe_str (pa_cons pe_str (pa_cons pe_str (pa_cons pe_str pa_nil))))))) (pe_glob (v := .ref (He.ga K "RANKLESS")) (by rfl) T.g_RANKLESS rfl)) pa_nil)))
      (pss_cons (ps_if (pt_cmpR (op_eqD hr.units) (pv 2) pe_str (nomark _)) (pss_one (ps_ret (pe_tup (pa_cons pe_str pa_nil)))) pss_nil)
      (pss_cons (ps_if (pt_cmpR (op_eqD hr.units) (pv 2) pe_str (nomark _)) (pss_cons (ps_set (i := 5) sc_claim_in.nd rfl (by first | exact Or.inl rfl | exact Or.inr rfl) (pe_mm C_W_integer (hr.mono (by omega)) (pv 0) (pa_cons pe_int (pa_cons (pe_op op_sub (pv 1) pe_int) pa_nil))))
      (pss_one (ps_ret (pe_tup (pa_cons pe_str (pa_cons (pv 5) (pa_cons (pe_mm0 C_W_fraction (hr.mono (by omega)) (pv 0)) pa_nil))))))) pss_nil)
      (pss_cons (ps_if (pt_cmpR (op_eqD hr.units) (pv 2) pe_str (nomark _)) (pss_one (ps_ret (pe_tup (pa_cons pe_str (pa_cons (pe_mm0 C_W_fraction (hr.mono (by omega)) (pv 0)) pa_nil))))) pss_nil)
      (pss_cons (ps_if (pt_cmpR (op_eqD hr.units) (pv 2) pe_str (nomark _)) (pss_cons (ps_set (i := 6) sc_claim_in.nd rfl (by first | exact Or.inl rfl | exact Or.inr rfl) (pe_mm0 C_W_fraction (hr.mono (by omega)) (pv 0)))
      (pss_one (ps_ret (pe_tup (pa_cons pe_str (pa_cons (pv 6) (pa_cons (pe_mm0 C_W_fraction (hr.mono (by omega)) (pv 0)) pa_nil))))))) pss_nil)
      (pss_cons (ps_if (pt_cmpR (op_eqD hr.units) (pv 2) pe_str (nomark _)) (pss_cons (ps_set (i := 7) sc_claim_in.nd rfl (by first | exact Or.inl rfl | exact Or.inr rfl) (pe_mm0 C_W_fraction (hr.mono (by omega)) (pv 0)))
      (pss_one (ps_ret (pe_tup (pa_cons pe_str (pa_cons (pe_cc C_claim_in (hr.mono (by omega)) (by rfl) (pa_cons (pv 0) (pa_cons (pv 1) pa_nil))) (pa_cons (pv 7) pa_nil))))))) pss_nil)
      (pss_cons (ps_par (i := 3) (j := 4) rfl sc_claim_in.nd rfl rfl (by decide) rfl rfl (pa_cons (pe_mm C_W_integer (hr.mono (by omega)) (pv 0) (pa_cons pe_int (pa_cons pe_non pa_nil))) (pa_cons (pe_lst pa_nil) pa_nil)) (by rfl))
      (pss_cons (ps_while PassesOwn.never (pt_cmpR op_lt (pe_callB call_len (by rfl) T.f_len (by decide +kernel) (pa_cons (pv 4) pa_nil)) (pv 3) (nomark _)) (pss_one (ps_expr (pe_bm PySem.F.plainAttrs_list PySem.F.slot_list_append PySem.F.type_list_append mt_append (pv 4) (pa_cons (pe_cc C_claim_in (hr.mono (by omega)) (by rfl) (pa_cons (pv 0) (pa_cons (pv 1) pa_nil))) pa_nil)))))
      (pss_one (ps_ret (pe_tup (pa_cons pe_str (pa_cons (pe_callTy call_tuple_of (by rfl) T.f_tuple (by decide +kernel) (pa_cons (pv 4) pa_nil)) pa_nil))))))))))))), ?_⟩
    obtain ⟨a, q, ws, i, R, c, rfl, hw, hst, hn, hwr, hR, k⟩ := h
    obtain ⟨rest, hwc⟩ := wordsC_head c
    have hs0 := hst
    rw [hwc] at hs0
    obtain ⟨hx, hst1⟩ := hs0.head
    have frac : ∀ {x : Rat} {i : Nat} {σ : L2.St} {H' : Hp}, σ[0]? = some (some (.ref a)) → Wf x → ws[i]? = some (frS x) → Ew K a q ws (tMeth (WC K) "fraction" (spTake K (fun _ : Rat => []) (fun x o => o = some (frS x) ∧ Wf x) fun x => fr x) [] E0 (tVar 0) tNil) σ H' i (i + 1) (fr x) := fun {x i σ H'} hs hW hi => ew_take x (by decide +kernel) hs (fun _ _ => eda_nil) ⟨hi, hW⟩
    refine seq_ed (set_ew (K := K) (ew_take ((if 0 < R then (["none", "due", "shares", "option", "capped", "sum"] : List Str) else ["none", "shares", "option", "capped", "sum"]), wordS c) (by decide +kernel) rfl (fun H1 e1 => eda_cons (ed_if (b := decide ((0 : Int) < (R : Int))) (et_test (ed_gt (ed_var rfl (.int _)) ed_int)) (fun hb => ?_) fun hb => ?_) eda_nil) ⟨hx, ?_⟩) hw fun wv H1 e1 w1 d1 => ?_)
    · rw [if_pos (by have := of_decide_eq_true hb; omega)]
      exact ed_tup (eda_cons ed_str (eda_cons ed_str (eda_cons ed_str (eda_cons ed_str (eda_cons ed_str (eda_cons ed_str eda_nil))))))
    · rw [if_neg (by have := of_decide_eq_false hb; omega)]
      exact ed_cv (T.rankless _)
    · cases c with
      | due r b =>
        have hwr := hwr
        simp only [Wr] at hwr
        rw [if_pos (show 0 < R by omega)]
        simp only [wordS]; decide +kernel
      | _ => simp only [wordS]; split <;> decide +kernel
    · dsimp only at d1 ⊢
      have wl : ∀ {m : Nat}, (wordsC c).length = m → ∀ v H', ExW H H' → Wd K H' a q ws (i + m) → Dp K H' v (claimD c) → Q v H' := fun h v H' e w d => k v H' e (by rw [h]; exact w) d
      cases c with
      | none =>
        refine seq_ed (take_eqs (K := K) rfl d1 (by decide +kernel) fun H2 e2 => ?_)
        exact ret_ed (K := K) (d := claimD .none) (by simp only [claimD]; exact ed_tup (eda_cons ed_str eda_nil)) fun v H3 e3 d3 => wl (m := 1) rfl v H3 ((e1.trans (Ex.w e2)).trans (Ex.w e3)) ((w1.mono e2).mono e3) d3
      | due r b =>
        replace d1 : Dp K H1 wv (.str "due") := d1
        simp only [Wr] at hwr
        simp only [wordsC] at hst
        obtain ⟨_, hs1⟩ := hst.head
        obtain ⟨hx1, hs2⟩ := hs1.head
        obtain ⟨hx2, _⟩ := hs2.head
        refine seq_ed (skip_eqs (K := K) rfl d1 (by decide +kernel) fun H2 e2 => ?_)
        dsimp only
        refine seq_ed (take_eqs (K := K) rfl (dp_mono e2 d1) (by decide +kernel) fun H3 e3 => ?_)
        have e13 := (e1.trans (Ex.w e2)).trans (Ex.w e3)
        refine seq_ed (set_ew (K := K) (ew_take (r, 0, some ((R : Int) - 1)) (by decide +kernel) rfl (fun H1 e1 => eda_cons ed_int (eda_cons (ed_sub (ed_var rfl (.int _)) ed_int) eda_nil)) ⟨hx1, by show r < 10 ^ 20; exact Nat.lt_trans hwr.1 (by omega), by show (0 : Int) ≤ r; omega, fun m hm => by cases hm; show (r : Int) ≤ R - 1; omega⟩) ((w1.mono e2).mono e3) fun rv H4 e4 w4 d4 => ?_)
        dsimp only at d4 ⊢
        refine ret_ew (K := K) (d := claimD (.due r b)) (by simp only [claimD]; exact ew_tup (ewa_cons ew_str (ewa_cons (ew_var rfl d4) (ewa_cons (frac rfl hwr.2 hx2) ewa_nil)))) w4 fun v H5 e5 w5 d5 => wl (m := 3) rfl v H5 ((e13.trans e4).trans e5) w5 d5
      | shares b =>
        replace d1 : Dp K H1 wv (.str "shares") := d1
        simp only [Wr] at hwr
        simp only [wordsC] at hst
        obtain ⟨_, hs1⟩ := hst.head
        obtain ⟨hx1, hs2⟩ := hs1.head
        refine seq_ed (skip_eqs (K := K) rfl d1 (by decide +kernel) fun H2 e2 => ?_)
        dsimp only
        refine seq_ed (skip_eqs (K := K) rfl (dp_mono e2 d1) (by decide +kernel) fun H3 e3 => ?_)
        dsimp only
        refine seq_ed (take_eqs (K := K) rfl (dp_mono (e2.trans e3) d1) (by decide +kernel) fun H4 e4 => ?_)
        have e14 := ((e1.trans (Ex.w e2)).trans (Ex.w e3)).trans (Ex.w e4)
        exact ret_ew (K := K) (d := claimD (.shares b)) (by simp only [claimD]; exact ew_tup (ewa_cons ew_str (ewa_cons (frac rfl hwr hx1) ewa_nil))) (((w1.mono e2).mono e3).mono e4) fun v H5 e5 w5 d5 => wl (m := 2) rfl v H5 (e14.trans e5) w5 d5
      | option b p =>
        replace d1 : Dp K H1 wv (.str "option") := d1
        simp only [Wr] at hwr
        simp only [wordsC] at hst
        obtain ⟨_, hs1⟩ := hst.head
        obtain ⟨hx1, hs2⟩ := hs1.head
        obtain ⟨hx2, _⟩ := hs2.head
        refine seq_ed (skip_eqs (K := K) rfl d1 (by decide +kernel) fun H2 e2 => ?_)
        dsimp only
        refine seq_ed (skip_eqs (K := K) rfl (dp_mono e2 d1) (by decide +kernel) fun H3 e3 => ?_)
        dsimp only
        refine seq_ed (skip_eqs (K := K) rfl (dp_mono (e2.trans e3) d1) (by decide +kernel) fun H4 e4 => ?_)
        dsimp only
        refine seq_ed (take_eqs (K := K) rfl (dp_mono ((e2.trans e3).trans e4) d1) (by decide +kernel) fun H5 e5 => ?_)
        have e15 := (((e1.trans (Ex.w e2)).trans (Ex.w e3)).trans (Ex.w e4)).trans (Ex.w e5)
        refine seq_ed (set_ew (K := K) (frac rfl hwr.1 hx1) ((((w1.mono e2).mono e3).mono e4).mono e5) fun rv H6 e6 w6 d6 => ?_)
        dsimp only
        exact ret_ew (K := K) (d := claimD (.option b p)) (by simp only [claimD]; exact ew_tup (ewa_cons ew_str (ewa_cons (ew_var rfl d6) (ewa_cons (frac rfl hwr.2 hx2) ewa_nil)))) w6 fun v H7 e7 w7 d7 => wl (m := 3) rfl v H7 ((e15.trans e6).trans e7) w7 d7
      | capped c b =>
        replace d1 : Dp K H1 wv (.str "capped") := d1
        simp only [Wr] at hwr
        simp only [depth] at hn
        simp only [wordsC] at hst
        obtain ⟨_, hs1⟩ := hst.head
        obtain ⟨hx1, hs2⟩ := hs1.head
        refine seq_ed (skip_eqs (K := K) rfl d1 (by decide +kernel) fun H2 e2 => ?_)
        dsimp only
        refine seq_ed (skip_eqs (K := K) rfl (dp_mono e2 d1) (by decide +kernel) fun H3 e3 => ?_)
        dsimp only
        refine seq_ed (skip_eqs (K := K) rfl (dp_mono (e2.trans e3) d1) (by decide +kernel) fun H4 e4 => ?_)
        dsimp only
        refine seq_ed (skip_eqs (K := K) rfl (dp_mono ((e2.trans e3).trans e4) d1) (by decide +kernel) fun H5 e5 => ?_)
        dsimp only
        refine seq_ed (take_eqs (K := K) rfl (dp_mono (((e2.trans e3).trans e4).trans e5) d1) (by decide +kernel) fun H6 e6 => ?_)
        have e16 := ((((e1.trans (Ex.w e2)).trans (Ex.w e3)).trans (Ex.w e4)).trans (Ex.w e5)).trans (Ex.w e6)
        refine seq_ed (set_ew (K := K) (frac rfl hwr.2 hx1) (((((w1.mono e2).mono e3).mono e4).mono e5).mono e6) fun rv H7 e7 w7 d7 => ?_)
        dsimp only
        refine ret_ew (K := K) (d := claimD (.capped c b)) (by simp only [claimD]; exact ew_tup (ewa_cons ew_str (ewa_cons (ew_claim rfl rfl hs2 (by omega) hwr.1 hR) (ewa_cons (ew_var rfl d7) ewa_nil)))) w7 fun v H8 e8 w8 d8 => wl (m := 2 + (wordsC c).length) (by simp only [wordsC, List.length_cons]; omega) v H8 ((e16.trans e7).trans e8) (by rw [show i + (2 + (wordsC c).length) = i + 1 + 1 + (wordsC c).length by omega]; exact w8) d8
      | sum cs =>
        replace d1 : Dp K H1 wv (.str "sum") := d1
        simp only [Wr] at hwr
        simp only [depth] at hn
        simp only [wordsC] at hst
        obtain ⟨_, hs1⟩ := hst.head
        obtain ⟨hx1, hs2⟩ := hs1.head
        refine seq_ed (skip_eqs (K := K) rfl d1 (by decide +kernel) fun H2 e2 => ?_)
        dsimp only
        refine seq_ed (skip_eqs (K := K) rfl (dp_mono e2 d1) (by decide +kernel) fun H3 e3 => ?_)
        dsimp only
        refine seq_ed (skip_eqs (K := K) rfl (dp_mono (e2.trans e3) d1) (by decide +kernel) fun H4 e4 => ?_)
        dsimp only
        refine seq_ed (skip_eqs (K := K) rfl (dp_mono ((e2.trans e3).trans e4) d1) (by decide +kernel) fun H5 e5 => ?_)
        dsimp only
        refine seq_ed (skip_eqs (K := K) rfl (dp_mono (((e2.trans e3).trans e4).trans e5) d1) (by decide +kernel) fun H6 e6 => ?_)
        dsimp only
        have e16 := ((((e1.trans (Ex.w e2)).trans (Ex.w e3)).trans (Ex.w e4)).trans (Ex.w e5)).trans (Ex.w e6)
        have w6 := ((((w1.mono e2).mono e3).mono e4).mono e5).mono e6
        have hlc : (wordsC (.sum cs)).length = 2 + (wordsCs cs).length := by simp only [wordsC, List.length_cons]; omega
        refine seq_ed (par_ewl (K := K) (ew_take (cs.length, 2, none) (by decide +kernel) rfl (fun H1 e1 => eda_cons ed_int (eda_cons ed_non eda_nil)) ⟨hx1, by show cs.length < 10 ^ 20; exact Nat.lt_trans hwr.2.1 (by decide), by show (2 : Int) ≤ cs.length; omega, fun m hm => nomatch hm⟩) w6 fun mv p Hm H7 e7 hp e7b hap hqp w7 d7 l7 => ?_)
        dsimp only at d7 ⊢
        obtain rfl := dp_int d7
        have e17 := (e16.trans e7).trans (Ex.w e7b)
        have hp0 : H p = none := (e16.trans e7).back hp
        refine seq_ed (while_et (K := K) (fun m σ H' => ∃ (j : Nat) (o5 o6 o7 : Option V), σ = [some (.ref a), some (.int (R : Int)), some wv, some (.int (cs.length : Int)), some (.ref p), o5, o6, o7] ∧ m = cs.length - j ∧ j ≤ cs.length ∧ ExW H H' ∧ Wd K H' a q ws (i + 1 + 1 + (wordsCs (cs.take j)).length) ∧ Starts ws (i + 1 + 1 + (wordsCs (cs.take j)).length) (wordsCs (cs.drop j)) ∧ Lm K H' p ((cs.take j).map claimD))
          ⟨_, 0, none, none, none, rfl, rfl, Nat.zero_le _, e17, w7, hs2, l7⟩ ?_)
        rintro m σ' H' ⟨j, o5, o6, o7, rfl, rfl, hj, e, wj, hsj, l⟩
        have hjl : ((cs.take j).map claimD).length = j := by rw [List.length_map, List.length_take]; omega
        refine ⟨decide (j < cs.length), (et_test (ed_lt (ed_lenL (edt_var rfl l).toD) (ed_var rfl (.int _)))).cast (by rw [hjl]; exact decide_eq_decide.mpr (by omega)), fun hb H8 e8 => ?_, fun hb H8 e8 => ?_⟩
        · have hlt := of_decide_eq_true hb
          have hg := List.getElem?_eq_getElem hlt
          have hm := List.getElem_mem hlt
          rw [List.drop_eq_getElem_cons hlt] at hsj
          simp only [wordsCs] at hsj
          obtain ⟨hsa, hsb⟩ := hsj.app
          have htk := take_snoc hg
          generalize cs[j] = c at *
          have hwc : wordsCs (cs.take (j + 1)) = wordsCs (cs.take j) ++ wordsC c := by rw [htk, wordsCs_eq, wordsCs_eq, List.flatMap_append]; simp
          refine app_ew (K := K) rfl (l.mono e8) (nols_claims _) (ew_claim rfl rfl hsa (by have := depths_le.mp (Nat.le_refl (depths cs)) c hm; omega) (wrs_iff.mp hwr.2.2 c hm) hR) (wj.mono e8) (nol_claim c) (by rw [hjl]; show _ < 16777216; omega) hap hqp fun H9 H10 e9 b10 _ w10 l10 => ?_
          refine ⟨cs.length - (j + 1), by omega, j + 1, _, _, _, rfl, rfl, hlt, b10.w ((e.trans (Ex.w e8)).trans e9) hp0, ?_, ?_, ?_⟩
          · rw [hwc, List.length_append, ← Nat.add_assoc]; exact w10
          · rw [hwc, List.length_append, ← Nat.add_assoc]; exact hsb
          · rw [htk, List.map_append]; exact l10
        · have hb := of_decide_eq_false hb
          have : j = cs.length := by omega
          subst this
          rw [List.take_length] at wj l
          dsimp only
          exact ret_ed (K := K) (d := claimD (.sum cs)) (by simp only [claimD]; rw [claimsD_eq]; exact ed_tup (eda_cons ed_str (eda_cons (ed_tupleL (edt_var rfl (l.mono e8)).toD) eda_nil))) fun v H9 e9 d9 => k v H9 ((e.trans (Ex.w e8)).trans (Ex.w e9)) (by rw [hlc, show i + (2 + (wordsCs cs).length) = i + 1 + 1 + (wordsCs cs).length by omega]; exact (wj.mono e8).mono e9) d9
end
end Sw
namespace Sw
open PySem PySem.Spec PyProof.Rows L2 Evl SwT
structure Firm where
  name : Str
  ranks : Nat
  holds : List (Str × List Claim)
def holdD (h : Str × List Claim) : PyData := .tuple [.str h.1, .tuple (h.2.map claimD)]
def firmD (f : Firm) : PyData := .tuple [.str f.name, .int (f.ranks : Int), .tuple (f.holds.map holdD)]
theorem nol_hold (h : Str × List Claim) : nol (holdD h) = true := by simp only [holdD, nol, nols, nols_claims h.2, Bool.and_self]
theorem nol_firm (f : Firm) : nol (firmD f) = true := by simp only [firmD, nol, nols, nols_map nol_hold f.holds, Bool.and_self]
def FirmOk (f : Firm) : Prop := PyData.strOk f.name = true ∧ ∀ h ∈ f.holds, PyData.strOk h.1 = true ∧ ∀ c ∈ h.2, depth c ≤ 2
theorem sh_hold {h : Str × List Claim} (h1 : PyData.strOk h.1 = true) (h2 : ∀ c ∈ h.2, depth c ≤ 2) : Sh 9 (holdD h) := sh_tup fun d hd => by
  simp only [List.mem_cons, List.not_mem_nil, or_false] at hd
  rcases hd with rfl | rfl
  · exact sh_str h1
  · refine sh_tup fun d hd => ?_
    obtain ⟨c, hc, rfl⟩ := List.mem_map.mp hd
    have := h2 c hc
    exact sh_claim c 7 (by omega)
theorem sh_holds {hs : List (Str × List Claim)} (h : ∀ x ∈ hs, PyData.strOk x.1 = true ∧ ∀ c ∈ x.2, depth c ≤ 2) : Sh 10 (.tuple (hs.map holdD)) := sh_tup fun d hd => by
  obtain ⟨x, hx, rfl⟩ := List.mem_map.mp hd
  exact sh_hold (h x hx).1 (h x hx).2
theorem sh_firm {f : Firm} (h : FirmOk f) : Sh 11 (firmD f) := sh_tup fun d hd => by
  simp only [List.mem_cons, List.not_mem_nil, or_false] at hd
  rcases hd with rfl | rfl | rfl
  · exact sh_str h.1
  · exact sh_int
  · exact sh_holds h.2
section
variable {K : PySem.W.Frag} {σ : L2.St} {H H' : Hp} {ta te : TE} {ts : TA} {v : V} {a q : Addr} {ws : List Str} {i j n : Nat} {d : PyData}
theorem ed_ltS {x y : Str} {tb : TE} (ha : Ed K ta σ H (.str x)) (hb : Ed K tb σ H (.str y)) : Ed K (tOp (fun x y H Q => ∃ i j, x = .str i ∧ y = .str j ∧ Q (.bl (decide (i.cps.toList < j.cps.toList))) H) ta tb) σ H (.bool (decide (x.cps.toList < y.cps.toList))) :=
  ed_op ha hb fun a b H1 Q d1 d2 q => ⟨x, y, dp_str d1, dp_str d2, q _ H1 (Ex.refl H1) (.bl _)⟩
theorem ew_pure (h : ∀ H1, ExW H H1 → Wd K H1 a q ws i → Ed K te σ H1 d) : Ew K a q ws te σ H i i d := fun H1 e w Q k => (h H1 e w).run fun v H2 e2 d2 => k v H2 (Ex.w e2) (w.mono e2) d2
end
/-- firm_in -/
abbrev spFI (K : PySem.W.Frag) : Sp := fun vs H Q _ => ∃ a q ws i p x r, ∃ fs : List Firm, vs = [.ref a, .ref p] ∧ Wd K H a q ws i ∧ Lm K H p (fs.map firmD) ∧ Starts ws i ["firm", x, numS r] ∧ Nm x ∧ r ≤ 6 ∧ (∀ f ∈ fs, FirmOk f) ∧ (∀ f, fs.getLast? = some f → f.name.cps.toList < x.cps.toList) ∧
  ∀ v H', ExW H H' → Wd K H' a q ws (i + 3) → Dp K H' v (firmD ⟨x, r, []⟩) → Q v H'
/-- holder_in -/
abbrev spHI (K : PySem.W.Frag) : Sp := fun vs H Q _ => ∃ a q ws i u x f, vs = [.ref a, u] ∧ Wd K H a q ws i ∧ Dp K H u (firmD f) ∧ Starts ws i ["held", x] ∧ Nm x ∧ PyData.strOk f.name = true ∧ x ≠ f.name ∧
  ∀ v H', ExW H H' → Wd K H' a q ws (i + 2) → Dp K H' v (.str x) → Q v H'
section
variable {P : Program} {w : World} {K : PySem.W.Frag} {mg : Str → Option Value} {base : Heap}
theorem sc_firm_in : FnScope ["words", "web", "name", "is_good"] ["words", "web"] (defScope s_firm_in) := ⟨rfl, rfl, rfl, by decide +kernel, rfl, by decide +kernel, by decide +kernel⟩
abbrev Cf_firm_in (P w K mg base) := Cal P w K mg base "firm_in" 5 ["words", "web"] (spFI K)
theorem ok_firm_in (T : Tx w K mg) (C_W_integer : Cf_W_integer P w K mg base) (C_W_one_of : Cf_W_one_of P w K mg base) (C_W_taken : Cf_W_taken P w K mg base) (C_W_word : Cf_W_word P w K mg base) (C_is_name : Cf_is_name P w K mg base) : Cf_firm_in P w K mg base := by
  refine T.cal (d := d_firm_in) 47 42 rfl rfl rfl rfl rfl sc_firm_in (fun _ _ _ _ _ _ us hl => match us, hl with | [_, _], _ => rfl) (fun vs H Q E ⟨_, _, _, _, _, _, _, _, e, _⟩ => by rw [e]; rfl) fun f cdv A outer s H vs Q E hr h => ⟨_, (pss_cons (ps_expr (pe_mm C_W_one_of (hr.mono (by decide)) (pv 0) (pa_cons (pe_tup (pa_cons pe_str pa_nil)) pa_nil)))
      (pss_cons (ps_set (i := 2) sc_firm_in.nd rfl (by first | exact Or.inl rfl | exact Or.inr rfl) (pe_mm0 C_W_word (hr.mono (by decide)) (pv 0)))
      (pss_cons (ps_set (i := 3) sc_firm_in.nd rfl (by first | exact Or.inl rfl | exact Or.inr rfl) (pe_and (pe_cc C_is_name (hr.mono (by decide)) (by rfl) (pa_cons (pv 2) pa_nil)) (pe_one (pe_or (pe_cmpR (op_eqD hr.units) (pv 1) (pe_lst pa_nil) (nomark _)) (pe_one (pe_cmpR op_lt_str (pe_ix ix_seq (pe_ix ix_seq (pv 1) (pe_un un_neg pe_int) (fun _ _ => rfl)) pe_int (fun _ _ => rfl)) (pv 2) (nomark _)))))))
      (pss_cons (ps_expr (pe_mm C_W_taken (hr.mono (by decide)) (pv 0) (pa_cons (pe_ifExp (pt_val (pv 3)) (pv 2) pe_non) pa_nil)))
      (pss_one (ps_ret (pe_tup (pa_cons (pv 2) (pa_cons (pe_mm C_W_integer (hr.mono (by decide)) (pv 0) (pa_cons pe_int (pa_cons (pe_glob (v := .int 6) (by rfl) T.g_MOST_RANKS.choose_spec.1 T.g_MOST_RANKS.choose_spec.2) pa_nil))) (pa_cons (pe_tup pa_nil) pa_nil)))))))))), ?_⟩
  obtain ⟨a, q, ws, i, p, x, r, fs, rfl, hw, l, hst, hx, hR, hfs, hlast, k⟩ := h
  obtain ⟨hx0, hs1⟩ := hst.head
  obtain ⟨hx1, hs2⟩ := hs1.head
  obtain ⟨hx2, _⟩ := hs2.head
  refine seq_ed (drop_ew (K := K) (ew_take ((["firm"] : List Str), ("firm" : Str)) (by decide +kernel) rfl (fun H1 e1 => eda_cons (ed_tup (eda_cons ed_str eda_nil)) eda_nil) ⟨hx0, List.mem_singleton.mpr rfl⟩) hw fun H1 e1 w1 => ?_)
  refine seq_ed (set_ed (K := K) (ed_word rfl w1 hx1) fun xv H2 e2 d2 => ?_)
  dsimp only
  have l2 := (l.w e1).mono e2
  refine seq_ed (set_ed (K := K) (d := .bool true) ((ed_andV (a := true) (b := decide (fs = []) || (match fs.getLast? with | some f => decide (f.name.cps.toList < x.cps.toList) | none => true)) (ed_call x (eda_cons (ed_var rfl d2) eda_nil) hx) fun _ => ed_orV (ed_eq (edt_var rfl l2).toD (ed_lst eda_nil) ((sh_lst (n := 49) fun d hd => ?_).mono (by decide)) (sh_lst fun d hd => by cases hd) (by rw [decide_eq_true_eq]; simp)) fun hb => ?_).cast ?_) fun gv H3 e3 d3 => ?_)
  · obtain ⟨f, hf, rfl⟩ := List.mem_map.mp hd
    exact (sh_firm (hfs f hf)).mono (by decide)
  · have hb := of_decide_eq_false hb
    have hg := List.getLast?_eq_some_getLast hb
    have hsp := List.dropLast_concat_getLast hb
    generalize fs.getLast hb = f at *
    rw [hg]
    dsimp only
    refine ed_ltS (ed_ixT (d := .str f.name) (ds := [.str f.name, .int (f.ranks : Int), .tuple (f.holds.map holdD)]) (ed_ixL (edt_var rfl l2).toD (ed_neg ed_int) ?_) ed_int rfl) (ed_var rfl d2)
    rw [← hsp]
    exact atI_mapL (f := firmD) _ f
  · congr 1
    cases hg : fs.getLast? with
    | none =>
      rw [List.getLast?_eq_none_iff.mp hg]; rfl
    | some f =>
      dsimp only
      rw [decide_eq_true (hlast f hg), Bool.or_true]; rfl
  · dsimp only
    refine seq_ed (drop_ew (K := K) (ew_take (.str x) (by decide +kernel) rfl (fun H1 e1 => eda_cons (ed_ifT (et_B (ed_var rfl (dp_w e1 d3))) (ed_var rfl (dp_w e1 (dp_mono e3 d2)))) eda_nil) (fun z => nomatch z)) ((w1.mono e2).mono e3) fun H4 e4 w4 => ?_)
    have e14 := ((e1.trans (Ex.w e2)).trans (Ex.w e3)).trans e4
    refine ret_ew (K := K) (d := firmD ⟨x, r, []⟩) (ew_tup (ewa_cons (ew_var rfl (dp_w e4 (dp_mono e3 d2))) (ewa_cons (ew_take (r, 0, some 6) (by decide +kernel) rfl (fun H1 e1 => eda_cons ed_int (eda_cons (ed_cv (.int 6)) eda_nil)) ⟨hx2, by show r < 10 ^ 20; omega, by show (0 : Int) ≤ r; omega, fun m hm => by cases hm; show (r : Int) ≤ 6; omega⟩) (ewa_cons (ew_tup ewa_nil) ewa_nil)))) w4 fun v H5 e5 w5 d5 => k v H5 (e14.trans e5) w5 d5
theorem sc_holder_in : FnScope ["words", "firm", "name"] ["words", "firm"] (defScope s_holder_in) := ⟨rfl, rfl, rfl, by decide +kernel, rfl, by decide +kernel, by decide +kernel⟩
abbrev Cf_holder_in (P w K mg base) := Cal P w K mg base "holder_in" 4 ["words", "firm"] (spHI K)
theorem ok_holder_in (T : Tx w K mg) (C_W_one_of : Cf_W_one_of P w K mg base) (C_W_taken : Cf_W_taken P w K mg base) (C_W_word : Cf_W_word P w K mg base) (C_is_name : Cf_is_name P w K mg base) : Cf_holder_in P w K mg base := by
  refine T.cal (d := d_holder_in) 48 43 rfl rfl rfl rfl rfl sc_holder_in (fun _ _ _ _ _ _ us hl => match us, hl with | [_, _], _ => rfl) (fun vs H Q E ⟨_, _, _, _, _, _, _, e, _⟩ => by rw [e]; rfl) fun f cdv A outer s H vs Q E hr h => ⟨_, (pss_cons (ps_expr (pe_mm C_W_one_of (hr.mono (by decide)) (pv 0) (pa_cons (pe_tup (pa_cons pe_str pa_nil)) pa_nil)))
      (pss_cons (ps_set (i := 2) sc_holder_in.nd rfl (by first | exact Or.inl rfl | exact Or.inr rfl) (pe_mm0 C_W_word (hr.mono (by decide)) (pv 0)))
      (pss_one (ps_ret (pe_mm C_W_taken (hr.mono (by decide)) (pv 0) (pa_cons (pe_ifExp (PW.pt (pw_and (pt_val (pe_cc C_is_name (hr.mono (by decide)) (by rfl) (pa_cons (pv 2) pa_nil))) (pw_and1 (pt_cmpR (op_neD hr.units) (pv 2) (pe_ix ix_seq (pv 1) pe_int (fun _ _ => rfl)) (nomark _))))) (pv 2) pe_non) pa_nil)))))), ?_⟩
  obtain ⟨a, q, ws, i, u, x, f, rfl, hw, hu, hst, hx, hf, hne, k⟩ := h
  obtain ⟨hx0, hs1⟩ := hst.head
  obtain ⟨hx1, hs2⟩ := hs1.head
  refine seq_ed (drop_ew (K := K) (ew_take ((["held"] : List Str), ("held" : Str)) (by decide +kernel) rfl (fun H1 e1 => eda_cons (ed_tup (eda_cons ed_str eda_nil)) eda_nil) ⟨hx0, List.mem_singleton.mpr rfl⟩) hw fun H1 e1 w1 => ?_)
  refine seq_ed (set_ed (K := K) (ed_word rfl w1 hx1) fun xv H2 e2 d2 => ?_)
  dsimp only
  have hu2 := dp_mono e2 (dp_w e1 hu)
  exact ret_ew (K := K) (d := .str x) (ew_take (α := PyData) (.str x) (by decide +kernel) rfl (fun H1 e1 => eda_cons (ed_ifT ((et_and (a := true) (b := decide (x ≠ f.name)) (et_B (ed_call x (eda_cons (ed_var rfl (dp_w e1 d2)) eda_nil) hx)) fun _ => et_test (ed_nes (ed_var rfl (dp_w e1 d2)) (ed_ixT (ds := [.str f.name, .int (f.ranks : Int), .tuple (f.holds.map holdD)]) (ed_var rfl (dp_w e1 hu2)) ed_int rfl) hx.ok hf)).cast (by rw [decide_eq_true hne]; rfl)) (ed_var rfl (dp_w e1 d2))) eda_nil) (fun z => nomatch z)) (w1.mono e2) fun v H5 e5 w5 d5 => k v H5 ((e1.trans (Ex.w e2)).trans e5) w5 d5
end
end Sw
namespace Sw
open PySem PySem.Spec PyProof.Rows L2 Evl SwT
/-! ### lines -/
inductive Ln where
  | firm (n : Str) (r : Nat)
  | held (h : Str)
  | as_ (c : Claim)
def lnW : Ln → List Str
  | .firm n r => ["firm", n, numS r]
  | .held h => ["held", h]
  | .as_ c => "as" :: wordsC c
def lnT (x : Ln) : Str := Txt.join " " (lnW x)
/-- signs of a word -/
def Cl (x : Str) : Prop := ∀ c ∈ x.cps.toList, 45 < c ∧ c < 128
theorem cl_lit {x : Str} (h : (x.cps.toList.all fun c => decide (45 < c) && decide (c < 128)) = true) : Cl x := fun c hc => by
  have := List.all_eq_true.mp h c hc
  simpa using this
theorem cl_num (n : Nat) : Cl (numS n) := fun c hc => by
  rw [numS_l] at hc
  have := dig n c hc
  omega
theorem cl_fr (q : Rat) : Cl (frS q) := fun c hc => by have := frS_low q c hc; omega
theorem Nm.cl {x : Str} (h : Nm x) : Cl x := fun c hc => by have := h.az c hc; omega
mutual
theorem cl_claim : ∀ (c : Claim), ∀ x ∈ wordsC c, Cl x
  | .none, x, h => by
    simp only [wordsC, List.mem_singleton] at h
    rw [h]; exact cl_lit (by decide +kernel)
  | .due r a, x, h => by
    simp only [wordsC, List.mem_cons, List.not_mem_nil, or_false] at h
    rcases h with rfl | rfl | rfl
    · exact cl_lit (by decide +kernel)
    · exact cl_num _
    · exact cl_fr _
  | .shares a, x, h => by
    simp only [wordsC, List.mem_cons, List.not_mem_nil, or_false] at h
    rcases h with rfl | rfl
    · exact cl_lit (by decide +kernel)
    · exact cl_fr _
  | .option a p, x, h => by
    simp only [wordsC, List.mem_cons, List.not_mem_nil, or_false] at h
    rcases h with rfl | rfl | rfl
    · exact cl_lit (by decide +kernel)
    · exact cl_fr _
    · exact cl_fr _
  | .capped c a, x, h => by
    simp only [wordsC, List.mem_cons] at h
    rcases h with rfl | rfl | h
    · exact cl_lit (by decide +kernel)
    · exact cl_fr _
    · exact cl_claim c x h
  | .sum cs, x, h => by
    simp only [wordsC, List.mem_cons] at h
    rcases h with rfl | rfl | h
    · exact cl_lit (by decide +kernel)
    · exact cl_num _
    · exact cl_claims cs x h
theorem cl_claims : ∀ (cs : List Claim), ∀ x ∈ wordsCs cs, Cl x
  | [], x, h => by simp only [wordsCs] at h; cases h
  | c :: cs, x, h => by
    simp only [wordsCs] at h
    rcases List.mem_append.mp h with z | z
    · exact cl_claim c x z
    · exact cl_claims cs x z
end
/-- a line that can be read -/
def LnOk : Ln → Prop
  | .firm n r => Nm n ∧ r ≤ 6
  | .held h => Nm h
  | .as_ _ => True
theorem lnW_cl {x : Ln} (h : LnOk x) : ∀ y ∈ lnW x, Cl y := fun y hy => by
  cases x with
  | firm n r =>
    simp only [lnW, List.mem_cons, List.not_mem_nil, or_false] at hy
    rcases hy with rfl | rfl | rfl
    · exact cl_lit (by decide +kernel)
    · exact h.1.cl
    · exact cl_num _
  | held n =>
    simp only [lnW, List.mem_cons, List.not_mem_nil, or_false] at hy
    rcases hy with rfl | rfl
    · exact cl_lit (by decide +kernel)
    · exact Nm.cl h
  | as_ c =>
    simp only [lnW, List.mem_cons] at hy
    rcases hy with rfl | hy
    · exact cl_lit (by decide +kernel)
    · exact cl_claim c y hy
theorem lnW_ne (x : Ln) : lnW x ≠ [] := by cases x <;> simp [lnW]
theorem ln_split {x : Ln} (h : LnOk x) : Txt.split (lnT x) " " = lnW x :=
  TL.split_join (s := 32) (S := []) rfl (by decide +kernel) (lnW_ne x) fun p hp z => by
    have := lnW_cl h p hp 32 z
    omega
theorem joinL_mem {S : List Nat} {c : Nat} : ∀ {ps : List (List Nat)}, c ∈ TL.joinL S ps → c ∈ S ∨ ∃ p ∈ ps, c ∈ p
  | [], h => by simp [TL.joinL] at h
  | [p], h => .inr ⟨p, List.mem_cons_self, by simpa [TL.joinL] using h⟩
  | p :: q :: r, h => by
    have e : TL.joinL S (p :: q :: r) = p ++ S ++ TL.joinL S (q :: r) := by simp [TL.joinL]
    rw [e] at h
    rcases List.mem_append.mp h with z | z
    · rcases List.mem_append.mp z with z | z
      · exact .inr ⟨p, List.mem_cons_self, z⟩
      · exact .inl z
    · rcases joinL_mem z with z | ⟨y, hy, z⟩
      · exact .inl z
      · exact .inr ⟨y, List.mem_cons_of_mem _ hy, z⟩
theorem join_mem {sep : Str} {c : Nat} {ps : List Str} (h : c ∈ (Txt.join sep ps).cps.toList) : c ∈ sep.cps.toList ∨ ∃ p ∈ ps, c ∈ p.cps.toList := by
  rw [TL.join_eq] at h
  have h : c ∈ TL.tl (Str.join sep ps) := h
  rw [TL.tl_join] at h
  rcases joinL_mem h with z | ⟨p, hp, z⟩
  · exact .inl z
  · obtain ⟨y, hy, rfl⟩ := List.mem_map.mp hp
    exact .inr ⟨y, hy, z⟩
theorem lnT_signs {x : Ln} (h : LnOk x) : ∀ c ∈ (lnT x).cps.toList, c = 32 ∨ (45 < c ∧ c < 128) := fun c hc => by
  rcases join_mem hc with z | ⟨p, hp, z⟩
  · exact .inl (List.mem_singleton.mp z)
  · exact .inr (lnW_cl h p hp c z)
/-- the text of lines -/
def webT (ls : List Ln) : Str := Txt.join "\n" (ls.map lnT)
theorem web_split {ls : List Ln} (hne : ls ≠ []) (h : ∀ x ∈ ls, LnOk x) : Txt.split (webT ls) "\n" = ls.map lnT :=
  TL.split_join (s := 10) (S := []) rfl (by decide +kernel) (by simpa using hne) fun p hp z => by
    obtain ⟨x, hx, rfl⟩ := List.mem_map.mp hp
    rcases lnT_signs (h x hx) 10 z with k | k <;> omega
theorem webT_ok {ls : List Ln} (h : ∀ x ∈ ls, LnOk x) : PyData.strOk (webT ls) = true := strOk_of fun c hc => by
  rcases join_mem hc with z | ⟨p, hp, z⟩
  · have e : ("\n" : Str).cps.toList = [10] := by decide +kernel
    rw [e] at z
    have := List.mem_singleton.mp z; omega
  · obtain ⟨x, hx, rfl⟩ := List.mem_map.mp hp
    rcases lnT_signs (h x hx) c z with k | k <;> omega
theorem lnT_ne {x : Ln} (h : LnOk x) : lnT x ≠ "" := fun z => by
  have e := ln_split h
  rw [z] at e
  have e2 : Txt.split "" " " = ([""] : List Str) := by decide +kernel
  rw [e2] at e
  cases x <;> simp only [lnW, List.cons.injEq] at e <;> exact absurd e.1 (by decide +kernel)
theorem webT_ne {ls : List Ln} (hne : ls ≠ []) (h : ∀ x ∈ ls, LnOk x) : webT ls ≠ "" := fun z => by
  have e := web_split hne h
  rw [z] at e
  have e2 : Txt.split "" "\n" = ([""] : List Str) := by decide +kernel
  rw [e2] at e
  cases ls with
  | nil => exact hne rfl
  | cons a r =>
    rw [List.map_cons] at e
    exact lnT_ne (h a List.mem_cons_self) (List.cons.inj e).1.symm
/-- lines that make these firms -/
inductive Good : List Firm → Bool → List Ln → List Firm → Prop
  | nil {fs : List Firm} : Good fs false [] fs
  | firm {fs out : List Firm} {n : Str} {r : Nat} {ls : List Ln} (h1 : ∀ f, fs.getLast? = some f → f.name.cps.toList < n.cps.toList ∧ f.name ≠ "zzzzzzzzzzzz") (h2 : Nm n) (h3 : r ≤ 6) (t : Good (fs ++ [⟨n, r, []⟩]) false ls out) : Good fs false (.firm n r :: ls) out
  | held {fs out : List Firm} {f : Firm} {h : Str} {ls : List Ln} (h1 : Nm h) (h2 : h ≠ f.name) (t : Good (fs ++ [⟨f.name, f.ranks, f.holds ++ [(h, [])]⟩]) true ls out) : Good (fs ++ [f]) false (.held h :: ls) out
  | as_ {fs out : List Firm} {n : Str} {r : Nat} {hs : List (Str × List Claim)} {h : Str} {os : List Claim} {c : Claim} {b : Bool} {ls : List Ln} (h1 : Wr r c) (h2 : depth c ≤ 2) (h3 : r ≤ 6) (t : Good (fs ++ [⟨n, r, hs ++ [(h, os ++ [c])]⟩]) false ls out) : Good (fs ++ [⟨n, r, hs ++ [(h, os)]⟩]) b (.as_ c :: ls) out
theorem Good.lines {fs out : List Firm} {b : Bool} {ls : List Ln} (g : Good fs b ls out) : ∀ x ∈ ls, LnOk x := by
  induction g with
  | nil => intro x h; cases h
  | firm h1 h2 h3 t ih =>
    intro x h
    rcases List.mem_cons.mp h with rfl | h
    · exact ⟨h2, h3⟩
    · exact ih x h
  | held h1 h2 t ih =>
    intro x h
    rcases List.mem_cons.mp h with rfl | h
    · exact h1
    · exact ih x h
  | as_ h1 h2 h3 t ih =>
    intro x h
    rcases List.mem_cons.mp h with rfl | h
    · exact True.intro
    · exact ih x h
section
variable {K : PySem.W.Frag} {σ : L2.St} {H H' : Hp} {ta te : TE} {ts : TA} {v : V} {a q p : Addr} {ws : List Str} {i j n : Nat} {d d0 : PyData} {ds : List PyData} {D : Ends}
theorem setlast_ew (he : Ew K a q ws te σ H i j d) (w : Wd K H a q ws i) (hs : σ[n]? = some (some (.ref p))) (hL : Lm K H p (ds ++ [d0])) (hn : nols ds = true) (nd : nol d = true) (ha : a ≠ p) (hq : q ≠ p)
    (k : ∀ H2 H', ExW H H2 → ExB p H2 H' → Im H2 H' → Wd K H' a q ws j → Lm K H' p (ds ++ [d]) → D.nx σ H') : tAsg te (gSub (tVar n) (tUn (rU fun i => .int (-i)) (tC (.int 1))) L2.rSetL) D σ H := by
  obtain ⟨us, h1, h2⟩ := hL
  refine he H (ExW.refl _) w _ fun v H2 e2 w2 d2 => ⟨_, hs, 1, rfl, ?_⟩
  have h3 := e2.o p (.lst us) (fun _ _ _ z => nomatch z) h1
  have hl : us.length = ds.length + 1 := by rw [dps_len h2, List.length_append]; rfl
  obtain ⟨vs, v0, rfl⟩ : ∃ vs v0, us = vs ++ [v0] := ⟨us.dropLast, us.getLast (fun z => by rw [z] at hl; simp at hl), (List.dropLast_concat_getLast _).symm⟩
  have hvl : vs.length = ds.length := by rw [List.length_append] at hl; simpa using hl
  have eset : (vs ++ [v0]).set vs.length v = vs ++ [v] := by rw [List.set_append_right _ _ (Nat.le_refl _), Nat.sub_self]; rfl
  have him : Im H2 (upd H2 p (.lst (vs ++ [v]))) := im_upd h3 rfl
  have h5 := dps_take vs.length h2
  rw [List.take_left, hvl, List.take_left] at h5
  refine ⟨p, _, -1, vs.length, rfl, rfl, h3, ?_, by rw [eset]; exact k H2 _ e2 exB_upd him (w2.exB exB_upd him ha hq) ⟨_, upd_same, dps_snoc (dps_im him hn (dps_w e2 h5)) (dp_im him nd d2)⟩⟩
  unfold ixN
  rw [List.length_append, List.length_cons, List.length_nil, if_neg (by omega), if_pos (by omega)]
  congr 1; omega
theorem for_enL {i j i0 : Nat} {tb : TS} (hs0 : σ[i0]? = some (some (.ref q))) (hl0 : Lm K H q ds) (Pv : Nat → L2.St → Hp → Prop) (h0 : Pv 0 σ H) (hst : ∀ n σ' H', n ≤ ds.length → Pv n σ' H' → Lm K H' q ds)
    (hs : ∀ (n : Nat) d v σ' H0 H', ds[n]? = some d → Ex H0 H' → Dp K H' v d → Pv n σ' H0 → tb { D with nx := Pv (n + 1), ct := Pv (n + 1), bk := D.nx } ((σ'.set i (some (.int (n : Int)))).set j (some v)) H') (hd : ∀ σ' H', Pv ds.length σ' H' → D.nx σ' H') :
    tFor (iEnum K (tCons (tVar i0) tNil)) (gTup K 2 (gCons (gName i) (gCons (gName j) gNil))) tb D σ H := by
  obtain ⟨us0, u0, _⟩ := hl0
  refine ⟨_, hs0, q, us0, rfl, sq_of u0, fun n m σ' H' => m = ds.length - n ∧ n ≤ ds.length ∧ Pv n σ' H', ⟨ds.length, by simp, Nat.zero_le _, h0⟩, ?_⟩
  rintro n m σ' H' ⟨rfl, hi, hp⟩
  obtain ⟨us, s2, a2⟩ := hst n σ' H' hi hp
  by_cases hlt : n < ds.length
  · obtain ⟨v, v1, v2⟩ := dps_get a2 (List.getElem?_eq_getElem hlt)
    refine .inr ⟨⟨us, v, sq_of s2, v1⟩, Pv (n + 1), fun σ2 H2 z => ⟨ds.length - (n + 1), by omega, rfl, hlt, z⟩, fun y H2 hy => ?_⟩
    obtain ⟨T, u, rfl, hT, rfl, hy⟩ := hy
    have ey := hy us (sq_of s2)
    rw [v1] at ey
    cases ey
    exact tg_two (st_of upd_same) _ (hs n _ v σ' H' _ (List.getElem?_eq_getElem hlt) (Ex.new hT) (dp_mono (Ex.new hT) v2) hp)
  · have : n = ds.length := by omega
    subst this
    exact .inl ⟨⟨us, sq_of s2, by rw [dps_len a2]; exact Nat.le_refl _⟩, hd σ' H' hp⟩
end
end Sw
namespace Sw
open PySem PySem.Spec PyProof.Rows L2 Evl SwT
section
variable {K : PySem.W.Frag} {σ : L2.St} {H H' : Hp} {ta te : TE} {ts : TA} {v : V} {a q p : Addr} {ws : List Str} {i j n : Nat} {d d0 : PyData} {ds es : List PyData} {D : Ends}
theorem ewa_starT (h : ∀ H1, ExW H H1 → Ed K te σ H1 (.tuple ds)) (h2 : EwA K a q ws ts σ H i j es) : EwA K a q ws (StX.tStar K te ts) σ H i j (ds ++ es) := fun H1 e w Q z =>
  (h H1 e).run fun v H2 e2 d2 => by
    obtain ⟨p, vs, rfl, s1, a1⟩ := dp_tup d2
    exact ⟨p, vs, rfl, .inl s1, h2 H2 (e.trans (Ex.w e2)) (w.mono e2) _ fun us H3 e3 w3 d3 => z _ H3 ((Ex.w e2).trans e3) w3 (dps_app (dps_w e3 a1) d3)⟩
theorem ed_butlast (ha : Ed K te σ H (.tuple (ds ++ [d]))) : Ed K (tSl (rSlA K) te tNoPart (tPart (tUn (rU fun i => .int (-i)) (tC (.int 1))))) σ H (.tuple ds) := fun H1 e Q q =>
  ha H1 e _ fun v H2 e2 d2 => by
    obtain ⟨a, us, rfl, s1, a1⟩ := dp_tup d2
    have hl : us.length = ds.length + 1 := by rw [dps_len a1, List.length_append]; rfl
    have hs : HT.sIx us.length us.length (some (-1)) = us.length - 1 := by
      show (if (-1 : Int) < 0 then ((-1 : Int) + (us.length : Int)).toNat else min (-1 : Int).toNat us.length) = _
      rw [if_pos (by decide)]; omega
    have hc : cutV us none (some (-1)) = us.take ds.length := by
      unfold cutV
      rw [hs]
      show (us.drop 0).take (us.length - 1 - 0) = _
      rw [List.drop_zero]; congr 1; omega
    have h5 := dps_take ds.length a1
    rw [List.take_left] at h5
    refine ⟨1, rfl, -1, rfl, a, us, rfl, s1, fun z => ?_, fun _ p hp => ?_⟩
    · rw [hs] at z; omega
    · refine q _ _ (e2.trans (Ex.new hp)) (.tup (st_of upd_same) ?_)
      rw [hc]
      exact dps_mono (Ex.new hp) h5
end
/-- Words(text, line) -/
abbrev spInit (K : PySem.W.Frag) : Sp := fun vs H Q _ => ∃ a dx x l, vs = [.ref a, .str x, l] ∧ H a = some (.ins (WC K) dx []) ∧ x.length + 2 ≤ sizeLine ∧ ∀ q H', ExW H H' → H q = none → Wd K H' a q (Txt.split x " ") 0 → Q .non H'
section
variable {P : Program} {w : World} {K : PySem.W.Frag} {mg : Str → Option Value} {base : Heap}
theorem sc_W_init : FnScope ["self", "text", "line"] ["self", "text", "line"] (defScope s_W_init) := ⟨rfl, rfl, rfl, by decide +kernel, rfl, by decide +kernel, by decide +kernel⟩
theorem ok_W_init (T : Tx w K mg) : ∃ fd, FnOk P w K mg base CX0 1 (He.ma K (WC K) "__init__") fd ["self", "text", "line"] (spInit K) ∧ Binds K fd ["self", "text", "line"] [] := by
  refine T.fn (d := d_W_init) 37 rfl rfl rfl rfl sc_W_init (fun _ _ _ _ _ _ us hl => match us, hl with | [_, _, _], _ => rfl) (fun vs H Q E ⟨_, _, _, _, e, _⟩ => by rw [e]; rfl) fun f cdv A outer s H vs Q E hr h => ⟨_, (pss_cons (ps_fld (pv 0) (pe_split (pv 1) pe_str) rfl)
      (pss_cons (ps_fld (pv 0) (pv 2) rfl)
      (pss_one (ps_fld (pv 0) pe_int rfl)))), ?_⟩
  obtain ⟨a, dx, x, l, rfl, ha, hl, k⟩ := h
  refine seq_ed ?_
  refine (ed_split (K := K) (ed_var rfl (.str x)) (by decide +kernel) hl).run fun q H1 e1 hq l1 => ?_
  have ha1 := e1 _ _ ha
  have hqa : q ≠ a := fun z => ne_of_none ha hq z.symm
  refine ⟨_, rfl, a, _, dx, _, rfl, ha1, T.cls, T.na_words, by show 0 < 1000; decide, ?_⟩
  have w1 : ExW H1 (upd H1 a (.ins (WC K) dx (putF "words" (.ref q) []))) := exw_ins ha1
  dsimp only
  refine seq_ed ⟨l, rfl, _, rfl, a, _, dx, _, rfl, upd_same, T.cls, T.na_line, by show 1 < 1000; decide, ?_⟩
  dsimp only
  generalize hA : upd H1 a (.ins (WC K) dx (putF "words" (.ref q) [])) = H2 at *
  have ha2 : H2 a = some (.ins (WC K) dx (putF "words" (.ref q) [])) := by rw [← hA]; exact upd_same
  have w2 : ExW H2 (upd H2 a (.ins (WC K) dx (putF "line" l (putF "words" (.ref q) [])))) := exw_ins ha2
  generalize hB : upd H2 a (.ins (WC K) dx (putF "line" l (putF "words" (.ref q) []))) = H3 at *
  have ha3 : H3 a = some (.ins (WC K) dx (putF "line" l (putF "words" (.ref q) []))) := by rw [← hB]; exact upd_same
  refine ⟨_, rfl, a, _, dx, _, rfl, ha3, T.cls, T.na_at, by show 2 < 1000; decide, ?_⟩
  have w3 : ExW H3 (upd H3 a (.ins (WC K) dx (putF "at" (.int 0) (putF "line" l (putF "words" (.ref q) []))))) := exw_ins ha3
  refine k q _ ((((Ex.w e1).trans w1).trans w2).trans w3) hq ⟨⟨dx, l, ?_⟩, l1.w ((w1.trans w2).trans w3)⟩
  rw [upd_same]
  rfl
end
end Sw
set_option maxHeartbeats 8000000
namespace Sw
open PySem PySem.Spec PyProof.Rows L2 Evl SwT
def nmD (fs : List Firm) : PyData := match fs.getLast? with | some f => .str f.name | none => .none
def rkD (fs : List Firm) : Nat := match fs.getLast? with | some f => f.ranks | none => 0
def hsD (fs : List Firm) : List (Str × List Claim) := match fs.getLast? with | some f => f.holds | none => []
section
variable {K : PySem.W.Frag} {σ : L2.St} {H H' : Hp} {ta te : TE} {ts : TA} {v : V} {a q p : Addr} {ws : List Str} {i j n : Nat} {d d0 : PyData} {ds es : List PyData} {D : Ends}
theorem edl_ifT {t : TT} {tb : TE} (h : Et K t σ H true) (h2 : EdL K ta σ H ds) : EdL K (tIf t ta tb) σ H ds := fun H1 e Q q => h H1 e _ fun H2 e2 => by
  show (if true = true then ta σ H2 Q else tb σ H2 Q)
  rw [if_pos rfl]
  exact h2 H2 (e.trans e2) Q fun p H3 e3 hn l => q p H3 (e2.trans e3) (fresh_back e2 hn) l
theorem par3_ed {i j l : Nat} {b : Bool} (h1 : EdL K ta σ H ds) (k : ∀ lq p H', Ex H H' → H lq = none → H p = none → lq ≠ p → Lm K H' lq ds → Lm K H' p [] → D.nx (((σ.set i (some (.ref lq))).set j (some (.ref p))).set l (some (.bl b))) H') : tPar3 i j l (tCons ta (tCons (tLst tNil) (tCons (tC (.bl b)) tNil))) D σ H :=
  h1.run fun lq H2 e2 hlq l2 => ⟨Nat.zero_le _, fun p hp => ⟨_, _, _, rfl, k lq p _ (e2.trans (Ex.new hp)) hlq (fresh_back e2 hp) (ne_of_none l2.choose_spec.1 hp) (l2.mono (Ex.new hp)) ⟨[], upd_same, .nil⟩⟩⟩
theorem make_ed {x : Str} {l : V} {n m k : Nat} (hs : σ[n]? = some (some v)) (hd : Dp K H v (.str x)) (hm : σ[m]? = some (some l)) (hl : x.length + 2 ≤ sizeLine)
    (kk : ∀ a q H', ExW H H' → H a = none → H q = none → Wd K H' a q (Txt.split x " ") 0 → D.nx (σ.set k (some (.ref a))) H') : tAsg (tMake (WC K) (spInit K) [] E0 (tCons (tVar n) (tCons (tVar m) tNil))) (gName k) D σ H := by
  obtain rfl := dp_str hd
  refine ⟨_, hs, _, hm, fun a dx ha hdx hne => ⟨a, dx, x, l, rfl, upd_same, hl, fun q H' e hq w => ⟨rfl, ?_⟩⟩⟩
  have e0 : Ex H (upd (upd H dx (.own a)) a (.ins (WC K) dx [])) := (Ex.new hdx).trans (Ex.new (by rw [upd_ne hne.symm]; exact ha))
  exact kk a q H' ((Ex.w e0).trans e) ha (fresh_back e0 hq) w
theorem end_ed {n : Nat} (hs : σ[n]? = some (some (.ref a))) (w : Wd K H a q ws ws.length) (k : ∀ H', Ex H H' → D.nx σ H') : tDrop (tMeth (WC K) "end" (fun vs H Q _ => ∃ a q ws, vs = [.ref a] ∧ Wd K H a q ws ws.length ∧ ∀ H', Ex H H' → Q .non H') [] E0 (tVar n) tNil) D σ H := by
  obtain ⟨dx, l, h1, h2⟩ := wd_noat w "end" (by decide +kernel)
  exact ⟨_, hs, a, dx, _, rfl, h1, h2, a, q, ws, rfl, w, fun H' e => k H' e⟩
theorem ew_firm {n m r : Nat} {x : Str} {fs : List Firm} (hs : σ[n]? = some (some (.ref a))) (hm : σ[m]? = some (some (.ref p))) (l : Lm K H p (fs.map firmD)) (hst : Starts ws i ["firm", x, numS r]) (hx : Nm x) (hr : r ≤ 6) (hf : ∀ f ∈ fs, FirmOk f) (hla : ∀ f, fs.getLast? = some f → f.name.cps.toList < x.cps.toList) :
    Ew K a q ws (tCall (spFI K) [] E0 (tCons (tVar n) (tCons (tVar m) tNil))) σ H i (i + 3) (firmD ⟨x, r, []⟩) := fun H1 e w Q k => ⟨_, hs, _, hm, a, q, ws, i, p, x, r, fs, rfl, w, l.w e, hst, hx, hr, hf, hla, k⟩
theorem ew_holder {n : Nat} {x : Str} {f : Firm} (hs : σ[n]? = some (some (.ref a))) (hu : ∀ H1, ExW H H1 → Ed K te σ H1 (firmD f)) (hst : Starts ws i ["held", x]) (hx : Nm x) (hf : PyData.strOk f.name = true) (hne : x ≠ f.name) :
    Ew K a q ws (tCall (spHI K) [] E0 (tCons (tVar n) (tCons te tNil))) σ H i (i + 2) (.str x) := fun H1 e w Q k => ⟨_, hs, (hu H1 e).run fun u H2 e2 d2 => ⟨a, q, ws, i, u, x, f, rfl, w.mono e2, d2, hst, hx, hf, hne, fun v H3 e3 w3 d3 => k v H3 ((Ex.w e2).trans e3) w3 d3⟩⟩
theorem ew_claimN {n0 n m R : Nat} {c : Claim} (hs : σ[n]? = some (some (.ref a))) (h1 : σ[m]? = some (some (.int (R : Int)))) (hst : Starts ws i (wordsC c)) (hd : depth c < n0) (hw : Wr R c) (hR : R ≤ 6) :
    Ew K a q ws (tCall (spCI K n0) [] E0 (tCons (tVar n) (tCons (tVar m) tNil))) σ H i (i + (wordsC c).length) (claimD c) := fun H1 e w Q k => ⟨_, hs, _, h1, a, q, ws, i, R, c, rfl, w, hst, hd, hw, hR, k⟩
end
theorem starts_self (l : List Str) : Starts l 0 l := ⟨[], by simp⟩
section
variable {P : Program} {w : World} {K : PySem.W.Frag} {mg : Str → Option Value} {base : Heap}
theorem sc_read_web : FnScope ["text", "lines", "web", "begun", "line", "one", "words", "name", "ranks", "holdings", "holder", "options"] ["text"] (defScope s_read_web) := ⟨rfl, rfl, rfl, by decide +kernel, rfl, by decide +kernel, by decide +kernel⟩
abbrev Cf_read_web (P w K mg base) := Cal P w K mg base "read_web" 13 ["text"] (fun vs H Q _ => ∃ x : List Ln × List Firm, DpAll K H vs [.str (webT x.1)] ∧ (Good [] false x.1 x.2 ∧ x.1 ≠ [] ∧ (webT x.1).length ≤ 1000000) ∧ ∀ v H', ExW H H' → Dp K H' v (.tuple (x.2.map firmD)) → Q v H')
theorem ok_read_web (T : Tx w K mg) (C_W_end : Cf_W_end P w K mg base) (C_W_one_of : Cf_W_one_of P w K mg base) (C_W_word : Cf_W_word P w K mg base) (C_claim_in : Cf_claim_in P w K mg base 3) (C_firm_in : Cf_firm_in P w K mg base) (C_holder_in : Cf_holder_in P w K mg base) : Cf_read_web P w K mg base := by
  obtain ⟨fd, C_W_init, hb_W_init⟩ := ok_W_init (P := P) (base := base) T
  refine T.cal (d := d_read_web) 49 44 rfl rfl rfl rfl rfl sc_read_web (fun _ _ _ _ _ _ us hl => match us, hl with | [_], _ => rfl) (fun vs H Q E ⟨x, hx, _⟩ => dps_len hx) fun f cdv A outer s H vs Q E hr h => ⟨_, (pss_cons (ps_if (pt_not (pt_val (pe_callB call_isi (by rfl) T.f_isinstance (by decide +kernel) (pa_cons (pv 0) (pa_cons (pe_bltn (v := .ty "str") (u := .type "str") (by rfl) T.f_str (by decide +kernel) rfl) pa_nil))))) pss_never pss_nil)
      (pss_cons (ps_par3 (i := 1) (j := 2) (l := 3) rfl sc_read_web.nd rfl rfl rfl (by decide) (by decide) (by decide) rfl rfl rfl (pa_cons (pe_ifExp (pt_cmpR (op_neD hr.units) (pv 0) pe_str (nomark _)) (pe_split (pv 0) pe_str) (pe_lst pa_nil)) (pa_cons (pe_lst pa_nil) (pa_cons pe_bl pa_nil))) (by rfl))
      (pss_cons (ps_for PassesOwn.never rfl (pi_enum (by rfl) T.f_enumerate (pa_cons (pv 1) pa_nil)) (pg_tup rfl (pgs_cons (pg_name (i := 4) sc_read_web.nd rfl (by first | exact Or.inl rfl | exact Or.inr rfl)) (pgs_cons (pg_name (i := 5) sc_read_web.nd rfl (by first | exact Or.inl rfl | exact Or.inr rfl)) pgs_nil))) (pss_cons (ps_set (i := 6) sc_read_web.nd rfl (by first | exact Or.inl rfl | exact Or.inr rfl) (pe_make T.mkr C_W_init (hr.mono (by decide)) (by rfl) T.g_Words hb_W_init .nil pass0 (pa_cons (pv 5) (pa_cons (pv 4) pa_nil))))
      (pss_cons (ps_asg (pe_ifExp (pt_cmpR (op_neD hr.units) (pv 2) (pe_lst pa_nil) (nomark _)) (pe_ix ix_seq (pv 2) (pe_un un_neg pe_int) (fun _ _ => rfl)) (pe_tup (pa_cons pe_non (pa_cons pe_int (pa_cons (pe_tup pa_nil) pa_nil))))) (pg_tup rfl (pgs_cons (pg_name (i := 7) sc_read_web.nd rfl (by first | exact Or.inl rfl | exact Or.inr rfl)) (pgs_cons (pg_name (i := 8) sc_read_web.nd rfl (by first | exact Or.inl rfl | exact Or.inr rfl)) (pgs_cons (pg_name (i := 9) sc_read_web.nd rfl (by first | exact Or.inl rfl | exact Or.inr rfl)) pgs_nil)))))
      (pss_cons (ps_if (PW.pt (pw_and (pt_cmpR (op_eqD hr.units) (pe_mm0 C_W_word (hr.mono (by decide)) (pv 6)) pe_str (nomark _)) (pw_and1 (pt_cmpR (op_neD hr.units) (pv 9) (pe_tup pa_nil) (nomark _))))) (pss_cons (ps_expr (pe_mm C_W_one_of (hr.mono (by decide)) (pv 6) (pa_cons (pe_tup (pa_cons pe_str pa_nil)) pa_nil)))
      (pss_cons (ps_asg (pe_ix ix_seq (pv 9) (pe_un un_neg pe_int) (fun _ _ => rfl)) (pg_tup rfl (pgs_cons (pg_name (i := 10) sc_read_web.nd rfl (by first | exact Or.inl rfl | exact Or.inr rfl)) (pgs_cons (pg_name (i := 11) sc_read_web.nd rfl (by first | exact Or.inl rfl | exact Or.inr rfl)) pgs_nil))))
      (pss_cons (ps_asg (pe_tup (pa_cons (pv 7) (pa_cons (pv 8) (pa_cons (pe_tup (StX.pa_star (pe_slice sl_tupA (pv 9) po_none (po_some (pe_un un_neg pe_int))) (pa_cons (pe_tup (pa_cons (pv 10) (pa_cons (pe_tup (StX.pa_star (pv 11) (pa_cons (pe_cc C_claim_in (hr.mono (by decide)) (by rfl) (pa_cons (pv 6) (pa_cons (pv 8) pa_nil))) pa_nil))) pa_nil))) pa_nil))) pa_nil)))) (pg_sub (pv 2) (pe_un un_neg pe_int) set_list))
      (pss_one (ps_set (i := 3) sc_read_web.nd rfl (by first | exact Or.inl rfl | exact Or.inr rfl) pe_bl))))) (pss_one (ps_if (PW.pt (pw_and (pt_cmpR (op_eqD hr.units) (pe_mm0 C_W_word (hr.mono (by decide)) (pv 6)) pe_str (nomark _)) (pw_and (pt_cmpR (op_neD hr.units) (pv 2) (pe_lst pa_nil) (nomark _)) (pw_and1 (pt_not (pt_val (pv 3))))))) (pss_cons (ps_asg (pe_tup (pa_cons (pv 7) (pa_cons (pv 8) (pa_cons (pe_tup (StX.pa_star (pv 9) (pa_cons (pe_tup (pa_cons (pe_cc C_holder_in (hr.mono (by decide)) (by rfl) (pa_cons (pv 6) (pa_cons (pe_ix ix_seq (pv 2) (pe_un un_neg pe_int) (fun _ _ => rfl)) pa_nil))) (pa_cons (pe_tup pa_nil) pa_nil))) pa_nil))) pa_nil)))) (pg_sub (pv 2) (pe_un un_neg pe_int) set_list))
      (pss_one (ps_set (i := 3) sc_read_web.nd rfl (by first | exact Or.inl rfl | exact Or.inr rfl) pe_bl))) (pss_one (ps_if (PW.pt (pw_and (pt_cmpR (op_eqD hr.units) (pe_mm0 C_W_word (hr.mono (by decide)) (pv 6)) pe_str (nomark _)) (pw_and (pt_not (pt_val (pv 3))) (pw_and1 (pt_cmpR (op_neD hr.units) (pv 7) (pe_glob (v := .str "zzzzzzzzzzzz") (by rfl) T.g_LAST_NAME.choose_spec.1 T.g_LAST_NAME.choose_spec.2) (nomark _)))))) (pss_one (ps_expr (pe_bm PySem.F.plainAttrs_list PySem.F.slot_list_append PySem.F.type_list_append mt_append (pv 2) (pa_cons (pe_cc C_firm_in (hr.mono (by decide)) (by rfl) (pa_cons (pv 6) (pa_cons (pv 2) pa_nil))) pa_nil)))) pss_never)))))
      (pss_one (ps_expr (pe_mm0 C_W_end (hr.mono (by decide)) (pv 6))))))))
      (pss_cons (ps_if (pt_val (pv 3)) pss_never pss_nil)
      (pss_one (ps_ret (pe_callTy call_tuple_of (by rfl) T.f_tuple (by decide +kernel) (pa_cons (pv 2) pa_nil)))))))), ?_⟩
  obtain ⟨⟨lns, out⟩, hd, ⟨hg, hne, hlen⟩, k⟩ := h
  dsimp only at hd hg hne hlen k
  obtain ⟨v, rfl, h1⟩ := dps_one hd
  have hlok := hg.lines
  have hsp := web_split hne hlok
  have hpart : ∀ x ∈ lns, (lnT x).length ≤ 1000000 := fun x hx => Nat.le_trans (PyProof.Rows.part_short (x := webT lns) (y := "\n") (by rw [hsp]; exact List.mem_map.mpr ⟨x, hx, rfl⟩)) hlen
  have hll : lns.length ≤ 1000002 := by
    have h := PyProof.Rows.split_le (webT lns) "\n"
    rw [hsp, List.length_map] at h
    omega
  refine seq_ed (if_et (K := K) (b := false) ((et_not (et_B (ed_isiS (ed_var rfl h1)))).cast rfl) (fun z => absurd z (by decide)) fun _ H1 e1 => nil_ed ?_)
  dsimp only
  refine seq_ed (par3_ed (K := K) (ds := (lns.map lnT).map PyData.str) ((edl_ifT ((et_test (ed_nes (ed_var rfl (dp_mono e1 h1)) ed_str (webT_ok hlok) (by decide +kernel))).cast (decide_eq_true (webT_ne hne hlok))) (ed_split (ed_var rfl (dp_mono e1 h1)) (by decide +kernel) (by show _ ≤ 16777216; omega))).cast (by rw [hsp])) fun lq p H2 e2 hlq hp hlp ll lw => ?_)
  dsimp only
  have hp0 : H p = none := fresh_back e1 hp
  have hlq0 : H lq = none := fresh_back e1 hlq
  refine seq_ed (for_enL (K := K) (ds := (lns.map lnT).map PyData.str) rfl ll (fun n σ H' => ∃ (fs : List Firm) (b : Bool) (o4 o5 o6 o7 o8 o9 o10 o11 : Option V), σ = [some v, some (.ref lq), some (.ref p), some (.bl b), o4, o5, o6, o7, o8, o9, o10, o11] ∧ ExW H H' ∧ Lm K H' lq ((lns.map lnT).map PyData.str) ∧ Lm K H' p (fs.map firmD) ∧ Good fs b (lns.drop n) out ∧ fs.length ≤ n ∧ (∀ f ∈ fs, FirmOk f) ∧ ∀ f ∈ fs, f.holds.length ≤ n ∧ ∀ h ∈ f.holds, h.2.length ≤ n)
    ⟨[], false, none, none, none, none, none, none, none, none, rfl, (Ex.w e1).trans (Ex.w e2), ll, lw, hg, Nat.le_refl _, fun f hf => (by cases hf), fun f hf => (by cases hf)⟩ (fun n σ' H' _ ⟨_, _, _, _, _, _, _, _, _, _, _, _, l, _⟩ => l) ?_ ?_)
  · rintro n dd lv σ' H0 H' hn e0 dl ⟨fs, b, o4, o5, o6, o7, o8, o9, o10, o11, rfl, e, ll, lw, hg, hfl, hok, hbd⟩
    obtain ⟨y, hy, rfl⟩ := get_mapD hn
    rw [List.getElem?_map] at hy
    have hnl : n < lns.length := by
      by_cases z : n < lns.length
      · exact z
      · rw [List.getElem?_eq_none (by omega)] at hy; cases hy
    have hgx := List.getElem?_eq_getElem hnl
    rw [hgx] at hy
    have hy : y = lnT lns[n] := (Option.some.inj hy).symm
    subst hy
    have hdr : lns.drop n = lns[n] :: lns.drop (n + 1) := List.drop_eq_getElem_cons hnl
    rw [hdr] at hg
    have hxm := List.getElem_mem hnl
    have hxok := hlok _ hxm
    have hxl := hpart _ hxm
    generalize lns[n] = x at *
    have ll0 := ll.mono e0
    have lw0 := lw.mono e0
    have e' := e.trans (Ex.w e0)
    dsimp only
    refine seq_ed (make_ed (K := K) rfl dl rfl (by show _ ≤ 16777216; omega) fun a q H3 e3 ha hq wd => ?_)
    rw [ln_split hxok] at wd
    have hap : a ≠ p := fun z => ne_of_none lw0.choose_spec.1 ha z.symm
    have hqp : q ≠ p := fun z => ne_of_none lw0.choose_spec.1 hq z.symm
    have lw3 := lw0.w e3
    have ll3 := ll0.w e3
    have e03 := e'.trans e3
    dsimp only
    have hsh : ∀ d ∈ fs.map firmD, Sh 49 d := fun d hd => by
      obtain ⟨f, hf, rfl⟩ := List.mem_map.mp hd
      exact (sh_firm (hok f hf)).mono (by decide)
    refine seq_ed (unp3_ed (K := K) (x := nmD fs) (y := .int (rkD fs : Int)) (z := .tuple ((hsD fs).map holdD)) (ed_if (b := decide (fs ≠ [])) (et_test (ed_ne (edt_var rfl lw3).toD (ed_lst eda_nil) ((sh_lst hsh).mono (by decide)) (sh_lst fun d hd => by cases hd) (by rw [decide_eq_true_eq]; simp))) (fun hb => ?_) fun hb => ?_) fun nv rv hv H4 e4 dn dr dh => ?_)
    · have hb := of_decide_eq_true hb
      have hgl := List.getLast?_eq_some_getLast hb
      have hspl := List.dropLast_concat_getLast hb
      generalize fs.getLast hb = f at *
      unfold nmD rkD hsD
      rw [hgl]
      refine ed_ixL (edt_var rfl lw3).toD (ed_neg ed_int) ?_
      rw [← hspl]
      exact atI_mapL (f := firmD) _ f
    · have hb : fs = [] := by have := of_decide_eq_false hb; simpa using this
      subst hb
      exact ed_tup (eda_cons ed_non (eda_cons ed_int (eda_cons (ed_tup eda_nil) eda_nil)))
    · have lw4 := lw3.mono e4
      have ll4 := ll3.mono e4
      have wd4 := wd.mono e4
      have e04 := e03.trans (Ex.w e4)
      dsimp only
      obtain rfl := dp_int dr
      have hhs : Sh 50 (.tuple ((hsD fs).map holdD)) := by
        refine (sh_holds fun x hx => ?_).mono (by decide)
        unfold hsD at hx
        cases hgl : fs.getLast? with
        | none => rw [hgl] at hx; cases hx
        | some f =>
          rw [hgl] at hx
          exact (hok f (List.mem_of_getLast? hgl)).2 x hx
      have wq : ∀ {y z : Str} {σ : L2.St} {H5 : Hp}, Ex H4 H5 → (lnW x)[0]? = some y → σ[6]? = some (some (.ref a)) → PyData.strOk y = true → PyData.strOk z = true → Et K (tTest (tOp (rEqD K) (tMeth (WC K) "word" (spWord K) [] E0 (tVar 6) tNil) (tC (.str z)))) σ H5 (decide (y = z)) := fun {y z σ H5} e5 hy hs h1 h2 => et_test (ed_eqs (ed_word hs (wd4.mono e5) hy) ed_str h1 h2)
      have fin : ∀ {σ : L2.St} {H5 : Hp} {D : Ends}, σ[6]? = some (some (.ref a)) → Wd K H5 a q (lnW x) (lnW x).length → (∀ H6, Ex H5 H6 → D.nx σ H6) → tDrop (tMeth (WC K) "end" (fun vs H Q _ => ∃ a q ws, vs = [.ref a] ∧ Wd K H a q ws ws.length ∧ ∀ H', Ex H H' → Q .non H') [] E0 (tVar 6) tNil) D σ H5 := fun hs w k => end_ed hs w k
      cases hg with
      | firm g1 g2 g3 t =>
        rename_i nm r
        refine seq_ed (if_et (K := K) (b := false) ((et_and (b := true) (wq (y := "firm") (Ex.refl _) rfl rfl (by decide +kernel) (by decide +kernel)) fun z => absurd z (by decide +kernel)).cast (by decide +kernel)) (fun z => absurd z (by decide)) fun _ H5 e5 => ?_)
        refine if_et (K := K) (b := false) ((et_and (b := true) (wq (y := "firm") e5 rfl rfl (by decide +kernel) (by decide +kernel)) fun z => absurd z (by decide +kernel)).cast (by decide +kernel)) (fun z => absurd z (by decide)) fun _ H6 e6 => ?_
        have hnm : Sh 50 (nmD fs) ∧ nmD fs ≠ .str "zzzzzzzzzzzz" := by
          unfold nmD
          cases hgl : fs.getLast? with
          | none => exact ⟨sh_non, fun z => nomatch z⟩
          | some f => exact ⟨sh_str (hok f (List.mem_of_getLast? hgl)).1, fun z => (g1 f hgl).2 (by injection z)⟩
        refine if_et (K := K) (b := true) ((et_and (b := true && true) (wq (y := "firm") (e5.trans e6) rfl rfl (by decide +kernel) (by decide +kernel)) fun _ => et_and (b := true) (et_not (et_B (ed_var rfl (.bl false)))) fun _ => et_test (ed_ne (ed_var rfl (dp_mono (e5.trans e6) dn)) ed_str (hnm.1.mono (by decide)) (sh_str (by decide +kernel)) (by simp [hnm.2]))).cast (by decide +kernel)) (fun _ H7 e7 => ?_) fun z => absurd z (by decide)
        have e47 := (e5.trans e6).trans e7
        refine app_ew (K := K) rfl (lw4.mono e47) (nols_map nol_firm _) (ew_firm rfl rfl (lw4.mono e47) (starts_self _) g2 g3 hok fun f hf => (g1 f hf).1) (wd4.mono e47) (nol_firm _) (by rw [List.length_map]; show _ < 16777216; omega) hap hqp fun H8 H9 e8 b9 i9 w9 l9 => ?_
        dsimp only
        refine fin rfl w9 fun H10 e10 => ⟨fs ++ [⟨nm, r, []⟩], false, _, _, _, _, _, _, _, _, rfl, ?_, ?_, ?_, t, by rw [List.length_append]; simp only [List.length_cons, List.length_nil]; omega, fun f hf => ?_, fun f hf => ?_⟩
        · exact (b9.w ((e04.trans (Ex.w e47)).trans e8) hp0).trans (Ex.w e10)
        · exact (((ll4.mono e47).w e8).exB b9 hlp i9 (nols_map (fun _ => rfl) _)).mono e10
        · rw [List.map_append]; exact l9.mono e10
        · rcases List.mem_append.mp hf with z | z
          · exact hok f z
          · rw [List.mem_singleton.mp z]; exact ⟨g2.ok, fun h hh => (by cases hh)⟩
        · rcases List.mem_append.mp hf with z | z
          · exact ⟨Nat.le_succ_of_le (hbd f z).1, fun h hh => Nat.le_succ_of_le ((hbd f z).2 h hh)⟩
          · rw [List.mem_singleton.mp z]; exact ⟨Nat.zero_le _, fun h hh => (by cases hh)⟩
      | held g1 g2 t =>
        rename_i fs f h
        have hf := hok f (List.mem_append_right _ (List.mem_singleton.mpr rfl))
        have hgl : (fs ++ [f]).getLast? = some f := by simp
        refine seq_ed (if_et (K := K) (b := false) ((et_and (b := true) (wq (y := "held") (Ex.refl _) rfl rfl (by decide +kernel) (by decide +kernel)) fun z => absurd z (by decide +kernel)).cast (by decide +kernel)) (fun z => absurd z (by decide)) fun _ H5 e5 => ?_)
        refine if_et (K := K) (b := true) ((et_and (b := true && true) (wq (y := "held") e5 rfl rfl (by decide +kernel) (by decide +kernel)) fun _ => et_and (a := true) (b := true) (et_test (ed_ne (edt_var rfl (lw4.mono e5)).toD (ed_lst eda_nil) ((sh_lst hsh).mono (by decide)) (sh_lst fun d hd => by cases hd) (by simp))) fun _ => et_not (et_B (ed_var rfl (.bl false)))).cast (by decide +kernel)) (fun _ H6 e6 => ?_) fun z => absurd z (by decide)
        have e46 := e5.trans e6
        rw [List.map_append] at lw4
        have hdn : nmD (fs ++ [f]) = .str f.name := by unfold nmD; rw [hgl]
        have hdr : rkD (fs ++ [f]) = f.ranks := by unfold rkD; rw [hgl]
        have hdh : hsD (fs ++ [f]) = f.holds := by unfold hsD; rw [hgl]
        rw [hdn] at dn
        rw [hdh] at dh
        rw [hdr]
        refine seq_ed (setlast_ew (K := K) (j := 2) (ds := fs.map firmD) (d0 := firmD f) (d := firmD ⟨f.name, f.ranks, f.holds ++ [(h, [])]⟩) ?_ (wd4.mono e46) rfl (lw4.mono e46) (nols_map nol_firm _) (nol_firm _) hap hqp fun H8 H9 e8 b9 i9 w9 l9 => ?_)
        · have ee : firmD ⟨f.name, f.ranks, f.holds ++ [(h, [])]⟩ = .tuple [.str f.name, .int (f.ranks : Int), .tuple (f.holds.map holdD ++ [.tuple [.str h, .tuple []]])] := by simp only [firmD, List.map_append, List.map_cons, List.map_nil, holdD]
          rw [ee]
          refine ew_tup (ewa_cons (ew_var rfl (dp_mono e46 dn)) (ewa_cons (ew_var rfl (.int _)) (ewa_cons (ew_tup (ewa_starT (fun H1 e1 => ed_var rfl (dp_w e1 (dp_mono e46 dh))) (ewa_cons (ew_tup (ewa_cons (ew_holder (f := f) rfl (fun H1 e1 => ed_ixL (edt_var rfl ((lw4.mono e46).w e1)).toD (ed_neg ed_int) ?_) (starts_self _) g1 hf.1 g2) (ewa_cons (ew_tup ewa_nil) ewa_nil))) ewa_nil)) ?_) ewa_nil)))
          · exact atI_last _ _
          · have := (hbd f (List.mem_append_right _ (List.mem_singleton.mpr rfl))).1
            rw [List.length_append, List.length_map]
            show _ ≤ 16777216
            simp only [List.length_cons, List.length_nil]; omega
        · dsimp only
          refine set_ed (K := K) (ed_bl (b := true)) fun bv H10 e10 d10 => ?_
          obtain rfl := dp_bool d10
          dsimp only
          have hff := hbd f (List.mem_append_right _ (List.mem_singleton.mpr rfl))
          refine fin rfl (w9.mono e10) fun H11 e11 => ⟨fs ++ [⟨f.name, f.ranks, f.holds ++ [(h, [])]⟩], true, _, _, _, _, _, _, _, _, rfl, ?_, ?_, ?_, t, ?_, fun g hg => ?_, fun g hg => ?_⟩
          · exact ((b9.w ((e04.trans (Ex.w e46)).trans e8) hp0).trans (Ex.w e10)).trans (Ex.w e11)
          · exact ((((ll4.mono e46).w e8).exB b9 hlp i9 (nols_map (fun _ => rfl) _)).mono e10).mono e11
          · rw [List.map_append]; exact (l9.mono e10).mono e11
          · rw [List.length_append] at hfl ⊢; simp only [List.length_cons, List.length_nil] at *; omega
          · rcases List.mem_append.mp hg with z | z
            · exact hok g (List.mem_append_left _ z)
            · rw [List.mem_singleton.mp z]
              refine ⟨hf.1, fun y hy => ?_⟩
              rcases List.mem_append.mp hy with z | z
              · exact hf.2 y z
              · rw [List.mem_singleton.mp z]; exact ⟨g1.ok, fun c hc => (by cases hc)⟩
          · rcases List.mem_append.mp hg with z | z
            · have := hbd g (List.mem_append_left _ z)
              exact ⟨Nat.le_succ_of_le this.1, fun h hh => Nat.le_succ_of_le (this.2 h hh)⟩
            · rw [List.mem_singleton.mp z]
              refine ⟨by show (_ ++ _ : List (Str × List Claim)).length ≤ _; rw [List.length_append]; simp only [List.length_cons, List.length_nil]; omega, fun y hy => ?_⟩
              rcases List.mem_append.mp hy with z | z
              · exact Nat.le_succ_of_le (hff.2 y z)
              · rw [List.mem_singleton.mp z]; exact Nat.zero_le _
      | as_ g1 g2 g3 t =>
        rename_i fs nm r hs h os c
        have hf := hok _ (List.mem_append_right _ (List.mem_singleton.mpr rfl))
        have hff := hbd _ (List.mem_append_right _ (List.mem_singleton.mpr rfl))
        generalize hF : (⟨nm, r, hs ++ [(h, os)]⟩ : Firm) = f at *
        have hfn : f.name = nm := by rw [← hF]
        have hfr : f.ranks = r := by rw [← hF]
        have hfh : f.holds = hs ++ [(h, os)] := by rw [← hF]
        have hgl : (fs ++ [f]).getLast? = some f := by simp
        have hdn : nmD (fs ++ [f]) = .str nm := by unfold nmD; rw [hgl, ← hfn]
        have hdr : rkD (fs ++ [f]) = r := by unfold rkD; rw [hgl, ← hfr]
        have hdh : hsD (fs ++ [f]) = hs ++ [(h, os)] := by unfold hsD; rw [hgl, ← hfh]
        rw [hdn] at dn
        rw [hdh] at dh hhs
        rw [hdr]
        rw [List.map_append] at lw4
        have hst := (starts_self (lnW (.as_ c)))
        obtain ⟨hx0, hs1⟩ := Starts.head (l := wordsC c) hst
        refine seq_ed (if_et (K := K) (b := true) ((et_and (b := true) (wq (y := "as") (Ex.refl _) rfl rfl (by decide +kernel) (by decide +kernel)) fun _ => et_test (ed_ne (ed_var rfl dh) (ed_tup eda_nil) (hhs.mono (by decide)) (sh_tup (ds := []) (n := 59) fun d hd => by cases hd) (by simp))).cast (by decide +kernel)) (fun _ H5 e5 => ?_) fun z => absurd z (by decide))
        refine seq_ed (drop_ew (K := K) (ew_take ((["as"] : List Str), ("as" : Str)) (by decide +kernel) rfl (fun H1 e1 => eda_cons (ed_tup (eda_cons ed_str eda_nil)) eda_nil) ⟨hx0, List.mem_singleton.mpr rfl⟩) (wd4.mono e5) fun H6 e6 w6 => ?_)
        have dh6 := dp_w e6 (dp_mono e5 dh)
        rw [List.map_append] at dh6
        dsimp only
        refine seq_ed (unp2_ed (K := K) (x := .str h) (y := .tuple (os.map claimD)) (ed_ixT (ed_var rfl dh6) (ed_neg ed_int) (atI_last _ _)) fun hv2 ov H7 e7 d7 d8 => ?_)
        dsimp only
        have e47 := ((Ex.w e5).trans e6).trans (Ex.w e7)
        refine seq_ed (setlast_ew (K := K) (j := 1 + (wordsC c).length) (ds := fs.map firmD) (d0 := firmD f) (d := firmD ⟨nm, r, hs ++ [(h, os ++ [c])]⟩) ?_ (w6.mono e7) rfl ((((lw4.mono e5).w e6)).mono e7) (nols_map nol_firm _) (nol_firm _) hap hqp fun H8 H9 e8 b9 i9 w9 l9 => ?_)
        · have ee : firmD ⟨nm, r, hs ++ [(h, os ++ [c])]⟩ = .tuple [.str nm, .int (r : Int), .tuple (hs.map holdD ++ [.tuple [.str h, .tuple (os.map claimD ++ [claimD c])]])] := by simp only [firmD, List.map_append, List.map_cons, List.map_nil, holdD]
          rw [ee]
          rw [hfh] at hff
          refine ew_tup (ewa_cons (ew_var rfl (dp_w e47 dn)) (ewa_cons (ew_var rfl (.int _)) (ewa_cons (ew_tup (ewa_starT (fun H1 e1 => ed_butlast (ed_var rfl (dp_w e1 (dp_mono e7 dh6)))) (ewa_cons (ew_tup (ewa_cons (ew_var rfl d7) (ewa_cons (ew_tup (ewa_starT (fun H1 e1 => ed_var rfl (dp_w e1 d8)) (ewa_cons (ew_claimN rfl rfl hs1 (by omega) g1 g3) ewa_nil)) ?_) ewa_nil))) ewa_nil)) ?_) ewa_nil)))
          · have := hff.2 (h, os) (List.mem_append_right _ (List.mem_singleton.mpr rfl))
            rw [List.length_append, List.length_map]
            show _ ≤ 16777216
            simp only [List.length_cons, List.length_nil] at *; omega
          · have := hff.1
            rw [List.length_append] at this
            rw [List.length_append, List.length_map]
            show _ ≤ 16777216
            simp only [List.length_cons, List.length_nil] at *; omega
        · dsimp only
          refine set_ed (K := K) (ed_bl (b := false)) fun bv H10 e10 d10 => ?_
          obtain rfl := dp_bool d10
          dsimp only
          rw [hfh] at hff
          have hll : (lnW (.as_ c)).length = 1 + (wordsC c).length := by simp only [lnW, List.length_cons]; omega
          refine fin rfl (by rw [hll]; exact w9.mono e10) fun H11 e11 => ⟨fs ++ [⟨nm, r, hs ++ [(h, os ++ [c])]⟩], false, _, _, _, _, _, _, _, _, rfl, ?_, ?_, ?_, t, ?_, fun g hg => ?_, fun g hg => ?_⟩
          · exact ((b9.w ((e04.trans e47).trans e8) hp0).trans (Ex.w e10)).trans (Ex.w e11)
          · exact ((((ll4.w e47).w e8).exB b9 hlp i9 (nols_map (fun _ => rfl) _)).mono e10).mono e11
          · rw [List.map_append]; exact (l9.mono e10).mono e11
          · rw [List.length_append] at hfl ⊢; simp only [List.length_cons, List.length_nil] at *; omega
          · rcases List.mem_append.mp hg with z | z
            · exact hok g (List.mem_append_left _ z)
            · rw [List.mem_singleton.mp z]
              refine ⟨hfn ▸ hf.1, fun y hy => ?_⟩
              have hf2 := hf.2
              rw [hfh] at hf2
              rcases List.mem_append.mp hy with z | z
              · exact hf2 y (List.mem_append_left _ z)
              · rw [List.mem_singleton.mp z]
                have h3 := hf2 (h, os) (List.mem_append_right _ (List.mem_singleton.mpr rfl))
                refine ⟨h3.1, fun d hd => ?_⟩
                rcases List.mem_append.mp hd with z | z
                · exact h3.2 d z
                · rw [List.mem_singleton.mp z]; exact g2
          · rcases List.mem_append.mp hg with z | z
            · have := hbd g (List.mem_append_left _ z)
              exact ⟨Nat.le_succ_of_le this.1, fun h hh => Nat.le_succ_of_le (this.2 h hh)⟩
            · rw [List.mem_singleton.mp z]
              have h1 := hff.1
              rw [List.length_append] at h1
              refine ⟨by show (_ ++ _ : List (Str × List Claim)).length ≤ _; rw [List.length_append]; simp only [List.length_cons, List.length_nil] at *; omega, fun y hy => ?_⟩
              rcases List.mem_append.mp hy with z | z
              · exact Nat.le_succ_of_le (hff.2 y (List.mem_append_left _ z))
              · rw [List.mem_singleton.mp z]
                have h2 := hff.2 (h, os) (List.mem_append_right _ (List.mem_singleton.mpr rfl))
                show (_ ++ _ : List Claim).length ≤ _
                rw [List.length_append]
                simp only [List.length_cons, List.length_nil] at *; omega
  · rintro σ' H' ⟨fs, b, o4, o5, o6, o7, o8, o9, o10, o11, rfl, e, ll, lw, hg, hfl, hok, hbd⟩
    rw [List.length_map, List.length_map, List.drop_length] at hg
    cases hg
    dsimp only
    refine seq_ed (if_et (K := K) (b := false) (et_B (ed_var rfl (.bl false))) (fun z => absurd z (by decide)) fun _ H3 e3 => nil_ed ?_)
    dsimp only
    exact ret_ed (K := K) (ed_tupleL (edt_var rfl (lw.mono e3)).toD) fun z H7 e7 d7 => k z H7 ((e.trans (Ex.w e3)).trans (Ex.w e7)) d7
end
end Sw
set_option maxHeartbeats 4000000
namespace Sw
open PySem PySem.Spec PyProof.Rows L2 Evl SwT
section
variable {K : PySem.W.Frag} {σ : L2.St} {H H' : Hp} {ta tb te : TE} {d : PyData} {ds : List PyData}
theorem ed_tail (ha : Ed K te σ H (.tuple (d :: ds))) : Ed K (tSl (rSlA K) te (tPart (tC (.int 1))) tNoPart) σ H (.tuple ds) := fun H1 e Q q =>
  ha H1 e _ fun v H2 e2 d2 => by
    obtain ⟨a, us, rfl, s1, a1⟩ := dp_tup d2
    have hl : us.length = ds.length + 1 := by rw [dps_len a1]; rfl
    have hs : HT.sIx us.length 0 (some 1) = 1 := by
      show (if (1 : Int) < 0 then ((1 : Int) + (us.length : Int)).toNat else min (1 : Int).toNat us.length) = _
      rw [if_neg (by decide)]
      show min 1 us.length = 1
      omega
    have hc : cutV us (some 1) none = us.drop 1 := by
      unfold cutV
      rw [hs]
      show (us.drop 1).take (us.length - 1) = _
      exact List.take_of_length_le (by rw [List.length_drop]; exact Nat.le_refl _)
    have h5 := dps_drop 1 a1
    rw [List.drop_one, List.drop_one, List.tail_cons] at h5
    refine ⟨1, rfl, a, us, rfl, s1, fun z => ?_, fun _ p hp => ?_⟩
    · rw [hs] at z; omega
    · refine q _ _ (e2.trans (Ex.new hp)) (.tup (st_of upd_same) ?_)
      rw [hc, List.drop_one]
      exact dps_mono (Ex.new hp) h5
end
/-- a rank of a claim that can be written -/
theorem Wr.r {R r : Nat} {a : Rat} (h : Wr R (.due r a)) : r < R ∧ Wf a := by simpa only [Wr] using h
section
variable {P : Program} {w : World} {K : PySem.W.Frag} {mg : Str → Option Value} {base : Heap}
theorem sc__law_number_text : FnScope ["_law_one"] ["_law_one"] (defScope s__law_number_text) := ⟨rfl, rfl, rfl, by decide +kernel, rfl, by decide +kernel, by decide +kernel⟩
abbrev Cf__law_number_text (P w K mg base) := Cal P w K mg base "_law_number_text" 1 ["_law_one"] (spF K (fun q : Rat => [fr q]) (fun q => Wf q) fun q => .str (frS q))
theorem ok__law_number_text (T : Tx w K mg) : Cf__law_number_text P w K mg base := by
  refine T.cal (d := d__law_number_text) 63 58 rfl rfl rfl rfl rfl sc__law_number_text (fun _ _ _ _ _ _ us hl => match us, hl with | [_], _ => rfl) (spF_len fun _ => rfl) fun f cdv A outer s H vs Q E hr h => ⟨_, (pss_one (ps_ret (pe_op op_add_str (pe_callTy call_str_int (by rfl) T.f_str (by decide +kernel) (pa_cons (pe_ix ix_seq (pv 0) pe_int (fun _ _ => rfl)) pa_nil)) (pe_ifExp (pt_cmpR (op_neD hr.units) (pe_ix ix_seq (pv 0) pe_int (fun _ _ => rfl)) pe_int (nomark _)) (pe_op op_add_str pe_str (pe_callTy call_str_int (by rfl) T.f_str (by decide +kernel) (pa_cons (pe_ix ix_seq (pv 0) pe_int (fun _ _ => rfl)) pa_nil))) pe_str)))), ?_⟩
  obtain ⟨q, hd, hW, k⟩ := h
  obtain ⟨v, rfl, h1⟩ := dps_one hd
  dsimp only at hW k
  have l1 : q.num.natAbs.log2 < 1920 := log_small (by have := hW.n; have := hW.num; omega)
  have l2 : ((q.den : Nat) : Int).natAbs.log2 < 1920 := log_small (by have := hW.d; omega)
  have n1 := numS_len (k := 20) (by decide) hW.n
  have n2 := numS_len (k := 20) (by decide) hW.d
  have en : Str.ofString (toString q.num) = numS q.num.toNat := by show _ = Str.ofString (toString _); rw [hW.num]
  have e1 : ("/" ++ numS q.den : Str).length = (numS q.den).length + 1 := by
    show (_ ++ _ : Str).cps.size = _
    rw [← Array.length_toList, app_l, List.length_append, Array.length_toList, Array.length_toList]
    show 1 + (numS q.den).length = _
    omega
  have et : frS q = numS q.num.toNat ++ (if q.den ≠ 1 then ("/" ++ numS q.den : Str) else "") := by
    refine str_ext ?_
    rw [frS_l, app_l, numS_l]
    by_cases h : q.den = 1
    · rw [if_pos h, if_neg (fun z => z h)]
      show _ = _ ++ []
      rw [List.append_nil]
    · rw [if_neg h, if_pos h, app_l, numS_l]; rfl
  refine ret_ed (K := K) (d := .str (frS q)) ((ed_catS (x := numS q.num.toNat) (y := if q.den ≠ 1 then ("/" ++ numS q.den : Str) else "") ((ed_strI (ed_ixT (ed_var rfl h1) ed_int rfl) l1).cast (by rw [en])) (ed_if (b := decide ((q.den : Int) ≠ 1)) (et_test (ed_nei (ed_ixT (ed_var rfl h1) ed_int rfl) ed_int)) (fun hb => ?_) fun hb => ?_) ?_).cast (by rw [et])) fun z H7 e7 d7 => k z H7 e7 d7
  · have hb : q.den ≠ 1 := by have := of_decide_eq_true hb; omega
    rw [if_pos hb]
    exact ed_catS ed_str (ed_strI (ed_ixT (ed_var rfl h1) ed_int rfl) l2) (by show 1 + (numS q.den).length ≤ 16777216; omega)
  · have hb : q.den = 1 := by have := of_decide_eq_false hb; omega
    rw [if_neg (fun z => z hb)]
    exact ed_str
  · have : (if q.den ≠ 1 then ("/" ++ numS q.den : Str) else "").length ≤ 21 := by
      split
      · rw [e1]; omega
      · decide
    show (numS q.num.toNat).length + _ ≤ 16777216
    omega
theorem sc__law_words : FnScope ["_law_claim_here", "_law_word", "_law_found", "_law_one"] ["_law_claim_here"] (defScope s__law_words) := ⟨rfl, rfl, rfl, by decide +kernel, rfl, by decide +kernel, by decide +kernel⟩
abbrev Cf__law_words (P w K mg base) (n : Nat) := Cal P w K mg base "_law_words" (n + 2) ["_law_claim_here"] (spL K (fun c : Claim => [claimD c]) (fun c => depth c < n ∧ (∃ R, Wr R c ∧ R ≤ 6) ∧ (wordsC c).length ≤ 1000000) fun c => (wordsC c).map PyData.str)
theorem ok__law_words (T : Tx w K mg) (C__law_number_text : Cf__law_number_text P w K mg base) : ∀ n, Cf__law_words P w K mg base n
  | 0 => T.cal (d := d__law_words) 64 59 rfl rfl rfl rfl rfl sc__law_words (fun _ _ _ _ _ _ us hl => match us, hl with | [_], _ => rfl) (spL_len fun _ => rfl) fun f cdv A outer s H vs Q E hr h => absurd h fun ⟨x, _, h, _⟩ => absurd h.1 (Nat.not_lt_zero _)
  | n + 1 => by
    have C__law_words := ok__law_words T C__law_number_text n
    refine T.cal (d := d__law_words) 64 59 rfl rfl rfl rfl rfl sc__law_words (fun _ _ _ _ _ _ us hl => match us, hl with | [_], _ => rfl) (spL_len fun _ => rfl) fun f cdv A outer s H vs Q E hr h => ⟨_, (pss_cons (ps_set (i := 1) sc__law_words.nd rfl (by first | exact Or.inl rfl | exact Or.inr rfl) (pe_ix ix_seq (pv 0) pe_int (fun _ _ => rfl)))
      (pss_cons (ps_if (pt_cmpR (op_eqD hr.units) (pv 1) pe_str (nomark _)) (pss_one (ps_ret (pe_lst (pa_cons (pv 1) (pa_cons (pe_callTy call_str_int (by rfl) T.f_str (by decide +kernel) (pa_cons (pe_ix ix_seq (pv 0) pe_int (fun _ _ => rfl)) pa_nil)) (pa_cons (pe_cc C__law_number_text (hr.mono (by omega)) (by rfl) (pa_cons (pe_ix ix_seq (pv 0) pe_int (fun _ _ => rfl)) pa_nil)) pa_nil)))))) pss_nil)
      (pss_cons (ps_if (pt_cmpR (op_eqD hr.units) (pv 1) pe_str (nomark _)) (pss_one (ps_ret (pe_op op_cat (pe_lst (pa_cons (pv 1) (pa_cons (pe_cc C__law_number_text (hr.mono (by omega)) (by rfl) (pa_cons (pe_ix ix_seq (pv 0) pe_int (fun _ _ => rfl)) pa_nil)) pa_nil))) (pe_cc C__law_words (hr.mono (by omega)) (by rfl) (pa_cons (pe_ix ix_seq (pv 0) pe_int (fun _ _ => rfl)) pa_nil))))) pss_nil)
      (pss_cons (ps_if (pt_cmpR (op_neD hr.units) (pv 1) pe_str (nomark _)) (pss_one (ps_ret (pe_op op_cat (pe_lst (pa_cons (pv 1) pa_nil)) (pe_lc rfl sc__law_words.nd (pi_tup (pe_slice sl_tupA (pv 0) (po_some pe_int) po_none)) (blkOk_by (own := [("_law_one", 3)]) (N := ["_law_claim_here", "_law_word", "_law_found", "_law_one"]) (by kernel_rfl)) (fun _ _ _ _ _ => (pg_name (i := 3) sc__law_words.nd rfl (by first | exact Or.inl rfl | exact Or.inr rfl))) (fun _ _ _ _ _ => pts_nil) (fun _ _ _ _ _ => (pe_cc C__law_number_text (hr.mono (by omega)) (by rfl) (pa_cons (pv 3) pa_nil))))))) pss_nil)
      (pss_cons (ps_set (i := 2) sc__law_words.nd rfl (by first | exact Or.inl rfl | exact Or.inr rfl) (pe_lst (pa_cons (pv 1) (pa_cons (pe_callTy call_str_int (by rfl) T.f_str (by decide +kernel) (pa_cons (pe_callB call_len (by rfl) T.f_len (by decide +kernel) (pa_cons (pe_ix ix_seq (pv 0) pe_int (fun _ _ => rfl)) pa_nil)) pa_nil)) pa_nil))))
      (pss_cons (ps_for PassesOwn.never rfl (pi_tup (pe_ix ix_seq (pv 0) pe_int (fun _ _ => rfl))) (pg_name (i := 3) sc__law_words.nd rfl (by first | exact Or.inl rfl | exact Or.inr rfl)) (pss_one (ps_set (i := 2) sc__law_words.nd rfl (by first | exact Or.inl rfl | exact Or.inr rfl) (pe_op op_cat (pv 2) (pe_cc C__law_words (hr.mono (by omega)) (by rfl) (pa_cons (pv 3) pa_nil))))))
      (pss_one (ps_ret (pv 2))))))))), ?_⟩
    obtain ⟨c, hd, ⟨hn, ⟨R, hw, hR⟩, hl⟩, k⟩ := h
    dsimp only at hd hn hw hR hl k
    obtain ⟨v, rfl, h1⟩ := dps_one hd
    obtain ⟨rest, hwd⟩ := claimD_word c
    refine seq_ed (set_ed (K := K) (d := .str (wordS c)) (ed_ixT (by rw [← hwd]; exact ed_var rfl h1) ed_int (atI_nat (j := 0) rfl)) fun wv H1 e1 d1 => ?_)
    have fin : ∀ {ds : List PyData} {te : TE} {σ : L2.St} {H5 : Hp}, Ex H H5 → ds = (wordsC c).map PyData.str → EdL K te σ H5 ds → tRet te { nx := fun x H' => Q V.non H', rt := Q } σ H5 := fun {ds te σ H5} e hd h => h.run fun p H6 e6 hp l => k p H6 (e.trans e6) (fresh_back e hp) (hd ▸ l)
    dsimp only
    have tailOf : ∀ {xs : List Rat} {H5 : Hp} {σ : L2.St}, Ex H H5 → σ[0]? = some (some v) → claimD c = .tuple (.str (wordS c) :: xs.map fr) → (∀ x ∈ xs, Wf x) → xs.length ≤ 100 → σ.length = 4 →
        EdL K (tLc (iTup K (tSl (rSlA K) (tVar 0) (tPart (tC (.int 1))) tNoPart)) (gName 3) tYes (tCall (spF K (fun q : Rat => [fr q]) (fun q => Wf q) fun q => PyData.str (frS q)) [] E0 (tCons (tVar 3) tNil)) [3]) σ H5 (xs.map fun x => PyData.str (frS x)) := fun {xs H5 σ} e hs hc hx hl h4 => by
      refine lc_m1 fr xs (fun x => PyData.str (frS x)) (edi_tup (ed_tail (d := .str (wordS c)) (by rw [← hc]; exact ed_var hs (dp_mono e h1)))) (by show _ ≤ 16777216; omega) fun x hx' v1 H6 e6 d6 => ?_
      obtain ⟨s0, s1, s2, s3, rfl⟩ : ∃ s0 s1 s2 s3, σ = [s0, s1, s2, s3] := by
        match σ, h4 with
        | [a, b, c, d], _ => exact ⟨a, b, c, d, rfl⟩
      exact tu_name rfl et_yes fun _ => ⟨ed_call x (eda_cons (ed_var rfl d6) eda_nil) (hx x hx'), rfl⟩
    cases c with
    | due r a =>
      replace d1 : Dp K H1 wv (.str "due") := d1
      have hw := hw.r
      simp only [claimD] at h1
      refine seq_ed (take_eqs (K := K) rfl d1 (by decide +kernel) fun H2 e2 => ?_)
      have e12 := e1.trans e2
      refine fin e12 (by simp only [wordsC, List.map_cons, List.map_nil]) (edl_lst (eda_cons (ed_var rfl (dp_mono e2 d1)) (eda_cons (ed_strI (ed_ixT (ed_var rfl (dp_mono e12 h1)) ed_int rfl) (log_small (by omega))) (eda_cons (ed_call a (eda_cons (ed_ixT (ed_var rfl (dp_mono e12 h1)) ed_int rfl) eda_nil) hw.2) eda_nil))))
    | capped c a =>
      replace d1 : Dp K H1 wv (.str "capped") := d1
      simp only [Wr] at hw
      simp only [depth] at hn
      simp only [claimD] at h1
      simp only [wordsC, List.length_cons] at hl
      refine seq_ed (skip_eqs (K := K) rfl d1 (by decide +kernel) fun H2 e2 => ?_)
      dsimp only
      refine seq_ed (take_eqs (K := K) rfl (dp_mono e2 d1) (by decide +kernel) fun H3 e3 => ?_)
      have e13 := (e1.trans e2).trans e3
      refine fin e13 (ds := [PyData.str "capped", .str (frS a)] ++ (wordsC c).map PyData.str) (by simp only [wordsC, List.map_cons]; rfl) (edl_cat (edl_lst (eda_cons (ed_var rfl (dp_mono (e2.trans e3) d1)) (eda_cons (ed_call a (eda_cons (ed_ixT (ed_var rfl (dp_mono e13 h1)) ed_int rfl) eda_nil) hw.2) eda_nil))).toT (edl_call c (eda_cons (ed_ixT (ed_var rfl (dp_mono e13 h1)) ed_int rfl) eda_nil) ⟨by omega, ⟨R, hw.1, hR⟩, by omega⟩).toT (by rw [List.length_map]; show _ ≤ 16777216; simp only [List.length_cons, List.length_nil]; omega))
    | none =>
      replace d1 : Dp K H1 wv (.str "none") := d1
      refine seq_ed (skip_eqs (K := K) rfl d1 (by decide +kernel) fun H2 e2 => ?_)
      dsimp only
      refine seq_ed (skip_eqs (K := K) rfl (dp_mono e2 d1) (by decide +kernel) fun H3 e3 => ?_)
      dsimp only
      refine seq_ed (if_et (K := K) (b := true) ((et_test (ed_nes (ed_var rfl (dp_mono (e2.trans e3) d1)) ed_str (by decide +kernel) (by decide +kernel))).cast (by decide +kernel)) (fun _ H4 e4 => ?_) fun z => absurd z (by decide))
      have e14 := ((e1.trans e2).trans e3).trans e4
      exact fin e14 (ds := [PyData.str "none"] ++ ([] : List Rat).map fun x => PyData.str (frS x)) (by simp only [wordsC]; rfl) (edl_cat (edl_lst (eda_cons (ed_var rfl (dp_mono ((e2.trans e3).trans e4) d1)) eda_nil)).toT (tailOf e14 rfl rfl (fun _ h => by cases h) (by decide) rfl).toT (by decide))
    | shares a =>
      replace d1 : Dp K H1 wv (.str "shares") := d1
      simp only [Wr] at hw
      refine seq_ed (skip_eqs (K := K) rfl d1 (by decide +kernel) fun H2 e2 => ?_)
      dsimp only
      refine seq_ed (skip_eqs (K := K) rfl (dp_mono e2 d1) (by decide +kernel) fun H3 e3 => ?_)
      dsimp only
      refine seq_ed (if_et (K := K) (b := true) ((et_test (ed_nes (ed_var rfl (dp_mono (e2.trans e3) d1)) ed_str (by decide +kernel) (by decide +kernel))).cast (by decide +kernel)) (fun _ H4 e4 => ?_) fun z => absurd z (by decide))
      have e14 := ((e1.trans e2).trans e3).trans e4
      exact fin e14 (ds := [PyData.str "shares"] ++ ([a] : List Rat).map fun x => PyData.str (frS x)) (by simp only [wordsC]; rfl) (edl_cat (edl_lst (eda_cons (ed_var rfl (dp_mono ((e2.trans e3).trans e4) d1)) eda_nil)).toT (tailOf e14 rfl (by simp only [claimD, wordS]; rfl) (fun x h => by rw [List.mem_singleton.mp h]; exact hw) (by simp) rfl).toT (by show _ ≤ 16777216; simp))
    | option a p =>
      replace d1 : Dp K H1 wv (.str "option") := d1
      simp only [Wr] at hw
      refine seq_ed (skip_eqs (K := K) rfl d1 (by decide +kernel) fun H2 e2 => ?_)
      dsimp only
      refine seq_ed (skip_eqs (K := K) rfl (dp_mono e2 d1) (by decide +kernel) fun H3 e3 => ?_)
      dsimp only
      refine seq_ed (if_et (K := K) (b := true) ((et_test (ed_nes (ed_var rfl (dp_mono (e2.trans e3) d1)) ed_str (by decide +kernel) (by decide +kernel))).cast (by decide +kernel)) (fun _ H4 e4 => ?_) fun z => absurd z (by decide))
      have e14 := ((e1.trans e2).trans e3).trans e4
      exact fin e14 (ds := [PyData.str "option"] ++ ([a, p] : List Rat).map fun x => PyData.str (frS x)) (by simp only [wordsC]; rfl) (edl_cat (edl_lst (eda_cons (ed_var rfl (dp_mono ((e2.trans e3).trans e4) d1)) eda_nil)).toT (tailOf e14 rfl (by simp only [claimD, wordS]; rfl) (fun x h => by
        simp only [List.mem_cons, List.not_mem_nil, or_false] at h
        rcases h with rfl | rfl
        · exact hw.1
        · exact hw.2) (by simp) rfl).toT (by show _ ≤ 16777216; simp))
    | sum cs =>
      replace d1 : Dp K H1 wv (.str "sum") := d1
      simp only [Wr] at hw
      simp only [depth] at hn
      simp only [claimD] at h1
      rw [claimsD_eq] at h1
      simp only [wordsC, List.length_cons] at hl
      refine seq_ed (skip_eqs (K := K) rfl d1 (by decide +kernel) fun H2 e2 => ?_)
      dsimp only
      refine seq_ed (skip_eqs (K := K) rfl (dp_mono e2 d1) (by decide +kernel) fun H3 e3 => ?_)
      dsimp only
      refine seq_ed (if_et (K := K) (b := false) ((et_test (ed_nes (ed_var rfl (dp_mono (e2.trans e3) d1)) ed_str (by decide +kernel) (by decide +kernel))).cast (by decide +kernel)) (fun z => absurd z (by decide)) fun _ H4 e4 => nil_ed ?_)
      dsimp only
      have e14 := ((e1.trans e2).trans e3).trans e4
      refine seq_ed (newl_ed (K := K) (ds := [PyData.str "sum", .str (numS cs.length)]) (edl_lst (eda_cons (ed_var rfl (dp_mono ((e2.trans e3).trans e4) d1)) (eda_cons ((ed_strI (i := (cs.length : Int)) ((ed_lenT (ed_ixT (ed_var rfl (dp_mono e14 h1)) ed_int rfl)).cast (by rw [List.length_map])) (log_small (by omega)))) eda_nil))) fun p H5 e5 hp l5 => ?_)
      have e15 := e14.trans e5
      dsimp only
      refine seq_ed (for_dt (K := K) (ds := cs.map claimD) (ed_ixT (ed_var rfl (dp_mono e15 h1)) ed_int rfl) fun x H6 e6 d6 => ⟨fun i σ H' => ∃ (p : Addr) (o : Option V), σ = [some v, some wv, some (.ref p), o] ∧ Ex H H' ∧ Ex H6 H' ∧ H p = none ∧ Lm K H' p (([("sum" : Str), numS cs.length] ++ wordsCs (cs.take i)).map PyData.str), ⟨p, none, rfl, e15.trans e6, Ex.refl _, fresh_back e14 hp, l5.mono e6⟩, fun i σ' H' _ ⟨_, _, _, _, e, _⟩ => dp_mono e d6, ?_, ?_⟩)
      · rintro i dd u σ' H' hi du ⟨p, o, rfl, e, e6', hp0, l⟩
        obtain ⟨c, hc, rfl⟩ := get_mapD hi
        have hcm := List.mem_of_getElem? hc
        have htk := take_snoc hc
        have hwc : wordsCs (cs.take (i + 1)) = wordsCs (cs.take i) ++ wordsC c := by rw [htk, wordsCs_eq, wordsCs_eq, List.flatMap_append]; simp
        have hle : (wordsCs (cs.take (i + 1))).length ≤ (wordsCs cs).length := by
          rw [wordsCs_eq, wordsCs_eq]
          have e := List.take_append_drop (i + 1) cs
          have := congrArg (fun l => (List.flatMap wordsC l).length) e
          simp only [List.flatMap_append, List.length_append] at this
          omega
        rw [hwc, List.length_append] at hle
        refine newl_ed (K := K) (ds := ([("sum" : Str), numS cs.length] ++ wordsCs (cs.take (i + 1))).map PyData.str) ((edl_cat (edt_var rfl l) (edl_call c (eda_cons (ed_var rfl du) eda_nil) ⟨by have := depths_le.mp (Nat.le_refl (depths cs)) c hcm; omega, ⟨R, wrs_iff.mp hw.2.2 c hcm, hR⟩, by omega⟩).toT (by rw [List.length_map, List.length_map, List.length_append]; show _ ≤ 16777216; simp only [List.length_cons, List.length_nil]; omega)).cast (by rw [hwc, ← List.map_append, List.append_assoc])) fun p2 H7 e7 hp2 l7 => ⟨p2, _, rfl, e.trans e7, e6'.trans e7, fresh_back e hp2, l7⟩
      · rintro σ' H' ⟨p, o, rfl, e, e6', hp0, l⟩
        rw [List.length_map, List.take_length] at l
        dsimp only
        exact ⟨_, rfl, k p H' e hp0 (by simp only [wordsC]; exact l)⟩
end
end Sw
namespace Sw
open PySem PySem.Spec PyProof.Rows L2 Evl SwT
def hLines (h : Str × List Claim) : List Ln := .held h.1 :: h.2.map .as_
def fLines (f : Firm) : List Ln := .firm f.name f.ranks :: f.holds.flatMap hLines
def linesOf (W : List Firm) : List Ln := W.flatMap fLines
/-- a claim in a web -/
structure Cw (R : Nat) (c : Claim) : Prop where
  wr : Wr R c
  dp : depth c ≤ 2
  wl : (wordsC c).length ≤ 60
structure WebOk (W : List Firm) : Prop where
  nm : ∀ f ∈ W, Nm f.name
  rk : ∀ f ∈ W, f.ranks ≤ 6
  hn : ∀ f ∈ W, ∀ h ∈ f.holds, Nm h.1
  cl : ∀ f ∈ W, ∀ h ∈ f.holds, ∀ c ∈ h.2, Cw f.ranks c
  ln : (linesOf W).length ≤ 200
theorem lit_len {x : Str} {n : Nat} (h : decide (x.length ≤ n) = true) : x.length ≤ n := of_decide_eq_true h
mutual
theorem word_len {R : Nat} (hR : R ≤ 6) : ∀ {c : Claim}, Wr R c → ∀ x ∈ wordsC c, x.length ≤ 41
  | .none, _, x, h => by
    simp only [wordsC, List.mem_singleton] at h
    rw [h]; exact lit_len (by decide +kernel)
  | .due r a, w, x, h => by
    have w := w.r
    simp only [wordsC, List.mem_cons, List.not_mem_nil, or_false] at h
    rcases h with rfl | rfl | rfl
    · exact lit_len (by decide +kernel)
    · exact Nat.le_trans (numS_len (k := 20) (by decide) (Nat.lt_trans w.1 (by omega))) (by decide)
    · exact frS_len w.2
  | .shares a, w, x, h => by
    simp only [Wr] at w
    simp only [wordsC, List.mem_cons, List.not_mem_nil, or_false] at h
    rcases h with rfl | rfl
    · exact lit_len (by decide +kernel)
    · exact frS_len w
  | .option a p, w, x, h => by
    simp only [Wr] at w
    simp only [wordsC, List.mem_cons, List.not_mem_nil, or_false] at h
    rcases h with rfl | rfl | rfl
    · exact lit_len (by decide +kernel)
    · exact frS_len w.1
    · exact frS_len w.2
  | .capped c a, w, x, h => by
    simp only [Wr] at w
    simp only [wordsC, List.mem_cons] at h
    rcases h with rfl | rfl | h
    · exact lit_len (by decide +kernel)
    · exact frS_len w.2
    · exact word_len hR w.1 x h
  | .sum cs, w, x, h => by
    simp only [Wr] at w
    simp only [wordsC, List.mem_cons] at h
    rcases h with rfl | rfl | h
    · exact lit_len (by decide +kernel)
    · exact Nat.le_trans (numS_len (k := 20) (by decide) (Nat.lt_trans w.2.1 (by decide))) (by decide)
    · exact words_len hR w.2.2 x h
theorem words_len {R : Nat} (hR : R ≤ 6) : ∀ {cs : List Claim}, Wrs R cs → ∀ x ∈ wordsCs cs, x.length ≤ 41
  | [], _, x, h => by simp only [wordsCs] at h; cases h
  | c :: cs, w, x, h => by
    simp only [Wrs] at w
    simp only [wordsCs] at h
    rcases List.mem_append.mp h with z | z
    · exact word_len hR w.1 x z
    · exact words_len hR w.2 x z
end
theorem sum_le {B : Nat} : ∀ {l : List Str}, (∀ x ∈ l, x.length ≤ B) → (l.map (·.length)).sum ≤ l.length * B
  | [], _ => Nat.zero_le _
  | x :: l, h => by
    have h1 := h x List.mem_cons_self
    have h2 := sum_le fun y hy => h y (List.mem_cons_of_mem _ hy)
    rw [List.map_cons, List.sum_cons, List.length_cons, Nat.add_mul]
    omega
theorem join_len {sep : Str} {l : List Str} {B : Nat} (h : ∀ x ∈ l, x.length ≤ B) (hs : sep.length = 1) : (Txt.join sep l).length ≤ l.length * B + l.length := by
  rw [TL.join_eq]
  have h1 := StrLaws.join_length_le sep l
  have h2 := sum_le h
  rw [hs] at h1
  omega
theorem cat_len (x y : Str) : (x ++ y).length = x.length + y.length := by
  show (_ ++ _ : Str).cps.size = _
  rw [← Array.length_toList, app_l, List.length_append, Array.length_toList, Array.length_toList]; rfl
theorem firm_text (n : Str) (r : Nat) : (("firm " ++ n : Str) ++ " " : Str) ++ numS r = lnT (.firm n r) := by
  refine str_ext ?_
  show _ = (Txt.join " " [("firm" : Str), n, numS r]).cps.toList
  rw [TL.join_eq]
  show _ = (("firm" ++ " " : Str) ++ ((n ++ " " : Str) ++ numS r) : Str).cps.toList
  simp only [app_l, List.append_assoc]
  rfl
theorem held_text (n : Str) : ("held " ++ n : Str) = lnT (.held n) := by
  refine str_ext ?_
  show _ = (Txt.join " " [("held" : Str), n]).cps.toList
  rw [TL.join_eq]
  show _ = (("held" ++ " " : Str) ++ n : Str).cps.toList
  simp only [app_l, List.append_assoc]
  rfl
theorem as_text (c : Claim) : ("as " ++ Txt.join " " (wordsC c) : Str) = lnT (.as_ c) := by
  obtain ⟨r, e⟩ := wordsC_head c
  refine str_ext ?_
  show _ = (Txt.join " " (("as" : Str) :: wordsC c)).cps.toList
  rw [TL.join_eq, TL.join_eq, e]
  show _ = (("as" ++ " " : Str) ++ Str.join " " (wordS c :: r) : Str).cps.toList
  simp only [app_l, List.append_assoc]
  rfl
theorem Cw.tlen {R : Nat} (hR : R ≤ 6) {c : Claim} (h : Cw R c) : (Txt.join " " (wordsC c)).length ≤ 2520 := by
  have := join_len (sep := " ") (word_len hR h.wr) rfl
  have := h.wl
  omega
section
variable {K : PySem.W.Frag} {σ : L2.St} {H H' : Hp} {te : TE}
theorem ed_join {sep : Str} {ys : List Str} (he : Ed K te σ H (.list (ys.map PyData.str))) (hl : (ys.map (·.length)).sum + ys.length * sep.length ≤ 16777216) :
    Ed K (tM1 (fun x xs H Q => ∃ a p, ∃ ys : List Str, x = .str a ∧ xs = [.ref p] ∧ (SqL K H p (ys.map V.str) ∨ SqT K H p (ys.map V.str)) ∧ (ys.map (·.length)).sum + ys.length * a.length ≤ 16777216 ∧ Q (.str (Txt.join a ys)) H) (tC (.str sep)) te) σ H (.str (Txt.join sep ys)) := fun H1 e Q q =>
  ⟨⟨sep, rfl⟩, he H1 e _ fun v H2 e2 d2 => by
    obtain ⟨p, vs, rfl, s1, a1⟩ := dp_lst d2
    obtain rfl := dps_strs a1
    exact ⟨sep, p, ys, rfl, rfl, .inl s1, hl, q _ H2 e2 (.str _)⟩⟩
end
section
variable {P : Program} {w : World} {K : PySem.W.Frag} {mg : Str → Option Value} {base : Heap}
theorem sc__law_web_text : FnScope ["_law_web_here", "_law_lines", "_law_name", "_law_ranks", "_law_holdings", "_law_holder", "_law_options_here", "_law_one"] ["_law_web_here"] (defScope s__law_web_text) := ⟨rfl, rfl, rfl, by decide +kernel, rfl, by decide +kernel, by decide +kernel⟩
abbrev Cf__law_web_text (P w K mg base) := Cal P w K mg base "_law_web_text" 6 ["_law_web_here"] (spF K (fun W : List Firm => [.tuple (W.map firmD)]) (fun W => WebOk W) fun W => .str (webT (linesOf W)))
theorem ok__law_web_text (T : Tx w K mg) (C__law_words : Cf__law_words P w K mg base 3) : Cf__law_web_text P w K mg base := by
  refine T.cal (d := d__law_web_text) 65 60 rfl rfl rfl rfl rfl sc__law_web_text (fun _ _ _ _ _ _ us hl => match us, hl with | [_], _ => rfl) (spF_len fun _ => rfl) fun f cdv A outer s H vs Q E hr h => ⟨_, (pss_cons (ps_set (i := 1) sc__law_web_text.nd rfl (by first | exact Or.inl rfl | exact Or.inr rfl) (pe_lst pa_nil))
      (pss_cons (ps_for PassesOwn.never rfl (pi_tup (pv 0)) (pg_tup rfl (pgs_cons (pg_name (i := 2) sc__law_web_text.nd rfl (by first | exact Or.inl rfl | exact Or.inr rfl)) (pgs_cons (pg_name (i := 3) sc__law_web_text.nd rfl (by first | exact Or.inl rfl | exact Or.inr rfl)) (pgs_cons (pg_name (i := 4) sc__law_web_text.nd rfl (by first | exact Or.inl rfl | exact Or.inr rfl)) pgs_nil)))) (pss_cons (ps_expr (pe_bm PySem.F.plainAttrs_list PySem.F.slot_list_append PySem.F.type_list_append mt_append (pv 1) (pa_cons (pe_op op_add_str (pe_op op_add_str (pe_op op_add_str pe_str (pv 2)) pe_str) (pe_callTy call_str_int (by rfl) T.f_str (by decide +kernel) (pa_cons (pv 3) pa_nil))) pa_nil)))
      (pss_one (ps_for PassesOwn.never rfl (pi_tup (pv 4)) (pg_tup rfl (pgs_cons (pg_name (i := 5) sc__law_web_text.nd rfl (by first | exact Or.inl rfl | exact Or.inr rfl)) (pgs_cons (pg_name (i := 6) sc__law_web_text.nd rfl (by first | exact Or.inl rfl | exact Or.inr rfl)) pgs_nil))) (pss_cons (ps_expr (pe_bm PySem.F.plainAttrs_list PySem.F.slot_list_append PySem.F.type_list_append mt_append (pv 1) (pa_cons (pe_op op_add_str pe_str (pv 5)) pa_nil)))
      (pss_one (ps_expr (pe_bm PySem.F.plainAttrs_list PySem.F.slot_list_extend PySem.F.type_list_extend mt_extend (pv 1) (pa_cons (pe_lc rfl sc__law_web_text.nd (pi_tup (pv 6)) (blkOk_by (own := [("_law_one", 7)]) (N := ["_law_web_here", "_law_lines", "_law_name", "_law_ranks", "_law_holdings", "_law_holder", "_law_options_here", "_law_one"]) (by kernel_rfl)) (fun _ _ _ _ _ => (pg_name (i := 7) sc__law_web_text.nd rfl (by first | exact Or.inl rfl | exact Or.inr rfl))) (fun _ _ _ _ _ => pts_nil) (fun _ _ _ _ _ => (pe_op op_add_str pe_str (pe_joinK (K := K) rfl pe_str (pe_cc C__law_words (hr.mono (by decide)) (by rfl) (pa_cons (pv 7) pa_nil)))))) pa_nil)))))))))
      (pss_one (ps_ret (pe_join pe_str (pv 1)))))), ?_⟩
  obtain ⟨W, hd, hW, k⟩ := h
  dsimp only at hd hW k
  obtain ⟨v, rfl, h1⟩ := dps_one hd
  have hlen0 := hW.ln
  have hsub : ∀ i, (linesOf (W.take i)).length ≤ 200 := fun i => by
    have e := congrArg (fun l => (linesOf l).length) (List.take_append_drop i W)
    unfold linesOf at *
    simp only [List.flatMap_append, List.length_append] at e
    omega
  refine seq_ed (newl_ed (K := K) (ds := []) (edl_lst eda_nil) fun p H1 e1 hp l1 => ?_)
  dsimp only
  refine seq_ed (for_dt (K := K) (ds := W.map firmD) (ed_var rfl (dp_mono e1 h1)) fun x H2 e2 d2 => ⟨fun i σ H' => ∃ (o2 o3 o4 o5 o6 o7 : Option V), σ = [some v, some (.ref p), o2, o3, o4, o5, o6, o7] ∧ Ex H H' ∧ Im H2 H' ∧ Lm K H' p (((linesOf (W.take i)).map lnT).map PyData.str), ⟨_, _, _, _, _, _, rfl, e1.trans e2, Im.refl _, l1.mono e2⟩, ?_, ?_, ?_⟩)
  · rintro i σ' H' hi ⟨o2, o3, o4, o5, o6, o7, rfl, e, im, l⟩
    exact dp_im im (by simp only [nol]; exact nols_map nol_firm _) d2
  · rintro i dd u σ' H' hi du ⟨o2, o3, o4, o5, o6, o7, rfl, e, im, l⟩
    obtain ⟨f, hf, rfl⟩ := get_mapD hi
    have hfm := List.mem_of_getElem? hf
    have hnm := hW.nm f hfm
    have hrk := hW.rk f hfm
    have hlt : linesOf (W.take (i + 1)) = linesOf (W.take i) ++ fLines f := by unfold linesOf; rw [take_snoc hf, List.flatMap_append]; simp
    have hbig := hsub (i + 1)
    rw [hlt, List.length_append] at hbig
    have hfl : (fLines f).length = 1 + (f.holds.flatMap hLines).length := by unfold fLines; rw [List.length_cons]; omega
    obtain ⟨a, us, rfl, s1, a1⟩ := dp_tup du
    obtain ⟨n1, r1, hv, rfl, dn, dr, dh⟩ := dps_three a1
    obtain rfl := dp_int dr
    refine tg_three s1 _ ?_
    dsimp only
    have hn := hnm.l1
    have hnr := numS_len (n := f.ranks) (k := 20) (by decide) (by omega)
    refine seq_ed (app_ed (K := K) rfl l (nols_map (fun _ => rfl) _) ((ed_catS (ed_catS (ed_catS ed_str (ed_var rfl dn) ?_) ed_str ?_) (ed_strI (ed_var rfl (.int _)) (log_small (by omega))) ?_).cast (congrArg PyData.str (firm_text f.name f.ranks))) rfl (by rw [List.length_map, List.length_map]; have := hsub i; show _ < 16777216; omega) fun H3 b3 i3 l3 => ?_)
    · show 5 + f.name.length ≤ 16777216; omega
    · rw [cat_len]; show 5 + f.name.length + 1 ≤ 16777216; omega
    · rw [cat_len, cat_len]; show 5 + f.name.length + 1 + (numS f.ranks).length ≤ 16777216; omega
    · have e3 := b3.ex hp e
      have dh3 := dp_im i3 (by simp only [nol]; exact nols_map nol_hold _) dh
      dsimp only
      refine for_dt (K := K) (ds := f.holds.map holdD) (ed_var rfl dh3) fun x4 H4 e4 d4 => ⟨fun j σ H' => ∃ (o5 o6 o7 : Option V), σ = [some v, some (.ref p), some n1, some (.int (f.ranks : Int)), some hv, o5, o6, o7] ∧ Ex H H' ∧ Im H2 H' ∧ Im H4 H' ∧ Lm K H' p (((linesOf (W.take i) ++ .firm f.name f.ranks :: (f.holds.take j).flatMap hLines).map lnT).map PyData.str),
        ⟨_, _, _, rfl, e3.trans e4, (im.trans i3).trans (im_ex e4), Im.refl _, by rw [List.map_append, List.map_append]; exact l3.mono e4⟩, ?_, ?_, ?_⟩
      · rintro j σ' H' hj ⟨o5, o6, o7, rfl, e, im, im4, l⟩
        exact dp_im im4 (by simp only [nol]; exact nols_map nol_hold _) d4
      · rintro j dd u σ' H' hj du ⟨o5, o6, o7, rfl, e, im, im4, l⟩
        obtain ⟨h, hh, rfl⟩ := get_mapD hj
        have hhm := List.mem_of_getElem? hh
        have hhn := hW.hn f hfm h hhm
        have hcl := hW.cl f hfm h hhm
        have hht : (f.holds.take (j + 1)).flatMap hLines = (f.holds.take j).flatMap hLines ++ hLines h := by rw [take_snoc hh, List.flatMap_append]; simp
        have hb2 : ((f.holds.take (j + 1)).flatMap hLines).length ≤ (f.holds.flatMap hLines).length := by
          have e := congrArg (fun l => (List.flatMap hLines l).length) (List.take_append_drop (j + 1) f.holds)
          simp only [List.flatMap_append, List.length_append] at e
          omega
        have hhl : (hLines h).length = 1 + h.2.length := by unfold hLines; rw [List.length_cons, List.length_map]; omega
        rw [hht, List.length_append] at hb2
        obtain ⟨a, us, rfl, s1, a1⟩ := dp_tup du
        obtain ⟨hn1, ov, rfl, dn1, dov⟩ := dps_two a1
        refine tg_two s1 _ ?_
        dsimp only
        have hhl1 := hhn.l1
        refine seq_ed (app_ed (K := K) rfl l (nols_map (fun _ => rfl) _) ((ed_catS ed_str (ed_var rfl dn1) (by show 5 + h.1.length ≤ 16777216; omega)).cast (congrArg PyData.str (held_text h.1))) rfl (by rw [List.length_map, List.length_map, List.length_append, List.length_cons]; show _ < 16777216; omega) fun H5 b5 i5 l5 => ?_)
        have e5 := b5.ex hp e
        have dov5 := dp_im i5 (by simp only [nol]; exact nols_claims _) dov
        dsimp only
        refine ext_ed (K := K) (es := (h.2.map fun c => lnT (.as_ c)).map PyData.str) rfl l5 (nols_app (nols_map (fun _ => rfl) _) rfl) ((lc_m1 claimD h.2 (fun c => PyData.str (lnT (.as_ c))) (edi_tup (ed_var rfl dov5)) (by show _ ≤ 16777216; omega) fun c hc v6 H6 e6 d6 => ?_).cast (by rw [List.map_map]; rfl)).toT (nols_map (fun _ => rfl) _) (by
          simp only [List.length_map, List.length_append, List.length_cons, List.length_nil]
          show _ ≤ 16777216
          omega) fun H6 b6 i6 l6 => ⟨_, _, _, rfl, b6.ex hp e5, (im.trans i5).trans i6, (im4.trans i5).trans i6, ?_⟩
        · have hc2 := hcl c hc
          have hs := sum_le (word_len hrk hc2.wr)
          have hw := hc2.wl
          refine tu_name rfl et_yes fun _ => ⟨(ed_catS ed_str (ed_join (edl_call c (eda_cons (ed_var rfl d6) eda_nil) ⟨by show depth c < 3; have := hc2.dp; omega, ⟨f.ranks, hc2.wr, hrk⟩, by omega⟩).toD (by show _ + _ * 1 ≤ _; omega)) (by have := hc2.tlen hrk; show 3 + _ ≤ 16777216; omega)).cast (congrArg PyData.str (as_text c)), rfl⟩
        · have e6 : (linesOf (W.take i) ++ .firm f.name f.ranks :: (f.holds.take (j + 1)).flatMap hLines).map lnT = (linesOf (W.take i) ++ .firm f.name f.ranks :: (f.holds.take j).flatMap hLines).map lnT ++ [lnT (.held h.1)] ++ h.2.map fun c => lnT (.as_ c) := by
            rw [hht]
            simp only [hLines, List.map_append, List.map_cons, List.map_map, List.append_assoc, List.cons_append, List.nil_append]
            rfl
          rw [e6, List.map_append, List.map_append]
          exact l6
      · rintro σ' H' ⟨o5, o6, o7, rfl, e, im, im4, l⟩
        rw [List.length_map, List.take_length] at l
        exact ⟨_, _, _, _, _, _, rfl, e, im, by rw [hlt]; exact l⟩
  · rintro σ' H' ⟨o2, o3, o4, o5, o6, o7, rfl, e, im, l⟩
    rw [List.length_map, List.take_length] at l
    have hlt : ∀ y ∈ (linesOf W).map lnT, y.length ≤ 4000 := fun y hy => by
      obtain ⟨x, hx, rfl⟩ := List.mem_map.mp hy
      obtain ⟨f, hf, hx⟩ := List.mem_flatMap.mp hx
      have hnr := numS_len (n := f.ranks) (k := 20) (by decide) (by have := hW.rk f hf; omega)
      rcases List.mem_cons.mp hx with rfl | hx
      · rw [← firm_text, cat_len, cat_len, cat_len]
        have := (hW.nm f hf).l1
        show 5 + f.name.length + 1 + _ ≤ 4000
        omega
      · obtain ⟨h, hh, hx⟩ := List.mem_flatMap.mp hx
        rcases List.mem_cons.mp hx with rfl | hx
        · rw [← held_text, cat_len]
          have := (hW.hn f hf h hh).l1
          show 5 + h.1.length ≤ 4000
          omega
        · obtain ⟨c, hc, rfl⟩ := List.mem_map.mp hx
          rw [← as_text, cat_len]
          have := (hW.cl f hf h hh c hc).tlen (hW.rk f hf)
          show 3 + _ ≤ 4000
          omega
    have hs := sum_le hlt
    rw [List.length_map] at hs
    dsimp only
    exact ret_ed (K := K) (ed_join (edt_var rfl l).toD (by rw [List.length_map]; show _ + _ * 1 ≤ _; omega)) fun z H7 e7 d7 => k z H7 (e.trans e7) d7
end
end Sw
namespace Sw
open PySem PySem.Spec PyProof.Rows L2 Evl SwT
theorem below_iff {p q : Rat} : p.num * q.den < q.num * p.den ↔ p < q := (Rat.lt_iff p q).symm
def lesR (p q : Rat) : Rat := if p < q then p else q
def greR (p q : Rat) : Rat := if p < q then q else p
section
variable {P : Program} {w : World} {K : PySem.W.Frag} {mg : Str → Option Value} {base : Heap}
theorem sc__law_common : FnScope ["_law_one", "_law_other"] ["_law_one", "_law_other"] (defScope s__law_common) := ⟨rfl, rfl, rfl, by decide +kernel, rfl, by decide +kernel, by decide +kernel⟩
abbrev Cf__law_common (P w K mg base) := Cal P w K mg base "_law_common" 1 ["_law_one", "_law_other"] (spF K (fun x : Int × Int => [.int x.1, .int x.2]) (fun _ => True) fun x => .int (Nat.gcd x.1.natAbs x.2.natAbs))
theorem ok__law_common (T : Tx w K mg) : Cf__law_common P w K mg base := by
  refine T.cal (d := d__law_common) 54 49 rfl rfl rfl rfl rfl sc__law_common (fun _ _ _ _ _ _ us hl => match us, hl with | [_, _], _ => rfl) (spF_len fun _ => rfl) fun f cdv A outer s H vs Q E hr h => ⟨_, (pss_cons (ps_par (i := 0) (j := 1) rfl sc__law_common.nd rfl rfl (by decide) rfl rfl (pa_cons (pe_callB call_abs (by rfl) T.f_abs (by decide +kernel) (pa_cons (pv 0) pa_nil)) (pa_cons (pe_callB call_abs (by rfl) T.f_abs (by decide +kernel) (pa_cons (pv 1) pa_nil)) pa_nil)) (by rfl))
      (pss_cons (ps_while PassesOwn.never (pt_cmpR op_gt (pv 1) pe_int (nomark _)) (pss_one (ps_par (i := 0) (j := 1) rfl sc__law_common.nd rfl rfl (by decide) rfl rfl (pa_cons (pv 1) (pa_cons (pe_op op_mod (pe_callTy call_int1 (by rfl) T.f_int (by decide +kernel) (pa_cons (pv 0) pa_nil)) (pv 1)) pa_nil)) (by rfl))))
      (pss_one (ps_ret (pv 0))))), ?_⟩
  obtain ⟨⟨a, b⟩, hd, _, k⟩ := h
  obtain ⟨v, u, rfl, h1, h2⟩ := dps_two hd
  obtain rfl := dp_int h1
  obtain rfl := dp_int h2
  dsimp only at k
  refine seq_ed (par_ed (K := K) (eda_cons (ed_abs (ed_var rfl (.int _))) (eda_cons (ed_abs (ed_var rfl (.int _))) eda_nil)) fun v u H1 e1 d1 d2 => ?_)
  obtain rfl := dp_int d1
  obtain rfl := dp_int d2
  dsimp only
  refine seq_ed (while_et (K := K) (fun y σ H' => ∃ x : Nat, σ = [some (.int x), some (.int y)] ∧ Nat.gcd x y = Nat.gcd a.natAbs b.natAbs ∧ Ex H H') ⟨b.natAbs, a.natAbs, rfl, rfl, e1⟩ ?_)
  rintro y σ H' ⟨x, rfl, hg, e⟩
  refine ⟨_, et_test (K := K) (ed_gt (ed_var rfl (.int _)) ed_int), fun hb H2 e2 => ?_, fun hb H2 e2 => ?_⟩
  · have hy : 0 < y := by have := of_decide_eq_true hb; omega
    refine par_ed (K := K) (eda_cons (ed_var rfl (.int _)) (eda_cons (ed_mod (ed_toint (ed_var rfl (.int _))) (ed_var rfl (.int _)) (by omega)) eda_nil)) fun v u H3 e3 d1 d2 => ?_
    obtain rfl := dp_int d1
    obtain rfl := dp_int d2
    refine ⟨x % y, Nat.mod_lt _ hy, y, by rw [Int.natCast_emod]; rfl, ?_, (e.trans e2).trans e3⟩
    rw [← hg, Nat.gcd_comm x y, Nat.gcd_rec y x, Nat.gcd_comm]
  · have hy : y = 0 := by have := of_decide_eq_false hb; omega
    subst hy
    rw [Nat.gcd_zero_right] at hg
    dsimp only
    exact ret_ed (K := K) (ed_var rfl (.int _)) fun v H3 e3 d => k v H3 ((e.trans e2).trans e3) (by rw [← hg]; exact d)
theorem sc__law_reduced : FnScope ["_law_n", "_law_d", "_law_shared"] ["_law_n", "_law_d"] (defScope s__law_reduced) := ⟨rfl, rfl, rfl, by decide +kernel, rfl, by decide +kernel, by decide +kernel⟩
abbrev Cf__law_reduced (P w K mg base) := Cal P w K mg base "_law_reduced" 2 ["_law_n", "_law_d"] (spF K (fun x : Int × Nat => [.int x.1, .int x.2]) (fun x => 0 < x.2 ∧ x.2 < 2 ^ 9000) fun x => fr (mkRat x.1 x.2))
theorem ok__law_reduced (T : Tx w K mg) (C__law_common : Cf__law_common P w K mg base) : Cf__law_reduced P w K mg base := by
  refine T.cal (d := d__law_reduced) 55 50 rfl rfl rfl rfl rfl sc__law_reduced (fun _ _ _ _ _ _ us hl => match us, hl with | [_, _], _ => rfl) (spF_len fun _ => rfl) fun f cdv A outer s H vs Q E hr h => ⟨_, (pss_cons (ps_set (i := 2) sc__law_reduced.nd rfl (by first | exact Or.inl rfl | exact Or.inr rfl) (pe_callB (call_max2 rfl) (by rfl) T.f_max (by decide +kernel) (pa_cons pe_int (pa_cons (pe_cc C__law_common (hr.mono (by decide)) (by rfl) (pa_cons (pv 0) (pa_cons (pv 1) pa_nil))) pa_nil))))
      (pss_cons (ps_if (pt_cmpR op_lt (pv 1) pe_int (nomark _)) (pss_one (ps_ret (pe_tup (pa_cons (pe_op op_fdivW (pe_un un_neg (pv 0)) (pv 2)) (pa_cons (pe_op op_fdivW (pe_un un_neg (pv 1)) (pv 2)) pa_nil))))) pss_nil)
      (pss_one (ps_ret (pe_tup (pa_cons (pe_op op_fdivW (pv 0) (pv 2)) (pa_cons (pe_op op_fdivW (pv 1) (pv 2)) pa_nil))))))), ?_⟩
  obtain ⟨⟨n, d⟩, hd, ⟨hp, hs⟩, k⟩ := h
  obtain ⟨v, u, rfl, h1, h2⟩ := dps_two hd
  obtain rfl := dp_int h1
  obtain rfl := dp_int h2
  have hg : 0 < Nat.gcd n.natAbs d := Nat.gcd_pos_of_pos_right _ hp
  have hl : Nat.gcd n.natAbs d < 2 ^ 9000 := Nat.lt_of_le_of_lt (Nat.gcd_le_right _ hp) hs
  have hmx : max (1 : Int) ((Nat.gcd n.natAbs ((d : Nat) : Int).natAbs : Nat) : Int) = ((Nat.gcd n.natAbs d : Nat) : Int) := by
    clear hs hl
    rw [Int.natAbs_natCast]; omega
  refine seq_ed (set_ed (K := K) (d := .int ((Nat.gcd n.natAbs d : Nat) : Int)) ((ed_max2 ed_int (ed_call (n, (d : Int)) (eda_cons (ed_var rfl (.int _)) (eda_cons (ed_var rfl (.int _)) eda_nil)) trivial)).cast (congrArg PyData.int hmx)) fun g H1 e1 dg => ?_)
  obtain rfl := dp_int dg
  dsimp only
  refine seq_ed (if_et (K := K) (b := false) ((et_test (ed_lt (ed_var rfl (.int _)) ed_int)).cast (decide_eq_false (by omega))) (fun z => absurd z (by decide)) fun _ H2 e2 => nil_ed ?_)
  dsimp only
  have hc : ∀ i, CDivW i ((Nat.gcd n.natAbs d : Nat) : Int) := fun i => wide_div (b := 9000) (by omega) (by rw [Int.natAbs_natCast]; exact hl) (by decide) (by decide)
  refine ret_ed (K := K) (ed_tup (eda_cons (ed_div (ed_var rfl (.int _)) (ed_var rfl (.int _)) (hc _)) (eda_cons (ed_div (ed_var rfl (.int _)) (ed_var rfl (.int _)) (hc _)) eda_nil))) fun v H3 e3 dv => ?_
  exact k v H3 ((e1.trans e2).trans e3) (by show Dp K H3 v (fr (mkRat n d)); rw [fr_mk hp]; exact dv)
theorem sc__law_is_below : FnScope ["_law_one", "_law_other"] ["_law_one", "_law_other"] (defScope s__law_is_below) := ⟨rfl, rfl, rfl, by decide +kernel, rfl, by decide +kernel, by decide +kernel⟩
abbrev Cf__law_is_below (P w K mg base) := Cal P w K mg base "_law_is_below" 1 ["_law_one", "_law_other"] (sp2 K fun p q => .bool (decide (p < q)))
theorem ok__law_is_below (T : Tx w K mg) : Cf__law_is_below P w K mg base := by
  refine T.cal (d := d__law_is_below) 67 62 rfl rfl rfl rfl rfl sc__law_is_below (fun _ _ _ _ _ _ us hl => match us, hl with | [_, _], _ => rfl) (spF_len fun _ => rfl) fun f cdv A outer s H vs Q E hr h => ⟨_, (pss_one (ps_ret (pe_cmpR op_lt (pe_op op_mulW (pe_ix ix_seq (pv 0) pe_int (fun _ _ => rfl)) (pe_ix ix_seq (pv 1) pe_int (fun _ _ => rfl))) (pe_op op_mulW (pe_ix ix_seq (pv 1) pe_int (fun _ _ => rfl)) (pe_ix ix_seq (pv 0) pe_int (fun _ _ => rfl))) (nomark _)))), ?_⟩
  obtain ⟨⟨p, q⟩, hd, ⟨hp, hq⟩, k⟩ := h
  obtain ⟨v, u, rfl, h1, h2⟩ := dps_two hd
  exact ret_ed (K := K) (d := .bool (decide (p < q))) ((ed_lt (ed_mul (ed_ixT (ed_var rfl h1) ed_int rfl) (ed_ixT (ed_var rfl h2) ed_int rfl) (cmul hp.1 (fden hq))) (ed_mul (ed_ixT (ed_var rfl h2) ed_int rfl) (ed_ixT (ed_var rfl h1) ed_int rfl) (cmul hq.1 (fden hp)))).cast (congrArg PyData.bool (decide_eq_decide.mpr below_iff))) fun z H7 e7 d7 => k z H7 e7 d7
theorem sc__law_lesser : FnScope ["_law_one", "_law_other"] ["_law_one", "_law_other"] (defScope s__law_lesser) := ⟨rfl, rfl, rfl, by decide +kernel, rfl, by decide +kernel, by decide +kernel⟩
abbrev Cf__law_lesser (P w K mg base) := Cal P w K mg base "_law_lesser" 2 ["_law_one", "_law_other"] (sp2 K fun p q => fr (lesR p q))
theorem ok__law_lesser (T : Tx w K mg) (C__law_is_below : Cf__law_is_below P w K mg base) : Cf__law_lesser P w K mg base := by
  refine T.cal (d := d__law_lesser) 73 68 rfl rfl rfl rfl rfl sc__law_lesser (fun _ _ _ _ _ _ us hl => match us, hl with | [_, _], _ => rfl) (spF_len fun _ => rfl) fun f cdv A outer s H vs Q E hr h => ⟨_, (pss_one (ps_ret (pe_ifExp (pt_val (pe_cc C__law_is_below (hr.mono (by decide)) (by rfl) (pa_cons (pv 0) (pa_cons (pv 1) pa_nil)))) (pv 0) (pv 1)))), ?_⟩
  obtain ⟨⟨p, q⟩, hd, hpq, k⟩ := h
  obtain ⟨v, u, rfl, h1, h2⟩ := dps_two hd
  refine ret_ed (K := K) (d := fr (lesR p q)) (ed_if (et_B (ed_call (p, q) (eda_cons (ed_var rfl h1) (eda_cons (ed_var rfl h2) eda_nil)) hpq)) (fun hb => ?_) fun hb => ?_) fun z H7 e7 d7 => k z H7 e7 d7
  · unfold lesR; rw [if_pos (of_decide_eq_true hb)]; exact ed_var rfl h1
  · unfold lesR; rw [if_neg (of_decide_eq_false hb)]; exact ed_var rfl h2
theorem sc__law_greater : FnScope ["_law_one", "_law_other"] ["_law_one", "_law_other"] (defScope s__law_greater) := ⟨rfl, rfl, rfl, by decide +kernel, rfl, by decide +kernel, by decide +kernel⟩
abbrev Cf__law_greater (P w K mg base) := Cal P w K mg base "_law_greater" 2 ["_law_one", "_law_other"] (sp2 K fun p q => fr (greR p q))
theorem ok__law_greater (T : Tx w K mg) (C__law_is_below : Cf__law_is_below P w K mg base) : Cf__law_greater P w K mg base := by
  refine T.cal (d := d__law_greater) 74 69 rfl rfl rfl rfl rfl sc__law_greater (fun _ _ _ _ _ _ us hl => match us, hl with | [_, _], _ => rfl) (spF_len fun _ => rfl) fun f cdv A outer s H vs Q E hr h => ⟨_, (pss_one (ps_ret (pe_ifExp (pt_val (pe_cc C__law_is_below (hr.mono (by decide)) (by rfl) (pa_cons (pv 0) (pa_cons (pv 1) pa_nil)))) (pv 1) (pv 0)))), ?_⟩
  obtain ⟨⟨p, q⟩, hd, hpq, k⟩ := h
  obtain ⟨v, u, rfl, h1, h2⟩ := dps_two hd
  refine ret_ed (K := K) (d := fr (greR p q)) (ed_if (et_B (ed_call (p, q) (eda_cons (ed_var rfl h1) (eda_cons (ed_var rfl h2) eda_nil)) hpq)) (fun hb => ?_) fun hb => ?_) fun z H7 e7 d7 => k z H7 e7 d7
  · unfold greR; rw [if_pos (of_decide_eq_true hb)]; exact ed_var rfl h2
  · unfold greR; rw [if_neg (of_decide_eq_false hb)]; exact ed_var rfl h1
theorem sc__law_multiplied : FnScope ["_law_one", "_law_other"] ["_law_one", "_law_other"] (defScope s__law_multiplied) := ⟨rfl, rfl, rfl, by decide +kernel, rfl, by decide +kernel, by decide +kernel⟩
abbrev Cf__law_multiplied (P w K mg base) := Cal P w K mg base "_law_multiplied" 3 ["_law_one", "_law_other"] (sp2 K fun p q => fr (p * q))
theorem ok__law_multiplied (T : Tx w K mg) (C__law_reduced : Cf__law_reduced P w K mg base) : Cf__law_multiplied P w K mg base := by
  refine T.cal (d := d__law_multiplied) 70 65 rfl rfl rfl rfl rfl sc__law_multiplied (fun _ _ _ _ _ _ us hl => match us, hl with | [_, _], _ => rfl) (spF_len fun _ => rfl) fun f cdv A outer s H vs Q E hr h => ⟨_, (pss_one (ps_ret (pe_cc C__law_reduced (hr.mono (by decide)) (by rfl) (pa_cons (pe_op op_mulW (pe_ix ix_seq (pv 0) pe_int (fun _ _ => rfl)) (pe_ix ix_seq (pv 1) pe_int (fun _ _ => rfl))) (pa_cons (pe_op op_mulW (pe_ix ix_seq (pv 0) pe_int (fun _ _ => rfl)) (pe_ix ix_seq (pv 1) pe_int (fun _ _ => rfl))) pa_nil))))), ?_⟩
  obtain ⟨⟨p, q⟩, hd, ⟨hp, hq⟩, k⟩ := h
  obtain ⟨v, u, rfl, h1, h2⟩ := dps_two hd
  refine ret_ed (ed_call (p.num * q.num, p.den * q.den) (eda_cons (ed_mul (ed_ixT (ed_var rfl h1) ed_int rfl) (ed_ixT (ed_var rfl h2) ed_int rfl) (cmul hp.1 hq.1)) (eda_cons ((ed_mul (ed_ixT (ed_var rfl h1) ed_int rfl) (ed_ixT (ed_var rfl h2) ed_int rfl) (cmul (fden hp) (fden hq))).cast
      (congrArg PyData.int (Int.natCast_mul ..).symm)) eda_nil)) (den2 hp hq)) fun v H3 e3 dv => ?_
  exact k v H3 e3 (by show Dp K H3 v (fr (p * q)); rw [Rat.mul_def']; exact dv)
theorem sc__law_added : FnScope ["_law_one", "_law_other"] ["_law_one", "_law_other"] (defScope s__law_added) := ⟨rfl, rfl, rfl, by decide +kernel, rfl, by decide +kernel, by decide +kernel⟩
abbrev Cf__law_added (P w K mg base) := Cal P w K mg base "_law_added" 3 ["_law_one", "_law_other"] (sp2 K fun p q => fr (p + q))
theorem ok__law_added (T : Tx w K mg) (C__law_reduced : Cf__law_reduced P w K mg base) : Cf__law_added P w K mg base := by
  refine T.cal (d := d__law_added) 71 66 rfl rfl rfl rfl rfl sc__law_added (fun _ _ _ _ _ _ us hl => match us, hl with | [_, _], _ => rfl) (spF_len fun _ => rfl) fun f cdv A outer s H vs Q E hr h => ⟨_, (pss_one (ps_ret (pe_cc C__law_reduced (hr.mono (by decide)) (by rfl) (pa_cons (pe_op op_add (pe_op op_mulW (pe_ix ix_seq (pv 0) pe_int (fun _ _ => rfl)) (pe_ix ix_seq (pv 1) pe_int (fun _ _ => rfl))) (pe_op op_mulW (pe_ix ix_seq (pv 1) pe_int (fun _ _ => rfl)) (pe_ix ix_seq (pv 0) pe_int (fun _ _ => rfl)))) (pa_cons (pe_op op_mulW (pe_ix ix_seq (pv 0) pe_int (fun _ _ => rfl)) (pe_ix ix_seq (pv 1) pe_int (fun _ _ => rfl))) pa_nil))))), ?_⟩
  obtain ⟨⟨p, q⟩, hd, ⟨hp, hq⟩, k⟩ := h
  obtain ⟨v, u, rfl, h1, h2⟩ := dps_two hd
  refine ret_ed (ed_call (p.num * q.den + q.num * p.den, p.den * q.den) (eda_cons (ed_add (ed_mul (ed_ixT (ed_var rfl h1) ed_int rfl) (ed_ixT (ed_var rfl h2) ed_int rfl) (cmul hp.1 (fden hq)))
    (ed_mul (ed_ixT (ed_var rfl h2) ed_int rfl) (ed_ixT (ed_var rfl h1) ed_int rfl) (cmul hq.1 (fden hp)))) (eda_cons ((ed_mul (ed_ixT (ed_var rfl h1) ed_int rfl) (ed_ixT (ed_var rfl h2) ed_int rfl) (cmul (fden hp) (fden hq))).cast
      (congrArg PyData.int (Int.natCast_mul ..).symm)) eda_nil)) (den2 hp hq)) fun v H3 e3 dv => ?_
  exact k v H3 e3 (by show Dp K H3 v (fr (p + q)); rw [Rat.add_def']; exact dv)
theorem sc__law_lessened : FnScope ["_law_one", "_law_other"] ["_law_one", "_law_other"] (defScope s__law_lessened) := ⟨rfl, rfl, rfl, by decide +kernel, rfl, by decide +kernel, by decide +kernel⟩
abbrev Cf__law_lessened (P w K mg base) := Cal P w K mg base "_law_lessened" 3 ["_law_one", "_law_other"] (sp2 K fun p q => fr (p - q))
theorem ok__law_lessened (T : Tx w K mg) (C__law_reduced : Cf__law_reduced P w K mg base) : Cf__law_lessened P w K mg base := by
  refine T.cal (d := d__law_lessened) 75 70 rfl rfl rfl rfl rfl sc__law_lessened (fun _ _ _ _ _ _ us hl => match us, hl with | [_, _], _ => rfl) (spF_len fun _ => rfl) fun f cdv A outer s H vs Q E hr h => ⟨_, (pss_one (ps_ret (pe_cc C__law_reduced (hr.mono (by decide)) (by rfl) (pa_cons (pe_op op_sub (pe_op op_mulW (pe_ix ix_seq (pv 0) pe_int (fun _ _ => rfl)) (pe_ix ix_seq (pv 1) pe_int (fun _ _ => rfl))) (pe_op op_mulW (pe_ix ix_seq (pv 1) pe_int (fun _ _ => rfl)) (pe_ix ix_seq (pv 0) pe_int (fun _ _ => rfl)))) (pa_cons (pe_op op_mulW (pe_ix ix_seq (pv 0) pe_int (fun _ _ => rfl)) (pe_ix ix_seq (pv 1) pe_int (fun _ _ => rfl))) pa_nil))))), ?_⟩
  obtain ⟨⟨p, q⟩, hd, ⟨hp, hq⟩, k⟩ := h
  obtain ⟨v, u, rfl, h1, h2⟩ := dps_two hd
  refine ret_ed (ed_call (p.num * q.den - q.num * p.den, p.den * q.den) (eda_cons (ed_sub (ed_mul (ed_ixT (ed_var rfl h1) ed_int rfl) (ed_ixT (ed_var rfl h2) ed_int rfl) (cmul hp.1 (fden hq)))
    (ed_mul (ed_ixT (ed_var rfl h2) ed_int rfl) (ed_ixT (ed_var rfl h1) ed_int rfl) (cmul hq.1 (fden hp)))) (eda_cons ((ed_mul (ed_ixT (ed_var rfl h1) ed_int rfl) (ed_ixT (ed_var rfl h2) ed_int rfl) (cmul (fden hp) (fden hq))).cast
      (congrArg PyData.int (Int.natCast_mul ..).symm)) eda_nil)) (den2 hp hq)) fun v H3 e3 dv => ?_
  exact k v H3 e3 (by show Dp K H3 v (fr (p - q)); rw [Rat.sub_def']; exact dv)
theorem sc__law_total : FnScope ["_law_fractions", "_law_found", "_law_one"] ["_law_fractions"] (defScope s__law_total) := ⟨rfl, rfl, rfl, by decide +kernel, rfl, by decide +kernel, by decide +kernel⟩
abbrev Cf__law_total (P w K mg base) := Cal P w K mg base "_law_total" 4 ["_law_fractions"] (spF K (fun qs : List Rat => [.list (qs.map fr)]) (fun qs => (∀ i, Fine FB (rsum (qs.take i))) ∧ ∀ q ∈ qs, Fine FB q) fun qs => fr (rsum qs))
theorem ok__law_total (T : Tx w K mg) (C__law_added : Cf__law_added P w K mg base) : Cf__law_total P w K mg base := by
  refine T.cal (d := d__law_total) 76 71 rfl rfl rfl rfl rfl sc__law_total (fun _ _ _ _ _ _ us hl => match us, hl with | [_], _ => rfl) (spF_len fun _ => rfl) fun f cdv A outer s H vs Q E hr h => ⟨_, (pss_cons (ps_set (i := 1) sc__law_total.nd rfl (by first | exact Or.inl rfl | exact Or.inr rfl) (pe_tup (pa_cons pe_int (pa_cons pe_int pa_nil))))
      (pss_cons (ps_for PassesOwn.never rfl (pi_list (pv 0)) (pg_name (i := 2) sc__law_total.nd rfl (by first | exact Or.inl rfl | exact Or.inr rfl)) (pss_one (ps_set (i := 1) sc__law_total.nd rfl (by first | exact Or.inl rfl | exact Or.inr rfl) (pe_cc C__law_added (hr.mono (by decide)) (by rfl) (pa_cons (pv 1) (pa_cons (pv 2) pa_nil))))))
      (pss_one (ps_ret (pv 1))))), ?_⟩
  obtain ⟨qs, hd, ⟨hB, hf⟩, k⟩ := h
  obtain ⟨v, rfl, h1⟩ := dps_one hd
  dsimp only at hB hf k
  refine seq_ed (set_ed (K := K) (d := fr 0) (ed_tup (eda_cons ed_int (eda_cons ed_int eda_nil))) fun z H1 e1 dz => ?_)
  dsimp only
  refine seq_ed (for_vl (K := K) rfl (dp_mono e1 h1) (fun n σ H' => ∃ (zz : V) (o : Option V), σ = [some v, some zz, o] ∧ Ex H H' ∧ Dp K H' zz (fr (rsum (qs.take n)))) ⟨z, none, rfl, e1, dz⟩ (fun n σ' H' _ ⟨_, _, _, e, _⟩ => dp_mono e h1) ?_ ?_)
  · rintro n dd u σ' H' hn du ⟨zz, o, rfl, e, dz⟩
    obtain ⟨q, hq, rfl⟩ := get_map hn
    have hqm := List.mem_of_getElem? hq
    refine set_ed (K := K) (ed_call (rsum (qs.take n), q) (eda_cons (ed_var rfl dz) (eda_cons (ed_var rfl du) eda_nil)) ⟨hB n, hf q hqm⟩) fun y H2 e2 d2 => ⟨y, _, rfl, e.trans e2, ?_⟩
    rw [take_snoc hq, rsum_append, rsum_cons, rsum_nil]
    have : q + 0 = q := by grind
    rw [this]; exact d2
  · rintro σ' H' ⟨zz, o, rfl, e, dz⟩
    rw [List.length_map, List.take_length] at dz
    dsimp only
    exact ret_ed (K := K) (ed_var rfl dz) fun y H5 e5 d6 => k y H5 (e.trans e5) d6
theorem total_fine {qs : List Rat} {B : Nat} (hB : qs.length * (B + 1) + 1 ≤ FB) (hb : B ≤ FB) (hf : ∀ q ∈ qs, Fine B q) : (∀ i, Fine FB (rsum (qs.take i))) ∧ ∀ q ∈ qs, Fine FB q := by
  refine ⟨fun i => (fine_rsum (B := B) (l := qs.take i) fun q hq => hf q (List.mem_of_mem_take hq)).mono ?_, fun q hq => (hf q hq).mono hb⟩
  have hnl : (qs.take i).length ≤ qs.length := by rw [List.length_take]; omega
  have hmul : (qs.take i).length * (B + 1) ≤ qs.length * (B + 1) := Nat.mul_le_mul_right _ hnl
  omega
end
end Sw
namespace Sw
open PySem PySem.Spec PyProof.Rows L2 Evl SwT
theorem ins_test {fs : List Rat} {q : Rat} (h : SR fs) : ((fs.filter fun y => decide (y < q)).length = fs.length ∨ fs[(fs.filter fun y => decide (y < q)).length]? ≠ some q) ↔ q ∉ fs := by
  obtain ⟨h1, h2⟩ := sr_cut (x := q) h
  have hd := List.head?_drop (l := fs) (i := (fs.filter fun y => decide (y < q)).length)
  rw [h2] at hd
  constructor
  · rintro hz hm
    have hqq : (!decide (q < q)) = true := by
      have : ¬ q < q := by grind
      simp [this]
    have hmem : q ∈ fs.filter fun y => !decide (y < q) := List.mem_filter.mpr ⟨hm, hqq⟩
    rcases hz with hz | hz
    · rw [hz, List.drop_length] at h2
      rw [← h2] at hmem; cases hmem
    · refine hz ?_
      rw [← hd]
      cases hl : fs.filter (fun y => !decide (y < q)) with
      | nil => rw [hl] at hmem; cases hmem
      | cons a r =>
        have ha : a ∈ fs.filter fun y => !decide (y < q) := by rw [hl]; exact List.mem_cons_self
        have ha2 : ¬ a < q := by simpa using (List.mem_filter.mp ha).2
        have hs : SR (a :: r) := by rw [← hl]; exact h.sublist List.filter_sublist
        rw [hl] at hmem
        rcases List.mem_cons.mp hmem with z | z
        · rw [z]; rfl
        · have := (List.pairwise_cons.mp hs).1 q z
          exact absurd this ha2
  · intro hm
    refine .inr fun z => hm (List.mem_of_getElem? z)
theorem dps_ints_eq {K : PySem.W.Frag} {H : Hp} : ∀ {ms : List Int} {vs : List V}, DpAll K H vs (ms.map PyData.int) → vs = ms.map V.int
  | [], _, h => by cases h; rfl
  | m :: ms, _, h => by
    cases h with
    | cons h t => rw [List.map_cons, dp_int h, dps_ints_eq t]
theorem lesR_min (p q : Rat) : lesR p q = min p q := by unfold lesR; rw [Rat.min_def]; split <;> split <;> grind
theorem greR_max (p q : Rat) : greR p q = max p q := by unfold greR; rw [Rat.max_def]; split <;> split <;> grind
theorem Wc.pay {R : Nat} (hR : R ≤ 6) {c : Claim} (h : Wc R c) {B : Nat} {x : Rat} (h0 : 0 ≤ x) (hx : Fine B x) : Fine (B + 201) (Sw.pay R c x) := gl_val ((gl_pay hR h.ok).mono h.m) h0 hx
section
variable {K : PySem.W.Frag} {σ : L2.St} {H H' : Hp} {te : TE}
theorem ed_sum {ns : List Nat} (he : Ed K te σ H (.list (ns.map fun n : Nat => PyData.int (n : Int)))) : Ed K (tCB (rSum K) (tCons te tNil)) σ H (.int ((ns.sum : Nat) : Int)) :=
  ed_cb (eda_cons he eda_nil) fun vs H1 Q h q => by
    obtain ⟨v, rfl, hv⟩ := dps_one h
    obtain ⟨a, us, rfl, s1, a1⟩ := dp_lst hv
    have a2 : DpAll K H1 us ((ns.map fun n : Nat => (n : Int)).map PyData.int) := by rw [List.map_map]; exact a1
    obtain rfl := dps_ints_eq a2
    refine ⟨a, ns.map fun n : Nat => (n : Int), rfl, s1, q _ H1 (Ex.refl H1) ?_⟩
    rw [show (ns.map fun n : Nat => (n : Int)).sum = ((ns.sum : Nat) : Int) from ?_]
    · exact .int _
    · clear q a2 a1 s1 hv h he
      induction ns with
      | nil => rfl
      | cons n ns ih => rw [List.map_cons, List.sum_cons, ih, List.sum_cons, Int.natCast_add]
end
section
variable {P : Program} {w : World} {K : PySem.W.Frag} {mg : Str → Option Value} {base : Heap}
theorem sc__law_ascending : FnScope ["_law_fractions", "_law_found", "_law_one", "_law_at", "_law_other"] ["_law_fractions"] (defScope s__law_ascending) := ⟨rfl, rfl, rfl, by decide +kernel, rfl, by decide +kernel, by decide +kernel⟩
abbrev Cf__law_ascending (P w K mg base) := Cal P w K mg base "_law_ascending" 2 ["_law_fractions"] (spL K (fun qs : List Rat => [.list (qs.map fr)]) (fun qs => qs.length ≤ 1000000 ∧ ∀ q ∈ qs, Fine FB q) fun qs => (inOrder qs).map fr)
theorem ok__law_ascending (T : Tx w K mg) (C__law_is_below : Cf__law_is_below P w K mg base) : Cf__law_ascending P w K mg base := by
  refine T.cal (d := d__law_ascending) 68 63 rfl rfl rfl rfl rfl sc__law_ascending (fun _ _ _ _ _ _ us hl => match us, hl with | [_], _ => rfl) (spL_len fun _ => rfl) fun f cdv A outer s H vs Q E hr h => ⟨_, (pss_cons (ps_set (i := 1) sc__law_ascending.nd rfl (by first | exact Or.inl rfl | exact Or.inr rfl) (pe_lst pa_nil))
      (pss_cons (ps_for PassesOwn.never rfl (pi_list (pv 0)) (pg_name (i := 2) sc__law_ascending.nd rfl (by first | exact Or.inl rfl | exact Or.inr rfl)) (pss_cons (ps_set (i := 3) sc__law_ascending.nd rfl (by first | exact Or.inl rfl | exact Or.inr rfl) (pe_callB call_len (by rfl) T.f_len (by decide +kernel) (pa_cons (pe_lc rfl sc__law_ascending.nd (pi_list (pv 1)) (blkOk_by (own := [("_law_other", 4)]) (N := ["_law_fractions", "_law_found", "_law_one", "_law_at", "_law_other"]) (by kernel_rfl)) (fun _ _ _ _ _ => (pg_name (i := 4) sc__law_ascending.nd rfl (by first | exact Or.inl rfl | exact Or.inr rfl))) (fun _ _ _ _ _ => (pts_one (pt_val (pe_cc C__law_is_below (hr.mono (by decide)) (by rfl) (pa_cons (pv 4) (pa_cons (pv 2) pa_nil)))))) (fun _ _ _ _ _ => pe_int)) pa_nil)))
      (pss_one (ps_if (PW.pt (pw_or (pt_cmpR (op_eqD hr.units) (pv 3) (pe_callB call_len (by rfl) T.f_len (by decide +kernel) (pa_cons (pv 1) pa_nil)) (nomark _)) (pw_or1 (pt_cmpR (op_neD hr.units) (pe_ix ix_seq (pv 1) (pv 3) (fun _ _ => rfl)) (pv 2) (nomark _))))) (pss_one (ps_expr (pe_bm PySem.F.plainAttrs_list PySem.F.slot_list_insert PySem.F.type_list_insert mt_insert (pv 1) (pa_cons (pv 3) (pa_cons (pv 2) pa_nil))))) pss_nil))))
      (pss_one (ps_ret (pv 1))))), ?_⟩
  obtain ⟨qs, hd, ⟨hlen, hf⟩, k⟩ := h
  obtain ⟨v, rfl, h1⟩ := dps_one hd
  dsimp only at hd hlen hf k
  refine seq_ed (newl_ed (K := K) (ds := []) (edl_lst eda_nil) fun p H1 e1 hp l1 => ?_)
  dsimp only
  refine seq_ed (for_vl (K := K) rfl (dp_mono e1 h1) (fun i σ H' => ∃ (o a b : Option V), σ = [some v, some (.ref p), o, a, b] ∧ Ex H H' ∧ Lm K H' p (((qs.take i).foldl insU []).map fr)) ⟨none, none, none, rfl, e1, l1⟩ (fun i σ' H' _ ⟨_, _, _, _, e, _⟩ => dp_mono e h1) ?_ ?_)
  · rintro i d u σ' H' hi du ⟨o, a, b, rfl, e, l⟩
    obtain ⟨q, hq, rfl⟩ := get_map hi
    have hqm := List.mem_of_getElem? hq
    obtain ⟨hsr, hm, hl⟩ := foldl_insU (qs.take i) [] List.Pairwise.nil
    have hl2 : (qs.take i).length ≤ qs.length := by rw [List.length_take]; omega
    simp only [List.length_nil, Nat.zero_add] at hl
    have hfin : ∀ y ∈ (qs.take i).foldl insU [], Fine FB y := fun y hy => by
      rcases (hm y).mp hy with z | z
      · cases z
      · exact hf y (List.mem_of_mem_take z)
    have e5 : (qs.take (i + 1)).foldl insU [] = insU ((qs.take i).foldl insU []) q := by rw [take_snoc hq, List.foldl_append]; rfl
    generalize (qs.take i).foldl insU [] = fs at *
    have hnl := List.length_filter_le (fun y => decide (y < q)) fs
    refine seq_ed (set_ed (K := K) (d := .int ((fs.filter fun y => decide (y < q)).length : Int)) ((ed_lenL (lc_m fr fs (fun y => decide (y < q)) (fun _ => PyData.int 1) (edi_list (edt_var rfl l).toD) (by show _ ≤ 16777216; omega) fun y hy v1 H4 e4 d4 => ?_).toD).cast (by rw [List.length_map])) fun n H4 e4 d4 => ?_)
    · exact tu_name rfl (et_B (ed_call (y, q) (eda_cons (ed_var rfl d4) (eda_cons (ed_var rfl (dp_mono e4 du)) eda_nil)) ⟨hfin y hy, hf q hqm⟩)) fun _ => ⟨ed_int, rfl⟩
    · obtain rfl := dp_int d4
      have l4 := l.mono e4
      dsimp only
      refine if_et (K := K) (b := decide (q ∉ fs)) ((et_or (a := decide ((fs.filter fun y => decide (y < q)).length = fs.length)) (b := decide (fs[(fs.filter fun y => decide (y < q)).length]? ≠ some q)) ((et_test (ed_eqi (ed_var rfl (.int _)) (ed_lenL (edt_var rfl l4).toD))).cast (by rw [List.length_map]; exact decide_eq_decide.mpr (by omega))) fun hz => ?_).cast (by
        rw [Bool.eq_iff_iff, Bool.or_eq_true, decide_eq_true_eq, decide_eq_true_eq, decide_eq_true_eq]; exact ins_test hsr)) (fun hb H5 e5' => ?_) fun hb H5 e5' => ?_
      · have hz := of_decide_eq_false hz
        have hlt : (fs.filter fun y => decide (y < q)).length < fs.length := by omega
        have hg := List.getElem?_eq_getElem hlt
        rw [hg]
        exact (et_test (ed_nefr (ed_ixL (edt_var rfl l4).toD (ed_var rfl (.int _)) (atI_map hg)) (ed_var rfl (dp_mono e4 du)))).cast (decide_eq_decide.mpr (by simp))
      · have hb : q ∉ fs := of_decide_eq_true hb
        refine ins_ed (K := K) (n := (fs.filter fun y => decide (y < q)).length) rfl (l4.mono e5') (nols_map nol_fr _) (ed_var rfl (.int _)) (ed_var rfl (dp_mono (e4.trans e5') du)) rfl (by rw [List.length_map]; show _ < 16777216; omega) (by omega) fun H6 b6 i6 l6 => ⟨_, _, _, rfl, b6.ex hp ((e.trans e4).trans e5'), ?_⟩
        rw [e5]
        unfold insU
        rw [if_neg hb, List.map_append, List.map_append, List.map_take, List.map_drop]
        exact l6
      · have hb : q ∈ fs := by have := of_decide_eq_false hb; simpa using this
        have : insU fs q = fs := by unfold insU; rw [if_pos hb]
        exact ⟨_, _, _, rfl, (e.trans e4).trans e5', by rw [e5, this]; exact l4.mono e5'⟩
  · rintro σ' H' ⟨o, a, b, rfl, e, l⟩
    rw [List.length_map, List.take_length] at l
    dsimp only
    exact ⟨_, rfl, k p H' e hp l⟩
theorem sc__law_levels : FnScope ["_law_curves", "_law_found", "_law_curve", "_law_level", "_law_pay_here"] ["_law_curves"] (defScope s__law_levels) := ⟨rfl, rfl, rfl, by decide +kernel, rfl, by decide +kernel, by decide +kernel⟩
abbrev Cf__law_levels (P w K mg base) := Cal P w K mg base "_law_levels" 3 ["_law_curves"] (spL K (fun L : List Cv => [.list (L.map cvD)]) (fun L => (∀ c ∈ L, ∀ p ∈ c.1, Fine FB p.1) ∧ lens L + 1 ≤ 1000000) fun L => (lvls L).map fr)
theorem ok__law_levels (T : Tx w K mg) (C__law_ascending : Cf__law_ascending P w K mg base) : Cf__law_levels P w K mg base := by
  refine T.cal (d := d__law_levels) 69 64 rfl rfl rfl rfl rfl sc__law_levels (fun _ _ _ _ _ _ us hl => match us, hl with | [_], _ => rfl) (spL_len fun _ => rfl) fun f cdv A outer s H vs Q E hr h => ⟨_, (pss_cons (ps_set (i := 1) sc__law_levels.nd rfl (by first | exact Or.inl rfl | exact Or.inr rfl) (pe_lst (pa_cons (pe_tup (pa_cons pe_int (pa_cons pe_int pa_nil))) pa_nil)))
      (pss_cons (ps_for PassesOwn.never rfl (pi_list (pv 0)) (pg_name (i := 2) sc__law_levels.nd rfl (by first | exact Or.inl rfl | exact Or.inr rfl)) (pss_one (ps_expr (pe_bm PySem.F.plainAttrs_list PySem.F.slot_list_extend PySem.F.type_list_extend mt_extend (pv 1) (pa_cons (pe_lc rfl sc__law_levels.nd (pi_tup (pe_ix ix_seq (pv 2) pe_int (fun _ _ => rfl))) (blkOk_by (own := [("_law_level", 3), ("_law_pay_here", 4)]) (N := ["_law_curves", "_law_found", "_law_curve", "_law_level", "_law_pay_here"]) (by kernel_rfl)) (fun _ _ _ _ _ => (pg_tupK (K := K) (n := 2) rfl rfl (pgs_cons (pg_name (i := 3) sc__law_levels.nd rfl (by first | exact Or.inl rfl | exact Or.inr rfl)) (pgs_cons (pg_name (i := 4) sc__law_levels.nd rfl (by first | exact Or.inl rfl | exact Or.inr rfl)) pgs_nil)))) (fun _ _ _ _ _ => pts_nil) (fun _ _ _ _ _ => (pv 3))) pa_nil)))))
      (pss_one (ps_ret (pe_cc C__law_ascending (hr.mono (by decide)) (by rfl) (pa_cons (pv 1) pa_nil)))))), ?_⟩
  obtain ⟨L, hd, ⟨hF, hl⟩, k⟩ := h
  dsimp only at hd hF hl k
  obtain ⟨v, rfl, h1⟩ := dps_one hd
  refine seq_ed (newl_ed (K := K) (ds := [fr 0]) (edl_lst (eda_cons (ed_tup (eda_cons ed_int (eda_cons ed_int eda_nil))) eda_nil)) fun p H1 e1 hp l1 => ?_)
  dsimp only
  refine seq_ed (for_vl (K := K) rfl (dp_mono e1 h1) (fun i σ H' => ∃ (o a b : Option V), σ = [some v, some (.ref p), o, a, b] ∧ Ex H H' ∧ Lm K H' p ((0 :: (L.take i).flatMap fun c => c.1.map (·.1)).map fr)) ⟨none, none, none, rfl, e1, l1⟩ (fun i σ' H' _ ⟨_, _, _, _, e, _⟩ => dp_mono e h1) ?_ ?_)
  · rintro i d u σ' H' hi du ⟨o, a, b, rfl, e, l⟩
    obtain ⟨c, hc, rfl⟩ := get_map hi
    have hcm := List.mem_of_getElem? hc
    have h2 := lens_mem hcm
    have h3 := lens_take L i
    refine ext_ed (K := K) rfl l (nols_map nol_fr _) (lc_m1 ptD c.1 (fun q => fr q.1) (edi_tup (ed_ixT (ed_var rfl du) ed_int rfl)) (by show _ ≤ 16777216; omega) fun q hq v1 H2 e2 d2 => ?_).toT (nols_map (fun _ => rfl) _)
      (by rw [List.length_map, List.length_map, List.length_cons]; show _ ≤ 16777216; omega) fun H2 b2 i2 l2 => ⟨_, _, _, rfl, b2.ex hp e, ?_⟩
    · exact tu_two d2 fun a c ha hc => ⟨rfl, et_yes, fun _ => ⟨ed_var rfl ha, rfl⟩⟩
    · rw [take_snoc hc, List.flatMap_append]
      have e5 : (0 :: (((L.take i).flatMap fun c => c.1.map (·.1)) ++ ([c].flatMap fun c => c.1.map (·.1)))).map fr = ((0 :: (L.take i).flatMap fun c => c.1.map (·.1)).map fr) ++ c.1.map fun q => fr q.1 := by simp
      rw [e5]; exact l2
  · rintro σ' H' ⟨o, a, b, rfl, e, l⟩
    rw [List.length_map, List.take_length] at l
    dsimp only
    refine EdL.run (K := K) (ds := (inOrder (lvlsIn L)).map fr) (edl_call (lvlsIn L) (eda_cons (edt_var rfl l).toD eda_nil) ⟨?_, fun q hq => ?_⟩) fun p2 H2 e2 hp2 l2 => k p2 H2 (e.trans e2) (fresh_back e hp2) l2
    · have := lens_take L L.length
      rw [List.take_length] at this
      show (_ :: _ : List Rat).length ≤ _
      rw [List.length_cons]; omega
    · rcases List.mem_cons.mp hq with z | z
      · rw [z]; exact fine_zero.fb (by decide)
      · obtain ⟨c, hc, hz⟩ := List.mem_flatMap.mp z
        obtain ⟨pt, hpt, rfl⟩ := List.mem_map.mp hz
        exact hF c hc pt hpt
theorem sc__law_pay : FnScope ["_law_ranks", "_law_claim_here", "_law_level", "_law_word", "_law_part", "_law_begin", "_law_one"] ["_law_ranks", "_law_claim_here", "_law_level"] (defScope s__law_pay) := ⟨rfl, rfl, rfl, by decide +kernel, rfl, by decide +kernel, by decide +kernel⟩
abbrev Cf__law_pay (P w K mg base) (n : Nat) := Cal P w K mg base "_law_pay" (n + 5) ["_law_ranks", "_law_claim_here", "_law_level"] (spF K (fun x : Nat × Claim × Rat => [.int x.1, claimD x.2.1, fr x.2.2]) (fun x => depth x.2.1 < n ∧ x.1 ≤ 6 ∧ Wc x.1 x.2.1 ∧ 0 ≤ x.2.2 ∧ Fine 1200 x.2.2) fun x => fr (pay x.1 x.2.1 x.2.2))
theorem ok__law_pay (T : Tx w K mg) (C__law_added : Cf__law_added P w K mg base) (C__law_greater : Cf__law_greater P w K mg base) (C__law_lessened : Cf__law_lessened P w K mg base) (C__law_lesser : Cf__law_lesser P w K mg base) (C__law_multiplied : Cf__law_multiplied P w K mg base) (C__law_total : Cf__law_total P w K mg base) : ∀ n, Cf__law_pay P w K mg base n
  | 0 => T.cal (d := d__law_pay) 77 72 rfl rfl rfl rfl rfl sc__law_pay (fun _ _ _ _ _ _ us hl => match us, hl with | [_, _, _], _ => rfl) (spF_len fun _ => rfl) fun f cdv A outer s H vs Q E hr h => absurd h fun ⟨x, _, h, _⟩ => absurd h.1 (Nat.not_lt_zero _)
  | n + 1 => by
    have C__law_pay := ok__law_pay T C__law_added C__law_greater C__law_lessened C__law_lesser C__law_multiplied C__law_total n
    refine T.cal (d := d__law_pay) 77 72 rfl rfl rfl rfl rfl sc__law_pay (fun _ _ _ _ _ _ us hl => match us, hl with | [_, _, _], _ => rfl) (spF_len fun _ => rfl) fun f cdv A outer s H vs Q E hr h => ⟨_, (pss_cons (ps_set (i := 3) sc__law_pay.nd rfl (by first | exact Or.inl rfl | exact Or.inr rfl) (pe_ix ix_seq (pv 1) pe_int (fun _ _ => rfl)))
      (pss_cons (ps_if (pt_cmpR (op_eqD hr.units) (pv 3) pe_str (nomark _)) (pss_one (ps_ret (pe_tup (pa_cons pe_int (pa_cons pe_int pa_nil))))) pss_nil)
      (pss_cons (ps_if (pt_cmpR (op_eqD hr.units) (pv 3) pe_str (nomark _)) (pss_cons (ps_set (i := 4) sc__law_pay.nd rfl (by first | exact Or.inl rfl | exact Or.inr rfl) (pe_cc C__law_lesser (hr.mono (by omega)) (by rfl) (pa_cons (pe_cc C__law_greater (hr.mono (by omega)) (by rfl) (pa_cons (pe_cc C__law_lessened (hr.mono (by omega)) (by rfl) (pa_cons (pv 2) (pa_cons (pe_tup (pa_cons (pe_ix ix_seq (pv 1) pe_int (fun _ _ => rfl)) (pa_cons pe_int pa_nil))) pa_nil))) (pa_cons (pe_tup (pa_cons pe_int (pa_cons pe_int pa_nil))) pa_nil))) (pa_cons (pe_tup (pa_cons pe_int (pa_cons pe_int pa_nil))) pa_nil))))
      (pss_one (ps_ret (pe_cc C__law_multiplied (hr.mono (by omega)) (by rfl) (pa_cons (pv 4) (pa_cons (pe_ix ix_seq (pv 1) pe_int (fun _ _ => rfl)) pa_nil)))))) pss_nil)
      (pss_cons (ps_if (pt_cmpR op_in_seq (pv 3) (pe_tup (pa_cons pe_str (pa_cons pe_str pa_nil))) rfl) (pss_cons (ps_set (i := 5) sc__law_pay.nd rfl (by first | exact Or.inl rfl | exact Or.inr rfl) (pe_ifExp (pt_cmpR (op_eqD hr.units) (pv 3) pe_str (nomark _)) (pe_tup (pa_cons (pv 0) (pa_cons pe_int pa_nil))) (pe_cc C__law_added (hr.mono (by omega)) (by rfl) (pa_cons (pe_tup (pa_cons (pv 0) (pa_cons pe_int pa_nil))) (pa_cons (pe_ix ix_seq (pv 1) pe_int (fun _ _ => rfl)) pa_nil)))))
      (pss_one (ps_ret (pe_cc C__law_multiplied (hr.mono (by omega)) (by rfl) (pa_cons (pe_cc C__law_greater (hr.mono (by omega)) (by rfl) (pa_cons (pe_cc C__law_lessened (hr.mono (by omega)) (by rfl) (pa_cons (pv 2) (pa_cons (pv 5) pa_nil))) (pa_cons (pe_tup (pa_cons pe_int (pa_cons pe_int pa_nil))) pa_nil))) (pa_cons (pe_ix ix_seq (pv 1) pe_int (fun _ _ => rfl)) pa_nil)))))) pss_nil)
      (pss_cons (ps_if (pt_cmpR (op_eqD hr.units) (pv 3) pe_str (nomark _)) (pss_one (ps_ret (pe_cc C__law_lesser (hr.mono (by omega)) (by rfl) (pa_cons (pe_cc C__law_pay (hr.mono (by omega)) (by rfl) (pa_cons (pv 0) (pa_cons (pe_ix ix_seq (pv 1) pe_int (fun _ _ => rfl)) (pa_cons (pv 2) pa_nil)))) (pa_cons (pe_ix ix_seq (pv 1) pe_int (fun _ _ => rfl)) pa_nil))))) pss_nil)
      (pss_one (ps_ret (pe_cc C__law_total (hr.mono (by omega)) (by rfl) (pa_cons (pe_lc rfl sc__law_pay.nd (pi_tup (pe_ix ix_seq (pv 1) pe_int (fun _ _ => rfl))) (blkOk_by (own := [("_law_one", 6)]) (N := ["_law_ranks", "_law_claim_here", "_law_level", "_law_word", "_law_part", "_law_begin", "_law_one"]) (by kernel_rfl)) (fun _ _ _ _ _ => (pg_name (i := 6) sc__law_pay.nd rfl (by first | exact Or.inl rfl | exact Or.inr rfl))) (fun _ _ _ _ _ => pts_nil) (fun _ _ _ _ _ => (pe_cc C__law_pay (hr.mono (by omega)) (by rfl) (pa_cons (pv 0) (pa_cons (pv 6) (pa_cons (pv 2) pa_nil)))))) pa_nil))))))))), ?_⟩
    obtain ⟨⟨R, c, x⟩, hd, ⟨hn, hR, hW, h0, hx⟩, k⟩ := h
    dsimp only at hd hn hR hW h0 hx k
    obtain ⟨v, u, t, rfl, h1, h2, h3⟩ := dps_three hd
    obtain rfl := dp_int h1
    obtain ⟨rest, hw⟩ := claimD_word c
    refine seq_ed (set_ed (K := K) (d := .str (wordS c)) (ed_ixT (by rw [← hw]; exact ed_var rfl h2) ed_int (atI_nat (j := 0) rfl)) fun wv H1 e1 dw => ?_)
    have f0 : Fine 10 (0 : Rat) := fine_zero.mono (by decide)
    have f1 : Fine 10 (1 : Rat) := ⟨by decide, by decide⟩
    have one : ∀ {σ : L2.St} {H : Hp}, Ed K (tTup (tCons (tC (.int 1)) (tCons (tC (.int 1)) tNil))) σ H (fr 1) := ed_tup (eda_cons ed_int (eda_cons ed_int eda_nil))
    have zero : ∀ {σ : L2.St} {H : Hp}, Ed K (tTup (tCons (tC (.int 0)) (tCons (tC (.int 1)) tNil))) σ H (fr 0) := ed_tup (eda_cons ed_int (eda_cons ed_int eda_nil))
    have fR : Fine 10 (R : Rat) := fine_nat (by omega) (by decide)
    have fmax : ∀ {p q : Rat} {B : Nat}, Fine B p → Fine B q → Fine B (greR p q) := fun h1 h2 => by unfold greR; split <;> assumption
    have fmin : ∀ {p q : Rat} {B : Nat}, Fine B p → Fine B q → Fine B (lesR p q) := fun h1 h2 => by unfold lesR; split <;> assumption
    dsimp only
    cases c with
    | none =>
      replace dw : Dp K H1 wv (.str "none") := dw
      refine seq_ed (take_eqs (K := K) rfl dw (by decide +kernel) fun H2 e2 => ?_)
      exact ret_ed (K := K) (d := fr 0) zero fun z H3 e3 d3 => k z H3 ((e1.trans e2).trans e3) (by simp only [pay]; exact d3)
    | due r a =>
      replace dw : Dp K H1 wv (.str "due") := dw
      simp only [claimD] at h2
      have hok := hW.ok
      simp only [OkC] at hok
      have ha : Fine 69 a := grid_fine69 hok.2.2 (by grind) hW.m
      have fr' : Fine 10 (r : Rat) := fine_nat (by omega) (by decide)
      have g1 := hx.sub fr'
      refine seq_ed (skip_eqs (K := K) rfl dw (by decide +kernel) fun H2 e2 => ?_)
      dsimp only
      refine seq_ed (take_eqs (K := K) rfl (dp_mono e2 dw) (by decide +kernel) fun H3 e3 => ?_)
      have e13 := (e1.trans e2).trans e3
      have g2 := fmax g1 (f0.mono (show 10 ≤ _ by decide))
      have g3 := fmin g2 (f1.mono (show 10 ≤ _ by decide))
      refine seq_ed (set_ed (K := K) (d := fr (lesR (greR (x - r) 0) 1)) (ed_call (greR (x - r) 0, 1) (eda_cons (ed_call (x - r, 0) (eda_cons (ed_call (x, (r : Rat)) (eda_cons (ed_var rfl (dp_mono e13 h3)) (eda_cons ((ed_tup (eda_cons (ed_ixT (ed_var rfl (dp_mono e13 h2)) ed_int rfl) (eda_cons ed_int eda_nil))).cast (fr_nat r).symm) eda_nil)) ⟨hx.fb (by decide), fr'.fb (by decide)⟩) (eda_cons zero eda_nil)) ⟨g1.fb (by decide), f0.fb (by decide)⟩) (eda_cons one eda_nil)) ⟨g2.fb (by decide), f1.fb (by decide)⟩) fun pv H4 e4 dp => ?_)
      dsimp only
      refine ret_ed (K := K) (d := fr (lesR (greR (x - r) 0) 1 * a)) (ed_call (lesR (greR (x - r) 0) 1, a) (eda_cons (ed_var rfl dp) (eda_cons (ed_ixT (ed_var rfl (dp_mono (e13.trans e4) h2)) ed_int rfl) eda_nil)) ⟨g3.fb (by decide), ha.fb (by decide)⟩) fun z H5 e5 d5 => k z H5 ((e13.trans e4).trans e5) ?_
      simp only [pay]
      rw [← greR_max, ← lesR_min]; exact d5
    | shares a =>
      replace dw : Dp K H1 wv (.str "shares") := dw
      simp only [claimD] at h2
      have hok := hW.ok
      simp only [OkC] at hok
      have ha : Fine 69 a := grid_fine69 hok.2 (by grind) hW.m
      have g1 := hx.sub fR
      have g2 := fmax g1 (f0.mono (show 10 ≤ _ by decide))
      refine seq_ed (skip_eqs (K := K) rfl dw (by decide +kernel) fun H2 e2 => ?_)
      dsimp only
      refine seq_ed (skip_eqs (K := K) rfl (dp_mono e2 dw) (by decide +kernel) fun H3 e3 => ?_)
      dsimp only
      have e13 := (e1.trans e2).trans e3
      refine seq_ed (if_et (K := K) (b := true) ((et_test (ed_inS (ss := ["shares", "option"]) (ed_var rfl (dp_mono (e2.trans e3) dw)) (ed_tup (eda_cons ed_str (eda_cons ed_str eda_nil))))).cast (by decide +kernel)) (fun _ H4 e4 => ?_) fun z => absurd z (by decide))
      have e14 := e13.trans e4
      refine seq_ed (set_ed (K := K) (d := fr (R : Rat)) (ed_ifT ((et_test (ed_eqs (ed_var rfl (dp_mono ((e2.trans e3).trans e4) dw)) ed_str (by decide +kernel) (by decide +kernel))).cast (by decide +kernel)) ((ed_tup (eda_cons (ed_var rfl (.int _)) (eda_cons ed_int eda_nil))).cast (fr_nat R).symm)) fun bv H5 e5 db => ?_)
      have e15 := e14.trans e5
      dsimp only
      refine ret_ed (K := K) (d := fr (greR (x - R) 0 * a)) (ed_call (greR (x - R) 0, a) (eda_cons (ed_call (x - R, 0) (eda_cons (ed_call (x, (R : Rat)) (eda_cons (ed_var rfl (dp_mono e15 h3)) (eda_cons (ed_var rfl db) eda_nil)) ⟨hx.fb (by decide), fR.fb (by decide)⟩) (eda_cons zero eda_nil)) ⟨g1.fb (by decide), f0.fb (by decide)⟩) (eda_cons (ed_ixT (ed_var rfl (dp_mono e15 h2)) ed_int rfl) eda_nil)) ⟨g2.fb (by decide), ha.fb (by decide)⟩) fun z H6 e6 d6 => k z H6 (e15.trans e6) ?_
      simp only [pay]
      rw [← greR_max]; exact d6
    | option a p =>
      replace dw : Dp K H1 wv (.str "option") := dw
      simp only [claimD] at h2
      have hok := hW.ok
      simp only [OkC] at hok
      have ha : Fine 69 a := grid_fine69 hok.2.1 (by grind) hW.m
      have hp : Fine 69 p := grid_fine69 hok.2.2.2.1 (by grind) (by
        have h1 := hok.2.2.2.2
        have h2 : (1000000000000 : Rat) ≤ (MM : Rat) := by
          have h3 : ((1000000000000 : Nat) : Rat) ≤ (MM : Rat) := Rat.natCast_le_natCast.mpr (by decide)
          exact h3
        grind)
      have gb := fR.add hp
      have g1 := hx.sub gb
      have g2 := fmax g1 (f0.mono (show 10 ≤ _ by decide))
      refine seq_ed (skip_eqs (K := K) rfl dw (by decide +kernel) fun H2 e2 => ?_)
      dsimp only
      refine seq_ed (skip_eqs (K := K) rfl (dp_mono e2 dw) (by decide +kernel) fun H3 e3 => ?_)
      dsimp only
      have e13 := (e1.trans e2).trans e3
      refine seq_ed (if_et (K := K) (b := true) ((et_test (ed_inS (ss := ["shares", "option"]) (ed_var rfl (dp_mono (e2.trans e3) dw)) (ed_tup (eda_cons ed_str (eda_cons ed_str eda_nil))))).cast (by decide +kernel)) (fun _ H4 e4 => ?_) fun z => absurd z (by decide))
      have e14 := e13.trans e4
      refine seq_ed (set_ed (K := K) (d := fr ((R : Rat) + p)) (ed_ifF ((et_test (ed_eqs (ed_var rfl (dp_mono ((e2.trans e3).trans e4) dw)) ed_str (by decide +kernel) (by decide +kernel))).cast (by decide +kernel)) (ed_call ((R : Rat), p) (eda_cons ((ed_tup (eda_cons (ed_var rfl (.int _)) (eda_cons ed_int eda_nil))).cast (fr_nat R).symm) (eda_cons (ed_ixT (ed_var rfl (dp_mono e14 h2)) ed_int rfl) eda_nil)) ⟨fR.fb (by decide), hp.fb (by decide)⟩)) fun bv H5 e5 db => ?_)
      have e15 := e14.trans e5
      dsimp only
      refine ret_ed (K := K) (d := fr (greR (x - ((R : Rat) + p)) 0 * a)) (ed_call (greR (x - ((R : Rat) + p)) 0, a) (eda_cons (ed_call (x - ((R : Rat) + p), 0) (eda_cons (ed_call (x, (R : Rat) + p) (eda_cons (ed_var rfl (dp_mono e15 h3)) (eda_cons (ed_var rfl db) eda_nil)) ⟨hx.fb (by decide), gb.fb (by decide)⟩) (eda_cons zero eda_nil)) ⟨g1.fb (by decide), f0.fb (by decide)⟩) (eda_cons (ed_ixT (ed_var rfl (dp_mono e15 h2)) ed_int rfl) eda_nil)) ⟨g2.fb (by decide), ha.fb (by decide)⟩) fun z H6 e6 d6 => k z H6 (e15.trans e6) ?_
      simp only [pay]
      rw [← greR_max]; exact d6
    | capped c a =>
      replace dw : Dp K H1 wv (.str "capped") := dw
      simp only [claimD] at h2
      obtain ⟨hWc, ha0, ha, hdp⟩ := hW.cap
      refine seq_ed (skip_eqs (K := K) rfl dw (by decide +kernel) fun H2 e2 => ?_)
      dsimp only
      refine seq_ed (skip_eqs (K := K) rfl (dp_mono e2 dw) (by decide +kernel) fun H3 e3 => ?_)
      dsimp only
      have e13 := (e1.trans e2).trans e3
      refine seq_ed (if_et (K := K) (b := false) ((et_test (ed_inS (ss := ["shares", "option"]) (ed_var rfl (dp_mono (e2.trans e3) dw)) (ed_tup (eda_cons ed_str (eda_cons ed_str eda_nil))))).cast (by decide +kernel)) (fun z => absurd z (by decide)) fun _ H4 e4 => nil_ed ?_)
      dsimp only
      refine seq_ed (take_eqs (K := K) rfl (dp_mono ((e2.trans e3).trans e4) dw) (by decide +kernel) fun H5 e5 => ?_)
      have e15 := (e13.trans e4).trans e5
      refine ret_ed (K := K) (d := fr (lesR (pay R c x) a)) (ed_call (pay R c x, a) (eda_cons (ed_call (R, c, x) (eda_cons (ed_var rfl (.int _)) (eda_cons (ed_ixT (ed_var rfl (dp_mono e15 h2)) ed_int rfl) (eda_cons (ed_var rfl (dp_mono e15 h3)) eda_nil))) ⟨by show depth c < n; omega, hR, hWc, h0, hx⟩) (eda_cons (ed_ixT (ed_var rfl (dp_mono e15 h2)) ed_int rfl) eda_nil)) ⟨(hWc.pay hR h0 hx).fb (by decide), ha.fb (by decide)⟩) fun z H7 e7 d7 => k z H7 (e15.trans e7) ?_
      simp only [pay]
      rw [← lesR_min]; exact d7
    | sum cs =>
      replace dw : Dp K H1 wv (.str "sum") := dw
      simp only [claimD] at h2
      obtain ⟨hl2, hl9, hsub⟩ := hW.sub
      refine seq_ed (skip_eqs (K := K) rfl dw (by decide +kernel) fun H2 e2 => ?_)
      dsimp only
      refine seq_ed (skip_eqs (K := K) rfl (dp_mono e2 dw) (by decide +kernel) fun H3 e3 => ?_)
      dsimp only
      have e13 := (e1.trans e2).trans e3
      refine seq_ed (if_et (K := K) (b := false) ((et_test (ed_inS (ss := ["shares", "option"]) (ed_var rfl (dp_mono (e2.trans e3) dw)) (ed_tup (eda_cons ed_str (eda_cons ed_str eda_nil))))).cast (by decide +kernel)) (fun z => absurd z (by decide)) fun _ H4 e4 => nil_ed ?_)
      dsimp only
      refine seq_ed (skip_eqs (K := K) rfl (dp_mono ((e2.trans e3).trans e4) dw) (by decide +kernel) fun H5 e5 => ?_)
      dsimp only
      have e15 := (e13.trans e4).trans e5
      rw [claimsD_eq] at h2
      have hok := okCs_iff.mp (show OkCs R cs from hW.ok.2)
      have hpre : (∀ i, Fine FB (rsum ((cs.map fun c => pay R c x).take i))) ∧ ∀ q ∈ cs.map (fun c => pay R c x), Fine FB q := by
        refine ⟨fun i => ?_, fun q hq => ?_⟩
        · rw [← List.map_take, ← pays_eq]
          have ho : OkCs R (cs.take i) := okCs_iff.mpr fun c hc => hok c (List.mem_of_mem_take hc)
          have hm : mgs (cs.take i) ≤ (MM : Rat) := by
            have h1 : mgs cs = mgs (cs.take i) + mgs (cs.drop i) := by rw [mgs_eq, mgs_eq, mgs_eq, ← rsum_append, ← List.map_append, List.take_append_drop]
            have h2 := mgs_nonneg (R := R) (cs := cs.drop i) (okCs_iff.mpr fun c hc => hok c (List.mem_of_mem_drop hc))
            have h3 : mgs cs ≤ (MM : Rat) := hW.m
            grind
          exact (gl_val ((gl_pays hR ho).mono hm) h0 hx).fb (by decide)
        · obtain ⟨c, hc, rfl⟩ := List.mem_map.mp hq
          exact ((hsub c hc).1.pay hR h0 hx).fb (by decide)
      have hl16 : cs.length ≤ sizeLine := by show _ ≤ 16777216; omega
      refine ret_ed (K := K) (d := fr (rsum (cs.map fun c => pay R c x))) (ed_call (cs.map fun c => pay R c x) (eda_cons ((lc_m1 claimD cs (fun c => fr (pay R c x)) (edi_tup (ed_ixT (ed_var rfl (dp_mono e15 h2)) ed_int rfl)) hl16 fun c hc v1 H6 e6 d6 => ?_).toD.cast (by rw [List.map_map]; rfl)) eda_nil) hpre) fun z H7 e7 d7 => k z H7 (e15.trans e7) ?_
      · exact tu_name rfl et_yes fun _ => ⟨ed_call (R, c, x) (eda_cons (ed_var rfl (.int _)) (eda_cons (ed_var rfl d6) (eda_cons (ed_var rfl (dp_mono (e15.trans e6) h3)) eda_nil))) ⟨by have := (hsub c hc).2; show depth c < n; omega, hR, (hsub c hc).1, h0, hx⟩, rfl⟩
      · rw [show pay R (.sum cs) x = pays R cs x from by simp only [pay], pays_eq]; exact d7
end
end Sw
namespace Sw
open PySem PySem.Spec PyProof.Rows L2 Evl SwT
def withinC : List Claim → Nat → List Claim
  | [], _ => []
  | c :: cs, l => (if leaves c ≤ l then c else .shares 1) :: withinC cs (l - leaves c)
theorem withinC_snoc (c : Claim) : ∀ (cs : List Claim) (l : Nat), withinC (cs ++ [c]) l = withinC cs l ++ [if leaves c ≤ l - leavess cs then c else .shares 1]
  | [], l => by rw [List.nil_append, withinC, withinC, withinC, leavess, Nat.sub_zero, List.nil_append]
  | d :: cs, l => by
    rw [List.cons_append, withinC, withinC_snoc c cs, withinC, List.cons_append, leavess, Nat.sub_sub]
theorem leaves_mem {c : Claim} : ∀ {cs : List Claim}, c ∈ cs → leaves c ≤ leavess cs
  | d :: cs, h => by
    rw [leavess]
    rcases List.mem_cons.mp h with z | z
    · rw [z]; omega
    · have := leaves_mem z; omega
theorem withinC_len : ∀ (cs : List Claim) (l : Nat), (withinC cs l).length = cs.length
  | [], _ => rfl
  | c :: cs, l => by rw [withinC, List.length_cons, List.length_cons, withinC_len cs]
section
variable {P : Program} {w : World} {K : PySem.W.Frag} {mg : Str → Option Value} {base : Heap}
theorem sc__law_leaves : FnScope ["_law_claim_here", "_law_one"] ["_law_claim_here"] (defScope s__law_leaves) := ⟨rfl, rfl, rfl, by decide +kernel, rfl, by decide +kernel, by decide +kernel⟩
abbrev Cf__law_leaves (P w K mg base) (n : Nat) := Cal P w K mg base "_law_leaves" (n + 1) ["_law_claim_here"] (spF K (fun c : Claim => [claimD c]) (fun c => depth c < n ∧ (∃ R, OkC R c) ∧ leaves c ≤ 1000) fun c => .int (leaves c : Int))
theorem ok__law_leaves (T : Tx w K mg) : ∀ n, Cf__law_leaves P w K mg base n
  | 0 => T.cal (d := d__law_leaves) 60 55 rfl rfl rfl rfl rfl sc__law_leaves (fun _ _ _ _ _ _ us hl => match us, hl with | [_], _ => rfl) (spF_len fun _ => rfl) fun f cdv A outer s H vs Q E hr h => absurd h fun ⟨x, _, h, _⟩ => absurd h.1 (Nat.not_lt_zero _)
  | n + 1 => by
    have C__law_leaves := ok__law_leaves T n
    refine T.cal (d := d__law_leaves) 60 55 rfl rfl rfl rfl rfl sc__law_leaves (fun _ _ _ _ _ _ us hl => match us, hl with | [_], _ => rfl) (spF_len fun _ => rfl) fun f cdv A outer s H vs Q E hr h => ⟨_, (pss_cons (ps_if (pt_cmpR (op_eqD hr.units) (pe_ix ix_seq (pv 0) pe_int (fun _ _ => rfl)) pe_str (nomark _)) (pss_one (ps_ret (pe_cc C__law_leaves (hr.mono (by omega)) (by rfl) (pa_cons (pe_ix ix_seq (pv 0) pe_int (fun _ _ => rfl)) pa_nil)))) pss_nil)
      (pss_one (ps_ret (pe_ifExp (pt_cmpR (op_eqD hr.units) (pe_ix ix_seq (pv 0) pe_int (fun _ _ => rfl)) pe_str (nomark _)) (pe_callB (cr_sum rfl) (by rfl) T.f_sum (by decide +kernel) (pa_cons (pe_lc rfl sc__law_leaves.nd (pi_tup (pe_ix ix_seq (pv 0) pe_int (fun _ _ => rfl))) (blkOk_by (own := [("_law_one", 1)]) (N := ["_law_claim_here", "_law_one"]) (by kernel_rfl)) (fun _ _ _ _ _ => (pg_name (i := 1) sc__law_leaves.nd rfl (by first | exact Or.inl rfl | exact Or.inr rfl))) (fun _ _ _ _ _ => pts_nil) (fun _ _ _ _ _ => (pe_cc C__law_leaves (hr.mono (by omega)) (by rfl) (pa_cons (pv 1) pa_nil)))) pa_nil)) pe_int)))), ?_⟩
    obtain ⟨c, hd, ⟨hn, ⟨R, hO⟩, hl⟩, k⟩ := h
    dsimp only at hd hn hO hl k
    obtain ⟨v, rfl, h1⟩ := dps_one hd
    obtain ⟨rest, hw⟩ := claimD_word c
    have hword : ∀ {H5 : Hp} {σ : L2.St}, Ex H H5 → σ[0]? = some (some v) → Ed K (tOp (rIx K) (tVar 0) (tC (.int 0))) σ H5 (.str (wordS c)) := fun e hs => ed_ixT (by rw [← hw]; exact ed_var hs (dp_mono e h1)) ed_int (atI_nat (j := 0) rfl)
    have wl : PyData.strOk (wordS c) = true := by cases c <;> (simp only [wordS]; decide +kernel)
    have heq : ∀ {H5 : Hp} {σ : L2.St} (y : Str), Ex H H5 → σ[0]? = some (some v) → PyData.strOk y = true → Et K (tTest (tOp (rEqD K) (tOp (rIx K) (tVar 0) (tC (.int 0))) (tC (.str y)))) σ H5 (decide (wordS c = y)) := fun y e hs hy => et_test (ed_eqs (hword e hs) ed_str wl hy)
    by_cases hcap : ∃ d a, c = .capped d a
    · obtain ⟨d, a, rfl⟩ := hcap
      simp only [claimD] at h1
      simp only [depth] at hn
      simp only [OkC] at hO
      refine seq_ed (if_et (K := K) (b := true) ((heq "capped" (Ex.refl H) rfl (by decide +kernel)).cast (by simp only [wordS]; decide +kernel)) (fun _ H2 e2 => ?_) fun z => absurd z (by decide))
      refine ret_ed (K := K) (d := .int (leaves d : Int)) (ed_call d (eda_cons (ed_ixT (ed_var rfl (dp_mono e2 h1)) ed_int rfl) eda_nil) ⟨by omega, ⟨R, hO.1⟩, hl⟩) fun z H3 e3 d3 => k z H3 (e2.trans e3) (by simp only [leaves]; exact d3)
    have hne : wordS c ≠ "capped" := by
      intro hz
      cases c with
      | capped d a => exact hcap ⟨_, _, rfl⟩
      | _ => revert hz; simp only [wordS]; decide +kernel
    refine seq_ed (if_et (K := K) (b := false) ((heq "capped" (Ex.refl H) rfl (by decide +kernel)).cast (decide_eq_false hne)) (fun z => absurd z (by decide)) fun _ H2 e2 => nil_ed ?_)
    dsimp only
    by_cases hsum : ∃ cs, c = .sum cs
    · obtain ⟨cs, rfl⟩ := hsum
      simp only [claimD] at h1
      rw [claimsD_eq] at h1
      simp only [depth] at hn
      simp only [OkC] at hO
      simp only [leaves] at hl
      have hlc := leavess_len hO.2
      have hsub : ∀ c ∈ cs, depth c < n ∧ OkC R c ∧ leaves c ≤ 1000 := fun c hc => by
        refine ⟨by have := depths_le.mp (Nat.le_refl (depths cs)) c hc; omega, okCs_iff.mp hO.2 c hc, ?_⟩
        have : leaves c ≤ leavess cs := by exact leaves_mem hc
        omega
      refine ret_ed (K := K) (d := .int ((cs.map leaves).sum : Nat)) (ed_ifT ((heq "sum" e2 rfl (by decide +kernel)).cast (by simp only [wordS]; decide +kernel)) (ed_sum ((lc_m1 claimD cs (fun c => .int (leaves c : Int)) (edi_tup (ed_ixT (ed_var rfl (dp_mono e2 h1)) ed_int rfl)) (by show _ ≤ 16777216; omega) fun c hc v1 H6 e6 d6 => ?_).toD.cast (by rw [List.map_map]; rfl)))) fun z H3 e3 d3 => k z H3 (e2.trans e3) (by simp only [leaves]; rw [leavess_eq]; exact d3)
      exact tu_name rfl et_yes fun _ => ⟨ed_call c (eda_cons (ed_var rfl d6) eda_nil) ⟨(hsub c hc).1, ⟨R, (hsub c hc).2.1⟩, (hsub c hc).2.2⟩, rfl⟩
    have hne2 : wordS c ≠ "sum" := by
      intro hz
      cases c with
      | sum cs => exact hsum ⟨_, rfl⟩
      | _ => revert hz; simp only [wordS]; decide +kernel
    have h1l : leaves c = 1 := by
      cases c with
      | capped d a => exact absurd ⟨_, _, rfl⟩ hcap
      | sum cs => exact absurd ⟨_, rfl⟩ hsum
      | _ => rfl
    refine ret_ed (K := K) (d := .int 1) (ed_ifF ((heq "sum" e2 rfl (by decide +kernel)).cast (decide_eq_false hne2)) ed_int) fun z H3 e3 d3 => k z H3 (e2.trans e3) (by rw [h1l]; exact d3)
theorem sc__law_within : FnScope ["_law_options_here", "_law_left", "_law_found", "_law_claim_here", "_law_many"] ["_law_options_here", "_law_left"] (defScope s__law_within) := ⟨rfl, rfl, rfl, by decide +kernel, rfl, by decide +kernel, by decide +kernel⟩
abbrev Cf__law_within (P w K mg base) := Cal P w K mg base "_law_within" 5 ["_law_options_here", "_law_left"] (spF K (fun x : List Claim × Nat => [.tuple (x.1.map claimD), .int x.2]) (fun x => x.1.length ≤ 100 ∧ ∀ c ∈ x.1, depth c < 3 ∧ (∃ R, OkC R c) ∧ leaves c ≤ 1000) fun x => .tuple ((withinC x.1 x.2).map claimD))
theorem ok__law_within (T : Tx w K mg) (C__law_leaves : Cf__law_leaves P w K mg base 3) : Cf__law_within P w K mg base := by
  refine T.cal (d := d__law_within) 61 56 rfl rfl rfl rfl rfl sc__law_within (fun _ _ _ _ _ _ us hl => match us, hl with | [_, _], _ => rfl) (spF_len fun _ => rfl) fun f cdv A outer s H vs Q E hr h => ⟨_, (pss_cons (ps_set (i := 2) sc__law_within.nd rfl (by first | exact Or.inl rfl | exact Or.inr rfl) (pe_lst pa_nil))
      (pss_cons (ps_for PassesOwn.never rfl (pi_tup (pv 0)) (pg_name (i := 3) sc__law_within.nd rfl (by first | exact Or.inl rfl | exact Or.inr rfl)) (pss_cons (ps_set (i := 4) sc__law_within.nd rfl (by first | exact Or.inl rfl | exact Or.inr rfl) (pe_cc C__law_leaves (hr.mono (by decide)) (by rfl) (pa_cons (pv 3) pa_nil)))
      (pss_cons (ps_expr (pe_bm PySem.F.plainAttrs_list PySem.F.slot_list_append PySem.F.type_list_append mt_append (pv 2) (pa_cons (pe_ifExp (pt_cmpR op_le (pv 4) (pv 1) (nomark _)) (pv 3) (pe_tup (pa_cons pe_str (pa_cons (pe_tup (pa_cons pe_int (pa_cons pe_int pa_nil))) pa_nil)))) pa_nil)))
      (pss_one (ps_set (i := 1) sc__law_within.nd rfl (by first | exact Or.inl rfl | exact Or.inr rfl) (pe_callB (call_max2 rfl) (by rfl) T.f_max (by decide +kernel) (pa_cons pe_int (pa_cons (pe_op op_sub (pv 1) (pv 4)) pa_nil))))))))
      (pss_one (ps_ret (pe_callTy call_tuple_of (by rfl) T.f_tuple (by decide +kernel) (pa_cons (pv 2) pa_nil)))))), ?_⟩
  obtain ⟨⟨cs, l⟩, hd, ⟨hlen, hc⟩, k⟩ := h
  dsimp only at hd hlen hc k
  obtain ⟨v, u, rfl, h1, h2⟩ := dps_two hd
  obtain rfl := dp_int h2
  refine seq_ed (newl_ed (K := K) (ds := []) (edl_lst eda_nil) fun p H1 e1 hp l1 => ?_)
  dsimp only
  refine seq_ed (for_dt (K := K) (ds := cs.map claimD) (ed_var rfl (dp_mono e1 h1)) fun x H2 e2 dx => ⟨fun i σ H' => ∃ (o a : Option V), σ = [some v, some (.int ((l - leavess (cs.take i) : Nat) : Int)), some (.ref p), o, a] ∧ Ex H H' ∧ Im H2 H' ∧ Lm K H' p ((withinC (cs.take i) l).map claimD), ⟨none, none, rfl, e1.trans e2, Im.refl _, l1.mono e2⟩, fun i σ' H' _ ⟨_, _, _, _, im, _⟩ => dp_im im (by simp only [nol]; exact nols_map nol_claim _) dx, ?_, ?_⟩)
  · rintro i d u σ' H' hi du ⟨o, a, rfl, e, im, l'⟩
    obtain ⟨c, hci, rfl⟩ := get_map hi
    have hcm := List.mem_of_getElem? hci
    have hlt := (List.getElem?_eq_some_iff.mp hci).1
    refine seq_ed (set_ed (K := K) (d := .int (leaves c : Int)) (ed_call c (eda_cons (ed_var rfl du) eda_nil) (hc c hcm)) fun m H3 e3 d3 => ?_)
    obtain rfl := dp_int d3
    dsimp only
    have hb := Bool.eq_false_or_eq_true (decide (leaves c ≤ l - leavess (cs.take i)))
    refine seq_ed (app_ed (K := K) (d := claimD (if leaves c ≤ l - leavess (cs.take i) then c else .shares 1)) rfl (l'.mono e3) (nols_map nol_claim _) (ed_if (b := decide (leaves c ≤ l - leavess (cs.take i))) ((et_test (ed_le (ed_var rfl (.int _)) (ed_var rfl (.int _)))).cast (decide_eq_decide.mpr (by omega))) (fun h => ?_) fun h => ?_) (nol_claim _) (by rw [List.length_map, withinC_len, List.length_take]; show _ < 16777216; omega) fun H4 b4 i4 l4 => ?_)
    · rw [if_pos (of_decide_eq_true h)]; exact ed_var rfl (dp_mono e3 du)
    · rw [if_neg (of_decide_eq_false h), claimD]
      exact ed_tup (eda_cons ed_str (eda_cons (ed_tup (eda_cons ed_int (eda_cons ed_int eda_nil))) eda_nil))
    dsimp only
    have e4 := b4.ex hp (e.trans e3)
    refine set_ed (K := K) (d := .int ((l - leavess (cs.take (i + 1)) : Nat) : Int)) ((ed_max2 ed_int (ed_sub (ed_var rfl (.int _)) (ed_var rfl (.int _)))).cast ?_) fun m2 H5 e5 d5 => ?_
    · rw [take_snoc hci, leavess_append]
      simp only [leavess]
      congr 1; omega
    · obtain rfl := dp_int d5
      refine ⟨_, _, rfl, e4.trans e5, (im.trans (im_ex e3)).trans (i4.trans (im_ex e5)), ?_⟩
      rw [take_snoc hci, withinC_snoc, List.map_append]
      exact l4.mono e5
  · rintro σ' H' ⟨o, a, rfl, e, im, l'⟩
    rw [List.length_map, List.take_length] at l'
    dsimp only
    exact ret_ed (K := K) (ed_tupleL (edt_var rfl l').toD) fun z H3 e3 d3 => k z H3 (e.trans e3) d3
end
end Sw
namespace Sw
open PySem PySem.Spec PyProof PyProof.Rows L2 Evl SwT
/-- xs[i], read for xs[i] += e -/
theorem get_list {X : Cx} : PGet X (rIxL X.K) := by
  intro pins s σ H o i ov iv Q I ro ri h
  obtain ⟨p, xs, k, z, rfl, rfl, hq, he, q⟩ := h
  cases ro
  obtain ⟨t, rfl⟩ := ri
  obtain ⟨its, r, pl, hz⟩ := I.list hq
  obtain ⟨j, h1, h2, h3, h4, h5⟩ := atI_get he
  obtain ⟨u, eu, ru⟩ := r.get h2
  have hl := r.length
  have hn := line63
  have fin : EP X pins σ Q u s := ⟨z, H, I, ru, q⟩
  by_cases h0 : 0 ≤ k
  · have hj : k.toNat = j := by
      rw [seqIndex_of h0 h5] at h1
      exact Option.some.inj h1
    exact wpAny_getItem_list pl.isList h0 (by omega) (by rw [hj]; simpa using eu) fin
  · have hj : (k + (its.toArray.size : Int)).toNat = j := by
      rw [seqIndex_neg (by omega) h4] at h1
      rw [List.size_toArray, ← hl]
      exact Option.some.inj h1
    exact wpAny_getItem_list_neg pl.isList (by omega) (by rw [List.size_toArray] <;> omega) (by omega) (by rw [hj]; simpa using eu) fin
section
variable {K : PySem.W.Frag} {σ : L2.St} {H H' : Hp} {ta tb te : TE} {ds : List PyData} {D : Ends}
theorem cut_drop (xs : List V) (n : Nat) : cutV xs (some (n : Int)) none = xs.drop n := by
  unfold cutV
  rw [HT.sIx_nat, HT.sIx_none]
  by_cases h : n ≤ xs.length
  · rw [Nat.min_eq_left h]
    exact List.take_of_length_le (by rw [List.length_drop]; exact Nat.le_refl _)
  · rw [Nat.min_eq_right (by omega), List.drop_length, List.drop_of_length_le (by omega), List.take_nil]
theorem cut_take (xs : List V) (n : Nat) : cutV xs none (some (n : Int)) = xs.take n := by
  unfold cutV
  rw [HT.sIx_nat, HT.sIx_none, List.drop_zero, Nat.sub_zero]
  by_cases h : n ≤ xs.length
  · rw [Nat.min_eq_left h]
  · rw [Nat.min_eq_right (by omega), List.take_length, List.take_of_length_le (by omega)]
theorem edl_drop {n : Nat} (ha : Ed K te σ H (.list ds)) (hb : Ed K tb σ H (.int n)) : EdL K (tSl (rSlL K) te (tPart tb) tNoPart) σ H (ds.drop n) := fun H1 e Q q =>
  ha H1 e _ fun v H2 e2 d2 => hb H2 (e.trans e2) _ fun u H3 e3 d3 => by
    obtain rfl := dp_int d3
    obtain ⟨a, us, rfl, s1, a1⟩ := dp_lst (dp_mono e3 d2)
    refine ⟨n, rfl, a, us, rfl, s1, fun p hp => ?_⟩
    rw [cut_drop]
    exact q p _ ((e2.trans e3).trans (Ex.new hp)) (fresh_back (e2.trans e3) hp) ⟨_, upd_same, dps_mono (Ex.new hp) (dps_drop n a1)⟩
theorem edl_take {n : Nat} (ha : Ed K te σ H (.list ds)) (hb : Ed K tb σ H (.int n)) : EdL K (tSl (rSlL K) te tNoPart (tPart tb)) σ H (ds.take n) := fun H1 e Q q =>
  ha H1 e _ fun v H2 e2 d2 => hb H2 (e.trans e2) _ fun u H3 e3 d3 => by
    obtain rfl := dp_int d3
    obtain ⟨a, us, rfl, s1, a1⟩ := dp_lst (dp_mono e3 d2)
    refine ⟨n, rfl, a, us, rfl, s1, fun p hp => ?_⟩
    rw [cut_take]
    exact q p _ ((e2.trans e3).trans (Ex.new hp)) (fresh_back (e2.trans e3) hp) ⟨_, upd_same, dps_mono (Ex.new hp) (dps_take n a1)⟩
theorem setl_ed {i j : Nat} {p : Addr} {xs : List V} {d : PyData} (hs : σ[i]? = some (some (.ref p))) (hp : H p = some (.lst xs)) (he : Ed K te σ H d) (hj : j < xs.length) (k : ∀ v H', Ex H H' → Dp K H' v d → D.nx σ (upd H' p (.lst (xs.set j v)))) :
    tAsg te (gSub (tVar i) (tC (.int (j : Int))) L2.rSetL) D σ H := he.run fun v H1 e1 d1 => ⟨_, hs, p, xs, (j : Int), j, rfl, rfl, e1 _ _ hp, by unfold ixN; rw [if_pos (Int.natCast_nonneg j), if_pos (by omega), Int.toNat_natCast], k v H1 e1 d1⟩
theorem augl_ed {i j : Nat} {p : Addr} {xs : List V} {m n : Int} {f : Int → Int → Int} (hs : σ[i]? = some (some (.ref p))) (hp : H p = some (.lst xs)) (hx : xs[j]? = some (.int m)) (he : Ed K te σ H (.int n)) (k : ∀ H', Ex H H' → D.nx σ (upd H' p (.lst (xs.set j (.int (f m n)))))) :
    tAugS (tVar i) (tC (.int (j : Int))) te (rIxL K) (ipI f) L2.rSetL D σ H := by
  have hj : j < xs.length := (List.getElem?_eq_some_iff.mp hx).1
  refine ⟨_, hs, p, xs, (j : Int), .int m, rfl, rfl, sq_of hp, atI_nat hx, he.run fun v H1 e1 d1 => ?_⟩
  obtain rfl := dp_int d1
  exact ⟨m, n, rfl, rfl, p, xs, (j : Int), j, rfl, rfl, e1 _ _ hp, by unfold ixN; rw [if_pos (Int.natCast_nonneg j), if_pos (by omega), Int.toNat_natCast], k H1 e1⟩
theorem if_join2 {b : Bool} {t : TT} {t1 t2 : TS} {Pst : L2.St → Hp → Prop} (h : Et K t σ H b) (k : ∀ σ' H', Pst σ' H' → D.nx σ' H') (h1 : (∀ σ' H', Pst σ' H' → D.nx σ' H') → b = true → ∀ H', Ex H H' → t1 D σ H') (h2 : (∀ σ' H', Pst σ' H' → D.nx σ' H') → b = false → ∀ H', Ex H H' → t2 D σ H') : tIfS t t1 t2 D σ H :=
  if_et h (h1 k) (h2 k)
theorem ed_pow {i j : Int} (ha : Ed K ta σ H (.int i)) (hb : Ed K tb σ H (.int j)) (hc : CPow i j) : Ed K (tOp (rI CPow fun i j => .int (i ^ j.toNat)) ta tb) σ H (.int (i ^ j.toNat)) := ed_iC ha hb hc fun _ => .int _
end
/-- the bag at p, with room for r more draws -/
structure Bg (H : Hp) (p : Addr) (b0 b1 b2 : Nat) (c : Addr) (cs : List Nat) : Prop where
  at_ : H p = some (.lst [.int b0, .int b1, .int b2, .ref c])
  ne : c ≠ p
  hc : H c = some (.lst (cs.map fun n : Nat => V.int n))
  ln : cs.length ≤ 1000
def Bag (H : Hp) (p c : Addr) (r : Nat) : Prop := ∃ (b0 b1 b2 : Nat) (cs : List Nat), Bg H p b0 b1 b2 c cs ∧ b1 < 2147483647 ∧ b2 + r ≤ 1000000000
theorem Bag.le {H : Hp} {p c : Addr} {r k : Nat} (h : Bag H p c k) (e : r ≤ k) : Bag H p c r := by
  obtain ⟨b0, b1, b2, cs, h1, h2, h3⟩ := h
  exact ⟨b0, b1, b2, cs, h1, h2, by omega⟩
theorem Bg.mono {H H' : Hp} {p c : Addr} {b0 b1 b2 : Nat} {cs : List Nat} (e : Ex H H') (h : Bg H p b0 b1 b2 c cs) : Bg H' p b0 b1 b2 c cs := ⟨e _ _ h.at_, h.ne, e _ _ h.hc, h.ln⟩
theorem Bag.mono {H H' : Hp} {p c : Addr} {r : Nat} (e : Ex H H') (h : Bag H p c r) : Bag H' p c r := by
  obtain ⟨b0, b1, b2, cs, h1, h2, h3⟩ := h
  exact ⟨b0, b1, b2, cs, h1.mono e, h2, h3⟩
/-- another list changed -/
theorem Bag.exB {H H' : Hp} {p c q : Addr} {r : Nat} (e : ExB q H H') (h : Bag H p c r) (hp : p ≠ q) (hc : c ≠ q) : Bag H' p c r := by
  obtain ⟨b0, b1, b2, cs, h1, h2, h3⟩ := h
  exact ⟨b0, b1, b2, cs, ⟨e _ _ hp h1.at_, h1.ne, e _ _ hc h1.hc, h1.ln⟩, h2, h3⟩
theorem Bag.old {H : Hp} {p c q : Addr} {r : Nat} (h : Bag H p c r) (hq : H q = none) : q ≠ p ∧ q ≠ c := by
  obtain ⟨_, _, _, _, hB, _⟩ := h
  exact ⟨fun z => (ne_of_none hB.at_ hq) z.symm, fun z => (ne_of_none hB.hc hq) z.symm⟩
theorem Bg.lm {K : PySem.W.Frag} {H : Hp} {p c : Addr} {b0 b1 b2 : Nat} {cs : List Nat} (h : Bg H p b0 b1 b2 c cs) : Lm K H p [.int b0, .int b1, .int b2, .list (cs.map fun n : Nat => PyData.int n)] := by
  refine ⟨_, h.at_, .cons (.int _) (.cons (.int _) (.cons (.int _) (.cons (.lst (sq_of h.hc) ?_) .nil)))⟩
  have := dps_ints (K := K) (H := H) (cs.map fun n : Nat => (n : Int))
  rw [List.map_map, List.map_map] at this
  exact this
theorem Bg.set {H : Hp} {p c : Addr} {b0 b1 b2 : Nat} {cs : List Nat} (h : Bg H p b0 b1 b2 c cs) (d0 d1 d2 : Nat) : Bg (upd H p (.lst [.int d0, .int d1, .int d2, .ref c])) p d0 d1 d2 c cs := ⟨upd_same, h.ne, by rw [upd_ne h.ne]; exact h.hc, h.ln⟩
/-- one draw -/
def spTk : Sp := fun vs H Q _ => ∃ p c r n, vs = [.ref p, .int ((n : Nat) : Int)] ∧ Bag H p c (r + 1) ∧ 1 ≤ n ∧ n < 1073741824 ∧ ∀ (k : Nat) H', k < n → ExB p H H' → Bag H' p c r → Q (.int k) H'
end Sw
namespace Sw
open PySem PySem.Spec PyProof.Rows L2 Evl SwT
theorem spTk_len : ∀ vs H Q E, spTk vs H Q E → vs.length = 2 := fun vs H Q E ⟨_, _, _, _, h, _⟩ => by rw [h]; rfl
def firstD (cs : List Nat) (n : Nat) : Nat := (cs.drop n).headD 0
theorem cdiv_small {i : Int} {n : Nat} (h1 : 1 ≤ n) (h2 : n < 1073741824) : CDivW i (n : Int) := ⟨by omega, by
  have : ((n : Int)).natAbs.log2 < 30 := by rw [Int.natAbs_natCast]; exact (Nat.log2_lt (by omega)).mpr h2
  omega⟩
theorem cmul_small {i j : Int} (h1 : 0 ≤ i ∧ i < 1099511627776) (h2 : 0 ≤ j ∧ j < 1099511627776) : CMulW i j := cmul (a := 40) (b := 40) (by omega) (by omega)
theorem int_mod_lt {i : Int} {m : Nat} (hm : 0 < m) : ∃ k : Nat, i % (m : Int) = (k : Int) ∧ k < m := ⟨(i % (m : Int)).toNat, by have := Int.emod_nonneg i (b := (m : Int)) (by omega); omega, by have := Int.emod_nonneg i (b := (m : Int)) (by omega); have := Int.emod_lt_of_pos i (b := (m : Int)) (by omega); omega⟩
section
variable {P : Program} {w : World} {K : PySem.W.Frag} {mg : Str → Option Value} {base : Heap}
theorem sc__law_take : FnScope ["_law_bag_here", "_law_many", "_law_begin", "_law_second", "_law_cell", "_law_stirred", "_law_value"] ["_law_bag_here", "_law_many"] (defScope s__law_take) := ⟨rfl, rfl, rfl, by decide +kernel, rfl, by decide +kernel, by decide +kernel⟩
abbrev Cf__law_take (P w K mg base) := Cal P w K mg base "_law_take" 1 ["_law_bag_here", "_law_many"] spTk
theorem ok__law_take (T : Tx w K mg) : Cf__law_take P w K mg base := by
  refine T.cal (d := d__law_take) 51 46 rfl rfl rfl rfl rfl sc__law_take (fun _ _ _ _ _ _ us hl => match us, hl with | [_, _], _ => rfl) spTk_len fun f cdv A outer s H vs Q E hr h => ⟨_, (pss_cons (ps_if (pt_cmpR (op_eqD hr.units) (pe_ix ix_seq (pv 0) pe_int (fun _ _ => rfl)) pe_int (nomark _)) (pss_cons (ps_set (i := 4) sc__law_take.nd rfl (by first | exact Or.inl rfl | exact Or.inr rfl) (pe_ix ix_seq (pe_op op_cat (pe_slice sl_list (pe_ix ix_seq (pv 0) pe_int (fun _ _ => rfl)) (po_some (pe_ix ix_seq (pv 0) pe_int (fun _ _ => rfl))) po_none) (pe_lst (pa_cons pe_int pa_nil))) pe_int (fun _ _ => rfl)))
      (pss_cons (ps_augS (pv 0) pe_int get_list pe_int ip_add set_list)
      (pss_cons (ps_if (pt_cmpR op_ge (pv 4) (pe_op op_pow pe_int pe_int) (nomark _)) (pss_one (ps_asg (pv 4) (pg_sub (pv 0) pe_int set_list))) pss_nil)
      (pss_cons (ps_set (i := 5) sc__law_take.nd rfl (by first | exact Or.inl rfl | exact Or.inr rfl) (pe_op op_add (pe_op op_add (pe_op op_mulW (pe_ix ix_seq (pv 0) pe_int (fun _ _ => rfl)) pe_int) (pe_op op_mod (pe_callTy call_int1 (by rfl) T.f_int (by decide +kernel) (pa_cons (pv 4) pa_nil)) pe_int)) (pe_op op_mulW pe_int (pe_ix ix_seq (pv 0) pe_int (fun _ _ => rfl)))))
      (pss_one (ps_asg (pe_op op_mod (pe_callTy call_int1 (by rfl) T.f_int (by decide +kernel) (pa_cons (pv 5) pa_nil)) pe_int) (pg_sub (pv 0) pe_int set_list))))))) pss_nil)
      (pss_cons (ps_if (pt_cmpR op_gt (pe_ix ix_seq (pv 0) pe_int (fun _ _ => rfl)) pe_int (nomark _)) (pss_cons (ps_set (i := 6) sc__law_take.nd rfl (by first | exact Or.inl rfl | exact Or.inr rfl) (pe_op op_mod (pe_callTy call_int1 (by rfl) T.f_int (by decide +kernel) (pa_cons (pe_ix ix_seq (pv 0) pe_int (fun _ _ => rfl)) pa_nil)) (pv 1)))
      (pss_cons (ps_asg (pe_op op_fdivW (pe_callTy call_int1 (by rfl) T.f_int (by decide +kernel) (pa_cons (pe_ix ix_seq (pv 0) pe_int (fun _ _ => rfl)) pa_nil)) (pv 1)) (pg_sub (pv 0) pe_int set_list))
      (pss_one (ps_ret (pv 6))))) pss_nil)
      (pss_cons (ps_set (i := 2) sc__law_take.nd rfl (by first | exact Or.inl rfl | exact Or.inr rfl) (pe_op op_mod (pe_callTy call_int1 (by rfl) T.f_int (by decide +kernel) (pa_cons (pe_op op_mulW (pe_op op_add (pe_ix ix_seq (pv 0) pe_int (fun _ _ => rfl)) pe_int) pe_int) pa_nil)) pe_int))
      (pss_cons (ps_set (i := 3) sc__law_take.nd rfl (by first | exact Or.inl rfl | exact Or.inr rfl) (pe_op op_mod (pe_callTy call_int1 (by rfl) T.f_int (by decide +kernel) (pa_cons (pe_op op_mulW (pe_op op_mod (pe_callTy call_int1 (by rfl) T.f_int (by decide +kernel) (pa_cons (pe_op op_mulW (pv 2) (pv 2)) pa_nil)) pe_int) pe_int) pa_nil)) pe_int))
      (pss_one (ps_ret (pe_op op_mod (pe_callTy call_int1 (by rfl) T.f_int (by decide +kernel) (pa_cons (pe_op op_fdivW (pv 3) pe_int) pa_nil)) (pv 1)))))))), ?_⟩
  obtain ⟨p, c, r, n, rfl, ⟨b0, b1, b2, cs, hB, hb1, hr2⟩, hn1, hn2, k⟩ := h
  refine seq_ed (if_join2 (K := K) (b := decide ((b0 : Int) = 0)) (Pst := fun σ' H' => ∃ (o4 o5 : Option V) (d0 d1 d2 : Nat), σ' = [some (.ref p), some (.int n), none, none, o4, o5, none] ∧ Bg H' p d0 d1 d2 c cs ∧ d1 < 2147483647 ∧ d2 + r ≤ 1000000000 ∧ ExB p H H') ?_ ?_ ?_ ?_)
  · exact et_test (ed_eqi (ed_ixL (edt_var rfl hB.lm).toD ed_int rfl) ed_int)
  · rintro σ' H1 ⟨o4, o5, d0, d1, d2, rfl, hB, h1, h2, hx⟩
    dsimp only
    refine seq_ed (if_et (K := K) (b := decide ((0 : Int) < (d0 : Int))) (et_test (ed_gt (ed_ixL (edt_var rfl hB.lm).toD ed_int rfl) ed_int)) (fun hb H2 e2 => ?_) fun hb H2 e2 => nil_ed ?_)
    · refine seq_ed (set_ed (K := K) (d := .int ((d0 % n : Nat) : Int)) ((ed_mod (ed_toint (ed_ixL (edt_var rfl (hB.mono e2).lm).toD ed_int rfl)) (ed_var rfl (.int _)) (by omega)).cast (by rw [Int.natCast_emod])) fun v H3 e3 d3 => ?_)
      obtain rfl := dp_int d3
      dsimp only
      have hB3 := hB.mono (e2.trans e3)
      refine seq_ed (setl_ed (K := K) (j := 0) (d := .int ((d0 / n : Nat) : Int)) rfl hB3.at_ ((ed_div (ed_toint (ed_ixL (edt_var rfl hB3.lm).toD ed_int rfl)) (ed_var rfl (.int _)) (cdiv_small hn1 hn2)).cast (by rw [Int.natCast_ediv])) (by simp) fun v H4 e4 d4 => ?_)
      obtain rfl := dp_int d4
      dsimp only
      refine ret_ed (K := K) (ed_var rfl (.int _)) fun v H5 e5 d5 => ?_
      obtain rfl := dp_int d5
      exact k _ H5 (Nat.mod_lt _ (by omega)) (((hx.trans (ex_exB (e2.trans (e3.trans e4)))).trans exB_upd).trans (ex_exB e5)) ⟨_, _, _, _, ((hB3.mono e4).set (d0 / n) d1 d2).mono e5, h1, by omega⟩
    · dsimp only
      have hB2 := hB.mono e2
      obtain ⟨g, hg, hg2⟩ := int_mod_lt (i := ((d1 : Int) + 1) * 39373) (m := 1000000007) (by decide)
      refine seq_ed (set_ed (K := K) (d := .int (g : Int)) ((ed_mod (ed_toint (ed_mul (ed_add (ed_ixL (edt_var rfl hB2.lm).toD ed_int rfl) ed_int) ed_int (cmul_small (by omega) (by omega)))) ed_int (by decide)).cast (by rw [← hg]; rfl)) fun v H3 e3 d3 => ?_)
      obtain rfl := dp_int d3
      dsimp only
      obtain ⟨g2, hg3, hg4⟩ := int_mod_lt (i := (g : Int) * (g : Int)) (m := 998244353) (by decide)
      obtain ⟨g4, hg5, hg6⟩ := int_mod_lt (i := (g2 : Int) * 30011) (m := 998244353) (by decide)
      refine seq_ed (set_ed (K := K) (d := .int (g4 : Int)) ((ed_mod (ed_toint (ed_mul (i := (g2 : Int)) ((ed_mod (ed_toint (ed_mul (ed_var rfl (.int _)) (ed_var rfl (.int _)) (cmul_small (by omega) (by omega)))) ed_int (by decide)).cast (by rw [← hg3]; rfl)) ed_int (cmul_small (by omega) (by omega)))) ed_int (by decide)).cast (by rw [← hg5]; rfl)) fun v H4 e4 d4 => ?_)
      obtain rfl := dp_int d4
      dsimp only
      obtain ⟨g6, hg7, hg8⟩ := int_mod_lt (i := (g4 : Int) / 7) (m := n) (by omega)
      refine ret_ed (K := K) (d := .int (g6 : Int)) ((ed_mod (ed_toint (ed_div (ed_var rfl (.int _)) ed_int (cdiv_small (n := 7) (by decide) (by decide)))) (ed_var rfl (.int _)) (by omega)).cast (by rw [← hg7]; rfl)) fun v H5 e5 d5 => ?_
      obtain rfl := dp_int d5
      have e25 := ((e2.trans e3).trans e4).trans e5
      exact k _ H5 hg8 (hx.trans (ex_exB e25)) ⟨_, _, _, _, hB.mono e25, h1, by omega⟩
  · intro hk hb H1 e1
    have hB1 := hB.mono e1
    have hat : atI ((cs.map fun n : Nat => PyData.int n).drop b2 ++ [PyData.int 0]) ((0 : Nat) : Int) = some (.int (firstD cs b2 : Int)) := by
      refine atI_nat ?_
      unfold firstD
      rw [← List.map_drop]
      cases cs.drop b2 <;> rfl
    have hlen : ((cs.map fun n : Nat => PyData.int n).drop b2).length + [PyData.int 0].length ≤ sizeLine := by
      have := hB.ln
      rw [List.length_drop, List.length_map]
      show _ + 1 ≤ 16777216
      omega
    refine seq_ed (set_ed (K := K) (d := .int (firstD cs b2 : Int)) (ed_ixL (edl_cat (edl_drop (ed_ixL (edt_var rfl hB1.lm).toD ed_int rfl) (ed_ixL (edt_var rfl hB1.lm).toD ed_int rfl)).toT (edl_lst (eda_cons ed_int eda_nil)).toT hlen).toD ed_int hat) fun v H2 e2 d2 => ?_)
    obtain rfl := dp_int d2
    generalize firstD cs b2 = cell
    dsimp only
    have hB2 := hB1.mono e2
    refine seq_ed (augl_ed (K := K) (j := 2) (m := (b2 : Int)) (n := 1) rfl hB2.at_ rfl ed_int fun H3 e3 => ?_)
    dsimp only
    have hB3 : Bg (upd H3 p (.lst [.int b0, .int b1, .int ((b2 + 1 : Nat) : Int), .ref c])) p b0 b1 (b2 + 1) c cs := (hB2.mono e3).set b0 b1 (b2 + 1)
    have hx3 : ExB p H (upd H3 p (.lst [.int b0, .int b1, .int ((b2 + 1 : Nat) : Int), .ref c])) := (ex_exB ((e1.trans e2).trans e3)).trans exB_upd
    have hu : [V.int (b0 : Int), .int b1, .int b2, .ref c].set 2 (.int ((b2 : Int) + 1)) = [.int b0, .int b1, .int ((b2 + 1 : Nat) : Int), .ref c] := rfl
    rw [hu]
    refine seq_ed (if_join2 (K := K) (b := decide (((10 : Int) ^ (18 : Int).toNat) ≤ (cell : Int))) (Pst := fun σ' H' => ∃ d0 : Nat, σ' = [some (.ref p), some (.int n), none, none, some (.int cell), none, none] ∧ Bg H' p d0 b1 (b2 + 1) c cs ∧ ExB p H H') ?_ ?_ ?_ ?_)
    · exact et_test (ed_ge (ed_var rfl (.int _)) (ed_pow ed_int ed_int ⟨by decide, by decide, by decide⟩))
    · rintro σ' H4 ⟨d0, rfl, hB4, hx4⟩
      dsimp only
      obtain ⟨g, hg, hg2⟩ := int_mod_lt (i := (cell : Int)) (m := 2147483647) (by decide)
      refine seq_ed (set_ed (K := K) (d := .int ((b1 : Int) * 48271 + (g : Int) + 7919 * ((b2 + 1 : Nat) : Int))) (ed_add (ed_add (ed_mul (ed_ixL (edt_var rfl hB4.lm).toD ed_int rfl) ed_int (cmul_small (by omega) (by omega))) ((ed_mod (ed_toint (ed_var rfl (.int _))) ed_int (by decide)).cast (by rw [← hg]; rfl))) (ed_mul ed_int (ed_ixL (edt_var rfl hB4.lm).toD ed_int rfl) (cmul_small (by omega) (by omega)))) fun v H5 e5 d5 => ?_)
      obtain rfl := dp_int d5
      dsimp only
      have hB5 := hB4.mono e5
      obtain ⟨g2, hg3, hg4⟩ := int_mod_lt (i := (b1 : Int) * 48271 + (g : Int) + 7919 * ((b2 + 1 : Nat) : Int)) (m := 2147483647) (by decide)
      refine setl_ed (K := K) (j := 1) (d := .int (g2 : Int)) rfl hB5.at_ ((ed_mod (ed_toint (ed_var rfl (.int _))) ed_int (by decide)).cast (by rw [← hg3]; rfl)) (by simp) fun v H6 e6 d6 => ?_
      obtain rfl := dp_int d6
      exact hk _ _ ⟨_, _, _, _, _, rfl, (hB5.mono e6).set d0 g2 (b2 + 1), hg4, by omega, (hx4.trans (ex_exB (e5.trans e6))).trans exB_upd⟩
    · intro hk2 hb2 H4 e4
      refine setl_ed (K := K) (j := 0) (d := .int (cell : Int)) rfl (hB3.mono e4).at_ (ed_var rfl (.int _)) (by simp) fun v H5 e5 d5 => ?_
      obtain rfl := dp_int d5
      exact hk2 _ _ ⟨_, rfl, ((hB3.mono e4).mono e5).set cell b1 (b2 + 1), (hx3.trans (ex_exB (e4.trans e5))).trans exB_upd⟩
    · intro hk2 hb2 H4 e4
      exact nil_ed (hk2 _ _ ⟨_, rfl, hB3.mono e4, hx3.trans (ex_exB e4)⟩)
  · intro hk hb H1 e1
    exact nil_ed (hk _ _ ⟨_, _, _, _, _, rfl, hB.mono e1, hb1, by omega, ex_exB e1⟩)
end
end Sw
namespace Sw
open PySem PySem.Spec PyProof.Rows L2 Evl SwT
theorem ExB.imb {H H' : Hp} {p c : Addr} {r : Nat} (b : ExB p H H') (B : Bag H p c r) : Im H H' := fun a o s h => by
  by_cases z : a = p
  · subst z
    obtain ⟨_, _, _, _, hB, _⟩ := B
    rw [hB.at_] at h; cases h; cases s
  · exact b a o z h
/-- a for over a list's name -/
theorem for_vm {K : PySem.W.Frag} {D : Ends} {σ : L2.St} {H : Hp} {q : Addr} {ds : List PyData} {i0 : Nat} {g : TG} {tb : TS} (hs0 : σ[i0]? = some (some (.ref q))) (hl0 : Lm K H q ds) (Pv : Nat → L2.St → Hp → Prop) (h0 : Pv 0 σ H) (hst : ∀ i σ' H', i ≤ ds.length → Pv i σ' H' → Lm K H' q ds)
    (hs : ∀ i d u σ' H', ds[i]? = some d → Dp K H' u d → Pv i σ' H' → g u σ' H' fun σ2 H2 => tb { D with nx := Pv (i + 1), ct := Pv (i + 1), bk := D.nx } σ2 H2) (hd : ∀ σ' H', Pv ds.length σ' H' → D.nx σ' H') : tFor (iList K (tVar i0)) g tb D σ H := by
  refine ⟨_, hs0, q, rfl, ⟨_, sq_of hl0.choose_spec.1⟩, fun i m σ' H' => m = ds.length - i ∧ i ≤ ds.length ∧ Pv i σ' H', ⟨ds.length, by simp, Nat.zero_le _, h0⟩, ?_⟩
  rintro i m σ' H' ⟨rfl, hi, hp⟩
  obtain ⟨us, s2, a2⟩ := hst i σ' H' hi hp
  by_cases hlt : i < ds.length
  · obtain ⟨v, v1, v2⟩ := dps_get a2 (List.getElem?_eq_getElem hlt)
    refine .inr ⟨⟨us, v, sq_of s2, v1⟩, Pv (i + 1), fun σ2 H2 z => ⟨ds.length - (i + 1), by omega, rfl, hlt, z⟩, fun y H2 hy => ?_⟩
    obtain ⟨rfl, hy⟩ := hy
    have ey := hy us (sq_of s2)
    rw [v1] at ey
    cases ey
    exact hs i _ v σ' H2 (List.getElem?_eq_getElem hlt) v2 hp
  · have : i = ds.length := by omega
    subst this
    exact .inl ⟨⟨us, sq_of s2, by rw [dps_len a2]; exact Nat.le_refl _⟩, hd σ' H' hp⟩
section
variable {K : PySem.W.Frag} {σ : L2.St} {H H' : Hp} {ta tb te : TE} {ts : TA} {ds : List PyData} {D : Ends} {p c : Addr}
end
theorem bag_ret {K : PySem.W.Frag} {D : Ends} {σ : L2.St} {H : Hp} {te : TE} {ds : List PyData} {a b d : Int} (h : EdL K te σ H ds) (k : ∀ c H1, Ex H H1 → H c = none → Lm K H1 c ds → ∀ p, H1 p = none → D.rt (.ref p) (upd H1 p (.lst [.int a, .int b, .int d, .ref c]))) :
    tRet (tLst (tCons (tC (.int a)) (tCons (tC (.int b)) (tCons (tC (.int d)) (tCons te tNil))))) D σ H := h.run fun c H1 e1 hc l1 => ⟨by show 4 ≤ 16777216; omega, fun p hp => k c H1 e1 hc l1 p hp⟩
/-- a draw from a list -/
def spSome (K : PySem.W.Frag) : Sp := fun vs H Q _ => ∃ p c r q ds, vs = [.ref p, .ref q] ∧ Bag H p c (r + 1) ∧ Lm K H q ds ∧ q ≠ p ∧ nols ds = true ∧ ds ≠ [] ∧ ds.length ≤ sizeLine ∧ ∀ v H' d, d ∈ ds → ExB p H H' → Bag H' p c r → Dp K H' v d → Q v H'
/-- all of a list, in some order -/
def spMix (K : PySem.W.Frag) : Sp := fun vs H Q _ => ∃ p c r q ds, vs = [.ref p, .ref q] ∧ Bag H p c (r + ds.length) ∧ Lm K H q ds ∧ q ≠ p ∧ nols ds = true ∧ ds.length < sizeLine ∧ ∀ q' H' es, es.Perm ds → ExB p H H' → Bag H' p c r → H q' = none → Lm K H' q' es → Q (.ref q') H'
def spBag (K : PySem.W.Frag) : Sp := fun vs H Q _ => ∃ l, ∃ ns : List Int, vs = [.ref l] ∧ SqL K H l (ns.map V.int) ∧ ∀ p c H', Ex H H' → H p = none → Bag H' p c 1000000000 → Q (.ref p) H'
section
variable {P : Program} {w : World} {K : PySem.W.Frag} {mg : Str → Option Value} {base : Heap}
theorem sc__law_some : FnScope ["_law_bag_here", "_law_things"] ["_law_bag_here", "_law_things"] (defScope s__law_some) := ⟨rfl, rfl, rfl, by decide +kernel, rfl, by decide +kernel, by decide +kernel⟩
abbrev Cf__law_some (P w K mg base) := Cal P w K mg base "_law_some" 2 ["_law_bag_here", "_law_things"] (spSome K)
theorem ok__law_some (T : Tx w K mg) (C__law_take : Cf__law_take P w K mg base) : Cf__law_some P w K mg base := by
  refine T.cal (d := d__law_some) 53 48 rfl rfl rfl rfl rfl sc__law_some (fun _ _ _ _ _ _ us hl => match us, hl with | [_, _], _ => rfl) (fun vs H Q E ⟨_, _, _, _, _, h, _⟩ => by rw [h]; rfl) fun f cdv A outer s H vs Q E hr h => ⟨_, (pss_one (ps_ret (pe_ix ix_seq (pv 1) (pe_cc C__law_take (hr.mono (by decide)) (by rfl) (pa_cons (pv 0) (pa_cons (pe_callB call_len (by rfl) T.f_len (by decide +kernel) (pa_cons (pv 1) pa_nil)) pa_nil))) (fun _ _ => rfl)))), ?_⟩
  obtain ⟨p, c, r, q, ds, rfl, hB, hL, hq, hn, hne, hlen, k⟩ := h
  have h1 : 1 ≤ ds.length := by cases ds with | nil => exact absurd rfl hne | cons => simp
  have hs : sizeLine = 16777216 := rfl
  refine ⟨_, rfl, ⟨_, rfl, (ed_lenL (edt_var (K := K) rfl hL).toD).run fun v H1 e1 d1 => ?_⟩⟩
  obtain rfl := dp_int d1
  refine ⟨p, c, r, ds.length, rfl, hB.mono e1, h1, by omega, fun i H2 hi b2 B2 => ?_⟩
  obtain ⟨us, u1, u2⟩ := (hL.mono e1).exB b2 hq (b2.imb (hB.mono e1)) hn
  obtain ⟨v, v1, v2⟩ := dps_get u2 (List.getElem?_eq_getElem hi)
  exact .inl ⟨q, us, (i : Int), v, rfl, rfl, sq_of u1, atI_nat v1, k v H2 _ (List.getElem_mem hi) ((ex_exB e1).trans b2) B2 v2⟩
theorem sc__law_mixed : FnScope ["_law_bag_here", "_law_things", "_law_found", "_law_thing"] ["_law_bag_here", "_law_things"] (defScope s__law_mixed) := ⟨rfl, rfl, rfl, by decide +kernel, rfl, by decide +kernel, by decide +kernel⟩
abbrev Cf__law_mixed (P w K mg base) := Cal P w K mg base "_law_mixed" 2 ["_law_bag_here", "_law_things"] (spMix K)
theorem ok__law_mixed (T : Tx w K mg) (C__law_take : Cf__law_take P w K mg base) : Cf__law_mixed P w K mg base := by
  refine T.cal (d := d__law_mixed) 52 47 rfl rfl rfl rfl rfl sc__law_mixed (fun _ _ _ _ _ _ us hl => match us, hl with | [_, _], _ => rfl) (fun vs H Q E ⟨_, _, _, _, _, h, _⟩ => by rw [h]; rfl) fun f cdv A outer s H vs Q E hr h => ⟨_, (pss_cons (ps_set (i := 2) sc__law_mixed.nd rfl (by first | exact Or.inl rfl | exact Or.inr rfl) (pe_lst pa_nil))
      (pss_cons (ps_for PassesOwn.never rfl (pi_list (pv 1)) (pg_name (i := 3) sc__law_mixed.nd rfl (by first | exact Or.inl rfl | exact Or.inr rfl)) (pss_one (ps_expr (pe_bm PySem.F.plainAttrs_list PySem.F.slot_list_insert PySem.F.type_list_insert mt_insert (pv 2) (pa_cons (pe_cc C__law_take (hr.mono (by decide)) (by rfl) (pa_cons (pv 0) (pa_cons (pe_op op_add (pe_callB call_len (by rfl) T.f_len (by decide +kernel) (pa_cons (pv 2) pa_nil)) pe_int) pa_nil))) (pa_cons (pv 3) pa_nil))))))
      (pss_one (ps_ret (pv 2))))), ?_⟩
  obtain ⟨p, c, r, q, ds, rfl, hB, hL, hq, hn, hlen, k⟩ := h
  have hs : sizeLine = 16777216 := rfl
  refine seq_ed (newl_ed (K := K) (ds := []) (edl_lst eda_nil) fun q2 H1 e1 hq2 l1 => ?_)
  dsimp only
  have old2 := hB.old hq2
  have inv : ∀ {H' : Hp} {es : List PyData} {n : Nat}, ExB p H H' → Bag H' p c n → True := fun _ _ => trivial
  refine seq_ed (for_vm (K := K) rfl (hL.mono e1) (fun i σ H' => ∃ (o : Option V) (es : List PyData), σ = [some (.ref p), some (.ref q), some (.ref q2), o] ∧ ExB p H H' ∧ Bag H' p c (r + (ds.length - i)) ∧ Lm K H' q2 es ∧ es.Perm (ds.take i)) ⟨none, [], rfl, ex_exB e1, hB.mono e1, l1, .refl _⟩ (fun i σ' H' _ ⟨_, _, _, e, B, _⟩ => hL.exB e hq (e.imb hB) hn) ?_ ?_)
  · rintro i d u σ' H' hi du ⟨o, es, rfl, e, B, ⟨vs, v1, v2⟩, hp⟩
    have hlt := (List.getElem?_eq_some_iff.mp hi).1
    have hel : es.length = i := by rw [hp.length_eq, List.length_take]; omega
    have hne : nols es = true := nols_of fun x hx => nols_mem hn (List.mem_of_mem_take (hp.mem_iff.mp hx))
    have hnd : nol d = true := nols_mem hn (List.mem_of_getElem? hi)
    refine ⟨_, rfl, .inl ⟨rfl, vs, sq_of v1⟩, ⟨_, rfl, (ed_add (ed_lenL (edt_var (K := K) rfl (⟨vs, v1, v2⟩ : Lm K H' q2 es)).toD) ed_int).run fun v H2 e2 d2 => ?_⟩⟩
    have ev : v = .int ((es.length + 1 : Nat) : Int) := dp_int d2
    subst ev
    have B2 : Bag H2 p c ((r + (ds.length - (i + 1))) + 1) := (B.mono e2).le (by omega)
    refine ⟨p, c, r + (ds.length - (i + 1)), es.length + 1, rfl, B2, by omega, by omega, fun j H3 hj b3 B3 => ?_⟩
    have im3 := b3.imb B2
    have w1 := b3 _ _ old2.1 (e2 _ _ v1)
    have w2 : DpAll K H3 vs es := dps_im im3 hne (dps_mono e2 v2)
    have du3 : Dp K H3 u d := dp_im im3 hnd (dp_mono e2 du)
    refine ⟨_, rfl, q2, vs, (j : Int), u, rfl, rfl, w1, by rw [dps_len v2]; omega, Int.natCast_nonneg _, by omega, ?_⟩
    have im4 : Im H3 (upd H3 q2 (.lst (vs.take (j : Int).toNat ++ [u] ++ vs.drop (j : Int).toNat))) := im_upd w1 rfl
    refine ⟨_, es.take j ++ [d] ++ es.drop j, rfl, fun b o hb h => ?_, B3.exB exB_upd (Ne.symm old2.1) (Ne.symm old2.2), ⟨_, upd_same, ?_⟩, ?_⟩
    · rw [upd_ne (ne_of_none h hq2)]; exact b3 b o hb (e2 _ _ (e b o hb h))
    · rw [Int.toNat_natCast]
      rw [Int.toNat_natCast] at im4
      have q := dps_im im4 hne w2
      exact dps_app (dps_app (dps_take j q) (.cons (dp_im im4 hnd du3) .nil)) (dps_drop j q)
    · rw [take_snoc hi]
      have : (es.take j ++ [d] ++ es.drop j).Perm (es ++ [d]) := by
        have h1 : (es.take j ++ ([d] ++ es.drop j)).Perm (es.take j ++ (es.drop j ++ [d])) := List.Perm.append_left _ List.perm_append_comm
        rw [← List.append_assoc, ← List.append_assoc, List.take_append_drop] at h1
        exact h1
      exact this.trans (List.Perm.append_right _ hp)
  · rintro σ' H' ⟨o, es, rfl, e, B, l, hp⟩
    rw [List.take_length] at hp
    exact ⟨_, rfl, k q2 H' es hp e (B.le (by omega)) hq2 l⟩
theorem sc__law_bag : FnScope ["_law_script", "_law_cell"] ["_law_script"] (defScope s__law_bag) := ⟨rfl, rfl, rfl, by decide +kernel, rfl, by decide +kernel, by decide +kernel⟩
abbrev Cf__law_bag (P w K mg base) := Cal P w K mg base "_law_bag" 1 ["_law_script"] (spBag K)
theorem ok__law_bag (T : Tx w K mg) : Cf__law_bag P w K mg base := by
  refine T.cal (d := d__law_bag) 50 45 rfl rfl rfl rfl rfl sc__law_bag (fun _ _ _ _ _ _ us hl => match us, hl with | [_], _ => rfl) (fun vs H Q E ⟨_, _, h, _⟩ => by rw [h]; rfl) fun f cdv A outer s H vs Q E hr h => ⟨_, (pss_one (ps_ret (pe_lst (pa_cons pe_int (pa_cons pe_int (pa_cons pe_int (pa_cons (pe_lc rfl sc__law_bag.nd (pi_list (pe_slice sl_list (pv 0) po_none (po_some pe_int))) (blkOk_by (own := [("_law_cell", 1)]) (N := ["_law_script", "_law_cell"]) (by kernel_rfl)) (fun _ _ _ _ _ => (pg_name (i := 1) sc__law_bag.nd rfl (by first | exact Or.inl rfl | exact Or.inr rfl))) (fun _ _ _ _ _ => pts_nil) (fun _ _ _ _ _ => (pe_callB call_abs (by rfl) T.f_abs (by decide +kernel) (pa_cons (pv 1) pa_nil)))) pa_nil))))))), ?_⟩
  obtain ⟨l, ns, rfl, hs, k⟩ := h
  have hd : Dp K H (.ref l) (.list (ns.map PyData.int)) := .lst hs (dps_ints ns)
  have hlc : EdL K (tLc (iList K (tSl (rSlL K) (tVar 0) tNoPart (tPart (tC (.int ((63 : Nat) : Int)))))) (gName 1) tYes (tCB (fun xs H Q => ∃ i, xs = [.int i] ∧ Q (.int (if i < 0 then -i else i)) H) (tCons (tVar 1) tNil)) [1]) [some (.ref l), none] H ((ns.take 63).map fun n => PyData.int (n.natAbs : Int)) :=
    lc_m1 PyData.int (ns.take 63) (fun n => PyData.int (n.natAbs : Int)) (edi_list ((edl_take (ed_var rfl hd) ed_int).toD.cast (by rw [List.map_take]))) (by rw [List.length_take]; show _ ≤ 16777216; omega) fun x hx v1 H2 e2 d2 => tu_name rfl et_yes fun _ => ⟨ed_abs (ed_var rfl d2), rfl⟩
  refine bag_ret (K := K) hlc fun c H1 e1 hc l1 p hp => ?_
  refine k p c _ (e1.trans (Ex.new hp)) (fresh_back e1 hp) ⟨0, 1234567891, 0, (ns.take 63).map Int.natAbs, ⟨upd_same, ?_, ?_, ?_⟩, by omega, by omega⟩
  · obtain ⟨us, u1, _⟩ := l1
    exact ne_of_none u1 hp
  · obtain ⟨us, u1, u2⟩ := l1
    have u2 : DpAll K H1 us (((ns.take 63).map fun n => (n.natAbs : Int)).map PyData.int) := by rw [List.map_map]; exact u2
    obtain rfl := dps_ints_eq u2
    rw [upd_ne (ne_of_none u1 hp), u1, List.map_map, List.map_map]
    rfl
  · rw [List.length_map, List.length_take]; omega
end
end Sw
namespace Sw
open PySem PySem.Spec PyProof.Rows L2 Evl SwT
/-- all but the list at p is as it was -/
structure ExG (p : Addr) (H H' : Hp) : Prop where
  b : ExB p H H'
  i : Im H H'
theorem ExG.refl {p : Addr} (H : Hp) : ExG p H H := ⟨fun _ _ _ h => h, Im.refl H⟩
theorem ExG.trans {p : Addr} {H H1 H2 : Hp} (a : ExG p H H1) (b : ExG p H1 H2) : ExG p H H2 := ⟨a.b.trans b.b, a.i.trans b.i⟩
theorem Ex.g {p : Addr} {H H' : Hp} (e : Ex H H') : ExG p H H' := ⟨ex_exB e, im_ex e⟩
theorem ExB.g {p c : Addr} {r : Nat} {H H' : Hp} (e : ExB p H H') (B : Bag H p c r) : ExG p H H' := ⟨e, e.imb B⟩
theorem ExG.lm {K : PySem.W.Frag} {p q : Addr} {H H' : Hp} {ds : List PyData} (e : ExG p H H') (h : Lm K H q ds) (hq : q ≠ p) (hn : nols ds = true) : Lm K H' q ds := h.exB e.b hq e.i hn
/-- data out of a bag -/
def spB (K : PySem.W.Frag) {α : Type} (n : Nat) (args : α → List PyData) (pre : α → Prop) (res : α → PyData → Prop) : Sp := fun vs H Q _ => ∃ p c r us x, vs = V.ref p :: us ∧ Bag H p c (r + n) ∧ DpAll K H us (args x) ∧ pre x ∧
  ∀ v H' d, res x d → nol d = true → ExB p H H' → Bag H' p c r → Dp K H' v d → Q v H'
theorem spB_len {K : PySem.W.Frag} {α : Type} {n : Nat} {args : α → List PyData} {pre : α → Prop} {res : α → PyData → Prop} {m : Nat} (h : ∀ x, (args x).length + 1 = m) : ∀ vs H Q E, spB K n args pre res vs H Q E → vs.length = m := fun vs H Q E ⟨p, c, r, us, x, e, _, hx, _⟩ => by rw [e, List.length_cons, dps_len hx, h x]
section
variable {K : PySem.W.Frag} {σ : L2.St} {H H' : Hp} {ta tb te : TE} {ts : TA} {tt : TT} {ds : List PyData} {d : PyData} {D : Ends} {p c q : Addr} {m n i j : Nat} {P P' : PyData → Prop} {Ps : List PyData → Prop}
def Eg (K : PySem.W.Frag) (p c : Addr) (n : Nat) (te : TE) (σ : L2.St) (H : Hp) (P : PyData → Prop) : Prop := ∀ H1 r, ExG p H H1 → Bag H1 p c (r + n) → ∀ Q : VK, (∀ v H2 d, P d → nol d = true → ExG p H1 H2 → Bag H2 p c r → Dp K H2 v d → Q v H2) → te σ H1 Q
def EgA (K : PySem.W.Frag) (p c : Addr) (n : Nat) (ts : TA) (σ : L2.St) (H : Hp) (P : List PyData → Prop) : Prop := ∀ H1 r, ExG p H H1 → Bag H1 p c (r + n) → ∀ Q : List V → Hp → Prop, (∀ vs H2 ds, P ds → nols ds = true → ExG p H1 H2 → Bag H2 p c r → DpAll K H2 vs ds → Q vs H2) → ts σ H1 Q
/-- a new list -/
def EgL (K : PySem.W.Frag) (p c : Addr) (n : Nat) (te : TE) (σ : L2.St) (H : Hp) (P : List PyData → Prop) : Prop := ∀ H1 r, ExG p H H1 → Bag H1 p c (r + n) → ∀ Q : VK, (∀ q H2 ds, P ds → nols ds = true → ExG p H1 H2 → Bag H2 p c r → H1 q = none → Lm K H2 q ds → Q (.ref q) H2) → te σ H1 Q
/-- a list that is not the bag -/
def EgN (K : PySem.W.Frag) (p c : Addr) (n : Nat) (te : TE) (σ : L2.St) (H : Hp) (P : List PyData → Prop) : Prop := ∀ H1 r, ExG p H H1 → Bag H1 p c (r + n) → ∀ Q : VK, (∀ q H2 ds, P ds → nols ds = true → ExG p H1 H2 → Bag H2 p c r → q ≠ p → Lm K H2 q ds → Q (.ref q) H2) → te σ H1 Q
def Etg (_ : PySem.W.Frag) (p c : Addr) (n : Nat) (tt : TT) (σ : L2.St) (H : Hp) : Prop := ∀ H1 r, ExG p H H1 → Bag H1 p c (r + n) → ∀ Q : Bool → Hp → Prop, (∀ b H2, ExG p H1 H2 → Bag H2 p c r → Q b H2) → tt σ H1 Q
theorem Eg.le (h : Eg K p c m te σ H P) (e : m ≤ n) : Eg K p c n te σ H P := fun H1 r x B Q k => h H1 (r + (n - m)) x (B.le (by omega)) Q fun v H2 d pd nd e2 B2 d2 => k v H2 d pd nd e2 (B2.le (by omega)) d2
theorem Eg.imp (h : Eg K p c n te σ H P) (e : ∀ d, P d → P' d) : Eg K p c n te σ H P' := fun H1 r x B Q k => h H1 r x B Q fun v H2 d pd => k v H2 d (e d pd)
theorem EgA.imp {Ps' : List PyData → Prop} (h : EgA K p c n ts σ H Ps) (e : ∀ d, Ps d → Ps' d) : EgA K p c n ts σ H Ps' := fun H1 r x B Q k => h H1 r x B Q fun v H2 d pd => k v H2 d (e d pd)
theorem EgL.imp {Ps' : List PyData → Prop} (h : EgL K p c n te σ H Ps) (e : ∀ d, Ps d → Ps' d) : EgL K p c n te σ H Ps' := fun H1 r x B Q k => h H1 r x B Q fun v H2 d pd => k v H2 d (e d pd)
theorem EgL.le (h : EgL K p c m te σ H Ps) (e : m ≤ n) : EgL K p c n te σ H Ps := fun H1 r x B Q k => h H1 (r + (n - m)) x (B.le (by omega)) Q fun v H2 d pd nd e2 B2 d2 => k v H2 d pd nd e2 (B2.le (by omega)) d2
theorem eg_pure (h : ∀ H1, ExG p H H1 → Ed K te σ H1 d) (nd : nol d = true := by rfl) : Eg K p c 0 te σ H (· = d) := fun H1 r x B Q k => (h H1 x).run fun v H2 e2 d2 => k v H2 d rfl nd (Ex.g e2) (B.mono e2) d2
theorem eg_pureP (h : ∀ H1, ExG p H H1 → Ed K te σ H1 d) (pd : P d) (nd : nol d = true := by rfl) : Eg K p c 0 te σ H P := (eg_pure h nd).imp fun _ e => e ▸ pd
theorem eg_var {v : V} (hs : σ[i]? = some (some v)) (hd : Dp K H v d) (nd : nol d = true) : Eg K p c 0 (tVar i) σ H (· = d) := eg_pure (fun H1 x => ed_var hs (dp_im x.i nd hd)) nd
theorem eg_int {k : Int} : Eg K p c 0 (tC (.int k)) σ H (· = .int k) := eg_pure fun _ _ => ed_int
theorem eg_str {k : Str} : Eg K p c 0 (tC (.str k)) σ H (· = .str k) := eg_pure fun _ _ => ed_str
theorem egl_pure (h : ∀ H1, ExG p H H1 → EdL K te σ H1 ds) (nd : nols ds = true := by rfl) : EgL K p c 0 te σ H (· = ds) := fun H1 r x B Q k => (h H1 x).run fun q H2 e2 hq l2 => k q H2 ds rfl nd (Ex.g e2) (B.mono e2) hq l2
theorem EgL.ng (h : EgL K p c n te σ H Ps) : EgN K p c n te σ H Ps := fun H1 r x B Q k => h H1 r x B Q fun q H2 ds pd nd e2 B2 hq l2 => k q H2 ds pd nd e2 B2 (B.old hq).1 l2
theorem egn_var (hs : σ[i]? = some (some (.ref q))) (hl : Lm K H q ds) (hq : q ≠ p) (hn : nols ds = true) : EgN K p c 0 (tVar i) σ H (· = ds) := fun H1 r x B Q k => ⟨_, hs, k q H1 ds rfl hn (ExG.refl _) B hq (x.lm hl hq hn)⟩
theorem ega_nil : EgA K p c 0 tNil σ H (· = []) := fun H1 r x B Q k => k [] H1 [] rfl rfl (ExG.refl _) B .nil
theorem ega_cons {n1 n2 : Nat} (h1 : Eg K p c n1 ta σ H P) (h2 : EgA K p c n2 ts σ H Ps) : EgA K p c (n1 + n2) (tCons ta ts) σ H fun l => ∃ d ds, l = d :: ds ∧ P d ∧ Ps ds := fun H1 r x B Q k =>
  h1 H1 (r + n2) x (B.le (by omega)) _ fun v H2 d pd nd e2 B2 d2 => h2 H2 r (x.trans e2) B2 _ fun vs H3 ds pds nds e3 B3 d3 => k (v :: vs) H3 (d :: ds) ⟨d, ds, rfl, pd, pds⟩ (by simp only [nols, nd, nds]; rfl) (e2.trans e3) B3 (.cons (dp_im e3.i nd d2) d3)
theorem eg_tup (h : EgA K p c n ts σ H Ps) (hl : ∀ ds, Ps ds → ds.length ≤ sizeLine) : Eg K p c n (tTup ts) σ H fun d => ∃ ds, Ps ds ∧ d = .tuple ds := fun H1 r x B Q k =>
  h H1 r x B _ fun vs H2 ds pds nds e2 B2 d2 => ⟨by rw [dps_len d2]; exact hl ds pds, fun a ha => k _ _ (.tuple ds) ⟨ds, pds, rfl⟩ (by simp only [nol]; exact nds) (e2.trans (Ex.g (Ex.new ha))) (B2.mono (Ex.new ha)) (.tup (st_of upd_same) (dps_mono (Ex.new ha) d2))⟩
/-- i + what is drawn -/
theorem eg_addI {k : Int} (h : Eg K p c n tb σ H P) (hi : ∀ d, P d → ∃ m : Int, d = .int m) : Eg K p c n (tOp (rI0 fun i j => .int (i + j)) (tC (.int k)) tb) σ H fun d => ∃ m : Int, P (.int m) ∧ d = .int (k + m) := fun H1 r x B Q z =>
  h H1 r x B _ fun v H2 d pd nd e2 B2 d2 => by
    obtain ⟨m, rfl⟩ := hi d pd
    obtain rfl := dp_int d2
    exact ⟨k, m, rfl, rfl, z _ H2 (.int (k + m)) ⟨m, pd, rfl⟩ rfl e2 B2 (.int _)⟩
theorem eg_take (hs : σ[i]? = some (some (.ref p))) (he : ∀ H1, ExG p H H1 → Ed K te σ H1 (.int (m : Int))) (h1 : 1 ≤ m) (h2 : m < 1073741824) : Eg K p c 1 (tCall spTk [] E0 (tCons (tVar i) (tCons te tNil))) σ H fun d => ∃ k : Nat, k < m ∧ d = .int k := fun H1 r x B Q z =>
  ⟨_, hs, (he H1 x).run fun v H2 e2 d2 => by
    obtain rfl := dp_int d2
    exact ⟨p, c, r, m, rfl, B.mono e2, h1, h2, fun k H3 hk b3 B3 => z _ H3 (.int k) ⟨k, hk, rfl⟩ rfl ((Ex.g e2).trans (b3.g (B.mono e2))) B3 (.int _)⟩⟩
theorem eg_some (hs : σ[i]? = some (some (.ref p))) (he : EgN K p c n te σ H (· = ds)) (h1 : ds ≠ []) (h2 : ds.length ≤ sizeLine) : Eg K p c (n + 1) (tCall (spSome K) [] E0 (tCons (tVar i) (tCons te tNil))) σ H (· ∈ ds) := fun H1 r x B Q z =>
  ⟨_, hs, he H1 (r + 1) x (B.le (by omega)) _ fun q H2 es pe nd e2 B2 hq l2 => by
    subst pe
    exact ⟨p, c, r, q, es, rfl, B2, l2, hq, nd, h1, h2, fun v H3 d hd b3 B3 d3 => z v H3 d hd (nols_mem nd hd) (e2.trans (b3.g B2)) B3 d3⟩⟩
theorem egl_mix (hs : σ[i]? = some (some (.ref p))) (he : EgN K p c n te σ H Ps) (h2 : ∀ ds, Ps ds → ds.length ≤ m) (hm : m < sizeLine) : EgL K p c (n + m) (tCall (spMix K) [] E0 (tCons (tVar i) (tCons te tNil))) σ H fun es => ∃ ds, Ps ds ∧ es.Perm ds := fun H1 r x B Q z =>
  ⟨_, hs, he H1 (r + m) x (B.le (by omega)) _ fun q H2 es pe nd e2 B2 hq l2 => by
    have := h2 es pe
    exact ⟨p, c, r + (m - es.length), q, es, rfl, B2.le (by omega), l2, hq, nd, by omega, fun q3 H3 ds hp b3 B3 hn3 l3 => z q3 H3 ds ⟨es, pe, hp⟩ (nols_of fun y hy => nols_mem nd (hp.mem_iff.mp hy)) (e2.trans (b3.g B2)) (B3.le (by omega)) (by
      cases hh : H1 q3 with
      | none => rfl
      | some o =>
        by_cases hz : q3 = p
        · subst hz
          obtain ⟨_, _, _, _, hB2, _⟩ := B2
          rw [hB2.at_] at hn3; cases hn3
        · rw [e2.b q3 o hz hh] at hn3; cases hn3) l3⟩⟩
theorem eg_callBA {α : Type} {k : Nat} {args : α → List PyData} {pre : α → Prop} {res : α → PyData → Prop} (hs : σ[i]? = some (some (.ref p))) (ha : EgA K p c n ts σ H fun ds => ∃ x, ds = args x ∧ pre x ∧ ∀ d, res x d → P d) : Eg K p c (n + k) (tCall (spB K k args pre res) [] E0 (tCons (tVar i) ts)) σ H P := fun H1 r x B Q z =>
  ⟨_, hs, ha H1 (r + k) x (B.le (by omega)) _ fun vs H2 ds ⟨y, ey, py, ry⟩ nd e2 B2 d2 => by
    subst ey
    exact ⟨p, c, r, vs, y, by simp, B2, d2, py, fun v H3 d rd nd3 b3 B3 d3 => z v H3 d (ry d rd) nd3 (e2.trans (b3.g B2)) B3 d3⟩⟩
theorem eg_callB {α : Type} {k : Nat} {args : α → List PyData} {pre : α → Prop} {res : α → PyData → Prop} (x : α) (hs : σ[i]? = some (some (.ref p))) (ha : ∀ H1, ExG p H H1 → EdA K ts σ H1 (args x)) (hp : pre x) : Eg K p c k (tCall (spB K k args pre res) [] E0 (tCons (tVar i) ts)) σ H (res x) := fun H1 r e B Q z =>
  ⟨_, hs, (ha H1 e).run fun vs H2 e2 d2 => ⟨p, c, r, vs, x, by simp, B.mono e2, d2, hp, fun v H3 d rd nd3 b3 B3 d3 => z v H3 d rd nd3 ((Ex.g e2).trans (b3.g (B.mono e2))) B3 d3⟩⟩
/-- a call that draws nothing, of what was drawn -/
theorem eg_callF {α : Type} {args : α → List PyData} {pre : α → Prop} {res : α → PyData} (ha : EgA K p c n ts σ H fun ds => ∃ x, ds = args x ∧ pre x ∧ P (res x) ∧ nol (res x) = true) : Eg K p c n (tCall (spF K args pre res) [] E0 ts) σ H P := fun H1 r x B Q z =>
  ha H1 r x B _ fun vs H2 ds ⟨y, ey, py, ry, ny⟩ nd e2 B2 d2 => by
    subst ey
    exact ⟨y, by rw [List.append_nil]; exact d2, py, fun v H3 e3 d3 => z v H3 _ ry ny (e2.trans (Ex.g e3)) (B2.mono e3) d3⟩
theorem eg_ifP {b : Bool} (ht : ∀ H1, ExG p H H1 → Et K tt σ H1 b) (h1 : b = true → Eg K p c n ta σ H P) (h2 : b = false → Eg K p c n tb σ H P) : Eg K p c n (tIf tt ta tb) σ H P := fun H1 r x B Q z => (ht H1 x) H1 (Ex.refl H1) _ fun H2 e2 => by
  cases b with
  | true =>
    show (if true = true then ta σ H2 Q else tb σ H2 Q)
    rw [if_pos rfl]
    exact h1 rfl H2 r (x.trans (Ex.g e2)) (B.mono e2) Q fun v H3 d pd nd e3 => z v H3 d pd nd ((Ex.g e2).trans e3)
  | false =>
    show (if false = true then ta σ H2 Q else tb σ H2 Q)
    rw [if_neg Bool.false_ne_true]
    exact h2 rfl H2 r (x.trans (Ex.g e2)) (B.mono e2) Q fun v H3 d pd nd e3 => z v H3 d pd nd ((Ex.g e2).trans e3)
theorem eg_if (ht : Etg K p c m tt σ H) (h1 : Eg K p c n ta σ H P) (h2 : Eg K p c n tb σ H P) : Eg K p c (m + n) (tIf tt ta tb) σ H P := fun H1 r x B Q z => ht H1 (r + n) x (B.le (by omega)) _ fun b H2 e2 B2 => by
  cases b with
  | true =>
    show (if true = true then ta σ H2 Q else tb σ H2 Q)
    rw [if_pos rfl]
    exact h1 H2 r (x.trans e2) B2 Q fun v H3 d pd nd e3 => z v H3 d pd nd (e2.trans e3)
  | false =>
    show (if false = true then ta σ H2 Q else tb σ H2 Q)
    rw [if_neg Bool.false_ne_true]
    exact h2 H2 r (x.trans e2) B2 Q fun v H3 d pd nd e3 => z v H3 d pd nd (e2.trans e3)
/-- what is drawn == k -/
theorem etg_eqI {k : Int} (h : Eg K p c n ta σ H P) (hi : ∀ d, P d → ∃ m : Int, d = .int m) : Etg K p c n (tTest (tOp (rEqD K) ta (tC (.int k)))) σ H := fun H1 r x B Q z =>
  h H1 r x B _ fun v H2 d pd nd e2 B2 d2 => by
    obtain ⟨m, rfl⟩ := hi d pd
    have h3 : Ed K (tOp (rEqD K) (tC v) (tC (.int k))) σ H2 (.bool (decide (m = k))) := ed_eqi (ed_cv d2) ed_int
    exact h3 H2 (Ex.refl H2) (fun x H' => ∃ k, x = V.bl k ∧ Q k H') fun u H3 e3 d3 => ⟨_, dp_bool d3, z _ H3 (e2.trans (Ex.g e3)) (B2.mono e3)⟩
/-- a tuple of a new list -/
theorem eg_tupleL (h : EgL K p c n ta σ H Ps) : Eg K p c n (tCB (fun xs H Q => ∃ p ys, xs = [.ref p] ∧ ((SqL K H p ys ∧ ∀ l, H l = none → Q (.ref l) (upd H l (.tup ys))) ∨ (SqT K H p ys ∧ Q (.ref p) H))) (tCons ta tNil)) σ H fun d => ∃ ds, Ps ds ∧ d = .tuple ds := fun H1 r x B Q z =>
  h H1 r x B _ fun q H2 ds pd nd e2 B2 hq l2 => by
    obtain ⟨us, u1, u2⟩ := l2
    exact ⟨q, us, rfl, .inl ⟨sq_of u1, fun l hl => z _ _ (.tuple ds) ⟨ds, pd, rfl⟩ (by simp only [nol]; exact nd) (e2.trans (Ex.g (Ex.new hl))) (B2.mono (Ex.new hl)) (.tup (st_of upd_same) (dps_mono (Ex.new hl) u2))⟩⟩
theorem ret_eg (B : Bag H p c (j + n)) (h : Eg K p c n te σ H P) (k : ∀ v H' d, P d → nol d = true → ExG p H H' → Bag H' p c j → Dp K H' v d → D.rt v H') : tRet te D σ H := h H j (ExG.refl H) B _ k
theorem set_eg (B : Bag H p c (j + n)) (h : Eg K p c n te σ H P) (k : ∀ v H' d, P d → nol d = true → ExG p H H' → Bag H' p c j → Dp K H' v d → D.nx (σ.set i (some v)) H') : tAsg te (gName i) D σ H := h H j (ExG.refl H) B _ k
theorem setl_eg (B : Bag H p c (j + n)) (h : EgL K p c n te σ H Ps) (k : ∀ q H' ds, Ps ds → nols ds = true → ExG p H H' → Bag H' p c j → H q = none → Lm K H' q ds → D.nx (σ.set i (some (.ref q))) H') : tAsg te (gName i) D σ H := h H j (ExG.refl H) B _ k
/-- [te for _ in range(..)] -/
theorem lc_g {M n1 : Nat} {ts : TA} (L : Nat → Prop) (he : EgA K p c n ts σ H fun l => ∃ m : Nat, (m ≤ M ∧ L m) ∧ l = [.int (m : Int)]) (hM : M ≤ 1000) (hw : ∀ k : Int, wipe ((wipe σ [i]).set i (some (.int k))) [i] = wipe σ [i])
    (hb : ∀ k : Int, Eg K p c n1 te ((wipe σ [i]).set i (some (.int k))) H P) : EgL K p c (n + M * n1) (tLc (iRng1 ts) (gName i) tYes te [i]) σ H fun es => (es.length ≤ M ∧ L es.length) ∧ ∀ d ∈ es, P d := fun H0 r x B Q z => by
  refine he H0 (r + M * n1) x (B.le (by omega)) _ fun vs H1 l ⟨m, ⟨hm, hL⟩, el⟩ nd e1 B1 dd => ?_
  subst el
  obtain ⟨v, rfl, dv⟩ := dps_one dd
  obtain rfl := dp_int dv
  refine ⟨m, rfl, by omega, by omega, fun D hD => ⟨fun i k H' => k = m - i ∧ i ≤ m ∧ ExG p H1 H' ∧ Bag H' p c (r + (m - i) * n1) ∧ ∃ es, es.length = i ∧ (∀ d ∈ es, P d) ∧ nols es = true ∧ Lm K H' D es, ⟨m, by omega, Nat.zero_le _, Ex.g (Ex.new hD), (B1.mono (Ex.new hD)).le (Nat.add_le_add_left (Nat.mul_le_mul_right _ hm) _), [], rfl, (fun _ h => by cases h), rfl, ⟨[], upd_same, .nil⟩⟩, ?_⟩⟩
  have oldD := B1.old hD
  rintro i' k H' ⟨rfl, hi, eg, B2, es, hel, hP, hn, lm⟩
  by_cases hlt : i' < m
  · refine .inr ⟨by show i' < (m : Int).toNat; omega, fun H'' => i' + 1 ≤ m ∧ ExG p H1 H'' ∧ Bag H'' p c (r + (m - (i' + 1)) * n1) ∧ ∃ es, es.length = i' + 1 ∧ (∀ d ∈ es, P d) ∧ nols es = true ∧ Lm K H'' D es, fun H'' ⟨c1, c2, c3, c4⟩ => ⟨m - (i' + 1), by omega, rfl, c1, c2, c3, c4⟩, fun y H'' hy => ?_⟩
    obtain ⟨rfl, rfl⟩ := hy
    refine ⟨hw _, ?_⟩
    unfold tYes
    simp only [if_true]
    have hmul : r + (m - (i' + 1)) * n1 + n1 = r + (m - i') * n1 := by
      have : m - i' = (m - (i' + 1)) + 1 := by omega
      rw [this, Nat.add_mul, Nat.one_mul, Nat.add_assoc]
    refine hb _ H'' (r + (m - (i' + 1)) * n1) ((x.trans e1).trans eg) (by rw [hmul]; exact B2) _ fun y H4 d pd nd4 e4 B4 dy => ?_
    obtain ⟨us, u1, u2⟩ := e4.lm lm oldD.1 hn
    have im : Im H4 (upd H4 D (.lst (us ++ [y]))) := im_upd u1 rfl
    refine ⟨us, u1, by rw [dps_len u2, hel]; show _ < 16777216; omega, hlt, ⟨fun b o hb h => ?_, (eg.i.trans e4.i).trans im⟩, B4.exB exB_upd (Ne.symm oldD.1) (Ne.symm oldD.2), es ++ [d], by rw [List.length_append, hel]; rfl, fun z hz => ?_, nols_of fun z hz => ?_, ⟨_, upd_same, dps_snoc (dps_im im hn u2) (dp_im im nd4 dy)⟩⟩
    · rw [upd_ne (ne_of_none h hD)]; exact e4.b b o hb (eg.b b o hb h)
    · rcases List.mem_append.mp hz with h | h
      · exact hP z h
      · rw [List.mem_singleton.mp h]; exact pd
    · rcases List.mem_append.mp hz with h | h
      · exact nols_mem hn h
      · rw [List.mem_singleton.mp h]; exact nd4
  · have : i' = m := by omega
    subst this
    refine .inl ⟨by show (i' : Int).toNat ≤ i'; omega, z D H' es ⟨⟨by omega, by rw [hel]; exact hL⟩, hP⟩ hn (e1.trans eg) (B2.le (by omega)) ?_ lm⟩
    cases hh : H0 D with
    | none => rfl
    | some o =>
      by_cases hz : D = p
      · exact absurd hz oldD.1
      · rw [e1.b D o hz hh] at hD; cases hD
end
end Sw
namespace Sw
open PySem PySem.Spec PyProof.Rows L2 Evl SwT
/-- a number as the law draws it -/
structure Nq (q : Rat) : Prop where
  pos : 0 < q
  grid : Grid DD q
  le : q ≤ 1000000000000
  wf : Wf q
def nqB (q : Rat) : Bool := decide (0 < q.num) && decide (DD % q.den = 0) && decide (q.num ≤ 1000000000000)
theorem nq_of {q : Rat} (h : nqB q = true) : Nq q := by
  simp only [nqB, Bool.and_eq_true, decide_eq_true_eq] at h
  obtain ⟨⟨h1, h2⟩, h3⟩ := h
  have hd : 0 < q.den := q.den_pos
  obtain ⟨e, he⟩ := Nat.dvd_of_mod_eq_zero h2
  have hq : (q.den : Rat) * q = q.num := by
    have h1 : q = (q.num : Rat) / (q.den : Rat) := by
      have h3 := Rat.mkRat_eq_div q.num q.den
      rw [Rat.mkRat_self] at h3
      exact h3
    have h2 : (q.den : Rat) ≠ 0 := by
      have : (0 : Rat) < (q.den : Rat) := Rat.natCast_pos.mpr hd
      grind
    generalize (q.num : Rat) = a at *
    generalize (q.den : Rat) = b at *
    rw [h1]; grind
  have hdd : q.den ≤ DD := Nat.le_of_dvd (by decide) (Nat.dvd_of_mod_eq_zero h2)
  have hDD : DD = 1407000 := rfl
  refine ⟨num_pos'.mp h1, ⟨q.num * e, ?_⟩, ?_, ?_⟩
  · rw [he, Rat.natCast_mul, Rat.intCast_mul, ← hq, Rat.intCast_natCast]
    grind
  · have h4 : (q.num : Rat) ≤ ((1000000000000 : Int) : Rat) := Rat.intCast_le_intCast.mpr h3
    have h5 : (1 : Rat) ≤ (q.den : Rat) := by
      have : ((1 : Nat) : Rat) ≤ (q.den : Rat) := Rat.natCast_le_natCast.mpr hd
      exact this
    have h6 : 0 < q := num_pos'.mp h1
    have h7 : 0 ≤ ((q.den : Rat) - 1) * q := Rat.mul_nonneg (by grind) (by grind)
    have h8 : ((1000000000000 : Int) : Rat) = 1000000000000 := rfl
    grind
  · have h9 : 10 ^ 20 = 100000000000000000000 := by decide
    exact ⟨num_pos'.mp h1, by omega, by omega⟩
theorem nq_frac {k : Nat} (hk : k < 36) {b : Nat} (hb : b = 2 ∨ b = 3 ∨ b = 7) : Nq (mkRat (1 + (k : Int)) b) := by
  have h : ∀ k : Nat, k < 36 → ∀ b ∈ [2, 3, 7], nqB (mkRat (1 + (k : Int)) b) = true := by decide +kernel
  exact nq_of (h k hk b (by rcases hb with z | z | z <;> subst z <;> decide))
theorem nq_nat {k : Nat} (hk : k < 12) : Nq ((k + 1 : Nat) : Rat) := by
  have h : ∀ k : Nat, k < 12 → nqB ((k + 1 : Nat) : Rat) = true := by decide +kernel
  exact nq_of (h k hk)
theorem fr_eq {q : Rat} {n d : Int} {x : PyData} (hx : x = .tuple [.int n, .int d]) (hn : q.num = n) (hd : (q.den : Int) = d) : x = fr q := by subst hn hd; exact hx
def fiveD : List PyData := [.tuple [.int 1000, .int 1], .tuple [.int 1, .int 1000], .tuple [.int 999999999999, .int 1], .tuple [.int 1, .int 12], .tuple [.int 12345, .int 67]]
theorem nq_five {d : PyData} (h : d ∈ fiveD) : ∃ q, d = fr q ∧ Nq q := by
  simp only [fiveD, List.mem_cons, List.not_mem_nil, or_false] at h
  rcases h with h | h | h | h | h
  · exact ⟨1000, h.trans (fr_eq rfl (by decide +kernel) (by decide +kernel)), nq_of (by decide +kernel)⟩
  · exact ⟨1 / 1000, h.trans (fr_eq rfl (by decide +kernel) (by decide +kernel)), nq_of (by decide +kernel)⟩
  · exact ⟨999999999999, h.trans (fr_eq rfl (by decide +kernel) (by decide +kernel)), nq_of (by decide +kernel)⟩
  · exact ⟨1 / 12, h.trans (fr_eq rfl (by decide +kernel) (by decide +kernel)), nq_of (by decide +kernel)⟩
  · exact ⟨12345 / 67, h.trans (fr_eq rfl (by decide +kernel) (by decide +kernel)), nq_of (by decide +kernel)⟩
end Sw
namespace Sw
open PySem PySem.Spec PyProof.Rows L2 Evl SwT
abbrev spNum (K : PySem.W.Frag) : Sp := spB K 3 (fun m : Nat => [.int m]) (fun m => 1 ≤ m ∧ m ≤ 12) fun _ d => ∃ q, d = fr q ∧ Nq q
section
variable {P : Program} {w : World} {K : PySem.W.Frag} {mg : Str → Option Value} {base : Heap}
theorem sc__law_number : FnScope ["_law_bag_here", "_law_most", "_law_way"] ["_law_bag_here", "_law_most"] (defScope s__law_number) := ⟨rfl, rfl, rfl, by decide +kernel, rfl, by decide +kernel, by decide +kernel⟩
abbrev Cf__law_number (P w K mg base) := Cal P w K mg base "_law_number" 3 ["_law_bag_here", "_law_most"] (spNum K)
theorem ok__law_number (T : Tx w K mg) (C__law_reduced : Cf__law_reduced P w K mg base) (C__law_some : Cf__law_some P w K mg base) (C__law_take : Cf__law_take P w K mg base) : Cf__law_number P w K mg base := by
  refine T.cal (d := d__law_number) 56 51 rfl rfl rfl rfl rfl sc__law_number (fun _ _ _ _ _ _ us hl => match us, hl with | [_, _], _ => rfl) (spB_len fun _ => rfl) fun f cdv A outer s H vs Q E hr h => ⟨_, (pss_cons (ps_set (i := 2) sc__law_number.nd rfl (by first | exact Or.inl rfl | exact Or.inr rfl) (pe_cc C__law_take (hr.mono (by decide)) (by rfl) (pa_cons (pv 0) (pa_cons pe_int pa_nil))))
      (pss_cons (ps_if (pt_cmpR (op_eqD hr.units) (pv 2) pe_int (nomark _)) (pss_one (ps_ret (pe_cc C__law_reduced (hr.mono (by decide)) (by rfl) (pa_cons (pe_op op_add pe_int (pe_cc C__law_take (hr.mono (by decide)) (by rfl) (pa_cons (pv 0) (pa_cons (pe_op op_mulW pe_int (pv 1)) pa_nil)))) (pa_cons (pe_cc C__law_some (hr.mono (by decide)) (by rfl) (pa_cons (pv 0) (pa_cons (pe_lst (pa_cons pe_int (pa_cons pe_int (pa_cons pe_int pa_nil)))) pa_nil))) pa_nil))))) pss_nil)
      (pss_cons (ps_if (pt_cmpR (op_eqD hr.units) (pv 2) pe_int (nomark _)) (pss_one (ps_ret (pe_cc C__law_some (hr.mono (by decide)) (by rfl) (pa_cons (pv 0) (pa_cons (pe_lst (pa_cons (pe_tup (pa_cons pe_int (pa_cons pe_int pa_nil))) (pa_cons (pe_tup (pa_cons pe_int (pa_cons pe_int pa_nil))) (pa_cons (pe_tup (pa_cons pe_int (pa_cons pe_int pa_nil))) (pa_cons (pe_tup (pa_cons pe_int (pa_cons pe_int pa_nil))) (pa_cons (pe_tup (pa_cons pe_int (pa_cons pe_int pa_nil))) pa_nil)))))) pa_nil))))) pss_nil)
      (pss_one (ps_ret (pe_tup (pa_cons (pe_op op_add pe_int (pe_cc C__law_take (hr.mono (by decide)) (by rfl) (pa_cons (pv 0) (pa_cons (pv 1) pa_nil)))) (pa_cons pe_int pa_nil)))))))), ?_⟩
  obtain ⟨p, c, r, us, m, rfl, hB, hd, ⟨hm1, hm2⟩, k⟩ := h
  obtain ⟨v, rfl, h1⟩ := dps_one hd
  obtain rfl := dp_int h1
  have hs16 : sizeLine = 16777216 := rfl
  refine seq_ed (set_eg (K := K) (j := r + 2) (n := 1) (p := p) (c := c) (hB.le (by omega)) (eg_take (m := 12) rfl (fun _ _ => ed_int) (by decide) (by decide)) fun v H1 d pd nd g1 B1 d1 => ?_)
  obtain ⟨way, hway, rfl⟩ := pd
  obtain rfl := dp_int d1
  dsimp only
  refine seq_ed (if_et (K := K) (b := decide ((way : Int) = 0)) (et_test (ed_eqi (ed_var rfl (.int _)) ed_int)) (fun hb H2 e2 => ?_) fun hb H2 e2 => nil_ed ?_)
  · have h3 : 1 ≤ 3 * m := by omega
    refine ret_eg (K := K) (p := p) (c := c) (j := r) ((B1.mono e2).le (by omega)) (P := fun d => ∃ q, d = fr q ∧ Nq q) (eg_callF ((ega_cons (eg_addI (eg_take (m := 3 * m) rfl (fun _ _ => (ed_mul ed_int (ed_var rfl (.int _)) (cmul_small (by omega) (by omega))).cast (by rw [Int.natCast_mul]; rfl)) h3 (by omega)) (fun d ⟨k, _, e⟩ => ⟨_, e⟩)) (ega_cons (eg_some (ds := [.int 2, .int 3, .int 7]) rfl (egl_pure (fun _ _ => edl_lst (eda_cons ed_int (eda_cons ed_int (eda_cons ed_int eda_nil))))).ng (by simp) (by simp [hs16])) ega_nil)).imp ?_)) fun v H3 d pd nd g3 B3 d3 => k v H3 d pd nd ((g1.trans (Ex.g e2)).trans g3).b B3 d3
    rintro ds ⟨d1, ds1, rfl, ⟨mm, ⟨kk, hk, e1⟩, rfl⟩, d2, ds2, rfl, hd2, rfl⟩
    cases e1
    have hb2 : ∃ b : Nat, (b = 2 ∨ b = 3 ∨ b = 7) ∧ d2 = .int b := by
      simp only [List.mem_cons, List.not_mem_nil, or_false] at hd2
      rcases hd2 with z | z | z
      · exact ⟨2, .inl rfl, z⟩
      · exact ⟨3, .inr (.inl rfl), z⟩
      · exact ⟨7, .inr (.inr rfl), z⟩
    obtain ⟨b, hb2, rfl⟩ := hb2
    have h2b : b < 10 := by rcases hb2 with z | z | z <;> subst z <;> decide
    refine ⟨(1 + (kk : Int), b), rfl, ⟨by show 0 < b; omega, Nat.lt_of_lt_of_le h2b (Nat.le_trans (show 10 ≤ 2 ^ 4 by decide) (Nat.pow_le_pow_right (by decide) (by decide)))⟩, ⟨_, rfl, nq_frac (by omega) hb2⟩, rfl⟩
  dsimp only
  refine seq_ed (if_et (K := K) (b := decide ((way : Int) = 1)) (et_test (ed_eqi (ed_var rfl (.int _)) ed_int)) (fun hb3 H3 e3 => ?_) fun hb3 H3 e3 => nil_ed ?_)
  · refine ret_eg (K := K) (p := p) (c := c) (j := r) (((B1.mono e2).mono e3).le (by omega)) (eg_some (ds := fiveD) rfl (egl_pure (fun _ _ => edl_lst (eda_cons (ed_tup (eda_cons ed_int (eda_cons ed_int eda_nil))) (eda_cons (ed_tup (eda_cons ed_int (eda_cons ed_int eda_nil))) (eda_cons (ed_tup (eda_cons ed_int (eda_cons ed_int eda_nil))) (eda_cons (ed_tup (eda_cons ed_int (eda_cons ed_int eda_nil))) (eda_cons (ed_tup (eda_cons ed_int (eda_cons ed_int eda_nil))) eda_nil)))))) (by rfl)).ng (by simp [fiveD]) (by simp [hs16, fiveD])) fun v H4 d pd nd g4 B4 d4 => k v H4 d (nq_five pd) nd ((g1.trans (Ex.g (e2.trans e3))).trans g4).b B4 d4
  · dsimp only
    refine ret_eg (K := K) (p := p) (c := c) (j := r) (((B1.mono e2).mono e3).le (by omega)) (eg_tup (ega_cons (eg_addI (eg_take (m := m) rfl (fun _ _ => ed_var rfl (.int _)) hm1 (by omega)) (fun d ⟨k, _, e⟩ => ⟨_, e⟩)) (ega_cons eg_int ega_nil)) ?_) fun v H4 d pd nd g4 B4 d4 => k v H4 d ?_ nd ((g1.trans (Ex.g (e2.trans e3))).trans g4).b B4 d4
    · rintro ds ⟨_, _, rfl, _, _, _, rfl, _, rfl⟩
      show 2 ≤ 16777216; omega
    · obtain ⟨ds, ⟨d1, ds1, rfl, ⟨mm, ⟨kk, hk, e1⟩, rfl⟩, d2, ds2, rfl, rfl, rfl⟩, rfl⟩ := pd
      cases e1
      refine ⟨((kk + 1 : Nat) : Rat), ?_, nq_nat (by omega)⟩
      rw [fr_nat, Int.add_comm, Int.natCast_add]; rfl
end
end Sw
namespace Sw
open PySem PySem.Spec PyProof.Rows L2 Evl SwT
def TT12 : Nat := 1000000000000
/-- a drawn claim, at most n deep -/
structure Dc (R n : Nat) (c : Claim) : Prop where
  ok : OkC R c
  wr : Wr R c
  dp : depth c ≤ n
  lv : leaves c ≤ 3 ^ n
  m : mg c ≤ ((3 ^ n * TT12 : Nat) : Rat)
  wl : (wordsC c).length + 3 ≤ 6 * 3 ^ n
theorem pow3_pos (n : Nat) : 1 ≤ 3 ^ n := Nat.one_le_pow n 3 (by decide)
theorem tt_le {q : Rat} (n : Nat) (h : q ≤ 1000000000000) : q ≤ ((3 ^ n * TT12 : Nat) : Rat) := by
  have h1 : ((TT12 : Nat) : Rat) ≤ ((3 ^ n * TT12 : Nat) : Rat) := Rat.natCast_le_natCast.mpr (by have := pow3_pos n; have h2 : 1 * TT12 ≤ 3 ^ n * TT12 := Nat.mul_le_mul_right _ this; omega)
  have h2 : ((TT12 : Nat) : Rat) = 1000000000000 := rfl
  grind
theorem dc_none (R n : Nat) : Dc R n .none := by
  have h := pow3_pos n
  refine ⟨by simp [OkC], by simp [Wr], by simp [depth], by simpa [leaves] using h, ?_, by simp [wordsC]; omega⟩
  simp only [mg]; exact Rat.natCast_nonneg
theorem dc_due {R n r : Nat} {q : Rat} (h : r < R) (hq : Nq q) : Dc R n (.due r q) := by
  have h3 := pow3_pos n
  exact ⟨by simp only [OkC]; exact ⟨h, hq.pos, hq.grid⟩, by simp only [Wr]; exact ⟨h, hq.wf⟩, by simp [depth], by simpa [leaves] using h3, by simp only [mg]; exact tt_le n hq.le, by simp [wordsC]; omega⟩
theorem dc_shares {R n : Nat} {q : Rat} (hq : Nq q) : Dc R n (.shares q) := by
  have h3 := pow3_pos n
  exact ⟨by simp only [OkC]; exact ⟨hq.pos, hq.grid⟩, by simp only [Wr]; exact hq.wf, by simp [depth], by simpa [leaves] using h3, by simp only [mg]; exact tt_le n hq.le, by simp [wordsC]; omega⟩
theorem dc_option {R n : Nat} {q p : Rat} (hq : Nq q) (hp : Nq p) : Dc R n (.option q p) := by
  have h3 := pow3_pos n
  exact ⟨by simp only [OkC]; exact ⟨hq.pos, hq.grid, hp.pos, hp.grid, hp.le⟩, by simp only [Wr]; exact ⟨hq.wf, hp.wf⟩, by simp [depth], by simpa [leaves] using h3, by simp only [mg]; exact tt_le n hq.le, by simp [wordsC]; omega⟩
theorem dc_capped {R n : Nat} {c : Claim} {q : Rat} (h : Dc R n c) (hq : Nq q) : Dc R (n + 1) (.capped c q) := by
  have h3 := pow3_pos n
  have h4 : 3 ^ (n + 1) = 3 * 3 ^ n := by rw [Nat.pow_succ, Nat.mul_comm]
  have := h.wl
  have := h.lv
  refine ⟨by simp only [OkC]; exact ⟨h.ok, hq.pos, hq.grid⟩, by simp only [Wr]; exact ⟨h.wr, hq.wf⟩, by simp only [depth]; have := h.dp; omega, by simp only [leaves]; omega, ?_, by simp only [wordsC, List.length_cons]; omega⟩
  simp only [mg]
  have h5 := h.m
  have h6 : ((3 ^ n * TT12 : Nat) : Rat) + ((TT12 : Nat) : Rat) ≤ ((3 ^ (n + 1) * TT12 : Nat) : Rat) := by
    rw [← Rat.natCast_add]
    refine Rat.natCast_le_natCast.mpr ?_
    rw [h4]
    generalize 3 ^ n = k at *
    have h2 : 1 * TT12 ≤ k * TT12 := Nat.mul_le_mul_right _ h3
    have h7 : 3 * k * TT12 = k * TT12 + 2 * (k * TT12) := by rw [Nat.mul_assoc]; omega
    omega
  have h7 : ((TT12 : Nat) : Rat) = 1000000000000 := rfl
  have h8 := hq.le
  grind
theorem dcs_sum {R n : Nat} : ∀ {cs : List Claim}, (∀ c ∈ cs, Dc R n c) → OkCs R cs ∧ Wrs R cs ∧ depths cs ≤ n ∧ leavess cs ≤ cs.length * 3 ^ n ∧ mgs cs ≤ ((cs.length * (3 ^ n * TT12) : Nat) : Rat) ∧ (wordsCs cs).length + 3 * cs.length ≤ cs.length * (6 * 3 ^ n)
  | [], _ => by simp [OkCs, Wrs, depths, leavess, mgs, wordsCs]
  | c :: cs, h => by
    obtain ⟨h1, h2, h3, h4, h5, h6⟩ := dcs_sum (cs := cs) fun x hx => h x (List.mem_cons_of_mem _ hx)
    have hc := h c List.mem_cons_self
    have := hc.dp
    have := hc.lv
    have := hc.wl
    refine ⟨by simp only [OkCs]; exact ⟨hc.ok, h1⟩, by simp only [Wrs]; exact ⟨hc.wr, h2⟩, by simp only [depths]; omega, ?_, ?_, ?_⟩
    · simp only [leavess, List.length_cons, Nat.add_mul]; omega
    · simp only [mgs, List.length_cons, Nat.add_mul, Rat.natCast_add, Nat.one_mul]
      have := hc.m
      grind
    · simp only [wordsCs, List.length_append, List.length_cons, Nat.add_mul]; omega
theorem dc_sum {R n : Nat} {cs : List Claim} (h : ∀ c ∈ cs, Dc R n c) (h2 : 2 ≤ cs.length) (h3 : cs.length ≤ 3) : Dc R (n + 1) (.sum cs) := by
  obtain ⟨a1, a2, a3, a4, a5, a6⟩ := dcs_sum h
  have h4 : 3 ^ (n + 1) = 3 * 3 ^ n := by rw [Nat.pow_succ, Nat.mul_comm]
  have h5 := pow3_pos n
  have l1 : cs.length * 3 ^ n ≤ 3 * 3 ^ n := Nat.mul_le_mul_right _ h3
  have l2 : cs.length * (3 ^ n * TT12) ≤ 3 * (3 ^ n * TT12) := Nat.mul_le_mul_right _ h3
  have l3 : cs.length * (6 * 3 ^ n) ≤ 3 * (6 * 3 ^ n) := Nat.mul_le_mul_right _ h3
  refine ⟨by simp only [OkC]; exact ⟨h2, a1⟩, by simp only [Wr]; exact ⟨h2, by omega, a2⟩, by simp only [depth]; omega, by simp only [leaves]; omega, ?_, by simp only [wordsC, List.length_cons]; omega⟩
  simp only [mg]
  refine Rat.le_trans a5 (Rat.natCast_le_natCast.mpr ?_)
  rw [h4, Nat.mul_assoc]; exact l2
theorem Dc.up {R n m : Nat} {c : Claim} (h : Dc R n c) (e : n ≤ m) : Dc R m c := by
  have hp : 3 ^ n ≤ 3 ^ m := Nat.pow_le_pow_right (by decide) e
  have := h.wl
  have := h.lv
  have := h.dp
  exact ⟨h.ok, h.wr, by omega, by omega, Rat.le_trans h.m (Rat.natCast_le_natCast.mpr (Nat.mul_le_mul_right _ hp)), by omega⟩
/-- many claims' data -/
theorem claims_of {P : Claim → Prop} : ∀ {es : List PyData}, (∀ d ∈ es, ∃ c, d = claimD c ∧ P c) → ∃ cs : List Claim, es = cs.map claimD ∧ ∀ c ∈ cs, P c
  | [], _ => ⟨[], rfl, fun _ h => by cases h⟩
  | d :: es, h => by
    obtain ⟨c, rfl, hc⟩ := h d List.mem_cons_self
    obtain ⟨cs, rfl, hcs⟩ := claims_of (es := es) fun x hx => h x (List.mem_cons_of_mem _ hx)
    exact ⟨c :: cs, rfl, fun x hx => by
      rcases List.mem_cons.mp hx with z | z
      · rw [z]; exact hc
      · exact hcs x z⟩
/-- draws for a claim -/
def dr : Nat → Nat
  | 0 => 0
  | n + 1 => 8 + 3 * dr n
section
variable {P : Program} {w : World} {K : PySem.W.Frag} {mg : Str → Option Value} {base : Heap}
theorem sc__law_claim : FnScope ["_law_bag_here", "_law_ranks", "_law_deep", "_law_may_due", "_law_way", "_law_many", "_law_turn"] ["_law_bag_here", "_law_ranks", "_law_deep", "_law_may_due"] (defScope s__law_claim) := ⟨rfl, rfl, rfl, by decide +kernel, rfl, by decide +kernel, by decide +kernel⟩
abbrev Cf__law_claim (P w K mg base) (n : Nat) := Cal P w K mg base "_law_claim" (n + 4) ["_law_bag_here", "_law_ranks", "_law_deep", "_law_may_due"] (spB K (dr n) (fun x : Nat × Nat × Bool => [.int x.1, .int x.2.1, .bool x.2.2]) (fun x => x.1 ≤ 6 ∧ x.2.1 < n) fun x d => ∃ c, d = claimD c ∧ Dc x.1 x.2.1 c)
theorem ok__law_claim (T : Tx w K mg) (C__law_number : Cf__law_number P w K mg base) (C__law_take : Cf__law_take P w K mg base) : ∀ n, Cf__law_claim P w K mg base n
  | 0 => T.cal (d := d__law_claim) 57 52 rfl rfl rfl rfl rfl sc__law_claim (fun _ _ _ _ _ _ us hl => match us, hl with | [_, _, _, _], _ => rfl) (spB_len fun _ => rfl) fun f cdv A outer s H vs Q E hr h => absurd h fun ⟨_, _, _, _, x, _, _, _, h, _⟩ => absurd h.2 (Nat.not_lt_zero _)
  | n + 1 => by
    have C__law_claim := ok__law_claim T C__law_number C__law_take n
    refine T.cal (d := d__law_claim) 57 52 rfl rfl rfl rfl rfl sc__law_claim (fun _ _ _ _ _ _ us hl => match us, hl with | [_, _, _, _], _ => rfl) (spB_len fun _ => rfl) fun f cdv A outer s H vs Q E hr h => ⟨_, (pss_cons (ps_set (i := 4) sc__law_claim.nd rfl (by first | exact Or.inl rfl | exact Or.inr rfl) (pe_cc C__law_take (hr.mono (by omega)) (by rfl) (pa_cons (pv 0) (pa_cons (pe_ifExp (pt_cmpR op_gt (pv 2) pe_int (nomark _)) pe_int pe_int) pa_nil))))
      (pss_cons (ps_if (PW.pt (pw_and (pt_cmpR op_lt (pv 4) pe_int (nomark _)) (pw_and (pt_val (pv 3)) (pw_and1 (pt_cmpR op_gt (pv 1) pe_int (nomark _)))))) (pss_one (ps_ret (pe_tup (pa_cons pe_str (pa_cons (pe_cc C__law_take (hr.mono (by omega)) (by rfl) (pa_cons (pv 0) (pa_cons (pv 1) pa_nil))) (pa_cons (pe_cc C__law_number (hr.mono (by omega)) (by rfl) (pa_cons (pv 0) (pa_cons pe_int pa_nil))) pa_nil)))))) pss_nil)
      (pss_cons (ps_if (pt_cmpR op_lt (pv 4) pe_int (nomark _)) (pss_one (ps_ret (pe_tup (pa_cons pe_str (pa_cons (pe_cc C__law_number (hr.mono (by omega)) (by rfl) (pa_cons (pv 0) (pa_cons pe_int pa_nil))) pa_nil))))) pss_nil)
      (pss_cons (ps_if (pt_cmpR (op_eqD hr.units) (pv 4) pe_int (nomark _)) (pss_one (ps_ret (pe_tup (pa_cons pe_str (pa_cons (pe_cc C__law_number (hr.mono (by omega)) (by rfl) (pa_cons (pv 0) (pa_cons pe_int pa_nil))) (pa_cons (pe_cc C__law_number (hr.mono (by omega)) (by rfl) (pa_cons (pv 0) (pa_cons pe_int pa_nil))) pa_nil)))))) pss_nil)
      (pss_cons (ps_if (pt_cmpR (op_eqD hr.units) (pv 4) pe_int (nomark _)) (pss_one (ps_ret (pe_ifExp (pt_cmpR (op_eqD hr.units) (pe_cc C__law_take (hr.mono (by omega)) (by rfl) (pa_cons (pv 0) (pa_cons pe_int pa_nil))) pe_int (nomark _)) (pe_tup (pa_cons pe_str pa_nil)) (pe_tup (pa_cons pe_str (pa_cons (pe_tup (pa_cons (pe_op op_add pe_int (pe_cc C__law_take (hr.mono (by omega)) (by rfl) (pa_cons (pv 0) (pa_cons pe_int pa_nil)))) (pa_cons pe_int pa_nil))) pa_nil)))))) pss_nil)
      (pss_cons (ps_if (pt_cmpR (op_eqD hr.units) (pv 4) pe_int (nomark _)) (pss_one (ps_ret (pe_tup (pa_cons pe_str (pa_cons (pe_cc C__law_claim (hr.mono (by omega)) (by rfl) (pa_cons (pv 0) (pa_cons (pv 1) (pa_cons (pe_op op_sub (pv 2) pe_int) (pa_cons (pv 3) pa_nil))))) (pa_cons (pe_cc C__law_number (hr.mono (by omega)) (by rfl) (pa_cons (pv 0) (pa_cons pe_int pa_nil))) pa_nil)))))) pss_nil)
      (pss_cons (ps_set (i := 5) sc__law_claim.nd rfl (by first | exact Or.inl rfl | exact Or.inr rfl) (pe_op op_add pe_int (pe_cc C__law_take (hr.mono (by omega)) (by rfl) (pa_cons (pv 0) (pa_cons pe_int pa_nil)))))
      (pss_one (ps_ret (pe_tup (pa_cons pe_str (pa_cons (pe_callTy call_tuple_of (by rfl) T.f_tuple (by decide +kernel) (pa_cons (pe_lc rfl sc__law_claim.nd (pi_range1 (by rfl) T.f_range (pa_cons (pv 5) pa_nil)) (blkOk_by (own := [("_law_turn", 6)]) (N := ["_law_bag_here", "_law_ranks", "_law_deep", "_law_may_due", "_law_way", "_law_many", "_law_turn"]) (by kernel_rfl)) (fun _ _ _ _ _ => (pg_name (i := 6) sc__law_claim.nd rfl (by first | exact Or.inl rfl | exact Or.inr rfl))) (fun _ _ _ _ _ => pts_nil) (fun _ _ _ _ _ => (pe_cc C__law_claim (hr.mono (by omega)) (by rfl) (pa_cons (pv 0) (pa_cons (pv 1) (pa_cons (pe_op op_sub (pv 2) pe_int) (pa_cons (pv 3) pa_nil))))))) pa_nil)) pa_nil)))))))))))), ?_⟩
    obtain ⟨p, c, r, us, ⟨R, m, may⟩, rfl, hB, hd, ⟨hR, hm⟩, k⟩ := h
    obtain ⟨v1, v2, v3, rfl, h1, h2, h3⟩ := dps_three hd
    obtain rfl := dp_int h1
    obtain rfl := dp_int h2
    obtain rfl := dp_bool h3
    dsimp only at hR hm k
    have hdr : dr (n + 1) = 8 + 3 * dr n := rfl
    rw [hdr] at hB
    generalize dr n = N at *
    have hs16 : sizeLine = 16777216 := rfl
    have hw : ∃ M : Nat, (M = 10 ∧ 0 < m ∨ M = 7 ∧ m = 0) ∧ ∀ {H : Hp}, ∀ H1, ExG p H H1 → Ed K (tIf (tTest (tOp (rI0 fun i j => .bl (decide (j < i))) (tVar 2) (tC (.int 0)))) (tC (.int 10)) (tC (.int 7))) [some (.ref p), some (.int (R : Int)), some (.int (m : Int)), some (.bl may), none, none, none] H1 (.int (M : Int)) := by
      by_cases hz : 0 < m
      · exact ⟨10, .inl ⟨rfl, hz⟩, fun H1 _ => ed_if (b := true) ((et_test (ed_gt (ed_var rfl (.int _)) ed_int)).cast (decide_eq_true (by omega))) (fun _ => ed_int) fun z => absurd z (by decide)⟩
      · exact ⟨7, .inr ⟨rfl, by omega⟩, fun H1 _ => ed_if (b := false) ((et_test (ed_gt (ed_var rfl (.int _)) ed_int)).cast (decide_eq_false (by omega))) (fun z => absurd z (by decide)) fun _ => ed_int⟩
    obtain ⟨M, hM, hME⟩ := hw
    refine seq_ed (set_eg (K := K) (j := r + 7 + 3 * N) (n := 1) (p := p) (c := c) (hB.le (by omega)) (eg_take (m := M) rfl hME (by omega) (by omega)) fun v H1 d pd nd g1 B1 d1 => ?_)
    obtain ⟨way, hway, rfl⟩ := pd
    obtain rfl := dp_int d1
    dsimp only
    have num : ∀ {σ : L2.St} {H : Hp} {a : Nat}, σ[0]? = some (some (.ref p)) → 1 ≤ a → a ≤ 12 → Eg K p c 3 (tCall (spNum K) [] E0 (tCons (tVar 0) (tCons (tC (.int (a : Int))) tNil))) σ H (fun d => ∃ q, d = fr q ∧ Nq q) := fun hs h1 h2 => eg_callB (K := K) (k := 3) _ hs (fun H1 _ => eda_cons ed_int eda_nil) ⟨h1, h2⟩
    refine seq_ed (if_et (K := K) (b := decide ((way : Int) < 3) && (may && decide ((0 : Int) < (R : Int)))) (et_and (et_test (ed_lt (ed_var rfl (.int _)) ed_int)) fun _ => et_and (et_B (ed_var rfl (.bl _))) fun _ => et_test (ed_gt (ed_var rfl (.int _)) ed_int)) (fun hb H2 e2 => ?_) fun hb H2 e2 => nil_ed ?_)
    · simp only [Bool.and_eq_true, decide_eq_true_eq] at hb
      refine ret_eg (K := K) (p := p) (c := c) (j := r) ((B1.mono e2).le (by omega)) (eg_tup (ega_cons eg_str (ega_cons (eg_take (m := R) rfl (fun _ _ => ed_var rfl (.int _)) (by omega) (by omega)) (ega_cons (num (a := 12) rfl (by decide) (by decide)) ega_nil))) ?_) fun v H4 d pd nd g4 B4 d4 => k v H4 d ?_ nd ((g1.trans (Ex.g e2)).trans g4).b B4 d4
      · rintro ds ⟨_, _, rfl, _, _, _, rfl, _, _, _, rfl, _, rfl⟩
        show 3 ≤ 16777216; omega
      · obtain ⟨ds, ⟨d1, _, rfl, rfl, d2, _, rfl, ⟨a, ha, rfl⟩, d3, _, rfl, ⟨q, rfl, hq⟩, rfl⟩, rfl⟩ := pd
        exact ⟨.due a q, by simp only [claimD], dc_due ha hq⟩
    dsimp only
    refine seq_ed (if_et (K := K) (b := decide ((way : Int) < 5)) (et_test (ed_lt (ed_var rfl (.int _)) ed_int)) (fun hb H3 e3 => ?_) fun hb3 H3 e3 => nil_ed ?_)
    · refine ret_eg (K := K) (p := p) (c := c) (j := r) (((B1.mono e2).mono e3).le (by omega)) (eg_tup (ega_cons eg_str (ega_cons (num (a := 5) rfl (by decide) (by decide)) ega_nil)) ?_) fun v H4 d pd nd g4 B4 d4 => k v H4 d ?_ nd ((g1.trans (Ex.g (e2.trans e3))).trans g4).b B4 d4
      · rintro ds ⟨_, _, rfl, _, _, _, rfl, _, rfl⟩
        show 2 ≤ 16777216; omega
      · obtain ⟨ds, ⟨d1, _, rfl, rfl, d2, _, rfl, ⟨q, rfl, hq⟩, rfl⟩, rfl⟩ := pd
        exact ⟨.shares q, by simp only [claimD], dc_shares hq⟩
    dsimp only
    have e13 := e2.trans e3
    refine seq_ed (if_et (K := K) (b := decide ((way : Int) = 5)) (et_test (ed_eqi (ed_var rfl (.int _)) ed_int)) (fun hb H4 e4 => ?_) fun hb4 H4 e4 => nil_ed ?_)
    · refine ret_eg (K := K) (p := p) (c := c) (j := r) (((B1.mono e13).mono e4).le (by omega)) (eg_tup (ega_cons eg_str (ega_cons (num (a := 5) rfl (by decide) (by decide)) (ega_cons (num (a := 4) rfl (by decide) (by decide)) ega_nil))) ?_) fun v H5 d pd nd g4 B4 d4 => k v H5 d ?_ nd ((g1.trans (Ex.g (e13.trans e4))).trans g4).b B4 d4
      · rintro ds ⟨_, _, rfl, _, _, _, rfl, _, _, _, rfl, _, rfl⟩
        show 3 ≤ 16777216; omega
      · obtain ⟨ds, ⟨d1, _, rfl, rfl, d2, _, rfl, ⟨q, rfl, hq⟩, d3, _, rfl, ⟨q2, rfl, hq2⟩, rfl⟩, rfl⟩ := pd
        exact ⟨.option q q2, by simp only [claimD], dc_option hq hq2⟩
    dsimp only
    have e14 := e13.trans e4
    refine seq_ed (if_et (K := K) (b := decide ((way : Int) = 6)) (et_test (ed_eqi (ed_var rfl (.int _)) ed_int)) (fun hb H5 e5 => ?_) fun hb5 H5 e5 => nil_ed ?_)
    · refine ret_eg (K := K) (p := p) (c := c) (j := r) (n := 1 + 1) (P := fun d => ∃ c, d = claimD c ∧ Dc R m c) (((B1.mono e14).mono e5).le (by omega)) (eg_if (etg_eqI (eg_take (m := 3) rfl (fun _ _ => ed_int) (by decide) (by decide)) fun d ⟨k, _, z⟩ => ⟨_, z⟩) (((eg_tup (ega_cons eg_str ega_nil) ?_).imp ?_).le (by decide)) ((eg_tup (ega_cons eg_str (ega_cons (eg_tup (ega_cons (eg_addI (eg_take (m := 2) rfl (fun _ _ => ed_int) (by decide) (by decide)) fun d ⟨k, _, z⟩ => ⟨_, z⟩) (ega_cons eg_int ega_nil)) ?_) ega_nil)) ?_).imp ?_)) fun v H6 d pd nd g4 B4 d4 => k v H6 d pd nd ((g1.trans (Ex.g (e14.trans e5))).trans g4).b B4 d4
      · rintro ds ⟨_, _, rfl, _, rfl⟩
        show 1 ≤ 16777216; omega
      · rintro d ⟨ds, ⟨_, _, rfl, rfl, rfl⟩, rfl⟩
        exact ⟨.none, by simp only [claimD], dc_none R m⟩
      · rintro ds ⟨_, _, rfl, _, _, _, rfl, _, rfl⟩
        show 2 ≤ 16777216; omega
      · rintro ds ⟨_, _, rfl, _, _, _, rfl, _, rfl⟩
        show 2 ≤ 16777216; omega
      · rintro d ⟨ds, ⟨_, _, rfl, rfl, _, _, rfl, ⟨_, ⟨_, _, rfl, ⟨_, ⟨a, ha, za⟩, rfl⟩, _, _, rfl, rfl, rfl⟩, rfl⟩, rfl⟩, rfl⟩
        cases za
        refine ⟨.shares ((a + 1 : Nat) : Rat), ?_, dc_shares (nq_nat (by omega))⟩
        simp only [claimD]
        rw [fr_nat, Int.add_comm, Int.natCast_add]; rfl
    dsimp only
    have e15 := e14.trans e5
    have hw7 : 7 ≤ way ∧ 0 < m := by
      have h4 := of_decide_eq_false hb3
      have h5 := of_decide_eq_false hb4
      have h6 := of_decide_eq_false hb5
      rcases hM with ⟨rfl, h⟩ | ⟨rfl, h⟩
      · exact ⟨by omega, h⟩
      · omega
    obtain ⟨m', rfl⟩ : ∃ m', m = m' + 1 := ⟨m - 1, by omega⟩
    have clm : ∀ {σ : L2.St} {H : Hp}, σ[0]? = some (some (.ref p)) → σ[1]? = some (some (.int (R : Int))) → σ[2]? = some (some (.int ((m' + 1 : Nat) : Int))) → σ[3]? = some (some (.bl may)) → Eg K p c N (tCall (spB K N (fun x : Nat × Nat × Bool => [.int x.1, .int x.2.1, .bool x.2.2]) (fun x => x.1 ≤ 6 ∧ x.2.1 < n) fun x d => ∃ c, d = claimD c ∧ Dc x.1 x.2.1 c) [] E0 (tCons (tVar 0) (tCons (tVar 1) (tCons (tOp (rI0 fun i j => .int (i - j)) (tVar 2) (tC (.int 1))) (tCons (tVar 3) tNil))))) σ H (fun d => ∃ c, d = claimD c ∧ Dc R m' c) := fun s0 s1 s2 s3 => eg_callB (K := K) (k := N) (R, m', may) s0 (fun H1 _ => eda_cons (ed_var s1 (.int _)) (eda_cons ((ed_sub (ed_var s2 (.int _)) ed_int).cast (congrArg PyData.int (by show ((m' + 1 : Nat) : Int) - 1 = ((m' : Nat) : Int); omega))) (eda_cons (ed_var s3 (.bl _)) eda_nil))) ⟨hR, by show m' < n; omega⟩
    refine seq_ed (if_et (K := K) (b := decide ((way : Int) = 7)) (et_test (ed_eqi (ed_var rfl (.int _)) ed_int)) (fun hb H6 e6 => ?_) fun hb6 H6 e6 => nil_ed ?_)
    · refine ret_eg (K := K) (p := p) (c := c) (j := r) (((B1.mono e15).mono e6).le (by omega)) (eg_tup (ega_cons eg_str (ega_cons (clm rfl rfl rfl rfl) (ega_cons (num (a := 12) rfl (by decide) (by decide)) ega_nil))) ?_) fun v H7 d pd nd g4 B4 d4 => k v H7 d ?_ nd ((g1.trans (Ex.g (e15.trans e6))).trans g4).b B4 d4
      · rintro ds ⟨_, _, rfl, _, _, _, rfl, _, _, _, rfl, _, rfl⟩
        show 3 ≤ 16777216; omega
      · obtain ⟨ds, ⟨d1, _, rfl, rfl, d2, _, rfl, ⟨cc, rfl, hcc⟩, d3, _, rfl, ⟨q2, rfl, hq2⟩, rfl⟩, rfl⟩ := pd
        exact ⟨.capped cc q2, by simp only [claimD], dc_capped hcc hq2⟩
    dsimp only
    have e16 := e15.trans e6
    refine seq_ed (set_eg (K := K) (j := r + 3 * N) (p := p) (c := c) ((B1.mono e16).le (by omega)) (eg_addI (eg_take (m := 2) rfl (fun _ _ => ed_int) (by decide) (by decide)) fun d ⟨k, _, z⟩ => ⟨_, z⟩) fun v H7 d pd nd g7 B7 d7 => ?_)
    obtain ⟨_, ⟨a, ha, za⟩, rfl⟩ := pd
    cases za
    obtain rfl := dp_int d7
    dsimp only
    refine ret_eg (K := K) (p := p) (c := c) (j := r) (B7.le (by omega)) (eg_tup (ega_cons eg_str (ega_cons (eg_tupleL (lc_g (M := 3) (L := fun l => l = 2 + a) ((ega_cons (eg_var rfl (.int _) rfl) ega_nil).imp ?_) (by decide) (fun _ => rfl) fun _ => clm rfl rfl rfl rfl)) ega_nil)) ?_) fun v H8 d pd nd g8 B8 d8 => k v H8 d ?_ nd (((g1.trans (Ex.g e16)).trans g7).trans g8).b B8 d8
    · rintro ds ⟨_, _, rfl, rfl, rfl⟩
      exact ⟨2 + a, ⟨by omega, rfl⟩, by rw [Int.natCast_add]; rfl⟩
    · rintro ds ⟨_, _, rfl, _, _, _, rfl, _, rfl⟩
      show 2 ≤ 16777216; omega
    · obtain ⟨ds, ⟨d1, _, rfl, rfl, d2, _, rfl, ⟨es, ⟨⟨hl3, hl⟩, hes⟩, rfl⟩, rfl⟩, rfl⟩ := pd
      obtain ⟨cs, rfl, hcs⟩ := claims_of hes
      rw [List.length_map] at hl hl3
      exact ⟨.sum cs, by simp only [claimD, claimsD_eq], dc_sum hcs (by omega) hl3⟩
end
end Sw
namespace Sw
open PySem PySem.Spec PyProof.Rows L2 Evl SwT
section
variable {K : PySem.W.Frag} {σ : L2.St} {H H' : Hp} {ta tb te : TE} {ts : TA} {tt tu : TT} {ds : List PyData} {d : PyData} {D : Ends} {p c q : Addr} {m n i j n1 n2 : Nat} {P P' : PyData → Prop} {S S1 S2 : Prop} {t1 t2 : TS}
/-- a test that draws: what is so where it holds -/
def EtS (_ : PySem.W.Frag) (p c : Addr) (n : Nat) (tt : TT) (σ : L2.St) (H : Hp) (S : Prop) : Prop := ∀ H1 r, ExG p H H1 → Bag H1 p c (r + n) → ∀ Q : Bool → Hp → Prop, (∀ b H2, (b = true → S) → ExG p H1 H2 → Bag H2 p c r → Q b H2) → tt σ H1 Q
theorem Etg.s (h : Etg K p c n tt σ H) : EtS K p c n tt σ H True := fun H1 r x B Q z => h H1 r x B Q fun b H2 => z b H2 fun _ => trivial
theorem ets_pure {b : Bool} (h : ∀ H1, ExG p H H1 → Et K tt σ H1 b) (hs : b = true → S) : EtS K p c 0 tt σ H S := fun H1 r x B Q z => (h H1 x) H1 (Ex.refl H1) Q fun H2 e2 => z b H2 hs (Ex.g e2) (B.mono e2)
theorem ets_and (h1 : EtS K p c n1 tt σ H S1) (h2 : S1 → EtS K p c n2 tu σ H S2) : EtS K p c (n1 + n2) (tAnd tt tu) σ H (S1 ∧ S2) := fun H1 r x B Q z => h1 H1 (r + n2) x (B.le (by omega)) _ fun b H2 hb e2 B2 => by
  cases b with
  | true =>
    show (if true = true then tu σ H2 Q else Q false H2)
    rw [if_pos rfl]
    exact h2 (hb rfl) H2 r (x.trans e2) B2 Q fun b H3 hb3 e3 B3 => z b H3 (fun w => ⟨hb rfl, hb3 w⟩) (e2.trans e3) B3
  | false =>
    show (if false = true then tu σ H2 Q else Q false H2)
    rw [if_neg Bool.false_ne_true]
    exact z false H2 (fun w => absurd w (by decide)) e2 (B2.le (by omega))
theorem if_jg {Pst : Hp → Prop} (B : Bag H p c (j + n)) (h : EtS K p c n tt σ H S) (k : ∀ H', Pst H' → D.nx σ H') (h1 : (∀ H', Pst H' → D.nx σ H') → S → ∀ H', ExG p H H' → Bag H' p c j → t1 D σ H')
    (h2 : (∀ H', Pst H' → D.nx σ H') → ∀ H', ExG p H H' → Bag H' p c j → t2 D σ H') : tIfS tt t1 t2 D σ H := h H j (ExG.refl H) B _ fun b H' hb e' B' => by
  cases b with
  | true =>
    show (if true = true then t1 D σ H' else t2 D σ H')
    rw [if_pos rfl]; exact h1 k (hb rfl) H' e' B'
  | false =>
    show (if false = true then t1 D σ H' else t2 D σ H')
    rw [if_neg Bool.false_ne_true]; exact h2 k H' e' B'
theorem ExG.new {H0 H1 H2 : Hp} (h0 : H0 q = none) (a : ExG p H0 H1) (b : ExB q H1 H2) (i : Im H1 H2) : ExG p H0 H2 := ⟨fun x o hx h => b x o (ne_of_none h h0) (a.b x o hx h), a.i.trans i⟩
/-- q[0], q[1] = x, y -/
theorem set2_eg {a b : PyData} {R : PyData → PyData → Prop} (hs : σ[i]? = some (some (.ref q))) (hl : Lm K H q (a :: b :: ds)) (hq : q ≠ p) (hc : q ≠ c) (hn : nols (a :: b :: ds) = true) (B : Bag H p c (j + n)) (h : Eg K p c n te σ H P)
    (hP : ∀ d, P d → ∃ x y, d = .tuple [x, y] ∧ R x y) (k : ∀ H1 H2 x y, R x y → nol x = true → nol y = true → ExG p H H1 → ExB q H1 H2 → Im H1 H2 → Bag H2 p c j → Lm K H2 q (x :: y :: ds) → D.nx σ H2) :
    tAsg te (gTup K 2 (gCons (gSub (tVar i) (tC (.int ((0 : Nat) : Int))) L2.rSetL) (gCons (gSub (tVar i) (tC (.int ((1 : Nat) : Int))) L2.rSetL) gNil))) D σ H := h H j (ExG.refl H) B _ fun v H1 d pd nd e1 B1 d1 => by
  obtain ⟨x, y, rfl, r⟩ := hP d pd
  obtain ⟨t, vs, rfl, st, at_⟩ := dp_tup d1
  obtain ⟨v1, v2, rfl, dv1, dv2⟩ := dps_two at_
  simp only [nol, nols, Bool.and_eq_true, Bool.and_true] at nd
  obtain ⟨us, u1, u2⟩ := e1.lm hl hq hn
  cases u2 with
  | cons ua u2 =>
    cases u2 with
    | cons ub u2 =>
      rename_i va vb vr
      have im1 : Im H1 (upd H1 q (.lst (v1 :: vb :: vr))) := im_upd u1 rfl
      have im2 : Im (upd H1 q (.lst (v1 :: vb :: vr))) (upd (upd H1 q (.lst (v1 :: vb :: vr))) q (.lst (v1 :: v2 :: vr))) := im_upd upd_same rfl
      have im := im1.trans im2
      simp only [nols, Bool.and_eq_true] at hn
      have ix0 : ∀ n : Nat, 0 < n → ixN n ((0 : Nat) : Int) = some 0 := fun n h => by unfold ixN; rw [if_pos (Int.natCast_nonneg 0), if_pos (by omega)]; rfl
      have ix1 : ∀ n : Nat, 1 < n → ixN n ((1 : Nat) : Int) = some 1 := fun n h => by unfold ixN; rw [if_pos (Int.natCast_nonneg 1), if_pos (by omega)]; rfl
      refine ⟨t, _, rfl, st, rfl, v1, _, rfl, ⟨_, hs, q, _, _, 0, rfl, rfl, u1, ix0 _ (by simp), v2, _, rfl, ⟨_, hs, q, _, _, 1, rfl, rfl, upd_same, ix1 _ (by simp), rfl, ?_⟩⟩⟩
      exact k H1 _ x y r nd.1 nd.2 e1 (exB_upd.trans exB_upd) im ((B1.exB exB_upd (Ne.symm hq) (Ne.symm hc)).exB exB_upd (Ne.symm hq) (Ne.symm hc)) ⟨_, upd_same, .cons (dp_im im nd.1 dv1) (.cons (dp_im im nd.2 dv2) (dps_im im hn.2.2 u2))⟩
end
/-- drawn options -/
def Od (R : Nat) (d : PyData) : Prop := ∃ cs : List Claim, d = .tuple (cs.map claimD) ∧ (∀ c ∈ cs, Dc R 2 c) ∧ 1 ≤ cs.length ∧ cs.length ≤ 4
section
variable {P : Program} {w : World} {K : PySem.W.Frag} {mg : Str → Option Value} {base : Heap}
theorem sc__law_options : FnScope ["_law_bag_here", "_law_ranks", "_law_may_due", "_law_many", "_law_found", "_law_turn"] ["_law_bag_here", "_law_ranks", "_law_may_due"] (defScope s__law_options) := ⟨rfl, rfl, rfl, by decide +kernel, rfl, by decide +kernel, by decide +kernel⟩
abbrev Cf__law_options (P w K mg base) := Cal P w K mg base "_law_options" 8 ["_law_bag_here", "_law_ranks", "_law_may_due"] (spB K 430 (fun x : Nat × Bool => [.int x.1, .bool x.2]) (fun x => x.1 ≤ 6) fun x d => Od x.1 d)
theorem ok__law_options (T : Tx w K mg) (C__law_claim : Cf__law_claim P w K mg base 3) (C__law_some : Cf__law_some P w K mg base) (C__law_take : Cf__law_take P w K mg base) : Cf__law_options P w K mg base := by
  refine T.cal (d := d__law_options) 58 53 rfl rfl rfl rfl rfl sc__law_options (fun _ _ _ _ _ _ us hl => match us, hl with | [_, _, _], _ => rfl) (spB_len fun _ => rfl) fun f cdv A outer s H vs Q E hr h => ⟨_, (pss_cons (ps_set (i := 3) sc__law_options.nd rfl (by first | exact Or.inl rfl | exact Or.inr rfl) (pe_cc C__law_some (hr.mono (by decide)) (by rfl) (pa_cons (pv 0) (pa_cons (pe_lst (pa_cons pe_int (pa_cons pe_int (pa_cons pe_int (pa_cons pe_int (pa_cons pe_int (pa_cons pe_int pa_nil))))))) pa_nil))))
      (pss_cons (ps_setLc (i := 4) rfl sc__law_options.nd rfl rfl (sw_true rfl rfl rfl (by decide +kernel)) (pi_range1 (by rfl) T.f_range (pa_cons (pv 3) pa_nil)) (blkOk_by (own := [("_law_turn", 5)]) (N := ["_law_bag_here", "_law_ranks", "_law_may_due", "_law_many", "_law_found", "_law_turn"]) (by kernel_rfl)) (fun _ _ _ _ _ => (pg_name (i := 5) sc__law_options.nd rfl (by first | exact Or.inl rfl | exact Or.inr rfl))) (fun _ _ _ _ _ => pts_nil) (fun _ _ _ _ _ => (pe_cc C__law_claim (hr.mono (by decide)) (by rfl) (pa_cons (pv 0) (pa_cons (pv 1) (pa_cons (pe_op op_add pe_int (pe_cc C__law_take (hr.mono (by decide)) (by rfl) (pa_cons (pv 0) (pa_cons pe_int pa_nil)))) (pa_cons (pv 2) pa_nil)))))))
      (pss_cons (ps_if (PW.pt (pw_and (pt_cmpR op_gt (pv 3) pe_int (nomark _)) (pw_and (pt_val (pv 2)) (pw_and (pt_cmpR op_gt (pv 1) pe_int (nomark _)) (pw_and1 (pt_cmpR (op_eqD hr.units) (pe_cc C__law_take (hr.mono (by decide)) (by rfl) (pa_cons (pv 0) (pa_cons pe_int pa_nil))) pe_int (nomark _))))))) (pss_one (ps_asg (pe_tup (pa_cons (pe_tup (pa_cons pe_str (pa_cons (pe_cc C__law_take (hr.mono (by decide)) (by rfl) (pa_cons (pv 0) (pa_cons (pv 1) pa_nil))) (pa_cons (pe_tup (pa_cons pe_int (pa_cons pe_int pa_nil))) pa_nil)))) (pa_cons (pe_tup (pa_cons pe_str (pa_cons (pe_tup (pa_cons (pe_op op_add pe_int (pe_cc C__law_take (hr.mono (by decide)) (by rfl) (pa_cons (pv 0) (pa_cons pe_int pa_nil)))) (pa_cons pe_int pa_nil))) pa_nil))) pa_nil))) (pg_tup rfl (pgs_cons (pg_sub (pv 4) pe_int set_list) (pgs_cons (pg_sub (pv 4) pe_int set_list) pgs_nil))))) pss_nil)
      (pss_one (ps_ret (pe_callTy call_tuple_of (by rfl) T.f_tuple (by decide +kernel) (pa_cons (pv 4) pa_nil))))))), ?_⟩
  obtain ⟨p, c, r, us, ⟨R, may⟩, rfl, hB, hd, hR, k⟩ := h
  obtain ⟨v1, v2, rfl, h1, h2⟩ := dps_two hd
  obtain rfl := dp_int h1
  obtain rfl := dp_bool h2
  dsimp only at hR k
  have hs16 : sizeLine = 16777216 := rfl
  refine seq_ed (set_eg (K := K) (j := r + 425) (n := 0 + 1) (p := p) (c := c) (hB.le (by omega)) (eg_some (ds := [.int 2, .int 1, .int 2, .int 3, .int 4, .int 2]) rfl (egl_pure (fun _ _ => edl_lst (eda_cons ed_int (eda_cons ed_int (eda_cons ed_int (eda_cons ed_int (eda_cons ed_int (eda_cons ed_int eda_nil)))))))).ng (by simp) (by simp [hs16])) fun v H1 d pd nd g1 B1 d1 => ?_)
  have hmany : ∃ m : Nat, (1 ≤ m ∧ m ≤ 4) ∧ d = .int (m : Int) := by
    simp only [List.mem_cons, List.not_mem_nil, or_false] at pd
    rcases pd with z | z | z | z | z | z
    · exact ⟨2, by decide, z⟩
    · exact ⟨1, by decide, z⟩
    · exact ⟨2, by decide, z⟩
    · exact ⟨3, by decide, z⟩
    · exact ⟨4, by decide, z⟩
    · exact ⟨2, by decide, z⟩
  obtain ⟨m, ⟨hm1, hm4⟩, rfl⟩ := hmany
  obtain rfl := dp_int d1
  dsimp only
  have hdr : dr 3 = 104 := rfl
  refine seq_ed (setl_eg (K := K) (j := r + 5) (n := 0 + 0 + 4 * (0 + (0 + 1 + (0 + 0)) + dr 3)) (p := p) (c := c) (B1.le (by omega)) (lc_g (P := fun d => ∃ c, d = claimD c ∧ Dc R 2 c) (M := 4) (L := fun l => l = m) ((ega_cons (eg_var rfl (.int _) rfl) ega_nil).imp ?_) (by decide) (fun _ => rfl) fun kk => eg_callBA (k := dr 3) rfl ((ega_cons (eg_var (d := .int (R : Int)) rfl (.int _) rfl) (ega_cons (eg_addI (eg_take (m := 2) rfl (fun _ _ => ed_int) (by decide) (by decide)) fun d ⟨k, _, z⟩ => ⟨_, z⟩) (ega_cons (eg_var (d := .bool may) rfl (.bl _) rfl) ega_nil))).imp ?_)) fun q H2 ds pd nd g2 B2 hq l2 => ?_)
  · rintro ds ⟨_, _, rfl, rfl, rfl⟩
    exact ⟨m, ⟨hm4, rfl⟩, rfl⟩
  · rintro ds ⟨_, _, rfl, rfl, _, _, rfl, ⟨_, ⟨a, ha, za⟩, rfl⟩, _, _, rfl, rfl, rfl⟩
    cases za
    exact ⟨(R, 1 + a, may), by rw [Int.natCast_add]; rfl, ⟨hR, by show 1 + a < 3; omega⟩, fun d ⟨c, e, hc⟩ => ⟨c, e, hc.up (by show 1 + a ≤ 2; omega)⟩⟩
  · obtain ⟨⟨_, hl⟩, hds⟩ := pd
    dsimp only
    have hq0 : H q = none := by
      cases hh : H q with
      | none => rfl
      | some o =>
        have := (B1.old hq).1
        rw [g1.b q o this hh] at hq; cases hq
    have old2 := B1.old hq
    refine seq_ed (if_jg (K := K) (j := r + 2) (n := 0 + (0 + (0 + 1))) (p := p) (c := c) (S := (2 ≤ m) ∧ True ∧ 0 < R ∧ True) (Pst := fun H' => ∃ es, es.length = m ∧ (∀ d ∈ es, ∃ c, d = claimD c ∧ Dc R 2 c) ∧ nols es = true ∧ ExG p H H' ∧ Bag H' p c r ∧ Lm K H' q es) (B2.le (by omega))
      (ets_and (ets_pure (fun _ _ => et_test (ed_gt (ed_var rfl (.int _)) ed_int)) fun z => by have := of_decide_eq_true z; omega) fun _ => ets_and (ets_pure (fun _ _ => et_B (ed_var rfl (.bl _))) fun _ => trivial) fun _ => ets_and (ets_pure (fun _ _ => et_test (ed_gt (ed_var rfl (.int _)) ed_int)) fun z => by have := of_decide_eq_true z; omega) fun _ => (etg_eqI (eg_take (m := 3) rfl (fun _ _ => ed_int) (by decide) (by decide)) fun d ⟨k, _, z⟩ => ⟨_, z⟩).s) ?_ ?_ ?_)
    · rintro H3 ⟨es, hel, hes, hn, g3, B3, l3⟩
      obtain ⟨cs, rfl, hcs⟩ := claims_of hes
      rw [List.length_map] at hel
      exact ret_ed (K := K) (ed_tupleL (edt_var rfl l3).toD) fun v H4 e4 d4 => k v H4 _ ⟨cs, rfl, hcs, by omega, by omega⟩ (by simp only [nol]; exact hn) (g3.trans (Ex.g e4)).b (B3.mono e4) d4
    · intro kk ⟨h2m, _, hR0, _⟩ H3 g3 B3
      have l3 := g3.lm l2 old2.1 nd
      match ds, hl, hds, nd, l3 with
      | a :: b :: ds, hl, hds, nd, l3 =>
        refine set2_eg (K := K) (j := r) (n := 1 + (1 + 0)) (p := p) (c := c) (R := fun x y => (∃ c, x = claimD c ∧ Dc R 2 c) ∧ ∃ c, y = claimD c ∧ Dc R 2 c) rfl l3 old2.1 old2.2 nd (B3.le (by omega)) (eg_tup (ega_cons ((eg_tup (ega_cons eg_str (ega_cons (eg_take (m := R) rfl (fun _ _ => ed_var rfl (.int _)) (by omega) (by omega)) (ega_cons (eg_tup (ega_cons eg_int (ega_cons eg_int ega_nil)) ?_) ega_nil))) ?_).le (by decide)) (ega_cons ((eg_tup (ega_cons eg_str (ega_cons (eg_tup (ega_cons (eg_addI (eg_take (m := 2) rfl (fun _ _ => ed_int) (by decide) (by decide)) fun d ⟨k, _, z⟩ => ⟨_, z⟩) (ega_cons eg_int ega_nil)) ?_) ega_nil)) ?_).le (by decide)) ega_nil)) ?_) ?_ ?_
        · rintro ds ⟨_, _, rfl, _, _, _, rfl, _, rfl⟩
          show 2 ≤ 16777216; omega
        · rintro ds ⟨_, _, rfl, _, _, _, rfl, _, _, _, rfl, _, rfl⟩
          show 3 ≤ 16777216; omega
        · rintro ds ⟨_, _, rfl, _, _, _, rfl, _, rfl⟩
          show 2 ≤ 16777216; omega
        · rintro ds ⟨_, _, rfl, _, _, _, rfl, _, rfl⟩
          show 2 ≤ 16777216; omega
        · rintro ds ⟨_, _, rfl, _, _, _, rfl, _, rfl⟩
          show 2 ≤ 16777216; omega
        · rintro d ⟨_, ⟨_, _, rfl, ⟨_, ⟨_, _, rfl, rfl, _, _, rfl, ⟨a1, ha1, rfl⟩, _, _, rfl, ⟨_, ⟨_, _, rfl, rfl, _, _, rfl, rfl, rfl⟩, rfl⟩, rfl⟩, rfl⟩, _, _, rfl, ⟨_, ⟨_, _, rfl, rfl, _, _, rfl, ⟨_, ⟨_, _, rfl, ⟨_, ⟨a2, ha2, z⟩, rfl⟩, _, _, rfl, rfl, rfl⟩, rfl⟩, rfl⟩, rfl⟩, rfl⟩, rfl⟩
          cases z
          refine ⟨_, _, rfl, ⟨.due a1 4, ?_, dc_due ha1 (nq_nat (k := 3) (by decide))⟩, .shares ((a2 + 1 : Nat) : Rat), ?_, dc_shares (nq_nat (by omega))⟩
          · simp only [claimD]
            rw [show (4 : Rat) = ((4 : Nat) : Rat) from rfl, fr_nat]; rfl
          · simp only [claimD]
            rw [fr_nat, Int.add_comm, Int.natCast_add]; rfl
        · intro H4 H5 x y ⟨hx, hy⟩ nx ny g4 b5 i5 B5 l5
          refine kk H5 ⟨x :: y :: ds, by rw [← hl]; rfl, fun d hd => ?_, ?_, ExG.new hq0 (((g1.trans g2).trans g3).trans g4) b5 i5, B5, l5⟩
          · rcases List.mem_cons.mp hd with z | hd
            · rw [z]; exact hx
            · rcases List.mem_cons.mp hd with z | hd
              · rw [z]; exact hy
              · exact hds d (List.mem_cons_of_mem _ (List.mem_cons_of_mem _ hd))
          · simp only [nols, Bool.and_eq_true] at nd ⊢
            exact ⟨nx, ny, nd.2.2⟩
      | [a], hl, _, _, _ => simp at hl; omega
      | [], hl, _, _, _ => simp at hl; omega
    · intro kk H3 g3 B3
      exact nil_ed (kk H3 ⟨ds, hl, hds, nd, (g1.trans g2).trans g3, B3.le (by omega), g3.lm l2 old2.1 nd⟩)
theorem sc__law_firm_options : FnScope ["_law_bag_here", "_law_ranks", "_law_may_due", "_law_turn"] ["_law_bag_here", "_law_ranks", "_law_may_due"] (defScope s__law_firm_options) := ⟨rfl, rfl, rfl, by decide +kernel, rfl, by decide +kernel, by decide +kernel⟩
abbrev Cf__law_firm_options (P w K mg base) := Cal P w K mg base "_law_firm_options" 8 ["_law_bag_here", "_law_ranks", "_law_may_due"] (spB K 430 (fun x : Nat × Bool => [.int x.1, .bool x.2]) (fun x => x.1 ≤ 6) fun x d => Od x.1 d)
theorem ok__law_firm_options (T : Tx w K mg) (C__law_claim : Cf__law_claim P w K mg base 3) (C__law_take : Cf__law_take P w K mg base) : Cf__law_firm_options P w K mg base := by
  refine T.cal (d := d__law_firm_options) 59 54 rfl rfl rfl rfl rfl sc__law_firm_options (fun _ _ _ _ _ _ us hl => match us, hl with | [_, _, _], _ => rfl) (spB_len fun _ => rfl) fun f cdv A outer s H vs Q E hr h => ⟨_, (pss_one (ps_ret (pe_callTy call_tuple_of (by rfl) T.f_tuple (by decide +kernel) (pa_cons (pe_lc rfl sc__law_firm_options.nd (pi_range1 (by rfl) T.f_range (pa_cons (pe_op op_add pe_int (pe_cc C__law_take (hr.mono (by decide)) (by rfl) (pa_cons (pv 0) (pa_cons pe_int pa_nil)))) pa_nil)) (blkOk_by (own := [("_law_turn", 3)]) (N := ["_law_bag_here", "_law_ranks", "_law_may_due", "_law_turn"]) (by kernel_rfl)) (fun _ _ _ _ _ => (pg_name (i := 3) sc__law_firm_options.nd rfl (by first | exact Or.inl rfl | exact Or.inr rfl))) (fun _ _ _ _ _ => pts_nil) (fun _ _ _ _ _ => (pe_cc C__law_claim (hr.mono (by decide)) (by rfl) (pa_cons (pv 0) (pa_cons (pv 1) (pa_cons pe_int (pa_cons (pv 2) pa_nil))))))) pa_nil)))), ?_⟩
  obtain ⟨p, c, r, us, ⟨R, may⟩, rfl, hB, hd, hR, k⟩ := h
  obtain ⟨v1, v2, rfl, h1, h2⟩ := dps_two hd
  obtain rfl := dp_int h1
  obtain rfl := dp_bool h2
  dsimp only at hR k
  have hdr : dr 3 = 104 := rfl
  refine ret_eg (K := K) (p := p) (c := c) (j := r) (n := 1 + 0 + 2 * dr 3) (P := Od R) (hB.le (by omega)) ((eg_tupleL (lc_g (M := 2) (L := fun l => 1 ≤ l ∧ l ≤ 2) (P := fun d => ∃ c, d = claimD c ∧ Dc R 2 c) ((ega_cons (eg_addI (eg_take (m := 2) rfl (fun _ _ => ed_int) (by decide) (by decide)) fun d ⟨k, _, z⟩ => ⟨_, z⟩) ega_nil).imp ?_) (by decide) (fun _ => rfl) fun kk => (eg_callB (k := dr 3) (R, 1, may) rfl (fun H1 _ => eda_cons (ed_var rfl (.int _)) (eda_cons ed_int (eda_cons (ed_var rfl (.bl _)) eda_nil))) ⟨hR, by show 1 < 3; decide⟩).imp fun d ⟨c, e, hc⟩ => ⟨c, e, hc.up (by show 1 ≤ 2; decide)⟩)).imp ?_) fun v H1 d pd nd g1 B1 d1 => k v H1 d pd nd g1.b B1 d1
  · rintro ds ⟨_, _, rfl, ⟨_, ⟨a, ha, za⟩, rfl⟩, rfl⟩
    cases za
    exact ⟨1 + a, ⟨by omega, by omega, by omega⟩, by rw [Int.natCast_add]; rfl⟩
  · rintro d ⟨es, ⟨⟨_, hl1, hl2⟩, hes⟩, rfl⟩
    obtain ⟨cs, rfl, hcs⟩ := claims_of hes
    rw [List.length_map] at hl1 hl2
    exact ⟨cs, rfl, hcs, hl1, by omega⟩
end
end Sw
namespace Sw
open PySem PySem.Spec PyProof.Rows L2 Evl SwT
/-! the drawn web -/
def firmN : List Str := ["a", "b", "c", "dog", "e", "fir", "g", "h"]
def peopleN : List Str := ["x", "y", "z", "ann", "bo", "w"]
theorem nm_of {x : Str} (h : (decide (1 ≤ x.length) && (decide (x.length ≤ 12) && x.cps.toList.all fun c => decide (97 ≤ c) && decide (c ≤ 122))) = true) : Nm x := by
  simp only [Bool.and_eq_true, decide_eq_true_eq, List.all_eq_true] at h
  exact ⟨h.1, h.2.1, h.2.2⟩
theorem nm_all : ∀ x ∈ firmN ++ peopleN, Nm x := fun x hx => nm_of (List.all_eq_true.mp (show ((firmN ++ peopleN).all fun x => (decide (1 ≤ x.length) && (decide (x.length ≤ 12) && x.cps.toList.all fun c => decide (97 ≤ c) && decide (c ≤ 122)))) = true by decide +kernel) x hx)
theorem firmN_nodup : firmN.Nodup := by decide +kernel
theorem firmN_last : ∀ x ∈ firmN, x ≠ "zzzzzzzzzzzz" := by decide +kernel
/-- each less than the next -/
def asc : List Str → Prop
  | [] => True
  | x :: r => (∀ y, r.head? = some y → x.cps.toList < y.cps.toList) ∧ asc r
theorem lt_of_not {x y : Str} (h : ¬ y.cps.toList < x.cps.toList) (hne : x ≠ y) : x.cps.toList < y.cps.toList := by
  rcases Std.lt_trichotomy x.cps.toList y.cps.toList with h1 | h1 | h1
  · exact h1
  · exact absurd (str_ext h1) hne
  · exact absurd h1 h
theorem asc_rising : ∀ (r : List Str) (x : Str), risingS x r = true → (x :: r).Nodup → asc (x :: r)
  | [], x, _, _ => ⟨fun _ h => (by cases h), trivial⟩
  | y :: r, x, h, hn => by
    rw [risingS, Bool.and_eq_true, Bool.not_eq_true', ltCps_eq, decide_eq_false_iff_not] at h
    obtain ⟨h1, h2⟩ := List.nodup_cons.mp hn
    refine ⟨fun z hz => ?_, asc_rising r y h.2 h2⟩
    obtain rfl : y = z := by simpa using hz
    exact lt_of_not h.1 fun e => h1 (e ▸ List.mem_cons_self)
theorem asc_sorted {l : List Str} (h : sortedS l = true) (hn : l.Nodup) : asc l := by
  cases l with
  | nil => trivial
  | cons x r => exact asc_rising r x h hn
/-- a drawn firm -/
structure Fk (f : Firm) : Prop where
  nm : f.name ∈ firmN
  rk : f.ranks ≤ 6
  h1 : 1 ≤ f.holds.length
  h5 : f.holds.length ≤ 5
  hs : ∀ h ∈ f.holds, h.1 ∈ firmN ++ peopleN ∧ h.1 ≠ f.name ∧ (∀ c ∈ h.2, Dc f.ranks 2 c) ∧ 1 ≤ h.2.length ∧ h.2.length ≤ 4
structure Wk (W : List Firm) : Prop where
  as_ : asc (W.map (·.name))
  l1 : 1 ≤ W.length
  l3 : W.length ≤ 3
  fk : ∀ f ∈ W, Fk f
theorem hLines_len (h : Str × List Claim) : (hLines h).length = 1 + h.2.length := by unfold hLines; rw [List.length_cons, List.length_map]; omega
theorem flat_len {α β : Type} {f : α → List β} {k : Nat} : ∀ {l : List α}, (∀ x ∈ l, (f x).length ≤ k) → (l.flatMap f).length ≤ l.length * k
  | [], _ => by simp
  | x :: l, h => by
    have h1 := h x List.mem_cons_self
    have h2 := flat_len (l := l) fun y hy => h y (List.mem_cons_of_mem _ hy)
    rw [List.flatMap_cons, List.length_append, List.length_cons, Nat.add_mul]
    omega
theorem Fk.lines {f : Firm} (h : Fk f) : (fLines f).length ≤ 26 := by
  have h1 : (f.holds.flatMap hLines).length ≤ f.holds.length * 5 := flat_len fun x hx => by rw [hLines_len]; have := (h.hs x hx).2.2.2.2; omega
  have := h.h5
  unfold fLines
  rw [List.length_cons]; omega
theorem Wk.lines {W : List Firm} (h : Wk W) : (linesOf W).length ≤ 78 := by
  have h1 : (linesOf W).length ≤ W.length * 26 := flat_len fun x hx => (h.fk x hx).lines
  have := h.l3
  omega
theorem Dc.cw {R : Nat} {c : Claim} (h : Dc R 2 c) : Cw R c := ⟨h.wr, h.dp, by have h1 := h.wl; have e : 6 * 3 ^ 2 = 54 := rfl; omega⟩
theorem mm_ge : 9 * TT12 ≤ MM := by decide
theorem Dc.wc {R : Nat} {c : Claim} (h : Dc R 2 c) : Wc R c := ⟨h.ok, Rat.le_trans h.m (Rat.natCast_le_natCast.mpr mm_ge), h.lv, h.dp⟩
theorem Wk.ok {W : List Firm} (h : Wk W) : WebOk W :=
  ⟨fun f hf => nm_all _ (List.mem_append_left _ (h.fk f hf).nm), fun f hf => (h.fk f hf).rk, fun f hf x hx => nm_all _ ((h.fk f hf).hs x hx).1, fun f hf x hx c hc => (((h.fk f hf).hs x hx).2.2.1 c hc).cw, by have := h.lines; omega⟩
theorem good_as {fs out : List Firm} {n : Str} {r : Nat} {hs : List (Str × List Claim)} {h : Str} {ls : List Ln} (hr : r ≤ 6) : ∀ (cs os : List Claim) (b : Bool), cs ≠ [] → (∀ c ∈ cs, Wr r c ∧ depth c ≤ 2) → Good (fs ++ [⟨n, r, hs ++ [(h, os ++ cs)]⟩]) false ls out →
    Good (fs ++ [⟨n, r, hs ++ [(h, os)]⟩]) b (cs.map .as_ ++ ls) out
  | [], _, _, hz, _, _ => absurd rfl hz
  | [c], os, b, _, hc, t => .as_ (hc c List.mem_cons_self).1 (hc c List.mem_cons_self).2 hr t
  | c :: c' :: cs, os, b, _, hc, t => by
    refine .as_ (hc c List.mem_cons_self).1 (hc c List.mem_cons_self).2 hr (good_as hr (c' :: cs) (os ++ [c]) false (by simp) (fun x hx => hc x (List.mem_cons_of_mem _ hx)) ?_)
    rw [List.append_assoc]; exact t
theorem good_holds {fs out : List Firm} {n : Str} {r : Nat} {ls : List Ln} (hr : r ≤ 6) : ∀ (hs done : List (Str × List Claim)), (∀ h ∈ hs, Nm h.1 ∧ h.1 ≠ n ∧ h.2 ≠ [] ∧ ∀ c ∈ h.2, Wr r c ∧ depth c ≤ 2) → Good (fs ++ [⟨n, r, done ++ hs⟩]) false ls out →
    Good (fs ++ [⟨n, r, done⟩]) false (hs.flatMap hLines ++ ls) out
  | [], done, _, t => by rw [List.append_nil] at t; exact t
  | h :: hs, done, hc, t => by
    obtain ⟨h1, h2, h3, h4⟩ := hc h List.mem_cons_self
    rw [List.flatMap_cons, List.append_assoc]
    unfold hLines
    rw [List.cons_append]
    refine .held (f := ⟨n, r, done⟩) h1 h2 (good_as hr h.2 [] true h3 h4 ?_)
    refine good_holds hr hs (done ++ [(h.1, [] ++ h.2)]) (fun x hx => hc x (List.mem_cons_of_mem _ hx)) ?_
    rw [List.append_assoc]; exact t
theorem good_web {out : List Firm} : ∀ (W fs : List Firm), asc (W.map (·.name)) → (∀ f g, fs.getLast? = some f → W.head? = some g → f.name.cps.toList < g.name.cps.toList) → (∀ f ∈ fs, f.name ≠ "zzzzzzzzzzzz") → (∀ f ∈ W, Fk f) → out = fs ++ W → Good fs false (linesOf W) out
  | [], fs, _, _, _, _, e => by rw [e, List.append_nil]; exact .nil
  | f :: W, fs, ha, hl, hz, hk, e => by
    have k := hk f List.mem_cons_self
    obtain ⟨a1, a2⟩ := ha
    show Good fs false (fLines f ++ linesOf W) out
    unfold fLines
    rw [List.cons_append]
    refine .firm (fun g hg => ⟨hl g f hg rfl, hz g (List.mem_of_getLast? hg)⟩) (nm_all _ (List.mem_append_left _ k.nm)) k.rk (good_holds k.rk f.holds [] (fun h hh => ?_) ?_)
    · obtain ⟨b1, b2, b3, b4, _⟩ := k.hs h hh
      exact ⟨nm_all _ b1, b2, fun z => by rw [z] at b4; simp at b4, fun c hc => ⟨(b3 c hc).wr, (b3 c hc).dp⟩⟩
    · refine good_web W (fs ++ [f]) a2 (fun x g hx hg => ?_) (fun x hx => ?_) (fun x hx => hk x (List.mem_cons_of_mem _ hx)) (by rw [e, List.append_assoc]; rfl)
      · rw [List.getLast?_append] at hx
        obtain rfl : f = x := by simpa using hx
        exact a1 g.name (by rw [List.head?_map, hg]; rfl)
      · rcases List.mem_append.mp hx with z | z
        · exact hz x z
        · rw [List.mem_singleton.mp z]; exact firmN_last _ k.nm
theorem Wk.good {W : List Firm} (h : Wk W) : Good [] false (linesOf W) W := good_web W [] h.as_ (fun f g hf => by cases hf) (fun f hf => by cases hf) h.fk rfl
theorem Wk.lines_ne {W : List Firm} (h : Wk W) : linesOf W ≠ [] := by
  cases W with
  | nil => have := h.l1; simp at this
  | cons f W => unfold linesOf; rw [List.flatMap_cons]; unfold fLines; simp
end Sw
namespace Sw
open PySem PySem.Spec PyProof.Rows L2 Evl SwT
theorem ExG.fresh {p q : Addr} {H1 H2 : Hp} (e : ExG p H1 H2) (h : H2 q = none) (hq : q ≠ p) : H1 q = none := by
  cases hh : H1 q with
  | none => rfl
  | some o => rw [e.b q o hq hh] at h; cases h
theorem putK_len {kvs : List (Key × V)} {k : Key} {v : V} (h : (valV kvs k).isSome = true) : (putK kvs k v).length = kvs.length := by
  unfold putK
  rw [valV_any, if_pos h, List.length_map]
/-- what the walk of the web keeps: the frame and the lists that stay, the dict of persons -/
structure Wv (K : PySem.W.Frag) (H0 : Hp) (p c q3 q4 q5 q6 : Addr) (nms ppl ord : List Str) (H : Hp) : Prop where
  g : ExB p H0 H
  l3 : Lm K H q3 (nms.map PyData.str)
  l4 : Lm K H q4 (ppl.map PyData.str)
  l5 : Lm K H q5 (ord.map PyData.str)
  d6 : ∃ kvs : List (Key × V), H q6 = some (.dK kvs) ∧ kvs.length ≤ 1000 ∧ ∀ x ∈ ppl, ∃ k : Int, valV kvs (.inr x) = some (.int k)
  n3 : q3 ≠ p
  n4 : q4 ≠ p
  n5 : q5 ≠ p
  n6 : q6 ≠ p
  c6 : q6 ≠ c
  e3 : q3 ≠ q6
  e4 : q4 ≠ q6
  e5 : q5 ≠ q6
  h6 : H0 q6 = none
/-- a list of its own -/
structure Ap (H0 : Hp) (p c q3 q4 q5 q6 q : Addr) : Prop where
  p : q ≠ p
  c : q ≠ c
  a3 : q3 ≠ q
  a4 : q4 ≠ q
  a5 : q5 ≠ q
  a6 : q6 ≠ q
  o : H0 q = none
section
variable {K : PySem.W.Frag} {H0 H H' : Hp} {p c q3 q4 q5 q6 q : Addr} {nms ppl ord : List Str} {r : Nat}
theorem nols_strs (l : List Str) : nols (l.map PyData.str) = true := nols_map (fun _ => rfl) _
theorem Wv.ex (W : Wv K H0 p c q3 q4 q5 q6 nms ppl ord H) (e : ExG p H H') : Wv K H0 p c q3 q4 q5 q6 nms ppl ord H' := by
  obtain ⟨kvs, k1, k2, k3⟩ := W.d6
  exact ⟨W.g.trans e.b, e.lm W.l3 W.n3 (nols_strs _), e.lm W.l4 W.n4 (nols_strs _), e.lm W.l5 W.n5 (nols_strs _), ⟨kvs, e.b _ _ W.n6 k1, k2, k3⟩, W.n3, W.n4, W.n5, W.n6, W.c6, W.e3, W.e4, W.e5, W.h6⟩
theorem Wv.mut (W : Wv K H0 p c q3 q4 q5 q6 nms ppl ord H) (A : Ap H0 p c q3 q4 q5 q6 q) (b : ExB q H H') (i : Im H H') : Wv K H0 p c q3 q4 q5 q6 nms ppl ord H' := by
  obtain ⟨kvs, k1, k2, k3⟩ := W.d6
  exact ⟨fun x o hx h => b x o (ne_of_none h A.o) (W.g x o hx h), W.l3.exB b A.a3 i (nols_strs _), W.l4.exB b A.a4 i (nols_strs _), W.l5.exB b A.a5 i (nols_strs _), ⟨kvs, b _ _ A.a6 k1, k2, k3⟩, W.n3, W.n4, W.n5, W.n6, W.c6, W.e3, W.e4, W.e5, W.h6⟩
theorem Wv.ap (W : Wv K H0 p c q3 q4 q5 q6 nms ppl ord H) (B : Bag H p c r) (hq : H q = none) : Ap H0 p c q3 q4 q5 q6 q := by
  obtain ⟨kvs, k1, _⟩ := W.d6
  obtain ⟨b1, b2⟩ := B.old hq
  refine ⟨b1, b2, ne_of_none W.l3.choose_spec.1 hq, ne_of_none W.l4.choose_spec.1 hq, ne_of_none W.l5.choose_spec.1 hq, ne_of_none k1 hq, ?_⟩
  cases hh : H0 q with
  | none => rfl
  | some o => rw [W.g q o b1 hh] at hq; cases hq
theorem Wv.put (W : Wv K H0 p c q3 q4 q5 q6 nms ppl ord H) {kvs : List (Key × V)} {x : Str} {n : Int} (h : H q6 = some (.dK kvs)) (hl : kvs.length ≤ 1000) (hv : ∀ x ∈ ppl, ∃ k : Int, valV kvs (.inr x) = some (.int k)) (hx : x ∈ ppl) : Wv K H0 p c q3 q4 q5 q6 nms ppl ord (upd H q6 (.dK (putK kvs (.inr x) (.int n)))) := by
  have b : ExB q6 H (upd H q6 (.dK (putK kvs (.inr x) (.int n)))) := exB_upd
  have i : Im H (upd H q6 (.dK (putK kvs (.inr x) (.int n)))) := im_upd h rfl
  obtain ⟨k0, hk0⟩ := hv x hx
  refine ⟨fun y o hy z => b y o (ne_of_none z W.h6) (W.g y o hy z), W.l3.exB b W.e3 i (nols_strs _), W.l4.exB b W.e4 i (nols_strs _), W.l5.exB b W.e5 i (nols_strs _), ⟨_, upd_same, by rw [putK_len (by rw [hk0]; rfl)]; exact hl, fun y hy => ?_⟩, W.n3, W.n4, W.n5, W.n6, W.c6, W.e3, W.e4, W.e5, W.h6⟩
  rw [valV_put]
  split
  · exact ⟨n, rfl⟩
  · exact hv y hy
end
section
variable {K : PySem.W.Frag} {σ : L2.St} {H H' : Hp} {ta tb te : TE} {ts : TA} {tt tu : TT} {ds : List PyData} {d : PyData} {D : Ends} {p c q : Addr} {m n i j n1 n2 : Nat} {P : PyData → Prop} {Ps : List PyData → Prop}
theorem egl_sorted {Pz : List Str → Prop} (h : EgL K p c n ta σ H fun ds => ∃ ss : List Str, ds = ss.map PyData.str ∧ ss.length < 64 ∧ Pz ss) : EgL K p c n (tCB (rSortedS K) (tCons ta tNil)) σ H fun ds => ∃ ss ys : List Str, ds = ys.map PyData.str ∧ Pz ss ∧ ys.Perm ss ∧ sortedS ys = true := fun H1 r x B Q z =>
  h H1 r x B _ fun q H2 ds ⟨ss, e, hl, ps⟩ nd e2 B2 hq l2 => by
    subst e
    obtain ⟨us, u1, u2⟩ := l2
    obtain rfl := dps_strs u2
    exact ⟨q, ss, rfl, sq_of u1, hl, fun ys p2 hp hs hn => z p2 _ _ ⟨ss, ys, rfl, ps, hp, hs⟩ (nols_strs _) (e2.trans (Ex.g (Ex.new hn))) (B2.mono (Ex.new hn)) (e2.fresh hn (B2.old hn).1) ⟨ys.map V.str, upd_same, dps_strs' ys⟩⟩
/-- xs[:e], e drawn -/
theorem egl_cut {R : Nat → Prop} (h1 : EgL K p c n1 ta σ H Ps) (h2 : Eg K p c n2 tb σ H fun d => ∃ m : Nat, R m ∧ d = .int (m : Int)) : EgL K p c (n1 + n2) (tSl (rSlL K) ta tNoPart (tPart tb)) σ H fun es => ∃ ds m, Ps ds ∧ R m ∧ es = ds.take m := fun H1 r x B Q z =>
  h1 H1 (r + n2) x (B.le (by omega)) _ fun q H2 ds pd nd e2 B2 hq l2 => h2 H2 r (x.trans e2) B2 _ fun v H3 d ⟨m, hm, ed⟩ nd3 e3 B3 d3 => by
    subst ed
    obtain rfl := dp_int d3
    obtain ⟨us, u1, u2⟩ := e3.lm l2 (B.old hq).1 nd
    refine ⟨m, rfl, q, us, rfl, sq_of u1, fun p2 hn => ?_⟩
    rw [cut_take]
    exact z p2 _ _ ⟨ds, m, pd, hm, rfl⟩ (nols_of fun y hy => nols_mem nd (List.mem_of_mem_take hy)) ((e2.trans e3).trans (Ex.g (Ex.new hn))) (B3.mono (Ex.new hn)) ((e2.trans e3).fresh hn (B3.old hn).1) ⟨_, upd_same, dps_mono (Ex.new hn) (dps_take m u2)⟩
theorem pairs_of : ∀ {ppl : List Str} {vs : List V}, DpAll K H vs (ppl.map fun x => PyData.tuple [.str x, .int 4]) → ∃ ps : List Addr, vs = ps.map V.ref ∧ Paired (fun a (kv : Key × V) => SqT K H a [kV kv.1, kv.2]) ps (ppl.map fun x => ((Sum.inr x : Key), V.int 4))
  | [], _, .nil => ⟨[], rfl, .nil⟩
  | x :: ppl, _, .cons h t => by
    obtain ⟨ps, rfl, pr⟩ := pairs_of t
    obtain ⟨a, us, rfl, s1, a1⟩ := dp_tup h
    obtain ⟨v1, v2, rfl, d1, d2⟩ := dps_two a1
    obtain rfl := dp_str d1
    obtain rfl := dp_int d2
    exact ⟨a :: ps, rfl, .cons s1 pr⟩
theorem merge_val {x : Str} : ∀ (ppl : List Str) (acc : List (Key × V)), (x ∈ ppl ∨ ∃ k : Int, valV acc (.inr x) = some (.int k)) → ∃ k : Int, valV (mergeK acc (ppl.map fun x => ((Sum.inr x : Key), V.int 4))) (.inr x) = some (.int k)
  | [], acc, h => by
    rcases h with h | h
    · cases h
    · exact h
  | y :: ppl, acc, h => by
    refine merge_val ppl (putK acc (.inr y) (.int 4)) ?_
    by_cases e : x = y
    · exact .inr ⟨4, by rw [valV_put, if_pos (by rw [e])]⟩
    · rcases h with h | ⟨k, hk⟩
      · exact .inl ((List.mem_cons.mp h).resolve_left e)
      · exact .inr ⟨k, by rw [valV_put, if_neg (by simpa using e)]; exact hk⟩
theorem tg_four {i j l m : Nat} {a : Addr} {x y z u : V} (h : SqT K H a [x, y, z, u]) : Tg (gTup K 4 (gCons (gName i) (gCons (gName j) (gCons (gName l) (gCons (gName m) gNil))))) σ H (.ref a) ((((σ.set i (some x)).set j (some y)).set l (some z)).set m (some u)) :=
  fun Q q => ⟨a, _, rfl, h, rfl, x, _, rfl, y, _, rfl, z, _, rfl, u, _, rfl, rfl, q⟩
theorem idx_of {y : Str} : ∀ {ys : List Str}, y ∈ ys → ∃ j : Nat, ys[j]? = some y ∧ ∀ (m : Nat) (z : Str), m < j → ys[m]? = some z → z ≠ y
  | x :: ys, h => by
    by_cases e : x = y
    · exact ⟨0, by simp [e], fun m z hm => absurd hm (Nat.not_lt_zero _)⟩
    · obtain ⟨j, h1, h2⟩ := idx_of ((List.mem_cons.mp h).resolve_left fun z => e z.symm)
      refine ⟨j + 1, by simpa using h1, fun m z hm hz => ?_⟩
      cases m with
      | zero => simp at hz; rw [← hz]; exact e
      | succ m => exact h2 m z (by omega) (by simpa using hz)
/-- ys.index(y), y in ys -/
theorem ed_index {y : Str} {ys : List Str} (hy : y ∈ ys) : ∃ j : Nat, ∀ {σ : L2.St} {H : Hp} {i : Nat} {q : Addr} {te : TE}, σ[i]? = some (some (.ref q)) → Lm K H q (ys.map PyData.str) → Ed K te σ H (.str y) → Ed K (tBM K "list" (rIndex K) (tVar i) (tCons te tNil)) σ H (.int (j : Int)) := by
  obtain ⟨j, h1, h2⟩ := idx_of hy
  refine ⟨j, fun {σ H i q te} hs hl he H1 e1 Q k => ?_⟩
  obtain ⟨vs, v1, v2⟩ := hl
  obtain rfl := dps_strs v2
  have v1' := e1 _ _ v1
  refine ⟨_, hs, .inl ⟨rfl, _, sq_of v1'⟩, he H1 e1 _ fun v H2 e2 d2 => ?_⟩
  obtain rfl := dp_str d2
  refine ⟨q, ys.map V.str, .str y, j, .str y, rfl, rfl, sq_of (e2 _ _ v1'), rfl, flat_strs ys, by rw [List.getElem?_map, h1]; rfl, by show (y == y) = true; simp, fun m z' hm hz => ?_, k _ H2 e2 (.int _)⟩
  rw [List.getElem?_map] at hz
  cases hg : ys[m]? with
  | none => rw [hg] at hz; cases hz
  | some z =>
    rw [hg] at hz
    obtain rfl : V.str z = z' := by simpa using hz
    show (z == y) = false
    simpa using h2 m z hm hg
theorem ed_cut1 (ha : Ed K te σ H (.tuple ds)) : Ed K (tSl (rSlA K) te tNoPart (tPart (tC (.int ((1 : Nat) : Int))))) σ H (.tuple (ds.take 1)) := fun H1 e Q q =>
  ha H1 e _ fun v H2 e2 d2 => by
    obtain ⟨a, us, rfl, s1, a1⟩ := dp_tup d2
    refine ⟨_, rfl, a, us, rfl, s1, fun z => q _ H2 e2 ?_, fun _ p hp => q _ _ (e2.trans (Ex.new hp)) (.tup (st_of upd_same) ?_)⟩
    · have hlen : us.length ≤ 1 := by
        have h2 := z.2
        rw [HT.sIx_nat] at h2
        omega
      have e5 : ds.take 1 = ds := List.take_of_length_le (by rw [← dps_len a1]; exact hlen)
      rw [e5]; exact .tup s1 a1
    · rw [cut_take]
      exact dps_mono (Ex.new hp) (dps_take 1 a1)
/-- for _ in range(e), e drawn -/
theorem for_rngG {M : Nat} {g : TG} {tb : TS} (B : Bag H p c (j + n)) (he : EgA K p c n ts σ H fun l => ∃ m : Nat, m ≤ M ∧ l = [.int (m : Int)]) (hM : M ≤ 1000) (k : ∀ m H1, m ≤ M → ExG p H H1 → Bag H1 p c j → ∃ Pv : Nat → L2.St → Hp → Prop, Pv 0 σ H1 ∧
      (∀ (i : Nat) σ' H', i < m → Pv i σ' H' → g (.int i) σ' H' fun σ2 H2 => tb { D with nx := Pv (i + 1), ct := Pv (i + 1), bk := D.nx } σ2 H2) ∧ (∀ σ' H', Pv m σ' H' → D.nx σ' H')) : tFor (iRng1 ts) g tb D σ H := he H j (ExG.refl H) B _ fun vs H1 ds ⟨m, hm, ed⟩ nd e1 B1 dd => by
  subst ed
  obtain ⟨v, rfl, h1⟩ := dps_one dd
  obtain rfl := dp_int h1
  obtain ⟨Pv, h0, hs, hd⟩ := k m H1 hm e1 B1
  refine ⟨m, rfl, by omega, by omega, for_range (lo := 0) (n := (m : Int).toNat) Pv h0 (fun i σ' H' hi hp => ?_) (by rw [Int.toNat_natCast]; exact hd)⟩
  rw [Int.zero_add]
  exact hs i σ' H' (by omega) hp
end
end Sw
set_option maxHeartbeats 8000000
namespace Sw
open PySem PySem.Spec PyProof.Rows L2 Evl SwT
section
variable {K : PySem.W.Frag} {σ : L2.St} {H H' : Hp} {ta tb te : TE} {ts : TA} {tt tu : TT} {ds : List PyData} {d : PyData} {D : Ends} {p c q : Addr} {m n i j n1 n2 : Nat} {P : PyData → Prop} {Ps : List PyData → Prop}
theorem egl_lst (h : EgA K p c n ts σ H Ps) (hl : ∀ ds, Ps ds → ds.length ≤ 1000) : EgL K p c n (tLst ts) σ H Ps := fun H1 r x B Q z =>
  h H1 r x B _ fun vs H2 ds pd nd e2 B2 d2 => ⟨by rw [dps_len d2]; exact Nat.le_trans (hl ds pd) (by decide), fun q hq => z q _ ds pd nd (e2.trans (Ex.g (Ex.new hq))) (B2.mono (Ex.new hq)) (e2.fresh hq (B2.old hq).1) ⟨vs, upd_same, dps_mono (Ex.new hq) d2⟩⟩
theorem perm_strs {es : List PyData} {l : List Str} (h : es.Perm (l.map PyData.str)) : ∃ ss : List Str, es = ss.map PyData.str ∧ ss.Perm l := by
  let f : PyData → Str := fun d => match d with | .str x => x | _ => ""
  have e1 : es = (es.map f).map PyData.str := by
    rw [List.map_map]
    have : es.map (PyData.str ∘ f) = es.map id := List.map_congr_left fun d hd => by
      obtain ⟨x, _, rfl⟩ := List.mem_map.mp (h.mem_iff.mp hd)
      rfl
    rw [this, List.map_id]
  refine ⟨es.map f, e1, ?_⟩
  have h2 := h.map f
  rw [List.map_map, show f ∘ PyData.str = id from rfl, List.map_id] at h2
  exact h2
abbrev rDict (K : PySem.W.Frag) : List V → Hp → VK → Prop := fun xs H Q => ∃ (a : Addr) (ps : List Addr) (kvs : List (Key × V)), xs = [.ref a] ∧ SqL K H a (ps.map V.ref) ∧ Paired (fun p kv => SqT K H p [kV kv.1, kv.2]) ps kvs ∧ ∀ p, H p = none → Q (.ref p) (upd H p (.dK (mergeK [] kvs)))
/-- order, free, found, purse = mixed, dict(..), [], 40 -/
theorem four_eg {ppl : List Str} {i1 i2 i3 i4 : Nat} {z : Int} (B : Bag H p c (j + n)) (h1 : EgL K p c n ta σ H Ps) (h2 : ∀ H1, ExG p H H1 → EdL K tb σ H1 (ppl.map fun x => PyData.tuple [.str x, .int 4]))
    (k : ∀ q5 H3 ds H4 q6 q7 H7, Ps ds → nols ds = true → ExG p H H3 → Bag H3 p c j → H q5 = none → Lm K H3 q5 ds → Ex H3 H4 → H4 q6 = none → (upd H4 q6 (.dK (mergeK [] (ppl.map fun x => ((Sum.inr x : Key), V.int 4))))) q7 = none → Ex (upd (upd H4 q6 (.dK (mergeK [] (ppl.map fun x => ((Sum.inr x : Key), V.int 4))))) q7 (.lst [])) H7 →
      D.nx ((((σ.set i1 (some (.ref q5))).set i2 (some (.ref q6))).set i3 (some (.ref q7))).set i4 (some (.int z))) H7) :
    tAsg (tTup (tCons ta (tCons (tCB (rDict K) (tCons tb tNil)) (tCons (tLst tNil) (tCons (tC (.int z)) tNil))))) (gTup K 4 (gCons (gName i1) (gCons (gName i2) (gCons (gName i3) (gCons (gName i4) gNil))))) D σ H :=
  h1 H j (ExG.refl H) B _ fun q5 H3 ds pd nd e3 B3 hq5 l5 => (h2 H3 e3).run fun ql H4 e4 hql ll => by
    obtain ⟨us4, u1, u2⟩ := ll
    obtain ⟨ps, rfl, pr⟩ := pairs_of u2
    refine ⟨ql, ps, _, rfl, sq_of u1, pr, fun q6 hq6 => ⟨Nat.zero_le _, fun q7 hq7 => ⟨by show 4 ≤ 16777216; omega, fun t ht => tg_four (st_of upd_same) _ ?_⟩⟩⟩
    exact k q5 H3 ds H4 q6 q7 _ pd nd e3 B3 hq5 l5 e4 hq6 hq7 (Ex.new ht)
/-- xs.insert(e1, e2), e1 drawn -/
theorem ins_eg {i : Nat} (hs : σ[i]? = some (some (.ref q))) (hL : Lm K H q ds) (hq : q ≠ p) (hqc : q ≠ c) (hn : nols ds = true) (B : Bag H p c (j + n2 + n1)) (h1 : Eg K p c n1 ta σ H fun d => ∃ m : Nat, m ≤ ds.length ∧ d = .int (m : Int)) (h2 : Eg K p c n2 tb σ H P) (hl : ds.length < 1000)
    (k : ∀ m d H1 H', P d → nol d = true → ExG p H H1 → ExB q H1 H' → Im H1 H' → Bag H' p c j → Lm K H' q (ds.take m ++ [d] ++ ds.drop m) → D.nx σ H') :
    tDrop (tBM K "list" (fun x vs H Q => ∃ (l : Addr) (xs : List V) (i : Int) (y : V), x = .ref l ∧ vs = [.int i, y] ∧ H l = some (.lst xs) ∧ xs.length < sizeLine ∧ 0 ≤ i ∧ i < 2 ^ 63 ∧
    Q .non (upd H l (.lst (xs.take i.toNat ++ [y] ++ xs.drop i.toNat)))) (tVar i) (tCons ta (tCons tb tNil))) D σ H := by
  obtain ⟨vs, v1, v2⟩ := hL
  refine ⟨_, hs, .inl ⟨rfl, vs, sq_of v1⟩, h1 H (j + n2) (ExG.refl _) B _ fun u H2 d1 ⟨m, hm, ed⟩ nd1 e2 B2 dd => h2 H2 j e2 B2 _ fun y H3 d pd nd e3 B3 dy => ?_⟩
  subst ed
  obtain rfl := dp_int dd
  obtain ⟨ws, w1, w2⟩ := (e2.trans e3).lm (⟨vs, v1, v2⟩ : Lm K H q ds) hq hn
  refine ⟨q, ws, m, y, rfl, rfl, w1, by rw [dps_len w2]; show _ < 16777216; omega, Int.natCast_nonneg _, by omega, ?_⟩
  have im : Im H3 (upd H3 q (.lst (ws.take (m : Int).toNat ++ [y] ++ ws.drop (m : Int).toNat))) := im_upd w1 rfl
  rw [Int.toNat_natCast] at im ⊢
  have z := dps_im im hn w2
  exact k m d H3 _ pd nd (e2.trans e3) exB_upd im (B3.exB exB_upd (Ne.symm hq) (Ne.symm hqc)) ⟨_, upd_same, dps_app (dps_app (dps_take m z) (.cons (dp_im im nd dy) .nil)) (dps_drop m z)⟩
theorem ed_dget {i l : Nat} {x : Str} {kvs : List (Key × V)} {n : Int} (h1 : σ[i]? = some (some (.ref q))) (h2 : σ[l]? = some (some (.str x))) (h : H q = some (.dK kvs)) (hv : valV kvs (.inr x) = some (.int n)) : Ed K (tDGet (tVar i) (tVar l)) σ H (.int n) := fun H1 e Q z =>
  ⟨_, h1, _, h2, q, .int n, rfl, hv ▸ DGet.k (k := .inr x) (e _ _ h), z _ H1 (Ex.refl _) (.int _)⟩
theorem daug_ed {i l : Nat} {x : Str} {kvs : List (Key × V)} {n m : Int} (h1 : σ[i]? = some (some (.ref q))) (h2 : σ[l]? = some (some (.str x))) (h : H q = some (.dK kvs)) (hl : kvs.length ≤ 1000) (hv : valV kvs (.inr x) = some (.int n)) (he : Ed K te σ H (.int m))
    (k : ∀ H1, Ex H H1 → D.nx σ (upd H1 q (.dK (putK kvs (.inr x) (.int (n - m)))))) : sDAug (tVar i) (tVar l) te rSub D σ H :=
  ⟨_, h1, _, h2, q, .int n, rfl, hv ▸ DGet.k (k := .inr x) h, he.run fun v H1 e d => by
    obtain rfl := dp_int d
    exact ⟨n, m, rfl, rfl, _, DPut.k (k := .inr x) (e _ _ h) (Nat.lt_of_le_of_lt hl (by decide)), k H1 e⟩⟩
end
theorem withinC_dc {R : Nat} : ∀ {cs : List Claim} {l : Nat}, (∀ c ∈ cs, Dc R 2 c) → ∀ c ∈ withinC cs l, Dc R 2 c
  | [], _, _, c, h => by cases h
  | a :: cs, l, hc, c, h => by
    rw [withinC] at h
    rcases List.mem_cons.mp h with z | z
    · rw [z]; split
      · exact hc a List.mem_cons_self
      · exact dc_shares (q := 1) (nq_nat (k := 0) (by decide))
    · exact withinC_dc (fun x hx => hc x (List.mem_cons_of_mem _ hx)) c z
structure Hk (nm : Str) (R : Nat) (h : Str × List Claim) : Prop where
  n : h.1 ∈ firmN ++ peopleN
  ne : h.1 ≠ nm
  dc : ∀ c ∈ h.2, Dc R 2 c
  l1 : 1 ≤ h.2.length
  l4 : h.2.length ≤ 4
theorem people_ne : ∀ x ∈ peopleN, x ∉ firmN := by decide +kernel
section
variable {P : Program} {w : World} {K : PySem.W.Frag} {mg : Str → Option Value} {base : Heap}
theorem sc__law_web : FnScope ["_law_bag_here", "_law_firms", "_law_more", "_law_names", "_law_people", "_law_order", "_law_free", "_law_found", "_law_purse", "_law_name", "_law_ranks", "_law_holdings", "_law_turn", "_law_others", "_law_holder", "_law_options_here", "_law_one"] ["_law_bag_here", "_law_firms", "_law_more"] (defScope s__law_web) := ⟨rfl, rfl, rfl, by decide +kernel, rfl, by decide +kernel, by decide +kernel⟩
abbrev Cf__law_web (P w K mg base) := Cal P w K mg base "_law_web" 9 ["_law_bag_here", "_law_firms", "_law_more"] (spB K 8000 (fun x : Nat => [.int x, .int 4]) (fun x => 1 ≤ x ∧ x ≤ 3) fun _ d => ∃ W : List Firm, d = .tuple (W.map firmD) ∧ Wk W)
theorem ok__law_web (T : Tx w K mg) (C__law_firm_options : Cf__law_firm_options P w K mg base) (C__law_leaves : Cf__law_leaves P w K mg base 3) (C__law_mixed : Cf__law_mixed P w K mg base) (C__law_number : Cf__law_number P w K mg base) (C__law_options : Cf__law_options P w K mg base) (C__law_some : Cf__law_some P w K mg base) (C__law_take : Cf__law_take P w K mg base) (C__law_within : Cf__law_within P w K mg base) : Cf__law_web P w K mg base := by
  refine T.cal (d := d__law_web) 62 57 rfl rfl rfl rfl rfl sc__law_web (fun _ _ _ _ _ _ us hl => match us, hl with | [_, _, _], _ => rfl) (spB_len fun _ => rfl) fun f cdv A outer s H vs Q E hr h => ⟨_, (pss_cons (ps_set (i := 3) sc__law_web.nd rfl (by first | exact Or.inl rfl | exact Or.inr rfl) (pe_callB cr_sortedS (by rfl) T.f_sorted (by decide +kernel) (pa_cons (pe_slice sl_list (pe_cc C__law_mixed (hr.mono (by decide)) (by rfl) (pa_cons (pv 0) (pa_cons (pe_lst (pa_cons pe_str (pa_cons pe_str (pa_cons pe_str (pa_cons pe_str (pa_cons pe_str (pa_cons pe_str (pa_cons pe_str (pa_cons pe_str pa_nil))))))))) pa_nil))) po_none (po_some (pv 1))) pa_nil)))
      (pss_cons (ps_set (i := 4) sc__law_web.nd rfl (by first | exact Or.inl rfl | exact Or.inr rfl) (pe_slice sl_list (pe_cc C__law_mixed (hr.mono (by decide)) (by rfl) (pa_cons (pv 0) (pa_cons (pe_lst (pa_cons pe_str (pa_cons pe_str (pa_cons pe_str (pa_cons pe_str (pa_cons pe_str (pa_cons pe_str pa_nil))))))) pa_nil))) po_none (po_some (pe_cc C__law_some (hr.mono (by decide)) (by rfl) (pa_cons (pv 0) (pa_cons (pe_lst (pa_cons pe_int (pa_cons pe_int (pa_cons pe_int (pa_cons pe_int pa_nil))))) pa_nil))))))
      (pss_cons (ps_asg (pe_tup (pa_cons (pe_cc C__law_mixed (hr.mono (by decide)) (by rfl) (pa_cons (pv 0) (pa_cons (pv 3) pa_nil))) (pa_cons (pe_callTy (call_dictP rfl) (by rfl) T.f_dict (by decide +kernel) (pa_cons (pe_lc rfl sc__law_web.nd (pi_list (pv 4)) (blkOk_by (own := [("_law_one", 16)]) (N := ["_law_bag_here", "_law_firms", "_law_more", "_law_names", "_law_people", "_law_order", "_law_free", "_law_found", "_law_purse", "_law_name", "_law_ranks", "_law_holdings", "_law_turn", "_law_others", "_law_holder", "_law_options_here", "_law_one"]) (by kernel_rfl)) (fun _ _ _ _ _ => (pg_name (i := 16) sc__law_web.nd rfl (by first | exact Or.inl rfl | exact Or.inr rfl))) (fun _ _ _ _ _ => pts_nil) (fun _ _ _ _ _ => (pe_tup (pa_cons (pv 16) (pa_cons pe_int pa_nil))))) pa_nil)) (pa_cons (pe_lst pa_nil) (pa_cons pe_int pa_nil))))) (pg_tup rfl (pgs_cons (pg_name (i := 5) sc__law_web.nd rfl (by first | exact Or.inl rfl | exact Or.inr rfl)) (pgs_cons (pg_name (i := 6) sc__law_web.nd rfl (by first | exact Or.inl rfl | exact Or.inr rfl)) (pgs_cons (pg_name (i := 7) sc__law_web.nd rfl (by first | exact Or.inl rfl | exact Or.inr rfl)) (pgs_cons (pg_name (i := 8) sc__law_web.nd rfl (by first | exact Or.inl rfl | exact Or.inr rfl)) pgs_nil))))))
      (pss_cons (ps_for PassesOwn.never rfl (pi_list (pv 3)) (pg_name (i := 9) sc__law_web.nd rfl (by first | exact Or.inl rfl | exact Or.inr rfl)) (pss_cons (ps_set (i := 10) sc__law_web.nd rfl (by first | exact Or.inl rfl | exact Or.inr rfl) (pe_cc C__law_some (hr.mono (by decide)) (by rfl) (pa_cons (pv 0) (pa_cons (pe_lst (pa_cons pe_int (pa_cons pe_int (pa_cons pe_int (pa_cons pe_int (pa_cons pe_int (pa_cons pe_int (pa_cons pe_int pa_nil)))))))) pa_nil))))
      (pss_cons (ps_set (i := 11) sc__law_web.nd rfl (by first | exact Or.inl rfl | exact Or.inr rfl) (pe_lst (pa_cons (pe_tup (pa_cons (pe_cc C__law_some (hr.mono (by decide)) (by rfl) (pa_cons (pv 0) (pa_cons (pv 4) pa_nil))) (pa_cons (pe_tup (pa_cons (pe_tup (pa_cons pe_str (pa_cons (pe_cc C__law_number (hr.mono (by decide)) (by rfl) (pa_cons (pv 0) (pa_cons pe_int pa_nil))) pa_nil))) pa_nil)) pa_nil))) pa_nil)))
      (pss_cons (ps_for PassesOwn.never rfl (pi_range1 (by rfl) T.f_range (pa_cons (pe_cc C__law_take (hr.mono (by decide)) (by rfl) (pa_cons (pv 0) (pa_cons (pe_op op_add (pv 2) pe_int) pa_nil))) pa_nil)) (pg_name (i := 12) sc__law_web.nd rfl (by first | exact Or.inl rfl | exact Or.inr rfl)) (pss_cons (ps_setLc (i := 13) rfl sc__law_web.nd rfl rfl (sw_true rfl rfl rfl (by decide +kernel)) (pi_list (pv 3)) (blkOk_by (own := [("_law_one", 16)]) (N := ["_law_bag_here", "_law_firms", "_law_more", "_law_names", "_law_people", "_law_order", "_law_free", "_law_found", "_law_purse", "_law_name", "_law_ranks", "_law_holdings", "_law_turn", "_law_others", "_law_holder", "_law_options_here", "_law_one"]) (by kernel_rfl)) (fun _ _ _ _ _ => (pg_name (i := 16) sc__law_web.nd rfl (by first | exact Or.inl rfl | exact Or.inr rfl))) (fun _ _ _ _ _ => (pts_one (pt_cmpR (op_neDK (K := K) rfl hr.units) (pv 16) (pv 9) (nomark _)))) (fun _ _ _ _ _ => (pv 16)))
      (pss_cons (ps_set (i := 14) sc__law_web.nd rfl (by first | exact Or.inl rfl | exact Or.inr rfl) (pe_cc C__law_some (hr.mono (by decide)) (by rfl) (pa_cons (pv 0) (pa_cons (pe_op op_cat (pe_op op_cat (pv 4) (pv 13)) (pv 13)) pa_nil))))
      (pss_cons (ps_if (pt_cmpR (op_inD (hud_of hr)) (pv 14) (pv 4) rfl) (pss_one (ps_set (i := 15) sc__law_web.nd rfl (by first | exact Or.inl rfl | exact Or.inr rfl) (pe_cc C__law_options (hr.mono (by decide)) (by rfl) (pa_cons (pv 0) (pa_cons (pv 10) (pa_cons pe_bl pa_nil)))))) (pss_one (ps_set (i := 15) sc__law_web.nd rfl (by first | exact Or.inl rfl | exact Or.inr rfl) (pe_cc C__law_firm_options (hr.mono (by decide)) (by rfl) (pa_cons (pv 0) (pa_cons (pv 10) (pa_cons (pe_cmpR op_gt (pe_bm PySem.F.plainAttrs_list PySem.F.slot_list_index PySem.F.type_list_index mt_index (pv 5) (pa_cons (pv 14) pa_nil)) (pe_bm PySem.F.plainAttrs_list PySem.F.slot_list_index PySem.F.type_list_index mt_index (pv 5) (pa_cons (pv 9) pa_nil)) (nomark _)) pa_nil)))))))
      (pss_cons (ps_set (i := 15) sc__law_web.nd rfl (by first | exact Or.inl rfl | exact Or.inr rfl) (pe_cc C__law_within (hr.mono (by decide)) (by rfl) (pa_cons (pv 15) (pa_cons (pe_callB (call_min2 rfl) (by rfl) T.f_min (by decide +kernel) (pa_cons pe_int (pa_cons (pv 8) pa_nil))) pa_nil))))
      (pss_cons (ps_set (i := 8) sc__law_web.nd rfl (by first | exact Or.inl rfl | exact Or.inr rfl) (pe_callB (call_max2 rfl) (by rfl) T.f_max (by decide +kernel) (pa_cons pe_int (pa_cons (pe_op op_sub (pv 8) (pe_callB (cr_sum rfl) (by rfl) T.f_sum (by decide +kernel) (pa_cons (pe_lc rfl sc__law_web.nd (pi_tup (pv 15)) (blkOk_by (own := [("_law_one", 16)]) (N := ["_law_bag_here", "_law_firms", "_law_more", "_law_names", "_law_people", "_law_order", "_law_free", "_law_found", "_law_purse", "_law_name", "_law_ranks", "_law_holdings", "_law_turn", "_law_others", "_law_holder", "_law_options_here", "_law_one"]) (by kernel_rfl)) (fun _ _ _ _ _ => (pg_name (i := 16) sc__law_web.nd rfl (by first | exact Or.inl rfl | exact Or.inr rfl))) (fun _ _ _ _ _ => pts_nil) (fun _ _ _ _ _ => (pe_cc C__law_leaves (hr.mono (by decide)) (by rfl) (pa_cons (pv 16) pa_nil)))) pa_nil))) pa_nil))))
      (pss_cons (ps_if (PW.pt (pw_and (pt_cmpR (op_inD (hud_of hr)) (pv 14) (pv 4) rfl) (pw_and1 (pt_cmpR op_gt (pe_callB call_len (by rfl) T.f_len (by decide +kernel) (pa_cons (pv 15) pa_nil)) pe_int (nomark _))))) (pss_cons (ps_set (i := 15) sc__law_web.nd rfl (by first | exact Or.inl rfl | exact Or.inr rfl) (pe_ifExp (pt_cmpR op_gt (pe_dget (hu_of hr) (pv 6) (pv 14) (fun _ _ => rfl)) pe_int (nomark _)) (pv 15) (pe_slice sl_tupA (pv 15) po_none (po_some pe_int))))
      (pss_one (ps_daug (hu_of hr) (pv 6) (pv 14) (pe_callTy call_int1 (by rfl) T.f_int (by decide +kernel) (pa_cons (pe_cmpR op_gt (pe_callB call_len (by rfl) T.f_len (by decide +kernel) (pa_cons (pv 15) pa_nil)) pe_int (nomark _)) pa_nil)) in_sub (fun _ _ _ => rfl)))) pss_nil)
      (pss_one (ps_expr (pe_bm PySem.F.plainAttrs_list PySem.F.slot_list_insert PySem.F.type_list_insert mt_insert (pv 11) (pa_cons (pe_cc C__law_take (hr.mono (by decide)) (by rfl) (pa_cons (pv 0) (pa_cons (pe_op op_add (pe_callB call_len (by rfl) T.f_len (by decide +kernel) (pa_cons (pv 11) pa_nil)) pe_int) pa_nil))) (pa_cons (pe_tup (pa_cons (pv 14) (pa_cons (pv 15) pa_nil))) pa_nil))))))))))))
      (pss_one (ps_expr (pe_bm PySem.F.plainAttrs_list PySem.F.slot_list_append PySem.F.type_list_append mt_append (pv 7) (pa_cons (pe_tup (pa_cons (pv 9) (pa_cons (pv 10) (pa_cons (pe_callTy call_tuple_of (by rfl) T.f_tuple (by decide +kernel) (pa_cons (pv 11) pa_nil)) pa_nil)))) pa_nil))))))))
      (pss_one (ps_ret (pe_callTy call_tuple_of (by rfl) T.f_tuple (by decide +kernel) (pa_cons (pv 7) pa_nil)))))))), ?_⟩
  obtain ⟨p, c, r, us, F, rfl, hB, hd, ⟨hF1, hF3⟩, k⟩ := h
  obtain ⟨v1, v2, rfl, h1, h2⟩ := dps_two hd
  obtain rfl := dp_int h1
  obtain rfl := dp_int h2
  have hs16 : sizeLine = 16777216 := rfl
  have hf8 : firmN.length = 8 := rfl
  have hp6 : peopleN.length = 6 := rfl
  refine seq_ed (setl_eg (K := K) (p := p) (c := c) (j := r + 7990) (n := 0 + 8 + 0) (hB.le (by omega)) (egl_sorted (Pz := fun ss => ∃ ds : List Str, ds.Perm firmN ∧ ss = ds.take F) ((egl_cut (R := fun m => m = F) (egl_mix (m := 8) rfl (egl_pure (ds := firmN.map PyData.str) (fun _ _ => edl_lst (eda_cons ed_str (eda_cons ed_str (eda_cons ed_str (eda_cons ed_str (eda_cons ed_str (eda_cons ed_str (eda_cons ed_str (eda_cons ed_str eda_nil))))))))) (nols_strs _)).ng (fun ds e => by rw [e, List.length_map]; exact Nat.le_refl _) (by decide)) ((eg_var (d := .int (F : Int)) rfl (.int _) rfl).imp fun d e => ⟨F, rfl, e⟩)).imp ?_)) fun q3 H1 ds3 pd3 nd3 g1 B1 hq3 l3 => ?_)
  · rintro es ⟨ds, m, ⟨_, rfl, hp⟩, rfl, rfl⟩
    obtain ⟨ss, rfl, hp2⟩ := perm_strs hp
    exact ⟨ss.take m, by rw [List.map_take], by rw [List.length_take, hp2.length_eq]; omega, ss, hp2, rfl⟩
  obtain ⟨ss3, nms, rfl, ⟨ds3, hp3, rfl⟩, hp3', hso⟩ := pd3
  have hnd : nms.Nodup := hp3'.nodup_iff.mpr ((hp3.nodup_iff.mpr firmN_nodup).sublist (List.take_sublist _ _))
  have hmem : ∀ x ∈ nms, x ∈ firmN := fun x hx => hp3.mem_iff.mp (List.mem_of_mem_take (hp3'.mem_iff.mp hx))
  have hlenF : nms.length = F := by rw [hp3'.length_eq, List.length_take, hp3.length_eq]; omega
  have hasc := asc_sorted hso hnd
  clear hp3' hso hp3 ds3
  have old3 := hB.old hq3
  dsimp only
  refine seq_ed (setl_eg (K := K) (p := p) (c := c) (j := r + 7900) (n := 0 + 6 + (0 + 1)) (B1.le (by omega)) (egl_cut (R := fun m => 1 ≤ m) (egl_mix (m := 6) rfl (egl_pure (ds := peopleN.map PyData.str) (fun _ _ => edl_lst (eda_cons ed_str (eda_cons ed_str (eda_cons ed_str (eda_cons ed_str (eda_cons ed_str (eda_cons ed_str eda_nil))))))) (nols_strs _)).ng (fun ds e => by rw [e, List.length_map]; exact Nat.le_refl _) (by decide)) ((eg_some (ds := [.int 3, .int 4, .int 2, .int 6]) rfl (egl_pure (fun _ _ => edl_lst (eda_cons ed_int (eda_cons ed_int (eda_cons ed_int (eda_cons ed_int eda_nil)))))).ng (by simp) (by simp [hs16])).imp ?_)) fun q4 H2 ds4 pd4 nd4 g2 B2 hq4 l4 => ?_)
  · intro d hd
    simp only [List.mem_cons, List.not_mem_nil, or_false] at hd
    rcases hd with z | z | z | z
    · exact ⟨3, by decide, z⟩
    · exact ⟨4, by decide, z⟩
    · exact ⟨2, by decide, z⟩
    · exact ⟨6, by decide, z⟩
  obtain ⟨_, m4, ⟨_, rfl, hp40⟩, hm4, rfl⟩ := pd4
  obtain ⟨ss4, rfl, hp4⟩ := perm_strs hp40
  have hppl : ∀ x ∈ ss4.take m4, x ∈ peopleN := fun x hx => hp4.mem_iff.mp (List.mem_of_mem_take hx)
  have hpl6 : (ss4.take m4).length ≤ 6 := by rw [List.length_take, hp4.length_eq]; omega
  have hpne : ss4.take m4 ≠ [] := fun z => by
    have := congrArg List.length z
    rw [List.length_take, hp4.length_eq] at this
    simp only [List.length_nil] at this; omega
  rw [← List.map_take] at l4
  generalize ss4.take m4 = ppl at *
  clear hp4 hp40
  have old4 := B1.old hq4
  have l3b := g2.lm l3 old3.1 (nols_strs _)
  dsimp only
  refine seq_ed (four_eg (K := K) (p := p) (c := c) (j := r + 7800) (n := 0 + 3) (ppl := ppl) (B2.le (by omega)) (egl_mix (m := 3) rfl (egn_var rfl l3b old3.1 (nols_strs _)) (fun ds e => by rw [e, List.length_map]; omega) (by decide)) (fun H3 e3 => lc_m1 PyData.str ppl (fun x => PyData.tuple [.str x, .int 4]) (edi_list (edt_var rfl (e3.lm l4 old4.1 (nols_strs _))).toD) (by show _ ≤ 16777216; omega) fun x hx v H4 e4 d4 => tu_name rfl et_yes fun _ => ⟨ed_tup (eda_cons (ed_var rfl d4) (eda_cons ed_int eda_nil)), rfl⟩) fun q5 H3 ds5 H4 q6 q7 H7 pd5 nd5 g3 B3 hq5 l5 e4 hq6 hq7 ex7 => ?_)
  obtain ⟨_, rfl, hp50⟩ := pd5
  obtain ⟨ord, rfl, hp5⟩ := perm_strs hp50
  have old5 := B2.old hq5
  have l3c := g3.lm l3b old3.1 (nols_strs _)
  have l4c := g3.lm l4 old4.1 (nols_strs _)
  have B4 := B3.mono e4
  have old6 := B4.old hq6
  have g4 : ExG p H H4 := ((g1.trans g2).trans g3).trans (Ex.g e4)
  have W5 : Wv K H p c q3 q4 q5 q6 nms ppl ord (upd H4 q6 (.dK (mergeK [] (ppl.map fun x => ((Sum.inr x : Key), V.int 4))))) := by
    have e := Ex.new (o := .dK (mergeK [] (ppl.map fun x => ((Sum.inr x : Key), V.int 4)))) hq6
    refine ⟨g4.b.trans (ex_exB e), (l3c.mono e4).mono e, (l4c.mono e4).mono e, (l5.mono e4).mono e, ⟨_, upd_same, ?_, fun x hx => merge_val ppl [] (.inl hx)⟩, old3.1, old4.1, old5.1, old6.1, old6.2, ne_of_none (l3c.mono e4).choose_spec.1 hq6, ne_of_none (l4c.mono e4).choose_spec.1 hq6, ne_of_none (l5.mono e4).choose_spec.1 hq6, g4.fresh hq6 old6.1⟩
    have := length_mergeK (ppl.map fun x => ((Sum.inr x : Key), V.int 4)) []
    rw [List.length_map, List.length_nil] at this
    omega
  have B5 := B4.mono (Ex.new (o := .dK (mergeK [] (ppl.map fun x => ((Sum.inr x : Key), V.int 4)))) hq6)
  generalize upd H4 q6 (.dK (mergeK [] (ppl.map fun x => ((Sum.inr x : Key), V.int 4)))) = H5 at *
  have A7 := W5.ap B5 hq7
  have W7 := W5.ex (Ex.g ((Ex.new (o := .lst []) hq7).trans ex7))
  have B7 := (B5.mono (Ex.new (o := .lst []) hq7)).mono ex7
  have l7 : Lm K H7 q7 [] := ⟨[], ex7 _ _ upd_same, .nil⟩
  dsimp only
  have hordm : ∀ x ∈ nms, x ∈ ord := fun x hx => hp5.mem_iff.mpr hx
  clear hp5 hp50 l3c l4c l3b l5 l4 l3 g4 B4 B3 B2 B1 W5 B5
  refine seq_ed (for_vm (K := K) (q := q3) (ds := nms.map PyData.str) rfl W7.l3 (fun i σ H' => ∃ (o9 o10 o11 o12 o13 o14 o15 o16 : Option V) (pu : Nat) (Ws : List Firm), σ = [some (.ref p), some (.int (F : Int)), some (.int 4), some (.ref q3), some (.ref q4), some (.ref q5), some (.ref q6), some (.ref q7), some (.int (pu : Int)), o9, o10, o11, o12, o13, o14, o15, o16] ∧ Wv K H p c q3 q4 q5 q6 nms ppl ord H' ∧ Bag H' p c (r + (3 - i) * 2000) ∧ Lm K H' q7 (Ws.map firmD) ∧ Ws.map (·.name) = nms.take i ∧ ∀ f ∈ Ws, Fk f)
    ⟨none, none, none, none, none, none, none, none, 40, [], rfl, W7, B7.le (by omega), l7, rfl, fun f hf => (by cases hf)⟩ (fun i σ' H' _ ⟨_, _, _, _, _, _, _, _, _, _, _, W, _⟩ => W.l3) ?_ ?_)
  · rintro i dd u σ' H' hi du ⟨o9, o10, o11, o12, o13, o14, o15, o16, pu, Ws, rfl, W, B, l7, hnm, hfk⟩
    obtain ⟨nm, hnmi, rfl⟩ := get_mapD hi
    obtain rfl := dp_str du
    have hin : nm ∈ nms := List.mem_of_getElem? hnmi
    have hif : nm ∈ firmN := hmem nm hin
    have hi3 : i < 3 := by have := (List.getElem?_eq_some_iff.mp hnmi).1; omega
    have hok := (nm_all nm (List.mem_append_left _ hif)).ok
    obtain ⟨r1, hr1⟩ : ∃ r1, r1 = r + (3 - (i + 1)) * 2000 := ⟨_, rfl⟩
    have hr2 : r + (3 - i) * 2000 = r1 + 2000 := by rw [hr1]; omega
    rw [hr2] at B
    have n7 := A7.p
    refine seq_ed (set_eg (K := K) (j := r1 + 1990) (n := 0 + 1) (p := p) (c := c) (B.le (by omega)) (eg_some (ds := [.int 1, .int 2, .int 0, .int 3, .int 2, .int 1, .int 6]) rfl (egl_pure (fun _ _ => edl_lst (eda_cons ed_int (eda_cons ed_int (eda_cons ed_int (eda_cons ed_int (eda_cons ed_int (eda_cons ed_int (eda_cons ed_int eda_nil))))))))).ng (by simp) (by simp [hs16])) fun v H1 d pd nd g1 B1 d1 => ?_)
    have hR : ∃ R : Nat, R ≤ 6 ∧ d = .int (R : Int) := by
      simp only [List.mem_cons, List.not_mem_nil, or_false] at pd
      rcases pd with z | z | z | z | z | z | z
      · exact ⟨1, by decide, z⟩
      · exact ⟨2, by decide, z⟩
      · exact ⟨0, by decide, z⟩
      · exact ⟨3, by decide, z⟩
      · exact ⟨2, by decide, z⟩
      · exact ⟨1, by decide, z⟩
      · exact ⟨6, by decide, z⟩
    obtain ⟨R, hR6, rfl⟩ := hR
    obtain rfl := dp_int d1
    have W1 := W.ex g1
    have l71 := g1.lm l7 n7 (nols_map nol_firm _)
    dsimp only
    refine seq_ed (setl_eg (K := K) (j := r1 + 1980) (n := 0 + 1 + (0 + (3 + 0) + 0 + 0) + 0) (p := p) (c := c) (B1.le (by omega)) (egl_lst (ega_cons (eg_tup (ega_cons (eg_some rfl (egn_var rfl W1.l4 W1.n4 (nols_strs _)) (by simpa using hpne) (by rw [List.length_map]; show _ ≤ 16777216; omega)) (ega_cons (eg_tup (ega_cons (eg_tup (ega_cons eg_str (ega_cons (eg_callB (k := 3) 4 rfl (fun H1 _ => eda_cons ed_int eda_nil) ⟨by decide, by decide⟩) ega_nil)) ?_) ega_nil) ?_) ega_nil)) ?_) ega_nil) ?_) fun q11 H2 ds pd nd g2 B2 hq11 l11 => ?_)
    · rintro ds ⟨_, _, rfl, _, _, _, rfl, _, rfl⟩
      show 2 ≤ 16777216; omega
    · rintro ds ⟨_, _, rfl, _, rfl⟩
      show 1 ≤ 16777216; omega
    · rintro ds ⟨_, _, rfl, _, _, _, rfl, _, rfl⟩
      show 2 ≤ 16777216; omega
    · rintro ds ⟨_, _, rfl, _, rfl⟩
      show 1 ≤ 1000; omega
    obtain ⟨d0, _, rfl, ⟨_, ⟨dh, _, rfl, hdh, _, _, rfl, ⟨_, ⟨_, _, rfl, ⟨_, ⟨_, _, rfl, rfl, _, _, rfl, ⟨qq, rfl, hqq⟩, rfl⟩, rfl⟩, rfl⟩, rfl⟩, rfl⟩, rfl⟩, rfl⟩ := pd
    obtain ⟨hh0, hh0p, rfl⟩ := mem_get hdh
    have hk0 : Hk nm R (hh0, [.shares qq]) := ⟨List.mem_append_right _ (hppl _ hh0p), fun z => people_ne _ (hppl _ hh0p) (by show hh0 ∈ firmN; rw [show hh0 = nm from z]; exact hif), fun c hc => by
      rw [List.mem_singleton.mp hc]; exact dc_shares hqq, by show 1 ≤ 1; decide, by show 1 ≤ 4; decide⟩
    have l11 : Lm K H2 q11 ([(hh0, [Claim.shares qq])].map holdD) := by simp only [List.map_cons, List.map_nil, holdD, claimD]; exact l11
    have A11 := W1.ap B1 hq11
    have n71 : q11 ≠ q7 := fun z => ne_of_none l71.choose_spec.1 hq11 z.symm
    have W2 := W1.ex g2
    have l72 := g2.lm l71 n7 (nols_map nol_firm _)
    dsimp only
    refine seq_ed (for_rngG (K := K) (M := 4) (j := r1 + 1960) (n := 1 + 0) (p := p) (c := c) (B2.le (by omega)) ((ega_cons (eg_take (m := 5) rfl (fun _ _ => (ed_add (ed_var rfl (.int _)) ed_int).cast rfl) (by decide) (by decide)) ega_nil).imp ?_) (by decide) fun M3 H3 hM3 g3 B3 => ⟨fun t σ H' => ∃ (o12 o13 o14 o15 o16 : Option V) (pu : Nat) (hs : List (Str × List Claim)), σ = [some (.ref p), some (.int (F : Int)), some (.int 4), some (.ref q3), some (.ref q4), some (.ref q5), some (.ref q6), some (.ref q7), some (.int (pu : Int)), some (.str nm), some (.int (R : Int)), some (.ref q11), o12, o13, o14, o15, o16] ∧ Wv K H p c q3 q4 q5 q6 nms ppl ord H' ∧ Bag H' p c (r1 + (4 - t) * 450) ∧ Lm K H' q7 (Ws.map firmD) ∧ Lm K H' q11 (hs.map holdD) ∧ hs.length = t + 1 ∧ ∀ h ∈ hs, Hk nm R h,
      ⟨o12, o13, o14, o15, o16, pu, [(hh0, [.shares qq])], rfl, W2.ex g3, B3.le (by omega), g3.lm l72 n7 (nols_map nol_firm _), g3.lm l11 A11.p (nols_map nol_hold _), rfl, fun h hh => by rw [List.mem_singleton.mp hh]; exact hk0⟩, ?_, ?_⟩)
    · rintro ds ⟨_, _, rfl, ⟨a, ha, rfl⟩, rfl⟩
      exact ⟨a, by omega, rfl⟩
    · clear W2 l72 l11 B2 B1 l71 W1 B3 hk0 B
      rintro t σ' H' ht ⟨o12, o13, o14, o15, o16, pu, hs, rfl, W, B, l7, l11, hhl, hhk⟩
      obtain ⟨r2, hr3⟩ : ∃ r2, r2 = r1 + (4 - (t + 1)) * 450 := ⟨_, rfl⟩
      have hr4 : r1 + (4 - t) * 450 = r2 + 450 := by rw [hr3]; omega
      rw [hr4] at B
      refine seq_ed (newl_ed (K := K) (ds := (nms.filter fun x => decide (x ≠ nm)).map PyData.str) (lc_m PyData.str nms (fun x => decide (x ≠ nm)) PyData.str (edi_list (edt_var rfl W.l3).toD) (by show _ ≤ 16777216; omega) fun x hx v H4 e4 d4 => tu_name rfl (et_test (ed_nes (ed_var rfl d4) (ed_var rfl (.str _)) (nm_all x (List.mem_append_left _ (hmem x hx))).ok hok)) fun _ => ⟨ed_var rfl d4, rfl⟩) fun q13 H4 e4 hq13 l13 => ?_)
      have W4 := W.ex (Ex.g e4)
      have B4 := B.mono e4
      have old13 := B.old hq13
      have hol : (nms.filter fun x => decide (x ≠ nm)).length ≤ nms.length := List.length_filter_le ..
      have hom : ∀ x ∈ nms.filter fun x => decide (x ≠ nm), x ∈ nms ∧ x ≠ nm := fun x hx => by
        have := List.mem_filter.mp hx
        exact ⟨this.1, by simpa using this.2⟩
      generalize nms.filter (fun x => decide (x ≠ nm)) = oth at *
      dsimp only
      refine seq_ed (set_eg (K := K) (j := r2 + 445) (n := 0 + 1) (p := p) (c := c) (B4.le (by omega)) (eg_some (ds := ppl.map PyData.str ++ oth.map PyData.str ++ oth.map PyData.str) rfl (egl_pure (fun H1 x => edl_cat (edl_cat (edt_var rfl (x.lm W4.l4 W4.n4 (nols_strs _))) (edt_var rfl (x.lm l13 old13.1 (nols_strs _))) (by rw [List.length_map, List.length_map]; show _ ≤ 16777216; omega)).toT (edt_var rfl (x.lm l13 old13.1 (nols_strs _))) (by rw [List.length_append, List.length_map, List.length_map]; show _ ≤ 16777216; omega)) (nols_app (nols_app (nols_strs _) (nols_strs _)) (nols_strs _))).ng (by simp [hpne]) (by rw [List.length_append, List.length_append, List.length_map, List.length_map]; show _ ≤ 16777216; omega)) fun v H5 d pd nd g5 B5 d5 => ?_)
      have hhd : ∃ x : Str, d = .str x ∧ x ∈ firmN ++ peopleN ∧ x ≠ nm ∧ (x ∉ ppl → x ∈ nms) := by
        have key : (∃ x ∈ ppl, d = .str x) ∨ ∃ x ∈ oth, d = .str x := by
          rcases List.mem_append.mp pd with z | z
          · rcases List.mem_append.mp z with z | z
            · exact .inl (mem_get z)
            · exact .inr (mem_get z)
          · exact .inr (mem_get z)
        rcases key with ⟨x, hx, rfl⟩ | ⟨x, hx, rfl⟩
        · exact ⟨x, rfl, List.mem_append_right _ (hppl x hx), fun z => people_ne _ (hppl x hx) (by rw [z]; exact hif), fun z => absurd hx z⟩
        · exact ⟨x, rfl, List.mem_append_left _ (hmem x (hom x hx).1), (hom x hx).2, fun _ => (hom x hx).1⟩
      obtain ⟨hd5, rfl, hdn, hdne, hdin⟩ := hhd
      obtain rfl := dp_str d5
      have hdok := (nm_all hd5 hdn).ok
      have W5 := W4.ex g5
      have l75 := g5.lm (l7.mono e4) n7 (nols_map nol_firm _)
      have l115 := g5.lm (l11.mono e4) A11.p (nols_map nol_hold _)
      have shp : ∀ e ∈ ppl.map PyData.str, Sh 50 e := fun e he => by
        obtain ⟨x, hx, rfl⟩ := mem_get he
        exact sh_str (nm_all x (List.mem_append_right _ (hppl x hx))).ok
      clear W4 B4 l13 pd l7 l11 W B
      dsimp only
      have inP : ∀ {σ : L2.St} {H : Hp}, σ[14]? = some (some (.str hd5)) → σ[4]? = some (some (.ref q4)) → Lm K H q4 (ppl.map PyData.str) → Ed K (tOp (rInD K) (tVar 14) (tVar 4)) σ H (.bool (decide (hd5 ∈ ppl))) := fun h1 h2 l => ed_in (ed_var h1 (.str _)) (edt_var h2 l).toD (sh_str hdok) shp (by rw [decide_eq_true_eq]; simp)
      refine seq_ed (if_join2 (K := K) (b := decide (hd5 ∈ ppl)) (Pst := fun σ' H' => ∃ (v15 : V) (cs : List Claim), σ' = [some (.ref p), some (.int (F : Int)), some (.int 4), some (.ref q3), some (.ref q4), some (.ref q5), some (.ref q6), some (.ref q7), some (.int (pu : Int)), some (.str nm), some (.int (R : Int)), some (.ref q11), some (.int (t : Int)), some (.ref q13), some (.str hd5), some v15, o16] ∧ ExG p H5 H' ∧ Bag H' p c (r2 + 10) ∧ Dp K H' v15 (.tuple (cs.map claimD)) ∧ (∀ c ∈ cs, Dc R 2 c) ∧ 1 ≤ cs.length ∧ cs.length ≤ 4) (et_test (inP rfl rfl W5.l4)) ?_ ?_ ?_)
      · rintro σ' H6 ⟨v15, cs, rfl, g6, B6, d15, hcs, hc1, hc4⟩
        have W6 := W5.ex g6
        have l76 := g6.lm l75 n7 (nols_map nol_firm _)
        have l116 := g6.lm l115 A11.p (nols_map nol_hold _)
        clear W5 l75 l115
        dsimp only
        refine seq_ed (set_ed (K := K) (d := .tuple ((withinC cs (min 10 pu)).map claimD)) (ed_call (cs, min 10 pu) (eda_cons (ed_var rfl d15) (eda_cons ((ed_min2 ed_int (ed_var rfl (.int _))).cast (congrArg PyData.int (by show min (10 : Int) (pu : Int) = ((min 10 pu : Nat) : Int); omega))) eda_nil)) ⟨by show cs.length ≤ 100; omega, fun c hc => ⟨by have := (hcs c hc).dp; omega, ⟨R, (hcs c hc).ok⟩, by have := (hcs c hc).lv; have e9 : 3 ^ 2 = 9 := rfl; omega⟩⟩) fun v15' H7 e7 d15' => ?_)
        have hcs' : ∀ c ∈ withinC cs (min 10 pu), Dc R 2 c := withinC_dc hcs
        have hcl : (withinC cs (min 10 pu)).length = cs.length := withinC_len ..
        generalize withinC cs (min 10 pu) = cs' at *
        rw [← hcl] at hc1 hc4
        clear hcl hcs d15
        have W7 := W6.ex (Ex.g e7)
        have l77 := l76.mono e7
        have l117 := l116.mono e7
        have B7 := B6.mono e7
        clear W6 l76 l116 B6
        dsimp only
        refine seq_ed (set_ed (K := K) (d := .int ((pu - (cs'.map leaves).sum : Nat) : Int)) ((ed_max2 ed_int (ed_sub (ed_var rfl (.int _)) (ed_sum (ns := cs'.map leaves) ((lc_m1 claimD cs' (fun c => PyData.int (leaves c : Int)) (edi_tup (ed_var rfl d15')) (by show _ ≤ 16777216; omega) fun c hc v8 H8 e8 d8 => tu_name rfl et_yes fun _ => ⟨ed_call c (eda_cons (ed_var rfl d8) eda_nil) ⟨by have := (hcs' c hc).dp; omega, ⟨R, (hcs' c hc).ok⟩, by have := (hcs' c hc).lv; have e9 : 3 ^ 2 = 9 := rfl; omega⟩, rfl⟩).toD.cast (by rw [List.map_map]; rfl))))).cast (congrArg PyData.int (by omega))) fun vp H8 e8 dp8 => ?_)
        obtain rfl := dp_int dp8
        generalize pu - (cs'.map leaves).sum = pu'
        have W8 := W7.ex (Ex.g e8)
        have l78 := l77.mono e8
        have l118 := l117.mono e8
        have B8 := B7.mono e8
        have d158 := dp_mono e8 d15'
        clear W7 l77 l117 B7 d15'
        dsimp only
        refine seq_ed (if_join2 (K := K) (b := decide (hd5 ∈ ppl) && decide ((1 : Int) < (cs'.length : Int))) (Pst := fun σ' H' => ∃ (v15 : V) (cs : List Claim), σ' = [some (.ref p), some (.int (F : Int)), some (.int 4), some (.ref q3), some (.ref q4), some (.ref q5), some (.ref q6), some (.ref q7), some (.int (pu' : Int)), some (.str nm), some (.int (R : Int)), some (.ref q11), some (.int (t : Int)), some (.ref q13), some (.str hd5), some v15, o16] ∧ Wv K H p c q3 q4 q5 q6 nms ppl ord H' ∧ Bag H' p c (r2 + 10) ∧ Lm K H' q7 (Ws.map firmD) ∧ Lm K H' q11 (hs.map holdD) ∧ Dp K H' v15 (.tuple (cs.map claimD)) ∧ (∀ c ∈ cs, Dc R 2 c) ∧ 1 ≤ cs.length ∧ cs.length ≤ 4) (et_and (et_test (inP rfl rfl W8.l4)) fun _ => (et_test (ed_gt (ed_lenT (ed_var rfl d158)) ed_int)).cast (by rw [List.length_map])) ?_ ?_ ?_)
        · rintro σ' H9 ⟨v15, cs, rfl, W9, B9, l79, l119, d159, hcs, hc1, hc4⟩
          dsimp only
          refine ins_eg (K := K) (p := p) (c := c) (j := r2) (n1 := 1) (n2 := 0 + (0 + 0)) rfl l119 A11.p A11.c (nols_map nol_hold _) (B9.le (by omega)) ((eg_take (m := hs.length + 1) rfl (fun H1 x => (ed_add (ed_lenL (edt_var rfl (x.lm l119 A11.p (nols_map nol_hold _))).toD) ed_int).cast (by rw [List.length_map]; rfl)) (by omega) (by omega)).imp fun d ⟨m, hm, z⟩ => ⟨m, by rw [List.length_map]; omega, z⟩) (eg_tup (ega_cons (eg_var (d := .str hd5) rfl (.str _) rfl) (ega_cons (eg_var rfl d159 (by simp only [nol]; exact nols_map nol_claim _)) ega_nil)) ?_) (by rw [List.length_map]; omega) fun m d Ha Hb pd nd ga bb ib Bb lb => ?_
          · rintro ds ⟨_, _, rfl, _, _, _, rfl, _, rfl⟩
            show 2 ≤ 16777216; omega
          · obtain ⟨_, ⟨_, _, rfl, rfl, _, _, rfl, rfl, rfl⟩, rfl⟩ := pd
            refine ⟨_, _, _, _, _, pu', hs.take m ++ [(hd5, cs)] ++ hs.drop m, rfl, (W9.ex ga).mut A11 bb ib, hr3 ▸ Bb, (ga.lm l79 n7 (nols_map nol_firm _)).exB bb (Ne.symm n71) ib (nols_map nol_firm _), ?_, ?_, fun h hh => ?_⟩
            · rw [List.map_append, List.map_append, List.map_take, List.map_drop]
              exact lb
            · simp only [List.length_append, List.length_take, List.length_drop, List.length_cons, List.length_nil]
              omega
            · rcases List.mem_append.mp hh with z | z
              · rcases List.mem_append.mp z with z | z
                · exact hhk h (List.mem_of_mem_take z)
                · rw [List.mem_singleton.mp z]
                  exact ⟨hdn, hdne, hcs, hc1, hc4⟩
              · exact hhk h (List.mem_of_mem_drop z)
        · intro kk hb H9 e9
          simp only [Bool.and_eq_true, decide_eq_true_eq] at hb
          obtain ⟨hbp, hb1⟩ := hb
          have W9 := W8.ex (Ex.g e9)
          obtain ⟨kvs, k1, k2, k3⟩ := W9.d6
          obtain ⟨kn, hkn⟩ := k3 hd5 hbp
          have d159 := dp_mono e9 d158
          refine seq_ed (set_ed (K := K) (d := .tuple ((if 0 < kn then cs' else cs'.take 1).map claimD)) (ed_if (b := decide (0 < kn)) (et_test (ed_gt (ed_dget rfl rfl k1 hkn) ed_int)) (fun z => ?_) fun z => ?_) fun v15 Ha ea da => ?_)
          · rw [if_pos (of_decide_eq_true z)]; exact ed_var rfl d159
          · rw [if_neg (of_decide_eq_false z), List.map_take]; exact ed_cut1 (ed_var rfl d159)
          · have hca : ∀ c ∈ (if 0 < kn then cs' else cs'.take 1), Dc R 2 c := fun c hc => by
              split at hc
              · exact hcs' c hc
              · exact hcs' c (List.mem_of_mem_take hc)
            have hcl : 1 ≤ (if 0 < kn then cs' else cs'.take 1).length ∧ (if 0 < kn then cs' else cs'.take 1).length ≤ 4 := by
              split
              · exact ⟨hc1, hc4⟩
              · rw [List.length_take]; omega
            generalize (if 0 < kn then cs' else cs'.take 1) = cs'' at *
            dsimp only
            have k1a := ea _ _ k1
            refine daug_ed (K := K) (m := if decide ((1 : Int) < (cs''.length : Int)) then 1 else 0) rfl rfl k1a k2 hkn (ed_b2i ((ed_gt (ed_lenT (ed_var rfl da)) ed_int).cast (by rw [List.length_map]))) fun Hb eb => ?_
            have Wb := (W9.ex (Ex.g ea)).ex (Ex.g eb)
            have k1b := eb _ _ k1a
            have imb : Im Hb (upd Hb q6 (.dK (putK kvs (.inr hd5) (.int (kn - if decide ((1 : Int) < (cs''.length : Int)) then 1 else 0))))) := im_upd k1b rfl
            have exb : ExB q6 Hb (upd Hb q6 (.dK (putK kvs (.inr hd5) (.int (kn - if decide ((1 : Int) < (cs''.length : Int)) then 1 else 0))))) := exB_upd
            have e9b := (e9.trans ea).trans eb
            refine kk _ _ ⟨v15, cs'', rfl, Wb.put k1b k2 k3 hbp, (B8.mono e9b).exB exb (Ne.symm W9.n6) (Ne.symm W9.c6), (l78.mono e9b).exB exb (Ne.symm A7.a6) imb (nols_map nol_firm _), (l118.mono e9b).exB exb (Ne.symm A11.a6) imb (nols_map nol_hold _), dp_im imb (by simp only [nol]; exact nols_map nol_claim _) (dp_mono eb da), hca, hcl.1, hcl.2⟩
        · intro kk hb H9 e9
          exact nil_ed (kk _ _ ⟨v15', cs', rfl, W8.ex (Ex.g e9), B8.mono e9, l78.mono e9, l118.mono e9, dp_mono e9 d158, hcs', hc1, hc4⟩)
      · intro kk hb H6 e6
        refine set_eg (K := K) (j := r2 + 10) (n := 430) (p := p) (c := c) ((B5.mono e6).le (by omega)) (eg_callB (k := 430) (R, true) rfl (fun H1 _ => eda_cons (ed_var rfl (.int _)) (eda_cons ed_bl eda_nil)) hR6) fun v H7 d pd nd g7 B7 d7 => ?_
        obtain ⟨cs, rfl, h1, h2, h3⟩ := pd
        exact kk _ _ ⟨v, cs, rfl, (Ex.g e6).trans g7, B7, d7, h1, h2, h3⟩
      · intro kk hb H6 e6
        have hb : hd5 ∉ ppl := of_decide_eq_false hb
        obtain ⟨j1, hj1⟩ := ed_index (K := K) (hordm hd5 (hdin hb))
        obtain ⟨j2, hj2⟩ := ed_index (K := K) (hordm nm hin)
        have l56 := W5.l5.mono e6
        refine set_eg (K := K) (j := r2 + 10) (n := 430) (p := p) (c := c) ((B5.mono e6).le (by omega)) (eg_callB (k := 430) (R, decide ((j2 : Int) < (j1 : Int))) rfl (fun H1 x => eda_cons (ed_var rfl (.int _)) (eda_cons (ed_gt (hj1 rfl (x.lm l56 W5.n5 (nols_strs _)) (ed_var rfl (.str _))) (hj2 rfl (x.lm l56 W5.n5 (nols_strs _)) (ed_var rfl (.str _)))) eda_nil)) hR6) fun v H7 d pd nd g7 B7 d7 => ?_
        obtain ⟨cs, rfl, h1, h2, h3⟩ := pd
        exact kk _ _ ⟨v, cs, rfl, (Ex.g e6).trans g7, B7, d7, h1, h2, h3⟩
    · rintro σ' H9 ⟨o12, o13, o14, o15, o16, pu', hs, rfl, W9, B9, l79, l119, hhl, hhk⟩
      dsimp only
      refine app_ed (K := K) (d := firmD ⟨nm, R, hs⟩) rfl l79 (nols_map nol_firm _) (ed_tup (eda_cons (ed_var rfl (.str _)) (eda_cons (ed_var rfl (.int _)) (eda_cons (ed_tupleL (edt_var rfl l119).toD) eda_nil)))) (nol_firm _) (by
        have e := congrArg List.length hnm
        rw [List.length_map, List.length_take] at e
        rw [List.length_map]; show _ < 16777216; omega) fun Hb bb ib lb => ?_
      refine ⟨_, _, _, _, _, _, _, _, pu', Ws ++ [⟨nm, R, hs⟩], rfl, W9.mut A7 bb ib, (B9.exB bb (Ne.symm A7.p) (Ne.symm A7.c)).le (by omega), by rw [List.map_append]; exact lb, by rw [List.map_append, hnm, take_snoc hnmi]; rfl, fun f hf => ?_⟩
      rcases List.mem_append.mp hf with z | z
      · exact hfk f z
      · rw [List.mem_singleton.mp z]
        exact ⟨hif, hR6, by show 1 ≤ hs.length; omega, by show hs.length ≤ 5; omega, fun h hh => ⟨(hhk h hh).n, (hhk h hh).ne, (hhk h hh).dc, (hhk h hh).l1, (hhk h hh).l4⟩⟩
  · rintro σ' H9 ⟨o9, o10, o11, o12, o13, o14, o15, o16, pu, Ws, rfl, W9, B9, l79, hnm, hfk⟩
    rw [List.length_map, List.take_length] at hnm
    dsimp only
    refine ret_ed (K := K) (ed_tupleL (edt_var rfl l79).toD) fun v Ha ea da => k v Ha _ ⟨Ws, rfl, by rw [hnm]; exact hasc, ?_, ?_, hfk⟩ (by simp only [nol]; exact nols_map nol_firm _) (W9.g.trans (ex_exB ea)) ((B9.mono ea).le (by omega)) da
    · have e := congrArg List.length hnm
      rw [List.length_map] at e; omega
    · have e := congrArg List.length hnm
      rw [List.length_map] at e; omega
end
end Sw
namespace Sw
open PySem PySem.Spec PyProof.Rows L2 Evl SwT
theorem Nq.fine {q : Rat} (h : Nq q) : Fine 69 q := grid_fine69 h.grid (by have := h.pos; grind) (by
  have h1 := h.le
  have h2 : ((TT12 : Nat) : Rat) ≤ ((MM : Nat) : Rat) := Rat.natCast_le_natCast.mpr (by decide)
  have h3 : ((TT12 : Nat) : Rat) = 1000000000000 := rfl
  grind)
/-- a new list out of a bag -/
def spBL (K : PySem.W.Frag) {α : Type} (n : Nat) (args : α → List PyData) (pre : α → Prop) (res : α → List PyData → Prop) : Sp := fun vs H Q _ => ∃ p c r us x, vs = V.ref p :: us ∧ Bag H p c (r + n) ∧ DpAll K H us (args x) ∧ pre x ∧
  ∀ q H' ds, res x ds → ExB p H H' → Bag H' p c r → H q = none → Lm K H' q ds → Q (.ref q) H'
theorem spBL_len {K : PySem.W.Frag} {α : Type} {n : Nat} {args : α → List PyData} {pre : α → Prop} {res : α → List PyData → Prop} {m : Nat} (h : ∀ x, (args x).length + 1 = m) : ∀ vs H Q E, spBL K n args pre res vs H Q E → vs.length = m := fun vs H Q E ⟨p, c, r, us, x, e, _, hx, _⟩ => by rw [e, List.length_cons, dps_len hx, h x]
section
variable {K : PySem.W.Frag} {σ : L2.St} {H H' : Hp} {ta tb te : TE} {ts : TA} {tt tu : TT} {ds es : List PyData} {d : PyData} {D : Ends} {p c q : Addr} {m n i j n1 n2 : Nat} {P : PyData → Prop} {Ps Ps2 : List PyData → Prop}
theorem edi_zip (he : EdA K ts σ H [.list ds, .list es]) : EdI K (iZip K ts) σ H ((ds.zip es).map fun x => PyData.tuple [x.1, x.2]) := fun H1 e R k => he H1 e _ fun vs H2 e2 d2 => by
  obtain ⟨v, u, rfl, dv, du⟩ := dps_two d2
  obtain ⟨a, xs, rfl, s1, a1⟩ := dp_lst dv
  obtain ⟨b, ys, rfl, s2, a2⟩ := dp_lst du
  refine ⟨a, b, xs, ys, rfl, s1, s2, k _ H2 e2 fun H' e' => ?_⟩
  have t1 := ex_l e' s1
  have t2 := ex_l e' s2
  have b1 := dps_mono e' a1
  have b2 := dps_mono e' a2
  have hl1 := dps_len b1
  have hl2 := dps_len b2
  rw [List.length_map, List.length_zip]
  refine ⟨fun i hi => ?_, ⟨xs, ys, t1, t2, by omega⟩, fun i d y H'' hd hy => ?_⟩
  · exact ⟨xs, ys, _, _, t1, t2, List.getElem?_eq_getElem (by omega), List.getElem?_eq_getElem (by omega)⟩
  · obtain ⟨T, x, y, rfl, hT, rfl, f1, f2⟩ := hy
    obtain ⟨⟨d1, d2⟩, hz, rfl⟩ := get_mapD hd
    obtain ⟨h1, h2⟩ := List.getElem?_zip_eq_some.mp hz
    obtain ⟨v1, w1, w2⟩ := dps_get b1 h1
    obtain ⟨v2, w3, w4⟩ := dps_get b2 h2
    rw [f1 xs t1] at w1
    rw [f2 ys t2] at w3
    cases w1; cases w3
    exact ⟨Ex.new hT, .tup (st_of upd_same) (dps_mono (Ex.new hT) (.cons w2 (.cons w4 .nil)))⟩
theorem ext_eg (hs : σ[i]? = some (some (.ref q))) (hL : Lm K H q ds) (hq : q ≠ p) (hqc : q ≠ c) (hn : nols ds = true) (B : Bag H p c (j + n)) (he : EgL K p c n te σ H Ps) (hl : ∀ es, Ps es → ds.length + es.length ≤ 1000)
    (k : ∀ es H1 H', Ps es → nols es = true → ExG p H H1 → ExB q H1 H' → Im H1 H' → Bag H' p c j → Lm K H' q (ds ++ es) → D.nx σ H') : tDrop (tBM K "list" rExtend (tVar i) (tCons te tNil)) D σ H := by
  obtain ⟨vs, h1, h2⟩ := hL
  refine ⟨_, hs, .inl ⟨rfl, vs, sq_of h1⟩, he H j (ExG.refl _) B _ fun q2 H2 es pe ne e2 B2 hq2 l2 => ?_⟩
  obtain ⟨ws, w1, w2⟩ := e2.lm (⟨vs, h1, h2⟩ : Lm K H q ds) hq hn
  obtain ⟨us, u1, u2⟩ := l2
  have im : Im H2 (upd H2 q (.lst (ws ++ us))) := im_upd w1 rfl
  have hle := hl es pe
  exact ⟨q, q2, ws, us, rfl, rfl, w1, u1, by rw [dps_len w2, dps_len u2]; show _ ≤ 16777216; omega, k es H2 _ pe ne e2 exB_upd im (B2.exB exB_upd (Ne.symm hq) (Ne.symm hqc)) ⟨_, upd_same, dps_app (dps_im im hn w2) (dps_im im ne u2)⟩⟩
theorem egl_cat (ha : EgN K p c n1 ta σ H Ps) (hb : EgL K p c n2 tb σ H Ps2) (hl : ∀ a b, Ps a → Ps2 b → a.length + b.length ≤ 1000) : EgL K p c (n1 + n2) (tOp rCat ta tb) σ H fun l => ∃ a b, Ps a ∧ Ps2 b ∧ l = a ++ b := fun H1 r x B Q z =>
  ha H1 (r + n2) x (B.le (by omega)) _ fun qa H2 a pa na e2 B2 hqa la => hb H2 r (x.trans e2) B2 _ fun qb H3 b pb nb e3 B3 hqb lb => by
    obtain ⟨vs, v1, v2⟩ := e3.lm la hqa na
    obtain ⟨us, u1, u2⟩ := lb
    have hle := hl a b pa pb
    exact ⟨qa, qb, vs, us, rfl, rfl, v1, u1, by rw [dps_len v2, dps_len u2]; show _ ≤ 16777216; omega, fun t ht => z t _ (a ++ b) ⟨a, b, pa, pb, rfl⟩ (nols_app na nb) ((e2.trans e3).trans (Ex.g (Ex.new ht))) (B3.mono (Ex.new ht)) ((e2.trans e3).fresh ht (B3.old ht).1) ⟨_, upd_same, dps_mono (Ex.new ht) (dps_app v2 u2)⟩⟩
theorem ret_egl (B : Bag H p c (j + n)) (h : EgL K p c n te σ H Ps) (k : ∀ q H' ds, Ps ds → nols ds = true → ExG p H H' → Bag H' p c j → H q = none → Lm K H' q ds → D.rt (.ref q) H') : tRet te D σ H := h H j (ExG.refl H) B _ k
end
theorem lvls_ne (L : List Cv) (h : ∀ c ∈ L, Small c) : lvls L ≠ [] := by
  intro z
  have : (0 : Rat) ∈ lvls L := by
    unfold lvls
    rw [mem_inOrder]
    exact List.mem_cons_self
  rw [z] at this; cases this
theorem half_fr : PyData.tuple [.int 1, .int 2] = fr (1 / 2) := fr_eq rfl (by decide +kernel) (by decide +kernel)
/-- drawn levels -/
def Lv (q : Rat) : Prop := 0 ≤ q ∧ Fine 300 q
theorem rats_of {P : Rat → Prop} : ∀ {es : List PyData}, (∀ d ∈ es, ∃ q, d = fr q ∧ P q) → ∃ qs : List Rat, es = qs.map fr ∧ ∀ q ∈ qs, P q
  | [], _ => ⟨[], rfl, fun _ h => (by cases h)⟩
  | d :: es, h => by
    obtain ⟨q, rfl, hq⟩ := h d List.mem_cons_self
    obtain ⟨qs, rfl, hqs⟩ := rats_of (es := es) fun x hx => h x (List.mem_cons_of_mem _ hx)
    exact ⟨q :: qs, rfl, fun x hx => by
      rcases List.mem_cons.mp hx with z | z
      · rw [z]; exact hq
      · exact hqs x z⟩
section
variable {P : Program} {w : World} {K : PySem.W.Frag} {mg : Str → Option Value} {base : Heap}
theorem sc__law_some_levels : FnScope ["_law_bag_here", "_law_curves", "_law_levels_here", "_law_found", "_law_pairs", "_law_turn", "_law_low", "_law_high"] ["_law_bag_here", "_law_curves"] (defScope s__law_some_levels) := ⟨rfl, rfl, rfl, by decide +kernel, rfl, by decide +kernel, by decide +kernel⟩
abbrev Cf__law_some_levels (P w K mg base) := Cal P w K mg base "_law_some_levels" 4 ["_law_bag_here", "_law_curves"] (spBL K 200000 (fun L : List Cv => [.list (L.map cvD)]) (fun L => (∀ c ∈ L, Small c) ∧ lens L ≤ 100000) fun _ es => ∃ qs : List Rat, es = qs.map fr ∧ qs.length ≤ 100 ∧ ∀ q ∈ qs, Lv q)
theorem ok__law_some_levels (T : Tx w K mg) (C__law_added : Cf__law_added P w K mg base) (C__law_levels : Cf__law_levels P w K mg base) (C__law_mixed : Cf__law_mixed P w K mg base) (C__law_multiplied : Cf__law_multiplied P w K mg base) (C__law_number : Cf__law_number P w K mg base) (C__law_some : Cf__law_some P w K mg base) : Cf__law_some_levels P w K mg base := by
  refine T.cal (d := d__law_some_levels) 72 67 rfl rfl rfl rfl rfl sc__law_some_levels (fun _ _ _ _ _ _ us hl => match us, hl with | [_, _], _ => rfl) (spBL_len fun _ => rfl) fun f cdv A outer s H vs Q E hr h => ⟨_, (pss_cons (ps_set (i := 2) sc__law_some_levels.nd rfl (by first | exact Or.inl rfl | exact Or.inr rfl) (pe_cc C__law_levels (hr.mono (by decide)) (by rfl) (pa_cons (pv 1) pa_nil)))
      (pss_cons (ps_setLc (i := 3) rfl sc__law_some_levels.nd rfl rfl (sw_true rfl rfl rfl (by decide +kernel)) (pi_range1 (by rfl) T.f_range (pa_cons pe_int pa_nil)) (blkOk_by (own := [("_law_turn", 5)]) (N := ["_law_bag_here", "_law_curves", "_law_levels_here", "_law_found", "_law_pairs", "_law_turn", "_law_low", "_law_high"]) (by kernel_rfl)) (fun _ _ _ _ _ => (pg_name (i := 5) sc__law_some_levels.nd rfl (by first | exact Or.inl rfl | exact Or.inr rfl))) (fun _ _ _ _ _ => pts_nil) (fun _ _ _ _ _ => (pe_cc C__law_some (hr.mono (by decide)) (by rfl) (pa_cons (pv 0) (pa_cons (pv 2) pa_nil)))))
      (pss_cons (ps_setLc (i := 4) rfl sc__law_some_levels.nd rfl rfl (sw_true rfl rfl rfl (by decide +kernel)) (pi_zip (by rfl) T.f_zip (pa_cons (pv 2) (pa_cons (pe_slice sl_list (pv 2) (po_some pe_int) po_none) pa_nil))) (blkOk_by (own := [("_law_low", 6), ("_law_high", 7)]) (N := ["_law_bag_here", "_law_curves", "_law_levels_here", "_law_found", "_law_pairs", "_law_turn", "_law_low", "_law_high"]) (by kernel_rfl)) (fun _ _ _ _ _ => (pg_tupK (K := K) (n := 2) rfl rfl (pgs_cons (pg_name (i := 6) sc__law_some_levels.nd rfl (by first | exact Or.inl rfl | exact Or.inr rfl)) (pgs_cons (pg_name (i := 7) sc__law_some_levels.nd rfl (by first | exact Or.inl rfl | exact Or.inr rfl)) pgs_nil)))) (fun _ _ _ _ _ => pts_nil) (fun _ _ _ _ _ => (pe_cc C__law_multiplied (hr.mono (by decide)) (by rfl) (pa_cons (pe_cc C__law_added (hr.mono (by decide)) (by rfl) (pa_cons (pv 6) (pa_cons (pv 7) pa_nil))) (pa_cons (pe_tup (pa_cons pe_int (pa_cons pe_int pa_nil))) pa_nil)))))
      (pss_cons (ps_expr (pe_bm PySem.F.plainAttrs_list PySem.F.slot_list_extend PySem.F.type_list_extend mt_extend (pv 3) (pa_cons (pe_slice sl_list (pe_cc C__law_mixed (hr.mono (by decide)) (by rfl) (pa_cons (pv 0) (pa_cons (pv 4) pa_nil))) po_none (po_some pe_int)) pa_nil)))
      (pss_one (ps_ret (pe_op op_cat (pv 3) (pe_lst (pa_cons (pe_cc C__law_added (hr.mono (by decide)) (by rfl) (pa_cons (pe_ix ix_seq (pv 2) (pe_un un_neg pe_int) (fun _ _ => rfl)) (pa_cons (pe_cc C__law_number (hr.mono (by decide)) (by rfl) (pa_cons (pv 0) (pa_cons pe_int pa_nil))) pa_nil))) (pa_cons (pe_cc C__law_number (hr.mono (by decide)) (by rfl) (pa_cons (pv 0) (pa_cons pe_int pa_nil))) pa_nil)))))))))), ?_⟩
  obtain ⟨p, c, r, us, L, rfl, hB, hd, ⟨hS, hl⟩, k⟩ := h
  dsimp only at hd hS hl k
  obtain ⟨v1, rfl, h1⟩ := dps_one hd
  have hll := lens_lvls L
  have hlf : ∀ x ∈ lvls L, Fine 140 x ∧ 0 ≤ x := fun x hx => lvls_fine hS hx
  have hne := lvls_ne L hS
  refine seq_ed (newl_ed (K := K) (edl_call L (eda_cons (ed_var rfl h1) eda_nil) ⟨fun c hc q hq => ((hS c hc).fc.lv q hq).fb (by decide), by omega⟩) fun q2 H1 e1 hq2 l2 => ?_)
  generalize lvls L = ls at *
  have B1 := hB.mono e1
  have old2 := hB.old hq2
  have n2 : nols (ls.map fr) = true := nols_map nol_fr _
  dsimp only
  refine seq_ed (setl_eg (K := K) (p := p) (c := c) (j := r + 199990) (n := 0 + 0 + 2 * (0 + 1)) (B1.le (by omega)) (lc_g (P := fun d => ∃ q, d = fr q ∧ Lv q) (M := 2) (L := fun _ => True) ((ega_cons eg_int ega_nil).imp ?_) (by decide) (fun _ => rfl) fun kk => (eg_some rfl (egn_var rfl l2 old2.1 n2) (by simpa using hne) (by rw [List.length_map]; show _ ≤ 16777216; omega)).imp ?_) fun q3 H2 ds3 pd3 nd3 g2 B2 hq3 l3 => ?_)
  · rintro l ⟨_, _, rfl, rfl, rfl⟩
    exact ⟨2, ⟨by decide, trivial⟩, rfl⟩
  · intro d hd
    obtain ⟨x, hx, rfl⟩ := mem_get hd
    exact ⟨x, rfl, (hlf x hx).2, (hlf x hx).1.mono (by decide)⟩
  obtain ⟨⟨hl3, _⟩, hd3⟩ := pd3
  obtain ⟨qs3, rfl, hqs3⟩ := rats_of hd3
  rw [List.length_map] at hl3
  have l22 := g2.lm l2 old2.1 n2
  have old3 := B1.old hq3
  have n32 : q3 ≠ q2 := fun z => ne_of_none l2.choose_spec.1 hq3 z.symm
  have hq30 : H q3 = none := fresh_back e1 hq3
  dsimp only
  have ezip : ((ls.map fr).zip ((ls.map fr).drop 1)).map (fun x => PyData.tuple [x.1, x.2]) = (ls.zip (ls.drop 1)).map fun x => PyData.tuple [fr x.1, fr x.2] := by
    rw [← List.map_drop, List.zip_map, List.map_map]; rfl
  have hzm : ∀ x ∈ ls.zip (ls.drop 1), (Fine 140 x.1 ∧ 0 ≤ x.1) ∧ Fine 140 x.2 ∧ 0 ≤ x.2 := fun x hx => ⟨hlf _ (List.of_mem_zip hx).1, hlf _ (List.mem_of_mem_drop (List.of_mem_zip hx).2)⟩
  have hzl : (ls.zip (ls.drop 1)).length ≤ ls.length := by rw [List.length_zip]; omega
  have fh : Fine 10 (1 / 2 : Rat) := ⟨by decide +kernel, by decide +kernel⟩
  refine seq_ed (newl_ed (K := K) (lc_m1 (fun x : Rat × Rat => PyData.tuple [fr x.1, fr x.2]) (ls.zip (ls.drop 1)) (fun x => fr ((x.1 + x.2) * (1 / 2))) (by rw [← ezip]; exact edi_zip (eda_cons (edt_var rfl l22).toD (eda_cons (edl_drop (edt_var rfl l22).toD ed_int).toD eda_nil))) (by show _ ≤ 16777216; omega) fun x hx v H4 e4 d4 => tu_two d4 fun a b ha hb => ⟨rfl, et_yes, fun _ => ⟨ed_call (x.1 + x.2, 1 / 2) (eda_cons (ed_call (x.1, x.2) (eda_cons (ed_var rfl ha) (eda_cons (ed_var rfl hb) eda_nil)) ⟨(hzm x hx).1.1.fb (by decide), (hzm x hx).2.1.fb (by decide)⟩) (eda_cons ((ed_tup (eda_cons ed_int (eda_cons ed_int eda_nil))).cast half_fr) eda_nil)) ⟨((hzm x hx).1.1.add (hzm x hx).2.1).fb (by decide), fh.fb (by decide)⟩, rfl⟩⟩) fun q4 H3 e3 hq4 l4 => ?_)
  have B3 := B2.mono e3
  have l23 := l22.mono e3
  have l33 := l3.mono e3
  have old4 := B2.old hq4
  have n4 : nols ((ls.zip (ls.drop 1)).map fun x => fr ((x.1 + x.2) * (1 / 2))) = true := nols_map (fun _ => rfl) _
  dsimp only
  refine seq_ed (ext_eg (K := K) (p := p) (c := c) (j := r + 50) (n := 0 + 150000 + 0) rfl l33 old3.1 old3.2 (nols_map nol_fr _) (B3.le (by omega)) (egl_cut (R := fun m => m = 2) (egl_mix (m := 150000) rfl (egn_var rfl l4 old4.1 n4) (fun ds e => by rw [e, List.length_map]; omega) (by decide)) (eg_int.imp fun d e => ⟨2, rfl, e⟩)) (fun es he => ?_) fun es Ha Hb pe ne ga bb ib Bb lb => ?_)
  · obtain ⟨ds, m, _, rfl, rfl⟩ := he
    rw [List.length_map, List.length_take]; omega
  obtain ⟨ds, m, ⟨_, rfl, hp⟩, rfl, rfl⟩ := pe
  have hes : ∀ d ∈ ds.take 2, ∃ q, d = fr q ∧ Lv q := fun d hd => by
    obtain ⟨x, hx, rfl⟩ := mem_get (hp.mem_iff.mp (List.mem_of_mem_take hd))
    have h5 := hzm x hx
    refine ⟨_, rfl, ?_, ((h5.1.1.add h5.2.1).mul fh).mono (by decide)⟩
    refine Rat.mul_nonneg ?_ (by decide +kernel)
    have := h5.1.2
    have := h5.2.2
    grind
  have hel : (ds.take 2).length ≤ 2 := by rw [List.length_take]; omega
  generalize ds.take 2 = es at *
  have l2b : Lm K Hb q2 (ls.map fr) := (ga.lm l23 old2.1 n2).exB bb (Ne.symm n32) ib n2
  have nb : nols (qs3.map fr ++ es) = true := nols_app (nols_map nol_fr _) ne
  dsimp only
  obtain ⟨ini, la, hla⟩ : ∃ ini la, ls = ini ++ [la] := ⟨_, _, (List.dropLast_concat_getLast hne).symm⟩
  have fla := hlf la (by rw [hla]; exact List.mem_append_right _ List.mem_cons_self)
  have num : ∀ {σ : L2.St} {H : Hp} {a : Nat}, σ[0]? = some (some (.ref p)) → 1 ≤ a → a ≤ 12 → Eg K p c 3 (tCall (spNum K) [] E0 (tCons (tVar 0) (tCons (tC (.int (a : Int))) tNil))) σ H (fun d => ∃ q, d = fr q ∧ Nq q) := fun hs h1 h2 => eg_callB (K := K) (k := 3) _ hs (fun H1 _ => eda_cons ed_int eda_nil) ⟨h1, h2⟩
  refine ret_egl (K := K) (p := p) (c := c) (j := r) (Bb.le (by omega)) (egl_cat (egn_var rfl lb old3.1 nb) (egl_lst (ega_cons (eg_callF (P := fun d => ∃ q, d = fr q ∧ Lv q) ((ega_cons (eg_pure (d := fr la) (fun H1 x => ed_ixL (edt_var rfl (x.lm l2b old2.1 n2)).toD (ed_neg ed_int) (by rw [hla]; exact atI_mapL ini la)) rfl) (ega_cons (num (a := 9) rfl (by decide) (by decide)) ega_nil)).imp ?_)) (ega_cons (num (a := 9) rfl (by decide) (by decide)) ega_nil)) ?_) ?_) fun q Hc es2 pe2 ne2 gc Bc hqc lc => k q Hc es2 ?_ ?_ Bc ?_ lc
  · rintro l ⟨_, _, rfl, rfl, _, _, rfl, ⟨q, rfl, hq⟩, rfl⟩
    refine ⟨(la, q), rfl, ⟨fla.1.fb (by decide), hq.fine.fb (by decide)⟩, ⟨_, rfl, ?_, (fla.1.add hq.fine).mono (by decide)⟩, rfl⟩
    have := hq.pos
    have := fla.2
    grind
  · rintro l ⟨_, _, rfl, _, _, _, rfl, _, rfl⟩
    show 2 ≤ 1000; omega
  · rintro a b rfl ⟨_, _, rfl, _, _, _, rfl, _, rfl⟩
    rw [List.length_append, List.length_map]
    simp only [List.length_cons, List.length_nil]; omega
  · obtain ⟨_, _, rfl, ⟨_, _, rfl, ⟨qa, rfl, hqa⟩, _, _, rfl, ⟨qb, rfl, hqb⟩, rfl⟩, rfl⟩ := pe2
    obtain ⟨qe, rfl, hqe⟩ := rats_of hes
    refine ⟨qs3 ++ qe ++ [qa, qb], by simp, ?_, fun q hq => ?_⟩
    · rw [List.length_map] at hel
      simp only [List.length_append, List.length_cons, List.length_nil]; omega
    · rcases List.mem_append.mp hq with z | z
      · rcases List.mem_append.mp z with z | z
        · exact hqs3 q z
        · exact hqe q z
      · simp only [List.mem_cons, List.not_mem_nil, or_false] at z
        rcases z with z | z
        · rw [z]; exact hqa
        · rw [z]; exact ⟨by have := hqb.pos; grind, hqb.fine.mono (by decide)⟩
  · exact (((ExG.new hq30 (((Ex.g e1).trans g2).trans ((Ex.g e3).trans ga)) bb ib).trans gc)).b
  · have gall := (ExG.new hq30 (((Ex.g e1).trans g2).trans ((Ex.g e3).trans ga)) bb ib)
    cases hh : H q with
    | none => rfl
    | some o =>
      rw [gall.b q o (Bb.old hqc).1 hh] at hqc; cases hqc
end
end Sw
set_option maxHeartbeats 4000000
namespace Sw
open PySem PySem.Spec PyProof.Rows L2 Evl SwT
/-! ### what the options that pay most pay -/
def optC (R : Nat) (cs : List Claim) : Cv := greatestOf (cs.map (curveC R))
def maxP (R : Nat) (cs : List Claim) (x : Rat) : Rat := cs.foldl (fun m c => max m (pay R c x)) 0
def M9 : Nat := 9 * TT12
theorem foldl_curves {R : Nat} {x : Rat} (hx : 0 ≤ x) : ∀ (cs : List Claim) (m : Rat), (∀ c ∈ cs, OkC R c) → (cs.map (curveC R)).foldl (fun m c => max m (evc c x)) m = cs.foldl (fun m c => max m (pay R c x)) m
  | [], m, _ => rfl
  | c :: cs, m, h => by
    rw [List.map_cons, List.foldl_cons, List.foldl_cons, (curveC_is (h c List.mem_cons_self)).evc hx]
    exact foldl_curves hx cs _ fun d hd => h d (List.mem_cons_of_mem _ hd)
theorem optC_is {R : Nat} {cs : List Claim} (h : ∀ c ∈ cs, OkC R c) : IsCv (optC R cs).1 (optC R cs).2 (maxP R cs) :=
  (greatestOf_is fun z hz => by
    obtain ⟨c, hc, rfl⟩ := List.mem_map.mp hz
    exact (curveC_is (h c hc)).ok).congr fun x hx => foldl_curves hx cs 0 h
theorem gl_maxP {R : Nat} (hR : R ≤ 6) {M : Rat} (hM : 0 ≤ M) : ∀ (cs : List Claim) (f : Rat → Rat), GL M f → (∀ c ∈ cs, OkC R c ∧ mg c ≤ M) → GL M fun x => cs.foldl (fun m c => max m (pay R c x)) (f x)
  | [], f, hf, _ => hf
  | c :: cs, f, hf, h => by
    have hc := h c List.mem_cons_self
    exact gl_maxP hR hM cs (fun x => max (f x) (pay R c x)) (gl_max hf ((gl_pay hR hc.1).mono hc.2)) fun d hd => h d (List.mem_cons_of_mem _ hd)
theorem le_maxl {a b : Rat} : a ≤ max a b := by rw [Rat.max_def]; split <;> grind
theorem le_maxr {a b : Rat} : b ≤ max a b := by rw [Rat.max_def]; split <;> grind
theorem max_le' {a b m : Rat} (h1 : a ≤ m) (h2 : b ≤ m) : max a b ≤ m := by rw [Rat.max_def]; split <;> grind
theorem max_mono2 {a b c d : Rat} (h1 : a ≤ b) (h2 : c ≤ d) : max a c ≤ max b d := max_le' (Rat.le_trans h1 le_maxl) (Rat.le_trans h2 le_maxr)
theorem foldl_max_mono {R : Nat} {x y : Rat} (hxy : x ≤ y) : ∀ (cs : List Claim) (m n : Rat), (∀ c ∈ cs, OkC R c) → m ≤ n → cs.foldl (fun m c => max m (pay R c x)) m ≤ cs.foldl (fun m c => max m (pay R c y)) n
  | [], m, n, _, h => h
  | c :: cs, m, n, hO, h => foldl_max_mono hxy cs _ _ (fun d hd => hO d (List.mem_cons_of_mem _ hd)) (max_mono2 h (pay_mono hxy (hO c List.mem_cons_self)))
/-- the greatest of a list of numbers from 0 on -/
theorem foldl_max_eq {M : Rat} : ∀ (qs : List Rat) (m : Rat), (∀ q ∈ qs, q ≤ M) → m ≤ M → (m = M ∨ M ∈ qs) → qs.foldl max m = M
  | [], m, _, _, h => by
    rcases h with h | h
    · exact h
    · cases h
  | q :: qs, m, hq, hm, h => by
    have h1 := hq q List.mem_cons_self
    refine foldl_max_eq qs (max m q) (fun x hx => hq x (List.mem_cons_of_mem _ hx)) (max_le' hm h1) ?_
    rcases h with h | h
    · left; rw [h, Rat.max_def]; split <;> grind
    · rcases List.mem_cons.mp h with h | h
      · left; rw [← h, Rat.max_def]; split <;> grind
      · exact .inr h
theorem maxP_map (R : Nat) (cs : List Claim) (x : Rat) : maxP R cs x = (cs.map fun c => pay R c x).foldl max 0 := by unfold maxP; rw [List.foldl_map]
/-- the last of the ascending ones is the greatest -/
theorem last_max {R : Nat} {cs : List Claim} {x : Rat} (hO : ∀ c ∈ cs, OkC R c) (hne : cs ≠ []) : ∃ ini, inOrder (cs.map fun c => pay R c x) = ini ++ [maxP R cs x] := by
  have hl : inOrder (cs.map fun c => pay R c x) ≠ [] := by
    obtain ⟨c, r, rfl⟩ : ∃ c r, cs = c :: r := by
      cases cs with
      | nil => exact absurd rfl hne
      | cons c r => exact ⟨c, r, rfl⟩
    intro z
    have : pay R c x ∈ inOrder ((c :: r).map fun c => pay R c x) := mem_inOrder.mpr (by rw [List.map_cons]; exact List.mem_cons_self)
    rw [z] at this; cases this
  have hsp := List.dropLast_concat_getLast hl
  have hsr := sr_inOrder (cs.map fun c => pay R c x)
  have hmem : ∀ y, y ∈ inOrder (cs.map fun c => pay R c x) ↔ y ∈ cs.map fun c => pay R c x := fun y => mem_inOrder
  have hlast := List.getLast_mem hl
  generalize (inOrder (cs.map fun c => pay R c x)).getLast hl = M at *
  generalize (inOrder (cs.map fun c => pay R c x)).dropLast = ini at *
  refine ⟨ini, ?_⟩
  rw [← hsp] at hsr hmem hlast ⊢
  congr 2
  rw [maxP_map]
  refine (foldl_max_eq _ 0 (fun q hq => ?_) ?_ (.inr ((hmem M).mp hlast))).symm
  · rcases List.mem_append.mp ((hmem q).mpr hq) with z | z
    · have := (List.pairwise_append.mp hsr).2.2 q z M List.mem_cons_self
      grind
    · rw [List.mem_singleton.mp z]; exact Rat.le_refl
  · obtain ⟨c, hc, e⟩ := List.mem_map.mp ((hmem M).mp hlast)
    rw [← e]; exact pay_nonneg (hO c hc)
/-- the curve of drawn options -/
structure Oc (R : Nat) (cs : List Claim) : Prop where
  is_ : IsCv (optC R cs).1 (optC R cs).2 (maxP R cs)
  small : Small (optC R cs)
  ln : (optC R cs).1.length ≤ 6046
  gl : GL ((M9 : Nat) : Rat) (maxP R cs)
  mono : Mono (maxP R cs)
theorem oc_of {R : Nat} (hR : R ≤ 6) {cs : List Claim} (h : ∀ c ∈ cs, Dc R 2 c) (hl : cs.length ≤ 4) : Oc R cs := by
  have hO : ∀ c ∈ cs, OkC R c := fun c hc => (h c hc).ok
  have h1 := optC_is hO
  have h2 : ∀ z ∈ cs.map (curveC R), Small z ∧ z.1.length ≤ 200 := fun z hz => by
    obtain ⟨c, hc, rfl⟩ := List.mem_map.mp hz
    have := (h c hc).wc.small hR
    exact ⟨this.1, by omega⟩
  have h3 := greatest_small (cs.map (curveC R)) zeroCv 0 h2 zero_small (by decide) (by rw [List.length_map]; omega)
  have h4 : ∀ n, n ≤ 4 → gbnd n ≤ 6046 := by decide
  refine ⟨h1, h3.1, Nat.le_trans h3.2 (h4 _ (by rw [List.length_map]; omega)), ?_, fun x y h0 hxy => foldl_max_mono hxy cs 0 0 hO Rat.le_refl⟩
  exact gl_maxP hR Rat.natCast_nonneg cs (fun _ => 0) (gl_zero Rat.natCast_nonneg) fun c hc => ⟨hO c hc, (h c hc).m⟩
/-! ### a firm's curves -/
def cvs (f : Firm) : List Cv := f.holds.map fun h => optC f.ranks h.2
theorem Fk.oc {f : Firm} (h : Fk f) {x : Str × List Claim} (hx : x ∈ f.holds) : Oc f.ranks x.2 := oc_of h.rk (h.hs x hx).2.2.1 (h.hs x hx).2.2.2.2
theorem Fk.cvs_mem {f : Firm} (h : Fk f) {c : Cv} (hc : c ∈ cvs f) : ∃ x ∈ f.holds, c = optC f.ranks x.2 ∧ Oc f.ranks x.2 := by
  obtain ⟨x, hx, rfl⟩ := List.mem_map.mp hc
  exact ⟨x, hx, rfl, h.oc hx⟩
theorem Fk.smalls {f : Firm} (h : Fk f) : ∀ c ∈ cvs f, Small c := fun c hc => by
  obtain ⟨x, _, rfl, o⟩ := h.cvs_mem hc
  exact o.small
theorem sum_le_nat {B : Nat} : ∀ {l : List Nat}, (∀ x ∈ l, x ≤ B) → l.sum ≤ l.length * B
  | [], _ => Nat.zero_le _
  | x :: l, h => by
    have h1 := h x List.mem_cons_self
    have h2 := sum_le_nat fun y hy => h y (List.mem_cons_of_mem _ hy)
    rw [List.sum_cons, List.length_cons, Nat.add_mul]
    omega
theorem Fk.lens {f : Firm} (h : Fk f) : Sw.lens (cvs f) ≤ 30230 := by
  have h1 : Sw.lens (cvs f) ≤ ((cvs f).map fun c => c.1.length).length * 6046 := sum_le_nat fun n hn => by
    obtain ⟨c, hc, rfl⟩ := List.mem_map.mp hn
    obtain ⟨x, _, rfl, o⟩ := h.cvs_mem hc
    exact o.ln
  rw [List.length_map] at h1
  unfold cvs at h1
  rw [List.length_map] at h1
  have := h.h5
  unfold cvs
  omega
theorem Fk.cvs_len {f : Firm} (h : Fk f) : (cvs f).length ≤ 5 ∧ cvs f ≠ [] := by
  unfold cvs
  refine ⟨by rw [List.length_map]; exact h.h5, fun z => ?_⟩
  have := congrArg List.length z
  rw [List.length_map, List.length_nil] at this
  have := h.h1
  omega
theorem gl_sum {M : Rat} (hM : 0 ≤ M) : ∀ {L : List Cv}, (∀ c ∈ L, GL M (evc c)) → GL ((L.length : Nat) * M) (sumOf L)
  | [], _ => by
    have : sumOf [] = fun _ => (0 : Rat) := by funext x; rfl
    rw [this]
    exact gl_zero (by rw [List.length_nil]; show 0 ≤ ((0 : Nat) : Rat) * M; rw [show ((0 : Nat) : Rat) = 0 from rfl]; grind)
  | c :: L, h => by
    have h1 := gl_add (h c List.mem_cons_self) (gl_sum hM fun d hd => h d (List.mem_cons_of_mem _ hd))
    have e : M + (L.length : Nat) * M = ((c :: L).length : Nat) * M := by
      rw [List.length_cons, Rat.natCast_add]
      grind
    rw [← e]
    refine h1.congr fun x hx => ?_
    unfold sumOf
    rw [List.map_cons, rsum_cons]
theorem sumOf_mono : ∀ {L : List Cv}, (∀ c ∈ L, Mono (evc c)) → Mono (sumOf L)
  | [], _ => fun x y _ _ => by show (0 : Rat) ≤ 0; exact Rat.le_refl
  | c :: L, h => fun x y h0 hxy => by
    have h1 := h c List.mem_cons_self x y h0 hxy
    have h2 := sumOf_mono (fun d hd => h d (List.mem_cons_of_mem _ hd)) x y h0 hxy
    unfold sumOf at h2 ⊢
    rw [List.map_cons, List.map_cons, rsum_cons, rsum_cons]
    grind
theorem Oc.evc {R : Nat} {cs : List Claim} (o : Oc R cs) {x : Rat} (hx : 0 ≤ x) : evc (optC R cs) x = maxP R cs x := o.is_.evc hx
theorem Oc.gle {R : Nat} {cs : List Claim} (o : Oc R cs) : GL ((M9 : Nat) : Rat) (Sw.evc (optC R cs)) := o.gl.congr fun x hx => o.evc hx
theorem Oc.monoe {R : Nat} {cs : List Claim} (o : Oc R cs) : Mono (Sw.evc (optC R cs)) := fun x y h0 hxy => by
  rw [o.evc h0, o.evc (show 0 ≤ y by grind)]
  exact o.mono x y h0 hxy
/-- the firm's curve -/
structure Wo (f : Firm) : Prop where
  is_ : IsCv (addedUp (cvs f)).1 (addedUp (cvs f)).2 (sumOf (cvs f))
  small : Small (addedUp (cvs f))
  mono : Mono (evc (addedUp (cvs f)))
theorem Fk.wo {f : Firm} (h : Fk f) : Wo f := by
  have hO : ∀ c ∈ cvs f, Ok c := fun c hc => (h.smalls c hc).ok
  have h1 := addedUp_is hO
  have h2 := h.lens
  obtain ⟨h3, _⟩ := h.cvs_len
  have hg : GL (MM : Rat) (sumOf (cvs f)) := (gl_sum (M := ((M9 : Nat) : Rat)) Rat.natCast_nonneg fun c hc => by
    obtain ⟨x, _, rfl, o⟩ := h.cvs_mem hc
    exact o.gle).mono (by
      rw [← Rat.natCast_mul]
      refine Rat.natCast_le_natCast.mpr (Nat.le_trans (Nat.mul_le_mul_right _ h3) (by decide)))
  have hm : Mono (sumOf (cvs f)) := sumOf_mono fun c hc => by
    obtain ⟨x, _, rfl, o⟩ := h.cvs_mem hc
    exact o.monoe
  refine ⟨h1, ⟨h1.ok, hg.congr fun x hx => h1.evc hx, ?_⟩, fun x y h0 hxy => ?_⟩
  · have := len_addedUp (cvs f)
    unfold Sw.lens at h2
    omega
  · rw [h1.evc h0, h1.evc (show 0 ≤ y by grind)]
    exact hm x y h0 hxy
/-! ### the level led back, finer -/
theorem Small.slope69 {c : Cv} (h : Small c) {i : Nat} {p : Pt} (hp : c.1[i]? = some p) : Fine 69 (hs (c.1.drop i) c.2) := by
  obtain ⟨h1, h2⟩ := h.ok.from_ hp
  have h0 := h.ok.nonneg (List.mem_of_getElem? hp)
  obtain ⟨a, b, gl, g⟩ := h.gl p.1 h0
  have g2 : Germ (evc c) p.1 (p.2 - hs (c.1.drop i) c.2 * p.1) (hs (c.1.drop i) c.2) := by
    cases hn : c.1[i + 1]? with
    | none => exact ⟨1, by decide, fun y hy _ => by rw [h1 y hy fun q hq => by rw [hn] at hq; cases hq]; grind⟩
    | some q => exact ⟨q.1 - p.1, by have := h2 q hn; grind, fun y hy hy2 => by
        rw [h1 y hy fun q' hq => by rw [hn] at hq; cases hq; grind]; grind⟩
  rw [(g2.unique g).2]
  exact gl_slope gl
theorem reached_fine2 {c : Cv} (h : Small c) (hm : Mono (evc c)) {B : Nat} {pay l : Rat} (hp : Fine B pay) (e : reachedC c pay = some l) : Fine (B + 560) l := by
  rcases reached_cases c pay with ⟨_, z⟩ | ⟨ini, i, _, hi, z⟩
  · rw [z] at e; cases e; exact fine_zero.mono (by omega)
  · rw [z] at e
    split at e
    · cases e
    · next hne =>
      cases e
      have hg := getD_some hi
      have hpm := List.mem_of_getElem? hg
      have h0 := h.ok.slope_nonneg hm hg
      exact ((h.fc.lv _ hpm).add ((hp.sub (h.fc.py _ hpm)).div (h.slope69 hg) (by grind))).mono (by omega)
theorem back_of {c : Cv} (h : Small c) (hm : Mono (evc c)) {x : Rat} (hx : 0 ≤ x) : ∃ l, reachedC c (evc c x) = some l ∧ 0 ≤ l ∧ l ≤ x ∧ evc c l = evc c x := by
  have h0 : 0 ≤ evc c x := by
    have := hm 0 x (by grind) hx
    rw [h.ok.zero] at this; exact this
  have hs := reachedC_spec h.ok hm h0
  cases e : reachedC c (evc c x) with
  | none => rw [e] at hs; have := hs x hx; grind
  | some l =>
    rw [e] at hs
    refine ⟨l, rfl, hs.1, ?_, hs.2.1⟩
    by_cases hlt : x < l
    · have := hs.2.2 x hx hlt; grind
    · grind
end Sw
namespace Sw
open PySem PySem.Spec PyProof PyProof.Rows L2 Evl SwT
/-! ### what repr shows, and how long it is -/
structure Rp (n : Nat) (d : PyData) : Prop where
  hd : d.hasDict = false
  sh : d.showable = true
  ln : d.shown.length ≤ n
theorem Rp.mono {n m : Nat} {d : PyData} (h : Rp n d) (e : n ≤ m) : Rp m d := ⟨h.hd, h.sh, Nat.le_trans h.ln e⟩
theorem rp_nat {B k n : Nat} (h : n < 2 ^ B) (hB : B ≤ 1900) (hk : 0 < k) (hd : 2 ^ B ≤ 10 ^ k) : Rp k (.int (n : Int)) := by
  refine ⟨by simp [PyData.hasDict], ?_, ?_⟩
  · simp only [PyData.showable, decide_eq_true_eq, Int.natAbs_natCast]
    by_cases z : n = 0
    · rw [z]; decide
    · have := (Nat.log2_lt z).mpr h; omega
  · simp only [PyData.shown]
    exact numS_len hk (Nat.lt_of_lt_of_le h hd)
theorem rp_int {B k : Nat} {i : Int} (h0 : 0 ≤ i) (h : i.natAbs < 2 ^ B) (hB : B ≤ 1900) (hk : 0 < k) (hd : 2 ^ B ≤ 10 ^ k) : Rp k (.int i) := by
  have e : i = (i.natAbs : Int) := by omega
  rw [e]; exact rp_nat h hB hk hd
theorem rp_str {n : Nat} {x : Str} (hx : ∀ c ∈ x.cps.toList, c < 128) (hl : x.length ≤ n) : Rp (10 * n + 2) (.str x) := by
  refine ⟨by simp [PyData.hasDict], by simp [PyData.showable], ?_⟩
  simp only [PyData.shown]
  have := StrLaws.reprText_len x fun c hc => Nat.lt_trans (hx c hc) (by decide)
  omega
theorem hasDictAll_of : ∀ {ds : List PyData}, (∀ d ∈ ds, d.hasDict = false) → PyData.hasDictAll ds = false
  | [], _ => by simp [PyData.hasDictAll]
  | d :: ds, h => by
    simp only [PyData.hasDictAll, h d List.mem_cons_self, Bool.false_or]
    exact hasDictAll_of fun x hx => h x (List.mem_cons_of_mem _ hx)
theorem showableAll_of : ∀ {ds : List PyData}, (∀ d ∈ ds, d.showable = true) → PyData.showableAll ds = true
  | [], _ => by simp [PyData.showableAll]
  | d :: ds, h => by
    simp only [PyData.showableAll, h d List.mem_cons_self, Bool.true_and]
    exact showableAll_of fun x hx => h x (List.mem_cons_of_mem _ hx)
theorem shownAll_map : ∀ ds : List PyData, PyData.shownAll ds = ds.map PyData.shown
  | [] => by simp [PyData.shownAll]
  | d :: ds => by simp only [PyData.shownAll, List.map_cons, shownAll_map ds]
def Rps : List Nat → List PyData → Prop
  | [], [] => True
  | n :: ns, d :: ds => Rp n d ∧ Rps ns ds
  | _, _ => False
theorem rps_sum : ∀ {ns : List Nat} {ds : List PyData}, Rps ns ds → ((PyData.shownAll ds).map (·.length)).sum ≤ ns.sum ∧ (PyData.shownAll ds).length = ns.length ∧ (∀ d ∈ ds, d.hasDict = false ∧ d.showable = true)
  | [], [], _ => by simp [PyData.shownAll]
  | n :: ns, d :: ds, h => by
    obtain ⟨h1, h2, h3⟩ := rps_sum h.2
    simp only [PyData.shownAll, List.map_cons, List.sum_cons, List.length_cons]
    have := h.1.ln
    refine ⟨by omega, by omega, fun x hx => ?_⟩
    rcases List.mem_cons.mp hx with z | z
    · rw [z]; exact ⟨h.1.hd, h.1.sh⟩
    · exact h3 x z
theorem rp_tuple {ns : List Nat} {ds : List PyData} (h : Rps ns ds) : Rp (ns.sum + 2 * ns.length + 3) (.tuple ds) := by
  obtain ⟨h1, h2, h3⟩ := rps_sum h
  refine ⟨?_, ?_, ?_⟩
  · simp only [PyData.hasDict]; exact hasDictAll_of fun d hd => (h3 d hd).1
  · simp only [PyData.showable]; exact showableAll_of fun d hd => (h3 d hd).2
  · simp only [PyData.shown]
    have := tupleText_len_le (PyData.shownAll ds)
    omega
theorem rp_two {a b : Nat} {x y : PyData} (h1 : Rp a x) (h2 : Rp b y) : Rp (a + b + 7) (.tuple [x, y]) := (rp_tuple (ns := [a, b]) (ds := [x, y]) ⟨h1, h2, trivial⟩).mono (by simp only [List.sum_cons, List.sum_nil, List.length_cons, List.length_nil]; omega)
theorem rp_three {a b c : Nat} {x y z : PyData} (h1 : Rp a x) (h2 : Rp b y) (h3 : Rp c z) : Rp (a + b + c + 9) (.tuple [x, y, z]) := (rp_tuple (ns := [a, b, c]) (ds := [x, y, z]) ⟨h1, h2, h3, trivial⟩).mono (by simp only [List.sum_cons, List.sum_nil, List.length_cons, List.length_nil]; omega)
theorem rps_all {n : Nat} : ∀ {ds : List PyData}, (∀ d ∈ ds, Rp n d) → Rps (ds.map fun _ => n) ds
  | [], _ => trivial
  | d :: ds, h => ⟨h d List.mem_cons_self, rps_all fun x hx => h x (List.mem_cons_of_mem _ hx)⟩
theorem sum_const {α : Type} (n : Nat) : ∀ l : List α, (l.map fun _ => n).sum = l.length * n
  | [] => by simp
  | x :: l => by rw [List.map_cons, List.sum_cons, sum_const n l, List.length_cons, Nat.add_mul]; omega
theorem rp_tup {n m : Nat} {ds : List PyData} (h : ∀ d ∈ ds, Rp n d) (hm : ds.length ≤ m) : Rp (m * (n + 2) + 3) (.tuple ds) := by
  have h1 := rp_tuple (rps_all h)
  rw [sum_const, List.length_map] at h1
  refine h1.mono ?_
  have h2 : ds.length * (n + 2) ≤ m * (n + 2) := Nat.mul_le_mul_right _ hm
  have h3 : ds.length * (n + 2) = ds.length * n + ds.length * 2 := Nat.mul_add ..
  omega
theorem rp_lst {n m : Nat} {ds : List PyData} (h : ∀ d ∈ ds, Rp n d) (hm : ds.length ≤ m) : Rp (m * (n + 2) + 3) (.list ds) := by
  obtain ⟨h1, h2, h3⟩ := rps_sum (rps_all h)
  rw [sum_const, List.length_map] at *
  refine ⟨?_, ?_, ?_⟩
  · simp only [PyData.hasDict]; exact hasDictAll_of fun d hd => (h3 d hd).1
  · simp only [PyData.showable]; exact showableAll_of fun d hd => (h3 d hd).2
  · simp only [PyData.shown]
    have := listText_len_le (PyData.shownAll ds)
    have h2 : ds.length * (n + 2) ≤ m * (n + 2) := Nat.mul_le_mul_right _ hm
    have h3 : ds.length * (n + 2) = ds.length * n + ds.length * 2 := Nat.mul_add ..
    omega
theorem rp_fr {B k : Nat} {q : Rat} (h0 : 0 ≤ q) (h : Fine B q) (hB : B ≤ 1900) (hk : 0 < k) (hd : 2 ^ B ≤ 10 ^ k) : Rp (2 * k + 7) (fr q) :=
  (rp_two (rp_int (Rat.num_nonneg.mpr h0) h.1 hB hk hd) (rp_nat h.2 hB hk hd)).mono (by omega)
theorem pow_341 : 2 ^ 341 ≤ 10 ^ 103 := by decide +kernel
theorem pow_140 : 2 ^ 140 ≤ 10 ^ 43 := by decide
theorem pow_501 : 2 ^ 501 ≤ 10 ^ 151 := by decide +kernel
theorem pow_69 : 2 ^ 69 ≤ 10 ^ 21 := by decide
/-- a curve -/
theorem rp_cv {c : Cv} (h : Small c) (hm : Mono (evc c)) (hl : c.1.length ≤ 6046) : Rp 1950000 (cvD c) := by
  have hz := h.ok.zero
  have hpt : ∀ d ∈ c.1.map ptD, Rp 320 d := fun d hd => by
    obtain ⟨p, hp, rfl⟩ := List.mem_map.mp hd
    have h0 := h.ok.nonneg hp
    have h1 : 0 ≤ p.2 := by
      rw [← h.ok.mem hp]
      have := hm 0 p.1 (by grind) h0
      rw [hz] at this; exact this
    exact (rp_two (rp_fr h0 (h.fc.lv p hp) (by decide) (by decide) pow_140) (rp_fr h1 (h.fc.py p hp) (by decide) (by decide) pow_341)).mono (by decide)
  have hs : 0 ≤ c.2 := by
    have hi : c.1.length - 1 < c.1.length := by
      obtain ⟨⟨r, e⟩, _⟩ := h.ok
      rw [e]; simp
    have h2 := h.ok.slope_nonneg hm (getD_some hi)
    rcases hs_last (s := c.2) (getD_some hi) with ⟨q, z, _⟩ | ⟨_, z⟩
    · have := (List.getElem?_eq_some_iff.mp z).1; omega
    · rw [z] at h2; exact h2
  have h5 := rp_tup hpt (by rw [List.length_map]; exact hl)
  exact (rp_two h5 (rp_fr hs h.fc.sl (by decide) (by decide) pow_69)).mono (by decide)
/-! ### claims, webs -/
def gR : Nat → Nat
  | 0 => 220
  | n + 1 => 18 * gR n + 200
theorem gR_mono (n : Nat) : 220 ≤ gR n := by
  induction n with
  | zero => exact Nat.le_refl _
  | succ n ih => simp only [gR]; omega
theorem rp_wf {q : Rat} (h : Wf q) : Rp 49 (fr q) := by
  have h1 := h.num
  have h2 := h.n
  have h3 : 10 ^ 20 ≤ 2 ^ 67 := by decide
  have h4 := h.d
  exact (rp_fr (B := 67) (k := 21) (by have := h.pos; grind) ⟨by omega, by omega⟩ (by decide) (by decide) (by decide)).mono (by decide)
theorem rp_word {x : Str} (h : (x.cps.toList.all fun c => decide (c < 128)) = true) (hl : x.length ≤ 12) : Rp 122 (.str x) :=
  rp_str (fun c hc => by simpa using List.all_eq_true.mp h c hc) hl
mutual
theorem rp_claim {R : Nat} (hR : R ≤ 6) : ∀ {c : Claim} {n : Nat}, depth c ≤ n → OkC R c → Wr R c → leaves c ≤ 9 → Rp (gR n) (claimD c)
  | .none, n, _, _, _, _ => by
    simp only [claimD]
    refine (rp_tup (n := 122) (m := 1) (fun d hd => ?_) (Nat.le_refl _)).mono (by have := gR_mono n; omega)
    rw [List.mem_singleton.mp hd]
    exact rp_word (by decide +kernel) (by decide +kernel)
  | .due r a, n, _, o, w, _ => by
    simp only [claimD]
    simp only [OkC] at o
    have w := w.r
    exact (rp_three (a := 32) (rp_str (n := 3) (fun c hc => by simpa using List.all_eq_true.mp (show (("due" : Str).cps.toList.all fun c => decide (c < 128)) = true by decide +kernel) c hc) (by decide +kernel)) (rp_nat (B := 10) (k := 4) (by omega) (by decide) (by decide) (by decide)) (rp_wf w.2)).mono (by have := gR_mono n; omega)
  | .shares a, n, _, o, w, _ => by
    simp only [claimD]
    simp only [Wr] at w
    exact (rp_two (rp_word (by decide +kernel) (by decide +kernel)) (rp_wf w)).mono (by have := gR_mono n; omega)
  | .option a p, n, _, o, w, _ => by
    simp only [claimD]
    simp only [Wr] at w
    exact (rp_three (a := 62) (rp_str (n := 6) (fun c hc => by simpa using List.all_eq_true.mp (show (("option" : Str).cps.toList.all fun c => decide (c < 128)) = true by decide +kernel) c hc) (by decide +kernel)) (rp_wf w.1) (rp_wf w.2)).mono (by have := gR_mono n; omega)
  | .capped c a, 0, hd, _, _, _ => by simp [depth] at hd
  | .capped c a, n + 1, hd, o, w, l => by
    simp only [claimD]
    simp only [depth] at hd
    simp only [OkC] at o
    simp only [Wr] at w
    simp only [leaves] at l
    exact (rp_three (rp_word (by decide +kernel) (by decide +kernel)) (rp_claim hR (n := n) (by omega) o.1 w.1 l) (rp_wf w.2)).mono (by simp only [gR]; omega)
  | .sum cs, 0, hd, _, _, _ => by simp [depth] at hd
  | .sum cs, n + 1, hd, o, w, l => by
    simp only [claimD]
    simp only [depth] at hd
    simp only [OkC] at o
    simp only [Wr] at w
    simp only [leaves] at l
    have h1 := rp_claims hR (n := n) (by omega) o.2 w.2.2 l
    have h2 := leavess_len o.2
    have h3 := rp_tup h1 (m := 9) (by rw [claimsD_eq, List.length_map]; omega)
    exact (rp_two (rp_word (by decide +kernel) (by decide +kernel)) h3).mono (by simp only [gR]; omega)
theorem rp_claims {R : Nat} (hR : R ≤ 6) : ∀ {cs : List Claim} {n : Nat}, depths cs ≤ n → OkCs R cs → Wrs R cs → leavess cs ≤ 9 → ∀ d ∈ claimsD cs, Rp (gR n) d
  | [], n, _, _, _, _, d, h => by simp only [claimsD] at h; cases h
  | c :: cs, n, hd, o, w, l, d, h => by
    simp only [depths] at hd
    simp only [OkCs] at o
    simp only [Wrs] at w
    simp only [leavess] at l
    simp only [claimsD] at h
    rcases List.mem_cons.mp h with z | z
    · rw [z]; exact rp_claim hR (by omega) o.1 w.1 (by omega)
    · exact rp_claims hR (by omega) o.2 w.2 (by omega) d z
end
theorem Dc.rp {R : Nat} (hR : R ≤ 6) {c : Claim} (h : Dc R 2 c) : Rp 75280 (claimD c) := (rp_claim hR h.dp h.ok h.wr (by have := h.lv; have e : 3 ^ 2 = 9 := rfl; omega)).mono (by decide)
theorem rp_nm {x : Str} (h : Nm x) : Rp 122 (.str x) := rp_str (fun c hc => by have := h.az c hc; omega) h.l1
theorem Fk.rp {f : Firm} (h : Fk f) : Rp 1510000 (firmD f) := by
  have hh : ∀ d ∈ f.holds.map holdD, Rp 301300 d := fun d hd => by
    obtain ⟨x, hx, rfl⟩ := List.mem_map.mp hd
    obtain ⟨h1, h2, h3, h4, h5⟩ := h.hs x hx
    unfold holdD
    exact (rp_two (rp_nm (nm_all _ h1)) (rp_tup (m := 4) (n := 75280) (fun d hd => by
      obtain ⟨c, hc, rfl⟩ := List.mem_map.mp hd
      exact (h3 c hc).rp h.rk) (by rw [List.length_map]; exact h5))).mono (by decide)
  unfold firmD
  exact (rp_three (rp_nm (nm_all _ (List.mem_append_left _ h.nm))) (rp_nat (B := 10) (k := 4) (by have := h.rk; omega) (by decide) (by decide) (by decide)) (rp_tup hh (m := 5) (by rw [List.length_map]; exact h.h5))).mono (by decide)
theorem Wk.rp {W : List Firm} (h : Wk W) : Rp 4600000 (.tuple (W.map firmD)) := (rp_tup (m := 3) (n := 1510000) (fun d hd => by
  obtain ⟨f, hf, rfl⟩ := List.mem_map.mp hd
  exact (h.fk f hf).rp) (by rw [List.length_map]; exact h.l3)).mono (by decide)
theorem Fk.rp_cvs {f : Firm} (h : Fk f) : Rp 9800000 (.list ((cvs f).map cvD)) := (rp_lst (m := 5) (n := 1950000) (fun d hd => by
  obtain ⟨c, hc, rfl⟩ := List.mem_map.mp hd
  obtain ⟨x, _, rfl, o⟩ := h.cvs_mem hc
  exact rp_cv o.small o.monoe o.ln) (by rw [List.length_map]; exact h.cvs_len.1)).mono (by decide)
theorem rp_pays {qs : List Rat} (h : ∀ q ∈ qs, 0 ≤ q ∧ Fine 501 q) (hl : qs.length ≤ 10) : Rp 4000 (.list (qs.map fr)) := (rp_lst (m := 10) (n := 309) (fun d hd => by
  obtain ⟨q, hq, rfl⟩ := List.mem_map.mp hd
  exact rp_fr (h q hq).1 (h q hq).2 (by decide) (by decide) pow_501) (by rw [List.length_map]; exact hl)).mono (by decide)
end Sw
/-! calls under which no repr is under way -/
namespace Sw
open PySem PySem.Spec PyProof.Rows L2 Evl
/-- a def's promise where no repr is under way -/
structure FnG (P : Program) (w : World) (K : PySem.W.Frag) (mg : Str → Option Value) (base : Heap) (k : Nat) (f : Addr) (fd : FuncData) (ps : List Str) (sp : Sp) : Prop where
  ln : ∀ vs H Q E, sp vs H Q E → vs.length = ps.length
  go : ∀ (A : Around) (outer : List Env) (s : Shared) (H : Hp) (args : Args) (us : List Value) (vs : List V) (Q : VK) (E : XK), A.guards = some [] → Room k A → Env0 P w K mg base A outer s H →
    BindsTo s fd args (ps.zip us) → Vals vs us → sp vs H Q E → codeAny (model P w) A (.call (.ref f) args) (CR CX0 outer P w H s Q E) s
structure CalG (P : Program) (w : World) (K : PySem.W.Frag) (mg : Str → Option Value) (base : Heap) (x : Str) (k : Nat) (ps : List Str) (sp : Sp) : Prop where
  ex : ∃ (f : Addr) (fd : FuncData), FnG P w K mg base k f fd ps sp ∧ mg x = some (.ref f) ∧ PySem.W.keepIn K (.ref f) = true ∧ Binds K fd ps []
section
variable {X : Cx} {x : Str} {p pos : Pos} {e : Expr} {es : List Expr} {t : TA} {k : Nat} {ps : List Str} {sp : Sp}
theorem pe_ccG (C : CalG X.prog X.w X.K X.mg X.base x k ps sp) (g : X.A.guards = some []) (hr : Room k X.A) (hg : Gl X x) (ha : PA X (e :: es) t) (hd : (x == ("__debug__" : Str)) = false := by decide)
    (he : starEach (e :: es) X.env = (false, eval e X.env) :: starEach es X.env := by rfl) (hpl : (backTo pos (starEach es X.env)).any (·.1) = false := by rfl) : PE X (.Call (.Name x p) (e :: es) [] pos) (tCall sp [] E0 t) := by
  obtain ⟨f, fd, F, hm, hk, hb⟩ := C.ex
  constructor
  intro pins s σ H Q I h
  apply wpAny_Call_Name_kw
  refine ld_glob I hg hm ?_ hd
  apply PySem.W.callWith_K (h₀ := X.base) I.ok.mod.kin hk ?_ he hpl
  apply thn (ha.run pos pins s σ H _ I h)
  rintro us s1 ⟨vs, H1, I1, r, q⟩
  refine ⟨I1.kIn, ?_⟩
  have r2 : Vals (vs ++ []) us := by rw [List.append_nil]; exact r
  have hlen := F.ln _ _ _ _ q
  rw [r2.length] at hlen
  have hbd := hb s1 us I1.kIn (by rw [List.append_nil]; exact hlen)
  rw [List.append_nil] at hbd
  refine wpAny_call (codeAny_mono (F.go X.A X.stack s1 H1 ⟨us, []⟩ us _ Q E0 g hr I1.env0 hbd r2 q) ?_)
  intro r' s' hq
  match r', hq with
  | .ok (.ret u), hq => exact I1.after hq
end
section
variable {w : World} {K : PySem.W.Frag} {mg : Str → Option Value} {P : Program} {base : Heap}
/-- a def at the top from its body -/
theorem Tx.calG (T : Tx w K mg) {x : Str} {d : He.DefD} {k : Nat} {N ps : List Str} {sp : Sp} (i j : Nat) (hd : SwT.fn[i]? = some d) (hx : SwT.fa[j]? = some (He.Fa.glo x)) (h1 : d.at_ = (x, none)) (h2 : d.dfl = []) (h3 : d.kwd = [])
    (S : FnScope N ps d.scope) (hb : ∀ (kV doc pm : Value) (an : Option Addr) (cdv ct : Value) (us : List Value), us.length = ps.length → bindArgs (PySem.W.fnOf d.name d.qual d.params d.body d.scope .none kV doc pm an cdv ct) ⟨us, []⟩ = pure (ps.zip us))
    (len : ∀ vs H Q E, sp vs H Q E → vs.length = ps.length)
    (hbody : ∀ (f : Addr) (cdv : Value) (A : Around) (outer : List Env) (s : Shared) (H : Hp) (vs : List V) (Q : VK) (E : XK), (A.deeper (envOfC d.qual d.scope s.heap.objs.size f cdv)).guards = some [] → Room k (A.deeper (envOfC d.qual d.scope s.heap.objs.size f cdv)) → sp vs H Q E →
      ∃ t, PSs (cxOf CX0 P w K mg base N d.qual d.scope f cdv A outer s H E).nox d.body t ∧ t { nx := fun _ H' => Q .non H', rt := Q } (start N vs) H) : CalG P w K mg base x (k + 1) ps sp := by
  obtain ⟨hp, X, G, c⟩ := T.ex
  obtain ⟨fd, F⟩ := c.t.d.def_ i hd
  have hm := He.glo_ok X G (c.t.d.fact j hx)
  have e1 : d.dvs K = [] := by unfold He.DefD.dvs; rw [h2]; rfl
  have e2 : d.kws K = [] := by unfold He.DefD.kws; rw [h3]; rfl
  have e3 : He.fAd K d.at_ = He.ga K x := by rw [h1]; rfl
  rw [e1, e2, e3] at F
  refine ⟨He.ga K x, fd, ⟨len, ?_⟩, hm, F.kp, F.bindsN hb⟩
  intro A outer s H args us vs Q E g hr e0 hbd r hsp
  obtain ⟨oc, od, dV, kV, doc, pm, an, cdv, ct, osl, rfl, lk, hcd, _, _⟩ := F.ex
  have hold : ∀ b o, base.get? b = some o → s.heap.get? b = some o := fun b o z => (e0.bs b o z).1
  have inK : K.In s.heap := e0.mod.kin.keeps hold
  have pars : ∀ y ∈ ps.zip us, d.scope.names.lookup y.1 = some .local ∨ (d.scope.names.lookup y.1 = some .cell ∧ ((cellsFrom (s.heap.objs.size + 1) d.scope.names []).lookup y.1).isSome = true) := by
    rintro ⟨n, v⟩ hy
    cases S.par n (List.of_mem_zip hy).1 with
    | inl q => exact .inl q
    | inr q => exact .inr ⟨q, PySem.W.cellsFrom_some _ _ _ (.inl q)⟩
  apply codeAny_call_function hr.depth (inK _ _ lk) rfl S.co S.gen rfl (PySem.W.codeRec_of inK hcd)
  apply hbd
  refine wpAny_newFunctionEnv_cells S.kind pars ?_
  rintro env rfl s1 xx
  refine ⟨(e0.mod.nolimit.keeps hold).keeps xx.toInCall.keep, codeAny_func ?_⟩
  obtain ⟨t, ht, hq⟩ := hbody (He.ga K x) cdv A outer s H vs Q E g (hr.deeper _) hsp
  have I := inv_start (CX := CX0) (E := E) S hr.hd e0 (len _ _ _ _ hsp) r xx
  apply wpAny_mono ((PSs.nox ht).run [] s1 (start N vs) H _ I hq)
  · intro fl s' hs
    match fl, hs with
    | .ret u, ⟨v, σ', H', J, rv, q⟩ => exact ⟨v, H', J.os, J.bare, J.base, J.hok, rv, q⟩
    | .next, ⟨σ', H', J, q⟩ => exact ⟨V.non, H', J.os, J.bare, J.base, J.hok, rfl, q⟩
    | .brk, ⟨_, _, _, q⟩ => exact q.elim
    | .cont, ⟨_, _, _, q⟩ => exact q.elim
  · exact fun _ _ z => z
end
/-! ### repr of data -/
def rRepr (K : PySem.W.Frag) (vs : List V) (H : Hp) (Q : VK) : Prop := ∃ a d, vs = [.ref a] ∧ Dp K H (.ref a) d ∧ d.hasDict = false ∧ d.showable = true ∧ d.depth ≤ 50 ∧ d.shown.length ≤ sizeLine ∧ Q (.str d.shown) H
theorem cr_repr {X : Cx} (g : X.A.guards = some []) (hu : X.A.units + 65 < cLine) : CallR X (.builtin "repr") (rRepr X.K) := by
  intro pins s σ H xs us Q I r h
  obtain ⟨a, d, rfl, hd, hn, hs, hdp, hz, q⟩ := h
  obtain ⟨u, rfl, ru⟩ := vals1 r
  obtain ⟨as, rd⟩ := Dp.reads I d _ u hd ru
  obtain rfl : u = Value.ref a := ru
  exact repr_of_reads' rd hs (PyData.noDict_hsm hn) g (by omega) (fun _ _ z => z) (fun h' v tk hk => ⟨.str d.shown, H, I.kept hk, ⟨v, rfl⟩, q⟩) hz
/-! ### the law, called from outside -/
theorem lawG {P : Program} {w : World} {K : PySem.W.Frag} {mg mb : Str → Option Value} {k : Nat} {fa a : Addr} {x : Str} {sp : Sp} {s1 : Shared} {vs : List Value} {ns : List Int}
    (KX : K.In s1.heap) (hns : s1.heap.Ns mainGlobals mg) (hb : s1.heap.Ns builtinsNs mb) (hbb : ∀ x : Str, x ≠ "__name__" → mb x = bootBuiltins x) (hlim : s1.heap.NoLimit) (hg : s1.gens = #[])
    (ha : s1.heap.get? a = some { cls := .type "list", data := .seq vs.toArray }) (hi : IntsAre vs ns) (hl : ns.length ≤ sizeLine) (hr : Room k callerA)
    (F : ∀ base : Heap, K.In base → base.Ns mainGlobals mg → ∃ fd, FnG P w K mg base k fa fd [x] sp ∧ Binds K fd [x] [])
    (hsp : ∀ H : Hp, SqL K H a (ns.map V.int) → sp [.ref a] H (fun v _ => v = .bl true) E0) :
    codeAny (model P w) callerA (.call (.ref fa) ⟨[.ref a], []⟩) (fun r s' => r = .ok (.ret (.bool true)) ∧ OldK s1.heap s'.heap ∧ s'.os = s1.os ∧ AllBare s'.gens) s1 := by
  have bed : ∃ H : Hp, Only H ∧ SqL K H a (ns.map V.int) ∧ HOk P w H s1.heap ∧ ∀ b, H b ≠ none → b = a ∧ K.lookup a = none := by
    have lv := hi.length
    have rv := vals_ints hi
    match hk : K.lookup a with
    | some o =>
      have z := KX a o hk
      rw [ha] at z; cases z
      exact ⟨fun _ => none, fun _ => .inl rfl, .inr ⟨_, vs.toArray, _, hk, rfl, rfl, rfl, by rw [List.size_toArray, lv]; exact hl, by simpa using rv⟩, (fun b u z => nomatch z), fun b z => absurd rfl z⟩
    | none =>
      have at_a : ∀ {b : Addr} {u : HO}, (if b = a then some (HO.frz { cls := .type "list", data := .seq vs.toArray } (.lst (ns.map V.int))) else none) = some u → b = a ∧ u = .frz { cls := .type "list", data := .seq vs.toArray } (.lst (ns.map V.int)) := by
        intro b u z
        split at z
        · next hb => exact ⟨hb, (Option.some.inj z).symm⟩
        · cases z
      refine ⟨fun b => if b = a then some (.frz { cls := .type "list", data := .seq vs.toArray } (.lst (ns.map V.int))) else none, fun b => ?_, .inl (.inr ⟨{ cls := .type "list", data := .seq vs.toArray }, if_pos rfl⟩), fun b u z => ?_, fun b z => ?_⟩
      · dsimp only
        split
        · exact .inr ⟨_, _, rfl⟩
        · exact .inl rfl
      · obtain ⟨rfl, rfl⟩ := at_a z
        exact ⟨ha, by rw [List.length_map]; exact hl, vs, _, rv, ha⟩
      · obtain ⟨u, hu⟩ := Option.ne_none_iff_exists'.mp z
        exact ⟨(at_a hu).1, rfl⟩
  obtain ⟨H, hO, hS, hok, hA⟩ := bed
  have free : ∀ {b : Addr} {o : Obj} {es : Array DictEntry} {n : Nat}, s1.heap.get? b = some o → o.data = .dict es n → H b = none := by
    intro b o es n z dz
    refine Option.eq_none_iff_forall_not_mem.mpr fun u hu => ?_
    have hba := (hA b (by rw [hu]; exact nofun)).1
    rw [hba, ha] at z; cases z; cases dz
  have ns : ∀ {b : Addr} {m : Str → Option Value}, s1.heap.Ns b m → (hidT s1.heap H).Ns b m := fun ⟨o, es, ep, z, dz, r⟩ => ⟨o, es, ep, hidT_get z (free z dz), dz, r⟩
  have inK : K.In (hidT s1.heap H) := fun b o z => hidT_get (KX b o z) (Option.eq_none_iff_forall_not_mem.mpr fun u hu => by
    obtain ⟨rfl, h2⟩ := hA b (by rw [hu]; exact nofun)
    rw [h2] at z; cases z)
  have lim : (hidT s1.heap H).NoLimit := let ⟨mc, h1, h2⟩ := hlim; ⟨mc, ns h1, h2⟩
  have none_in : ∀ {b : Addr}, b ∉ frs [] := fun {b} z => nomatch (show b ∈ ([] : List Addr) from z)
  have e0 : Env0 P w K mg (hidT s1.heap H) callerA [] s1 H := ⟨rfl, ⟨inK, ns hns, ⟨mb, ns hb, hbb⟩, lim⟩, fun b o z => of_hidT z, Nat.le_of_eq (hidT_size _ _), trivial, fun b z => absurd z none_in, hok, .of_eq hg⟩
  obtain ⟨fd, Fg, hbind⟩ := F _ inK (ns hns)
  apply codeAny_mono (Fg.go callerA [] s1 H ⟨[.ref a], []⟩ [.ref a] [.ref a] _ _ rfl hr e0 (hbind s1 [.ref a] KX rfl) (.cons rfl .nil) (hsp H hS))
  intro r s' h
  match r, h with
  | .ok (.ret u), ⟨v, H', os, bare, un, hok', rv, q⟩ =>
    cases q
    cases rv
    refine ⟨rfl, OldK.of_keep fun b o z => ?_, os, bare⟩
    rcases hO b with n | ⟨ob, xs, y⟩
    · exact un.keep b o z n none_in nofun
    · have h1 := (hok b _ y).1
      have h2 := (hok' b _ (un.frzs b ob _ y)).1
      rw [z] at h1; cases h1
      exact h2
end Sw
namespace Sw
open PySem PySem.Spec PyProof PyProof.Rows L2 Evl SwT
/-- data that repr shows -/
structure Al (d : PyData) : Prop where
  s : Sh 50 d
  r : Rp 16000000 d
  k : (∃ ds, d = .tuple ds) ∨ ∃ ds, d = .list ds
section
variable {K : PySem.W.Frag} {σ : L2.St} {H H' : Hp} {ta tb te : TE} {d : PyData}
theorem ed_repr (ha : Ed K ta σ H d) (h : Al d) : Ed K (tCB (rRepr K) (tCons ta tNil)) σ H (.str d.shown) :=
  ed_cb (eda_cons ha eda_nil) fun vs H1 Q hv q => by
    obtain ⟨v, rfl, hd⟩ := dps_one hv
    have hs : d.shown.length ≤ sizeLine := Nat.le_trans h.r.ln (by decide)
    rcases h.k with ⟨ds, rfl⟩ | ⟨ds, rfl⟩
    · obtain ⟨a, us, rfl, _, _⟩ := dp_tup hd
      exact ⟨a, _, rfl, hd, h.r.hd, h.r.sh, h.s.2, hs, q _ H1 (Ex.refl H1) (.str _)⟩
    · obtain ⟨a, us, rfl, _, _⟩ := dp_lst hd
      exact ⟨a, _, rfl, hd, h.r.hd, h.r.sh, h.s.2, hs, q _ H1 (Ex.refl H1) (.str _)⟩
theorem ed_eqStr {x : Str} (ha : Ed K ta σ H (.str x)) (hb : Ed K tb σ H (.str x)) : Ed K (tOp rEq ta tb) σ H (.bool true) :=
  ed_op ha hb fun a b H1 Q d1 d2 q => by
    obtain rfl := dp_str d1
    obtain rfl := dp_str d2
    refine ⟨rfl, ?_⟩
    rw [decide_eq_true rfl]
    exact q _ H1 (Ex.refl H1) (.bl _)
end
section
variable {P : Program} {w : World} {K : PySem.W.Frag} {mg : Str → Option Value} {base : Heap}
theorem sc__law_alike : FnScope ["_law_found", "_law_due"] ["_law_found", "_law_due"] (defScope s__law_alike) := ⟨rfl, rfl, rfl, by decide +kernel, rfl, by decide +kernel, by decide +kernel⟩
abbrev Cf__law_alike (P w K mg base) := CalG P w K mg base "_law_alike" 1 ["_law_found", "_law_due"] (spF K (fun d : PyData => [d, d]) Al fun _ => .bool true)
theorem ok__law_alike (T : Tx w K mg) : Cf__law_alike P w K mg base := by
  refine T.calG (d := d__law_alike) 66 61 rfl rfl rfl rfl rfl sc__law_alike (fun _ _ _ _ _ _ us hl => match us, hl with | [_, _], _ => rfl) (spF_len fun _ => rfl) fun f cdv A outer s H vs Q E g hr h => ⟨_, (pss_one (ps_ret (pe_and (pe_cmpR (op_eqD hr.units) (pv 0) (pv 1) (nomark _)) (pe_one (pe_cmpR op_eq (pe_callB (cr_repr g (hud_of hr)) (by rfl) T.f_repr (by decide +kernel) (pa_cons (pv 0) pa_nil)) (pe_callB (cr_repr g (hud_of hr)) (by rfl) T.f_repr (by decide +kernel) (pa_cons (pv 1) pa_nil)) (nomark _)))))), ?_⟩
  obtain ⟨d, hd, ha, k⟩ := h
  obtain ⟨v, u, rfl, h1, h2⟩ := dps_two hd
  exact ret_ed (K := K) (d := .bool true) ((ed_andV (a := true) (b := true) (ed_eq (ed_var rfl h1) (ed_var rfl h2) (ha.s.mono (by decide)) (ha.s.mono (by decide)) (by simp)) fun _ => ed_eqStr (ed_repr (ed_var rfl h1) ha) (ed_repr (ed_var rfl h2) ha)).cast rfl) fun z H7 e7 d7 => k z H7 e7 d7
end
end Sw
set_option maxHeartbeats 8000000
namespace Sw
open PySem PySem.Spec PyProof PyProof.Rows L2 Evl SwT
theorem Bag.w {H H' : Hp} {p c : Addr} {r : Nat} (e : ExW H H') (h : Bag H p c r) : Bag H' p c r := by
  obtain ⟨b0, b1, b2, cs, hB, h2, h3⟩ := h
  exact ⟨b0, b1, b2, cs, ⟨e.o _ _ (fun _ _ _ z => by cases z) hB.at_, hB.ne, e.o _ _ (fun _ _ _ z => by cases z) hB.hc, hB.ln⟩, h2, h3⟩
abbrev spRead (K : PySem.W.Frag) : Sp := fun vs H Q _ => ∃ x : List Ln × List Firm, DpAll K H vs [.str (webT x.1)] ∧ (Good [] false x.1 x.2 ∧ x.1 ≠ [] ∧ (webT x.1).length ≤ 1000000) ∧ ∀ v H', ExW H H' → Dp K H' v (.tuple (x.2.map firmD)) → Q v H'
section
variable {K : PySem.W.Frag} {σ : L2.St} {H H' : Hp} {ta tb te : TE} {ts : TA} {tt tu : TT} {ds es : List PyData} {d d1 : PyData} {D : Ends} {p c q : Addr} {m n i j : Nat} {P : PyData → Prop} {Ps : List PyData → Prop}
theorem read_ed {ls : List Ln} {W : List Firm} (h : Ed K te σ H (.str (webT ls))) (hg : Good [] false ls W ∧ ls ≠ [] ∧ (webT ls).length ≤ 1000000) (k : ∀ v H', ExW H H' → Dp K H' v (.tuple (W.map firmD)) → D.nx (σ.set i (some v)) H') : tAsg (tCall (spRead K) [] E0 (tCons te tNil)) (gName i) D σ H :=
  h.run fun v H1 e1 d1 => ⟨(ls, W), .cons d1 .nil, hg, fun u H2 e2 d2 => k u H2 ((Ex.w e1).trans e2) d2⟩
theorem egl_callBL {α : Type} {k : Nat} {args : α → List PyData} {pre : α → Prop} {res : α → List PyData → Prop} (x : α) (hs : σ[i]? = some (some (.ref p))) (ha : ∀ H1, ExG p H H1 → EdA K ts σ H1 (args x)) (hp : pre x) (hn : ∀ ds, res x ds → nols ds = true) : EgL K p c k (tCall (spBL K k args pre res) [] E0 (tCons (tVar i) ts)) σ H (res x) := fun H1 r e B Q z =>
  ⟨_, hs, (ha H1 e).run fun vs H2 e2 d2 => ⟨p, c, r, vs, x, by simp, B.mono e2, d2, hp, fun q H3 ds rd b3 B3 hn3 l3 => z q H3 ds rd (hn ds rd) ((Ex.g e2).trans (b3.g (B.mono e2))) B3 (fresh_back e2 hn3) l3⟩⟩
/-- a for over a new list out of a bag -/
theorem for_gl {g : TG} {tb : TS} (B : Bag H p c (j + n)) (he : EgL K p c n ta σ H Ps) (k : ∀ q H1 ds, Ps ds → nols ds = true → ExG p H H1 → Bag H1 p c j → H q = none → Lm K H1 q ds → ∃ Pv : Nat → L2.St → Hp → Prop, Pv 0 σ H1 ∧ (∀ i σ' H', i ≤ ds.length → Pv i σ' H' → Lm K H' q ds) ∧
      (∀ i d u σ' H', ds[i]? = some d → Dp K H' u d → Pv i σ' H' → g u σ' H' fun σ2 H2 => tb { D with nx := Pv (i + 1), ct := Pv (i + 1), bk := D.nx } σ2 H2) ∧ (∀ σ' H', Pv ds.length σ' H' → D.nx σ' H')) : tFor (iList K ta) g tb D σ H :=
  he H j (ExG.refl H) B _ fun q H1 ds pd nd e1 B1 hq l1 => by
  obtain ⟨Pv, h0, hst, hs, hd⟩ := k q H1 ds pd nd e1 B1 hq l1
  refine ⟨q, rfl, ⟨_, sq_of l1.choose_spec.1⟩, fun i m σ' H' => m = ds.length - i ∧ i ≤ ds.length ∧ Pv i σ' H', ⟨ds.length, by simp, Nat.zero_le _, h0⟩, ?_⟩
  rintro i m σ' H' ⟨rfl, hi, hp⟩
  obtain ⟨us, s2, a2⟩ := hst i σ' H' hi hp
  by_cases hlt : i < ds.length
  · obtain ⟨v, v1, v2⟩ := dps_get a2 (List.getElem?_eq_getElem hlt)
    refine .inr ⟨⟨us, v, sq_of s2, v1⟩, Pv (i + 1), fun σ2 H2 z => ⟨ds.length - (i + 1), by omega, rfl, hlt, z⟩, fun y H2 hy => ?_⟩
    obtain ⟨rfl, hy⟩ := hy
    have ey := hy us (sq_of s2)
    rw [v1] at ey
    cases ey
    exact hs i _ v σ' H2 (List.getElem?_eq_getElem hlt) v2 hp
  · have : i = ds.length := by omega
    subst this
    exact .inl ⟨⟨us, sq_of s2, by rw [dps_len a2]; exact Nat.le_refl _⟩, hd σ' H' hp⟩
theorem edP_tupleL (h : EdLP K te σ H Ps) : EdP K (tCB (fun xs H Q => ∃ p ys, xs = [.ref p] ∧ ((SqL K H p ys ∧ ∀ l, H l = none → Q (.ref l) (upd H l (.tup ys))) ∨ (SqT K H p ys ∧ Q (.ref p) H))) (tCons te tNil)) σ H fun d => ∃ es, Ps es ∧ d = .tuple es := fun H1 e Q k =>
  h H1 e _ fun q H2 es pe e2 hn l2 => by
    obtain ⟨us, u1, u2⟩ := l2
    exact ⟨q, us, rfl, .inl ⟨sq_of u1, fun l hl => k _ _ (.tuple es) ⟨es, pe, rfl⟩ (e2.trans (Ex.new hl)) (.tup (st_of upd_same) (dps_mono (Ex.new hl) u2))⟩⟩
theorem ed_callP {α : Type} {args : α → List PyData} {pre : α → Prop} {res : α → PyData} (h1 : Ed K ta σ H d1) (h2 : EdP K tb σ H P) (hx : ∀ d2, P d2 → ∃ x, args x = [d1, d2] ∧ pre x ∧ res x = d) : Ed K (tCall (spF K args pre res) [] E0 (tCons ta (tCons tb tNil))) σ H d := fun H1 e Q q =>
  h1 H1 e _ fun v H2 e2 d2 => h2 H2 (e.trans e2) _ fun u H3 d' pd e3 d3 => by
    obtain ⟨x, x1, x2, x3⟩ := hx d' pd
    exact ⟨x, by rw [x1]; exact .cons (dp_mono e3 d2) (.cons d3 .nil), x2, fun v' H4 e4 d4 => q v' H4 ((e2.trans e3).trans e4) (by rw [← x3]; exact d4)⟩
end
theorem tids_of {R : Nat} : ∀ {cs : List Claim} {es : List PyData}, Paired (fun c d => ∃ r, Tid c r ∧ NN r ∧ d = claimD r) cs es → (∀ c ∈ cs, Wc R c) → ∃ rs : List Claim, es = rs.map claimD ∧ rs.length = cs.length ∧ (∀ r ∈ rs, Wc R r) ∧ rs.map (curveC R) = cs.map (curveC R)
  | [], _, .nil, _ => ⟨[], rfl, rfl, fun _ h => (by cases h), rfl⟩
  | c :: cs, _, .cons h t, hw => by
    obtain ⟨r, h1, h2, rfl⟩ := h
    obtain ⟨rs, rfl, e1, e2, e3⟩ := tids_of t fun x hx => hw x (List.mem_cons_of_mem _ hx)
    have hc := hw c List.mem_cons_self
    refine ⟨r :: rs, rfl, by rw [List.length_cons, List.length_cons, e1], fun x hx => ?_, by rw [List.map_cons, List.map_cons, e3, tid_curve h1 hc.ok]⟩
    rcases List.mem_cons.mp hx with z | z
    · rw [z]; exact ⟨h1.ok R hc.ok, Rat.le_trans (h1.mg R hc.ok) hc.m, Nat.le_trans (h1.lv R hc.ok) hc.l, Nat.le_trans h1.dp hc.d⟩
    · exact e2 x z
theorem Wk.tlen {W : List Firm} (h : Wk W) : (webT (linesOf W)).length ≤ 1000000 := by
  have hl : ∀ y ∈ (linesOf W).map lnT, y.length ≤ 4000 := fun y hy => by
    obtain ⟨x, hx, rfl⟩ := List.mem_map.mp hy
    obtain ⟨f, hf, hx⟩ := List.mem_flatMap.mp hx
    have k := h.ok
    have hnr := numS_len (n := f.ranks) (k := 20) (by decide) (by have := k.rk f hf; omega)
    rcases List.mem_cons.mp hx with rfl | hx
    · rw [← firm_text, cat_len, cat_len, cat_len]
      have := (k.nm f hf).l1
      show 5 + f.name.length + 1 + _ ≤ 4000
      omega
    · obtain ⟨h, hh, hx⟩ := List.mem_flatMap.mp hx
      rcases List.mem_cons.mp hx with rfl | hx
      · rw [← held_text, cat_len]
        have := (k.hn f hf h hh).l1
        show 5 + h.1.length ≤ 4000
        omega
      · obtain ⟨c, hc, rfl⟩ := List.mem_map.mp hx
        rw [← as_text, cat_len]
        have := (k.cl f hf h hh c hc).tlen (k.rk f hf)
        show 3 + _ ≤ 4000
        omega
  have h1 := join_len (sep := "\n") hl rfl
  rw [List.length_map] at h1
  have h2 := h.lines
  have h3 : (linesOf W).length * 4000 ≤ 78 * 4000 := Nat.mul_le_mul_right _ h2
  unfold webT
  omega
theorem Fk.ok {f : Firm} (h : Fk f) : FirmOk f := ⟨(nm_all _ (List.mem_append_left _ h.nm)).ok, fun x hx => ⟨(nm_all _ (h.hs x hx).1).ok, fun c hc => ((h.hs x hx).2.2.1 c hc).dp⟩⟩
theorem Wk.al {W : List Firm} (h : Wk W) : Al (.tuple (W.map firmD)) := ⟨sh_tup fun d hd => by
  obtain ⟨f, hf, rfl⟩ := List.mem_map.mp hd
  exact (sh_firm (h.fk f hf).ok).mono (by decide), h.rp.mono (by decide), .inl ⟨_, rfl⟩⟩
theorem Fk.al {f : Firm} (h : Fk f) : Al (.list ((cvs f).map cvD)) := ⟨sh_lst fun d hd => by
  obtain ⟨c, hc, rfl⟩ := List.mem_map.mp hd
  exact sh_cv (n := 45), h.rp_cvs.mono (by decide), .inr ⟨_, rfl⟩⟩
theorem al_pays {qs : List Rat} (h : ∀ q ∈ qs, 0 ≤ q ∧ Fine 501 q) (hl : qs.length ≤ 10) : Al (.list (qs.map fr)) := ⟨sh_lst fun d hd => by
  obtain ⟨q, hq, rfl⟩ := List.mem_map.mp hd
  exact sh_fr (n := 48), (rp_pays h hl).mono (by decide), .inr ⟨_, rfl⟩⟩
/-- what is paid at a level -/
structure Pq (f : Firm) (x : Rat) : Prop where
  each : (cvs f).map (fun c => evc c x) = f.holds.map fun h => maxP f.ranks h.2 x
  whole : evc (addedUp (cvs f)) x = rsum (f.holds.map fun h => maxP f.ranks h.2 x)
  fine : ∀ q ∈ f.holds.map (fun h => maxP f.ranks h.2 x) ++ [evc (addedUp (cvs f)) x], 0 ≤ q ∧ Fine 501 q
theorem Fk.pq {f : Firm} (h : Fk f) {x : Rat} (hx : Lv x) : Pq f x := by
  have e1 : (cvs f).map (fun c => evc c x) = f.holds.map fun h => maxP f.ranks h.2 x := by
    unfold cvs
    rw [List.map_map]
    exact List.map_congr_left fun y hy => (h.oc hy).evc hx.1
  have w := h.wo
  refine ⟨e1, by rw [w.is_.evc hx.1]; unfold sumOf; rw [e1], fun q hq => ?_⟩
  have pos : ∀ {c : Cv}, Small c → Mono (evc c) → 0 ≤ evc c x := fun s m => by
    have := m 0 x (by grind) hx.1
    rw [s.ok.zero] at this; exact this
  rcases List.mem_append.mp hq with z | z
  · rw [← e1] at z
    obtain ⟨c, hc, rfl⟩ := List.mem_map.mp z
    obtain ⟨y, _, rfl, o⟩ := h.cvs_mem hc
    exact ⟨pos o.small o.monoe, o.small.val hx.1 hx.2⟩
  · rw [List.mem_singleton.mp z]
    exact ⟨pos w.small w.mono, w.small.val hx.1 hx.2⟩
def spLaw (K : PySem.W.Frag) : Sp := fun vs H Q _ => ∃ (l : Addr) (ns : List Int), vs = [.ref l] ∧ SqL K H l (ns.map V.int) ∧ ∀ H', Q (.bl true) H'
section
variable {P : Program} {w : World} {K : PySem.W.Frag} {mg : Str → Option Value} {base : Heap}
theorem sc_law : FnScope ["_law_script", "_law_bag_here", "_law_web_here", "_law_read", "_law_name", "_law_ranks", "_law_holdings", "_law_curves", "_law_again", "_law_whole", "_law_level", "_law_due", "_law_holder", "_law_options_here", "_law_back", "_law_one"] ["_law_script"] (defScope s_law) := ⟨rfl, rfl, rfl, by decide +kernel, rfl, by decide +kernel, by decide +kernel⟩
abbrev Cf_law (P w K mg base) := CalG P w K mg base "law" 15 ["_law_script"] (spLaw K)
theorem ok_law (T : Tx w K mg) (C__law_alike : Cf__law_alike P w K mg base) (C__law_ascending : Cf__law_ascending P w K mg base) (C__law_bag : Cf__law_bag P w K mg base) (C__law_is_below : Cf__law_is_below P w K mg base) (C__law_pay : Cf__law_pay P w K mg base 3) (C__law_some : Cf__law_some P w K mg base) (C__law_some_levels : Cf__law_some_levels P w K mg base) (C__law_total : Cf__law_total P w K mg base) (C__law_web : Cf__law_web P w K mg base) (C__law_web_text : Cf__law_web_text P w K mg base) (C_added_up : Cf_added_up P w K mg base) (C_level_for : Cf_level_for P w K mg base) (C_options_curve : Cf_options_curve P w K mg base) (C_pay_at : Cf_pay_at P w K mg base) (C_read_web : Cf_read_web P w K mg base) (C_tidied : Cf_tidied P w K mg base 3) : Cf_law P w K mg base := by
  refine T.calG (d := d_law) 78 73 rfl rfl rfl rfl rfl sc_law (fun _ _ _ _ _ _ us hl => match us, hl with | [_], _ => rfl) (fun vs H Q E ⟨_, _, h, _⟩ => by rw [h]; rfl) fun f0 cdv A outer s H vs Q E g hr h => ⟨_, (pss_cons (ps_set (i := 1) sc_law.nd rfl (by first | exact Or.inl rfl | exact Or.inr rfl) (pe_cc C__law_bag (hr.mono (by decide)) (by rfl) (pa_cons (pv 0) pa_nil)))
      (pss_cons (ps_set (i := 2) sc_law.nd rfl (by first | exact Or.inl rfl | exact Or.inr rfl) (pe_cc C__law_web (hr.mono (by decide)) (by rfl) (pa_cons (pv 1) (pa_cons (pe_cc C__law_some (hr.mono (by decide)) (by rfl) (pa_cons (pv 1) (pa_cons (pe_lst (pa_cons pe_int (pa_cons pe_int (pa_cons pe_int pa_nil)))) pa_nil))) (pa_cons pe_int pa_nil)))))
      (pss_cons (ps_set (i := 3) sc_law.nd rfl (by first | exact Or.inl rfl | exact Or.inr rfl) (pe_cc C_read_web (hr.mono (by decide)) (by rfl) (pa_cons (pe_cc C__law_web_text (hr.mono (by decide)) (by rfl) (pa_cons (pv 2) pa_nil)) pa_nil)))
      (pss_cons (ps_if (pt_not (pt_val (pe_ccG C__law_alike g (hr.mono (by decide)) (by rfl) (pa_cons (pv 3) (pa_cons (pv 2) pa_nil))))) (pss_one (ps_ret pe_bl)) pss_nil)
      (pss_cons (ps_for PassesOwn.never rfl (pi_tup (pv 3)) (pg_tup rfl (pgs_cons (pg_name (i := 4) sc_law.nd rfl (by first | exact Or.inl rfl | exact Or.inr rfl)) (pgs_cons (pg_name (i := 5) sc_law.nd rfl (by first | exact Or.inl rfl | exact Or.inr rfl)) (pgs_cons (pg_name (i := 6) sc_law.nd rfl (by first | exact Or.inl rfl | exact Or.inr rfl)) pgs_nil)))) (pss_cons (ps_setLc (i := 7) rfl sc_law.nd rfl rfl (sw_true rfl rfl rfl (by decide +kernel)) (pi_tup (pv 6)) (blkOk_by (own := [("_law_holder", 12), ("_law_options_here", 13)]) (N := ["_law_script", "_law_bag_here", "_law_web_here", "_law_read", "_law_name", "_law_ranks", "_law_holdings", "_law_curves", "_law_again", "_law_whole", "_law_level", "_law_due", "_law_holder", "_law_options_here", "_law_back", "_law_one"]) (by kernel_rfl)) (fun _ _ _ _ _ => (pg_tupK (K := K) (n := 2) rfl rfl (pgs_cons (pg_name (i := 12) sc_law.nd rfl (by first | exact Or.inl rfl | exact Or.inr rfl)) (pgs_cons (pg_name (i := 13) sc_law.nd rfl (by first | exact Or.inl rfl | exact Or.inr rfl)) pgs_nil)))) (fun _ _ _ _ _ => pts_nil) (fun _ _ _ _ _ => (pe_cc C_options_curve (hr.mono (by decide)) (by rfl) (pa_cons (pv 5) (pa_cons (pv 13) pa_nil)))))
      (pss_cons (ps_setLc (i := 8) rfl sc_law.nd rfl rfl (sw_true rfl rfl rfl (by decide +kernel)) (pi_tup (pv 6)) (blkOk_by (own := [("_law_holder", 12), ("_law_options_here", 13)]) (N := ["_law_script", "_law_bag_here", "_law_web_here", "_law_read", "_law_name", "_law_ranks", "_law_holdings", "_law_curves", "_law_again", "_law_whole", "_law_level", "_law_due", "_law_holder", "_law_options_here", "_law_back", "_law_one"]) (by kernel_rfl)) (fun _ _ _ _ _ => (pg_tupK (K := K) (n := 2) rfl rfl (pgs_cons (pg_name (i := 12) sc_law.nd rfl (by first | exact Or.inl rfl | exact Or.inr rfl)) (pgs_cons (pg_name (i := 13) sc_law.nd rfl (by first | exact Or.inl rfl | exact Or.inr rfl)) pgs_nil)))) (fun _ _ _ _ _ => pts_nil) (fun _ _ _ _ _ => (pe_cc C_options_curve (hr.mono (by decide)) (by rfl) (pa_cons (pv 5) (pa_cons (pe_callTy (call_tuple_ofK (K := K) rfl) (by rfl) T.f_tuple (by decide +kernel) (pa_cons (pe_lc rfl sc_law.nd (pi_tupK (K := K) rfl (pv 13)) (blkOk_by (own := [("_law_one", 15)]) (N := ["_law_script", "_law_bag_here", "_law_web_here", "_law_read", "_law_name", "_law_ranks", "_law_holdings", "_law_curves", "_law_again", "_law_whole", "_law_level", "_law_due", "_law_holder", "_law_options_here", "_law_back", "_law_one"]) (by kernel_rfl)) (fun _ _ _ _ _ => (pg_name (i := 15) sc_law.nd rfl (by first | exact Or.inl rfl | exact Or.inr rfl))) (fun _ _ _ _ _ => pts_nil) (fun _ _ _ _ _ => (pe_cc C_tidied (hr.mono (by decide)) (by rfl) (pa_cons (pv 15) pa_nil)))) pa_nil)) pa_nil)))))
      (pss_cons (ps_set (i := 9) sc_law.nd rfl (by first | exact Or.inl rfl | exact Or.inr rfl) (pe_cc C_added_up (hr.mono (by decide)) (by rfl) (pa_cons (pv 7) pa_nil)))
      (pss_cons (ps_if (pt_not (pt_val (pe_ccG C__law_alike g (hr.mono (by decide)) (by rfl) (pa_cons (pv 8) (pa_cons (pv 7) pa_nil))))) (pss_one (ps_ret pe_bl)) pss_nil)
      (pss_one (ps_for PassesOwn.never rfl (pi_list (pe_cc C__law_some_levels (hr.mono (by decide)) (by rfl) (pa_cons (pv 1) (pa_cons (pe_op op_cat (pv 7) (pe_lst (pa_cons (pv 9) pa_nil))) pa_nil)))) (pg_name (i := 10) sc_law.nd rfl (by first | exact Or.inl rfl | exact Or.inr rfl)) (pss_cons (ps_set (i := 11) sc_law.nd rfl (by first | exact Or.inl rfl | exact Or.inr rfl) (pe_lst pa_nil))
      (pss_cons (ps_for PassesOwn.never rfl (pi_tup (pv 6)) (pg_tup rfl (pgs_cons (pg_name (i := 12) sc_law.nd rfl (by first | exact Or.inl rfl | exact Or.inr rfl)) (pgs_cons (pg_name (i := 13) sc_law.nd rfl (by first | exact Or.inl rfl | exact Or.inr rfl)) pgs_nil))) (pss_one (ps_expr (pe_bm PySem.F.plainAttrs_list PySem.F.slot_list_append PySem.F.type_list_append mt_append (pv 11) (pa_cons (pe_ix ix_seq (pe_cc C__law_ascending (hr.mono (by decide)) (by rfl) (pa_cons (pe_lc rfl sc_law.nd (pi_tup (pv 13)) (blkOk_by (own := [("_law_one", 15)]) (N := ["_law_script", "_law_bag_here", "_law_web_here", "_law_read", "_law_name", "_law_ranks", "_law_holdings", "_law_curves", "_law_again", "_law_whole", "_law_level", "_law_due", "_law_holder", "_law_options_here", "_law_back", "_law_one"]) (by kernel_rfl)) (fun _ _ _ _ _ => (pg_name (i := 15) sc_law.nd rfl (by first | exact Or.inl rfl | exact Or.inr rfl))) (fun _ _ _ _ _ => pts_nil) (fun _ _ _ _ _ => (pe_cc C__law_pay (hr.mono (by decide)) (by rfl) (pa_cons (pv 5) (pa_cons (pv 15) (pa_cons (pv 10) pa_nil)))))) pa_nil)) (pe_un un_neg pe_int) (fun _ _ => rfl)) pa_nil)))))
      (pss_cons (ps_if (pt_not (pt_val (pe_ccG C__law_alike g (hr.mono (by decide)) (by rfl) (pa_cons (pe_op op_cat (pe_lc rfl sc_law.nd (pi_list (pv 7)) (blkOk_by (own := [("_law_one", 15)]) (N := ["_law_script", "_law_bag_here", "_law_web_here", "_law_read", "_law_name", "_law_ranks", "_law_holdings", "_law_curves", "_law_again", "_law_whole", "_law_level", "_law_due", "_law_holder", "_law_options_here", "_law_back", "_law_one"]) (by kernel_rfl)) (fun _ _ _ _ _ => (pg_name (i := 15) sc_law.nd rfl (by first | exact Or.inl rfl | exact Or.inr rfl))) (fun _ _ _ _ _ => pts_nil) (fun _ _ _ _ _ => (pe_cc C_pay_at (hr.mono (by decide)) (by rfl) (pa_cons (pv 15) (pa_cons (pv 10) pa_nil))))) (pe_lst (pa_cons (pe_cc C_pay_at (hr.mono (by decide)) (by rfl) (pa_cons (pv 9) (pa_cons (pv 10) pa_nil))) pa_nil))) (pa_cons (pe_op op_cat (pv 11) (pe_lst (pa_cons (pe_cc C__law_total (hr.mono (by decide)) (by rfl) (pa_cons (pv 11) pa_nil)) pa_nil))) pa_nil))))) (pss_one (ps_ret pe_bl)) pss_nil)
      (pss_cons (ps_set (i := 14) sc_law.nd rfl (by first | exact Or.inl rfl | exact Or.inr rfl) (pe_cc C_level_for (hr.mono (by decide)) (by rfl) (pa_cons (pv 9) (pa_cons (pe_cc C__law_total (hr.mono (by decide)) (by rfl) (pa_cons (pv 11) pa_nil)) pa_nil))))
      (pss_one (ps_if (PW.pt (pw_or (pt_cmpR op_isN (pv 14) pe_non (nomark _)) (pw_or (pt_val (pe_cc C__law_is_below (hr.mono (by decide)) (by rfl) (pa_cons (pv 10) (pa_cons (pv 14) pa_nil)))) (pw_or1 (pt_cmpR (op_neD hr.units) (pe_cc C_pay_at (hr.mono (by decide)) (by rfl) (pa_cons (pv 9) (pa_cons (pv 14) pa_nil))) (pe_cc C__law_total (hr.mono (by decide)) (by rfl) (pa_cons (pv 11) pa_nil)) (nomark _)))))) (pss_one (ps_ret pe_bl)) pss_nil)))))))))))))
      (pss_one (ps_ret pe_bl))))))), ?_⟩
  obtain ⟨l, ns, rfl, hS, k⟩ := h
  have hs16 : sizeLine = 16777216 := rfl
  refine seq_ed ⟨_, rfl, l, ns, rfl, hS, fun p c H1 e1 hp B1 => ?_⟩
  dsimp only
  refine seq_ed (set_eg (K := K) (p := p) (c := c) (j := 900000000) (n := 0 + 1 + (0 + 0) + 8000) (B1.le (by decide)) (eg_callBA (k := 8000) (P := fun d => ∃ W : List Firm, d = .tuple (W.map firmD) ∧ Wk W) rfl ((ega_cons (eg_some (ds := [.int 2, .int 1, .int 3]) rfl (egl_pure (fun _ _ => edl_lst (eda_cons ed_int (eda_cons ed_int (eda_cons ed_int eda_nil))))).ng (by simp) (by simp [hs16])) (ega_cons eg_int ega_nil)).imp ?_)) fun v2 H2 d pd nd g2 B2 d2 => ?_)
  · rintro ds ⟨_, _, rfl, hm, _, _, rfl, rfl, rfl⟩
    simp only [List.mem_cons, List.not_mem_nil, or_false] at hm
    rcases hm with z | z | z
    · exact ⟨2, by rw [z]; rfl, by decide, fun d h => h⟩
    · exact ⟨1, by rw [z]; rfl, by decide, fun d h => h⟩
    · exact ⟨3, by rw [z]; rfl, by decide, fun d h => h⟩
  obtain ⟨W, rfl, hW⟩ := pd
  have hWl := hW.l3
  dsimp only
  refine seq_ed (read_ed (K := K) (ed_call W (eda_cons (ed_var rfl d2) eda_nil) hW.ok) ⟨hW.good, hW.lines_ne, hW.tlen⟩ fun v3 H3 e3 d3 => ?_)
  have B3 := B2.w e3
  have d23 := dp_w e3 d2
  dsimp only
  refine seq_ed (if_et (K := K) (b := false) ((et_not (et_B (ed_call (PyData.tuple (W.map firmD)) (eda_cons (ed_var rfl d3) (eda_cons (ed_var rfl d23) eda_nil)) hW.al))).cast rfl) (fun z => absurd z (by decide)) fun _ H4 e4 => nil_ed ?_)
  dsimp only
  refine seq_ed (for_dt (K := K) (ds := W.map firmD) (ed_var rfl (dp_mono e4 d3)) fun x3 H5 e5 d5 => ⟨fun i σ H' => ∃ (o4 o5 o6 o7 o8 o9 o10 o11 o12 o13 o14 o15 : Option V), σ = [some (.ref l), some (.ref p), some v2, some v3, o4, o5, o6, o7, o8, o9, o10, o11, o12, o13, o14, o15] ∧ Im H5 H' ∧ Bag H' p c (1000 + (3 - i) * 250000),
    ⟨none, none, none, none, none, none, none, none, none, none, none, none, rfl, Im.refl _, ((B3.mono e4).mono e5).le (by decide)⟩, fun i σ' H' _ ⟨_, _, _, _, _, _, _, _, _, _, _, _, _, im, _⟩ => dp_im im (by simp only [nol]; exact nols_map nol_firm _) d5, ?_, ?_⟩)
  · rintro i dd u σ' H' hi du ⟨o4, o5, o6, o7, o8, o9, o10, o11, o12, o13, o14, o15, rfl, im, B⟩
    obtain ⟨f, hf, rfl⟩ := get_mapD hi
    have hi3 : i < 3 := by have := (List.getElem?_eq_some_iff.mp hf).1; omega
    have hF := hW.fk f (List.mem_of_getElem? hf)
    obtain ⟨r1, hr1⟩ : ∃ r1, r1 = 1000 + (3 - (i + 1)) * 250000 := ⟨_, rfl⟩
    have hr2 : 1000 + (3 - i) * 250000 = r1 + 250000 := by rw [hr1]; omega
    rw [hr2] at B
    have hoc := fun (x : Str × List Claim) (hx : x ∈ f.holds) => hF.oc hx
    have hrk := hF.rk
    have h5 := hF.h5
    have hlen := hF.lens
    have hcl := hF.cvs_len
    have hwo := hF.wo
    have hsm := hF.smalls
    have hwc : ∀ x ∈ f.holds, ∀ c ∈ x.2, Wc f.ranks c := fun x hx c hc => ((hF.hs x hx).2.2.1 c hc).wc
    have hl4 : ∀ x ∈ f.holds, x.2.length ≤ 4 := fun x hx => (hF.hs x hx).2.2.2.2
    have hl1 : ∀ x ∈ f.holds, x.2 ≠ [] := fun x hx z => by
      have := (hF.hs x hx).2.2.2.1
      rw [z] at this; simp at this
    have ecv : (cvs f).map cvD = f.holds.map fun h => cvD (optC f.ranks h.2) := by unfold cvs; rw [List.map_map]; rfl
    obtain ⟨a, us, rfl, s1, a1⟩ := dp_tup du
    obtain ⟨n1, rv, hv, rfl, dn, dr, dh⟩ := dps_three a1
    obtain rfl := dp_int dr
    refine tg_three s1 _ ?_
    dsimp only
    refine seq_ed (newl_ed (K := K) (ds := (cvs f).map cvD) ((lc_m1 holdD f.holds (fun h => cvD (optC f.ranks h.2)) (edi_tup (ed_var rfl dh)) (by show _ ≤ 16777216; omega) fun x hx v H6 e6 d6 => tu_two d6 fun a b ha hb => ⟨rfl, et_yes, fun _ => ⟨ed_call (f.ranks, x.2) (eda_cons (ed_var rfl (.int _)) (eda_cons (ed_var rfl hb) eda_nil)) ⟨hrk, hl4 x hx, hwc x hx⟩, nol_cv _⟩⟩).cast ecv.symm) fun q7 H6 e6 hq7 l7 => ?_)
    have old7 := B.old hq7
    have dh6 := dp_mono e6 dh
    dsimp only
    refine seq_ed (newl_ed (K := K) (ds := (cvs f).map cvD) ((lc_m1 holdD f.holds (fun h => cvD (optC f.ranks h.2)) (edi_tup (ed_var rfl dh6)) (by show _ ≤ 16777216; omega) fun x hx v H7 e7 d7 => tu_two d7 fun a b ha hb => ⟨rfl, et_yes, fun _ => ⟨ed_callP (ed_var rfl (.int _)) (edP_tupleL (lc_mP claimD x.2 (fun _ => true) (fun c d => ∃ r, Tid c r ∧ NN r ∧ d = claimD r) (edi_tup (ed_var rfl hb)) (by have := hl4 x hx; show _ ≤ 16777216; omega) fun c hc v H8 e8 d8 => ⟨_, tg_name, rfl, et_yes, fun _ => ⟨edP_call c (eda_cons (ed_var rfl d8) eda_nil) ⟨by have := (hwc x hx c hc).d; omega, f.ranks, hwc x hx c hc⟩, ?_⟩⟩)) ?_, nol_cv _⟩⟩).cast ecv.symm) fun q8 H7 e7 hq8 l8 => ?_)
    · rintro d ⟨r, _, _, rfl⟩
      exact nol_claim _
    · rintro d ⟨es, pr, rfl⟩
      rw [List.filter_eq_self.mpr fun _ _ => rfl] at pr
      obtain ⟨rs, rfl, z1, z2, z3⟩ := tids_of pr (hwc x hx)
      exact ⟨(f.ranks, rs), rfl, ⟨hrk, by show rs.length ≤ 4; rw [z1]; exact hl4 x hx, z2⟩, by show cvD (greatestOf (rs.map (curveC f.ranks))) = cvD (optC f.ranks x.2); rw [z3]; rfl⟩
    have l77 := l7.mono e7
    have dh7 := dp_mono e7 dh6
    dsimp only
    refine seq_ed (set_ed (K := K) (d := cvD (addedUp (cvs f))) (ed_call (cvs f) (eda_cons (edt_var rfl l77).toD eda_nil) ⟨hcl.2, hsm, by omega, by omega, hwo.small⟩) fun v9 H8 e8 d9 => ?_)
    have l78 := l77.mono e8
    have l88 := l8.mono e8
    dsimp only
    refine seq_ed (if_et (K := K) (b := false) ((et_not (et_B (ed_call (PyData.list ((cvs f).map cvD)) (eda_cons (edt_var rfl l88).toD (eda_cons (edt_var rfl l78).toD eda_nil)) hF.al))).cast rfl) (fun z => absurd z (by decide)) fun _ H9 e9 => nil_ed ?_)
    have e69 := ((e6.trans e7).trans e8).trans e9
    have l79 := l78.mono e9
    have d99 := dp_mono e9 d9
    have dh9 := dp_mono (e8.trans e9) dh7
    have B9 := B.mono e69
    have im9 := im.trans (im_ex e69)
    clear l7 l77 l78 l8 l88 d9 dh dh6 dh7 B im
    dsimp only
    have hwl : (addedUp (cvs f)).1.length ≤ 30231 := by
      have := len_addedUp (cvs f)
      unfold lens at hlen
      omega
    have hlw : lens (cvs f ++ [addedUp (cvs f)]) ≤ 100000 := by
      unfold lens at hlen ⊢
      rw [List.map_append, List.sum_append]
      simp only [List.map_cons, List.map_nil, List.sum_cons, List.sum_nil]
      omega
    have hsw : ∀ c ∈ cvs f ++ [addedUp (cvs f)], Small c := fun c hc => by
      rcases List.mem_append.mp hc with z | z
      · exact hsm c z
      · rw [List.mem_singleton.mp z]; exact hwo.small
    refine for_gl (K := K) (p := p) (c := c) (j := r1) (n := 200000) (B9.le (by omega)) (egl_callBL (cvs f ++ [addedUp (cvs f)]) rfl (fun Hx x => eda_cons ((edl_cat (edt_var rfl (x.lm l79 old7.1 (nols_map nol_cv _))) (edl_lst (eda_cons (ed_var rfl (dp_im x.i (nol_cv _) d99)) eda_nil)).toT (by rw [List.length_map]; show _ + 1 ≤ 16777216; omega)).toD.cast (by rw [List.map_append]; rfl)) eda_nil) ⟨hsw, hlw⟩ fun ds ⟨qs, z, _⟩ => by rw [z]; exact nols_map nol_fr _) fun q10 Ha ds pd nd ga Ba hqa la => ?_
    obtain ⟨qs, rfl, hql, hqs⟩ := pd
    have l7a := ga.lm l79 old7.1 (nols_map nol_cv _)
    have d9a := dp_im ga.i (nol_cv _) d99
    have dha := dp_im ga.i (by simp only [nol]; exact nols_map nol_hold _) dh9
    have ima := im9.trans ga.i
    clear l79 d99 dh9 im9 B9
    refine ⟨fun t σ H' => ∃ (o10 o11 o12 o13 o14 o15 : Option V), σ = [some (.ref l), some (.ref p), some v2, some v3, some n1, some (.int (f.ranks : Int)), some hv, some (.ref q7), some (.ref q8), some v9, o10, o11, o12, o13, o14, o15] ∧ Ex Ha H', ⟨_, _, _, _, _, _, rfl, Ex.refl _⟩, fun t σ' H' _ ⟨_, _, _, _, _, _, _, e⟩ => la.mono e, ?_, ?_⟩
    · rintro t dd u σ' H' ht du ⟨o10, o11, o12, o13, o14, o15, rfl, ea⟩
      obtain ⟨x, hx, rfl⟩ := get_mapD ht
      have hxl := hqs x (List.mem_of_getElem? hx)
      have hpq := hF.pq hxl
      have l7b := l7a.mono ea
      have d9b := dp_mono ea d9a
      have dhb := dp_mono ea dha
      refine seq_ed (newl_ed (K := K) (ds := []) (edl_lst eda_nil) fun q11 Hb eb hq11 l11 => ?_)
      dsimp only
      refine seq_ed (for_dt (K := K) (ds := f.holds.map holdD) (ed_var rfl (dp_mono eb dhb)) fun x6 Hc ec d6 => ⟨fun m σ Hz => ∃ (o12 o13 : Option V), σ = [some (.ref l), some (.ref p), some v2, some v3, some n1, some (.int (f.ranks : Int)), some hv, some (.ref q7), some (.ref q8), some v9, some u, some (.ref q11), o12, o13, o14, o15] ∧ Ex H' Hz ∧ Im Hc Hz ∧ Lm K Hz q11 (((f.holds.take m).map fun h => maxP f.ranks h.2 x).map fr), ⟨_, _, rfl, eb.trans ec, Im.refl _, l11.mono ec⟩, fun m σ2 Hz _ ⟨_, _, _, _, i2, _⟩ => dp_im i2 (by simp only [nol]; exact nols_map nol_hold _) d6, ?_, ?_⟩)
      · rintro m dd u2 σ2 Hz hm du2 ⟨o12, o13, rfl, ez, iz, lz⟩
        obtain ⟨y, hy, rfl⟩ := get_mapD hm
        have hym := List.mem_of_getElem? hy
        have hmlt := (List.getElem?_eq_some_iff.mp hy).1
        obtain ⟨a, us, rfl, s2, a2⟩ := dp_tup du2
        obtain ⟨hn, ov, rfl, dhn, dov⟩ := dps_two a2
        refine tg_two s2 _ ?_
        dsimp only
        have hok : ∀ c ∈ y.2, OkC f.ranks c := fun c hc => (hwc y hym c hc).ok
        obtain ⟨ini, hini⟩ := last_max (x := x) hok (hl1 y hym)
        have hy4 := hl4 y hym
        refine app_ed (K := K) (d := fr (maxP f.ranks y.2 x)) rfl lz (nols_map nol_fr _) (ed_ixL (edl_call (y.2.map fun c => pay f.ranks c x) (eda_cons ((lc_m1 claimD y.2 (fun c => fr (pay f.ranks c x)) (edi_tup (ed_var rfl dov)) (by show _ ≤ 16777216; omega) fun c hc v Hy ey dy => tu_name rfl et_yes fun _ => ⟨ed_call (f.ranks, c, x) (eda_cons (ed_var rfl (.int _)) (eda_cons (ed_var rfl dy) (eda_cons (ed_var rfl (dp_mono (ez.trans ey) du)) eda_nil))) ⟨by show depth c < 3; have := (hwc y hym c hc).d; omega, hrk, hwc y hym c hc, hxl.1, hxl.2.mono (by decide)⟩, rfl⟩).toD.cast (by rw [List.map_map]; rfl)) eda_nil) ⟨by rw [List.length_map]; omega, fun q hq => ?_⟩).toD (ed_neg ed_int) (by rw [hini]; exact atI_mapL ini _)) rfl (by rw [List.length_map, List.length_map, List.length_take]; show _ < 16777216; omega) fun Hy b2 i2 ly => ⟨_, _, rfl, b2.ex hq11 ez, iz.trans i2, ?_⟩
        · rw [take_snoc hy, List.map_append, List.map_append]
          exact ly
        · obtain ⟨c, hc, rfl⟩ := List.mem_map.mp hq
          exact ((hwc y hym c hc).pay hrk hxl.1 hxl.2).fb (by decide)
      · rintro σ2 Hz ⟨o12, o13, rfl, ez, iz, lz⟩
        rw [List.length_map, List.take_length] at lz
        have l7z := l7b.mono ez
        have d9z := dp_mono ez d9b
        have duz := dp_mono ez du
        dsimp only
        have hdl : (f.holds.map fun h => maxP f.ranks h.2 x).length ≤ 5 := by rw [List.length_map]; exact h5
        have hfp := hpq.fine
        have hwe := hpq.whole
        have hea := hpq.each
        have hbk := back_of hwo.small hwo.mono hxl.1
        generalize (f.holds.map fun h => maxP f.ranks h.2 x) = pays at *
        have htf := total_fine (qs := pays) (B := 501) (by show _ ≤ 4000; omega) (by decide) fun q hq => (hfp q (List.mem_append_left _ hq)).2
        have tot : ∀ {σ : L2.St} {H1 : Hp}, σ[11]? = some (some (.ref q11)) → Ex Hz H1 → Ed K (tCall (spF K (fun qs : List Rat => [.list (qs.map fr)]) (fun qs => (∀ i, Fine FB (rsum (qs.take i))) ∧ ∀ q ∈ qs, Fine FB q) fun qs => fr (rsum qs)) [] E0 (tCons (tVar 11) tNil)) σ H1 (fr (evc (addedUp (cvs f)) x)) := fun hs e => (ed_call pays (eda_cons (edt_var hs (lz.mono e)).toD eda_nil) htf).cast (by rw [hwe])
        have hpal := al_pays hfp (by rw [List.length_append]; simp only [List.length_cons, List.length_nil]; omega)
        have hx19 : Fine 1900 x := hxl.2.mono (by decide)
        refine seq_ed (if_et (K := K) (b := false) ((et_not (et_B (ed_call (PyData.list ((pays ++ [evc (addedUp (cvs f)) x]).map fr)) (eda_cons ((edl_cat (lc_m1 cvD (cvs f) (fun c => fr (evc c x)) (edi_list (edt_var rfl l7z).toD) (by show _ ≤ 16777216; omega) fun c hc v Hy ey dy => tu_name rfl et_yes fun _ => ⟨ed_call (c, x) (eda_cons (ed_var rfl dy) (eda_cons (ed_var rfl (dp_mono ey duz)) eda_nil)) ⟨hsm c hc, hxl.1, hx19⟩, rfl⟩).toT (edl_lst (eda_cons (ed_call (addedUp (cvs f), x) (eda_cons (ed_var rfl d9z) (eda_cons (ed_var rfl duz) eda_nil)) ⟨hwo.small, hxl.1, hx19⟩) eda_nil)).toT (by rw [List.length_map]; show _ + 1 ≤ 16777216; omega)).toD.cast ?_) (eda_cons ((edl_cat (edt_var rfl lz) (edl_lst (eda_cons (tot rfl (Ex.refl _)) eda_nil)).toT (by rw [List.length_map]; show _ + 1 ≤ 16777216; omega)).toD.cast (by rw [List.map_append]; rfl)) eda_nil)) hpal))).cast rfl) (fun z => absurd z (by decide)) fun _ Hd ed => nil_ed ?_)
        · rw [List.map_append, ← hea, List.map_map]; rfl
        obtain ⟨lb, hb1, hb2, hb3, hb4⟩ := hbk
        have hlf := reached_fine2 hwo.small hwo.mono (hwo.small.val hxl.1 hxl.2) hb1
        dsimp only
        refine seq_ed (set_ed (K := K) (d := fr lb) ((ed_call (addedUp (cvs f), evc (addedUp (cvs f)) x) (eda_cons (ed_var rfl (dp_mono ed d9z)) (eda_cons (tot rfl ed) eda_nil)) ⟨hwo.small, hwo.mono, (hwo.small.val hxl.1 hxl.2).mono (by decide)⟩).cast (by show optD (reachedC (addedUp (cvs f)) (evc (addedUp (cvs f)) x)) = fr lb; rw [hb1]; rfl)) fun v14 He ee d14 => ?_)
        have ede := ed.trans ee
        dsimp only
        refine if_et (K := K) (b := false) ((et_or (a := false) (b := false) (isN_no rfl d14 (fun z => nomatch z)) fun _ => (et_or (a := false) (b := false) ((et_B (ed_call (x, lb) (eda_cons (ed_var rfl (dp_mono ede duz)) (eda_cons (ed_var rfl d14) eda_nil)) ⟨hxl.2.fb (by decide), hlf.fb (by decide)⟩)).cast (decide_eq_false (by show ¬ x < lb; grind))) fun _ => (et_test (ed_nefr (ed_call (addedUp (cvs f), lb) (eda_cons (ed_var rfl (dp_mono ede d9z)) (eda_cons (ed_var rfl d14) eda_nil)) ⟨hwo.small, hb2, hlf.mono (by decide)⟩) (tot rfl ede))).cast (decide_eq_false (by rw [hb4]; simp))).cast rfl).cast rfl) (fun z => absurd z (by decide)) fun _ Hf ef => nil_ed ?_
        exact ⟨_, _, _, _, _, _, rfl, ((ea.trans ez).trans ede).trans ef⟩
    · rintro σ' H' ⟨o10, o11, o12, o13, o14, o15, rfl, ea⟩
      exact ⟨_, _, _, _, _, _, _, _, _, _, _, _, rfl, ima.trans (im_ex ea), hr1 ▸ Ba.mono ea⟩
  · rintro σ' H' ⟨o4, o5, o6, o7, o8, o9, o10, o11, o12, o13, o14, o15, rfl, im, B⟩
    dsimp only
    refine ret_ed (K := K) ed_bl fun v Hz ez dz => ?_
    obtain rfl := dp_bool dz
    exact k Hz
end
end Sw
set_option maxHeartbeats 4000000
namespace Sw
open PySem PySem.Spec PyProof PyProof.Rows L2 Evl SwT
section
variable {P : Program} {w : World} {K : PySem.W.Frag} {mg : Str → Option Value} {base : Heap}
theorem all_law (T : Tx w K mg) : Cf_law P w K mg base := by
  have c_divisor := ok_common_divisor (P := P) (base := base) T
  have c_reduced := ok_reduced T c_divisor
  have c_added := ok_added T c_reduced
  have c_lessened := ok_lessened T c_reduced
  have c_times := ok_times T c_reduced
  have c_over := ok_over T c_reduced
  have c_compared := ok_compared (P := P) (base := base) T
  have c_least := ok_least_of T c_compared
  have c_total := ok_total T c_added
  have c_between := ok_slope_between T c_lessened c_over
  have c_nothing := ok_nothing (P := P) (base := base) T
  have c_behind := ok_slope_behind T c_between
  have c_order := ok_in_order T c_compared
  have c_levels := ok_levels_of T c_order
  have c_pay := ok_pay_at T c_added c_compared c_lessened c_behind c_times
  have c_rises := ok_rises_at T c_compared c_behind
  have c_curve := ok_curve T c_between
  have c_sum := ok_added_up T c_curve c_levels c_nothing c_pay c_total
  have c_parting := ok_parting T c_lessened c_pay c_rises
  have c_meet := ok_meetings T c_added c_compared c_levels c_over c_parting
  have c_greater := ok_greater_of T c_compared c_curve c_order c_levels c_meet c_parting c_pay
  have c_greatest := ok_greatest T c_greater c_nothing
  have c_reached := ok_reached T c_added c_compared c_lessened c_over c_behind
  have c_for := ok_level_for T c_reached
  have c_capped := ok_capped T c_compared c_curve c_reached
  have c_of := ok_curve_of T c_added c_sum c_capped c_curve c_nothing 3
  have c_options := ok_options_curve T c_of c_greatest
  have c_tcap := ok_tidy_cap T c_least
  have c_topt := ok_tidy_options T c_least c_total
  have c_tidied := ok_tidied T c_tcap c_topt c_total 3
  have c_text := ok_fraction_text (P := P) (base := base) T
  have c_isnum := ok_is_number_text (P := P) (base := base) T
  have c_fin := ok_fraction_in T c_text c_isnum c_reduced
  have c_isint := ok_is_integer (P := P) (base := base) T
  have c_isname := ok_is_name (P := P) (base := base) T
  have c_intin := ok_integer_in (P := P) (base := base) T
  have w_word := ok_W_word (P := P) (base := base) T
  have w_taken := ok_W_taken (P := P) (base := base) T
  have w_oneof := ok_W_one_of T w_taken w_word
  have w_fraction := ok_W_fraction T w_taken w_word c_fin
  have w_integer := ok_W_integer T w_taken w_word c_intin c_isint
  have w_end := ok_W_end (P := P) (base := base) T
  have c_claimin := ok_claim_in T w_fraction w_integer w_oneof 3
  have c_firmin := ok_firm_in T w_integer w_oneof w_taken w_word c_isname
  have c_holderin := ok_holder_in T w_oneof w_taken w_word c_isname
  have c_read := ok_read_web T w_end w_oneof w_word c_claimin c_firmin c_holderin
  have l_ntext := ok__law_number_text (P := P) (base := base) T
  have l_words := ok__law_words T l_ntext 3
  have l_webtext := ok__law_web_text T l_words
  have l_common := ok__law_common (P := P) (base := base) T
  have l_reduced := ok__law_reduced T l_common
  have l_below := ok__law_is_below (P := P) (base := base) T
  have l_lesser := ok__law_lesser T l_below
  have l_greater := ok__law_greater T l_below
  have l_mul := ok__law_multiplied T l_reduced
  have l_added := ok__law_added T l_reduced
  have l_lessened := ok__law_lessened T l_reduced
  have l_total := ok__law_total T l_added
  have l_asc := ok__law_ascending T l_below
  have l_levels := ok__law_levels T l_asc
  have l_pay := ok__law_pay T l_added l_greater l_lessened l_lesser l_mul l_total 3
  have l_leaves := ok__law_leaves (P := P) (base := base) T 3
  have l_within := ok__law_within T l_leaves
  have l_take := ok__law_take (P := P) (base := base) T
  have l_some := ok__law_some T l_take
  have l_mixed := ok__law_mixed T l_take
  have l_bag := ok__law_bag (P := P) (base := base) T
  have l_number := ok__law_number T l_reduced l_some l_take
  have l_claim := ok__law_claim T l_number l_take 3
  have l_options := ok__law_options T l_claim l_some l_take
  have l_fopts := ok__law_firm_options T l_claim l_take
  have l_web := ok__law_web T l_fopts l_leaves l_mixed l_number l_options l_some l_take l_within
  have l_somelev := ok__law_some_levels T l_added l_levels l_mixed l_mul l_number l_some
  have l_alike := ok__law_alike (P := P) (base := base) T
  exact ok_law T l_alike l_asc l_bag l_below l_pay l_some l_somelev l_total l_web l_webtext c_sum c_for c_options c_pay c_read c_tidied
end
end Sw
open PySem PySem.W PySem.Calls PyProof.Rows
theorem PySem.Challenge.cw_soldwhole_k15_whole_texts_pay_by_curves_holds : PySem.Challenge.rw_soldwhole_k15_whole_texts_pay_by_curves.Holds := by
  w_on; o_law
  refine HandSHeadRun.head_any (r := OpenLaw.row PySem.Challenge.rw_soldwhole_k15_whole_texts_pay_by_curves) (q := view (OpenLaw.row PySem.Challenge.rw_soldwhole_k15_whole_texts_pay_by_curves).prog [86]) (H := SwT.hk) (ob := SwT.ob) (M := 6000) (loose := SwT.lo) (d := HandSHeadRun.topDef (OpenLaw.row PySem.Challenge.rw_soldwhole_k15_whole_texts_pay_by_curves).prog 86) (kwd := []) SwT.ob_eq
    (by kernel_rfl) (fun s => by kernel_rfl) SwT.run (by kernel_rfl) (by kernel_rfl) (by kernel_rfl) (by rfl) (by first | assumption | decide +kernel) (by decide +kernel) ⟨rfl, rfl, rfl, rfl, rfl, by decide +kernel⟩ ?hw ?hc
  case hw => w_witness2
  case hc =>
    refine Att.attach_call (l := PySem.Challenge.rw_soldwhole_k15_whole_texts_pay_by_curves) (n := 63) rfl (by kernel_rfl) fun w s₀ s₁ mg mb fa o pm cd doc a vs ns G Y ho hd hcd hmg hobj hints hlen hg => ?_
    obtain ⟨K, KX, c⟩ := Y
    have hmg1 : mg ("law" : PySem.Str) = some (.ref fa) := by
      have e : (HandSHeadRun.topDef (OpenLaw.row PySem.Challenge.rw_soldwhole_k15_whole_texts_pay_by_curves).prog 86).name = ("law" : PySem.Str) := by kernel_rfl
      rw [← e]
      exact hmg
    have T : Sw.Tx w K mg := ⟨s₁.heap, KX, G.T.g, c⟩
    refine Sw.lawG (k := 15) (x := "_law_script") (sp := Sw.spLaw K) KX G.T.g G.T.b G.T.builtins G.T.nolimit hg hobj hints (Nat.le_trans hlen (by decide)) ⟨rfl, by decide, by decide⟩ (fun base _ _ => ?_) fun H hS => ⟨a, ns, rfl, hS, fun _ => rfl⟩
    obtain ⟨f, fd, F, h1, _, hb⟩ := (Sw.all_law (P := (PySem.Challenge.rw_soldwhole_k15_whole_texts_pay_by_curves).prog) (base := base) T).ex
    rw [hmg1] at h1
    cases h1
    exact ⟨fd, F, hb⟩
