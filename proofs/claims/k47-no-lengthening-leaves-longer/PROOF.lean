import PyProof.Rows.All
import Wide.All
import OpenK.AllK
import Wide.FinOn
import KE.KStateDown
import HandS.ForSpec
import HandS.Defaults
import HandS.ExcInit
import HandS.Head0
import HandS.Head1
import HandS.Head2
import HandS.HeadEnd
import HandS.HeadHook1
import HandS.HeadHook2
import HandS.HeadHook3
import HandS.HeadHook4
import HandS.ForMost
import HandS.Wide
import HandS.IsInst
import KE.DataFind
import KE.KEqDict
import HandS.Style
import HandS.More
import HandS.DictComp
import HandS.ExcOwn
import PySem.Challenge.RW_farthestcut_k47_whole_no_lengthening_lea
set_option Elab.async false
set_option linter.all false
set_option maxRecDepth 100000
set_option maxHeartbeats 0
namespace FC
open PySem PySem.Spec PyProof.Rows L2
def top (i : Nat) : Stmt := PySem.Challenge.pw_farthestcut_k47_whole_no_lengthening_lea.main.body.getD i (.Pass ⟨0, 0, 0, 0⟩)
abbrev s_NoCases_init : Stmt := inClass (top 6) 0
abbrev s_is_whole : Stmt := top 10
abbrev s_divisor : Stmt := top 11
abbrev s_is_ratio : Stmt := top 12
abbrev s_is_name : Stmt := top 13
abbrev s_lowest : Stmt := top 16
abbrev s_plus : Stmt := top 17
abbrev s_is_less : Stmt := top 18
abbrev s_most_of : Stmt := top 19
abbrev s_sum_of : Stmt := top 20
abbrev s_is_length : Stmt := top 25
abbrev s_is_worth : Stmt := top 26
abbrev s_is_tie : Stmt := top 27
abbrev s_look_at_places : Stmt := top 28
abbrev s_look_at_ties : Stmt := top 29
abbrev s_look_at_web : Stmt := top 30
abbrev s_is_tie_number : Stmt := top 31
abbrev s_is_purse : Stmt := top 33
abbrev s_look_at_purse : Stmt := top 34
abbrev s_worth_in : Stmt := top 35
abbrev s_fits : Stmt := top 36
abbrev s_at_once : Stmt := top 37
abbrev s_askable : Stmt := top 40
abbrev s_are_cases_of : Stmt := top 41
abbrev s_measures_in : Stmt := top 42
abbrev s_behind : Stmt := top 44
abbrev s_gone_along : Stmt := top 45
abbrev s_wrong_at : Stmt := top 46
abbrev s_is_way : Stmt := top 47
abbrev s_common_of : Stmt := top 49
abbrev s_whole_of : Stmt := top 50
abbrev s_nearest : Stmt := top 51
abbrev s_reached : Stmt := top 52
abbrev s_way_back : Stmt := top 53
abbrev s_least_by : Stmt := top 54
abbrev s_side_in : Stmt := top 55
abbrev s_look_at_size : Stmt := top 58
abbrev s_is_longer : Stmt := top 60
abbrev s_look_at_adds : Stmt := top 62
abbrev s_longer_lengths : Stmt := top 63
abbrev s_LongWays_init : Stmt := inClass (top 65) 0
abbrev s_LongWays_word : Stmt := inClass (top 65) 1
abbrev s_LongWays_is_one : Stmt := inClass (top 65) 2
abbrev s_LongWays_ties_of : Stmt := inClass (top 65) 3
abbrev s_LongWays_measure : Stmt := inClass (top 65) 4
abbrev s_claim_of_longer : Stmt := top 66
abbrev s_LongSearch_init : Stmt := inClass (top 67) 0
abbrev s_LongSearch_go_on : Stmt := inClass (top 67) 1
abbrev s_best_longer : Stmt := top 68
abbrev s_l_begun : Stmt := top 70
abbrev s_l_take : Stmt := top 71
abbrev s_l_low : Stmt := top 72
abbrev s_l_plus : Stmt := top 73
abbrev s_l_under : Stmt := top 74
abbrev s_l_amount : Stmt := top 75
abbrev s_l_names : Stmt := top 76
abbrev s_l_tie : Stmt := top 77
abbrev s_l_web : Stmt := top 78
abbrev s_l_cheapest : Stmt := top 79
abbrev s_l_purse : Stmt := top 80
abbrev s_l_worth : Stmt := top 81
abbrev s_l_steps : Stmt := top 82
abbrev s_l_go : Stmt := top 83
abbrev s_l_can : Stmt := top 84
abbrev s_l_paper : Stmt := top 85
abbrev s_l_adds : Stmt := top 86
abbrev s_l_lengths : Stmt := top 87
abbrev s_l_other_way : Stmt := top 89
abbrev s_l_other_cases : Stmt := top 90
abbrev s_l_spoilt : Stmt := top 91
abbrev s_l_wholes : Stmt := top 92
abbrev s_l_far : Stmt := top 93
abbrev s_l_takings : Stmt := top 94
abbrev s_l_told : Stmt := top 95
abbrev s_l_longest : Stmt := top 96
abbrev s_law : Stmt := top 97
def d_NoCases_init : He.DefD := ⟨("NoCases", some "__init__"), "__init__", "NoCases.__init__", defArgs s_NoCases_init, defBody s_NoCases_init, defScope s_NoCases_init, [], []⟩
def d_is_whole : He.DefD := ⟨("is_whole", none), "is_whole", "is_whole", defArgs s_is_whole, defBody s_is_whole, defScope s_is_whole, [], []⟩
def d_divisor : He.DefD := ⟨("divisor", none), "divisor", "divisor", defArgs s_divisor, defBody s_divisor, defScope s_divisor, [], []⟩
def d_is_ratio : He.DefD := ⟨("is_ratio", none), "is_ratio", "is_ratio", defArgs s_is_ratio, defBody s_is_ratio, defScope s_is_ratio, [], []⟩
def d_is_name : He.DefD := ⟨("is_name", none), "is_name", "is_name", defArgs s_is_name, defBody s_is_name, defScope s_is_name, [], []⟩
def d_lowest : He.DefD := ⟨("lowest", none), "lowest", "lowest", defArgs s_lowest, defBody s_lowest, defScope s_lowest, [], []⟩
def d_plus : He.DefD := ⟨("plus", none), "plus", "plus", defArgs s_plus, defBody s_plus, defScope s_plus, [], []⟩
def d_is_less : He.DefD := ⟨("is_less", none), "is_less", "is_less", defArgs s_is_less, defBody s_is_less, defScope s_is_less, [], []⟩
def d_most_of : He.DefD := ⟨("most_of", none), "most_of", "most_of", defArgs s_most_of, defBody s_most_of, defScope s_most_of, [], []⟩
def d_sum_of : He.DefD := ⟨("sum_of", none), "sum_of", "sum_of", defArgs s_sum_of, defBody s_sum_of, defScope s_sum_of, [], []⟩
def d_is_length : He.DefD := ⟨("is_length", none), "is_length", "is_length", defArgs s_is_length, defBody s_is_length, defScope s_is_length, [], []⟩
def d_is_worth : He.DefD := ⟨("is_worth", none), "is_worth", "is_worth", defArgs s_is_worth, defBody s_is_worth, defScope s_is_worth, [], []⟩
def d_is_tie : He.DefD := ⟨("is_tie", none), "is_tie", "is_tie", defArgs s_is_tie, defBody s_is_tie, defScope s_is_tie, [], []⟩
def d_look_at_places : He.DefD := ⟨("look_at_places", none), "look_at_places", "look_at_places", defArgs s_look_at_places, defBody s_look_at_places, defScope s_look_at_places, [], []⟩
def d_look_at_ties : He.DefD := ⟨("look_at_ties", none), "look_at_ties", "look_at_ties", defArgs s_look_at_ties, defBody s_look_at_ties, defScope s_look_at_ties, [], []⟩
def d_look_at_web : He.DefD := ⟨("look_at_web", none), "look_at_web", "look_at_web", defArgs s_look_at_web, defBody s_look_at_web, defScope s_look_at_web, [], []⟩
def d_is_tie_number : He.DefD := ⟨("is_tie_number", none), "is_tie_number", "is_tie_number", defArgs s_is_tie_number, defBody s_is_tie_number, defScope s_is_tie_number, [], []⟩
def d_is_purse : He.DefD := ⟨("is_purse", none), "is_purse", "is_purse", defArgs s_is_purse, defBody s_is_purse, defScope s_is_purse, [], []⟩
def d_look_at_purse : He.DefD := ⟨("look_at_purse", none), "look_at_purse", "look_at_purse", defArgs s_look_at_purse, defBody s_look_at_purse, defScope s_look_at_purse, [], []⟩
def d_worth_in : He.DefD := ⟨("worth_in", none), "worth_in", "worth_in", defArgs s_worth_in, defBody s_worth_in, defScope s_worth_in, [], []⟩
def d_fits : He.DefD := ⟨("fits", none), "fits", "fits", defArgs s_fits, defBody s_fits, defScope s_fits, [], []⟩
def d_at_once : He.DefD := ⟨("at_once", none), "at_once", "at_once", defArgs s_at_once, defBody s_at_once, defScope s_at_once, [], []⟩
def d_askable : He.DefD := ⟨("askable", none), "askable", "askable", defArgs s_askable, defBody s_askable, defScope s_askable, [], []⟩
def d_are_cases_of : He.DefD := ⟨("are_cases_of", none), "are_cases_of", "are_cases_of", defArgs s_are_cases_of, defBody s_are_cases_of, defScope s_are_cases_of, [], []⟩
def d_measures_in : He.DefD := ⟨("measures_in", none), "measures_in", "measures_in", defArgs s_measures_in, defBody s_measures_in, defScope s_measures_in, [], []⟩
def d_behind : He.DefD := ⟨("behind", none), "behind", "behind", defArgs s_behind, defBody s_behind, defScope s_behind, [], []⟩
def d_gone_along : He.DefD := ⟨("gone_along", none), "gone_along", "gone_along", defArgs s_gone_along, defBody s_gone_along, defScope s_gone_along, [], []⟩
def d_wrong_at : He.DefD := ⟨("wrong_at", none), "wrong_at", "wrong_at", defArgs s_wrong_at, defBody s_wrong_at, defScope s_wrong_at, [], []⟩
def d_is_way : He.DefD := ⟨("is_way", none), "is_way", "is_way", defArgs s_is_way, defBody s_is_way, defScope s_is_way, [], []⟩
def d_common_of : He.DefD := ⟨("common_of", none), "common_of", "common_of", defArgs s_common_of, defBody s_common_of, defScope s_common_of, [], []⟩
def d_whole_of : He.DefD := ⟨("whole_of", none), "whole_of", "whole_of", defArgs s_whole_of, defBody s_whole_of, defScope s_whole_of, [], []⟩
def d_nearest : He.DefD := ⟨("nearest", none), "nearest", "nearest", defArgs s_nearest, defBody s_nearest, defScope s_nearest, [], []⟩
def d_reached : He.DefD := ⟨("reached", none), "reached", "reached", defArgs s_reached, defBody s_reached, defScope s_reached, [], []⟩
def d_way_back : He.DefD := ⟨("way_back", none), "way_back", "way_back", defArgs s_way_back, defBody s_way_back, defScope s_way_back, [], []⟩
def d_least_by : He.DefD := ⟨("least_by", none), "least_by", "least_by", defArgs s_least_by, defBody s_least_by, defScope s_least_by, [], []⟩
def d_side_in : He.DefD := ⟨("side_in", none), "side_in", "side_in", defArgs s_side_in, defBody s_side_in, defScope s_side_in, [], []⟩
def d_look_at_size : He.DefD := ⟨("look_at_size", none), "look_at_size", "look_at_size", defArgs s_look_at_size, defBody s_look_at_size, defScope s_look_at_size, [], []⟩
def d_is_longer : He.DefD := ⟨("is_longer", none), "is_longer", "is_longer", defArgs s_is_longer, defBody s_is_longer, defScope s_is_longer, [], []⟩
def d_look_at_adds : He.DefD := ⟨("look_at_adds", none), "look_at_adds", "look_at_adds", defArgs s_look_at_adds, defBody s_look_at_adds, defScope s_look_at_adds, [], []⟩
def d_longer_lengths : He.DefD := ⟨("longer_lengths", none), "longer_lengths", "longer_lengths", defArgs s_longer_lengths, defBody s_longer_lengths, defScope s_longer_lengths, [], []⟩
def d_LongWays_init : He.DefD := ⟨("LongWays", some "__init__"), "__init__", "LongWays.__init__", defArgs s_LongWays_init, defBody s_LongWays_init, defScope s_LongWays_init, [], []⟩
def d_LongWays_word : He.DefD := ⟨("LongWays", some "word"), "word", "LongWays.word", defArgs s_LongWays_word, defBody s_LongWays_word, defScope s_LongWays_word, [], []⟩
def d_LongWays_is_one : He.DefD := ⟨("LongWays", some "is_one"), "is_one", "LongWays.is_one", defArgs s_LongWays_is_one, defBody s_LongWays_is_one, defScope s_LongWays_is_one, [], []⟩
def d_LongWays_ties_of : He.DefD := ⟨("LongWays", some "ties_of"), "ties_of", "LongWays.ties_of", defArgs s_LongWays_ties_of, defBody s_LongWays_ties_of, defScope s_LongWays_ties_of, [], []⟩
def d_LongWays_measure : He.DefD := ⟨("LongWays", some "measure"), "measure", "LongWays.measure", defArgs s_LongWays_measure, defBody s_LongWays_measure, defScope s_LongWays_measure, [], []⟩
def d_claim_of_longer : He.DefD := ⟨("claim_of_longer", none), "claim_of_longer", "claim_of_longer", defArgs s_claim_of_longer, defBody s_claim_of_longer, defScope s_claim_of_longer, [], []⟩
def d_LongSearch_init : He.DefD := ⟨("LongSearch", some "__init__"), "__init__", "LongSearch.__init__", defArgs s_LongSearch_init, defBody s_LongSearch_init, defScope s_LongSearch_init, [], []⟩
def d_LongSearch_go_on : He.DefD := ⟨("LongSearch", some "go_on"), "go_on", "LongSearch.go_on", defArgs s_LongSearch_go_on, defBody s_LongSearch_go_on, defScope s_LongSearch_go_on, [], []⟩
def d_best_longer : He.DefD := ⟨("best_longer", none), "best_longer", "best_longer", defArgs s_best_longer, defBody s_best_longer, defScope s_best_longer, [], []⟩
def d_l_begun : He.DefD := ⟨("_law_begun", none), "_law_begun", "_law_begun", defArgs s_l_begun, defBody s_l_begun, defScope s_l_begun, [], []⟩
def d_l_take : He.DefD := ⟨("_law_take", none), "_law_take", "_law_take", defArgs s_l_take, defBody s_l_take, defScope s_l_take, [], []⟩
def d_l_low : He.DefD := ⟨("_law_low", none), "_law_low", "_law_low", defArgs s_l_low, defBody s_l_low, defScope s_l_low, [], []⟩
def d_l_plus : He.DefD := ⟨("_law_plus", none), "_law_plus", "_law_plus", defArgs s_l_plus, defBody s_l_plus, defScope s_l_plus, [], []⟩
def d_l_under : He.DefD := ⟨("_law_under", none), "_law_under", "_law_under", defArgs s_l_under, defBody s_l_under, defScope s_l_under, [], []⟩
def d_l_amount : He.DefD := ⟨("_law_amount", none), "_law_amount", "_law_amount", defArgs s_l_amount, defBody s_l_amount, defScope s_l_amount, [], []⟩
def d_l_names : He.DefD := ⟨("_law_names", none), "_law_names", "_law_names", defArgs s_l_names, defBody s_l_names, defScope s_l_names, [], []⟩
def d_l_tie : He.DefD := ⟨("_law_tie", none), "_law_tie", "_law_tie", defArgs s_l_tie, defBody s_l_tie, defScope s_l_tie, [], []⟩
def d_l_web : He.DefD := ⟨("_law_web", none), "_law_web", "_law_web", defArgs s_l_web, defBody s_l_web, defScope s_l_web, [], []⟩
def d_l_cheapest : He.DefD := ⟨("_law_cheapest", none), "_law_cheapest", "_law_cheapest", defArgs s_l_cheapest, defBody s_l_cheapest, defScope s_l_cheapest, [], []⟩
def d_l_purse : He.DefD := ⟨("_law_purse", none), "_law_purse", "_law_purse", defArgs s_l_purse, defBody s_l_purse, defScope s_l_purse, [], []⟩
def d_l_worth : He.DefD := ⟨("_law_worth", none), "_law_worth", "_law_worth", defArgs s_l_worth, defBody s_l_worth, defScope s_l_worth, [], []⟩
def d_l_steps : He.DefD := ⟨("_law_steps", none), "_law_steps", "_law_steps", defArgs s_l_steps, defBody s_l_steps, defScope s_l_steps, [], []⟩
def d_l_go : He.DefD := ⟨("_law_go", none), "_law_go", "_law_go", defArgs s_l_go, defBody s_l_go, defScope s_l_go, [], []⟩
def d_l_can : He.DefD := ⟨("_law_can", none), "_law_can", "_law_can", defArgs s_l_can, defBody s_l_can, defScope s_l_can, [], []⟩
def d_l_paper : He.DefD := ⟨("_law_paper", none), "_law_paper", "_law_paper", defArgs s_l_paper, defBody s_l_paper, defScope s_l_paper, [], []⟩
def d_l_adds : He.DefD := ⟨("_law_adds", none), "_law_adds", "_law_adds", defArgs s_l_adds, defBody s_l_adds, defScope s_l_adds, [], []⟩
def d_l_lengths : He.DefD := ⟨("_law_lengths", none), "_law_lengths", "_law_lengths", defArgs s_l_lengths, defBody s_l_lengths, defScope s_l_lengths, [], []⟩
def d_l_other_way : He.DefD := ⟨("_law_other_way", none), "_law_other_way", "_law_other_way", defArgs s_l_other_way, defBody s_l_other_way, defScope s_l_other_way, [], []⟩
def d_l_other_cases : He.DefD := ⟨("_law_other_cases", none), "_law_other_cases", "_law_other_cases", defArgs s_l_other_cases, defBody s_l_other_cases, defScope s_l_other_cases, [], []⟩
def d_l_spoilt : He.DefD := ⟨("_law_spoilt", none), "_law_spoilt", "_law_spoilt", defArgs s_l_spoilt, defBody s_l_spoilt, defScope s_l_spoilt, [], []⟩
def d_l_wholes : He.DefD := ⟨("_law_wholes", none), "_law_wholes", "_law_wholes", defArgs s_l_wholes, defBody s_l_wholes, defScope s_l_wholes, [], []⟩
def d_l_far : He.DefD := ⟨("_law_far", none), "_law_far", "_law_far", defArgs s_l_far, defBody s_l_far, defScope s_l_far, [], []⟩
def d_l_takings : He.DefD := ⟨("_law_takings", none), "_law_takings", "_law_takings", defArgs s_l_takings, defBody s_l_takings, defScope s_l_takings, [], []⟩
def d_l_told : He.DefD := ⟨("_law_told", none), "_law_told", "_law_told", defArgs s_l_told, defBody s_l_told, defScope s_l_told, [], []⟩
def d_l_longest : He.DefD := ⟨("_law_longest", none), "_law_longest", "_law_longest", defArgs s_l_longest, defBody s_l_longest, defScope s_l_longest, [], []⟩
def d_law : He.DefD := ⟨("law", none), "law", "law", defArgs s_law, defBody s_law, defScope s_law, [], []⟩
def fn : List He.DefD := [d_NoCases_init, d_is_whole, d_divisor, d_is_ratio, d_is_name, d_lowest, d_plus, d_is_less, d_most_of, d_sum_of, d_is_length, d_is_worth, d_is_tie, d_look_at_places, d_look_at_ties, d_look_at_web, d_is_tie_number, d_is_purse, d_look_at_purse, d_worth_in, d_fits, d_at_once, d_askable, d_are_cases_of, d_measures_in, d_behind, d_gone_along, d_wrong_at, d_is_way, d_common_of, d_whole_of, d_nearest, d_reached, d_way_back, d_least_by, d_side_in, d_look_at_size, d_is_longer, d_look_at_adds, d_longer_lengths, d_LongWays_init, d_LongWays_word, d_LongWays_is_one, d_LongWays_ties_of, d_LongWays_measure, d_claim_of_longer, d_LongSearch_init, d_LongSearch_go_on, d_best_longer, d_l_begun, d_l_take, d_l_low, d_l_plus, d_l_under, d_l_amount, d_l_names, d_l_tie, d_l_web, d_l_cheapest, d_l_purse, d_l_worth, d_l_steps, d_l_go, d_l_can, d_l_paper, d_l_adds, d_l_lengths, d_l_other_way, d_l_other_cases, d_l_spoilt, d_l_wholes, d_l_far, d_l_takings, d_l_told, d_l_longest, d_law]
def fa : List He.Fa := [.glo "is_whole", .glo "divisor", .glo "is_ratio", .glo "is_name", .glo "lowest", .glo "plus", .glo "is_less", .glo "most_of", .glo "sum_of", .glo "is_length", .glo "is_worth", .glo "is_tie", .glo "look_at_places", .glo "look_at_ties", .glo "look_at_web", .glo "is_tie_number", .glo "is_purse", .glo "look_at_purse", .glo "worth_in", .glo "fits", .glo "at_once", .glo "askable", .glo "are_cases_of", .glo "measures_in", .glo "behind", .glo "gone_along", .glo "wrong_at", .glo "is_way", .glo "common_of", .glo "whole_of", .glo "nearest", .glo "reached", .glo "way_back", .glo "least_by", .glo "side_in", .glo "look_at_size", .glo "is_longer", .glo "look_at_adds", .glo "longer_lengths", .glo "claim_of_longer", .glo "best_longer", .glo "_law_begun", .glo "_law_take", .glo "_law_low", .glo "_law_plus", .glo "_law_under", .glo "_law_amount", .glo "_law_names", .glo "_law_tie", .glo "_law_web", .glo "_law_cheapest", .glo "_law_purse", .glo "_law_worth", .glo "_law_steps", .glo "_law_go", .glo "_law_can", .glo "_law_paper", .glo "_law_adds", .glo "_law_lengths", .glo "_law_other_way", .glo "_law_other_cases", .glo "_law_spoilt", .glo "_law_wholes", .glo "_law_far", .glo "_law_takings", .glo "_law_told", .glo "_law_longest", .glo "law", .glo "CutError", .glo "NoPurse", .glo "TooMany", .glo "NoAdds", .glo "NoWeb", .glo "NoCases", .glo "Kind", .glo "LongWays", .glo "LongSearch", .glo "NOUGHT", .free "ValueError", .free "abs", .free "bool", .free "dict", .free "enumerate", .free "int", .free "isinstance", .free "len", .free "list", .free "max", .free "min", .free "range", .free "sorted", .free "str", .free "tuple", .free "zip", .int "MOST_SIGNS" 8, .int "LEAST_PLACES" 2, .int "MOST_PLACES" 7, .int "MOST_TIES" 14, .int "MOST_AT_ONCE" 3, .str "LETTERS" "abcdefghijklmnopqrstuvwxyz", .cls "LongWays", .mkr "LongWays", .noat "LongWays" "long_web", .noat "LongWays" "more", .cls "LongSearch", .mkr "LongSearch", .noat "LongSearch" "looked_web", .noat "LongSearch" "put_on", .noat "LongSearch" "limit", .noat "LongSearch" "ends", .meth "LongWays" "word", .meth "LongWays" "is_one", .meth "LongWays" "ties_of", .meth "LongWays" "measure", .meth "LongSearch" "go_on", .exm "NoCases" "NoCases" true, .noat "NoCases" "path"]
def names0 : List PySem.Str := [PySem.Str.ofString "CutError", PySem.Str.ofString "NoPurse", PySem.Str.ofString "TooMany", PySem.Str.ofString "NoAdds", PySem.Str.ofString "NoWeb", PySem.Str.ofString "NoCases", PySem.Str.ofString "LETTERS", PySem.Str.ofString "MOST_SIGNS", PySem.Str.ofString "is_whole", PySem.Str.ofString "divisor", PySem.Str.ofString "is_ratio", PySem.Str.ofString "is_name", PySem.Str.ofString "NOUGHT", PySem.Str.ofString "lowest", PySem.Str.ofString "plus", PySem.Str.ofString "is_less", PySem.Str.ofString "most_of", PySem.Str.ofString "sum_of", PySem.Str.ofString "LEAST_PLACES", PySem.Str.ofString "MOST_PLACES", PySem.Str.ofString "MOST_TIES", PySem.Str.ofString "is_length", PySem.Str.ofString "is_worth", PySem.Str.ofString "is_tie", PySem.Str.ofString "look_at_places", PySem.Str.ofString "look_at_ties", PySem.Str.ofString "look_at_web", PySem.Str.ofString "is_tie_number", PySem.Str.ofString "is_purse", PySem.Str.ofString "look_at_purse", PySem.Str.ofString "worth_in", PySem.Str.ofString "fits", PySem.Str.ofString "at_once", PySem.Str.ofString "Kind", PySem.Str.ofString "askable"]
def names1 : List PySem.Str := [PySem.Str.ofString "are_cases_of", PySem.Str.ofString "measures_in", PySem.Str.ofString "behind", PySem.Str.ofString "gone_along", PySem.Str.ofString "wrong_at", PySem.Str.ofString "is_way", PySem.Str.ofString "common_of", PySem.Str.ofString "whole_of", PySem.Str.ofString "nearest", PySem.Str.ofString "reached", PySem.Str.ofString "way_back", PySem.Str.ofString "least_by", PySem.Str.ofString "side_in", PySem.Str.ofString "MOST_AT_ONCE", PySem.Str.ofString "look_at_size", PySem.Str.ofString "is_longer", PySem.Str.ofString "look_at_adds", PySem.Str.ofString "longer_lengths", PySem.Str.ofString "LongWays", PySem.Str.ofString "claim_of_longer", PySem.Str.ofString "LongSearch", PySem.Str.ofString "best_longer", PySem.Str.ofString "_law_begun", PySem.Str.ofString "_law_take", PySem.Str.ofString "_law_low", PySem.Str.ofString "_law_plus", PySem.Str.ofString "_law_under", PySem.Str.ofString "_law_amount", PySem.Str.ofString "_law_names", PySem.Str.ofString "_law_tie", PySem.Str.ofString "_law_web", PySem.Str.ofString "_law_cheapest", PySem.Str.ofString "_law_purse", PySem.Str.ofString "_law_worth", PySem.Str.ofString "_law_steps"]
def names2 : List PySem.Str := [PySem.Str.ofString "_law_go", PySem.Str.ofString "_law_can", PySem.Str.ofString "_law_paper", PySem.Str.ofString "_law_adds", PySem.Str.ofString "_law_lengths", PySem.Str.ofString "_law_along", PySem.Str.ofString "_law_other_way", PySem.Str.ofString "_law_other_cases", PySem.Str.ofString "_law_spoilt", PySem.Str.ofString "_law_wholes", PySem.Str.ofString "_law_far", PySem.Str.ofString "_law_takings", PySem.Str.ofString "_law_told", PySem.Str.ofString "_law_longest"]
def names : List PySem.Str := names0 ++ names1 ++ names2
/-! ### the class NoCases, by one Bool -/
def oexB (K : PySem.W.Frag) (C : Addr) : Bool := match K.lookup C with
  | some ⟨.type "type", _, .cls cd, sl⟩ => (match cd.mro, sl.toList with
    | .ref C' :: bm, [_, _, _, _, some (.builtin n), _] => C' == C && (n == "ValueError.__new__" && (!cd.hasDel && (cd.hasDict && PySem.HandSPX.refsVE bm)))
    | _, _ => false)
  | _ => false
theorem oexB_ok {K : PySem.W.Frag} {C : Addr} (q : oexB K C = true) : ∃ nm q N bs bm sn sub ab col dd k0 k1 k2 k3 k5, K.lookup C = some (excClassObj nm q C N bs bm true sn sub ab col dd k0 k1 k2 k3 k5 "ValueError.__new__") ∧ PySem.HandSPX.refsVE bm = true := by
  unfold oexB at q
  split at q
  · rename_i dd cd sl ho
    split at q
    · rename_i C' bm k0 k1 k2 k3 n k5 hm hs
      simp only [Bool.and_eq_true, beq_iff_eq, Bool.not_eq_true'] at q
      obtain ⟨rfl, rfl, hdel, hdict, hbm⟩ := q
      obtain ⟨nm, bs, mro, ns, qn, hd, sn, sub, ab, col, del⟩ := cd
      dsimp only at hm hdel hdict
      subst hm hdel hdict
      have hsl : sl = #[k0, k1, k2, k3, some (.builtin "ValueError.__new__"), k5] := by
        obtain ⟨l⟩ := sl
        simp only at hs
        rw [hs]
      subst hsl
      exact ⟨nm, qn, ns, bs, bm, sn, sub, ab, col, dd, k0, k1, k2, k3, k5, ho, hbm⟩
    · cases q
  · cases q
def exB (K : PySem.W.Frag) : Bool :=
  He.tupB K "NOUGHT" [.int 0, .int 1] && (oexB K (He.ga K "NoCases") && (He.eqO (PySem.W.findIn K (.ref (He.ga K "NoCases")) "__setattr__") (some (some (.builtin "object.__setattr__"))) &&
    (decide (PySem.W.subIn K (.ref (He.ga K "NoCases")) (.type "BaseException") = some true) && (decide (PySem.W.typeIn K (.ref (He.ga K "NoCases")) = some (.type "type")) && (PySem.W.keepIn K (.ref (He.ga K "NoCases")) &&
    (He.eqO (PySem.W.findIn K (.ref (He.ga K "NoCases")) "__init__") (some (some (.ref (He.ma K (He.ga K "NoCases") "__init__")))) && decide (PySem.W.typeIn K (.ref (He.ma K (He.ga K "NoCases") "__init__")) = some (.type "function"))))))))
/-- what the walk is told of the module, as the top leaves it -/
structure Tx (K : PySem.W.Frag) (mg : Str → Option Value) : Prop where
  fa : ∀ f ∈ fa, f.ok K = true
  fn : ∀ d ∈ fn, ∃ fd, FunD K d.name d.qual d.params d.body d.scope (d.dvs K) (d.kws K) (He.fAd K d.at_) fd
  glo : ∀ x, (He.Fa.glo x).ok K = true → mg x = some (.ref (He.ga K x))
  free : ∀ x, (He.Fa.free x).ok K = true → mg x = none
  int : ∀ x i, (He.Fa.int x i).ok K = true → ∃ t, mg x = some (.int i t)
  str : ∀ x z, (He.Fa.str x z).ok K = true → ∃ t, mg x = some (.str z t)
  ex : exB K = true
abbrev R : PySem.W.OpenRow := PySem.W.OpenLaw.row PySem.Challenge.rw_farthestcut_k47_whole_no_lengthening_lea
/-! ### the Hook: all objects of the heap, the last ones ahead -/
def frR (g : Addr → Option Obj) : PySem.W.Frag := He.frG g (mainGlobals :: (List.range 700).reverse)
abbrev AlR : Type := He.AlD × Bool
def obsR (g : Addr → Option Obj) : AlR := (He.obsD fa fn (frR g), exB (frR g))
def valR : AlR := (He.valD fn, true)
structure SaysR (K : PySem.W.Frag) : Prop where
  d : He.SaysD fa fn K
  more : exB K = true
abbrev hk : PySem.W.Hook where
  α := AlR
  obs := fun s => obsR s.heap.get?
  val := fun _ => valR
  says := fun _ h => ∃ K : PySem.W.Frag, K.In h ∧ SaysR K
  of := fun _ _ e => ⟨_, He.frG_in, congrArg (fun z : AlR => z.1) e, congrArg (fun z : AlR => z.2) e⟩
  keeps := fun _ _ _ ⟨K, hK, c⟩ k => ⟨K, PySem.W.Frag.In.keeps hK k, c⟩
def ob (s : PySem.W.SharedT) : AlR := obsR (HandSHeadRun.getT s)
theorem ob_eq (s : PySem.W.SharedT) : ob s = hk.obs s.abs := by
  have e : HandSHeadRun.getT s = s.abs.heap.get? := funext (HandSHeadRun.getT_eq s)
  show obsR (HandSHeadRun.getT s) = obsR s.abs.heap.get?
  rw [e]
theorem run (w : World) : HandSHeadRun.RunEq R (PySem.W.view R.prog [97]) hk ob 8000 names w := by
  intro os
  kernel_rfl
theorem tx {K : PySem.W.Frag} {h : Heap} {mg : Str → Option Value} (X : K.In h) (G : h.Ns mainGlobals mg) (c : SaysR K) : Tx K mg where
  fa := fun f hf => c.d.facts hf
  fn := fun d hd => c.d.defs hd
  glo := fun x => He.glo_ok X G
  free := fun x => He.free_ok X G
  int := fun x i => He.int_ok X G
  str := fun x i => He.str_ok X G
  ex := c.more
end FC
set_option autoImplicit false
/-! THE LOGIC: data D, how the abstract heap bears them, worlds, judgements on data. -/
namespace FC
open PySem PySem.Spec L2
/-! ### data -/
inductive Ty where
  | int | bool | str | tuple | list
def Ty.nm : Ty → String
  | .int => "int"
  | .bool => "bool"
  | .str => "str"
  | .tuple => "tuple"
  | .list => "list"
inductive D where
  | non | bl (b : Bool) | int (i : Int) | str (x : Str)
  | lst (xs : List D) | tup (xs : List D) | dic (ks : List Str) (vs : List D)
  | scr (ns : List Int) | adr (a : Addr) | ty (t : Ty) | opq
mutual
def Rep (K : PySem.W.Frag) (I : Hp) : D → V → Prop
  | .non, v => v = .non
  | .bl b, v => v = .bl b
  | .int i, v => v = .int i
  | .str x, v => v = .str x
  | .lst ds, v => ∃ a vs, v = .ref a ∧ I a = some (.lst vs) ∧ Reps K I ds vs
  | .tup ds, v => ∃ a vs, v = .ref a ∧ SqT K I a vs ∧ Reps K I ds vs
  | .dic ks ds, v => ∃ a vs, v = .ref a ∧ I a = some (.dK ((ks.map Sum.inr).zip vs)) ∧ ks.length = ds.length ∧ Reps K I ds vs
  | .scr ns, v => ∃ a, v = .ref a ∧ SqL K I a (ns.map V.int)
  | .adr a, v => v = .ref a
  | .ty t, v => v = .ty t.nm
  | .opq, _ => True
def Reps (K : PySem.W.Frag) (I : Hp) : List D → List V → Prop
  | [], vs => vs = []
  | d :: ds, vs => ∃ v r, vs = v :: r ∧ Rep K I d v ∧ Reps K I ds r
end
theorem Same.tup {K : PySem.W.Frag} {H H' : Hp} {a : Addr} {xs : List V} (e : Same H H') (h : SqT K H a xs) : SqT K H' a xs := by
  rcases h with (h | ⟨o, h⟩) | h
  · exact .inl (.inl (e _ _ h))
  · exact .inl (.inr ⟨o, e _ _ h⟩)
  · exact .inr h
section
variable {K : PySem.W.Frag} {I I' : Hp}
mutual
theorem Rep.mono (e : Same I I') : ∀ {d : D} {v : V}, Rep K I d v → Rep K I' d v
  | .non, _, h => h
  | .bl _, _, h => h
  | .int _, _, h => h
  | .str _, _, h => h
  | .lst ds, _, h => by
    obtain ⟨a, vs, h1, h2, h3⟩ := h
    exact ⟨a, vs, h1, e _ _ h2, Reps.mono e h3⟩
  | .tup ds, _, h => by
    obtain ⟨a, vs, h1, h2, h3⟩ := h
    exact ⟨a, vs, h1, Same.tup e h2, Reps.mono e h3⟩
  | .dic ks ds, _, h => by
    obtain ⟨a, vs, h1, h2, h4, h3⟩ := h
    exact ⟨a, vs, h1, e _ _ h2, h4, Reps.mono e h3⟩
  | .scr ns, _, h => by
    obtain ⟨a, h1, h2⟩ := h
    exact ⟨a, h1, Same.seq e h2⟩
  | .adr a, _, h => h
  | .ty t, _, h => h
  | .opq, _, h => h
theorem Reps.mono (e : Same I I') : ∀ {ds : List D} {vs : List V}, Reps K I ds vs → Reps K I' ds vs
  | [], _, h => h
  | d :: ds, _, h => by
    obtain ⟨v, r, h1, h2, h3⟩ := h
    exact ⟨v, r, h1, Rep.mono e h2, Reps.mono e h3⟩
end
theorem Reps.length : ∀ {ds : List D} {vs : List V}, Reps K I ds vs → vs.length = ds.length
  | [], _, h => by cases h; rfl
  | d :: ds, _, h => by
    obtain ⟨v, r, rfl, _, h3⟩ := h
    rw [List.length_cons, List.length_cons, Reps.length h3]
theorem Reps.get : ∀ {ds : List D} {vs : List V} {i : Nat} {d : D}, Reps K I ds vs → ds[i]? = some d → ∃ v, vs[i]? = some v ∧ Rep K I d v
  | [], _, i, d, _, e => by simp at e
  | d :: ds, _, 0, d', h, e => by
    obtain ⟨v, r, rfl, h2, h3⟩ := h
    cases e
    exact ⟨v, rfl, h2⟩
  | d :: ds, _, i + 1, d', h, e => by
    obtain ⟨v, r, rfl, h2, h3⟩ := h
    exact Reps.get (i := i) h3 e
theorem Reps.got {ds : List D} {vs : List V} {i : Nat} {v : V} (h : Reps K I ds vs) (e : vs[i]? = some v) : ∃ d, ds[i]? = some d ∧ Rep K I d v := by
  have hi : i < ds.length := by rw [← h.length]; exact (List.getElem?_eq_some_iff.mp e).1
  obtain ⟨v', e', r⟩ := h.get (List.getElem?_eq_getElem hi)
  rw [e] at e'
  cases e'
  exact ⟨_, List.getElem?_eq_getElem hi, r⟩
theorem Reps.append : ∀ {ds es : List D} {vs ws : List V}, Reps K I ds vs → Reps K I es ws → Reps K I (ds ++ es) (vs ++ ws)
  | [], _, _, _, h, k => by cases h; exact k
  | d :: ds, _, _, _, h, k => by
    obtain ⟨v, r, rfl, h2, h3⟩ := h
    exact ⟨v, r ++ _, rfl, h2, Reps.append h3 k⟩
theorem Reps.one {d : D} {v : V} (h : Rep K I d v) : Reps K I [d] [v] := ⟨v, [], rfl, h, rfl⟩
theorem Reps.drop : ∀ (n : Nat) {ds : List D} {vs : List V}, Reps K I ds vs → Reps K I (ds.drop n) (vs.drop n)
  | 0, _, _, h => h
  | _ + 1, [], _, h => by cases h; rfl
  | n + 1, d :: ds, _, h => by
    obtain ⟨v, r, rfl, h2, h3⟩ := h
    exact Reps.drop n h3
theorem Reps.take : ∀ (n : Nat) {ds : List D} {vs : List V}, Reps K I ds vs → Reps K I (ds.take n) (vs.take n)
  | 0, _, _, h => rfl
  | _ + 1, [], _, h => by cases h; rfl
  | n + 1, d :: ds, _, h => by
    obtain ⟨v, r, rfl, h2, h3⟩ := h
    exact ⟨v, r.take n, rfl, h2, Reps.take n h3⟩
theorem Reps.set : ∀ (n : Nat) {ds : List D} {vs : List V} {d : D} {v : V}, Reps K I ds vs → Rep K I d v → Reps K I (ds.set n d) (vs.set n v)
  | _, [], _, _, _, h, _ => by cases h; rfl
  | 0, d :: ds, _, _, _, h, k => by
    obtain ⟨v, r, rfl, h2, h3⟩ := h
    exact ⟨_, r, rfl, k, h3⟩
  | n + 1, d :: ds, _, _, _, h, k => by
    obtain ⟨v, r, rfl, h2, h3⟩ := h
    exact ⟨v, _, rfl, h2, Reps.set n h3 k⟩
theorem Reps.erase : ∀ (n : Nat) {ds : List D} {vs : List V}, Reps K I ds vs → Reps K I (ds.eraseIdx n) (vs.eraseIdx n)
  | _, [], _, h => by cases h; rfl
  | 0, d :: ds, _, h => by
    obtain ⟨v, r, rfl, h2, h3⟩ := h
    exact h3
  | n + 1, d :: ds, _, h => by
    obtain ⟨v, r, rfl, h2, h3⟩ := h
    exact ⟨v, _, rfl, h2, Reps.erase n h3⟩
theorem Reps.rev {ds : List D} {vs : List V} (h : Reps K I ds vs) : Reps K I ds.reverse vs.reverse := by
  induction ds generalizing vs with
  | nil => cases h; exact rfl
  | cons d ds ih =>
    obtain ⟨v, r, rfl, h2, h3⟩ := h
    rw [List.reverse_cons, List.reverse_cons]
    exact Reps.append (ih h3) (.one h2)
theorem Reps.ints : ∀ {ns : List Int} {vs : List V}, Reps K I (ns.map D.int) vs → vs = ns.map V.int
  | [], _, h => h
  | n :: ns, _, h => by
    obtain ⟨v, r, rfl, h2, h3⟩ := h
    rw [List.map_cons, ← Reps.ints h3, show v = V.int n from h2]
theorem Reps.of_ints : ∀ {ns : List Int}, Reps K I (ns.map D.int) (ns.map V.int)
  | [] => rfl
  | n :: ns => ⟨_, _, rfl, rfl, Reps.of_ints⟩
theorem Reps.strs : ∀ {ns : List Str} {vs : List V}, Reps K I (ns.map D.str) vs → vs = ns.map V.str
  | [], _, h => h
  | n :: ns, _, h => by
    obtain ⟨v, r, rfl, h2, h3⟩ := h
    rw [List.map_cons, ← Reps.strs h3, show v = V.str n from h2]
end
/-! ### mutable objects -/
inductive MO where
  | l (ds : List D) | d (kvs : List (Str × D)) | i (C : Addr) (fs : List (Str × D)) | k (x : Obj) (kvs : List (Str × D)) (vs : List (Key × V))
abbrev Mu := List (Addr × MO)
def RepK (K : PySem.W.Frag) (I : Hp) : List (Str × D) → List (Key × V) → Prop
  | [], ys => ys = []
  | (k, d) :: r, ys => ∃ v s, ys = (Sum.inr k, v) :: s ∧ Rep K I d v ∧ RepK K I r s
def RepF (K : PySem.W.Frag) (I : Hp) : List (Str × D) → List (Str × V) → Prop
  | [], ys => ys = []
  | (k, d) :: r, ys => ∃ v s, ys = (k, v) :: s ∧ Rep K I d v ∧ RepF K I r s
def MOk (K : PySem.W.Frag) (I H : Hp) (a : Addr) : MO → Prop
  | .l ds => ∃ vs, H a = some (.lst vs) ∧ Reps K I ds vs
  | .d kvs => ∃ vs, H a = some (.dK vs) ∧ RepK K I kvs vs
  | .i C fs => ∃ dx vs, H a = some (.ins C dx vs) ∧ RepF K I fs vs
  | .k x kvs vs => H a = some (.frz x (.dK vs)) ∧ RepK K I kvs vs
section
variable {K : PySem.W.Frag} {I I' H H' : Hp} {a : Addr}
theorem RepK.mono (e : Same I I') : ∀ {ds : List (Str × D)} {vs : List (Key × V)}, RepK K I ds vs → RepK K I' ds vs
  | [], _, h => h
  | (k, d) :: ds, _, h => by
    obtain ⟨v, r, h1, h2, h3⟩ := h
    exact ⟨v, r, h1, Rep.mono e h2, RepK.mono e h3⟩
theorem RepF.mono (e : Same I I') : ∀ {ds : List (Str × D)} {vs : List (Str × V)}, RepF K I ds vs → RepF K I' ds vs
  | [], _, h => h
  | (k, d) :: ds, _, h => by
    obtain ⟨v, r, h1, h2, h3⟩ := h
    exact ⟨v, r, h1, Rep.mono e h2, RepF.mono e h3⟩
theorem MOk.mono (e : Same I I') (k : H' a = H a) : ∀ {m : MO}, MOk K I H a m → MOk K I' H' a m
  | .l ds, h => by
    obtain ⟨vs, h1, h2⟩ := h
    exact ⟨vs, k.trans h1, h2.mono e⟩
  | .d ds, h => by
    obtain ⟨vs, h1, h2⟩ := h
    exact ⟨vs, k.trans h1, h2.mono e⟩
  | .i C ds, h => by
    obtain ⟨dx, vs, h1, h2⟩ := h
    exact ⟨dx, vs, k.trans h1, h2.mono e⟩
  | .k x ds vs, h => by
    obtain ⟨h1, h2⟩ := h
    exact ⟨k.trans h1, h2.mono e⟩
theorem MOk.some {m : MO} (h : MOk K I H a m) : ∃ o, H a = some o := by
  cases m with
  | l ds => obtain ⟨vs, h1, _⟩ := h; exact ⟨_, h1⟩
  | d ds => obtain ⟨vs, h1, _⟩ := h; exact ⟨_, h1⟩
  | i C ds => obtain ⟨dx, vs, h1, _⟩ := h; exact ⟨_, h1⟩
  | k x ds vs => obtain ⟨h1, _⟩ := h; exact ⟨_, h1⟩
end
/-! ### worlds: I the part that never changes, H all, mu what may change -/
def dom (m : Mu) : List Addr := m.map (·.1)
structure Wd (K : PySem.W.Frag) (I H : Hp) (m : Mu) : Prop where
  sub : Same I H
  mo : ∀ p ∈ m, I p.1 = none ∧ MOk K I H p.1 p.2
  nd : (dom m).Nodup
structure Tr (mu mu' : Mu) (I H I' H' : Hp) : Prop where
  i : Same I I'
  k : ∀ a o, H a = some o → a ∉ dom mu → H' a = some o
  f : ∀ a, H a ≠ none → a ∉ dom mu → I a = none → I' a = none
  g : ∀ a, H a ≠ none → H' a ≠ none
  m : ∀ a ∈ dom mu', a ∈ dom mu ∨ H a = none
  al : ∀ a ∈ dom mu, H a ≠ none
structure Og where
  I : Hp
  H : Hp
  m : Mu
structure Wo (K : PySem.W.Frag) (o : Og) (I H : Hp) (m : Mu) : Prop where
  w : Wd K I H m
  t : Tr o.m m o.I o.H I H
theorem Tr.refl {m : Mu} {I H : Hp} (h : ∀ a ∈ dom m, H a ≠ none) : Tr m m I H I H := ⟨Same.refl I, fun _ _ h _ => h, fun _ _ _ h => h, fun _ h => h, fun _ h => .inl h, h⟩
theorem same_upd {H : Hp} {p : Addr} {o : HO} (h : H p = none) : Same H (upd H p o) := fun a u e => by
  rw [upd_ne (ne_of_none e h)]
  exact e
theorem mem_dom {m : Mu} {p : Addr × MO} (h : p ∈ m) : p.1 ∈ dom m := List.mem_map.mpr ⟨p, h, rfl⟩
theorem of_dom {m : Mu} {a : Addr} (h : a ∈ dom m) : ∃ x, (a, x) ∈ m := by
  obtain ⟨⟨b, x⟩, h1, rfl⟩ := List.mem_map.mp h
  exact ⟨x, h1⟩
theorem nodup_get {α : Type} {l : List α} (h : l.Nodup) {i j : Nat} {x : α} (a : l[i]? = some x) (b : l[j]? = some x) : i = j := by
  obtain ⟨h1, e1⟩ := List.getElem?_eq_some_iff.mp a
  obtain ⟨h2, e2⟩ := List.getElem?_eq_some_iff.mp b
  exact (List.getElem_inj h).mp (e1.trans e2.symm)
section
variable {K : PySem.W.Frag} {o : Og} {I H : Hp} {m : Mu} {p a : Addr} {x : HO}
theorem Wd.hne (w : Wd K I H m) {a : Addr} (h : a ∈ dom m) : ∃ u, H a = some u := by
  obtain ⟨y, h1⟩ := of_dom h
  exact (w.mo _ h1).2.some
theorem Wd.hI (w : Wd K I H m) {a : Addr} (h : a ∈ dom m) : I a = none := by
  obtain ⟨y, h1⟩ := of_dom h
  exact (w.mo _ h1).1
theorem Wd.iN (w : Wd K I H m) (h : H p = none) : I p = none := Same.free w.sub h
/-- a new object that never changes -/
theorem Wo.new (w : Wo K o I H m) (h : H p = none) (x : HO) : Wo K o (upd I p x) (upd H p x) m := by
  obtain ⟨w, t⟩ := w
  have iN := w.iN h
  have ei : Same I (upd I p x) := same_upd iN
  refine ⟨⟨fun a u e => ?_, fun q hq => ?_, w.nd⟩, ⟨t.i.trans ei, fun a u e ha => ?_, fun a ha hm hi => ?_, fun a ha => ?_, t.m, t.al⟩⟩
  · by_cases q : a = p
    · subst q
      rw [upd_same] at e ⊢
      exact e
    · rw [upd_ne q] at e ⊢
      exact w.sub a u e
  · obtain ⟨h1, h2⟩ := w.mo q hq
    obtain ⟨u, hu⟩ := h2.some
    have ne : q.1 ≠ p := ne_of_none hu h
    exact ⟨by rw [upd_ne ne]; exact h1, h2.mono ei (upd_ne ne)⟩
  · have z := t.k a u e ha
    rw [upd_ne (ne_of_none z h)]
    exact z
  · have z := t.g a ha
    have ne : a ≠ p := fun q => z (q ▸ h)
    rw [upd_ne ne]
    exact t.f a ha hm hi
  · have z := t.g a ha
    have ne : a ≠ p := fun q => z (q ▸ h)
    rw [upd_ne ne]
    exact z
/-- a new object that may change -/
theorem Wo.newM (w : Wo K o I H m) (h : H p = none) (x : HO) {y : MO} (hy : MOk K I (upd H p x) p y) : Wo K o I (upd H p x) (m ++ [(p, y)]) := by
  obtain ⟨w, t⟩ := w
  have eh : Same H (upd H p x) := same_upd h
  refine ⟨⟨w.sub.trans eh, fun q hq => ?_, ?_⟩, ⟨t.i, fun a u e ha => eh a u (t.k a u e ha), t.f, fun a ha z => ?_, fun a ha => ?_, t.al⟩⟩
  · rcases List.mem_append.mp hq with hq | hq
    · obtain ⟨h1, h2⟩ := w.mo q hq
      obtain ⟨u, hu⟩ := h2.some
      exact ⟨h1, h2.mono (Same.refl I) (upd_ne (ne_of_none hu h))⟩
    · obtain rfl : q = (p, y) := by simpa using hq
      exact ⟨w.iN h, hy⟩
  · show ((m ++ [(p, y)]).map (·.1)).Nodup
    rw [List.map_append]
    refine List.nodup_append.mpr ⟨w.nd, by simp, fun a ha b hb => ?_⟩
    obtain rfl : b = p := by simpa using hb
    obtain ⟨u, hu⟩ := w.hne ha
    exact ne_of_none hu h
  · have q := t.g a ha
    cases e : H a with
    | none => exact q e
    | some u => rw [eh a u e] at z; cases z
  · have ha : a ∈ (m ++ [(p, y)]).map (·.1) := ha
    rw [List.map_append] at ha
    rcases List.mem_append.mp ha with ha | ha
    · exact t.m a ha
    · obtain rfl : a = p := by simpa using ha
      refine .inr ?_
      cases e : o.H a with
      | none => rfl
      | some u => exact absurd h (t.g a (by rw [e]; simp))
theorem mu_set_dom {m : Mu} {k : Nat} {y z : MO} (h : m[k]? = some (a, y)) : dom (m.set k (a, z)) = dom m := by
  unfold dom
  rw [List.map_set]
  obtain ⟨hk, e⟩ := List.getElem?_eq_some_iff.mp h
  have e2 : (m.map (·.1))[k]? = some a := by rw [List.getElem?_map, h]; rfl
  obtain ⟨hk2, e3⟩ := List.getElem?_eq_some_iff.mp e2
  subst e3
  exact List.set_getElem_self hk2
/-- a change -/
theorem Wo.mut (w : Wo K o I H m) {k : Nat} {y z : MO} (h : m[k]? = some (p, y)) (x : HO) (hz : MOk K I (upd H p x) p z) : Wo K o I (upd H p x) (m.set k (p, z)) := by
  obtain ⟨w, t⟩ := w
  have hm : (p, y) ∈ m := List.mem_of_getElem? h
  have hp : p ∈ dom m := mem_dom hm
  have hI := w.hI hp
  have hd : ∀ b, o.H b ≠ none → b ∉ dom o.m → b ≠ p := fun b hb hn e => by
    subst e
    rcases t.m b hp with q | q
    · exact hn q
    · exact hb q
  refine ⟨⟨fun a u e => ?_, fun q hq => ?_, by rw [mu_set_dom h]; exact w.nd⟩, ⟨t.i, fun a u e ha => ?_, t.f, fun a ha => ?_, fun a ha => t.m a (by rw [mu_set_dom h] at ha; exact ha), t.al⟩⟩
  · rw [upd_ne (ne_of_none e hI)]
    exact w.sub a u e
  · obtain ⟨j, hj, e⟩ := List.mem_iff_getElem.mp hq
    have e' : (m.set k (p, z))[j]? = some q := by rw [List.getElem?_eq_getElem hj, e]
    by_cases jk : j = k
    · subst jk
      rw [List.getElem?_set_self (by rw [List.length_set] at hj; exact hj)] at e'
      cases e'
      exact ⟨hI, hz⟩
    · rw [List.getElem?_set_ne (Ne.symm jk)] at e'
      have hq' := List.mem_of_getElem? e'
      obtain ⟨h1, h2⟩ := w.mo q hq'
      have ne : q.1 ≠ p := fun e2 => jk (nodup_get w.nd (x := p) (by show (m.map (·.1))[j]? = _; rw [List.getElem?_map, e', ← e2]; rfl) (by show (m.map (·.1))[k]? = _; rw [List.getElem?_map, h]; rfl))
      exact ⟨h1, h2.mono (Same.refl I) (upd_ne ne)⟩
  · rw [upd_ne (hd a (by rw [e]; simp) ha)]
    exact t.k a u e ha
  · by_cases e : a = p
    · subst e
      rw [upd_same]
      simp
    · rw [upd_ne e]
      exact t.g a ha
theorem mem_erase {m : Mu} {k : Nat} {q : Addr × MO} (h : q ∈ m.eraseIdx k) : ∃ j, j ≠ k ∧ m[j]? = some q := by
  obtain ⟨j, hj, e⟩ := List.mem_eraseIdx_iff_getElem.mp h
  obtain ⟨h1, h2⟩ := e
  exact ⟨j, h1, by rw [List.getElem?_eq_getElem hj, h2]⟩
/-- what may change is looked at as never changing from here on -/
theorem Wo.frz (w : Wo K o I H m) {k : Nat} {y : MO} (h : m[k]? = some (p, y)) (hn : p ∉ dom o.m) (e : H p = some x) : Wo K o (upd I p x) H (m.eraseIdx k) ∧ Same I (upd I p x) := by
  obtain ⟨w, t⟩ := w
  have hm : (p, y) ∈ m := List.mem_of_getElem? h
  have hp : p ∈ dom m := mem_dom hm
  have hI := w.hI hp
  have ei : Same I (upd I p x) := same_upd hI
  have h0 : o.H p = none := (t.m p hp).resolve_left hn
  have sb : ∀ q ∈ m.eraseIdx k, q ∈ m ∧ q.1 ≠ p := fun q hq => by
    obtain ⟨j, jk, e'⟩ := mem_erase hq
    exact ⟨List.mem_of_getElem? e', fun e2 => jk (nodup_get w.nd (x := p) (by show (m.map (·.1))[j]? = _; rw [List.getElem?_map, e', ← e2]; rfl) (by show (m.map (·.1))[k]? = _; rw [List.getElem?_map, h]; rfl))⟩
  refine ⟨⟨⟨fun a u e' => ?_, fun q hq => ?_, ?_⟩, ⟨t.i.trans ei, t.k, fun a ha hb hc => ?_, t.g, fun a ha => ?_, t.al⟩⟩, ei⟩
  · by_cases q : a = p
    · subst q
      rw [upd_same] at e'
      rw [e, e']
    · rw [upd_ne q] at e'
      exact w.sub a u e'
  · obtain ⟨h1, h2⟩ := sb q hq
    obtain ⟨h3, h4⟩ := w.mo q h1
    exact ⟨by rw [upd_ne h2]; exact h3, h4.mono ei rfl⟩
  · show ((m.eraseIdx k).map (·.1)).Nodup
    exact List.Nodup.sublist ((List.eraseIdx_sublist m k).map _) w.nd
  · have ne : a ≠ p := fun z => ha (z ▸ h0)
    rw [upd_ne ne]
    exact t.f a ha hb hc
  · obtain ⟨y, hy⟩ := of_dom ha
    exact t.m a (mem_dom (sb _ hy).1)
/-- less is told -/
theorem Wo.less (w : Wo K o I H m) {m' : Mu} (h : List.Sublist m' m) : Wo K o I H m' := by
  obtain ⟨w, t⟩ := w
  refine ⟨⟨w.sub, fun q hq => w.mo q (h.subset hq), List.Nodup.sublist (h.map _) w.nd⟩, ⟨t.i, t.k, t.f, t.g, fun a ha => t.m a ?_, t.al⟩⟩
  obtain ⟨y, hy⟩ := of_dom ha
  exact mem_dom (h.subset hy)
theorem Wo.start (w : Wd K I H m) : Wo K ⟨I, H, m⟩ I H m := ⟨w, Tr.refl fun a ha z => by
  obtain ⟨u, hu⟩ := w.hne ha
  cases hu.symm.trans z⟩
/-- behind a call that was handed the part m1 -/
theorem Wo.call {m1 m2 m1' : Mu} {I' H' : Hp} (w : Wo K o I H (m1 ++ m2)) (w' : Wd K I' H' m1') (t' : Tr m1 m1' I H I' H') : Wo K o I' H' (m1' ++ m2) := by
  obtain ⟨w, t⟩ := w
  have nd : (dom m1 ++ dom m2).Nodup := by
    have z := w.nd
    unfold dom at z ⊢
    rw [List.map_append] at z
    exact z
  have d1 : ∀ a, a ∈ dom m1 → a ∈ dom (m1 ++ m2) := fun a ha => by unfold dom at ha ⊢; rw [List.map_append]; exact List.mem_append_left _ ha
  have d2 : ∀ a, a ∈ dom m2 → a ∈ dom (m1 ++ m2) ∧ a ∉ dom m1 := fun a ha => ⟨by unfold dom at ha ⊢; rw [List.map_append]; exact List.mem_append_right _ ha, fun hb => (List.nodup_append.mp nd).2.2 a hb a ha rfl⟩
  have hne : ∀ a, o.H a ≠ none → a ∉ dom o.m → a ∉ dom m1 := fun a h1 h2 h3 => by
    rcases t.m a (d1 a h3) with q | q
    · exact h2 q
    · exact h1 q
  have old : ∀ a, o.H a = none ∨ H a ≠ none := fun a => by
    cases e : o.H a with
    | none => exact .inl rfl
    | some u => exact .inr (t.g a (by rw [e]; simp))
  refine ⟨⟨w'.sub, fun q hq => ?_, ?_⟩, ⟨t.i.trans t'.i, fun a u e ha => t'.k a u (t.k a u e ha) (hne a (by rw [e]; simp) ha), fun a ha hm hi => t'.f a (t.g a ha) (hne a ha hm) (t.f a ha hm hi), fun a ha => t'.g a (t.g a ha), fun a ha => ?_, t.al⟩⟩
  · rcases List.mem_append.mp hq with hq | hq
    · exact w'.mo q hq
    · obtain ⟨h1, h2⟩ := w.mo q (List.mem_append_right _ hq)
      have hd := (d2 q.1 (mem_dom hq)).2
      obtain ⟨u, hu⟩ := h2.some
      exact ⟨t'.f q.1 (by rw [hu]; simp) hd h1, h2.mono t'.i ((t'.k _ _ hu hd).trans hu.symm)⟩
  · show ((m1' ++ m2).map (·.1)).Nodup
    rw [List.map_append]
    refine List.nodup_append.mpr ⟨w'.nd, (List.nodup_append.mp nd).2.1, fun a ha b hb e => ?_⟩
    subst e
    obtain ⟨h1, h2⟩ := d2 a hb
    obtain ⟨u, hu⟩ := w.hne h1
    rcases t'.m a ha with q | q
    · exact h2 q
    · rw [hu] at q
      cases q
  · have ha : a ∈ (m1' ++ m2).map (·.1) := ha
    rw [List.map_append] at ha
    rcases List.mem_append.mp ha with ha | ha
    · rcases t'.m a ha with q | q
      · exact t.m a (d1 a q)
      · rcases old a with z | z
        · exact .inr z
        · exact absurd q z
    · exact t.m a (d2 a ha).1
end
/-! ### slots -/
abbrev Rho := List (Option D)
structure Sl (K : PySem.W.Frag) (I : Hp) (r : Rho) (s : St) : Prop where
  len : r.length = s.length
  at_ : ∀ (i : Nat) (d : D), r[i]? = some (some d) → ∃ v, s[i]? = some (some v) ∧ Rep K I d v
section
variable {K : PySem.W.Frag} {I I' : Hp} {r : Rho} {s : St}
theorem Sl.mono (e : Same I I') (h : Sl K I r s) : Sl K I' r s := ⟨h.len, fun i d q => let ⟨v, h1, h2⟩ := h.at_ i d q; ⟨v, h1, h2.mono e⟩⟩
theorem Sl.set (h : Sl K I r s) (i : Nat) {d : D} {v : V} (hv : Rep K I d v) : Sl K I (r.set i (some d)) (s.set i (some v)) := by
  refine ⟨by rw [List.length_set, List.length_set]; exact h.len, fun j d' q => ?_⟩
  by_cases e : i = j
  · subst e
    rw [List.getElem?_set] at q
    have hi : i < r.length := by
      by_cases z : i < r.length
      · exact z
      · simp [z] at q
    simp [hi] at q
    subst q
    exact ⟨v, by rw [List.getElem?_set_self (by rw [← h.len]; exact hi)], hv⟩
  · rw [List.getElem?_set_ne e] at q
    obtain ⟨v', h1, h2⟩ := h.at_ j d' q
    exact ⟨v', by rw [List.getElem?_set_ne e]; exact h1, h2⟩
theorem Sl.less (h : Sl K I r s) {r' : Rho} (hl : r'.length = r.length) (k : ∀ (i : Nat) (d : D), r'[i]? = some (some d) → r[i]? = some (some d)) : Sl K I r' s := ⟨hl.trans h.len, fun i d q => h.at_ i d (k i d q)⟩
/-- slot i is told otherwise -/
theorem Sl.tell (h : Sl K I r s) {i : Nat} {d : D} (e : ∃ v, s[i]? = some (some v) ∧ Rep K I d v) : Sl K I (r.set i (some d)) s := by
  refine ⟨by rw [List.length_set]; exact h.len, fun j d' q => ?_⟩
  by_cases z : i = j
  · subst z
    rw [List.getElem?_set] at q
    simp at q
    rw [← q.2]
    exact e
  · rw [List.getElem?_set_ne z] at q
    exact h.at_ j d' q
end
/-! ### what is wanted behind a piece -/
abbrev VP := D → Mu → Prop
def Post (K : PySem.W.Frag) (o : Og) (I : Hp) (F : VP) (Q : VK) : Prop := ∀ v d I' H' m', F d m' → Wo K o I' H' m' → Same I I' → Rep K I' d v → Q v H'
theorem Post.mono {K : PySem.W.Frag} {o : Og} {I I' : Hp} {F : VP} {Q : VK} (h : Post K o I F Q) (e : Same I I') : Post K o I' F Q := fun v d I2 H2 m2 f w e2 r => h v d I2 H2 m2 f w (e.trans e2) r
def PostB (K : PySem.W.Frag) (o : Og) (I : Hp) (F : Bool → Mu → Prop) (Q : Bool → Hp → Prop) : Prop := ∀ b I' H' m', F b m' → Wo K o I' H' m' → Same I I' → Q b H'
def PostA (K : PySem.W.Frag) (o : Og) (I : Hp) (F : List D → Mu → Prop) (Q : List V → Hp → Prop) : Prop := ∀ vs ds I' H' m', F ds m' → Wo K o I' H' m' → Same I I' → Reps K I' ds vs → Q vs H'
abbrev DE := Rho → Mu → VP → Prop
abbrev DT := Rho → Mu → (Bool → Mu → Prop) → Prop
abbrev DA := Rho → Mu → (List D → Mu → Prop) → Prop
class LE (K : PySem.W.Frag) (o : Og) (te : TE) (de : outParam DE) : Prop where
  go : ∀ {r m F I H s Q}, Wo K o I H m → Sl K I r s → de r m F → Post K o I F Q → te s H Q
class LT (K : PySem.W.Frag) (o : Og) (te : TT) (de : outParam DT) : Prop where
  go : ∀ {r m F I H s Q}, Wo K o I H m → Sl K I r s → de r m F → PostB K o I F Q → te s H Q
class LA (K : PySem.W.Frag) (o : Og) (te : TA) (de : outParam DA) : Prop where
  go : ∀ {r m F I H s Q}, Wo K o I H m → Sl K I r s → de r m F → PostA K o I F Q → te s H Q
class LR (K : PySem.W.Frag) (o : Og) (tr : R2) (dr : outParam (D → D → Mu → VP → Prop)) : Prop where
  go : ∀ {x y vx vy m F I H Q}, Wo K o I H m → Rep K I x vx → Rep K I y vy → dr x y m F → Post K o I F Q → tr vx vy H Q
class LU (K : PySem.W.Frag) (o : Og) (tr : V → Hp → VK → Prop) (dr : outParam (D → Mu → VP → Prop)) : Prop where
  go : ∀ {x vx m F I H Q}, Wo K o I H m → Rep K I x vx → dr x m F → Post K o I F Q → tr vx H Q
class LC (K : PySem.W.Frag) (o : Og) (tr : List V → Hp → VK → Prop) (dr : outParam (List D → Mu → VP → Prop)) : Prop where
  go : ∀ {xs vs m F I H Q}, Wo K o I H m → Reps K I xs vs → dr xs m F → Post K o I F Q → tr vs H Q
structure DEnds where
  nx : Rho → Mu → Prop
  rt : VP
  bk : Rho → Mu → Prop := fun _ _ => False
  ct : Rho → Mu → Prop := fun _ _ => False
abbrev DS := DEnds → Rho → Mu → Prop
def PostS (K : PySem.W.Frag) (o : Og) (I : Hp) (F : Rho → Mu → Prop) (Q : St → Hp → Prop) : Prop := ∀ r' s' I' H' m', F r' m' → Wo K o I' H' m' → Same I I' → Sl K I' r' s' → Q s' H'
def PostR (K : PySem.W.Frag) (o : Og) (F : VP) (Q : VK) : Prop := ∀ v d I' H' m', F d m' → Wo K o I' H' m' → Rep K I' d v → Q v H'
structure PostE (K : PySem.W.Frag) (o : Og) (I : Hp) (F : DEnds) (Q : Ends) : Prop where
  nx : PostS K o I F.nx Q.nx
  rt : PostR K o F.rt Q.rt
  bk : PostS K o I F.bk Q.bk
  ct : PostS K o I F.ct Q.ct
theorem PostS.mono {K : PySem.W.Frag} {o : Og} {I I' : Hp} {F : Rho → Mu → Prop} {Q : St → Hp → Prop} (h : PostS K o I F Q) (e : Same I I') : PostS K o I' F Q := fun r s I2 H2 m2 f w e2 l => h r s I2 H2 m2 f w (e.trans e2) l
theorem PostE.mono {K : PySem.W.Frag} {o : Og} {I I' : Hp} {F : DEnds} {Q : Ends} (h : PostE K o I F Q) (e : Same I I') : PostE K o I' F Q := ⟨h.nx.mono e, h.rt, h.bk.mono e, h.ct.mono e⟩
class LS (K : PySem.W.Frag) (o : Og) (t : TS) (ds : outParam DS) : Prop where
  go : ∀ {r m I H s} {F : DEnds} {Q : Ends}, Wo K o I H m → Sl K I r s → ds F r m → PostE K o I F Q → t Q s H
/-! ### what a def promises on data -/
abbrev Spc := List D → Mu → VP → (Mu → Prop) → Prop
/-- the promise; C: the class that may be raised -/
def spD (K : PySem.W.Frag) (C : Addr) (n : Nat) (S : Spc) : Sp := fun vs H Q E => vs.length = n ∧ ∃ I m ds F X, Wd K I H m ∧ Reps K I ds vs ∧ S ds m F X ∧
  (∀ v d I' H' m', F d m' → Wd K I' H' m' → Tr m m' I H I' H' → Rep K I' d v → Q v H') ∧ (∀ dd I' H' m', X m' → Wd K I' H' m' → Tr m m' I H I' H' → E (.ref C) dd H')
end FC
/-! THE LOGIC, 2: expressions. -/
namespace FC
open PySem PySem.Spec L2
section
variable {K : PySem.W.Frag} {o : Og}
/-! ### names, constants -/
def dVar (i : Nat) : DE := fun r m F => match r[i]? with
  | some (some d) => F d m
  | _ => False
instance {i : Nat} : LE K o (tVar i) (dVar i) := ⟨fun {r m F I H s Q} w l h q => by
  unfold dVar at h
  split at h
  · rename_i d e
    obtain ⟨v, h1, h2⟩ := l.at_ i d e
    exact ⟨v, h1, q v d I H m h w (Same.refl I) h2⟩
  · exact h.elim⟩
def dC (d : D) : DE := fun _ m F => F d m
instance {i : Int} : LE K o (tC (.int i)) (dC (.int i)) := ⟨fun {r m F I H s Q} w l h q => q _ (.int i) I H m h w (Same.refl I) rfl⟩
instance {i : Bool} : LE K o (tC (.bl i)) (dC (.bl i)) := ⟨fun {r m F I H s Q} w l h q => q _ (.bl i) I H m h w (Same.refl I) rfl⟩
instance {i : Str} : LE K o (tC (.str i)) (dC (.str i)) := ⟨fun {r m F I H s Q} w l h q => q _ (.str i) I H m h w (Same.refl I) rfl⟩
instance : LE K o (tC .non) (dC .non) := ⟨fun {r m F I H s Q} w l h q => q _ .non I H m h w (Same.refl I) rfl⟩
/-- a written tuple of the module -/
def tWt (a : Addr) : TE := tC (.ref a)
class WTup (K : PySem.W.Frag) (a : Addr) (ds : outParam (List D)) : Prop where
  at_ : ∀ I, ∃ vs, SqT K I a vs ∧ Reps K I ds vs
instance {a : Addr} {ds : List D} [t : WTup K a ds] : LE K o (tWt a) (dC (.tup ds)) := ⟨fun {r m F I H s Q} w l h q => by
  obtain ⟨vs, h1, h2⟩ := t.at_ I
  exact q _ (.tup ds) I H m h w (Same.refl I) ⟨a, vs, rfl, h1, h2⟩⟩
/-! ### two operands -/
def dOp (dr : D → D → Mu → VP → Prop) (da db : DE) : DE := fun r m F => da r m fun x m1 => db r m1 fun y m2 => dr x y m2 F
instance {tr : R2} {dr : D → D → Mu → VP → Prop} {ta tb : TE} {da db : DE} [ir : LR K o tr dr] [ia : LE K o ta da] [ib : LE K o tb db] : LE K o (tOp tr ta tb) (dOp dr da db) := ⟨fun {r m F I H s Q} w l h q =>
  ia.go w l h fun vx x I1 H1 m1 h1 w1 e1 rx => ib.go w1 (l.mono e1) h1 fun vy y I2 H2 m2 h2 w2 e2 ry => ir.go w2 (rx.mono e2) ry h2 (q.mono (e1.trans e2))⟩
def dUn (dr : D → Mu → VP → Prop) (da : DE) : DE := fun r m F => da r m fun x m1 => dr x m1 F
instance {tr : V → Hp → VK → Prop} {dr : D → Mu → VP → Prop} {ta : TE} {da : DE} [ir : LU K o tr dr] [ia : LE K o ta da] : LE K o (tUn tr ta) (dUn dr da) := ⟨fun {r m F I H s Q} w l h q =>
  ia.go w l h fun vx x I1 H1 m1 h1 w1 e1 rx => ir.go w1 rx h1 (q.mono e1)⟩
theorem Post.at {K : PySem.W.Frag} {o : Og} {I H : Hp} {F : VP} {Q : VK} {m : Mu} (q : Post K o I F Q) (w : Wo K o I H m) {d : D} {v : V} (h : F d m) (r : Rep K I d v) : Q v H := q v d I H m h w (Same.refl I) r
/-- a new object is handed on -/
theorem Post.new {K : PySem.W.Frag} {o : Og} {I H : Hp} {F : VP} {Q : VK} {m : Mu} (q : Post K o I F Q) (w : Wo K o I H m) {d : D} {p : Addr} {x : HO} (hp : H p = none) (h : F d m) (r : Same I (upd I p x) → Rep K (upd I p x) d (.ref p)) : Q (.ref p) (upd H p x) :=
  q _ d _ _ m h (w.new hp x) (same_upd (w.w.iN hp)) (r (same_upd (w.w.iN hp)))
/-! ### + -/
def rAddA : R2 := fun x y H Q => (∃ i j, x = .int i ∧ y = .int j ∧ Q (.int (i + j)) H) ∨ (∃ a b, x = .str a ∧ y = .str b ∧ a.length + b.length ≤ sizeLine ∧ Q (.str (a ++ b)) H) ∨ rCat x y H Q
theorem op_or {X : Cx} {f : Value → Value → Sem Value} {r1 r2 : R2} (h1 : OpR X f r1) (h2 : OpR X f r2) : OpR X f (fun x y H Q => r1 x y H Q ∨ r2 x y H Q) := fun pins s st H x y v u Q I rx ry h => by
  rcases h with h | h
  · exact h1 pins s st H x y v u Q I rx ry h
  · exact h2 pins s st H x y v u Q I rx ry h
theorem o_add {X : Cx} : OpR X (binaryOp .Add) rAddA := op_or op_add (op_or op_add_str op_cat)
def dAdd : D → D → Mu → VP → Prop
  | .int i, .int j, m, F => F (.int (i + j)) m
  | .str a, .str b, m, F => a.length + b.length ≤ sizeLine ∧ F (.str (a ++ b)) m
  | .lst a, .lst b, m, F => a.length + b.length ≤ sizeLine ∧ F (.lst (a ++ b)) m
  | _, _, _, _ => False
instance : LR K o rAddA dAdd := ⟨fun {x y vx vy m F I H Q} w rx ry h q => by
  unfold dAdd at h
  split at h
  · cases rx; cases ry
    exact .inl ⟨_, _, rfl, rfl, q.at w h rfl⟩
  · cases rx; cases ry
    exact .inr (.inl ⟨_, _, rfl, rfl, h.1, q.at w h.2 rfl⟩)
  · obtain ⟨p, vs, rfl, h1, h2⟩ := rx
    obtain ⟨p', vs', rfl, h1', h2'⟩ := ry
    refine .inr (.inr ⟨p, p', vs, vs', rfl, rfl, w.w.sub _ _ h1, w.w.sub _ _ h1', by rw [h2.length, h2'.length]; exact h.1, fun a ha => q.new w ha h.2 fun e => ⟨a, _, rfl, upd_same, (h2.mono e).append (h2'.mono e)⟩⟩)
  · exact h.elim⟩
/-! ### -, *, %, //, ** -/
def rSubI : R2 := rI0 fun i j => .int (i - j)
theorem o_sub {X : Cx} : OpR X (binaryOp .Sub) rSubI := op_sub
def dSub : D → D → Mu → VP → Prop
  | .int i, .int j, m, F => F (.int (i - j)) m
  | _, _, _, _ => False
instance : LR K o rSubI dSub := ⟨fun {x y vx vy m F I H Q} w rx ry h q => by
  unfold dSub at h
  split at h
  · cases rx; cases ry
    exact ⟨_, _, rfl, rfl, q.at w h rfl⟩
  · exact h.elim⟩
def rMulI : R2 := rI CMulW fun i j => .int (i * j)
theorem o_mul {X : Cx} : OpR X (binaryOp .Mult) rMulI := op_mulW
def dMul : D → D → Mu → VP → Prop
  | .int i, .int j, m, F => CMulW i j ∧ F (.int (i * j)) m
  | _, _, _, _ => False
instance : LR K o rMulI dMul := ⟨fun {x y vx vy m F I H Q} w rx ry h q => by
  unfold dMul at h
  split at h
  · cases rx; cases ry
    exact ⟨_, _, rfl, rfl, h.1, q.at w h.2 rfl⟩
  · exact h.elim⟩
def rModI : R2 := rI (fun _ j => j ≠ 0) fun i j => .int (i.fmod j)
theorem o_mod {X : Cx} : OpR X (binaryOp .Mod) rModI := op_modN
def dMod : D → D → Mu → VP → Prop
  | .int i, .int j, m, F => 0 < j ∧ F (.int (i % j)) m
  | _, _, _, _ => False
instance : LR K o rModI dMod := ⟨fun {x y vx vy m F I H Q} w rx ry h q => by
  unfold dMod at h
  split at h
  · cases rx; cases ry
    obtain ⟨h1, h2⟩ := h
    refine ⟨_, _, rfl, rfl, by omega, ?_⟩
    have e : ∀ i j : Int, 0 < j → i.fmod j = i % j := fun i j hj => Int.fmod_eq_emod_of_nonneg i (by omega)
    show Q (.int (Int.fmod _ _)) H
    rw [e _ _ h1]
    exact q.at w h2 rfl
  · exact h.elim⟩
def rDivI : R2 := rI CDivW fun i j => .int (i / j)
theorem o_fdiv {X : Cx} : OpR X (binaryOp .FloorDiv) rDivI := op_fdivW
def dDiv : D → D → Mu → VP → Prop
  | .int i, .int j, m, F => CDivW i j ∧ F (.int (i / j)) m
  | _, _, _, _ => False
instance : LR K o rDivI dDiv := ⟨fun {x y vx vy m F I H Q} w rx ry h q => by
  unfold dDiv at h
  split at h
  · cases rx; cases ry
    exact ⟨_, _, rfl, rfl, h.1, q.at w h.2 rfl⟩
  · exact h.elim⟩
def CPowW (i j : Int) : Prop := 0 ≤ j ∧ (Builtin.Int.intBits i : Int) * j ≤ 2 ^ 27
def rPowI : R2 := rI CPowW fun i j => .int (i ^ j.toNat)
theorem o_pow {X : Cx} : OpR X (binaryOp .Pow) rPowI := opI fun i j _ _ _ _ _ hc q => PyProof.Rows.pow_int hc.1 hc.2 q
def dPow : D → D → Mu → VP → Prop
  | .int i, .int j, m, F => CPowW i j ∧ F (.int (i ^ j.toNat)) m
  | _, _, _, _ => False
instance : LR K o rPowI dPow := ⟨fun {x y vx vy m F I H Q} w rx ry h q => by
  unfold dPow at h
  split at h
  · cases rx; cases ry
    exact ⟨_, _, rfl, rfl, h.1, q.at w h.2 rfl⟩
  · exact h.elim⟩
def rNegI : V → Hp → VK → Prop := rU fun i => .int (-i)
theorem o_neg {X : Cx} : UnR X (unaryOp .USub) rNegI := un_neg
def dNeg : D → Mu → VP → Prop
  | .int i, m, F => F (.int (-i)) m
  | _, _, _ => False
instance : LU K o rNegI dNeg := ⟨fun {x vx m F I H Q} w rx h q => by
  unfold dNeg at h
  split at h
  · cases rx
    exact ⟨_, rfl, q.at w h rfl⟩
  · exact h.elim⟩
/-! ### comparisons -/
def rLtI : R2 := rI0 fun i j => .bl (decide (i < j))
def rLeI : R2 := rI0 fun i j => .bl (decide (i ≤ j))
def rGtI : R2 := rI0 fun i j => .bl (decide (j < i))
def rGeI : R2 := rI0 fun i j => .bl (decide (j ≤ i))
theorem o_lt {X : Cx} : OpR X (compareOp .Lt) rLtI := op_lt
theorem o_le {X : Cx} : OpR X (compareOp .LtE) rLeI := op_le
theorem o_gt {X : Cx} : OpR X (compareOp .Gt) rGtI := op_gt
theorem o_ge {X : Cx} : OpR X (compareOp .GtE) rGeI := op_ge
def dCmp (p : Int → Int → Bool) : D → D → Mu → VP → Prop
  | .int i, .int j, m, F => F (.bl (p i j)) m
  | _, _, _, _ => False
theorem lr_cmp {p : Int → Int → Bool} : LR K o (rI0 fun i j => .bl (p i j)) (dCmp p) := ⟨fun {x y vx vy m F I H Q} w rx ry h q => by
  unfold dCmp at h
  split at h
  · cases rx; cases ry
    exact ⟨_, _, rfl, rfl, q.at w h rfl⟩
  · exact h.elim⟩
instance : LR K o rLtI (dCmp fun i j => decide (i < j)) := lr_cmp
instance : LR K o rLeI (dCmp fun i j => decide (i ≤ j)) := lr_cmp
instance : LR K o rGtI (dCmp fun i j => decide (j < i)) := lr_cmp
instance : LR K o rGeI (dCmp fun i j => decide (j ≤ i)) := lr_cmp
/-- == of scalars -/
def dEqv : D → D → Option Bool
  | .int i, .int j => some (decide (i = j))
  | .str i, .str j => some (decide (i = j))
  | .bl i, .bl j => some (decide (i = j))
  | .int _, .str _ => some false
  | .str _, .int _ => some false
  | .non, .str _ => some false
  | .str _, .non => some false
  | .non, .int _ => some false
  | .int _, .non => some false
  | _, _ => none
def dEq : D → D → Mu → VP → Prop := fun x y m F => match dEqv x y with
  | some b => F (.bl b) m
  | none => False
def dNe : D → D → Mu → VP → Prop := fun x y m F => match dEqv x y with
  | some b => F (.bl (!b)) m
  | none => False
theorem dEqv_ok {I : Hp} {x y : D} {vx vy : V} {b : Bool} (rx : Rep K I x vx) (ry : Rep K I y vy) (h : dEqv x y = some b) : scal vx vy = true ∧ decide (vx = vy) = b := by
  unfold dEqv at h
  split at h <;> cases h <;> cases rx <;> cases ry <;> first
    | exact ⟨rfl, by simp⟩
    | exact ⟨rfl, rfl⟩
instance : LR K o rEq dEq := ⟨fun {x y vx vy m F I H Q} w rx ry h q => by
  unfold dEq at h
  split at h
  · rename_i b e
    obtain ⟨h1, h2⟩ := dEqv_ok rx ry e
    refine ⟨h1, ?_⟩
    rw [h2]
    exact q.at w h rfl
  · exact h.elim⟩
instance : LR K o rNe dNe := ⟨fun {x y vx vy m F I H Q} w rx ry h q => by
  unfold dNe at h
  split at h
  · rename_i b e
    obtain ⟨h1, h2⟩ := dEqv_ok rx ry e
    refine ⟨h1, ?_⟩
    rw [h2]
    exact q.at w h rfl
  · exact h.elim⟩
/-- is None -/
def isNon : D → Option Bool
  | .non => some true
  | .opq => none
  | _ => some false
theorem isNon_ok {I : Hp} {x : D} {vx : V} {b : Bool} (rx : Rep K I x vx) (h : isNon x = some b) : decide (vx = .non) = b := by
  cases x with
  | non => cases rx; cases h; rfl
  | opq => cases h
  | bl _ => cases rx; cases h; rfl
  | int _ => cases rx; cases h; rfl
  | str _ => cases rx; cases h; rfl
  | adr _ => cases rx; cases h; rfl
  | ty _ => cases rx; cases h; rfl
  | lst _ => obtain ⟨a, vs, rfl, _⟩ := rx; cases h; rfl
  | tup _ => obtain ⟨a, vs, rfl, _⟩ := rx; cases h; rfl
  | dic _ _ => obtain ⟨a, vs, rfl, _⟩ := rx; cases h; rfl
  | scr _ => obtain ⟨a, rfl, _⟩ := rx; cases h; rfl
def rIsNo : R2 := fun x y H Q => y = .non ∧ Q (.bl (decide (x = .non))) H
def rNotNo : R2 := fun x y H Q => y = .non ∧ Q (.bl (!decide (x = .non))) H
theorem o_is {X : Cx} : OpR X (compareOp .Is) rIsNo := op_isN
theorem o_isnot {X : Cx} : OpR X (compareOp .IsNot) rNotNo := op_notN
def dIsN : D → D → Mu → VP → Prop := fun x y m F => match y, isNon x with
  | .non, some b => F (.bl b) m
  | _, _ => False
def dNotN : D → D → Mu → VP → Prop := fun x y m F => match y, isNon x with
  | .non, some b => F (.bl (!b)) m
  | _, _ => False
instance : LR K o rIsNo dIsN := ⟨fun {x y vx vy m F I H Q} w rx ry h q => by
  unfold dIsN at h
  split at h
  · rename_i b e
    cases ry
    refine ⟨rfl, ?_⟩
    rw [isNon_ok rx e]
    exact q.at w h rfl
  · exact h.elim⟩
instance : LR K o rNotNo dNotN := ⟨fun {x y vx vy m F I H Q} w rx ry h q => by
  unfold dNotN at h
  split at h
  · rename_i b e
    cases ry
    refine ⟨rfl, ?_⟩
    rw [isNon_ok rx e]
    exact q.at w h rfl
  · exact h.elim⟩
/-! ### in, not in: a flat thing in a list or tuple of flat things -/
def flatD : D → Option V
  | .non => some .non
  | .bl b => some (.bl b)
  | .int i => some (.int i)
  | .str x => some (.str x)
  | _ => none
theorem flatD_ok {I : Hp} {x : D} {vx v : V} (rx : Rep K I x vx) (h : flatD x = some v) : vx = v ∧ flatV v = true := by
  cases x <;> cases h <;> cases rx <;> exact ⟨rfl, rfl⟩
def flatDs : List D → Option (List V)
  | [] => some []
  | d :: ds => match flatD d, flatDs ds with
    | some v, some vs => some (v :: vs)
    | _, _ => none
theorem flatDs_ok {I : Hp} : ∀ {xs : List D} {us vs : List V}, Reps K I xs us → flatDs xs = some vs → us = vs ∧ vs.all flatV = true
  | [], _, _, h, e => by cases h; cases e; exact ⟨rfl, rfl⟩
  | d :: ds, _, _, h, e => by
    obtain ⟨v, r, rfl, h2, h3⟩ := h
    unfold flatDs at e
    split at e
    · rename_i v' vs' e1 e2
      cases e
      obtain ⟨rfl, f1⟩ := flatD_ok h2 e1
      obtain ⟨rfl, f2⟩ := flatDs_ok h3 e2
      exact ⟨rfl, by rw [List.all_cons, f1, f2]; rfl⟩
    · cases e
def inDs (x : D) (ys : List D) : Option Bool := match flatD x, flatDs ys with
  | some v, some vs => some (inV v vs)
  | _, _ => none
def inD (x : D) : D → Option Bool
  | .lst ys => inDs x ys
  | .tup ys => inDs x ys
  | _ => none
theorem inD_ok {neg : Bool} {I H : Hp} {x y : D} {vx vy : V} {b : Bool} {Q : VK} (e : Same I H) (rx : Rep K I x vx) (ry : Rep K I y vy) (h : inD x y = some b) (q : Q (.bl (if neg then !b else b)) H) : rIn K neg vx vy H Q := by
  have go : ∀ {ys : List D} {us : List V} {p : Addr}, Reps K I ys us → (SqL K H p us ∨ SqT K H p us) → inDs x ys = some b → rIn K neg vx (.ref p) H Q := fun {ys us p} hr hs hb => by
    unfold inDs at hb
    split at hb
    · rename_i v vs e1 e2
      cases hb
      obtain ⟨rfl, f1⟩ := flatD_ok rx e1
      obtain ⟨rfl, f2⟩ := flatDs_ok hr e2
      exact ⟨p, _, rfl, hs, f1, f2, q⟩
    · cases hb
  cases y with
  | lst ys =>
    obtain ⟨a, us, rfl, h1, h2⟩ := ry
    exact go h2 (.inl (.of (e _ _ h1))) h
  | tup ys =>
    obtain ⟨a, us, rfl, h1, h2⟩ := ry
    exact go h2 (.inr (Same.tup e h1)) h
  | _ => cases h
def dIn (neg : Bool) : D → D → Mu → VP → Prop := fun x y m F => match inD x y with
  | some b => F (.bl (if neg then !b else b)) m
  | none => False
instance {neg : Bool} : LR K o (rIn K neg) (dIn neg) := ⟨fun {x y vx vy m F I H Q} w rx ry h q => by
  unfold dIn at h
  split at h
  · rename_i b e
    exact inD_ok w.w.sub rx ry e (q.at w h rfl)
  · exact h.elim⟩
/-- in a list that may change: the object k -/
def rInM (K : PySem.W.Frag) (neg : Bool) (k : Nat) : R2 := rIn K neg
def dInM (neg : Bool) (k : Nat) : D → D → Mu → VP → Prop := fun x y m F => ∃ a ds b, y = .adr a ∧ m[k]? = some (a, .l ds) ∧ inDs x ds = some b ∧ F (.bl (if neg then !b else b)) m
theorem Wd.lst {I H : Hp} {m : Mu} (w : Wd K I H m) {k : Nat} {a : Addr} {ds : List D} (h : m[k]? = some (a, .l ds)) : ∃ vs, H a = some (.lst vs) ∧ Reps K I ds vs := (w.mo _ (List.mem_of_getElem? h)).2
theorem Wd.dic {I H : Hp} {m : Mu} (w : Wd K I H m) {k : Nat} {a : Addr} {ds : List (Str × D)} (h : m[k]? = some (a, .d ds)) : ∃ vs, H a = some (.dK vs) ∧ RepK K I ds vs := (w.mo _ (List.mem_of_getElem? h)).2
instance {neg : Bool} {k : Nat} : LR K o (rInM K neg k) (dInM neg k) := ⟨fun {x y vx vy m F I H Q} w rx ry h q => by
  obtain ⟨a, ds, b, rfl, hk, e, h⟩ := h
  cases ry
  obtain ⟨vs, h1, h2⟩ := w.w.lst hk
  unfold inDs at e
  split at e
  · rename_i v us e1 e2
    cases e
    obtain ⟨rfl, f1⟩ := flatD_ok rx e1
    obtain ⟨rfl, f2⟩ := flatDs_ok h2 e2
    exact ⟨a, _, rfl, .inl (.of h1), f1, f2, q.at w h rfl⟩
  · cases e⟩
/-- a sign in a text -/
def rInS (neg : Bool) : R2 := fun x y H Q => ∃ (c : Nat) (z : Str), x = .str ⟨#[c]⟩ ∧ y = .str z ∧ Q (.bl (if neg then !decide (c ∈ z.cps.toList) else decide (c ∈ z.cps.toList))) H
theorem o_ninS {X : Cx} : OpR X (compareOp .NotIn) (rInS true) := op_notIn_sign
def dInS (neg : Bool) : D → D → Mu → VP → Prop := fun x y m F => ∃ (c : Nat) (z : Str), x = .str ⟨#[c]⟩ ∧ y = .str z ∧ F (.bl (if neg then !decide (c ∈ z.cps.toList) else decide (c ∈ z.cps.toList))) m
instance {neg : Bool} : LR K o (rInS neg) (dInS neg) := ⟨fun {x y vx vy m F I H Q} w rx ry h q => by
  obtain ⟨c, z, rfl, rfl, h⟩ := h
  cases rx; cases ry
  exact ⟨c, z, rfl, rfl, q.at w h rfl⟩⟩
/-! ### items -/
def ixDs (ds : List D) (i : Int) (m : Mu) (F : VP) : Prop := match atI ds i with
  | some d => F d m
  | none => False
theorem atI_reps {I : Hp} {ds : List D} {vs : List V} {i : Int} {d : D} (r : Reps K I ds vs) (h : atI ds i = some d) : ∃ v, atI vs i = some v ∧ Rep K I d v := by
  unfold atI at h ⊢
  rw [r.length]
  cases e : ixN ds.length i with
  | none => rw [e] at h; cases h
  | some j =>
    rw [e] at h
    obtain ⟨v, h1, h2⟩ := r.get (i := j) h
    exact ⟨v, h1, h2⟩
def rIxA (K : PySem.W.Frag) : R2 := rIx K
theorem o_ix {X : Cx} : IxR X (rIxA X.K) := ix_seq
def dIx : D → D → Mu → VP → Prop
  | .lst ds, .int i, m, F => ixDs ds i m F
  | .tup ds, .int i, m, F => ixDs ds i m F
  | .scr ns, .int i, m, F => ixDs (ns.map .int) i m F
  | .str z, .int i, m, F => z.length ≤ sizeLine ∧ match atI z.cps.toList i with
    | some c => F (.str ⟨#[c]⟩) m
    | none => False
  | _, _, _, _ => False
theorem rep_scr {I : Hp} {ns : List Int} {vs : List V} (h : vs = ns.map V.int) : Reps K I (ns.map D.int) vs := by subst h; exact Reps.of_ints
instance : LR K o (rIxA K) dIx := ⟨fun {x y vx vy m F I H Q} w rx ry h q => by
  have go : ∀ {ds : List D} {vs : List V} {i : Int}, Reps K I ds vs → ixDs ds i m F → ∃ v, atI vs i = some v ∧ Q v H := fun {ds vs i} hr hx => by
    unfold ixDs at hx
    split at hx
    · rename_i d e
      obtain ⟨v, h1, h2⟩ := atI_reps hr e
      exact ⟨v, h1, q.at w hx h2⟩
    · exact hx.elim
  unfold dIx at h
  split at h
  · obtain ⟨a, us, rfl, h1, h2⟩ := rx
    cases ry
    obtain ⟨v, h3, h4⟩ := go h2 h
    exact .inl ⟨a, us, _, v, rfl, rfl, .of (w.w.sub _ _ h1), h3, h4⟩
  · obtain ⟨a, us, rfl, h1, h2⟩ := rx
    cases ry
    obtain ⟨v, h3, h4⟩ := go h2 h
    exact .inr (.inl ⟨a, us, _, v, rfl, rfl, Same.tup w.w.sub h1, h3, h4⟩)
  · obtain ⟨a, rfl, h1⟩ := rx
    cases ry
    obtain ⟨v, h3, h4⟩ := go (vs := List.map V.int _) Reps.of_ints h
    exact .inl ⟨a, _, _, v, rfl, rfl, Same.seq w.w.sub h1, h3, h4⟩
  · cases rx; cases ry
    obtain ⟨hz, h⟩ := h
    split at h
    · rename_i c e
      exact .inr (.inr ⟨_, _, c, rfl, rfl, hz, e, q.at w h rfl⟩)
    · exact h.elim
  · exact h.elim⟩
/-- of a list that may change -/
def rIxM (K : PySem.W.Frag) (k : Nat) : R2 := rIxL K
theorem o_ixM {X : Cx} (k : Nat) : IxR X (rIxM X.K k) := ix_list
def dIxM (k : Nat) : D → D → Mu → VP → Prop := fun x y m F => ∃ a ds i, x = .adr a ∧ y = .int i ∧ m[k]? = some (a, .l ds) ∧ ixDs ds i m F
instance {k : Nat} : LR K o (rIxM K k) (dIxM k) := ⟨fun {x y vx vy m F I H Q} w rx ry h q => by
  obtain ⟨a, ds, i, rfl, rfl, hk, h⟩ := h
  cases rx; cases ry
  obtain ⟨vs, h1, h2⟩ := w.w.lst hk
  unfold ixDs at h
  split at h
  · rename_i d e
    obtain ⟨v, h3, h4⟩ := atI_reps h2 e
    exact ⟨a, vs, i, v, rfl, rfl, .of h1, h3, q.at w h h4⟩
  · exact h.elim⟩
end
end FC
/-! THE LOGIC, 3: more expressions. -/
namespace FC
open PySem PySem.Spec L2
section
variable {K : PySem.W.Frag} {o : Og}
/-! ### chains, truth -/
def dChain (dr dr' : D → D → Mu → VP → Prop) (da db dc : DE) : DE := fun r m F => da r m fun x m1 => db r m1 fun y m2 => dr x y m2 fun z m3 => match z with
  | .bl k => if k = true then dc r m3 fun w m4 => dr' y w m4 F else F (.bl false) m3
  | _ => False
instance {tr tr' : R2} {dr dr' : D → D → Mu → VP → Prop} {ta tb tc : TE} {da db dc : DE} [ir : LR K o tr dr] [ir' : LR K o tr' dr'] [ia : LE K o ta da] [ib : LE K o tb db] [ic : LE K o tc dc] : LE K o (tChain tr tr' ta tb tc) (dChain dr dr' da db dc) := ⟨fun {r m F I H s Q} w l h q => by
  refine ia.go w l h fun vx x I1 H1 m1 h1 w1 e1 rx => ib.go w1 (l.mono e1) h1 fun vy y I2 H2 m2 h2 w2 e2 ry => ir.go w2 (rx.mono e2) ry h2 fun vz z I3 H3 m3 h3 w3 e3 rz => ?_
  cases z with
  | bl k =>
    refine ⟨k, rz, ?_⟩
    have h3 : if k = true then dc r m3 fun w m4 => dr' y w m4 F else F (.bl false) m3 := h3
    cases k with
    | true =>
      rw [if_pos rfl] at h3
      rw [if_pos rfl]
      exact ic.go w3 (l.mono ((e1.trans e2).trans e3)) h3 fun vw w' I4 H4 m4 h4 w4 e4 rw' => ir'.go w4 ((ry.mono e3).mono e4) rw' h4 (q.mono (((e1.trans e2).trans e3).trans e4))
    | false =>
      rw [if_neg Bool.false_ne_true] at h3
      rw [if_neg Bool.false_ne_true]
      exact q _ (.bl false) I3 H3 m3 h3 w3 ((e1.trans e2).trans e3) rfl
  | _ => exact h3.elim⟩
def asB (F : Bool → Mu → Prop) : VP := fun z m => match z with
  | .bl k => F k m
  | _ => False
def dB (da : DE) : DT := fun r m F => da r m (asB F)
theorem asB_ok {I : Hp} {F : Bool → Mu → Prop} {m : Mu} {z : D} {vz : V} (h : asB F z m) (rz : Rep K I z vz) : ∃ k, vz = .bl k ∧ F k m := by
  cases z with
  | bl k => exact ⟨k, rz, h⟩
  | _ => exact h.elim
instance {ta : TE} {da : DE} [ia : LE K o ta da] : LT K o (tB ta) (dB da) := ⟨fun {r m F I H s Q} w l h q => ia.go w l h fun vx x I1 H1 m1 h1 w1 e1 rx => by
  obtain ⟨k, h2, h3⟩ := asB_ok h1 rx
  exact ⟨k, h2, q k I1 H1 m1 h3 w1 e1⟩⟩
instance {ta : TE} {da : DE} [ia : LE K o ta da] : LT K o (tTest ta) (dB da) := ⟨fun {r m F I H s Q} w l h q => ia.go w l h fun vx x I1 H1 m1 h1 w1 e1 rx => by
  obtain ⟨k, h2, h3⟩ := asB_ok h1 rx
  exact ⟨k, h2, q k I1 H1 m1 h3 w1 e1⟩⟩
def dAnd (t u : DT) : DT := fun r m F => t r m fun c m1 => if c = true then u r m1 F else F false m1
def dOr (t u : DT) : DT := fun r m F => t r m fun c m1 => if c = true then F true m1 else u r m1 F
def dNot (t : DT) : DT := fun r m F => t r m fun c m1 => F (!c) m1
theorem PostB.mono {I I' : Hp} {F : Bool → Mu → Prop} {Q : Bool → Hp → Prop} (h : PostB K o I F Q) (e : Same I I') : PostB K o I' F Q := fun v I2 H2 m2 f w e2 => h v I2 H2 m2 f w (e.trans e2)
theorem PostA.mono {I I' : Hp} {F : List D → Mu → Prop} {Q : List V → Hp → Prop} (h : PostA K o I F Q) (e : Same I I') : PostA K o I' F Q := fun v d I2 H2 m2 f w e2 => h v d I2 H2 m2 f w (e.trans e2)
instance {t u : TT} {dt du : DT} [it : LT K o t dt] [iu : LT K o u du] : LT K o (tAnd t u) (dAnd dt du) := ⟨fun {r m F I H s Q} w l h q => it.go w l h fun c I1 H1 m1 h1 w1 e1 => by
  cases c with
  | true =>
    rw [if_pos rfl] at h1 ⊢
    exact iu.go w1 (l.mono e1) h1 (q.mono e1)
  | false =>
    rw [if_neg Bool.false_ne_true] at h1 ⊢
    exact q false I1 H1 m1 h1 w1 e1⟩
instance {t u : TT} {dt du : DT} [it : LT K o t dt] [iu : LT K o u du] : LT K o (tOr t u) (dOr dt du) := ⟨fun {r m F I H s Q} w l h q => it.go w l h fun c I1 H1 m1 h1 w1 e1 => by
  cases c with
  | true =>
    rw [if_pos rfl] at h1 ⊢
    exact q true I1 H1 m1 h1 w1 e1
  | false =>
    rw [if_neg Bool.false_ne_true] at h1 ⊢
    exact iu.go w1 (l.mono e1) h1 (q.mono e1)⟩
instance {t : TT} {dt : DT} [it : LT K o t dt] : LT K o (tNot t) (dNot dt) := ⟨fun {r m F I H s Q} w l h q => it.go w l h fun c I1 H1 m1 h1 w1 e1 => q (!c) I1 H1 m1 h1 w1 e1⟩
def dAndV (da db : DE) : DE := fun r m F => da r m (asB fun c m1 => if c = true then db r m1 F else F (.bl false) m1)
def dOrV (da db : DE) : DE := fun r m F => da r m (asB fun c m1 => if c = true then F (.bl true) m1 else db r m1 F)
def dNotV (da : DE) : DE := fun r m F => da r m (asB fun c m1 => F (.bl (!c)) m1)
instance {ta tb : TE} {da db : DE} [ia : LE K o ta da] [ib : LE K o tb db] : LE K o (tAndV ta tb) (dAndV da db) := ⟨fun {r m F I H s Q} w l h q => ia.go w l h fun vx x I1 H1 m1 h1 w1 e1 rx => by
  obtain ⟨c, h2, h3⟩ := asB_ok h1 rx
  refine ⟨c, h2, ?_⟩
  cases c with
  | true =>
    rw [if_pos rfl] at h3 ⊢
    exact ib.go w1 (l.mono e1) h3 (q.mono e1)
  | false =>
    rw [if_neg Bool.false_ne_true] at h3 ⊢
    exact q _ (.bl false) I1 H1 m1 h3 w1 e1 rfl⟩
instance {ta tb : TE} {da db : DE} [ia : LE K o ta da] [ib : LE K o tb db] : LE K o (tOrV ta tb) (dOrV da db) := ⟨fun {r m F I H s Q} w l h q => ia.go w l h fun vx x I1 H1 m1 h1 w1 e1 rx => by
  obtain ⟨c, h2, h3⟩ := asB_ok h1 rx
  refine ⟨c, h2, ?_⟩
  cases c with
  | true =>
    rw [if_pos rfl] at h3 ⊢
    exact q _ (.bl true) I1 H1 m1 h3 w1 e1 rfl
  | false =>
    rw [if_neg Bool.false_ne_true] at h3 ⊢
    exact ib.go w1 (l.mono e1) h3 (q.mono e1)⟩
instance {ta : TE} {da : DE} [ia : LE K o ta da] : LE K o (tNotV ta) (dNotV da) := ⟨fun {r m F I H s Q} w l h q => ia.go w l h fun vx x I1 H1 m1 h1 w1 e1 rx => by
  obtain ⟨c, h2, h3⟩ := asB_ok h1 rx
  exact ⟨c, h2, q _ (.bl (!c)) I1 H1 m1 h3 w1 e1 rfl⟩⟩
def dIf (t : DT) (da db : DE) : DE := fun r m F => t r m fun c m1 => if c = true then da r m1 F else db r m1 F
instance {t : TT} {dt : DT} {ta tb : TE} {da db : DE} [it : LT K o t dt] [ia : LE K o ta da] [ib : LE K o tb db] : LE K o (tIf t ta tb) (dIf dt da db) := ⟨fun {r m F I H s Q} w l h q => it.go w l h fun c I1 H1 m1 h1 w1 e1 => by
  cases c with
  | true =>
    rw [if_pos rfl] at h1 ⊢
    exact ia.go w1 (l.mono e1) h1 (q.mono e1)
  | false =>
    rw [if_neg Bool.false_ne_true] at h1 ⊢
    exact ib.go w1 (l.mono e1) h1 (q.mono e1)⟩
/-! ### arguments, displays -/
def dNil : DA := fun _ m F => F [] m
def dCons (da : DE) (dr : DA) : DA := fun r m F => da r m fun x m1 => dr r m1 fun xs m2 => F (x :: xs) m2
instance : LA K o tNil dNil := ⟨fun {r m F I H s Q} w l h q => q [] [] I H m h w (Same.refl I) rfl⟩
instance {ta : TE} {tr : TA} {da : DE} {dr : DA} [ia : LE K o ta da] [ir : LA K o tr dr] : LA K o (tCons ta tr) (dCons da dr) := ⟨fun {r m F I H s Q} w l h q =>
  ia.go w l h fun vx x I1 H1 m1 h1 w1 e1 rx => ir.go w1 (l.mono e1) h1 fun vs ds I2 H2 m2 h2 w2 e2 rs => q _ _ I2 H2 m2 h2 w2 (e1.trans e2) ⟨vx, vs, rfl, rx.mono e2, rs⟩⟩
def dTup (da : DA) : DE := fun r m F => da r m fun xs m1 => xs.length ≤ sizeLine ∧ F (.tup xs) m1
instance {ta : TA} {da : DA} [ia : LA K o ta da] : LE K o (tTup ta) (dTup da) := ⟨fun {r m F I H s Q} w l h q => ia.go w l h fun vs ds I1 H1 m1 h1 w1 e1 rs => by
  refine ⟨by rw [rs.length]; exact h1.1, fun p hp => (q.mono e1).new w1 hp h1.2 fun e => ⟨p, vs, rfl, .of upd_same, rs.mono e⟩⟩⟩
def dLst (da : DA) : DE := fun r m F => da r m fun xs m1 => xs.length ≤ sizeLine ∧ F (.lst xs) m1
instance {ta : TA} {da : DA} [ia : LA K o ta da] : LE K o (tLst ta) (dLst da) := ⟨fun {r m F I H s Q} w l h q => ia.go w l h fun vs ds I1 H1 m1 h1 w1 e1 rs => by
  refine ⟨by rw [rs.length]; exact h1.1, fun p hp => (q.mono e1).new w1 hp h1.2 fun e => ⟨p, vs, rfl, upd_same, rs.mono e⟩⟩⟩
/-- a list that will change -/
def tLstM (t : TA) : TE := tLst t
theorem pe_lstM {X : Cx} {es : List Expr} {t : TA} {pos : Pos} (h : PA X es t) : PE X (.List es pos) (tLstM t) := pe_lst h
theorem Post.newM {I H : Hp} {F : VP} {Q : VK} {m : Mu} (q : Post K o I F Q) (w : Wo K o I H m) {p : Addr} {x : HO} {y : MO} (hp : H p = none) (hy : MOk K I (upd H p x) p y) (h : F (.adr p) (m ++ [(p, y)])) : Q (.ref p) (upd H p x) :=
  q _ (.adr p) _ _ _ h (w.newM hp x hy) (Same.refl I) rfl
def dLstM (da : DA) : DE := fun r m F => da r m fun xs m1 => xs.length ≤ sizeLine ∧ ∀ p, F (.adr p) (m1 ++ [(p, .l xs)])
instance {ta : TA} {da : DA} [ia : LA K o ta da] : LE K o (tLstM ta) (dLstM da) := ⟨fun {r m F I H s Q} w l h q => ia.go w l h fun vs ds I1 H1 m1 h1 w1 e1 rs => by
  refine ⟨by rw [rs.length]; exact h1.1, fun p hp => (q.mono e1).newM (y := .l ds) w1 hp ⟨vs, upd_same, rs⟩ (h1.2 p)⟩⟩
/-- {} that stays, that will change -/
def dDic0 : DE := fun _ m F => F (.dic [] []) m
instance : LE K o tDNewK dDic0 := ⟨fun {r m F I H s Q} w l h q p hp => q.new w hp h fun e => ⟨p, [], rfl, upd_same, rfl, rfl⟩⟩
def tDicM : TE := tDNewK
theorem pe_dicM {X : Cx} {pos : Pos} : PE X (.Dict [] [] pos) tDicM := pe_dnewK
def dDicM : DE := fun _ m F => ∀ p, F (.adr p) (m ++ [(p, .d [])])
instance : LE K o tDicM dDicM := ⟨fun {r m F I H s Q} w l h q p hp => q.newM (y := .d []) w hp ⟨[], upd_same, rfl⟩ (h p)⟩
/-- {k: e} with one text key, that will change -/
def tDisp1 (tk tv : TE) : TE := tDisp [(tk, tv)]
theorem pe_disp1 {X : Cx} {k v : Expr} {pos : Pos} {tk tv : TE} (hk : PE X k tk) (hv : PE X v tv) : PE X (.Dict [some k] [v] pos) (tDisp1 tk tv) :=
  pe_disp (pps_cons hk hv pps_nil) rfl rfl (fun z => by cases z) (by show 1 ≤ 15; decide)
theorem set_last {α : Type} (m : List α) (a b : α) : (m ++ [a]).set m.length b = m ++ [b] := by
  rw [List.set_append_right _ _ (Nat.le_refl _), Nat.sub_self]
  rfl
theorem get_last {α : Type} (m : List α) (a : α) : (m ++ [a])[m.length]? = some a := by
  rw [List.getElem?_append_right (Nat.le_refl _), Nat.sub_self]
  rfl
def dDisp1 (dk dv : DE) : DE := fun r m F => ∀ p, dk r (m ++ [(p, .d [])]) fun x m1 => dv r m1 fun y m2 => ∃ z, x = .str z ∧ m2 = m ++ [(p, .d [])] ∧ F (.adr p) (m ++ [(p, .d [(z, y)])])
instance {tk tv : TE} {dk dv : DE} [ia : LE K o tk dk] [ib : LE K o tv dv] : LE K o (tDisp1 tk tv) (dDisp1 dk dv) := ⟨fun {r m F I H s Q} w l h q p hp => by
  have w0 : Wo K o I (upd H p (.dK [])) (m ++ [(p, .d [])]) := w.newM hp (.dK []) (y := .d []) ⟨[], upd_same, rfl⟩
  refine ia.go w0 l (h p) fun vx x I1 H1 m1 h1 w1 e1 rx => ib.go w1 (l.mono e1) h1 fun vy y I2 H2 m2 h2 w2 e2 ry => ?_
  obtain ⟨z, rfl, rfl, h3⟩ := h2
  cases rx
  obtain ⟨vs, g1, g2⟩ := w2.w.dic (get_last _ _)
  cases g2
  refine ⟨g1, [(.inr z, vy)], rfl, (by show 1 ≤ 15; decide), ?_⟩
  have w3 := w2.mut (get_last m (p, MO.d [])) (.dK [(.inr z, vy)]) (z := .d [(z, y)]) ⟨[(.inr z, vy)], upd_same, vy, [], rfl, ry, rfl⟩
  rw [set_last] at w3
  exact q _ (.adr p) _ _ _ h3 w3 (e1.trans e2) rfl⟩
/-! ### calls of built-ins -/
def dCB (dc : List D → Mu → VP → Prop) (da : DA) : DE := fun r m F => da r m fun xs m1 => dc xs m1 F
instance {tr : List V → Hp → VK → Prop} {dc : List D → Mu → VP → Prop} {ta : TA} {da : DA} [ic : LC K o tr dc] [ia : LA K o ta da] : LE K o (tCB tr ta) (dCB dc da) := ⟨fun {r m F I H s Q} w l h q =>
  ia.go w l h fun vs ds I1 H1 m1 h1 w1 e1 rs => ic.go w1 rs h1 (q.mono e1)⟩
/-- the shape of an argument list -/
theorem reps1 {I : Hp} {x : D} {vs : List V} (h : Reps K I [x] vs) : ∃ v, vs = [v] ∧ Rep K I x v := by
  obtain ⟨v, r, rfl, h1, h2⟩ := h
  cases h2
  exact ⟨v, rfl, h1⟩
theorem reps2 {I : Hp} {x y : D} {vs : List V} (h : Reps K I [x, y] vs) : ∃ v u, vs = [v, u] ∧ Rep K I x v ∧ Rep K I y u := by
  obtain ⟨v, r, rfl, h1, h2⟩ := h
  obtain ⟨u, rfl, h3⟩ := reps1 h2
  exact ⟨v, u, rfl, h1, h3⟩
def rLenA (K : PySem.W.Frag) : List V → Hp → VK → Prop := fun xs H Q => ∃ x n, xs = [x] ∧ LenV K x H n ∧ Q (.int n) H
theorem c_len {X : Cx} : CallR X (.builtin "len") (rLenA X.K) := call_len
def dLen : List D → Mu → VP → Prop
  | [.lst ds], m, F => F (.int ds.length) m
  | [.tup ds], m, F => F (.int ds.length) m
  | [.scr ds], m, F => F (.int ds.length) m
  | [.str z], m, F => z.length ≤ sizeLine ∧ F (.int z.length) m
  | _, _, _ => False
instance : LC K o (rLenA K) dLen := ⟨fun {xs vs m F I H Q} w rs h q => by
  unfold dLen at h
  split at h
  · obtain ⟨v, rfl, r⟩ := reps1 rs
    obtain ⟨a, us, rfl, h1, h2⟩ := r
    exact ⟨_, us.length, rfl, .inl ⟨us, .of (w.w.sub _ _ h1), rfl⟩, by rw [h2.length]; exact q.at w h rfl⟩
  · obtain ⟨v, rfl, r⟩ := reps1 rs
    obtain ⟨a, us, rfl, h1, h2⟩ := r
    exact ⟨_, us.length, rfl, .inr ⟨us, Same.tup w.w.sub h1, rfl⟩, by rw [h2.length]; exact q.at w h rfl⟩
  · obtain ⟨v, rfl, r⟩ := reps1 rs
    obtain ⟨a, rfl, h1⟩ := r
    exact ⟨_, _, rfl, .inl ⟨_, Same.seq w.w.sub h1, (List.length_map _).symm⟩, q.at w h rfl⟩
  · obtain ⟨v, rfl, r⟩ := reps1 rs
    cases r
    exact ⟨_, _, rfl, ⟨h.1, rfl⟩, q.at w h.2 rfl⟩
  · exact h.elim⟩
def rLenM (K : PySem.W.Frag) (k : Nat) : List V → Hp → VK → Prop := rLenA K
theorem c_lenM {X : Cx} (k : Nat) : CallR X (.builtin "len") (rLenM X.K k) := call_len
def dLenM (k : Nat) : List D → Mu → VP → Prop := fun xs m F => ∃ a ds, xs = [.adr a] ∧ m[k]? = some (a, .l ds) ∧ F (.int ds.length) m
instance {k : Nat} : LC K o (rLenM K k) (dLenM k) := ⟨fun {xs vs m F I H Q} w rs h q => by
  obtain ⟨a, ds, rfl, hk, h⟩ := h
  obtain ⟨v, rfl, r⟩ := reps1 rs
  cases r
  obtain ⟨us, h1, h2⟩ := w.w.lst hk
  exact ⟨_, us.length, rfl, .inl ⟨us, .of h1, rfl⟩, by rw [h2.length]; exact q.at w h rfl⟩⟩
def rAbs : List V → Hp → VK → Prop := fun xs H Q => ∃ i, xs = [.int i] ∧ Q (.int (if i < 0 then -i else i)) H
theorem c_abs {X : Cx} : CallR X (.builtin "abs") rAbs := call_abs
def dAbs : List D → Mu → VP → Prop
  | [.int i], m, F => F (.int (i.natAbs : Int)) m
  | _, _, _ => False
instance : LC K o rAbs dAbs := ⟨fun {xs vs m F I H Q} w rs h q => by
  unfold dAbs at h
  split at h
  · rename_i i
    obtain ⟨v, rfl, r⟩ := reps1 rs
    cases r
    refine ⟨i, rfl, ?_⟩
    have e : (if i < 0 then -i else i) = (i.natAbs : Int) := by split <;> omega
    rw [e]
    exact q.at w h rfl
  · exact h.elim⟩
def rMax2 : List V → Hp → VK → Prop := fun xs H Q => ∃ i j, xs = [.int i, .int j] ∧ Q (.int (if j > i then j else i)) H
def rMin2 : List V → Hp → VK → Prop := fun xs H Q => ∃ i j, xs = [.int i, .int j] ∧ Q (.int (if j < i then j else i)) H
theorem c_max2 {X : Cx} (hc : X.calm = true) : CallR X (.builtin "max") rMax2 := call_max2 hc
theorem c_min2 {X : Cx} (hc : X.calm = true) : CallR X (.builtin "min") rMin2 := call_min2 hc
def dMax2 : List D → Mu → VP → Prop
  | [.int i, .int j], m, F => F (.int (max i j)) m
  | _, _, _ => False
def dMin2 : List D → Mu → VP → Prop
  | [.int i, .int j], m, F => F (.int (min i j)) m
  | _, _, _ => False
instance : LC K o rMax2 dMax2 := ⟨fun {xs vs m F I H Q} w rs h q => by
  unfold dMax2 at h
  split at h
  · rename_i i j
    obtain ⟨v, u, rfl, r1, r2⟩ := reps2 rs
    cases r1; cases r2
    refine ⟨i, j, rfl, ?_⟩
    have e : (if j > i then j else i) = max i j := by rw [Int.max_def]; split <;> split <;> omega
    rw [e]
    exact q.at w h rfl
  · exact h.elim⟩
instance : LC K o rMin2 dMin2 := ⟨fun {xs vs m F I H Q} w rs h q => by
  unfold dMin2 at h
  split at h
  · rename_i i j
    obtain ⟨v, u, rfl, r1, r2⟩ := reps2 rs
    cases r1; cases r2
    refine ⟨i, j, rfl, ?_⟩
    have e : (if j < i then j else i) = min i j := by rw [Int.min_def]; split <;> split <;> omega
    rw [e]
    exact q.at w h rfl
  · exact h.elim⟩
def rIntT : List V → Hp → VK → Prop := fun xs H Q => (∃ i, xs = [.int i] ∧ Q (.int i) H) ∨ ∃ k, xs = [.bl k] ∧ Q (.int (if k then 1 else 0)) H
theorem c_int {X : Cx} : CallR X (.type "int") rIntT := call_int1
def dInt : List D → Mu → VP → Prop
  | [.int i], m, F => F (.int i) m
  | [.bl k], m, F => F (.int (if k then 1 else 0)) m
  | _, _, _ => False
instance : LC K o rIntT dInt := ⟨fun {xs vs m F I H Q} w rs h q => by
  unfold dInt at h
  split at h
  · obtain ⟨v, rfl, r⟩ := reps1 rs
    cases r
    exact .inl ⟨_, rfl, q.at w h rfl⟩
  · obtain ⟨v, rfl, r⟩ := reps1 rs
    cases r
    exact .inr ⟨_, rfl, q.at w h rfl⟩
  · exact h.elim⟩
def rBoolT : List V → Hp → VK → Prop := fun xs H Q => (∃ i, xs = [.int i] ∧ Q (.bl (i != 0)) H) ∨ ∃ k, xs = [.bl k] ∧ Q (.bl k) H
theorem c_bool {X : Cx} : CallR X (.type "bool") rBoolT := call_bool1
def dBool : List D → Mu → VP → Prop
  | [.int i], m, F => F (.bl (i != 0)) m
  | _, _, _ => False
instance : LC K o rBoolT dBool := ⟨fun {xs vs m F I H Q} w rs h q => by
  unfold dBool at h
  split at h
  · obtain ⟨v, rfl, r⟩ := reps1 rs
    cases r
    exact .inl ⟨_, rfl, q.at w h rfl⟩
  · exact h.elim⟩
def rStrT : List V → Hp → VK → Prop := fun xs H Q => ∃ i, xs = [.int i] ∧ i.natAbs.log2 < 1920 ∧ Q (.str (toString i)) H
theorem c_str {X : Cx} : CallR X (.type "str") rStrT := call_str_int
def dStr : List D → Mu → VP → Prop
  | [.int i], m, F => i.natAbs.log2 < 1920 ∧ ∀ z, F (.str z) m
  | _, _, _ => False
instance : LC K o rStrT dStr := ⟨fun {xs vs m F I H Q} w rs h q => by
  unfold dStr at h
  split at h
  · obtain ⟨v, rfl, r⟩ := reps1 rs
    cases r
    exact ⟨_, rfl, h.1, q.at w (h.2 _) rfl⟩
  · exact h.elim⟩
/-- list(xs), xs a list: a copy -/
def rListT (K : PySem.W.Frag) : List V → Hp → VK → Prop := fun xs H Q => ∃ p ys, xs = [.ref p] ∧ (SqL K H p ys ∨ SqT K H p ys) ∧ ∀ l, H l = none → Q (.ref l) (upd H l (.lst ys))
theorem c_list {X : Cx} : CallR X (.type "list") (rListT X.K) := call_list_of
def dList : List D → Mu → VP → Prop
  | [.lst ds], m, F => F (.lst ds) m
  | _, _, _ => False
instance : LC K o (rListT K) dList := ⟨fun {xs vs m F I H Q} w rs h q => by
  unfold dList at h
  split at h
  · obtain ⟨v, rfl, r⟩ := reps1 rs
    obtain ⟨a, us, rfl, h1, h2⟩ := r
    exact ⟨a, us, rfl, .inl (.of (w.w.sub _ _ h1)), fun l hl => q.new w hl h fun e => ⟨l, us, rfl, upd_same, h2.mono e⟩⟩
  · exact h.elim⟩
/-- .. that will change -/
def rListN (K : PySem.W.Frag) : List V → Hp → VK → Prop := rListT K
theorem c_listN {X : Cx} : CallR X (.type "list") (rListN X.K) := call_list_of
def dListN : List D → Mu → VP → Prop
  | [.lst ds], m, F => ∀ p, F (.adr p) (m ++ [(p, .l ds)])
  | _, _, _ => False
instance : LC K o (rListN K) dListN := ⟨fun {xs vs m F I H Q} w rs h q => by
  unfold dListN at h
  split at h
  · rename_i ds
    obtain ⟨v, rfl, r⟩ := reps1 rs
    obtain ⟨a, us, rfl, h1, h2⟩ := r
    exact ⟨a, us, rfl, .inl (.of (w.w.sub _ _ h1)), fun l hl => q.newM (y := .l ds) w hl ⟨us, upd_same, h2⟩ (h l)⟩
  · exact h.elim⟩
/-- .. of a list that may change -/
def rListM (K : PySem.W.Frag) (k : Nat) : List V → Hp → VK → Prop := rListT K
theorem c_listM {X : Cx} (k : Nat) : CallR X (.type "list") (rListM X.K k) := call_list_of
def dListM (k : Nat) : List D → Mu → VP → Prop := fun xs m F => ∃ a ds, xs = [.adr a] ∧ m[k]? = some (a, .l ds) ∧ F (.lst ds) m
instance {k : Nat} : LC K o (rListM K k) (dListM k) := ⟨fun {xs vs m F I H Q} w rs h q => by
  obtain ⟨a, ds, rfl, hk, h⟩ := h
  obtain ⟨v, rfl, r⟩ := reps1 rs
  cases r
  obtain ⟨us, h1, h2⟩ := w.w.lst hk
  exact ⟨a, us, rfl, .inl (.of h1), fun l hl => q.new w hl h fun e => ⟨l, us, rfl, upd_same, h2.mono e⟩⟩⟩
def rTupT (K : PySem.W.Frag) : List V → Hp → VK → Prop := fun xs H Q => ∃ p ys, xs = [.ref p] ∧ ((SqL K H p ys ∧ ∀ l, H l = none → Q (.ref l) (upd H l (.tup ys))) ∨ (SqT K H p ys ∧ Q (.ref p) H))
theorem c_tuple {X : Cx} : CallR X (.type "tuple") (rTupT X.K) := call_tuple_of
def dTuple : List D → Mu → VP → Prop
  | [.lst ds], m, F => F (.tup ds) m
  | _, _, _ => False
instance : LC K o (rTupT K) dTuple := ⟨fun {xs vs m F I H Q} w rs h q => by
  unfold dTuple at h
  split at h
  · obtain ⟨v, rfl, r⟩ := reps1 rs
    obtain ⟨a, us, rfl, h1, h2⟩ := r
    exact ⟨a, us, rfl, .inl ⟨.of (w.w.sub _ _ h1), fun l hl => q.new w hl h fun e => ⟨l, us, rfl, .of upd_same, h2.mono e⟩⟩⟩
  · exact h.elim⟩
def rSortI (K : PySem.W.Frag) : List V → Hp → VK → Prop := rSorted K
theorem c_sorted {X : Cx} : CallR X (.builtin "sorted") (rSortI X.K) := cr_sorted
def dSorted : List D → Mu → VP → Prop := fun xs m F => ∃ ns : List Int, xs = [.lst (ns.map .int)] ∧ ns.length < 64 ∧ ∀ ns' : List Int, F (.lst (ns'.map .int)) m
instance : LC K o (rSortI K) dSorted := ⟨fun {xs vs m F I H Q} w rs h q => by
  obtain ⟨ns, rfl, h1, h2⟩ := h
  obtain ⟨v, rfl, r⟩ := reps1 rs
  obtain ⟨a, us, rfl, h3, h4⟩ := r
  cases h4.ints
  exact ⟨a, ns, rfl, .of (w.w.sub _ _ h3), h1, fun ns' p _ _ hp => q.new w hp (h2 ns') fun e => ⟨p, _, rfl, upd_same, Reps.of_ints⟩⟩⟩
/-- dict(d), d a dict that may change: a copy that may change -/
def rDicC (k : Nat) : List V → Hp → VK → Prop := fun xs H Q => ∃ (a : Addr) (kvs : List (Key × V)), xs = [.ref a] ∧ Rd H a (.dK kvs) ∧ ∀ p, H p = none → Q (.ref p) (upd H p (.dK kvs))
theorem c_dict {X : Cx} (k : Nat) : CallR X (.type "dict") (rDicC k) := call_dictD
def dDicC (k : Nat) : List D → Mu → VP → Prop := fun xs m F => ∃ a kvs, xs = [.adr a] ∧ m[k]? = some (a, .d kvs) ∧ ∀ p, F (.adr p) (m ++ [(p, .d kvs)])
instance {k : Nat} : LC K o (rDicC k) (dDicC k) := ⟨fun {xs vs m F I H Q} w rs h q => by
  obtain ⟨a, kvs, rfl, hk, h⟩ := h
  obtain ⟨v, rfl, r⟩ := reps1 rs
  cases r
  obtain ⟨us, h1, h2⟩ := w.w.dic hk
  exact ⟨a, us, rfl, .inl h1, fun p hp => q.newM (y := .d kvs) w hp ⟨us, upd_same, h2⟩ (h p)⟩⟩
/-! ### isinstance -/
def tTy (t : Ty) : TE := tC (.ty t.nm)
theorem pe_ty {X : Cx} (t : Ty) {x : Str} {pos : Pos} (h : PE X (.Name x pos) (tC (.ty t.nm))) : PE X (.Name x pos) (tTy t) := h
instance {t : Ty} : LE K o (tTy t) (dC (.ty t)) := ⟨fun {r m F I H s Q} w l h q => q.at w h rfl⟩
def tyD : D → Option String
  | .non => some "NoneType"
  | .bl _ => some "bool"
  | .int _ => some "int"
  | .str _ => some "str"
  | .lst _ => some "list"
  | .tup _ => some "tuple"
  | .dic _ _ => some "dict"
  | _ => none
def isTy : String → Ty → Bool
  | "bool", .int => true
  | s, t => s == t.nm
theorem isTy_ok {d : D} {s : String} (h : tyD d = some s) (t : Ty) : PySem.W.kitOne K (.type s) (.type t.nm) = some (isTy s t) := by
  cases d <;> cases h <;> cases t <;> exact kit_ty (by decide +kernel)
theorem tyX_of {I H : Hp} {d : D} {v : V} {s : String} (e : Same I H) (r : Rep K I d v) (h : tyD d = some s) : TyX K H v (.type s) := by
  cases d with
  | non => cases r; cases h; exact .base .non
  | bl b => cases r; cases h; exact .base (.bl b)
  | int b => cases r; cases h; exact .base (.int b)
  | str b => cases r; cases h; exact .base (.str b)
  | lst ds => obtain ⟨a, us, rfl, h1, h2⟩ := r; cases h; exact .base (.lst (e _ _ h1))
  | dic ks ds => obtain ⟨a, us, rfl, h1, h2⟩ := r; cases h; exact .base (.dK (e _ _ h1))
  | tup ds =>
    obtain ⟨a, us, rfl, h1, h2⟩ := r
    cases h
    rcases Same.tup e h1 with (q | ⟨ob, q⟩) | ⟨ob, its, n, q1, q2, _⟩
    · exact .base (.tup q)
    · exact .fTuple q
    · exact .kTuple q1 q2
  | _ => cases h
def rIsA (K : PySem.W.Frag) : List V → Hp → VK → Prop := rIsi K
theorem c_isi {X : Cx} : CallR X (.builtin "isinstance") (rIsA X.K) := call_isi
def dIsi : List D → Mu → VP → Prop
  | [d, .ty t], m, F => match tyD d with
    | some s => F (.bl (isTy s t)) m
    | none => False
  | _, _, _ => False
instance : LC K o (rIsA K) dIsi := ⟨fun {xs vs m F I H Q} w rs h q => by
  unfold dIsi at h
  split at h
  · rename_i d t
    split at h
    · rename_i s e
      obtain ⟨v, u, rfl, r1, r2⟩ := reps2 rs
      cases r2
      exact ⟨v, _, _, _, _, rfl, .ty _, tyX_of w.w.sub r1 e, isTy_ok e t, q.at w h rfl⟩
    · exact h.elim
  · exact h.elim⟩
end
end FC
/-! THE LOGIC, 4: slices, methods, dicts, == of lists and dicts. -/
namespace FC
open PySem PySem.Spec L2
section
variable {K : PySem.W.Frag} {o : Og}
/-! ### slices -/
abbrev DO := Rho → Mu → (Option Int → Mu → Prop) → Prop
class LO (K : PySem.W.Frag) (o : Og) (te : TO) (de : outParam DO) : Prop where
  go : ∀ {r m F I H s Q}, Wo K o I H m → Sl K I r s → de r m F → (∀ i I' H' m', F i m' → Wo K o I' H' m' → Same I I' → Q i H') → te s H Q
def dNoPart : DO := fun _ m F => F none m
instance : LO K o tNoPart dNoPart := ⟨fun {r m F I H s Q} w l h q => q none I H m h w (Same.refl I)⟩
def asI (F : Option Int → Mu → Prop) : VP := fun z m => match z with
  | .int k => F (some k) m
  | _ => False
def dPart (da : DE) : DO := fun r m F => da r m (asI F)
instance {ta : TE} {da : DE} [ia : LE K o ta da] : LO K o (tPart ta) (dPart da) := ⟨fun {r m F I H s Q} w l h q => ia.go w l h fun vx x I1 H1 m1 h1 w1 e1 rx => by
  cases x with
  | int k => exact ⟨k, rx, q (some k) I1 H1 m1 h1 w1 e1⟩
  | _ => exact h1.elim⟩
def cutD (xs : List D) (lo hi : Option Int) : List D := (xs.drop (HT.sIx xs.length 0 lo)).take (HT.sIx xs.length xs.length hi - HT.sIx xs.length 0 lo)
theorem cut_reps {I : Hp} {ds : List D} {vs : List V} (h : Reps K I ds vs) (lo hi : Option Int) : Reps K I (cutD ds lo hi) (cutV vs lo hi) := by
  unfold cutD cutV
  rw [h.length]
  exact (h.drop _).take _
def rSlA (K : PySem.W.Frag) : V → Option Int → Option Int → Hp → VK → Prop := fun x lo hi H Q => rSlL K x lo hi H Q ∨ rSlS x lo hi H Q
theorem sl_any {X : Cx} : SlR X (rSlA X.K) := sl_list.or sl_str
def dSl (da : DE) (dl dh : DO) : DE := fun r m F => da r m fun x m1 => dl r m1 fun lo m2 => dh r m2 fun hi m3 => match x with
  | .lst ds => F (.lst (cutD ds lo hi)) m3
  | .str z => z.length ≤ sizeLine ∧ F (.str (cutS z lo hi)) m3
  | _ => False
instance {ta : TE} {tl th : TO} {da : DE} {dl dh : DO} [ia : LE K o ta da] [il : LO K o tl dl] [ih : LO K o th dh] : LE K o (tSl (rSlA K) ta tl th) (dSl da dl dh) := ⟨fun {r m F I H s Q} w l h q =>
  ia.go w l h fun vx x I1 H1 m1 h1 w1 e1 rx => il.go w1 (l.mono e1) h1 fun lo I2 H2 m2 h2 w2 e2 => ih.go w2 (l.mono (e1.trans e2)) h2 fun hi I3 H3 m3 h3 w3 e3 => by
    have rx := (rx.mono e2).mono e3
    have q3 := q.mono ((e1.trans e2).trans e3)
    cases x with
    | lst ds =>
      obtain ⟨a, us, rfl, g1, g2⟩ := rx
      exact .inl ⟨a, us, rfl, .of (w3.w.sub _ _ g1), fun p hp => q3.new w3 hp h3 fun e => ⟨p, _, rfl, upd_same, (cut_reps g2 lo hi).mono e⟩⟩
    | str z =>
      cases rx
      exact .inr ⟨z, rfl, h3.1, q3.at w3 h3.2 rfl⟩
    | _ => exact h3.elim⟩
def dRev (da : DE) : DE := fun r m F => da r m fun x m1 => match x with
  | .lst ds => F (.lst ds.reverse) m1
  | _ => False
instance {ta : TE} {da : DE} [ia : LE K o ta da] : LE K o (tRevL K ta) (dRev da) := ⟨fun {r m F I H s Q} w l h q => ia.go w l h fun vx x I1 H1 m1 h1 w1 e1 rx => by
  cases x with
  | lst ds =>
    obtain ⟨a, us, rfl, g1, g2⟩ := rx
    exact ⟨a, us, rfl, .of (w1.w.sub _ _ g1), fun p hp => (q.mono e1).new w1 hp h1 fun e => ⟨p, _, rfl, upd_same, (g2.rev).mono e⟩⟩
  | _ => exact h1.elim⟩
/-! ### methods of lists that may change -/
/-- xs.append(e), the object k -/
def tApp (K : PySem.W.Frag) (k : Nat) (to te : TE) : TE := tBM K "list" rAppend to (tCons te tNil)
def dApp (k : Nat) (dO dE : DE) : DE := fun r m F => dO r m fun x m1 => ∃ a, x = .adr a ∧ (∃ ds, m1[k]? = some (a, .l ds)) ∧ dE r m1 fun y m2 => ∃ ds, m2[k]? = some (a, .l ds) ∧ ds.length < sizeLine ∧ F .non (m2.set k (a, .l (ds ++ [y])))
theorem tyV_lst {H : Hp} {a : Addr} {vs : List V} (h : H a = some (.lst vs)) : tyV K "list" (.ref a) H := .inl ⟨rfl, vs, .of h⟩
instance {k : Nat} {to te : TE} {dO dE : DE} [io : LE K o to dO] [ie : LE K o te dE] : LE K o (tApp K k to te) (dApp k dO dE) := ⟨fun {r m F I H s Q} w l h q => io.go w l h fun vx x I1 H1 m1 h1 w1 e1 rx => by
  obtain ⟨a, rfl, ⟨ds, hk⟩, h1⟩ := h1
  cases rx
  obtain ⟨us, g1, g2⟩ := w1.w.lst hk
  refine ⟨tyV_lst g1, ie.go w1 (l.mono e1) h1 fun vy y I2 H2 m2 h2 w2 e2 ry => ?_⟩
  obtain ⟨ds2, hk2, hl, h2⟩ := h2
  obtain ⟨us2, g3, g4⟩ := w2.w.lst hk2
  exact ⟨a, us2, vy, rfl, rfl, g3, by rw [g4.length]; exact hl, q _ .non I2 _ _ h2 (w2.mut hk2 _ (z := .l (ds2 ++ [y])) ⟨_, upd_same, g4.append (.one ry)⟩) (e1.trans e2) rfl⟩⟩
/-- xs.pop(i), the object k -/
def tPopI (K : PySem.W.Frag) (k : Nat) (to te : TE) : TE := tBM K "list" rPopAt to (tCons te tNil)
def dPopI (k : Nat) (dO dE : DE) : DE := fun r m F => dO r m fun x m1 => ∃ a, x = .adr a ∧ (∃ ds, m1[k]? = some (a, .l ds)) ∧ dE r m1 fun y m2 => ∃ ds i j d, m2[k]? = some (a, .l ds) ∧ y = .int i ∧ -(2 ^ 63) ≤ i ∧ i < 2 ^ 63 ∧ seqIndex? i ds.length = some j ∧ ds[j]? = some d ∧ F d (m2.set k (a, .l (ds.eraseIdx j)))
instance {k : Nat} {to te : TE} {dO dE : DE} [io : LE K o to dO] [ie : LE K o te dE] : LE K o (tPopI K k to te) (dPopI k dO dE) := ⟨fun {r m F I H s Q} w l h q => io.go w l h fun vx x I1 H1 m1 h1 w1 e1 rx => by
  obtain ⟨a, rfl, ⟨ds, hk⟩, h1⟩ := h1
  cases rx
  obtain ⟨us, g1, g2⟩ := w1.w.lst hk
  refine ⟨tyV_lst g1, ie.go w1 (l.mono e1) h1 fun vy y I2 H2 m2 h2 w2 e2 ry => ?_⟩
  obtain ⟨ds2, i, j, d, hk2, rfl, b1, b2, hj, hd, h2⟩ := h2
  cases ry
  obtain ⟨us2, g3, g4⟩ := w2.w.lst hk2
  obtain ⟨v, g5, g6⟩ := g4.get hd
  exact ⟨a, us2, i, j, v, rfl, rfl, g3, b1, b2, by rw [g4.length]; exact hj, g5, q v d I2 _ _ h2 (w2.mut hk2 _ (z := .l (ds2.eraseIdx j)) ⟨_, upd_same, g4.erase j⟩) (e1.trans e2) g6⟩⟩
/-! ### data as the library's data -/
mutual
def toPy : D → Option PyData
  | .non => some .none
  | .bl b => some (.bool b)
  | .int i => some (.int i)
  | .str x => some (.str x)
  | .lst ds => (toPys ds).map .list
  | .tup ds => (toPys ds).map .tuple
  | _ => none
def toPys : List D → Option (List PyData)
  | [] => some []
  | d :: ds => match toPy d, toPys ds with
    | some p, some ps => some (p :: ps)
    | _, _ => none
end
mutual
theorem toPy_ok {I H : Hp} (e : Same I H) : ∀ {d : D} {v : V} {p : PyData}, Rep K I d v → toPy d = some p → Dp K H v p
  | .non, _, _, r, h => by cases r; cases h; exact .non
  | .bl _, _, _, r, h => by cases r; cases h; exact .bl _
  | .int _, _, _, r, h => by cases r; cases h; exact .int _
  | .str _, _, _, r, h => by cases r; cases h; exact .str _
  | .lst ds, _, p, r, h => by
    obtain ⟨a, us, rfl, h1, h2⟩ := r
    have h : (toPys ds).map PyData.list = some p := h
    cases q : toPys ds with
    | none => rw [q] at h; cases h
    | some ps =>
      rw [q] at h
      cases h
      exact .lst (.of (e _ _ h1)) (toPys_ok e h2 q)
  | .tup ds, _, p, r, h => by
    obtain ⟨a, us, rfl, h1, h2⟩ := r
    have h : (toPys ds).map PyData.tuple = some p := h
    cases q : toPys ds with
    | none => rw [q] at h; cases h
    | some ps =>
      rw [q] at h
      cases h
      exact .tup (Same.tup e h1) (toPys_ok e h2 q)
  | .dic _ _, _, _, _, h => by cases h
  | .scr _, _, _, _, h => by cases h
  | .adr _, _, _, _, h => by cases h
  | .ty _, _, _, _, h => by cases h
  | .opq, _, _, _, h => by cases h
theorem toPys_ok {I H : Hp} (e : Same I H) : ∀ {ds : List D} {vs : List V} {ps : List PyData}, Reps K I ds vs → toPys ds = some ps → DpAll K H vs ps
  | [], _, _, r, h => by cases r; cases h; exact .nil
  | d :: ds, _, ps, r, h => by
    obtain ⟨v, us, rfl, h1, h2⟩ := r
    have h : (match toPy d, toPys ds with | some p, some ps => some (p :: ps) | _, _ => none) = some ps := h
    cases q : toPy d with
    | none => rw [q] at h; cases h
    | some p =>
      cases q2 : toPys ds with
      | none => rw [q, q2] at h; cases h
      | some ps2 =>
        rw [q, q2] at h
        cases h
        exact .cons (toPy_ok e h1 q) (toPys_ok e h2 q2)
end
/-- xs.remove(e), the object k: e is there -/
def rRemD (K : PySem.W.Frag) : V → List V → Hp → VK → Prop := fun x xs H Q => ∃ (l : Addr) (vs : List V) (y : V) (ds : List PyData) (d : PyData) (j : Nat), x = .ref l ∧ xs = [y] ∧ H l = some (.lst vs) ∧ DpAll K H vs ds ∧ Dp K H y d ∧
  PyData.plainAll ds = true ∧ d.plain = true ∧ d.depth ≤ 10 ∧ SeqAt.dataPlace ds d = some j ∧ Q .non (upd H l (.lst (vs.eraseIdx j)))
theorem mt_remD {X : Cx} (hu : X.A.units + 64 < cLine) : MtM X "list.remove" (rRemD X.K) := by
  intro pins s st H x xs v us Q I rx rxs h
  obtain ⟨l, vs, y, ds, d, j, rfl, rfl, hH, hds, hd, p1, p2, p3, hj, q⟩ := h
  cases rx
  obtain ⟨u, rfl, ru⟩ := rxs.one
  obtain ⟨z, its, n, r, hl, e⟩ := I.lstM hH
  obtain ⟨as, r1⟩ := Dp.readsAll I ds vs its hds r
  obtain ⟨bs, r2⟩ := Dp.reads I d y u hd ru
  refine SeqAt.remove_list_data (vs := its.toArray) ⟨_, e, rfl, n, rfl⟩ r1 r2 p1 p2 (by omega) hj (by rw [List.size_toArray]; omega) ?_
  have rr := r.eraseIdx j
  refine ⟨.non, _, I.lset (its' := its.eraseIdx j) (t' := s.toks) hH e ?_ rr ?_, rfl, q⟩
  · show its.toArray.eraseIdxIfInBounds j = (its.eraseIdx j).toArray
    rw [List.eraseIdxIfInBounds_toArray]
  · have z2 : (vs.eraseIdx j).length ≤ vs.length := (List.eraseIdx_sublist vs j).length_le
    omega
def tRem (K : PySem.W.Frag) (k : Nat) (to te : TE) : TE := tBM K "list" (rRemD K) to (tCons te tNil)
def dRem (k : Nat) (dO dE : DE) : DE := fun r m F => dO r m fun x m1 => ∃ a, x = .adr a ∧ (∃ ds, m1[k]? = some (a, .l ds)) ∧ dE r m1 fun y m2 => ∃ ds ps p j, m2[k]? = some (a, .l ds) ∧ toPys ds = some ps ∧ toPy y = some p ∧
  PyData.plainAll ps = true ∧ p.plain = true ∧ p.depth ≤ 10 ∧ SeqAt.dataPlace ps p = some j ∧ F .non (m2.set k (a, .l (ds.eraseIdx j)))
instance {k : Nat} {to te : TE} {dO dE : DE} [io : LE K o to dO] [ie : LE K o te dE] : LE K o (tRem K k to te) (dRem k dO dE) := ⟨fun {r m F I H s Q} w l h q => io.go w l h fun vx x I1 H1 m1 h1 w1 e1 rx => by
  obtain ⟨a, rfl, ⟨ds, hk⟩, h1⟩ := h1
  cases rx
  obtain ⟨us, g1, g2⟩ := w1.w.lst hk
  refine ⟨tyV_lst g1, ie.go w1 (l.mono e1) h1 fun vy y I2 H2 m2 h2 w2 e2 ry => ?_⟩
  obtain ⟨ds2, ps, p, j, hk2, hps, hp, p1, p2, p3, hj, h2⟩ := h2
  obtain ⟨us2, g3, g4⟩ := w2.w.lst hk2
  exact ⟨a, us2, vy, ps, p, j, rfl, rfl, g3, toPys_ok w2.w.sub g4 hps, toPy_ok w2.w.sub ry hp, p1, p2, p3, hj, q _ .non I2 _ _ h2 (w2.mut hk2 _ (z := .l (ds2.eraseIdx j)) ⟨_, upd_same, g4.erase j⟩) (e1.trans e2) rfl⟩⟩
/-! ### a list == [], != [] -/
def rEqNil (K : PySem.W.Frag) (neg : Bool) : R2 := fun x y H Q => ∃ a b xs, x = .ref a ∧ y = .ref b ∧ SqL K H a xs ∧ H b = some (.lst []) ∧ Q (.bl (if neg then !xs.isEmpty else xs.isEmpty)) H
theorem isList_of {h : Heap} {a : Addr} {its : Array Value} (p : PlainL h a its) : h.IsList a its := by
  obtain ⟨o, n, ho, hc, _, hd⟩ := p
  exact ⟨o, ho, hc, n, hd⟩
theorem o_eqNil {X : Cx} (hu : X.A.units < cLine) : OpR X (compareOp .Eq) (rEqNil X.K false) := by
  intro pins s st H x y v u Q I rx ry h
  obtain ⟨a, b, xs, rfl, rfl, ha, hb, q⟩ := h
  cases rx; cases ry
  obtain ⟨its, r, pl, _⟩ := I.list ha
  obtain ⟨its2, r2, pl2, _⟩ := I.list (SqL.of hb)
  cases r2
  cases r with
  | nil => exact SeqAt.eq_listAt (e := fun _ => true) (isList_of pl) (isList_of pl2) rfl hu (fun j h1 _ => absurd h1 (by simp)) ⟨.bl true, H, I, rfl, q⟩
  | cons r1 r2 => exact SeqAt.eq_list_lengthsAt (isList_of pl) (isList_of pl2) (by simp) hu ⟨.bl false, H, I, rfl, q⟩
theorem o_neNil {X : Cx} (hu : X.A.units < cLine) : OpR X (compareOp .NotEq) (rEqNil X.K true) := by
  intro pins s st H x y v u Q I rx ry h
  obtain ⟨a, b, xs, rfl, rfl, ha, hb, q⟩ := h
  cases rx; cases ry
  obtain ⟨its, r, pl, _⟩ := I.list ha
  obtain ⟨its2, r2, pl2, _⟩ := I.list (SqL.of hb)
  cases r2
  cases r with
  | nil => exact SeqAt.RcNeAt.lists (e := fun _ => true) (isList_of pl) (isList_of pl2) rfl hu (fun j h1 _ => absurd h1 (by simp)) _ _ _ _ ⟨.bl false, H, I, rfl, q⟩
  | cons r1 r2 => exact SeqAt.RcNeAt.lists_lengths (isList_of pl) (isList_of pl2) (by simp) hu _ _ _ _ ⟨.bl true, H, I, rfl, q⟩
def dEqNil (neg : Bool) : D → D → Mu → VP → Prop
  | .lst ds, .lst [], m, F => F (.bl (if neg then !ds.isEmpty else ds.isEmpty)) m
  | .scr ds, .lst [], m, F => F (.bl (if neg then !ds.isEmpty else ds.isEmpty)) m
  | _, _, _, _ => False
theorem empty_len {α β : Type} {xs : List α} {ys : List β} (h : xs.length = ys.length) : xs.isEmpty = ys.isEmpty := by
  cases xs <;> cases ys <;> first
    | rfl
    | cases h
instance {neg : Bool} : LR K o (rEqNil K neg) (dEqNil neg) := ⟨fun {x y vx vy m F I H Q} w rx ry h q => by
  unfold dEqNil at h
  split at h
  · obtain ⟨a, us, rfl, g1, g2⟩ := rx
    obtain ⟨b, us2, rfl, g3, g4⟩ := ry
    cases g4
    refine ⟨a, b, us, rfl, rfl, .of (w.w.sub _ _ g1), w.w.sub _ _ g3, ?_⟩
    rw [empty_len g2.length]
    exact q.at w h rfl
  · obtain ⟨a, rfl, g1⟩ := rx
    obtain ⟨b, us2, rfl, g3, g4⟩ := ry
    cases g4
    refine ⟨a, b, _, rfl, rfl, Same.seq w.w.sub g1, w.w.sub _ _ g3, ?_⟩
    rw [empty_len (List.length_map (as := _) V.int)]
    exact q.at w h rfl
  · exact h.elim⟩
def rEqNilM (K : PySem.W.Frag) (neg : Bool) (k : Nat) : R2 := rEqNil K neg
def dEqNilM (neg : Bool) (k : Nat) : D → D → Mu → VP → Prop := fun x y m F => ∃ a ds, x = .adr a ∧ y = .lst [] ∧ m[k]? = some (a, .l ds) ∧ F (.bl (if neg then !ds.isEmpty else ds.isEmpty)) m
instance {neg : Bool} {k : Nat} : LR K o (rEqNilM K neg k) (dEqNilM neg k) := ⟨fun {x y vx vy m F I H Q} w rx ry h q => by
  obtain ⟨a, ds, rfl, rfl, hk, h⟩ := h
  cases rx
  obtain ⟨b, us2, rfl, g3, g4⟩ := ry
  cases g4
  obtain ⟨us, g1, g2⟩ := w.w.lst hk
  refine ⟨a, b, us, rfl, rfl, .of g1, w.w.sub _ _ g3, ?_⟩
  rw [empty_len g2.length]
  exact q.at w h rfl⟩
/-! ### dicts -/
def dget : List (Str × D) → Str → Option D
  | [], _ => none
  | (k', d) :: r, k => if k' = k then some d else dget r k
def dput (kvs : List (Str × D)) (k : Str) (d : D) : List (Str × D) := if kvs.any (fun kv => decide (kv.1 = k)) = true then kvs.map (fun kv => if kv.1 = k then (kv.1, d) else kv) else kvs ++ [(k, d)]
def ddrop (kvs : List (Str × D)) (k : Str) : List (Str × D) := kvs.filter fun kv => decide (kv.1 ≠ k)
theorem inr_eq (a b : Str) : decide ((Sum.inr a : Key) = Sum.inr b) = decide (a = b) := key_rr a b
theorem RepK.get {I : Hp} {k : Str} : ∀ {kvs : List (Str × D)} {vs : List (Key × V)}, RepK K I kvs vs → match dget kvs k with
    | some d => ∃ v, valV vs (.inr k : Key) = some v ∧ Rep K I d v
    | none => valV vs (.inr k : Key) = none
  | [], _, h => by cases h; rfl
  | (k', d) :: r, _, h => by
    obtain ⟨v, s, rfl, h1, h2⟩ := h
    have ih := RepK.get (k := k) h2
    by_cases e : k' = k
    · have e1 : dget ((k', d) :: r) k = some d := if_pos e
      rw [e1]
      refine ⟨v, ?_, h1⟩
      unfold valV
      rw [List.find?_cons_of_pos (by rw [inr_eq]; exact decide_eq_true e)]
      rfl
    · have e1 : dget ((k', d) :: r) k = dget r k := if_neg e
      have e2 : valV ((Sum.inr k', v) :: s) (Sum.inr k : Key) = valV s (Sum.inr k) := by
        unfold valV
        rw [List.find?_cons_of_neg (by rw [inr_eq]; simp [e])]
      rw [e1, e2]
      exact ih
theorem RepK.len {I : Hp} : ∀ {kvs : List (Str × D)} {vs : List (Key × V)}, RepK K I kvs vs → vs.length = kvs.length
  | [], _, h => by cases h; rfl
  | (k', d) :: r, _, h => by
    obtain ⟨v, s, rfl, h1, h2⟩ := h
    rw [List.length_cons, List.length_cons, RepK.len h2]
theorem RepK.any {I : Hp} {k : Str} : ∀ {kvs : List (Str × D)} {vs : List (Key × V)}, RepK K I kvs vs → (vs.any fun kv => decide (kv.1 = Sum.inr k)) = kvs.any fun kv => decide (kv.1 = k)
  | [], _, h => by cases h; rfl
  | (k', d) :: r, _, h => by
    obtain ⟨v, s, rfl, h1, h2⟩ := h
    rw [List.any_cons, List.any_cons, RepK.any h2, inr_eq]
theorem RepK.map {I : Hp} {k : Str} {d : D} {v : V} (hv : Rep K I d v) : ∀ {kvs : List (Str × D)} {vs : List (Key × V)}, RepK K I kvs vs →
    RepK K I (kvs.map fun kv => if kv.1 = k then (kv.1, d) else kv) (vs.map fun kv => if kv.1 = Sum.inr k then (kv.1, v) else kv)
  | [], _, h => by cases h; rfl
  | (k', d') :: r, _, h => by
    obtain ⟨v', s, rfl, h1, h2⟩ := h
    have ih := RepK.map (k := k) hv h2
    by_cases e : k' = k
    · subst e
      rw [List.map_cons, List.map_cons, if_pos rfl, if_pos rfl]
      exact ⟨v, _, rfl, hv, ih⟩
    · rw [List.map_cons, List.map_cons, if_neg e, if_neg (fun z => e (Sum.inr.inj z))]
      exact ⟨v', _, rfl, h1, ih⟩
theorem RepK.append {I : Hp} : ∀ {kvs kvs2 : List (Str × D)} {vs vs2 : List (Key × V)}, RepK K I kvs vs → RepK K I kvs2 vs2 → RepK K I (kvs ++ kvs2) (vs ++ vs2)
  | [], _, _, _, h, h' => by cases h; exact h'
  | (k', d') :: r, _, _, _, h, h' => by
    obtain ⟨v', s, rfl, h1, h2⟩ := h
    exact ⟨v', _, rfl, h1, RepK.append h2 h'⟩
theorem RepK.put {I : Hp} {k : Str} {d : D} {v : V} {kvs : List (Str × D)} {vs : List (Key × V)} (h : RepK K I kvs vs) (hv : Rep K I d v) : RepK K I (dput kvs k d) (putK vs (.inr k) v) := by
  unfold dput putK
  rw [h.any (k := k)]
  split
  · exact h.map hv
  · exact h.append ⟨v, [], rfl, hv, rfl⟩
theorem RepK.drop {I : Hp} {k : Str} : ∀ {kvs : List (Str × D)} {vs : List (Key × V)}, RepK K I kvs vs → RepK K I (ddrop kvs k) (dropK vs (.inr k))
  | [], _, h => by cases h; rfl
  | (k', d') :: r, _, h => by
    obtain ⟨v', s, rfl, h1, h2⟩ := h
    have ih := RepK.drop (k := k) h2
    unfold ddrop dropK at ih ⊢
    by_cases e : k' = k
    · rw [List.filter_cons_of_neg (by simp [e]), List.filter_cons_of_neg (by simp [e])]
      exact ih
    · rw [List.filter_cons_of_pos (by simp [e]), List.filter_cons_of_pos (by simp [e])]
      exact ⟨v', _, rfl, h1, ih⟩
theorem repk_zip {I : Hp} : ∀ {ks : List Str} {ds : List D} {vs : List V}, ks.length = ds.length → Reps K I ds vs → RepK K I (ks.zip ds) ((ks.map Sum.inr).zip vs)
  | [], _, _, _, _ => rfl
  | _ :: _, [], _, h, _ => by cases h
  | k :: ks, d :: ds, _, h, r => by
    obtain ⟨v, us, rfl, h1, h2⟩ := r
    exact ⟨v, _, rfl, h1, repk_zip (Nat.succ.inj h) h2⟩
/-- d[k]: of the object k, of a dict that stays -/
def dGet (m : Mu) (F : VP) (kvs : List (Str × D)) (z : Str) : Prop := match dget kvs z with
  | some d => F d m
  | none => False
def tDGetM (k : Nat) (td ty : TE) : TE := tDGet td ty
theorem pe_dgetM {X : Cx} (k : Nat) {ob i : Expr} {pos : Pos} {td ty : TE} (h : PE X (.Subscript ob i pos) (tDGet td ty)) : PE X (.Subscript ob i pos) (tDGetM k td ty) := h
def dDGetM (k : Nat) (dd dy : DE) : DE := fun r m F => dd r m fun x m1 => dy r m1 fun y m2 => ∃ a kvs z, x = .adr a ∧ y = .str z ∧ m2[k]? = some (a, .d kvs) ∧ dGet m2 F kvs z
theorem got {I : Hp} {kvs : List (Str × D)} {vs : List (Key × V)} {z : Str} {m : Mu} {F : VP} (r : RepK K I kvs vs) (h : dGet m F kvs z) : ∃ d v, F d m ∧ valV vs (.inr z : Key) = some v ∧ Rep K I d v := by
  unfold dGet at h
  have g := r.get (k := z)
  split at h
  · rename_i d e
    rw [e] at g
    obtain ⟨v, g1, g2⟩ := g
    exact ⟨d, v, h, g1, g2⟩
  · exact h.elim
instance {k : Nat} {td ty : TE} {dd dy : DE} [ia : LE K o td dd] [ib : LE K o ty dy] : LE K o (tDGetM k td ty) (dDGetM k dd dy) := ⟨fun {r m F I H s Q} w l h q =>
  ia.go w l h fun vx x I1 H1 m1 h1 w1 e1 rx => ib.go w1 (l.mono e1) h1 fun vy y I2 H2 m2 h2 w2 e2 ry => by
    obtain ⟨a, kvs, z, rfl, rfl, hk, h2⟩ := h2
    cases rx; cases ry
    obtain ⟨us, g1, g2⟩ := w2.w.dic hk
    obtain ⟨d, v, g3, g4, g5⟩ := got g2 h2
    exact ⟨a, v, rfl, .inl ⟨us, .inr z, .inl g1, rfl, g4.symm⟩, q v d I2 H2 m2 g3 w2 (e1.trans e2) g5⟩⟩
def dDGet (dd dy : DE) : DE := fun r m F => dd r m fun x m1 => dy r m1 fun y m2 => match x, y with
  | .dic ks ds, .str z => dGet m2 F (ks.zip ds) z
  | _, _ => False
instance {td ty : TE} {dd dy : DE} [ia : LE K o td dd] [ib : LE K o ty dy] : LE K o (tDGet td ty) (dDGet dd dy) := ⟨fun {r m F I H s Q} w l h q =>
  ia.go w l h fun vx x I1 H1 m1 h1 w1 e1 rx => ib.go w1 (l.mono e1) h1 fun vy y I2 H2 m2 h2 w2 e2 ry => by
    split at h2
    · cases ry
      obtain ⟨a, us, rfl, g1, g0, g2⟩ := rx.mono e2
      obtain ⟨d, v, g3, g4, g5⟩ := got (repk_zip g0 g2) h2
      exact ⟨a, v, rfl, .inl ⟨_, .inr _, .inl (w2.w.sub _ _ g1), rfl, g4.symm⟩, q v d I2 H2 m2 g3 w2 (e1.trans e2) g5⟩
    · exact h2.elim⟩
/-- k in d, k not in d -/
def tDInM (neg : Bool) (k : Nat) (ty td : TE) : TE := if neg then tDNotIn ty td else tDIn ty td
def tDInA (neg : Bool) (ty td : TE) : TE := if neg then tDNotIn ty td else tDIn ty td
def dDInM (neg : Bool) (k : Nat) (dy dd : DE) : DE := fun r m F => dy r m fun y m1 => dd r m1 fun x m2 => ∃ a kvs z, x = .adr a ∧ y = .str z ∧ m2[k]? = some (a, .d kvs) ∧ F (.bl (if neg then !(dget kvs z).isSome else (dget kvs z).isSome)) m2
def dDInA (neg : Bool) (dy dd : DE) : DE := fun r m F => dy r m fun y m1 => dd r m1 fun x m2 => match x, y with
  | .dic ks ds, .str z => F (.bl (if neg then !(dget (ks.zip ds) z).isSome else (dget (ks.zip ds) z).isSome)) m2
  | _, _ => False
theorem isin {I : Hp} {kvs : List (Str × D)} {vs : List (Key × V)} (z : Str) (r : RepK K I kvs vs) : (valV vs (.inr z : Key)).isSome = (dget kvs z).isSome := by
  have g := r.get (k := z)
  cases e : dget kvs z with
  | none =>
    rw [e] at g
    rw [show valV vs (.inr z : Key) = none from g]
    rfl
  | some d =>
    rw [e] at g
    obtain ⟨v, g1, _⟩ := g
    rw [g1]
    rfl
instance {neg : Bool} {k : Nat} {td ty : TE} {dd dy : DE} [ia : LE K o td dd] [ib : LE K o ty dy] : LE K o (tDInM neg k ty td) (dDInM neg k dy dd) := ⟨fun {r m F I H s Q} w l h q => by
  cases neg <;> refine ib.go w l h fun vy y I1 H1 m1 h1 w1 e1 ry => ia.go w1 (l.mono e1) h1 fun vx x I2 H2 m2 h2 w2 e2 rx => ?_
  all_goals
    obtain ⟨a, kvs, z, rfl, rfl, hk, h2⟩ := h2
    cases rx; cases ry
    obtain ⟨us, g1, g2⟩ := w2.w.dic hk
    refine ⟨a, valV us (.inr z : Key), rfl, .inl ⟨us, .inr z, .inl g1, rfl, rfl⟩, ?_⟩
    rw [isin z g2]
    exact q _ _ I2 H2 m2 h2 w2 (e1.trans e2) rfl⟩
instance {neg : Bool} {td ty : TE} {dd dy : DE} [ia : LE K o td dd] [ib : LE K o ty dy] : LE K o (tDInA neg ty td) (dDInA neg dy dd) := ⟨fun {r m F I H s Q} w l h q => by
  cases neg <;> refine ib.go w l h fun vy y I1 H1 m1 h1 w1 e1 ry => ia.go w1 (l.mono e1) h1 fun vx x I2 H2 m2 h2 w2 e2 rx => ?_
  all_goals
    split at h2
    · cases ry
      obtain ⟨a, us, rfl, g1, g0, g2⟩ := rx
      refine ⟨a, _, rfl, .inl ⟨_, .inr _, .inl (w2.w.sub _ _ g1), rfl, rfl⟩, ?_⟩
      rw [isin _ (repk_zip g0 g2)]
      exact q _ _ I2 H2 m2 h2 w2 (e1.trans e2) rfl
    · exact h2.elim⟩
/-- d.pop(k), it is there, the object k -/
def tDPopM (k : Nat) (td ty : TE) : TE := tDPop1 td ty
def dDPopM (k : Nat) (dd dy : DE) : DE := fun r m F => dd r m fun x m1 => ∃ a, x = .adr a ∧ (∃ kvs, m1[k]? = some (a, .d kvs)) ∧ dy r m1 fun y m2 => ∃ kvs z d, y = .str z ∧ m2[k]? = some (a, .d kvs) ∧ dget kvs z = some d ∧ F d (m2.set k (a, .d (ddrop kvs z)))
instance {k : Nat} {td ty : TE} {dd dy : DE} [ia : LE K o td dd] [ib : LE K o ty dy] : LE K o (tDPopM k td ty) (dDPopM k dd dy) := ⟨fun {r m F I H s Q} w l h q =>
  ia.go w l h fun vx x I1 H1 m1 h1 w1 e1 rx => by
    obtain ⟨a, rfl, ⟨kvs, hk⟩, h1⟩ := h1
    cases rx
    obtain ⟨us, g1, g2⟩ := w1.w.dic hk
    refine ⟨a, rfl, .inl ⟨us, .inl g1⟩, ib.go w1 (l.mono e1) h1 fun vy y I2 H2 m2 h2 w2 e2 ry => ?_⟩
    obtain ⟨kvs2, z, d, rfl, hk2, hd, h2⟩ := h2
    cases ry
    obtain ⟨us2, g3, g4⟩ := w2.w.dic hk2
    have g := g4.get (k := z)
    rw [hd] at g
    obtain ⟨v, g5, g6⟩ := g
    exact ⟨us2, .inr z, v, g3, rfl, g5, q v d I2 _ _ h2 (w2.mut hk2 _ (z := .d (ddrop kvs2 z)) ⟨_, upd_same, g4.drop⟩) (e1.trans e2) g6⟩⟩
/-! ### dicts compared -/
/-- keys and values alike; the values ints -/
def dsame (ks ls : List (Str × D)) : Option Bool := if ks.length = ls.length then go ks else some false
  where go : List (Str × D) → Option Bool
    | [] => some true
    | (k, .int i) :: r => match dget ls k with
      | some (.int j) => (go r).map fun b => decide (i = j) && b
      | none => some false
      | _ => none
    | _ => none
theorem eqAt_int {A : Around} {s : Shared} (i j : Int) (t u : Tok) : SeqAt.EqAt A s (.int i t) (.int j u) (decide (i = j)) := fun prog w E Q hq => by
  have e : (i == j) = decide (i = j) := by
    rw [Bool.eq_iff_iff]
    simp
  exact wpAny_eqBool_int (by rw [e]; exact hq)
theorem dsame_hits {I : Hp} {A : Around} {s : Shared} {ls : List (Str × D)} {vl : List (Key × V)} {ub : List (Key × Value)} (rl : RepK K I ls vl) (rb : KV vl ub) : ∀ {ks : List (Str × D)} {vk : List (Key × V)} {ua : List (Key × Value)} {b : Bool},
    RepK K I ks vk → KV vk ua → dsame.go ls ks = some b → PySem.W.KeqHits A s ub ua b
  | [], _, _, b, h, k, e => by cases h; cases k; cases e; exact .nil
  | (z, d) :: r, _, _, b, h, k, e => by
    obtain ⟨v, sv, rfl, h1, h2⟩ := h
    cases k with
    | @cons p q ps qs hk t =>
      obtain ⟨kq, vq⟩ := q
      obtain ⟨k1, k2⟩ := hk
      have k1 : (Sum.inr z : Key) = kq := k1
      subst k1
      unfold dsame.go at e
      split at e
      · rename_i eq
        cases eq
      · rename_i zz i r' eq
        cases eq
        cases h1
        obtain ⟨t1, k2⟩ := k2
        have k2 : vq = Value.int i t1 := k2
        subst k2
        have g := rl.get (k := z)
        have rv := rb.val (.inr z)
        split at e
        · rename_i j ej
          rw [ej] at g
          obtain ⟨v2, g1, g2⟩ := g
          cases g2
          rw [g1] at rv
          cases ey : valueAt ub (.inr z : Key) with
          | none => rw [ey] at rv; exact rv.elim
          | some y =>
            rw [ey] at rv
            obtain ⟨t2, rv⟩ := rv
            have rv : y = Value.int j t2 := rv
            subst rv
            cases eg : dsame.go ls r with
            | none => rw [eg] at e; cases e
            | some b2 =>
              rw [eg] at e
              cases e
              exact .hit ey (eqAt_int i j _ _) (dsame_hits rl rb h2 t eg)
        · rename_i ej
          rw [ej] at g
          rw [show valV vl (.inr z : Key) = none from g] at rv
          cases e
          cases ey : valueAt ub (.inr z : Key) with
          | none => exact .miss ey
          | some y => rw [ey] at rv; exact rv.elim
        · cases e
      · cases e
def Hit (vk vl : List (Key × V)) (c : Bool) : Prop := ∃ K I ks ls, RepK K I ks vk ∧ RepK K I ls vl ∧ dsame ks ls = some c
def rEqDD (neg : Bool) : R2 := fun x y H Q => ∃ a b vk vl c, x = .ref a ∧ y = .ref b ∧ H a = some (.dK vk) ∧ H b = some (.dK vl) ∧ Hit vk vl c ∧ Q (.bl (if neg then !c else c)) H
theorem hit_len {ua ub : List (Key × Value)} {vk vl : List (Key × V)} {c : Bool} (h : Hit vk vl c) (ra : KV vk ua) (rb : KV vl ub) (A : Around) (s : Shared) : ∃ r, (ua.length = ub.length → PySem.W.KeqHits A s ub ua r) ∧ (ua.length == ub.length && r) = c := by
  obtain ⟨K, I, ks, ls, h1, h2, h3⟩ := h
  have e1 : ua.length = ks.length := by rw [← ra.length, h1.len]
  have e2 : ub.length = ls.length := by rw [← rb.length, h2.len]
  unfold dsame at h3
  split at h3
  · rename_i e
    refine ⟨c, fun _ => dsame_hits h2 rb h1 ra h3, ?_⟩
    rw [e1, e2, e]
    simp
  · rename_i e
    cases h3
    exact ⟨false, fun z => absurd (e1.symm.trans (z.trans e2)) e, by simp⟩
theorem o_eqDD {X : Cx} (hu : X.A.units < cLine) : OpR X (compareOp .Eq) (rEqDD false) := by
  intro pins s st H x y v u Q I rx ry h
  obtain ⟨a, b, vk, vl, c, rfl, rfl, ea, eb, hh, q⟩ := h
  obtain rfl : v = Value.ref a := rx
  obtain rfl : u = Value.ref b := ry
  obtain ⟨_, ya, va, ra, da⟩ := (show ObjOk X.prog X.w H s.heap a (.dK vk) from I.hok a _ ea)
  obtain ⟨_, yb, vb, rb, db⟩ := (show ObjOk X.prog X.w H s.heap b (.dK vl) from I.hok b _ eb)
  obtain ⟨r, h1, h2⟩ := hit_len hh ra rb X.A.in1 s
  exact PySem.W.keq_eq (knd := mixKind X.prog X.w) (r := r) ya yb da db hu h1 (fin_bl I q h2.symm)
theorem o_neDD {X : Cx} (hu : X.A.units < cLine) : OpR X (compareOp .NotEq) (rEqDD true) := by
  intro pins s st H x y v u Q I rx ry h
  obtain ⟨a, b, vk, vl, c, rfl, rfl, ea, eb, hh, q⟩ := h
  obtain rfl : v = Value.ref a := rx
  obtain rfl : u = Value.ref b := ry
  obtain ⟨_, ya, va, ra, da⟩ := (show ObjOk X.prog X.w H s.heap a (.dK vk) from I.hok a _ ea)
  obtain ⟨_, yb, vb, rb, db⟩ := (show ObjOk X.prog X.w H s.heap b (.dK vl) from I.hok b _ eb)
  obtain ⟨r, h1, h2⟩ := hit_len hh ra rb X.A.in1 s
  exact PySem.W.keq_ne (knd := mixKind X.prog X.w) (r := r) ya yb da db hu h1 (fin_bl I q (by rw [h2]; rfl))
def rEqD0 (neg : Bool) (k : Nat) : R2 := rEqDD neg
def dEqD0 (neg : Bool) (k : Nat) : D → D → Mu → VP → Prop := fun x y m F => ∃ a kvs, x = .adr a ∧ y = .dic [] [] ∧ m[k]? = some (a, .d kvs) ∧ F (.bl (if neg then !kvs.isEmpty else kvs.isEmpty)) m
instance {neg : Bool} {k : Nat} : LR K o (rEqD0 neg k) (dEqD0 neg k) := ⟨fun {x y vx vy m F I H Q} w rx ry h q => by
  obtain ⟨a, kvs, rfl, rfl, hk, h⟩ := h
  cases rx
  obtain ⟨b, us, rfl, g1, g0, g2⟩ := ry
  obtain ⟨vk, g3, g4⟩ := w.w.dic hk
  refine ⟨a, b, vk, [], kvs.isEmpty, rfl, rfl, g3, w.w.sub _ _ g1, ⟨K, I, kvs, [], g4, rfl, ?_⟩, q.at w h rfl⟩
  cases kvs <;> rfl⟩
def rEqDM (neg : Bool) (k j : Nat) : R2 := rEqDD neg
def dEqDM (neg : Bool) (k j : Nat) : D → D → Mu → VP → Prop := fun x y m F => ∃ a b ks ls c, x = .adr a ∧ y = .adr b ∧ m[k]? = some (a, .d ks) ∧ m[j]? = some (b, .d ls) ∧ dsame ks ls = some c ∧ F (.bl (if neg then !c else c)) m
instance {neg : Bool} {k j : Nat} : LR K o (rEqDM neg k j) (dEqDM neg k j) := ⟨fun {x y vx vy m F I H Q} w rx ry h q => by
  obtain ⟨a, b, ks, ls, c, rfl, rfl, hk, hj, e, h⟩ := h
  cases rx; cases ry
  obtain ⟨vk, g3, g4⟩ := w.w.dic hk
  obtain ⟨vl, g5, g6⟩ := w.w.dic hj
  exact ⟨a, b, vk, vl, c, rfl, rfl, g3, g5, ⟨K, I, ks, ls, g4, g6, e⟩, q.at w h rfl⟩⟩
/-! ### ''.join(xs) -/
def rJoin (K : PySem.W.Frag) : V → List V → Hp → VK → Prop := fun x xs H Q => ∃ a p, ∃ ys : List Str, x = .str a ∧ xs = [.ref p] ∧ (SqL K H p (ys.map V.str) ∨ SqT K H p (ys.map V.str)) ∧ (ys.map (·.length)).sum + ys.length * a.length ≤ 16777216 ∧ Q (.str (Txt.join a ys)) H
theorem m_join {X : Cx} : MtR X "str.join" (rJoin X.K) := mt_join
def tJoin (K : PySem.W.Frag) (to te : TE) : TE := tBM K "str" (rJoin K) to (tCons te tNil)
def dJoin (dO dE : DE) : DE := fun r m F => dO r m fun x m1 => ∃ a : Str, x = .str a ∧ dE r m1 fun y m2 => ∃ ys : List Str, y = .lst (ys.map .str) ∧ (ys.map (·.length)).sum + ys.length * a.length ≤ 16777216 ∧ F (.str (Txt.join a ys)) m2
instance {to te : TE} {dO dE : DE} [io : LE K o to dO] [ie : LE K o te dE] : LE K o (tJoin K to te) (dJoin dO dE) := ⟨fun {r m F I H s Q} w l h q => io.go w l h fun vx x I1 H1 m1 h1 w1 e1 rx => by
  obtain ⟨a, rfl, h1⟩ := h1
  cases rx
  refine ⟨rfl, ie.go w1 (l.mono e1) h1 fun vy y I2 H2 m2 h2 w2 e2 ry => ?_⟩
  obtain ⟨ys, rfl, hz, h2⟩ := h2
  obtain ⟨p, us, rfl, g1, g2⟩ := ry
  cases g2.strs
  exact ⟨a, p, ys, rfl, rfl, .inl (.of (w2.w.sub _ _ g1)), hz, q _ _ I2 H2 m2 h2 w2 (e1.trans e2) rfl⟩⟩
end
end FC
/-! THE LOGIC, 5: statements, loops, comprehensions, calls. -/
namespace FC
open PySem PySem.Spec L2
section
variable {K : PySem.W.Frag} {o : Og}
/-! ### statements -/
theorem PostE.nxt {I : Hp} {F : DEnds} {Q : Ends} (p : PostE K o I F Q) {G : Rho → Mu → Prop} {R : St → Hp → Prop} (h : PostS K o I G R) : PostE K o I { F with nx := G } { Q with nx := R } := ⟨h, p.rt, p.bk, p.ct⟩
def dNext : DS := fun F r m => F.nx r m
instance : LS K o tNext dNext := ⟨fun {r m I H s F Q} w l h p => p.nx r s I H m h w (Same.refl I) l⟩
def dSeq (t u : DS) : DS := fun F r m => t { F with nx := u F } r m
instance {t u : TS} {dt du : DS} [it : LS K o t dt] [iu : LS K o u du] : LS K o (tSeq t u) (dSeq dt du) := ⟨fun {r m I H s F Q} w l h p =>
  it.go w l h (p.nxt fun r' s' I' H' m' h' w' e' l' => iu.go w' l' h' (p.mono e'))⟩
def dDrop (de : DE) : DS := fun F r m => de r m fun _ m1 => F.nx r m1
instance {te : TE} {de : DE} [ie : LE K o te de] : LS K o (tDrop te) (dDrop de) := ⟨fun {r m I H s F Q} w l h p => ie.go w l h fun v d I1 H1 m1 h1 w1 e1 r1 => p.nx r s I1 H1 m1 h1 w1 e1 (l.mono e1)⟩
def dRet (de : DE) : DS := fun F r m => de r m F.rt
instance {te : TE} {de : DE} [ie : LE K o te de] : LS K o (tRet te) (dRet de) := ⟨fun {r m I H s F Q} w l h p => ie.go w l h fun v d I1 H1 m1 h1 w1 e1 r1 => p.rt v d I1 H1 m1 h1 w1 r1⟩
def dIfS (c : DT) (t u : DS) : DS := fun F r m => c r m fun b m1 => if b = true then t F r m1 else u F r m1
instance {c : TT} {t u : TS} {dc : DT} {dt du : DS} [ic : LT K o c dc] [it : LS K o t dt] [iu : LS K o u du] : LS K o (tIfS c t u) (dIfS dc dt du) := ⟨fun {r m I H s F Q} w l h p => ic.go w l h fun b I1 H1 m1 h1 w1 e1 => by
  cases b with
  | true =>
    rw [if_pos rfl] at h1 ⊢
    exact it.go w1 (l.mono e1) h1 (p.mono e1)
  | false =>
    rw [if_neg Bool.false_ne_true] at h1 ⊢
    exact iu.go w1 (l.mono e1) h1 (p.mono e1)⟩
def dNever : DS := fun _ _ _ => False
instance : LS K o tNever dNever := ⟨fun {r m I H s F Q} w l h p => h.elim⟩
/-! ### targets -/
abbrev DG := D → Rho → (Rho → Prop) → Prop
class LG (K : PySem.W.Frag) (o : Og) (g : TG) (dg : outParam DG) : Prop where
  go : ∀ {d v r s I H m} {F : Rho → Prop} {Q : St → Hp → Prop}, Wo K o I H m → Sl K I r s → Rep K I d v → dg d r F → (∀ r' s', F r' → Sl K I r' s' → Q s' H) → g v s H Q
abbrev DGs := List D → Rho → (Rho → Prop) → Prop
class LGs (K : PySem.W.Frag) (o : Og) (g : TGs) (dg : outParam DGs) : Prop where
  go : ∀ {ds vs r s I H m} {F : Rho → Prop} {Q : St → Hp → Prop}, Wo K o I H m → Sl K I r s → Reps K I ds vs → dg ds r F → (∀ r' s', F r' → Sl K I r' s' → Q s' H) → g vs s H Q
def dgName (i : Nat) : DG := fun d r F => F (r.set i (some d))
instance {i : Nat} : LG K o (gName i) (dgName i) := ⟨fun {d v r s I H m F Q} w l rv h q => q _ _ h (l.set i rv)⟩
def dgNil : DGs := fun ds r F => ds = [] ∧ F r
instance : LGs K o gNil dgNil := ⟨fun {ds vs r s I H m F Q} w l rv h q => by
  obtain ⟨rfl, h⟩ := h
  cases rv
  exact ⟨rfl, q _ _ h l⟩⟩
def dgCons (g : DG) (gs : DGs) : DGs := fun ds r F => match ds with
  | d :: ds => g d r fun r' => gs ds r' F
  | [] => False
instance {g : TG} {gs : TGs} {dg : DG} {dgs : DGs} [ig : LG K o g dg] [igs : LGs K o gs dgs] : LGs K o (gCons g gs) (dgCons dg dgs) := ⟨fun {ds vs r s I H m F Q} w l rv h q => by
  cases ds with
  | nil => exact h.elim
  | cons d ds =>
    obtain ⟨v, us, rfl, h1, h2⟩ := rv
    exact ⟨v, us, rfl, ig.go w l h1 h fun r' s' h' l' => igs.go w l' h2 h' q⟩⟩
def dgTup (n : Nat) (gs : DGs) : DG := fun d r F => match d with
  | .tup ds => ds.length = n ∧ gs ds r F
  | _ => False
instance {n : Nat} {gs : TGs} {dgs : DGs} [igs : LGs K o gs dgs] : LG K o (gTup K n gs) (dgTup n dgs) := ⟨fun {d v r s I H m F Q} w l rv h q => by
  cases d with
  | tup ds =>
    obtain ⟨a, us, rfl, h1, h2⟩ := rv
    exact ⟨a, us, rfl, Same.tup w.w.sub h1, by rw [h2.length]; exact h.1, igs.go w l h2 h.2 q⟩
  | _ => exact h.elim⟩
def dAsg (de : DE) (dg : DG) : DS := fun F r m => de r m fun d m1 => dg d r fun r' => F.nx r' m1
instance {te : TE} {de : DE} {g : TG} {dg : DG} [ie : LE K o te de] [ig : LG K o g dg] : LS K o (tAsg te g) (dAsg de dg) := ⟨fun {r m I H s F Q} w l h p => ie.go w l h fun v d I1 H1 m1 h1 w1 e1 r1 =>
  ig.go w1 (l.mono e1) r1 h1 fun r' s' h' l' => p.nx r' s' I1 H1 m1 h' w1 e1 l'⟩
/-- xs[i] = e, the object k -/
def gSubM (k : Nat) (to ti : TE) : TG := gSub to ti rSetL
def dSubM (k : Nat) (de dO di : DE) : DS := fun F r m => de r m fun d m1 => dO r m1 fun x m2 => di r m2 fun y m3 => ∃ a ds i j, x = .adr a ∧ y = .int i ∧ m3[k]? = some (a, .l ds) ∧ ixN ds.length i = some j ∧ F.nx r (m3.set k (a, .l (ds.set j d)))
instance {k : Nat} {te to ti : TE} {de dO di : DE} [ie : LE K o te de] [io : LE K o to dO] [ii : LE K o ti di] : LS K o (tAsg te (gSubM k to ti)) (dSubM k de dO di) := ⟨fun {r m I H s F Q} w l h p =>
  ie.go w l h fun v d I1 H1 m1 h1 w1 e1 r1 => io.go w1 (l.mono e1) h1 fun vx x I2 H2 m2 h2 w2 e2 r2 => ii.go w2 (l.mono (e1.trans e2)) h2 fun vy y I3 H3 m3 h3 w3 e3 r3 => by
    obtain ⟨a, ds, i, j, rfl, rfl, hk, hj, h3⟩ := h3
    cases r2; cases r3
    obtain ⟨us, g1, g2⟩ := w3.w.lst hk
    refine ⟨a, us, i, j, rfl, rfl, g1, by rw [g2.length]; exact hj, ?_⟩
    exact p.nx r s I3 _ _ h3 (w3.mut hk _ (z := .l (ds.set j d)) ⟨_, upd_same, g2.set j ((r1.mono e2).mono e3)⟩) ((e1.trans e2).trans e3) (l.mono ((e1.trans e2).trans e3))⟩
/-- d[k] = e, the object k -/
def sDPutM (k : Nat) (td ty tv : TE) : TS := sDPut td ty tv
def dDPutM (k : Nat) (dd dy dv : DE) : DS := fun F r m => dv r m fun d m1 => dd r m1 fun x m2 => dy r m2 fun y m3 => ∃ a kvs z, x = .adr a ∧ y = .str z ∧ m3[k]? = some (a, .d kvs) ∧ kvs.length < sizeLine ∧ F.nx r (m3.set k (a, .d (dput kvs z d)))
instance {k : Nat} {td ty tv : TE} {dd dy dv : DE} [ie : LE K o tv dv] [io : LE K o td dd] [ii : LE K o ty dy] : LS K o (sDPutM k td ty tv) (dDPutM k dd dy dv) := ⟨fun {r m I H s F Q} w l h p =>
  ie.go w l h fun v d I1 H1 m1 h1 w1 e1 r1 => io.go w1 (l.mono e1) h1 fun vx x I2 H2 m2 h2 w2 e2 r2 => ii.go w2 (l.mono (e1.trans e2)) h2 fun vy y I3 H3 m3 h3 w3 e3 r3 => by
    obtain ⟨a, kvs, z, rfl, rfl, hk, hl, h3⟩ := h3
    cases r2; cases r3
    obtain ⟨us, g1, g2⟩ := w3.w.dic hk
    exact ⟨a, _, rfl, DPut.k (k := Sum.inr z) g1 (by rw [g2.len]; exact hl), p.nx r s I3 _ _ h3 (w3.mut hk _ (z := .d (dput kvs z d)) ⟨_, upd_same, g2.put ((r1.mono e2).mono e3)⟩) ((e1.trans e2).trans e3) (l.mono ((e1.trans e2).trans e3))⟩⟩
/-- a, b = e1, e2 -/
def dPar (i j : Nat) (da : DA) : DS := fun F r m => da r m fun ds m1 => match ds with
  | [d, e] => F.nx ((r.set i (some d)).set j (some e)) m1
  | _ => False
instance {i j : Nat} {ta : TA} {da : DA} [ia : LA K o ta da] : LS K o (tPar i j ta) (dPar i j da) := ⟨fun {r m I H s F Q} w l h p => ia.go w l h fun vs ds I1 H1 m1 h1 w1 e1 r1 => by
  split at h1
  · obtain ⟨v, u, rfl, g1, g2⟩ := reps2 r1
    exact ⟨v, u, rfl, p.nx _ _ I1 H1 m1 h1 w1 e1 (((l.mono e1).set i g1).set j g2)⟩
  · exact h1.elim⟩
/-- x += e -/
def dAug (i : Nat) (f : Int → Int → Int) (de : DE) : DS := fun F r m => ∃ a : Int, r[i]? = some (some (.int a)) ∧ de r m fun d m1 => match d with
  | .int b => F.nx (r.set i (some (.int (f a b)))) m1
  | _ => False
instance {i : Nat} {f : Int → Int → Int} {te : TE} {de : DE} [ie : LE K o te de] : LS K o (tAug i te (ipI f)) (dAug i f de) := ⟨fun {r m I H s F Q} w l h p => by
  obtain ⟨a, ha, h⟩ := h
  obtain ⟨v, g1, g2⟩ := l.at_ i _ ha
  cases g2
  refine ⟨_, g1, ie.go w l h fun v d I1 H1 m1 h1 w1 e1 r1 => ?_⟩
  cases d with
  | int b =>
    cases r1
    exact ⟨a, b, rfl, rfl, p.nx _ _ I1 H1 m1 h1 w1 e1 ((l.mono e1).set i rfl)⟩
  | _ => exact h1.elim⟩
/-! ### what may change is looked at as staying -/
def tFrz (i k : Nat) (t : TS) : TS := t
theorem pss_frz {X : Cx} {body : List Stmt} {t : TS} (i k : Nat) (h : PSs X body t) : PSs X body (tFrz i k t) := h
def frzD : MO → Option D
  | .l ds => some (.lst ds)
  | .d kvs => some (.dic (kvs.map (·.1)) (kvs.map (·.2)))
  | .i _ _ => none
  | .k _ _ _ => none
def dFrz (o : Og) (i k : Nat) (dt : DS) : DS := fun F r m => ∃ a y d, r[i]? = some (some (.adr a)) ∧ m[k]? = some (a, y) ∧ frzD y = some d ∧ (∀ q ∈ dom o.m, q ∈ dom (m.eraseIdx k)) ∧ dt F (r.set i (some d)) (m.eraseIdx k)
theorem repk_unzip {I : Hp} : ∀ {kvs : List (Str × D)} {vs : List (Key × V)}, RepK K I kvs vs → ∃ us, vs = ((kvs.map (·.1)).map Sum.inr).zip us ∧ Reps K I (kvs.map (·.2)) us
  | [], _, h => by cases h; exact ⟨[], rfl, rfl⟩
  | (k, d) :: r, _, h => by
    obtain ⟨v, s, rfl, h1, h2⟩ := h
    obtain ⟨us, rfl, h3⟩ := repk_unzip h2
    exact ⟨v :: us, rfl, v, us, rfl, h1, h3⟩
theorem frz_go {I H : Hp} {m : Mu} {k : Nat} {a : Addr} {y : MO} {d : D} (w : Wo K o I H m) (hk : m[k]? = some (a, y)) (hd : frzD y = some d) (hn : ∀ q ∈ dom o.m, q ∈ dom (m.eraseIdx k)) :
    ∃ I', Wo K o I' H (m.eraseIdx k) ∧ Same I I' ∧ Rep K I' d (.ref a) := by
  have na : a ∉ dom o.m := fun z => by
    obtain ⟨y2, h2⟩ := of_dom (hn a z)
    obtain ⟨j, jk, e⟩ := mem_erase h2
    exact jk (nodup_get w.w.nd (x := a) (by show (m.map (·.1))[j]? = _; rw [List.getElem?_map, e]; rfl) (by show (m.map (·.1))[k]? = _; rw [List.getElem?_map, hk]; rfl))
  have hm := (w.w.mo _ (List.mem_of_getElem? hk)).2
  cases y with
  | l ds =>
    cases hd
    obtain ⟨us, g1, g2⟩ := hm
    obtain ⟨w', e⟩ := w.frz hk na g1
    exact ⟨_, w', e, a, us, rfl, upd_same, g2.mono e⟩
  | d kvs =>
    cases hd
    obtain ⟨us, g1, g2⟩ := hm
    obtain ⟨ws, rfl, g3⟩ := repk_unzip g2
    obtain ⟨w', e⟩ := w.frz hk na g1
    exact ⟨_, w', e, a, ws, rfl, upd_same, by rw [List.length_map, List.length_map], g3.mono e⟩
  | i C fs => cases hd
  | k x fs vs => cases hd
instance {i k : Nat} {t : TS} {dt : DS} [it : LS K o t dt] : LS K o (tFrz i k t) (dFrz o i k dt) := ⟨fun {r m I H s F Q} w l h p => by
  obtain ⟨a, y, d, hr, hk, hd, hn, h⟩ := h
  obtain ⟨I', w', e, rd⟩ := frz_go w hk hd hn
  obtain ⟨v, g1, g2⟩ := l.at_ i _ hr
  cases g2
  exact it.go w' ((l.mono e).tell ⟨_, g1, rd⟩) h (p.mono e)⟩
/-- the object k is not told any longer -/
def tFgt (k : Nat) (t : TS) : TS := t
theorem pss_fgt {X : Cx} {body : List Stmt} {t : TS} (k : Nat) (h : PSs X body t) : PSs X body (tFgt k t) := h
def dFgt (k : Nat) (dt : DS) : DS := fun F r m => dt F r (m.eraseIdx k)
instance {k : Nat} {t : TS} {dt : DS} [it : LS K o t dt] : LS K o (tFgt k t) (dFgt k dt) := ⟨fun {r m I H s F Q} w l h p => it.go (w.less (List.eraseIdx_sublist _ _)) l h p⟩
/-- what stands between two pieces -/
def tMid (M : DS → DEnds → Rho → Mu → Prop) (t : TS) : TS := t
/-! ### loops -/
structure ItOk (K : PySem.W.Frag) (o : Og) (J : It) (its : List D) (c : Mu → Prop) (I0 : Hp) : Prop where
  stop : ∀ {I H m}, Same I0 I → Wo K o I H m → c m → J.stop its.length H
  go : ∀ {I H m i d}, Same I0 I → Wo K o I H m → c m → its[i]? = some d → J.go i H ∧ ∀ x H', J.yld i H x H' → ∃ I', Same I I' ∧ Wo K o I' H' m ∧ Rep K I' d x
abbrev DI := Rho → Mu → (List D → (Mu → Prop) → Mu → Prop) → Prop
class LI (K : PySem.W.Frag) (o : Og) (wi : TI) (di : outParam DI) : Prop where
  go : ∀ {r m I H s} {F : List D → (Mu → Prop) → Mu → Prop} {R : It → Hp → Prop}, Wo K o I H m → Sl K I r s → di r m F → (∀ J its c I' H' m', F its c m' → Wo K o I' H' m' → Same I I' → ItOk K o J its c I' → R J H') → wi s H R
def dFor (di : DI) (dg : DG) (db : DS) : DS := fun F r m => di r m fun its c m1 => ∃ Inv : Nat → Rho → Mu → Prop, Inv 0 r m1 ∧ (∀ i r m, Inv i r m → c m) ∧
  (∀ i d r m, its[i]? = some d → Inv i r m → dg d r fun r' => db { nx := Inv (i + 1), rt := F.rt, bk := F.nx, ct := Inv (i + 1) } r' m) ∧ ∀ r m, Inv its.length r m → F.nx r m
instance {wi : TI} {g : TG} {tb : TS} {di : DI} {dg : DG} {db : DS} [ii : LI K o wi di] [ig : LG K o g dg] [ib : LS K o tb db] : LS K o (tFor wi g tb) (dFor di dg db) := ⟨fun {r m I H s F Q} w l h p => ii.go w l h fun J its c I1 H1 m1 h1 w1 e1 ok => by
  obtain ⟨Inv, h0, hc, hs, hd⟩ := h1
  refine ⟨fun i n s H => n = its.length - i ∧ i ≤ its.length ∧ ∃ r I m, Inv i r m ∧ Wo K o I H m ∧ Sl K I r s ∧ Same I1 I, ⟨its.length, by simp, Nat.zero_le _, r, I1, m1, h0, w1, l.mono e1, Same.refl I1⟩, ?_⟩
  rintro i n s2 H2 ⟨rfl, hi, r2, I2, m2, hv, w2, l2, e2⟩
  by_cases hlt : i < its.length
  · have hd' : its[i]? = some its[i] := List.getElem?_eq_getElem hlt
    obtain ⟨g1, g2⟩ := ok.go e2 w2 (hc _ _ _ hv) hd'
    refine .inr ⟨g1, fun s' H' => ∃ r I m, Inv (i + 1) r m ∧ Wo K o I H' m ∧ Sl K I r s' ∧ Same I1 I, fun s' H' ⟨r3, I3, m3, a1, a2, a3, a4⟩ => ⟨its.length - (i + 1), by omega, rfl, hlt, r3, I3, m3, a1, a2, a3, a4⟩, fun x H' hy => ?_⟩
    obtain ⟨I3, e3, w3, rx⟩ := g2 x H' hy
    refine ig.go w3 (l2.mono e3) rx (hs i _ r2 m2 hd' hv) fun r4 s4 h4 l4 => ib.go w3 l4 h4 ⟨fun r5 s5 I5 H5 m5 h5 w5 e5 l5 => ?_, p.rt, p.nx.mono (e1.trans (e2.trans e3)), fun r5 s5 I5 H5 m5 h5 w5 e5 l5 => ?_⟩
    all_goals exact ⟨r5, I5, m5, h5, w5, l5, e2.trans (e3.trans e5)⟩
  · have e : i = its.length := by omega
    subst e
    exact .inl ⟨ok.stop e2 w2 (hc _ _ _ hv), p.nx r2 s2 I2 H2 m2 (hd _ _ hv) w2 (e1.trans e2) l2⟩⟩
/-- while: an invariant with a measure -/
def dWhile (dt : DT) (db : DS) : DS := fun F r m => ∃ Inv : Nat → Rho → Mu → Prop, (∃ n, Inv n r m) ∧ ∀ n r m, Inv n r m → dt r m fun b m1 =>
  if b = true then db { nx := fun r m => ∃ n', n' < n ∧ Inv n' r m, rt := F.rt, bk := F.nx, ct := fun r m => ∃ n', n' < n ∧ Inv n' r m } r m1 else F.nx r m1
instance {c : TT} {tb : TS} {dt : DT} {db : DS} [ic : LT K o c dt] [ib : LS K o tb db] : LS K o (tWhile c tb) (dWhile dt db) := ⟨fun {r m I H s F Q} w l h p => by
  obtain ⟨Inv, ⟨n0, h0⟩, hs⟩ := h
  refine ⟨fun n s H => ∃ r I' m, Inv n r m ∧ Wo K o I' H m ∧ Sl K I' r s ∧ Same I I', ⟨n0, r, I, m, h0, w, l, Same.refl I⟩, ?_⟩
  rintro n s2 H2 ⟨r2, I2, m2, hv, w2, l2, e2⟩
  refine ic.go w2 l2 (hs n r2 m2 hv) fun b I3 H3 m3 h3 w3 e3 => ?_
  cases b with
  | true =>
    rw [if_pos rfl] at h3 ⊢
    refine ⟨fun s' H' => ∃ n', n' < n ∧ ∃ r I' m, Inv n' r m ∧ Wo K o I' H' m ∧ Sl K I' r s' ∧ Same I I', fun s' H' ⟨n', a1, a2⟩ => ⟨n', a1, a2⟩, ib.go w3 (l2.mono e3) h3 ⟨fun r5 s5 I5 H5 m5 h5 w5 e5 l5 => ?_, p.rt, p.nx.mono (e2.trans e3), fun r5 s5 I5 H5 m5 h5 w5 e5 l5 => ?_⟩⟩
    all_goals
      obtain ⟨n', a1, a2⟩ := h5
      exact ⟨n', a1, r5, I5, m5, a2, w5, l5, e2.trans (e3.trans e5)⟩
  | false =>
    rw [if_neg Bool.false_ne_true] at h3 ⊢
    exact p.nx r2 s2 I3 H3 m3 h3 w3 (e2.trans e3) (l2.mono e3)⟩
/-! ### what is walked -/
def iListA (K : PySem.W.Frag) (tl : TE) : TI := iList K tl
def anyMu : Mu → Prop := fun _ => True
def diLst (de : DE) : DI := fun r m F => de r m fun d m1 => match d with
  | .lst ds => F ds anyMu m1
  | _ => False
theorem itOk_list {I : Hp} {a : Addr} {us : List V} {ds : List D} (ha : I a = some (.lst us)) (hr : Reps K I ds us) : ItOk K o (Itl K a) ds anyMu I :=
  ⟨fun {I2 H2 m2} e w _ => ⟨us, .of (w.w.sub _ _ (e _ _ ha)), by rw [hr.length]; exact Nat.le_refl _⟩, fun {I2 H2 m2 i d} e w _ hi => by
    obtain ⟨v, g1, g2⟩ := hr.get hi
    have hs : SqL K H2 a us := .of (w.w.sub _ _ (e _ _ ha))
    refine ⟨⟨us, v, hs, g1⟩, fun x H' hy => ?_⟩
    obtain ⟨rfl, y⟩ := hy
    have e2 := y us hs
    rw [g1] at e2
    cases e2
    exact ⟨I2, Same.refl I2, w, g2.mono e⟩⟩
instance {te : TE} {de : DE} [ie : LE K o te de] : LI K o (iList K te) (diLst de) := ⟨fun {r m I H s F R} w l h q => ie.go w l h fun v d I1 H1 m1 h1 w1 e1 r1 => by
  cases d with
  | lst ds =>
    obtain ⟨a, us, rfl, g1, g2⟩ := r1
    exact ⟨a, rfl, ⟨us, .of (w1.w.sub _ _ g1)⟩, q _ ds anyMu I1 H1 m1 h1 w1 e1 (itOk_list g1 g2)⟩
  | _ => exact h1.elim⟩
def diTup (de : DE) : DI := fun r m F => de r m fun d m1 => match d with
  | .tup ds => F ds anyMu m1
  | _ => False
instance {te : TE} {de : DE} [ie : LE K o te de] : LI K o (iTup K te) (diTup de) := ⟨fun {r m I H s F R} w l h q => ie.go w l h fun v d I1 H1 m1 h1 w1 e1 r1 => by
  cases d with
  | tup ds =>
    obtain ⟨a, us, rfl, g1, g2⟩ := r1
    refine ⟨a, rfl, ⟨us, Same.tup w1.w.sub g1⟩, q _ ds anyMu I1 H1 m1 h1 w1 e1 ⟨fun {I2 H2 m2} e w _ => ⟨us, Same.tup (e.trans w.w.sub) g1, by rw [g2.length]; exact Nat.le_refl _⟩, fun {I2 H2 m2 i d} e w _ hi => ?_⟩⟩
    obtain ⟨v, g3, g4⟩ := g2.get hi
    have hs : SqT K H2 a us := Same.tup (e.trans w.w.sub) g1
    refine ⟨⟨us, v, hs, g3⟩, fun x H' hy => ?_⟩
    obtain ⟨rfl, y⟩ := hy
    have e2 := y us hs
    rw [g3] at e2
    cases e2
    exact ⟨I2, Same.refl I2, w, g4.mono e⟩
  | _ => exact h1.elim⟩
/-- a list that may change, but not in the loop: the object k -/
def iListM (K : PySem.W.Frag) (k : Nat) (tl : TE) : TI := iList K tl
def diLstM (k : Nat) (de : DE) : DI := fun r m F => de r m fun d m1 => ∃ a ds, d = .adr a ∧ m1[k]? = some (a, .l ds) ∧ F ds (fun m => m[k]? = some (a, .l ds)) m1
instance {k : Nat} {te : TE} {de : DE} [ie : LE K o te de] : LI K o (iListM K k te) (diLstM k de) := ⟨fun {r m I H s F R} w l h q => ie.go w l h fun v d I1 H1 m1 h1 w1 e1 r1 => by
  obtain ⟨a, ds, rfl, hk, h1⟩ := h1
  cases r1
  obtain ⟨us, g1, g2⟩ := w1.w.lst hk
  refine ⟨a, rfl, ⟨us, .of g1⟩, q _ ds _ I1 H1 m1 h1 w1 e1 ⟨fun {I2 H2 m2} e w c => ?_, fun {I2 H2 m2 i d} e w c hi => ?_⟩⟩
  · obtain ⟨us2, g3, g4⟩ := w.w.lst c
    exact ⟨us2, .of g3, by rw [g4.length]; exact Nat.le_refl _⟩
  · obtain ⟨us2, g3, g4⟩ := w.w.lst c
    obtain ⟨v, g5, g6⟩ := g4.get hi
    refine ⟨⟨us2, v, .of g3, g5⟩, fun x H' hy => ?_⟩
    obtain ⟨rfl, y⟩ := hy
    have e2 := y us2 (.of g3)
    rw [g5] at e2
    cases e2
    exact ⟨I2, Same.refl I2, w, g6⟩⟩
/-- range -/
def rngD (lo : Int) (n : Nat) : List D := (List.range n).map fun i => D.int (lo + (i : Nat))
theorem itOk_rng {lo : Int} {n : Nat} {I : Hp} : ItOk K o (Itr lo n) (rngD lo n) anyMu I :=
  ⟨fun {I2 H2 m2} e w _ => by show n ≤ (rngD lo n).length; simp [rngD], fun {I2 H2 m2 i d} e w _ hi => by
    unfold rngD at hi
    rw [List.getElem?_map] at hi
    cases q : (List.range n)[i]? with
    | none => rw [q] at hi; cases hi
    | some j =>
      rw [q] at hi
      obtain ⟨q1, q2⟩ := List.getElem?_eq_some_iff.mp q
      rw [List.getElem_range] at q2
      rw [List.length_range] at q1
      subst q2
      cases hi
      refine ⟨q1, fun x H' hy => ?_⟩
      obtain ⟨rfl, rfl⟩ := hy
      exact ⟨I2, Same.refl I2, w, rfl⟩⟩
def diRng1 (da : DA) : DI := fun r m F => da r m fun ds m1 => match ds with
  | [.int n] => n < 2 ^ 62 ∧ -(2 ^ 62) ≤ n ∧ F (rngD 0 n.toNat) anyMu m1
  | _ => False
instance {ta : TA} {da : DA} [ia : LA K o ta da] : LI K o (iRng1 ta) (diRng1 da) := ⟨fun {r m I H s F R} w l h q => ia.go w l h fun vs ds I1 H1 m1 h1 w1 e1 r1 => by
  split at h1
  · obtain ⟨v, rfl, g1⟩ := reps1 r1
    cases g1
    exact ⟨_, rfl, h1.2.1, h1.1, q _ _ anyMu I1 H1 m1 h1.2.2 w1 e1 itOk_rng⟩
  · exact h1.elim⟩
def diRng2 (da : DA) : DI := fun r m F => da r m fun ds m1 => match ds with
  | [.int i, .int j] => (-(2 ^ 62) ≤ i ∧ i < 2 ^ 62 ∧ -(2 ^ 62) ≤ j ∧ j < 2 ^ 62) ∧ F (rngD i (j - i).toNat) anyMu m1
  | _ => False
instance {ta : TA} {da : DA} [ia : LA K o ta da] : LI K o (iRng2 ta) (diRng2 da) := ⟨fun {r m I H s F R} w l h q => ia.go w l h fun vs ds I1 H1 m1 h1 w1 e1 r1 => by
  split at h1
  · obtain ⟨v, u, rfl, g1, g2⟩ := reps2 r1
    cases g1; cases g2
    exact ⟨_, _, rfl, h1.1, q _ _ anyMu I1 H1 m1 h1.2 w1 e1 itOk_rng⟩
  · exact h1.elim⟩
/-- a text, sign by sign -/
def signs (z : Str) : List D := z.cps.toList.map fun c => D.str ⟨#[c]⟩
def diStr (de : DE) : DI := fun r m F => de r m fun d m1 => match d with
  | .str z => F (signs z) anyMu m1
  | _ => False
instance {te : TE} {de : DE} [ie : LE K o te de] : LI K o (iStr te) (diStr de) := ⟨fun {r m I H s F R} w l h q => ie.go w l h fun v d I1 H1 m1 h1 w1 e1 r1 => by
  cases d with
  | str z =>
    cases r1
    refine ⟨z, rfl, q _ (signs z) anyMu I1 H1 m1 h1 w1 e1 ⟨fun {I2 H2 m2} e w _ => ?_, fun {I2 H2 m2 i d} e w _ hi => ?_⟩⟩
    · show z.cps.size ≤ (signs z).length
      simp [signs]
    · unfold signs at hi
      rw [List.getElem?_map] at hi
      cases e : z.cps.toList[i]? with
      | none => rw [e] at hi; cases hi
      | some c =>
        rw [e] at hi
        cases hi
        rw [Array.getElem?_toList] at e
        refine ⟨(Array.getElem?_eq_some_iff.mp e).1, fun x H' hy => ?_⟩
        obtain ⟨rfl, c', hc, rfl⟩ := hy
        rw [e] at hc
        cases hc
        exact ⟨I2, Same.refl I2, w, rfl⟩
  | _ => exact h1.elim⟩
/-- enumerate, zip -/
def enumD (ds : List D) : List D := ds.zipIdx.map fun p => .tup [.int (p.2 : Nat), p.1]
def diEnum (da : DA) : DI := fun r m F => da r m fun ds m1 => match ds with
  | [.lst ds] => F (enumD ds) anyMu m1
  | _ => False
theorem wo_pair {I H : Hp} {m : Mu} {T : Addr} {x y : V} {d e : D} (w : Wo K o I H m) (hT : H T = none) (r1 : Rep K I d x) (r2 : Rep K I e y) : ∃ I', Same I I' ∧ Wo K o I' (upd H T (.tup [x, y])) m ∧ Rep K I' (.tup [d, e]) (.ref T) := by
  have es := same_upd (o := HO.tup [x, y]) (w.w.iN hT)
  exact ⟨_, es, w.new hT _, T, _, rfl, .of upd_same, x, [y], rfl, r1.mono es, y, [], rfl, r2.mono es, rfl⟩
instance {ta : TA} {da : DA} [ia : LA K o ta da] : LI K o (iEnum K ta) (diEnum da) := ⟨fun {r m I H s F R} w l h q => ia.go w l h fun vs ds I1 H1 m1 h1 w1 e1 r1 => by
  split at h1
  · rename_i ds
    obtain ⟨v, rfl, g1⟩ := reps1 r1
    obtain ⟨a, us, rfl, g2, g3⟩ := g1
    refine ⟨a, us, rfl, .of (w1.w.sub _ _ g2), q _ (enumD ds) anyMu I1 H1 m1 h1 w1 e1 ⟨fun {I2 H2 m2} e w _ => ?_, fun {I2 H2 m2 i d} e w _ hi => ?_⟩⟩
    · exact ⟨us, .of (w.w.sub _ _ (e _ _ g2)), by rw [g3.length]; simp [enumD]⟩
    · unfold enumD at hi
      rw [List.getElem?_map, List.getElem?_zipIdx] at hi
      cases e3 : ds[i]? with
      | none => rw [e3] at hi; cases hi
      | some d' =>
        rw [e3] at hi
        cases hi
        obtain ⟨v, g4, g5⟩ := g3.get e3
        have hs : SqL K H2 a us := .of (w.w.sub _ _ (e _ _ g2))
        refine ⟨⟨us, v, hs, g4⟩, fun x H' hy => ?_⟩
        obtain ⟨T, x2, rfl, hT, rfl, hx⟩ := hy
        have e4 := hx us hs
        rw [g4] at e4
        cases e4
        have z := wo_pair w hT (d := .int (i : Nat)) (x := .int (i : Nat)) rfl (g5.mono e)
        rw [Nat.zero_add]
        exact z
  · exact h1.elim⟩
def zipD (as bs : List D) : List D := (as.zip bs).map fun p => .tup [p.1, p.2]
def diZip (da : DA) : DI := fun r m F => da r m fun ds m1 => match ds with
  | [.lst as, .lst bs] => F (zipD as bs) anyMu m1
  | _ => False
instance {ta : TA} {da : DA} [ia : LA K o ta da] : LI K o (iZip K ta) (diZip da) := ⟨fun {r m I H s F R} w l h q => ia.go w l h fun vs ds I1 H1 m1 h1 w1 e1 r1 => by
  split at h1
  · rename_i as bs
    obtain ⟨v, u, rfl, g1, g1'⟩ := reps2 r1
    obtain ⟨a, us, rfl, g2, g3⟩ := g1
    obtain ⟨b, us', rfl, g2', g3'⟩ := g1'
    refine ⟨a, b, us, us', rfl, .of (w1.w.sub _ _ g2), .of (w1.w.sub _ _ g2'), q _ (zipD as bs) anyMu I1 H1 m1 h1 w1 e1 ⟨fun {I2 H2 m2} e w _ => ?_, fun {I2 H2 m2 i d} e w _ hi => ?_⟩⟩
    · refine ⟨us, us', .of (w.w.sub _ _ (e _ _ g2)), .of (w.w.sub _ _ (e _ _ g2')), ?_⟩
      rw [g3.length, g3'.length]
      simp only [zipD, List.length_map, List.length_zip]
      omega
    · unfold zipD at hi
      rw [List.getElem?_map] at hi
      cases e3 : (as.zip bs)[i]? with
      | none => rw [e3] at hi; cases hi
      | some p =>
        rw [e3] at hi
        cases hi
        obtain ⟨p1, p2⟩ := p
        obtain ⟨e4, e5⟩ := List.getElem?_zip_eq_some.mp e3
        obtain ⟨v, g4, g5⟩ := g3.get e4
        obtain ⟨v', g4', g5'⟩ := g3'.get e5
        have hs : SqL K H2 a us := .of (w.w.sub _ _ (e _ _ g2))
        have hs' : SqL K H2 b us' := .of (w.w.sub _ _ (e _ _ g2'))
        refine ⟨⟨us, us', v, v', hs, hs', g4, g4'⟩, fun x H' hy => ?_⟩
        obtain ⟨T, x2, y2, rfl, hT, rfl, hx, hy⟩ := hy
        have e6 := hx us hs
        rw [g4] at e6
        cases e6
        have e7 := hy us' hs'
        rw [g4'] at e7
        cases e7
        exact wo_pair w hT (g5.mono e) (g5'.mono e)
  · exact h1.elim⟩
/-! ### comprehensions -/
def wipeD (r : Rho) : List Nat → Rho
  | [] => r
  | v :: vs => (wipeD r vs).set v none
theorem wipeD_len (r : Rho) : ∀ vs : List Nat, (wipeD r vs).length = r.length
  | [] => rfl
  | v :: vs => by unfold wipeD; rw [List.length_set, wipeD_len r vs]
theorem Sl.wipe {I : Hp} {r : Rho} {s : St} (l : Sl K I r s) : ∀ vs : List Nat, Sl K I (wipeD r vs) (wipe s vs)
  | [] => l
  | v :: vs => by
    have ih := Sl.wipe l vs
    refine ⟨by unfold wipeD L2.wipe; rw [List.length_set, List.length_set]; exact ih.len, fun i d q => ?_⟩
    unfold wipeD at q
    unfold L2.wipe
    by_cases e : v = i
    · subst e
      rw [List.getElem?_set] at q
      simp at q
    · rw [List.getElem?_set_ne e] at q ⊢
      exact ih.at_ i d q
class LW (g : TG) (vs : List Nat) : Prop where
  go : ∀ {v s H} {Q : St → Hp → Prop}, g v (wipe s vs) H Q → g v (wipe s vs) H fun s2 H2 => wipe s2 vs = wipe s vs ∧ Q s2 H2
instance {i : Nat} : LW (gName i) [i] := ⟨fun {v s H Q} h => ⟨by
  show ((s.set i none).set i (some v)).set i none = s.set i none
  rw [List.set_set, List.set_set], h⟩⟩
theorem wipe2 {i j : Nat} {s : St} {v u : V} : wipe (((wipe s [i, j]).set i (some v)).set j (some u)) [i, j] = wipe s [i, j] := by
  show ((((((s.set j none).set i none).set i (some v)).set j (some u)).set j none).set i none) = (s.set j none).set i none
  refine List.ext_getElem? fun k => ?_
  simp only [List.getElem?_set, List.length_set]
  repeat' split
  all_goals first
    | rfl
    | omega
    | skip
instance {i j n : Nat} : LW (gTup K n (gCons (gName i) (gCons (gName j) gNil))) [i, j] := ⟨fun {v s H Q} h => by
  obtain ⟨a, xs, rfl, h1, h2, x, r, rfl, y, r2, rfl, rfl, h3⟩ := h
  exact ⟨a, _, rfl, h1, h2, x, _, rfl, y, _, rfl, rfl, wipe2, h3⟩⟩
/-- what the new list is told as: as staying, as what may change -/
def lcRes (b : Bool) (F : VP) (acc : List D) (m : Mu) : Prop := if b = true then ∀ p, F (.adr p) (m ++ [(p, .l acc)]) else F (.lst acc) m
def dLc (b : Bool) (di : DI) (dg : DG) (dt : DT) (de : DE) (vs : List Nat) : DE := fun r m F => di r m fun its c m1 => ∃ Inv : Nat → List D → Mu → Prop, Inv 0 [] m1 ∧ (∀ i acc m, Inv i acc m → acc.length < sizeLine ∧ ∀ t, c (m ++ [t])) ∧
  (∀ i d acc m p, its[i]? = some d → Inv i acc m → dg d (wipeD r vs) fun r2 => dt r2 (m ++ [(p, .l acc)]) fun b m2 => if b = true then de r2 m2 fun y m3 => ∃ m4, m3 = m4 ++ [(p, .l acc)] ∧ Inv (i + 1) (acc ++ [y]) m4
    else ∃ m4, m2 = m4 ++ [(p, .l acc)] ∧ Inv (i + 1) acc m4) ∧ ∀ acc m, Inv its.length acc m → lcRes b F acc m
theorem erase_last {α : Type} (m : List α) (a : α) : (m ++ [a]).eraseIdx m.length = m := by
  rw [List.eraseIdx_append_of_length_le (Nat.le_refl _), Nat.sub_self]
  simp
theorem lc_go {b : Bool} {wi : TI} {g : TG} {tt : TT} {te : TE} {vs : List Nat} {di : DI} {dg : DG} {dt : DT} {de : DE} [ii : LI K o wi di] [ig : LG K o g dg] [iw : LW g vs] [it : LT K o tt dt] [ie : LE K o te de] : LE K o (tLc wi g tt te vs) (dLc b di dg dt de vs) := ⟨fun {r m F I H s Q} w l h q => ii.go w l h fun J its c I1 H1 m1 h1 w1 e1 ok => by
  obtain ⟨Inv, h0, hc, hs, hd⟩ := h1
  intro D hD
  have no : D ∉ dom o.m := fun z => w1.t.g D (w1.t.al D z) hD
  refine ⟨fun i n H => n = its.length - i ∧ i ≤ its.length ∧ ∃ acc I m, Inv i acc m ∧ Wo K o I H (m ++ [(D, .l acc)]) ∧ Same I1 I, ⟨its.length, by simp, Nat.zero_le _, [], I1, m1, h0, w1.newM hD _ (y := .l []) ⟨[], upd_same, rfl⟩, Same.refl I1⟩, ?_⟩
  rintro i n H2 ⟨rfl, hi, acc, I2, m2, hv, w2, e2⟩
  by_cases hlt : i < its.length
  · have hd' : its[i]? = some its[i] := List.getElem?_eq_getElem hlt
    obtain ⟨g1, g2⟩ := ok.go e2 w2 ((hc _ _ _ hv).2 _) hd'
    refine .inr ⟨g1, fun H' => ∃ acc I m, Inv (i + 1) acc m ∧ Wo K o I H' (m ++ [(D, .l acc)]) ∧ Same I1 I, fun H' ⟨acc, I3, m3, a1, a2, a3⟩ => ⟨its.length - (i + 1), by omega, rfl, hlt, acc, I3, m3, a1, a2, a3⟩, fun x H' hy => ?_⟩
    obtain ⟨I3, e3, w3, rx⟩ := g2 x H' hy
    refine iw.go (ig.go w3 ((l.mono (e1.trans (e2.trans e3))).wipe vs) rx (hs i _ acc m2 D hd' hv) fun r4 s4 h4 l4 => it.go w3 l4 h4 fun b I5 H5 m5 h5 w5 e5 => ?_)
    cases b with
    | true =>
      rw [if_pos rfl] at h5 ⊢
      refine ie.go w5 (l4.mono e5) h5 fun v y I6 H6 m6 h6 w6 e6 r6 => ?_
      obtain ⟨m4, rfl, hv2⟩ := h6
      obtain ⟨us, g3, g4⟩ := w6.w.lst (get_last m4 _)
      have w7 := w6.mut (get_last m4 (D, MO.l acc)) (.lst (us ++ [v])) (z := .l (acc ++ [y])) ⟨_, upd_same, g4.append (.one r6)⟩
      rw [set_last] at w7
      exact ⟨us, g3, by rw [g4.length]; exact (hc _ _ _ hv).1, _, I6, m4, hv2, w7, e2.trans (e3.trans (e5.trans e6))⟩
    | false =>
      rw [if_neg Bool.false_ne_true] at h5 ⊢
      obtain ⟨m4, rfl, hv2⟩ := h5
      exact ⟨_, I5, m4, hv2, w5, e2.trans (e3.trans e5)⟩
  · have e : i = its.length := by omega
    subst e
    refine .inl ⟨ok.stop e2 w2 ((hc _ _ _ hv).2 _), ?_⟩
    have hr := hd _ _ hv
    unfold lcRes at hr
    cases b with
    | true =>
      rw [if_pos rfl] at hr
      exact q _ (.adr D) I2 H2 _ (hr D) w2 (e1.trans e2) rfl
    | false =>
      rw [if_neg Bool.false_ne_true] at hr
      obtain ⟨us, g3, g4⟩ := w2.w.lst (get_last m2 _)
      obtain ⟨w3, e3⟩ := w2.frz (get_last m2 _) no g3
      rw [erase_last] at w3
      exact q _ (.lst acc) _ H2 _ hr w3 (e1.trans (e2.trans e3)) ⟨D, us, rfl, upd_same, g4.mono e3⟩⟩
instance {wi : TI} {g : TG} {tt : TT} {te : TE} {vs : List Nat} {di : DI} {dg : DG} {dt : DT} {de : DE} [ii : LI K o wi di] [ig : LG K o g dg] [iw : LW g vs] [it : LT K o tt dt] [ie : LE K o te de] : LE K o (tLc wi g tt te vs) (dLc false di dg dt de vs) := lc_go
def tLcM (wi : TI) (g : TG) (tt : TT) (te : TE) (vs : List Nat) : TE := tLc wi g tt te vs
instance {wi : TI} {g : TG} {tt : TT} {te : TE} {vs : List Nat} {di : DI} {dg : DG} {dt : DT} {de : DE} [ii : LI K o wi di] [ig : LG K o g dg] [iw : LW g vs] [it : LT K o tt dt] [ie : LE K o te de] : LE K o (tLcM wi g tt te vs) (dLc true di dg dt de vs) := lc_go
def dYes : DT := fun _ m F => F true m
instance : LT K o tYes dYes := ⟨fun {r m F I H s Q} w l h q => q true I H m h w (Same.refl I)⟩
/-! ### calls of own defs -/
class XOk (K : PySem.W.Frag) (o : Og) (C : Addr) (E : XK) (X : outParam (Mu → Prop)) : Prop where
  go : ∀ {dd I' H' m'}, X m' → Wo K o I' H' m' → E (.ref C) dd H'
instance {C : Addr} : XOk K o C E0 (fun _ => False) := ⟨fun h _ => h⟩
def dCall (n j : Nat) (S : Spc) (X : Mu → Prop) (da : DA) : DE := fun r m F => da r m fun ds m1 => ds.length = n ∧ S ds (m1.take j) (fun d m' => F d (m' ++ m1.drop j)) fun m' => X (m' ++ m1.drop j)
theorem Wd.take {I H : Hp} {m : Mu} (w : Wd K I H m) (j : Nat) : Wd K I H (m.take j) :=
  ⟨w.sub, fun q hq => w.mo q (List.mem_of_mem_take hq), List.Nodup.sublist ((List.take_sublist _ _).map _) w.nd⟩
theorem call_go {n j : Nat} {S : Spc} {C : Addr} {E : XK} {X : Mu → Prop} [ix : XOk K o C E X] {I H : Hp} {m : Mu} {ds : List D} {vs : List V} {F : VP} {Q : VK} (w : Wo K o I H m) (r : Reps K I ds vs) (h : ds.length = n ∧ S ds (m.take j) (fun d m' => F d (m' ++ m.drop j)) fun m' => X (m' ++ m.drop j)) (q : Post K o I F Q) :
    spD K C n S vs H Q E := by
  have w' : Wo K o I H (m.take j ++ m.drop j) := by rw [List.take_append_drop]; exact w
  refine ⟨by rw [r.length]; exact h.1, I, m.take j, ds, _, _, w.w.take j, r, h.2, fun v d I2 H2 m2 hf w2 t2 r2 => ?_, fun dd I2 H2 m2 hx w2 t2 => ?_⟩
  · exact q v d I2 H2 _ hf (w'.call w2 t2) t2.i r2
  · exact ix.go hx (w'.call w2 t2)
def tCallD (K : PySem.W.Frag) (C : Addr) (n j : Nat) (S : Spc) (E : XK) (ta : TA) : TE := tCall (spD K C n S) [] E ta
instance {C : Addr} {n j : Nat} {S : Spc} {E : XK} {X : Mu → Prop} {ta : TA} {da : DA} [ix : XOk K o C E X] [ia : LA K o ta da] : LE K o (tCallD K C n j S E ta) (dCall n j S X da) := ⟨fun {r m F I H s Q} w l h q => ia.go w l h fun vs ds I1 H1 m1 h1 w1 e1 r1 => by
  rw [List.append_nil]
  exact call_go (C := C) (E := E) w1 r1 h1 (q.mono e1)⟩
/-! ### a def keeps its promise on data -/
def startD (N : List Str) (ds : List D) : Rho := ds.map some ++ List.replicate (N.length - ds.length) none
theorem sl_start {I : Hp} {N : List Str} {ds : List D} {vs : List V} (r : Reps K I ds vs) : Sl K I (startD N ds) (start N vs) := by
  refine ⟨by simp [startD, L2.start, r.length], fun i d h => ?_⟩
  unfold startD at h
  by_cases hi : i < ds.length
  · rw [List.getElem?_append_left (by simpa using hi), List.getElem?_map, List.getElem?_eq_getElem hi] at h
    cases h
    obtain ⟨v, g1, g2⟩ := r.get (List.getElem?_eq_getElem hi)
    refine ⟨v, ?_, g2⟩
    unfold L2.start
    rw [List.getElem?_append_left (by rw [List.length_map, r.length]; exact hi), List.getElem?_map, g1]
    rfl
  · rw [List.getElem?_append_right (by simpa using hi), List.getElem?_replicate] at h
    split at h <;> cases h
def endsD (F : VP) (j : Nat) : DEnds := { nx := fun _ m => F .non (m.take j), rt := fun d m => F d (m.take j) }
theorem go_body {C : Addr} {m : Mu} {I H : Hp} {N : List Str} {ds : List D} {vs : List V} {F : VP} {Q : VK} {t : TS} {dt : DS} {j : Nat} (w : Wd K I H m) (r : Reps K I ds vs)
    (q : ∀ v d I' H' m', F d m' → Wd K I' H' m' → Tr m m' I H I' H' → Rep K I' d v → Q v H') (it : LS K ⟨I, H, m⟩ t dt) (h : dt (endsD F j) (startD N ds) m) : t { nx := fun _ H' => Q .non H', rt := Q } (start N vs) H := by
  refine it.go (Wo.start w) (sl_start r) h ⟨fun r' s' I' H' m' h' w' e' l' => ?_, fun v d I' H' m' h' w' r' => ?_, fun _ _ _ _ _ z => z.elim, fun _ _ _ _ _ z => z.elim⟩
  · have w2 := w'.less (List.take_sublist j m')
    exact q .non .non I' H' _ h' w2.w w2.t rfl
  · have w2 := w'.less (List.take_sublist j m')
    exact q v d I' H' _ h' w2.w w2.t r'
end
section
variable {P : Program} {w : World} {K : PySem.W.Frag} {mg : Str → Option Value} {base : Heap}
/-- a def that lets no exception out: j objects that may change are told behind it -/
theorem ok_pure {x qual : Str} {params : Arguments} {body : List Stmt} {scope : Scope} {f : Addr} {fd : FuncData} {N ps : List Str} {k : Nat} {C : Addr} {n : Nat} {S : Spc} (j : Nat) (F : FunD K x qual params body scope [] [] f fd) (sc : FnScope N ps scope) (hn : ps.length = n)
    (hb : ∀ (cdv : Value) (A : Around) (outer : List Env) (s : Shared) (H : Hp) (E : XK) (I : Hp) (m : Mu) (ds : List D) (Fv : VP) (X : Mu → Prop), Room k (A.deeper (PyProof.Rows.envOfC qual scope s.heap.objs.size f cdv)) → S ds m Fv X →
      ∃ t dt, PSs (cxOf CX0 P w K mg base N qual scope f cdv A outer s H E).nox body t ∧ LS K ⟨I, H, m⟩ t dt ∧ dt (endsD Fv j) (startD N ds) m) :
    FnOk P w K mg base CX0 (k + 1) f fd ps (spD K C n S) := by
  refine F.ok sc (fun vs H Q E h => h.1.trans hn.symm) (fun cdv A outer s H vs Q E hr h => ?_)
  obtain ⟨hl, I, m, ds, Fv, X, wd, r, hS, q, _⟩ := h
  obtain ⟨t, dt, hp, it, h⟩ := hb cdv A outer s H E I m ds Fv X hr hS
  exact ⟨t, hp.nox, go_body (C := C) wd r q it h⟩
/-- a def that may raise C -/
theorem ok_x {x qual : Str} {params : Arguments} {body : List Stmt} {scope : Scope} {f : Addr} {fd : FuncData} {N ps : List Str} {k : Nat} {C : Addr} {n : Nat} {S : Spc} (j : Nat) (F : FunD K x qual params body scope [] [] f fd) (sc : FnScope N ps scope) (hn : ps.length = n)
    (hb : ∀ (cdv : Value) (A : Around) (outer : List Env) (s : Shared) (H : Hp) (E : XK) (I : Hp) (m : Mu) (ds : List D) (Fv : VP) (X : Mu → Prop), Room k (A.deeper (PyProof.Rows.envOfC qual scope s.heap.objs.size f cdv)) → S ds m Fv X → XOk K ⟨I, H, m⟩ C E X →
      ∃ t dt, PSs (cxOf (L2.CX P w) P w K mg base N qual scope f cdv A outer s H E) body t ∧ LS K ⟨I, H, m⟩ t dt ∧ dt (endsD Fv j) (startD N ds) m) :
    FnOk P w K mg base (L2.CX P w) (k + 1) f fd ps (spD K C n S) := by
  refine F.ok sc (fun vs H Q E h => h.1.trans hn.symm) (fun cdv A outer s H vs Q E hr h => ?_)
  obtain ⟨hl, I, m, ds, Fv, X, wd, r, hS, q, qx⟩ := h
  obtain ⟨t, dt, hp, it, h⟩ := hb cdv A outer s H E I m ds Fv X hr hS ⟨fun hx w => qx _ _ _ _ hx w.w w.t⟩
  exact ⟨t, hp, go_body (C := C) wd r q it h⟩
end
end FC
/-! THE LOGIC, 6: own defs as callees, the module's constants, short rules. -/
namespace FC
open PySem PySem.Spec L2
abbrev NC (K : PySem.W.Frag) : Addr := He.ga K "NoCases"
structure Fo (P : Program) (w : World) (K : PySem.W.Frag) (mg : Str → Option Value) (base : Heap) (CX : CXT) (k : Nat) (x : Str) (ps : List Str) (sp : Sp) : Prop where
  ex : ∃ f fd, FnOk P w K mg base CX k f fd ps sp ∧ mg x = some (.ref f) ∧ PySem.W.keepIn K (.ref f) = true ∧ Binds K fd ps []
theorem Fo.mono {P : Program} {w : World} {K : PySem.W.Frag} {mg : Str → Option Value} {base : Heap} {CX : CXT} {j k : Nat} {x : Str} {ps : List Str} {sp : Sp} (G : Fo P w K mg base CX j x ps sp) (h : j ≤ k) : Fo P w K mg base CX k x ps sp := by
  obtain ⟨f, fd, h1, h2⟩ := G.ex
  exact ⟨f, fd, h1.mono h, h2⟩
section
variable {X : Cx} {CX : CXT} {k : Nat} {x : Str} {ps : List Str} {C : Addr} {n : Nat} {S : Spc} {E : XK} {p pos : Pos} {e : Expr} {es : List Expr} {t : TA}
theorem pe_own (j : Nat) (G : Fo X.prog X.w X.K X.mg X.base CX k x ps (spD X.K C n S)) (hr : Room k X.A) (hx : Passes CX X E) (ha : PA X (e :: es) t) (hg : Gl X x := by rfl) (hdb : (x == ("__debug__" : Str)) = false := by decide) (he : starEach (e :: es) X.env = (false, eval e X.env) :: starEach es X.env := by rfl)
    (hpl : (backTo pos (starEach es X.env)).any (·.1) = false := by rfl) : PE X (.Call (.Name x p) (e :: es) [] pos) (tCallD X.K C n j S E t) := by
  obtain ⟨f, fd, h1, h2, h3, h4⟩ := G.ex
  exact pe_call h1 hr hg h2 h3 h4 .nil hx ha hdb he hpl
/-- a built-in by its name -/
theorem pe_bi {id : String} {r : List V → Hp → VK → Prop} (hc : CallR X (.builtin id) r) (hm : X.mg x = none) (hv : bootBuiltins x = some (.builtin id)) (ha : PA X (e :: es) t) (hg : Gl X x := by rfl) (hn : x ≠ "__name__" := by decide) (hdb : (x == ("__debug__" : Str)) = false := by decide)
    (he : starEach (e :: es) X.env = (false, eval e X.env) :: starEach es X.env := by rfl) (hpl : (backTo pos (starEach es X.env)).any (·.1) = false := by rfl) : PE X (.Call (.Name x p) (e :: es) [] pos) (tCB r t) := pe_callB hc hg hm hv ha hn hdb he hpl
theorem pe_bt {id : String} {r : List V → Hp → VK → Prop} (hc : CallR X (.type id) r) (hm : X.mg x = none) (hv : bootBuiltins x = some (.type id)) (ha : PA X (e :: es) t) (hg : Gl X x := by rfl) (hn : x ≠ "__name__" := by decide) (hdb : (x == ("__debug__" : Str)) = false := by decide)
    (he : starEach (e :: es) X.env = (false, eval e X.env) :: starEach es X.env := by rfl) (hpl : (backTo pos (starEach es X.env)).any (·.1) = false := by rfl) : PE X (.Call (.Name x p) (e :: es) [] pos) (tCB r t) := pe_callTy hc hg hm hv ha hn hdb he hpl
/-- a class as a value -/
theorem pe_tyN (t : Ty) (hm : X.mg x = none) (hv : bootBuiltins x = some (.type t.nm)) (hg : Gl X x := by rfl) (hn : x ≠ "__name__" := by decide) (hd : (x == ("__debug__" : Str)) = false := by decide) : PE X (.Name x pos) (tTy t) :=
  pe_ty t (pe_bltn hg hm hv rfl hn hd)
theorem pe_gint {i : Int} (h : ∃ t, X.mg x = some (.int i t)) (hg : Gl X x := by rfl) (hd : (x == ("__debug__" : Str)) = false := by decide) : PE X (.Name x pos) (tC (.int i)) := by
  obtain ⟨t, h⟩ := h
  exact pe_glob hg h ⟨t, rfl⟩ hd
theorem pe_gstr {z : Str} (h : ∃ t, X.mg x = some (.str z t)) (hg : Gl X x := by rfl) (hd : (x == ("__debug__" : Str)) = false := by decide) : PE X (.Name x pos) (tC (.str z)) := by
  obtain ⟨t, h⟩ := h
  exact pe_glob hg h ⟨t, rfl⟩ hd
theorem pe_gtup {a : Addr} (h : X.mg x = some (.ref a)) (hg : Gl X x := by rfl) (hd : (x == ("__debug__" : Str)) = false := by decide) : PE X (.Name x pos) (tWt a) := pe_glob hg h rfl hd
end
section
variable {X : Cx} {a b i ob : Expr} {pos : Pos} {ta tb td ty te : TE}
theorem pc_inA (hu : X.A.units + 1 < cLine) (hy : PE X i ty) (hd : PE X ob td) : PC X .In i ob (tDInA false ty td) := pc_din hu hy hd
theorem pc_ninA (hu : X.A.units + 1 < cLine) (hy : PE X i ty) (hd : PE X ob td) : PC X .NotIn i ob (tDInA true ty td) := pc_dnotin hu hy hd
theorem pc_inM (k : Nat) (hu : X.A.units + 1 < cLine) (hy : PE X i ty) (hd : PE X ob td) : PC X .In i ob (tDInM false k ty td) := pc_din hu hy hd
theorem pc_ninM (k : Nat) (hu : X.A.units + 1 < cLine) (hy : PE X i ty) (hd : PE X ob td) : PC X .NotIn i ob (tDInM true k ty td) := pc_dnotin hu hy hd
theorem o_in : OpR X (compareOp .In) (rIn X.K false) := op_in_seq
theorem o_nin : OpR X (compareOp .NotIn) (rIn X.K true) := op_notIn_seq
theorem o_inM (k : Nat) : OpR X (compareOp .In) (rInM X.K false k) := op_in_seq
theorem o_ninM (k : Nat) : OpR X (compareOp .NotIn) (rInM X.K true k) := op_notIn_seq
theorem o_eqNilM (k : Nat) (hu : X.A.units < cLine) : OpR X (compareOp .Eq) (rEqNilM X.K false k) := o_eqNil hu
theorem o_neNilM (k : Nat) (hu : X.A.units < cLine) : OpR X (compareOp .NotEq) (rEqNilM X.K true k) := o_neNil hu
theorem o_neD0 (k : Nat) (hu : X.A.units < cLine) : OpR X (compareOp .NotEq) (rEqD0 true k) := o_neDD hu
theorem o_eqDM (k j : Nat) (hu : X.A.units < cLine) : OpR X (compareOp .Eq) (rEqDM false k j) := o_eqDD hu
end
theorem tyD_non : tyD .non = some "NoneType" := rfl
theorem tyD_bl {b : Bool} : tyD (.bl b) = some "bool" := rfl
theorem tyD_int {b : Int} : tyD (.int b) = some "int" := rfl
theorem tyD_str {b : Str} : tyD (.str b) = some "str" := rfl
theorem tyD_lst {b : List D} : tyD (.lst b) = some "list" := rfl
theorem tyD_tup {b : List D} : tyD (.tup b) = some "tuple" := rfl
theorem tyD_dic {b : List Str} {c : List D} : tyD (.dic b c) = some "dict" := rfl
theorem atI_0 {α : Type} {x : α} {r : List α} : atI (x :: r) 0 = some x := atI_nat (j := 0) rfl
theorem atI_1 {α : Type} {x y : α} {r : List α} : atI (x :: y :: r) 1 = some y := atI_nat (j := 1) rfl
theorem atI_2 {α : Type} {x y z : α} {r : List α} : atI (x :: y :: z :: r) 2 = some z := atI_nat (j := 2) rfl
theorem atI_3 {α : Type} {x y z u : α} {r : List α} : atI (x :: y :: z :: u :: r) 3 = some u := atI_nat (j := 3) rfl
theorem atI_4 {α : Type} {x y z u v : α} {r : List α} : atI (x :: y :: z :: u :: v :: r) 4 = some v := atI_nat (j := 4) rfl
theorem isTy_0_0 : isTy "NoneType" .int = false := by decide +kernel
theorem isTy_0_1 : isTy "NoneType" .bool = false := by decide +kernel
theorem isTy_0_2 : isTy "NoneType" .str = false := by decide +kernel
theorem isTy_0_3 : isTy "NoneType" .tuple = false := by decide +kernel
theorem isTy_0_4 : isTy "NoneType" .list = false := by decide +kernel
theorem isTy_1_0 : isTy "bool" .int = true := by decide +kernel
theorem isTy_1_1 : isTy "bool" .bool = true := by decide +kernel
theorem isTy_1_2 : isTy "bool" .str = false := by decide +kernel
theorem isTy_1_3 : isTy "bool" .tuple = false := by decide +kernel
theorem isTy_1_4 : isTy "bool" .list = false := by decide +kernel
theorem isTy_2_0 : isTy "int" .int = true := by decide +kernel
theorem isTy_2_1 : isTy "int" .bool = false := by decide +kernel
theorem isTy_2_2 : isTy "int" .str = false := by decide +kernel
theorem isTy_2_3 : isTy "int" .tuple = false := by decide +kernel
theorem isTy_2_4 : isTy "int" .list = false := by decide +kernel
theorem isTy_3_0 : isTy "str" .int = false := by decide +kernel
theorem isTy_3_1 : isTy "str" .bool = false := by decide +kernel
theorem isTy_3_2 : isTy "str" .str = true := by decide +kernel
theorem isTy_3_3 : isTy "str" .tuple = false := by decide +kernel
theorem isTy_3_4 : isTy "str" .list = false := by decide +kernel
theorem isTy_4_0 : isTy "list" .int = false := by decide +kernel
theorem isTy_4_1 : isTy "list" .bool = false := by decide +kernel
theorem isTy_4_2 : isTy "list" .str = false := by decide +kernel
theorem isTy_4_3 : isTy "list" .tuple = false := by decide +kernel
theorem isTy_4_4 : isTy "list" .list = true := by decide +kernel
theorem isTy_5_0 : isTy "tuple" .int = false := by decide +kernel
theorem isTy_5_1 : isTy "tuple" .bool = false := by decide +kernel
theorem isTy_5_2 : isTy "tuple" .str = false := by decide +kernel
theorem isTy_5_3 : isTy "tuple" .tuple = true := by decide +kernel
theorem isTy_5_4 : isTy "tuple" .list = false := by decide +kernel
theorem isTy_6_0 : isTy "dict" .int = false := by decide +kernel
theorem isTy_6_1 : isTy "dict" .bool = false := by decide +kernel
theorem isTy_6_2 : isTy "dict" .str = false := by decide +kernel
theorem isTy_6_3 : isTy "dict" .tuple = false := by decide +kernel
theorem isTy_6_4 : isTy "dict" .list = false := by decide +kernel
/-! ### rules that bear K by its name (a comprehension's block has a context of its own) -/
theorem o_ixK (K : PySem.W.Frag) {X : Cx} (h : X.K = K := by rfl) : IxR X (rIxA K) := by
  subst h
  exact o_ix
theorem o_inK (K : PySem.W.Frag) {X : Cx} (h : X.K = K := by rfl) : OpR X (compareOp .In) (rIn K false) := by
  subst h
  exact o_in
theorem o_ninK (K : PySem.W.Frag) {X : Cx} (h : X.K = K := by rfl) : OpR X (compareOp .NotIn) (rIn K true) := by
  subst h
  exact o_nin
theorem sl_anyK (K : PySem.W.Frag) {X : Cx} (h : X.K = K := by rfl) : SlR X (rSlA K) := by
  subst h
  exact sl_any
theorem pe_ownK (K : PySem.W.Frag) {X : Cx} {CX : CXT} {k : Nat} {x : Str} {ps : List Str} {C : Addr} {n : Nat} {S : Spc} {E : XK} {p pos : Pos} {e : Expr} {es : List Expr} {t : TA} (j : Nat) (G : Fo X.prog X.w K X.mg X.base CX k x ps (spD K C n S)) (hr : Room k X.A) (hx : Passes CX X E) (ha : PA X (e :: es) t) (hK : X.K = K := by rfl)
    (hg : Gl X x := by rfl) (hdb : (x == ("__debug__" : Str)) = false := by decide) (he : starEach (e :: es) X.env = (false, eval e X.env) :: starEach es X.env := by rfl)
    (hpl : (backTo pos (starEach es X.env)).any (·.1) = false := by rfl) : PE X (.Call (.Name x p) (e :: es) [] pos) (tCallD K C n j S E t) := by
  subst hK
  exact pe_own j G hr hx ha hg hdb he hpl
/-! ### short rules -/
theorem bb_abs : bootBuiltins "abs" = some (.builtin "abs") := by decide +kernel
theorem bb_len : bootBuiltins "len" = some (.builtin "len") := by decide +kernel
theorem bb_max : bootBuiltins "max" = some (.builtin "max") := by decide +kernel
theorem bb_min : bootBuiltins "min" = some (.builtin "min") := by decide +kernel
theorem bb_sorted : bootBuiltins "sorted" = some (.builtin "sorted") := by decide +kernel
theorem bb_isinstance : bootBuiltins "isinstance" = some (.builtin "isinstance") := by decide +kernel
theorem bb_int : bootBuiltins "int" = some (.type "int") := by decide +kernel
theorem bb_bool : bootBuiltins "bool" = some (.type "bool") := by decide +kernel
theorem bb_str : bootBuiltins "str" = some (.type "str") := by decide +kernel
theorem bb_tuple : bootBuiltins "tuple" = some (.type "tuple") := by decide +kernel
theorem bb_list : bootBuiltins "list" = some (.type "list") := by decide +kernel
theorem bb_dict : bootBuiltins "dict" = some (.type "dict") := by decide +kernel
section
variable {X : Cx} {e l tg : Expr} {st : Stmt} {to ti te : TE}
theorem as_app (k : Nat) (h : PE X e (tBM X.K "list" rAppend to (tCons te tNil))) : PE X e (tApp X.K k to te) := h
theorem as_popI (k : Nat) (h : PE X e (tBM X.K "list" rPopAt to (tCons te tNil))) : PE X e (tPopI X.K k to te) := h
theorem as_rem (k : Nat) (h : PE X e (tBM X.K "list" (rRemD X.K) to (tCons te tNil))) : PE X e (tRem X.K k to te) := h
theorem as_join (h : PE X e (tBM X.K "str" (rJoin X.K) to (tCons te tNil))) : PE X e (tJoin X.K to te) := h
theorem as_dpop (k : Nat) (h : PE X e (tDPop1 to te)) : PE X e (tDPopM k to te) := h
theorem pi_listM (k : Nat) (h : PE X l to) : PI X tg l (iListM X.K k to) := pi_list h
theorem as_dput (k : Nat) (h : PS X st (sDPut to ti te)) : PS X st (sDPutM k to ti te) := h
theorem as_set (k : Nat) (h : PS X st (tAsg te (gSub to ti rSetL))) : PS X st (tAsg te (gSubM k to ti)) := h
theorem as_lcM {wi : TI} {g : TG} {tt : TT} {te : TE} {i : Nat} (vs : List Nat) (h : PS X st (tAsg (tLc wi g tt te vs) (gName i))) : PS X st (tAsg (tLcM wi g tt te vs) (gName i)) := h
end
/-- the facts of the module by names -/
theorem Tx.g {K : PySem.W.Frag} {mg : Str → Option Value} (T : Tx K mg) {x : Str} (i : Nat) (h : FC.fa[i]? = some (.glo x)) : mg x = some (.ref (He.ga K x)) := T.glo x (T.fa _ (List.mem_of_getElem? h))
theorem Tx.b {K : PySem.W.Frag} {mg : Str → Option Value} (T : Tx K mg) {x : Str} (i : Nat) (h : FC.fa[i]? = some (.free x)) : mg x = none := T.free x (T.fa _ (List.mem_of_getElem? h))
theorem Tx.i {K : PySem.W.Frag} {mg : Str → Option Value} (T : Tx K mg) {x : Str} {v : Int} (i : Nat) (h : FC.fa[i]? = some (.int x v)) : ∃ t, mg x = some (.int v t) := T.int x v (T.fa _ (List.mem_of_getElem? h))
theorem Tx.s {K : PySem.W.Frag} {mg : Str → Option Value} (T : Tx K mg) {x z : Str} (i : Nat) (h : FC.fa[i]? = some (.str x z)) : ∃ t, mg x = some (.str z t) := T.str x z (T.fa _ (List.mem_of_getElem? h))
theorem Tx.nought {K : PySem.W.Frag} {mg : Str → Option Value} (T : Tx K mg) : WTup K (He.ga K "NOUGHT") [.int 0, .int 1] := ⟨fun I => by
  have h := T.ex
  unfold exB at h
  exact ⟨_, He.tupB_ok (He.ba h).1 I, _, _, rfl, rfl, _, _, rfl, rfl, rfl⟩⟩
/-- a def of the module as a callee -/
theorem Fo.mk_ {P : Program} {w : World} {K : PySem.W.Frag} {mg : Str → Option Value} {base : Heap} {CX : CXT} {k : Nat} {ps : List Str} {sp : Sp} (T : Tx K mg) (i j : Nat) {d : He.DefD} {x : Str} (hd : FC.fn[i]? = some d) (hx : d.at_ = (x, none)) (hdf : d.dfl = []) (hkw : d.kwd = []) (hg : FC.fa[j]? = some (.glo x))
    (hb : ∀ (kV doc pm : Value) (an : Option Addr) (cdv ct : Value) (us : List Value), us.length = ps.length → bindArgs (PySem.W.fnOf d.name d.qual d.params d.body d.scope .none kV doc pm an cdv ct) ⟨us, []⟩ = pure (ps.zip us))
    (F : ∀ f fd, FunD K d.name d.qual d.params d.body d.scope [] [] f fd → FnOk P w K mg base CX k f fd ps sp) : Fo P w K mg base CX k x ps sp := by
  obtain ⟨fd, h⟩ := T.fn d (List.mem_of_getElem? hd)
  have e1 : d.dvs K = [] := by unfold He.DefD.dvs; rw [hdf]; rfl
  have e2 : d.kws K = [] := by unfold He.DefD.kws; rw [hkw]; rfl
  rw [e1, e2] at h
  have e3 : He.fAd K d.at_ = He.ga K x := by rw [hx]; rfl
  exact ⟨_, fd, F _ fd h, by rw [e3]; exact T.g j hg, h.kp, h.bindsN hb⟩
end FC
/-! THE MATHEMATICS, 1: fractions as Rat, their sizes. -/
namespace FC
open PySem PySem.Spec L2
abbrev fD (q : Rat) : D := .tup [.int q.num, .int (q.den : Int)]
/-- the sizes that products and quotients ask -/
def Sz (k : Nat) (q : Rat) : Prop := q.num.natAbs < 2 ^ (256 * k) ∧ q.den < 2 ^ (8 * k)
theorem mk_num (t : Int) (b : Nat) (h : 0 < b) : (mkRat t b).num = t / (Int.gcd t b : Int) := by
  rw [Rat.num_mkRat, if_neg (by omega), Int.gcd, Nat.gcd_comm]
  rfl
theorem mk_den (t : Int) (b : Nat) (h : 0 < b) : ((mkRat t b).den : Int) = (b : Int) / (Int.gcd t b : Int) := by
  rw [Rat.den_mkRat, if_neg (by omega), Int.gcd, Nat.gcd_comm]
  rfl
theorem Sz.mono {j k : Nat} {q : Rat} (h : Sz j q) (hk : j ≤ k) : Sz k q :=
  ⟨Nat.lt_of_lt_of_le h.1 (Nat.pow_le_pow_right (by decide) (Nat.mul_le_mul_left _ hk)), Nat.lt_of_lt_of_le h.2 (Nat.pow_le_pow_right (by decide) (Nat.mul_le_mul_left _ hk))⟩
theorem add_num_den (p q : Rat) : (p + q).num.natAbs ≤ (p.num * q.den + q.num * p.den).natAbs ∧ (p + q).den ≤ p.den * q.den := by
  have hp := p.den_pos
  have hq := q.den_pos
  have h0 : 0 < p.den * q.den := Nat.mul_pos hp hq
  rw [Rat.add_def']
  constructor
  · rw [Rat.num_mkRat, if_neg (by omega)]
    exact Int.natAbs_ediv_le_natAbs _ _
  · rw [Rat.den_mkRat, if_neg (by omega)]
    exact Nat.div_le_self _ _
theorem Sz.add {j k : Nat} {p q : Rat} (hp : Sz j p) (hq : Sz k q) (hj : 1 ≤ j) (hk : 1 ≤ k) : Sz (j + k) (p + q) := by
  obtain ⟨h1, h2⟩ := add_num_den p q
  obtain ⟨p1, p2⟩ := hp
  obtain ⟨q1, q2⟩ := hq
  have e1 : (p.num * (q.den : Int)).natAbs < 2 ^ (256 * j + 8 * k) := by
    rw [Int.natAbs_mul, Int.natAbs_natCast, Nat.pow_add]
    exact Nat.mul_lt_mul'' p1 q2
  have e2 : (q.num * (p.den : Int)).natAbs < 2 ^ (256 * k + 8 * j) := by
    rw [Int.natAbs_mul, Int.natAbs_natCast, Nat.pow_add]
    exact Nat.mul_lt_mul'' q1 p2
  have e3 : 2 ^ (256 * j + 8 * k) * 2 ≤ 2 ^ (256 * (j + k)) := by
    rw [← Nat.pow_succ]
    exact Nat.pow_le_pow_right (by decide) (by omega)
  have e4 : 2 ^ (256 * k + 8 * j) * 2 ≤ 2 ^ (256 * (j + k)) := by
    rw [← Nat.pow_succ]
    exact Nat.pow_le_pow_right (by decide) (by omega)
  have e5 := Int.natAbs_add_le (p.num * (q.den : Int)) (q.num * (p.den : Int))
  refine ⟨by omega, Nat.lt_of_le_of_lt h2 ?_⟩
  rw [show 8 * (j + k) = 8 * j + 8 * k by omega, Nat.pow_add]
  exact Nat.mul_lt_mul'' p2 q2
theorem mulW {i j : Int} {a b : Nat} (ha : i.natAbs < 2 ^ a) (hb : j.natAbs < 2 ^ b) (h0 : 0 < a) (h1 : 0 < b) (h : a + b ≤ 1000000) : CMulW i j := wide_mul ha hb h0 h1 h
theorem Sz.nd {j k : Nat} {p q : Rat} (hp : Sz j p) (hq : Sz k q) (hj : 1 ≤ j) (hk : 1 ≤ k) (h : j + k ≤ 1000) : CMulW p.num q.den := mulW hp.1 (by rw [Int.natAbs_natCast]; exact hq.2) (by omega) (by omega) (by omega)
theorem Sz.dd {j k : Nat} {p q : Rat} (hp : Sz j p) (hq : Sz k q) (hj : 1 ≤ j) (hk : 1 ≤ k) (h : j + k ≤ 1000) : CMulW p.den q.den := mulW (by rw [Int.natAbs_natCast]; exact hp.2) (by rw [Int.natAbs_natCast]; exact hq.2) (by omega) (by omega) (by omega)
/-- a product of denominators -/
theorem Sz.den {j k : Nat} {p q : Rat} (hp : Sz j p) (hq : Sz k q) (h : j + k ≤ 1000) : 0 < p.den * q.den ∧ p.den * q.den < 2 ^ 8000 := by
  refine ⟨Nat.mul_pos p.den_pos q.den_pos, Nat.lt_of_lt_of_le (Nat.mul_lt_mul'' hp.2 hq.2) ?_⟩
  rw [← Nat.pow_add]
  exact Nat.pow_le_pow_right (by decide) (by omega)
theorem sz0 : Sz 1 0 := ⟨by decide, by decide⟩
/-- the greatest of a list, its first ahead -/
def maxQ : Rat → List Rat → Rat
  | q, [] => q
  | q, p :: r => maxQ (if q < p then p else q) r
theorem maxQ_ge : ∀ (r : List Rat) (q : Rat), q ≤ maxQ q r ∧ ∀ p ∈ r, p ≤ maxQ q r
  | [], q => ⟨Rat.le_refl, fun _ h => nomatch h⟩
  | p :: r, q => by
    obtain ⟨h1, h2⟩ := maxQ_ge r (if q < p then p else q)
    have e : maxQ q (p :: r) = maxQ (if q < p then p else q) r := rfl
    rw [e]
    split at h1 <;> rename_i hc <;> refine ⟨by grind, fun x hx => ?_⟩ <;> rcases List.mem_cons.mp hx with rfl | hx <;> first
      | exact h2 x hx
      | grind
theorem maxQ_mem : ∀ (r : List Rat) (q : Rat), maxQ q r = q ∨ maxQ q r ∈ r
  | [], q => .inl rfl
  | p :: r, q => by
    have e : maxQ q (p :: r) = maxQ (if q < p then p else q) r := rfl
    rw [e]
    split
    · rcases maxQ_mem r p with h | h
      · rw [h]
        exact .inr List.mem_cons_self
      · exact .inr (List.mem_cons_of_mem _ h)
    · rcases maxQ_mem r q with h | h
      · rw [h]
        exact .inl rfl
      · exact .inr (List.mem_cons_of_mem _ h)
/-- a sum from the left -/
def sumF : Rat → List Rat → Rat
  | a, [] => a
  | a, q :: r => sumF (a + q) r
theorem sumF_add : ∀ (l : List Rat) (a b : Rat), sumF (a + b) l = a + sumF b l
  | [], _, _ => rfl
  | q :: r, a, b => by
    show sumF (a + b + q) r = a + sumF (b + q) r
    rw [Rat.add_assoc, sumF_add r]
theorem sumF_cons (q : Rat) (r : List Rat) : sumF 0 (q :: r) = q + sumF 0 r := by
  show sumF (0 + q) r = _
  rw [Rat.zero_add]
  have h := sumF_add r q 0
  rw [Rat.add_zero] at h
  exact h
theorem sumF_append (a b : List Rat) : sumF 0 (a ++ b) = sumF 0 a + sumF 0 b := by
  induction a with
  | nil => show sumF 0 b = 0 + sumF 0 b; rw [Rat.zero_add]
  | cons q r ih => rw [List.cons_append, sumF_cons, sumF_cons, ih, Rat.add_assoc]
theorem sumF_nonneg : ∀ (l : List Rat), (∀ q ∈ l, 0 ≤ q) → 0 ≤ sumF 0 l
  | [], _ => Rat.le_refl
  | q :: r, h => by
    rw [sumF_cons]
    have h1 := h q List.mem_cons_self
    have h2 := sumF_nonneg r fun p hp => h p (List.mem_cons_of_mem _ hp)
    grind
theorem Sz.sum {k : Nat} (hk : 1 ≤ k) : ∀ (l : List Rat) {j : Nat} {a : Rat}, Sz j a → 1 ≤ j → (∀ q ∈ l, Sz k q) → Sz (j + k * l.length) (sumF a l)
  | [], j, a, h, _, _ => h
  | q :: r, j, a, h, hj, hs => by
    have h1 := Sz.sum hk r (h.add (hs q List.mem_cons_self) hj hk) (by omega) fun p hp => hs p (List.mem_cons_of_mem _ hp)
    have e : j + k + k * r.length = j + k * (q :: r).length := by rw [List.length_cons, Nat.mul_succ]; omega
    rw [e] at h1
    exact h1
end FC
/-! THE WALK, 1: names and numbers. -/
namespace FC
open PySem PySem.Spec L2
local macro_rules | `(tactic| walk_at "d") => `(tactic| try simp only [dVar, dC, dOp, dUn, dAdd, dSub, dMul, dMod, dDiv, dPow, dNeg, dCmp, dEq, dNe, dEqv, dIsN, dNotN, isNon, dIn, inD, dInM, dIx, ixDs, dIxM, dChain, dB, asB, dAnd, dOr, dNot, dAndV, dOrV, dNotV, dIf, dNil, dCons, dTup, dLst, dLstM, dDic0, dDicM, dDisp1,
  dCB, dLen, dLenM, dAbs, dMax2, dMin2, dInt, dBool, dStr, dList, dListN, dListM, dTuple, dSorted, dDicC, dIsi, tyD_non, tyD_bl, tyD_int, tyD_str, tyD_lst, tyD_tup, tyD_dic, dNoPart, asI, dPart, dSl, dRev, dApp, dPopI, dRem, dEqNil, dEqNilM, dGet, dDGetM, dDGet, dDInM, dDInA, dDPopM, dEqD0, dEqDM, dJoin, dNext, dSeq, dDrop, dRet, dIfS, dNever, dgName, dgNil, dgCons, dgTup, dAsg, dSubM, dDPutM, dPar, dAug, dFrz, frzD, dFgt,
  diLst, diTup, diLstM, diRng1, diRng2, diStr, diEnum, diZip, dYes, dCall, endsD, startD, wipeD, dom,
  isTy_0_0, isTy_0_1, isTy_0_2, isTy_0_3, isTy_0_4, isTy_1_0, isTy_1_1, isTy_1_2, isTy_1_3, isTy_1_4, isTy_2_0, isTy_2_1, isTy_2_2, isTy_2_3, isTy_2_4, isTy_3_0, isTy_3_1, isTy_3_2, isTy_3_3, isTy_3_4, isTy_4_0, isTy_4_1, isTy_4_2, isTy_4_3, isTy_4_4, isTy_5_0, isTy_5_1, isTy_5_2, isTy_5_3, isTy_5_4, isTy_6_0, isTy_6_1, isTy_6_2, isTy_6_3, isTy_6_4,
  Int.cast_ofNat_Int, decide_true, decide_false, Int.reduceEq, Int.reduceLT, Int.reduceLE, atI_0, atI_1, atI_2, atI_3, atI_4, List.length_map, List.map_cons, List.map_nil, List.length_cons, List.length_nil, Nat.reduceAdd, Nat.reduceSub, List.reduceReplicate, List.cons_append, List.nil_append, List.append_nil, List.getElem?_cons_zero, List.getElem?_cons_succ, List.getElem?_nil, List.set_cons_zero, List.set_cons_succ, List.take_zero, List.drop_zero, List.take_succ_cons, List.drop_succ_cons,
  List.eraseIdx_cons_zero, List.eraseIdx_cons_succ, true_and, and_true, eq_self, and_self, if_true, if_false, Bool.false_eq_true, reduceIte, Bool.not_true, Bool.not_false, forall_const, exists_eq_left, exists_eq_left', exists_eq_right, exists_eq_right', exists_and_left, exists_const, D.adr.injEq, D.str.injEq, D.int.injEq, D.lst.injEq, D.tup.injEq, D.bl.injEq, Option.some.injEq, Prod.mk.injEq, MO.l.injEq, MO.d.injEq, List.cons.injEq, Function.const_apply])

def isInt : D → Bool
  | .int _ => true
  | _ => false
theorem isInt_int (i : Int) : isInt (.int i) = true := rfl
abbrev S_is_whole : Spc := fun ds m F X => ∃ d s, ds = [d] ∧ tyD d = some s ∧ F (.bl (isInt d)) []
theorem sc_is_whole : FnScope ["thing"] ["thing"] (defScope s_is_whole) := ⟨rfl, rfl, rfl, by decide +kernel, rfl, by decide +kernel, by decide +kernel⟩
theorem ok_is_whole {P : Program} {w : World} {K : PySem.W.Frag} {mg : Str → Option Value} {base : Heap} (T : Tx K mg) : Fo P w K mg base CX0 1 "is_whole" ["thing"] (spD K (NC K) 1 S_is_whole) := by
  refine Fo.mk_ T 1 0 rfl rfl rfl rfl rfl (fun _ _ _ _ _ _ us hl => match us, hl with | [_], _ => rfl) fun f fd F => ok_pure 0 F sc_is_whole rfl fun cdv A outer s H E I m ds Fv X hr h => ?_
  refine ⟨_, _, (pss_one (ps_ret (pe_and (pe_bi c_isi (T.b 84 rfl) bb_isinstance (pa_cons (pv 0) (pa_cons (pe_tyN .int (T.b 83 rfl) bb_int) pa_nil))) (pe_one (pe_not (pe_bi c_isi (T.b 84 rfl) bb_isinstance (pa_cons (pv 0) (pa_cons (pe_tyN .bool (T.b 80 rfl) bb_bool) pa_nil)))))))), (by (try dsimp only [cxOf]); infer_instance), ?_⟩
  obtain ⟨d, s', rfl, hd, h⟩ := h
  walk_at "d"
  rw [hd]
  walk_at "d"
  cases d <;> cases hd <;> exact h
abbrev S_divisor : Spc := fun ds m F X => ∃ i j : Int, ds = [.int i, .int j] ∧ F (.int (Int.gcd i j)) []
theorem sc_divisor : FnScope ["one", "other"] ["one", "other"] (defScope s_divisor) := ⟨rfl, rfl, rfl, by decide +kernel, rfl, by decide +kernel, by decide +kernel⟩
theorem ok_divisor {P : Program} {w : World} {K : PySem.W.Frag} {mg : Str → Option Value} {base : Heap} (T : Tx K mg) : Fo P w K mg base CX0 1 "divisor" ["one", "other"] (spD K (NC K) 2 S_divisor) := by
  refine Fo.mk_ T 2 1 rfl rfl rfl rfl rfl (fun _ _ _ _ _ _ us hl => match us, hl with | [_, _], _ => rfl) fun f fd F => ok_pure 0 F sc_divisor rfl fun cdv A outer s H E I m ds Fv X hr h => ?_
  refine ⟨_, _, (pss_cons (ps_set (i := 0) sc_divisor.nd rfl (.inl rfl) (pe_bi c_abs (T.b 79 rfl) bb_abs (pa_cons (pv 0) pa_nil)))
    (pss_cons (ps_set (i := 1) sc_divisor.nd rfl (.inl rfl) (pe_bi c_abs (T.b 79 rfl) bb_abs (pa_cons (pv 1) pa_nil)))
    (pss_cons (ps_while PassesOwn.never (pt_cmpR op_ne (pv 1) pe_int (nomark _))
    (pss_one (ps_par (i := 0) (j := 1) (by rfl) sc_divisor.nd rfl rfl (by decide) rfl rfl (pa_cons (pv 1) (pa_cons (pe_op o_mod (pv 0) (pv 1)) pa_nil)) (by rfl))))
    (pss_one (ps_ret (pv 0)))))), (by (try dsimp only [cxOf]); infer_instance), ?_⟩
  obtain ⟨i, j, rfl, h⟩ := h
  walk_at "d"
  refine ⟨fun n r _ => ∃ a b : Nat, r = [some (.int a), some (.int b)] ∧ n = b ∧ Nat.gcd a b = Int.gcd i j, ⟨j.natAbs, i.natAbs, j.natAbs, rfl, rfl, rfl⟩, ?_⟩
  rintro n r m' ⟨a, b, rfl, rfl, hg⟩
  walk_at "d"
  split
  · rename_i hc
    have hb : 0 < n := by
      rcases Nat.eq_zero_or_pos n with z | z
      · rw [z] at hc
        cases hc
      · exact z
    refine ⟨by omega, a % n, Nat.mod_lt _ hb, n, a % n, ?_, rfl, ?_⟩
    · rw [Int.natCast_emod]
      exact ⟨rfl, rfl⟩
    · rw [← hg, Nat.gcd_comm n, ← Nat.gcd_rec, Nat.gcd_comm]
  · rename_i hc
    have hb : n = 0 := by
      cases n with
      | zero => rfl
      | succ n => exact absurd (show (!decide (((n + 1 : Nat) : Int) = 0)) = true by simp; omega) hc
    subst hb
    rw [Nat.gcd_zero_right] at hg
    rw [hg]
    exact h
abbrev S_lowest : Spc := fun ds m F X => ∃ (t : Int) (b : Nat), ds = [.int t, .int b] ∧ 0 < b ∧ b < 2 ^ 8000 ∧ F (fD (mkRat t b)) []
theorem sc_lowest : FnScope ["top", "bottom", "share"] ["top", "bottom"] (defScope s_lowest) := ⟨rfl, rfl, rfl, by decide +kernel, rfl, by decide +kernel, by decide +kernel⟩
theorem ok_lowest {P : Program} {w : World} {K : PySem.W.Frag} {mg : Str → Option Value} {base : Heap} (T : Tx K mg) (G_divisor : Fo P w K mg base CX0 1 "divisor" ["one", "other"] (spD K (NC K) 2 S_divisor)) : Fo P w K mg base CX0 2 "lowest" ["top", "bottom"] (spD K (NC K) 2 S_lowest) := by
  refine Fo.mk_ T 5 4 rfl rfl rfl rfl rfl (fun _ _ _ _ _ _ us hl => match us, hl with | [_, _], _ => rfl) fun f fd F => ok_pure 0 F sc_lowest rfl fun cdv A outer s H E I m ds Fv X hr h => ?_
  refine ⟨_, _, (pss_cons (ps_set (i := 2) sc_lowest.nd rfl (.inl rfl) (pe_ownK K 0 G_divisor (hr.mono (by decide)) pass0 (pa_cons (pv 0) (pa_cons (pv 1) pa_nil))))
    (pss_cons (ps_if (pt_cmpR o_lt (pv 1) pe_int (nomark _)) (pss_one (ps_set (i := 2) sc_lowest.nd rfl (.inl rfl) (pe_op o_sub pe_int (pv 2)))) pss_nil)
    (pss_one (ps_ret (pe_tup (pa_cons (pe_op o_fdiv (pv 0) (pv 2)) (pa_cons (pe_op o_fdiv (pv 1) (pv 2)) pa_nil))))))), (by (try dsimp only [cxOf]); infer_instance), ?_⟩
  obtain ⟨t, b, rfl, hb, hs, h⟩ := h
  walk_at "d"
  have hd : ∀ i, CDivW i (Int.gcd t b : Int) := fun i => by
    have h1 : Int.gcd t b ≤ b := Nat.gcd_le_right _ hb
    have h0 : 0 < Int.gcd t b := Nat.gcd_pos_of_pos_right _ hb
    exact wide_div (by omega) (b := 8000) (by rw [Int.natAbs_natCast]; exact Nat.lt_of_le_of_lt h1 hs) (by decide) (by decide)
  refine ⟨_, _, rfl, ?_⟩
  walk_at "d"
  rw [if_neg (by simp)]
  refine ⟨hd _, hd _, by decide, ?_⟩
  rw [← mk_num t b hb, ← mk_den t b hb]
  exact h
abbrev S_plus : Spc := fun ds m F X => ∃ (p q : Rat) (j k : Nat), ds = [fD p, fD q] ∧ Sz j p ∧ Sz k q ∧ 1 ≤ j ∧ 1 ≤ k ∧ j + k ≤ 1000 ∧ F (fD (p + q)) []
theorem sc_plus : FnScope ["one", "other"] ["one", "other"] (defScope s_plus) := ⟨rfl, rfl, rfl, by decide +kernel, rfl, by decide +kernel, by decide +kernel⟩
theorem ok_plus {P : Program} {w : World} {K : PySem.W.Frag} {mg : Str → Option Value} {base : Heap} (T : Tx K mg) (G_lowest : Fo P w K mg base CX0 2 "lowest" ["top", "bottom"] (spD K (NC K) 2 S_lowest)) : Fo P w K mg base CX0 3 "plus" ["one", "other"] (spD K (NC K) 2 S_plus) := by
  refine Fo.mk_ T 6 5 rfl rfl rfl rfl rfl (fun _ _ _ _ _ _ us hl => match us, hl with | [_, _], _ => rfl) fun f fd F => ok_pure 0 F sc_plus rfl fun cdv A outer s H E I m ds Fv X hr h => ?_
  refine ⟨_, _, (pss_one (ps_ret (pe_ownK K 0 G_lowest (hr.mono (by decide)) pass0 (pa_cons (pe_op o_add (pe_op o_mul (pe_ix (o_ixK K) (pv 0) pe_int (fun _ _ => rfl)) (pe_ix (o_ixK K) (pv 1) pe_int (fun _ _ => rfl))) (pe_op o_mul (pe_ix (o_ixK K) (pv 1) pe_int (fun _ _ => rfl)) (pe_ix (o_ixK K) (pv 0) pe_int (fun _ _ => rfl)))) (pa_cons (pe_op o_mul (pe_ix (o_ixK K) (pv 0) pe_int (fun _ _ => rfl)) (pe_ix (o_ixK K) (pv 1) pe_int (fun _ _ => rfl))) pa_nil))))), (by (try dsimp only [cxOf]); infer_instance), ?_⟩
  obtain ⟨p, q, j, k, rfl, hp, hq, hj, hk, hjk, h⟩ := h
  walk_at "d"
  refine ⟨hp.nd hq hj hk hjk, hq.nd hp hk hj (by omega), hp.dd hq hj hk hjk, ?_⟩
  have h1 := hp.den hq hjk
  refine ⟨_, p.den * q.den, by rw [Int.natCast_mul], h1.1, h1.2, ?_⟩
  rw [← Rat.add_def']
  walk_at "d"
  exact h
abbrev S_is_less : Spc := fun ds m F X => ∃ (p q : Rat) (j k : Nat), ds = [fD p, fD q] ∧ Sz j p ∧ Sz k q ∧ 1 ≤ j ∧ 1 ≤ k ∧ j + k ≤ 1000 ∧ F (.bl (decide (p < q))) []
theorem sc_is_less : FnScope ["one", "other"] ["one", "other"] (defScope s_is_less) := ⟨rfl, rfl, rfl, by decide +kernel, rfl, by decide +kernel, by decide +kernel⟩
theorem ok_is_less {P : Program} {w : World} {K : PySem.W.Frag} {mg : Str → Option Value} {base : Heap} (T : Tx K mg) : Fo P w K mg base CX0 1 "is_less" ["one", "other"] (spD K (NC K) 2 S_is_less) := by
  refine Fo.mk_ T 7 6 rfl rfl rfl rfl rfl (fun _ _ _ _ _ _ us hl => match us, hl with | [_, _], _ => rfl) fun f fd F => ok_pure 0 F sc_is_less rfl fun cdv A outer s H E I m ds Fv X hr h => ?_
  refine ⟨_, _, (pss_one (ps_ret (pe_cmpR o_lt (pe_op o_mul (pe_ix (o_ixK K) (pv 0) pe_int (fun _ _ => rfl)) (pe_ix (o_ixK K) (pv 1) pe_int (fun _ _ => rfl))) (pe_op o_mul (pe_ix (o_ixK K) (pv 1) pe_int (fun _ _ => rfl)) (pe_ix (o_ixK K) (pv 0) pe_int (fun _ _ => rfl))) (nomark _)))), (by (try dsimp only [cxOf]); infer_instance), ?_⟩
  obtain ⟨p, q, j, k, rfl, hp, hq, hj, hk, hjk, h⟩ := h
  walk_at "d"
  refine ⟨hp.nd hq hj hk hjk, hq.nd hp hk hj (by omega), ?_⟩
  have e : decide (p.num * (q.den : Int) < q.num * (p.den : Int)) = decide (p < q) := decide_eq_decide.mpr (Rat.lt_iff p q).symm
  rw [e]
  exact h
abbrev S_is_ratio : Spc := fun ds m F X => ∃ q : Rat, ds = [fD q] ∧ F (.bl true) []
theorem sc_is_ratio : FnScope ["thing"] ["thing"] (defScope s_is_ratio) := ⟨rfl, rfl, rfl, by decide +kernel, rfl, by decide +kernel, by decide +kernel⟩
theorem ok_is_ratio {P : Program} {w : World} {K : PySem.W.Frag} {mg : Str → Option Value} {base : Heap} (T : Tx K mg) (G_is_whole : Fo P w K mg base CX0 1 "is_whole" ["thing"] (spD K (NC K) 1 S_is_whole)) (G_divisor : Fo P w K mg base CX0 1 "divisor" ["one", "other"] (spD K (NC K) 2 S_divisor)) : Fo P w K mg base CX0 2 "is_ratio" ["thing"] (spD K (NC K) 1 S_is_ratio) := by
  refine Fo.mk_ T 3 2 rfl rfl rfl rfl rfl (fun _ _ _ _ _ _ us hl => match us, hl with | [_], _ => rfl) fun f fd F => ok_pure 0 F sc_is_ratio rfl fun cdv A outer s H E I m ds Fv X hr h => ?_
  refine ⟨_, _, (pss_cons (ps_if (PW.pt (pw_or (pt_not (pt_val (pe_bi c_isi (T.b 84 rfl) bb_isinstance (pa_cons (pv 0) (pa_cons (pe_tyN .tuple (T.b 92 rfl) bb_tuple) pa_nil))))) (pw_or1 (pt_cmpR op_ne (pe_bi c_len (T.b 85 rfl) bb_len (pa_cons (pv 0) pa_nil)) pe_int (nomark _))))) (pss_one (ps_ret pe_bl)) pss_nil)
    (pss_cons (ps_if (PW.pt (pw_or (pt_not (pt_val (pe_ownK K 0 G_is_whole (hr.mono (by decide)) pass0 (pa_cons (pe_ix (o_ixK K) (pv 0) pe_int (fun _ _ => rfl)) pa_nil)))) (pw_or (pt_not (pt_val (pe_ownK K 0 G_is_whole (hr.mono (by decide)) pass0 (pa_cons (pe_ix (o_ixK K) (pv 0) pe_int (fun _ _ => rfl)) pa_nil)))) (pw_or1 (pt_cmpR o_lt (pe_ix (o_ixK K) (pv 0) pe_int (fun _ _ => rfl)) pe_int (nomark _)))))) (pss_one (ps_ret pe_bl)) pss_nil)
    (pss_one (ps_ret (pe_cmpR op_eq (pe_ownK K 0 G_divisor (hr.mono (by decide)) pass0 (pa_cons (pe_ix (o_ixK K) (pv 0) pe_int (fun _ _ => rfl)) (pa_cons (pe_ix (o_ixK K) (pv 0) pe_int (fun _ _ => rfl)) pa_nil))) pe_int (nomark _)))))), (by (try dsimp only [cxOf]); infer_instance), ?_⟩
  obtain ⟨q, rfl, h⟩ := h
  walk_at "d"
  refine ⟨_, _, rfl, rfl, ?_⟩
  rw [isInt_int]
  walk_at "d"
  refine ⟨_, _, rfl, rfl, ?_⟩
  rw [isInt_int]
  walk_at "d"
  rw [if_neg (by have := q.den_pos; simp; omega)]
  refine ⟨_, _, rfl, ?_⟩
  walk_at "d"
  have e : ((Int.gcd q.num (q.den : Int) : Nat) : Int) = 1 := by
    have z := q.reduced
    show ((Nat.gcd q.num.natAbs q.den : Nat) : Int) = 1
    rw [z]
    rfl
  rw [e]
  exact h
abbrev S_most_of : Spc := fun ds m F X => ∃ (q : Rat) (qs : List Rat) (k : Nat), ds = [.lst ((q :: qs).map fD)] ∧ (∀ p ∈ q :: qs, Sz k p) ∧ 1 ≤ k ∧ k ≤ 500 ∧ F (fD (maxQ q qs)) []
def J_most (q : Rat) (qs : List Rat) (k i : Nat) (r : Rho) : Prop := ∃ (p : Rat) (o : Option D), r = [some (.lst ((q :: qs).map fD)), some (fD p), o] ∧ Sz k p ∧ maxQ p ((q :: qs).drop i) = maxQ q qs
theorem sc_most_of : FnScope ["some", "found", "one"] ["some"] (defScope s_most_of) := ⟨rfl, rfl, rfl, by decide +kernel, rfl, by decide +kernel, by decide +kernel⟩
theorem ok_most_of {P : Program} {w : World} {K : PySem.W.Frag} {mg : Str → Option Value} {base : Heap} (T : Tx K mg) (G_is_less : Fo P w K mg base CX0 1 "is_less" ["one", "other"] (spD K (NC K) 2 S_is_less)) : Fo P w K mg base CX0 2 "most_of" ["some"] (spD K (NC K) 1 S_most_of) := by
  refine Fo.mk_ T 8 7 rfl rfl rfl rfl rfl (fun _ _ _ _ _ _ us hl => match us, hl with | [_], _ => rfl) fun f fd F => ok_pure 0 F sc_most_of rfl fun cdv A outer s H E I m ds Fv X hr h => ?_
  refine ⟨_, _, (pss_cons (ps_set (i := 1) sc_most_of.nd rfl (.inl rfl) (pe_ix (o_ixK K) (pv 0) pe_int (fun _ _ => rfl)))
    (pss_cons (ps_for PassesOwn.never rfl (pi_list (pv 0)) (pg_name (i := 2) sc_most_of.nd rfl (.inl rfl))
    (pss_one (ps_if (pt_val (pe_ownK K 0 G_is_less (hr.mono (by decide)) pass0 (pa_cons (pv 1) (pa_cons (pv 2) pa_nil)))) (pss_one (ps_set (i := 1) sc_most_of.nd rfl (.inl rfl) (pv 2))) pss_nil)))
    (pss_one (ps_ret (pv 1))))), (by (try dsimp only [cxOf]); infer_instance), ?_⟩
  obtain ⟨q, qs, k, rfl, hs, hk, hk2, h⟩ := h
  walk_at "d"
  refine ⟨fun i r _ => J_most q qs k i r, ⟨q, none, rfl, hs q List.mem_cons_self, ?_⟩, fun _ _ _ _ => trivial, ?_, ?_⟩
  · show maxQ q (q :: qs) = maxQ q qs
    show maxQ (if q < q then q else q) qs = maxQ q qs
    rw [ite_self]
  · rintro i d r m' hi ⟨p, o, rfl, hp, hm⟩
    have hi : ((q :: qs).map fD)[i]? = some d := hi
    rw [List.getElem?_map] at hi
    cases e : (q :: qs)[i]? with
    | none => rw [e] at hi; cases hi
    | some y =>
      rw [e] at hi
      cases hi
      obtain ⟨hl, ey⟩ := List.getElem?_eq_some_iff.mp e
      have hy : Sz k y := hs y (List.mem_of_getElem? e)
      rw [List.drop_eq_getElem_cons hl, ey] at hm
      walk_at "d"
      refine ⟨p, y, k, k, rfl, hp, hy, hk, hk, by omega, ?_⟩
      walk_at "d"
      split
      · rename_i hc
        refine ⟨y, _, rfl, hy, ?_⟩
        rw [← hm]
        show _ = maxQ (if p < y then y else p) _
        rw [if_pos (of_decide_eq_true hc)]
      · rename_i hc
        refine ⟨p, _, rfl, hp, ?_⟩
        rw [← hm]
        show _ = maxQ (if p < y then y else p) _
        rw [if_neg (of_decide_eq_false (Bool.eq_false_iff.mpr hc))]
  · rintro r m' ⟨p, o, rfl, hp, hm⟩
    walk_at "d"
    have e : (q :: qs).drop ((fD q :: qs.map fD).length) = [] := List.drop_eq_nil_of_le (by simp)
    rw [e] at hm
    rw [show p = maxQ q qs from hm]
    exact h
abbrev S_sum_of : Spc := fun ds m F X => ∃ (qs : List Rat) (k : Nat), ds = [.lst (qs.map fD)] ∧ (∀ p ∈ qs, Sz k p) ∧ 1 ≤ k ∧ k * qs.length ≤ 900 ∧ k ≤ 90 ∧ F (fD (sumF 0 qs)) []
def J_sum (qs : List Rat) (k i : Nat) (r : Rho) : Prop := ∃ (p : Rat) (o : Option D), r = [some (.lst (qs.map fD)), some (fD p), o] ∧ Sz (1 + k * i) p ∧ sumF p (qs.drop i) = sumF 0 qs
theorem sc_sum_of : FnScope ["some", "found", "one"] ["some"] (defScope s_sum_of) := ⟨rfl, rfl, rfl, by decide +kernel, rfl, by decide +kernel, by decide +kernel⟩
theorem ok_sum_of {P : Program} {w : World} {K : PySem.W.Frag} {mg : Str → Option Value} {base : Heap} (T : Tx K mg) (G_plus : Fo P w K mg base CX0 3 "plus" ["one", "other"] (spD K (NC K) 2 S_plus)) : Fo P w K mg base CX0 4 "sum_of" ["some"] (spD K (NC K) 1 S_sum_of) := by
  haveI := T.nought
  refine Fo.mk_ T 9 8 rfl rfl rfl rfl rfl (fun _ _ _ _ _ _ us hl => match us, hl with | [_], _ => rfl) fun f fd F => ok_pure 0 F sc_sum_of rfl fun cdv A outer s H E I m ds Fv X hr h => ?_
  refine ⟨_, _, (pss_cons (ps_set (i := 1) sc_sum_of.nd rfl (.inl rfl) (pe_gtup (T.g 77 rfl)))
    (pss_cons (ps_for PassesOwn.never rfl (pi_list (pv 0)) (pg_name (i := 2) sc_sum_of.nd rfl (.inl rfl))
    (pss_one (ps_set (i := 1) sc_sum_of.nd rfl (.inl rfl) (pe_ownK K 0 G_plus (hr.mono (by decide)) pass0 (pa_cons (pv 1) (pa_cons (pv 2) pa_nil))))))
    (pss_one (ps_ret (pv 1))))), (by (try dsimp only [cxOf]); infer_instance), ?_⟩
  obtain ⟨qs, k, rfl, hs, hk, hk2, hk3, h⟩ := h
  walk_at "d"
  refine ⟨fun i r _ => J_sum qs k i r, ⟨0, none, rfl, sz0, rfl⟩, fun _ _ _ _ => trivial, ?_, ?_⟩
  · rintro i d r m' hi ⟨p, o, rfl, hp, hm⟩
    have hi : (qs.map fD)[i]? = some d := hi
    rw [List.getElem?_map] at hi
    cases e : qs[i]? with
    | none => rw [e] at hi; cases hi
    | some y =>
      rw [e] at hi
      cases hi
      obtain ⟨hl, ey⟩ := List.getElem?_eq_some_iff.mp e
      have hy : Sz k y := hs y (List.mem_of_getElem? e)
      rw [List.drop_eq_getElem_cons hl, ey] at hm
      have h1 : k * i ≤ 900 := Nat.le_trans (Nat.mul_le_mul_left k (Nat.le_of_lt hl)) hk2
      walk_at "d"
      refine ⟨p, y, 1 + k * i, k, rfl, hp, hy, by omega, hk, by omega, p + y, _, rfl, ?_, hm⟩
      have e2 : 1 + k * i + k = 1 + k * (i + 1) := by rw [Nat.mul_succ]; omega
      rw [← e2]
      exact hp.add hy (by omega) hk
  · rintro r m' ⟨p, o, rfl, hp, hm⟩
    walk_at "d"
    have e : qs.drop ((qs.map fD).length) = [] := List.drop_eq_nil_of_le (by simp)
    rw [e] at hm
    rw [show p = sumF 0 qs from hm]
    exact h
end FC
/-! THE MATHEMATICS, 2: lists of data, webs. -/
namespace FC
open PySem PySem.Spec L2
theorem atN {α : Type} {xs : List α} {j : Nat} {v : α} (h : xs[j]? = some v) : atI xs (j : Int) = some v := atI_nat h
theorem flatDs_ints : ∀ ns : List Int, flatDs (ns.map .int) = some (ns.map V.int)
  | [] => rfl
  | n :: r => by
    rw [List.map_cons, List.map_cons]
    unfold flatDs
    rw [flatDs_ints r]
    rfl
theorem flatDs_strs : ∀ ns : List Str, flatDs (ns.map .str) = some (ns.map V.str)
  | [] => rfl
  | n :: r => by
    rw [List.map_cons, List.map_cons]
    unfold flatDs
    rw [flatDs_strs r]
    rfl
theorem str_beq (a b : Str) : (a == b) = decide (a = b) := by
  rw [Bool.eq_iff_iff]
  simp
theorem inV_ints (i : Int) : ∀ ns : List Int, inV (.int i) (ns.map V.int) = decide (i ∈ ns)
  | [] => rfl
  | n :: r => by
    have ih := inV_ints i r
    unfold inV at ih ⊢
    rw [List.map_cons, List.any_cons, ih]
    show ((n == i) || decide (i ∈ r)) = decide (i ∈ n :: r)
    rw [Bool.eq_iff_iff, Bool.or_eq_true, beq_iff_eq, decide_eq_true_eq, decide_eq_true_eq, List.mem_cons]
    exact or_congr_left eq_comm
theorem inV_strs (i : Str) : ∀ ns : List Str, inV (.str i) (ns.map V.str) = decide (i ∈ ns)
  | [] => rfl
  | n :: r => by
    have ih := inV_strs i r
    unfold inV at ih ⊢
    rw [List.map_cons, List.any_cons, ih]
    show ((n == i) || decide (i ∈ r)) = decide (i ∈ n :: r)
    rw [Bool.eq_iff_iff, Bool.or_eq_true, beq_iff_eq, decide_eq_true_eq, decide_eq_true_eq, List.mem_cons]
    exact or_congr_left eq_comm
theorem inDs_int (i : Int) (ns : List Int) : inDs (.int i) (ns.map .int) = some (decide (i ∈ ns)) := by
  unfold inDs
  rw [flatDs_ints]
  show some (inV (.int i) (ns.map V.int)) = _
  rw [inV_ints]
theorem inDs_str (i : Str) (ns : List Str) : inDs (.str i) (ns.map .str) = some (decide (i ∈ ns)) := by
  unfold inDs
  rw [flatDs_strs]
  show some (inV (.str i) (ns.map V.str)) = _
  rw [inV_strs]
/-- lists of numbers of ties -/
abbrev tk (ks : List Nat) : D := .lst (ks.map fun k => .int (k : Nat))
theorem tk_map (ks : List Nat) : (ks.map fun k => D.int (k : Nat)) = (ks.map fun (k : Nat) => (k : Int)).map .int := by rw [List.map_map]; rfl
theorem inDs_tk (k : Nat) (ks : List Nat) : inDs (.int (k : Nat)) (ks.map fun k => .int (k : Nat)) = some (decide (k ∈ ks)) := by
  rw [tk_map, inDs_int]
  congr 1
  rw [decide_eq_decide]
  constructor
  · intro h
    obtain ⟨j, h1, h2⟩ := List.mem_map.mp h
    have e : j = k := by omega
    subst e
    exact h1
  · intro h
    exact List.mem_map.mpr ⟨k, h, rfl⟩
theorem cutD_hi (ds : List D) (k : Nat) (hk : k ≤ ds.length) : cutD ds none (some (k : Int)) = ds.take k := by
  unfold cutD
  rw [HT.sIx_none, HT.sIx_nat, List.drop_zero, Nat.sub_zero, Nat.min_eq_left hk]
theorem cutD_lo (ds : List D) (k : Nat) (hk : k ≤ ds.length) : cutD ds (some (k : Int)) none = ds.drop k := by
  unfold cutD
  rw [HT.sIx_none, HT.sIx_nat, Nat.min_eq_left hk]
  exact List.take_of_length_le (by rw [List.length_drop]; exact Nat.le_refl _)
/-! ### webs -/
structure Tie where
  one : Str
  other : Str
  both : Bool
  len : Rat
  worth : Option Rat
structure Web where
  places : List Str
  ties : List Tie
  first : Str
  last : Str
def bothW (b : Bool) : Str := if b then "both" else "one"
def worthD : Option Rat → D
  | none => .non
  | some q => fD q
abbrev tieD (t : Tie) : D := .tup [.str t.one, .str t.other, .str (bothW t.both), fD t.len, worthD t.worth]
abbrev webD (w : Web) : D := .tup [.lst (w.places.map .str), .lst (w.ties.map tieD), .str w.first, .str w.last]
def LETT : Str := "abcdefghijklmnopqrstuvwxyz"
structure IsNm (z : Str) : Prop where
  lo : 1 ≤ z.length
  hi : z.length ≤ 8
  l : ∀ c ∈ z.cps.toList, c ∈ LETT.cps.toList
structure TieOk (ps : List Str) (t : Tie) : Prop where
  one : t.one ∈ ps
  other : t.other ∈ ps
  ne : t.one ≠ t.other
  len : 0 ≤ t.len
  sz : Sz 1 t.len
  worth : ∀ q, t.worth = some q → 0 < q ∧ Sz 1 q
structure WebOk (w : Web) : Prop where
  lo : 2 ≤ w.places.length
  hi : w.places.length ≤ 7
  nd : w.places.Nodup
  nm : ∀ z ∈ w.places, IsNm z
  tl : w.ties.length ≤ 14
  tie : ∀ t ∈ w.ties, TieOk w.places t
  first : w.first ∈ w.places
  last : w.last ∈ w.places
  ne : w.first ≠ w.last
/-- a list without twins within another one is no longer -/
theorem pigeon {α : Type} [DecidableEq α] : ∀ {l m : List α}, l.Nodup → (∀ x ∈ l, x ∈ m) → l.length ≤ m.length
  | [], _, _, _ => Nat.zero_le _
  | a :: r, m, nd, h => by
    obtain ⟨h1, h2⟩ := List.nodup_cons.mp nd
    have ha := h a List.mem_cons_self
    have h3 : ∀ x ∈ r, x ∈ m.erase a := fun x hx => (List.mem_erase_of_ne (fun e : x = a => h1 (e ▸ hx))).mpr (h x (List.mem_cons_of_mem _ hx))
    have h4 := pigeon h2 h3
    rw [List.length_erase_of_mem ha] at h4
    have h5 := List.length_pos_of_mem ha
    rw [List.length_cons]
    omega
theorem num_nonneg {q : Rat} (h : 0 ≤ q) : 0 ≤ q.num := by
  rw [Rat.le_iff] at h
  simpa using h
theorem num_pos {q : Rat} (h : 0 < q) : 0 < q.num := by
  rw [Rat.lt_iff] at h
  simpa using h
end FC
/-! THE WALK, 2: webs looked at. -/
namespace FC
open PySem PySem.Spec L2
local macro_rules | `(tactic| walk_at "d") => `(tactic| try simp only [dVar, dC, dOp, dUn, dAdd, dSub, dMul, dMod, dDiv, dPow, dNeg, dCmp, dEq, dNe, dEqv, dIsN, dNotN, isNon, dIn, inD, dInM, dIx, ixDs, dIxM, dChain, dB, asB, dAnd, dOr, dNot, dAndV, dOrV, dNotV, dIf, dNil, dCons, dTup, dLst, dLstM, dDic0, dDicM, dDisp1,
  dCB, dLen, dLenM, dAbs, dMax2, dMin2, dInt, dBool, dStr, dList, dListN, dListM, dTuple, dSorted, dDicC, dIsi, tyD_non, tyD_bl, tyD_int, tyD_str, tyD_lst, tyD_tup, tyD_dic, dNoPart, asI, dPart, dSl, dRev, dApp, dPopI, dRem, dEqNil, dEqNilM, dGet, dDGetM, dDGet, dDInM, dDInA, dDPopM, dEqD0, dEqDM, dJoin, dNext, dSeq, dDrop, dRet, dIfS, dNever, dgName, dgNil, dgCons, dgTup, dAsg, dSubM, dDPutM, dPar, dAug, dFrz, frzD, dFgt,
  diLst, diTup, diLstM, diRng1, diRng2, diStr, diEnum, diZip, dYes, dCall, endsD, startD, wipeD, dom,
  isTy_0_0, isTy_0_1, isTy_0_2, isTy_0_3, isTy_0_4, isTy_1_0, isTy_1_1, isTy_1_2, isTy_1_3, isTy_1_4, isTy_2_0, isTy_2_1, isTy_2_2, isTy_2_3, isTy_2_4, isTy_3_0, isTy_3_1, isTy_3_2, isTy_3_3, isTy_3_4, isTy_4_0, isTy_4_1, isTy_4_2, isTy_4_3, isTy_4_4, isTy_5_0, isTy_5_1, isTy_5_2, isTy_5_3, isTy_5_4, isTy_6_0, isTy_6_1, isTy_6_2, isTy_6_3, isTy_6_4,
  Int.cast_ofNat_Int, decide_true, decide_false, Int.reduceEq, Int.reduceLT, Int.reduceLE, atI_0, atI_1, atI_2, atI_3, atI_4, List.length_map, List.map_cons, List.map_nil, List.length_cons, List.length_nil, Nat.reduceAdd, Nat.reduceSub, List.reduceReplicate, List.cons_append, List.nil_append, List.append_nil, List.getElem?_cons_zero, List.getElem?_cons_succ, List.getElem?_nil, List.set_cons_zero, List.set_cons_succ, List.take_zero, List.drop_zero, List.take_succ_cons, List.drop_succ_cons,
  List.eraseIdx_cons_zero, List.eraseIdx_cons_succ, true_and, and_true, eq_self, and_self, if_true, if_false, Bool.false_eq_true, reduceIte, Bool.not_true, Bool.not_false, forall_const, exists_eq_left, exists_eq_left', exists_eq_right, exists_eq_right', exists_and_left, exists_const, D.adr.injEq, D.str.injEq, D.int.injEq, D.lst.injEq, D.tup.injEq, D.bl.injEq, Option.some.injEq, Prod.mk.injEq, MO.l.injEq, MO.d.injEq, List.cons.injEq, Function.const_apply])

abbrev S_is_name : Spc := fun ds m F X => ∃ z : Str, ds = [.str z] ∧ IsNm z ∧ F (.bl true) []
theorem sl100 {n : Nat} (h : n ≤ 100000) : n ≤ sizeLine := Nat.le_trans h (by decide)
def J_name (z : Str) (r : Rho) : Prop := ∃ o : Option D, r = [some (.str z), o]
theorem sc_is_name : FnScope ["thing", "sign"] ["thing"] (defScope s_is_name) := ⟨rfl, rfl, rfl, by decide +kernel, rfl, by decide +kernel, by decide +kernel⟩
theorem ok_is_name {P : Program} {w : World} {K : PySem.W.Frag} {mg : Str → Option Value} {base : Heap} (T : Tx K mg) : Fo P w K mg base CX0 1 "is_name" ["thing"] (spD K (NC K) 1 S_is_name) := by
  refine Fo.mk_ T 4 3 rfl rfl rfl rfl rfl (fun _ _ _ _ _ _ us hl => match us, hl with | [_], _ => rfl) fun f fd F => ok_pure 0 F sc_is_name rfl fun cdv A outer s H E I m ds Fv X hr h => ?_
  refine ⟨_, _, (pss_cons (ps_if (PW.pt (pw_or (pt_not (pt_val (pe_bi c_isi (T.b 84 rfl) bb_isinstance (pa_cons (pv 0) (pa_cons (pe_tyN .str (T.b 91 rfl) bb_str) pa_nil))))) (pw_or1 (pt_not (pt_chain o_le o_le pe_int (pe_bi c_len (T.b 85 rfl) bb_len (pa_cons (pv 0) pa_nil)) (pe_gint (T.i 94 rfl))))))) (pss_one (ps_ret pe_bl)) pss_nil)
    (pss_cons (ps_for PassesOwn.never rfl (pi_str (pv 0)) (pg_name (i := 1) sc_is_name.nd rfl (.inl rfl))
    (pss_one (ps_if (pt_cmpR o_ninS (pv 1) (pe_gstr (T.s 99 rfl)) (by rfl)) (pss_one (ps_ret pe_bl)) pss_nil)))
    (pss_one (ps_ret pe_bl)))), (by (try dsimp only [cxOf]); infer_instance), ?_⟩
  obtain ⟨z, rfl, hz, h⟩ := h
  walk_at "d"
  obtain ⟨z1, z2, z3⟩ := hz
  refine ⟨sl100 (by omega), ?_⟩
  rw [if_pos (decide_eq_true (by omega)), if_neg (by simp; omega)]
  walk_at "d"
  refine ⟨fun i r _ => J_name z r, ⟨none, rfl⟩, fun _ _ _ _ => trivial, ?_, ?_⟩
  · rintro i d r m' hi ⟨o, rfl⟩
    unfold signs at hi
    rw [List.getElem?_map] at hi
    cases e : z.cps.toList[i]? with
    | none => rw [e] at hi; cases hi
    | some c =>
      rw [e] at hi
      cases hi
      have hc := z3 c (List.mem_of_getElem? e)
      walk_at "d"
      refine ⟨c, LETT, rfl, rfl, ?_⟩
      show (if (!decide (c ∈ LETT.cps.toList)) = true then _ else _)
      rw [if_neg (by rw [decide_eq_true hc]; decide)]
      exact ⟨_, rfl⟩
  · rintro r m' ⟨o, rfl⟩
    walk_at "d"
    exact h
abbrev S_is_length : Spc := fun ds m F X => ∃ q : Rat, ds = [fD q] ∧ 0 ≤ q ∧ F (.bl true) []
theorem sc_is_length : FnScope ["thing"] ["thing"] (defScope s_is_length) := ⟨rfl, rfl, rfl, by decide +kernel, rfl, by decide +kernel, by decide +kernel⟩
theorem ok_is_length {P : Program} {w : World} {K : PySem.W.Frag} {mg : Str → Option Value} {base : Heap} (T : Tx K mg) (G_is_ratio : Fo P w K mg base CX0 2 "is_ratio" ["thing"] (spD K (NC K) 1 S_is_ratio)) : Fo P w K mg base CX0 3 "is_length" ["thing"] (spD K (NC K) 1 S_is_length) := by
  refine Fo.mk_ T 10 9 rfl rfl rfl rfl rfl (fun _ _ _ _ _ _ us hl => match us, hl with | [_], _ => rfl) fun f fd F => ok_pure 0 F sc_is_length rfl fun cdv A outer s H E I m ds Fv X hr h => ?_
  refine ⟨_, _, (pss_one (ps_ret (pe_and (pe_ownK K 0 G_is_ratio (hr.mono (by decide)) pass0 (pa_cons (pv 0) pa_nil)) (pe_one (pe_cmpR o_ge (pe_ix (o_ixK K) (pv 0) pe_int (fun _ _ => rfl)) pe_int (nomark _)))))), (by (try dsimp only [cxOf]); infer_instance), ?_⟩
  obtain ⟨q, rfl, hq, h⟩ := h
  walk_at "d"
  refine ⟨q, rfl, ?_⟩
  walk_at "d"
  rw [decide_eq_true (num_nonneg hq)]
  exact h
abbrev S_is_worth : Spc := fun ds m F X => ∃ q : Option Rat, ds = [worthD q] ∧ (∀ p, q = some p → 0 < p) ∧ F (.bl true) []
theorem worthD_none : worthD none = .non := rfl
theorem worthD_some (q : Rat) : worthD (some q) = fD q := rfl
theorem sc_is_worth : FnScope ["thing"] ["thing"] (defScope s_is_worth) := ⟨rfl, rfl, rfl, by decide +kernel, rfl, by decide +kernel, by decide +kernel⟩
theorem ok_is_worth {P : Program} {w : World} {K : PySem.W.Frag} {mg : Str → Option Value} {base : Heap} (T : Tx K mg) (G_is_ratio : Fo P w K mg base CX0 2 "is_ratio" ["thing"] (spD K (NC K) 1 S_is_ratio)) : Fo P w K mg base CX0 3 "is_worth" ["thing"] (spD K (NC K) 1 S_is_worth) := by
  refine Fo.mk_ T 11 10 rfl rfl rfl rfl rfl (fun _ _ _ _ _ _ us hl => match us, hl with | [_], _ => rfl) fun f fd F => ok_pure 0 F sc_is_worth rfl fun cdv A outer s H E I m ds Fv X hr h => ?_
  refine ⟨_, _, (pss_one (ps_ret (pe_or (pe_cmpR o_is (pv 0) pe_non (nomark _)) (pe_one (pe_and (pe_ownK K 0 G_is_ratio (hr.mono (by decide)) pass0 (pa_cons (pv 0) pa_nil)) (pe_one (pe_cmpR o_gt (pe_ix (o_ixK K) (pv 0) pe_int (fun _ _ => rfl)) pe_int (nomark _)))))))), (by (try dsimp only [cxOf]); infer_instance), ?_⟩
  obtain ⟨q, rfl, hq, h⟩ := h
  cases q with
  | none =>
    rw [worthD_none]
    walk_at "d"
    exact h
  | some q =>
    rw [worthD_some]
    have hq := hq q rfl
    walk_at "d"
    refine ⟨q, rfl, ?_⟩
    walk_at "d"
    rw [decide_eq_true (num_pos hq)]
    exact h
abbrev S_is_tie : Spc := fun ds m F X => ∃ (t : Tie) (ps : List Str), ds = [tieD t] ∧ TieOk ps t ∧ IsNm t.one ∧ IsNm t.other ∧ F (.bl true) []
theorem bothW_in (b : Bool) : inDs (.str (bothW b)) [.str "one", .str "both"] = some true := by cases b <;> decide +kernel
theorem sc_is_tie : FnScope ["thing", "one", "other", "word", "length", "worth"] ["thing"] (defScope s_is_tie) := ⟨rfl, rfl, rfl, by decide +kernel, rfl, by decide +kernel, by decide +kernel⟩
theorem ok_is_tie {P : Program} {w : World} {K : PySem.W.Frag} {mg : Str → Option Value} {base : Heap} (T : Tx K mg) (G_is_name : Fo P w K mg base CX0 1 "is_name" ["thing"] (spD K (NC K) 1 S_is_name)) (G_is_worth : Fo P w K mg base CX0 3 "is_worth" ["thing"] (spD K (NC K) 1 S_is_worth)) (G_is_length : Fo P w K mg base CX0 3 "is_length" ["thing"] (spD K (NC K) 1 S_is_length)) : Fo P w K mg base CX0 4 "is_tie" ["thing"] (spD K (NC K) 1 S_is_tie) := by
  refine Fo.mk_ T 12 11 rfl rfl rfl rfl rfl (fun _ _ _ _ _ _ us hl => match us, hl with | [_], _ => rfl) fun f fd F => ok_pure 0 F sc_is_tie rfl fun cdv A outer s H E I m ds Fv X hr h => ?_
  refine ⟨_, _, (pss_cons (ps_if (PW.pt (pw_or (pt_not (pt_val (pe_bi c_isi (T.b 84 rfl) bb_isinstance (pa_cons (pv 0) (pa_cons (pe_tyN .tuple (T.b 92 rfl) bb_tuple) pa_nil))))) (pw_or1 (pt_cmpR op_ne (pe_bi c_len (T.b 85 rfl) bb_len (pa_cons (pv 0) pa_nil)) pe_int (nomark _))))) (pss_one (ps_ret pe_bl)) pss_nil)
    (pss_cons (ps_asg (pv 0) (pg_tup rfl (pgs_cons (pg_name (i := 1) sc_is_tie.nd rfl (.inl rfl)) (pgs_cons (pg_name (i := 2) sc_is_tie.nd rfl (.inl rfl)) (pgs_cons (pg_name (i := 3) sc_is_tie.nd rfl (.inl rfl)) (pgs_cons (pg_name (i := 4) sc_is_tie.nd rfl (.inl rfl)) (pgs_cons (pg_name (i := 5) sc_is_tie.nd rfl (.inl rfl)) pgs_nil)))))))
    (pss_cons (ps_if (PW.pt (pw_or (pt_not (pt_val (pe_ownK K 0 G_is_name (hr.mono (by decide)) pass0 (pa_cons (pv 1) pa_nil)))) (pw_or (pt_not (pt_val (pe_ownK K 0 G_is_name (hr.mono (by decide)) pass0 (pa_cons (pv 2) pa_nil)))) (pw_or1 (pt_cmpR op_eq (pv 1) (pv 2) (nomark _)))))) (pss_one (ps_ret pe_bl)) pss_nil)
    (pss_cons (ps_if (PW.pt (pw_or (pt_not (pt_val (pe_bi c_isi (T.b 84 rfl) bb_isinstance (pa_cons (pv 3) (pa_cons (pe_tyN .str (T.b 91 rfl) bb_str) pa_nil))))) (pw_or1 (pt_cmpR (o_ninK K) (pv 3) (pe_tup (pa_cons pe_str (pa_cons pe_str pa_nil))) (by rfl))))) (pss_one (ps_ret pe_bl)) pss_nil)
    (pss_one (ps_ret (pe_and (pe_ownK K 0 G_is_length (hr.mono (by decide)) pass0 (pa_cons (pv 4) pa_nil)) (pe_one (pe_ownK K 0 G_is_worth (hr.mono (by decide)) pass0 (pa_cons (pv 5) pa_nil)))))))))), (by (try dsimp only [cxOf]); infer_instance), ?_⟩
  obtain ⟨t, ps, rfl, ht, h1, h2, h⟩ := h
  walk_at "d"
  refine ⟨rfl, _, rfl, h1, ?_⟩
  walk_at "d"
  refine ⟨_, rfl, h2, ?_⟩
  walk_at "d"
  rw [if_neg (by simp [ht.ne])]
  refine ⟨by decide, ?_⟩
  rw [bothW_in]
  walk_at "d"
  refine ⟨_, rfl, ht.len, ?_⟩
  walk_at "d"
  exact ⟨_, rfl, fun p hp => (ht.worth p hp).1, h⟩
abbrev S_look_at_places : Spc := fun ds m F X => ∃ ps : List Str, ds = [.lst (ps.map .str)] ∧ 2 ≤ ps.length ∧ ps.length ≤ 7 ∧ ps.Nodup ∧ (∀ z ∈ ps, IsNm z) ∧ F .non []
def J_places (ps : List Str) (r : Rho) : Prop := ∃ o : Option D, r = [some (.lst (ps.map .str)), o]
theorem rngD_len (lo : Int) (n : Nat) : (rngD lo n).length = n := by simp [rngD]
theorem rngD_get {lo : Int} {n i : Nat} {d : D} (h : (rngD lo n)[i]? = some d) : i < n ∧ d = .int (lo + (i : Nat)) := by
  unfold rngD at h
  rw [List.getElem?_map] at h
  cases q : (List.range n)[i]? with
  | none => rw [q] at h; cases h
  | some j =>
    rw [q] at h
    obtain ⟨q1, q2⟩ := List.getElem?_eq_some_iff.mp q
    rw [List.getElem_range] at q2
    rw [List.length_range] at q1
    subst q2
    cases h
    exact ⟨q1, rfl⟩
theorem sc_look_at_places : FnScope ["thing", "k"] ["thing"] (defScope s_look_at_places) := ⟨rfl, rfl, rfl, by decide +kernel, rfl, by decide +kernel, by decide +kernel⟩
theorem ok_look_at_places {P : Program} {w : World} {K : PySem.W.Frag} {mg : Str → Option Value} {base : Heap} (T : Tx K mg) (G_is_name : Fo P w K mg base CX0 1 "is_name" ["thing"] (spD K (NC K) 1 S_is_name)) : Fo P w K mg base CX0 2 "look_at_places" ["thing"] (spD K (NC K) 1 S_look_at_places) := by
  refine Fo.mk_ T 13 12 rfl rfl rfl rfl rfl (fun _ _ _ _ _ _ us hl => match us, hl with | [_], _ => rfl) fun f fd F => ok_pure 0 F sc_look_at_places rfl fun cdv A outer s H E I m ds Fv X hr h => ?_
  refine ⟨_, _, (pss_cons (ps_if (PW.pt (pw_or (pt_not (pt_val (pe_bi c_isi (T.b 84 rfl) bb_isinstance (pa_cons (pv 0) (pa_cons (pe_tyN .list (T.b 86 rfl) bb_list) pa_nil))))) (pw_or1 (pt_not (pt_chain o_le o_le (pe_gint (T.i 95 rfl)) (pe_bi c_len (T.b 85 rfl) bb_len (pa_cons (pv 0) pa_nil)) (pe_gint (T.i 96 rfl))))))) (pss_one ps_never) pss_nil)
    (pss_one (ps_for PassesOwn.never rfl (pi_range1 rfl (T.b 89 rfl) (pa_cons (pe_bi c_len (T.b 85 rfl) bb_len (pa_cons (pv 0) pa_nil)) pa_nil)) (pg_name (i := 1) sc_look_at_places.nd rfl (.inl rfl))
    (pss_one (ps_if (PW.pt (pw_or (pt_not (pt_val (pe_ownK K 0 G_is_name (hr.mono (by decide)) pass0 (pa_cons (pe_ix (o_ixK K) (pv 0) (pv 1) (fun _ _ => rfl)) pa_nil)))) (pw_or1 (pt_cmpR (o_inK K) (pe_ix (o_ixK K) (pv 0) (pv 1) (fun _ _ => rfl)) (pe_slice (sl_anyK K) (pv 0) po_none (po_some (pv 1))) (by rfl))))) (pss_one ps_never) pss_nil))))), (by (try dsimp only [cxOf]); infer_instance), ?_⟩
  obtain ⟨ps, rfl, h1, h2, h3, h4, h⟩ := h
  walk_at "d"
  rw [if_pos (decide_eq_true (by omega)), if_neg (by simp; omega)]
  walk_at "d"
  refine ⟨by simp; omega, by simp, fun i r _ => J_places ps r, ⟨none, rfl⟩, fun _ _ _ _ => trivial, ?_, ?_⟩
  · rintro i d r m' hi ⟨o, rfl⟩
    obtain ⟨hj, rfl⟩ := rngD_get hi
    have hi : i < ps.length := by simpa using hj
    have e : (ps.map D.str)[i]? = some (.str ps[i]) := by rw [List.getElem?_map, List.getElem?_eq_getElem hi]; rfl
    walk_at "d"
    rw [Int.zero_add, atN e]
    walk_at "d"
    refine ⟨_, rfl, h4 _ (List.getElem_mem hi), ?_⟩
    walk_at "d"
    rw [cutD_hi _ _ (by rw [List.length_map]; omega), ← List.map_take, inDs_str]
    have hn : ps[i] ∉ ps.take i := fun z => by
      obtain ⟨j, hj, e2⟩ := List.mem_iff_getElem.mp z
      rw [List.getElem_take] at e2
      rw [List.length_take] at hj
      have := (List.getElem_inj h3).mp e2
      omega
    rw [decide_eq_false hn]
    walk_at "d"
    exact ⟨_, rfl⟩
  · rintro r m' ⟨o, rfl⟩
    exact h
abbrev S_look_at_ties : Spc := fun ds m F X => ∃ (ps : List Str) (ts : List Tie), ds = [.lst (ps.map .str), .lst (ts.map tieD)] ∧ ts.length ≤ 14 ∧ (∀ z ∈ ps, IsNm z) ∧ (∀ t ∈ ts, TieOk ps t) ∧ F .non []
def J_ties (ps : List Str) (ts : List Tie) (r : Rho) : Prop := ∃ o : Option D, r = [some (.lst (ps.map .str)), some (.lst (ts.map tieD)), o]
theorem sc_look_at_ties : FnScope ["places", "thing", "k"] ["places", "thing"] (defScope s_look_at_ties) := ⟨rfl, rfl, rfl, by decide +kernel, rfl, by decide +kernel, by decide +kernel⟩
theorem ok_look_at_ties {P : Program} {w : World} {K : PySem.W.Frag} {mg : Str → Option Value} {base : Heap} (T : Tx K mg) (G_is_tie : Fo P w K mg base CX0 4 "is_tie" ["thing"] (spD K (NC K) 1 S_is_tie)) : Fo P w K mg base CX0 5 "look_at_ties" ["places", "thing"] (spD K (NC K) 2 S_look_at_ties) := by
  refine Fo.mk_ T 14 13 rfl rfl rfl rfl rfl (fun _ _ _ _ _ _ us hl => match us, hl with | [_, _], _ => rfl) fun f fd F => ok_pure 0 F sc_look_at_ties rfl fun cdv A outer s H E I m ds Fv X hr h => ?_
  refine ⟨_, _, (pss_cons (ps_if (PW.pt (pw_or (pt_not (pt_val (pe_bi c_isi (T.b 84 rfl) bb_isinstance (pa_cons (pv 1) (pa_cons (pe_tyN .list (T.b 86 rfl) bb_list) pa_nil))))) (pw_or1 (pt_cmpR o_gt (pe_bi c_len (T.b 85 rfl) bb_len (pa_cons (pv 1) pa_nil)) (pe_gint (T.i 97 rfl)) (nomark _))))) (pss_one ps_never) pss_nil)
    (pss_one (ps_for PassesOwn.never rfl (pi_range1 rfl (T.b 89 rfl) (pa_cons (pe_bi c_len (T.b 85 rfl) bb_len (pa_cons (pv 1) pa_nil)) pa_nil)) (pg_name (i := 2) sc_look_at_ties.nd rfl (.inl rfl))
    (pss_one (ps_if (PW.pt (pw_or (pt_not (pt_val (pe_ownK K 0 G_is_tie (hr.mono (by decide)) pass0 (pa_cons (pe_ix (o_ixK K) (pv 1) (pv 2) (fun _ _ => rfl)) pa_nil)))) (pw_or (pt_cmpR (o_ninK K) (pe_ix (o_ixK K) (pe_ix (o_ixK K) (pv 1) (pv 2) (fun _ _ => rfl)) pe_int (fun _ _ => rfl)) (pv 0) (by rfl)) (pw_or1 (pt_cmpR (o_ninK K) (pe_ix (o_ixK K) (pe_ix (o_ixK K) (pv 1) (pv 2) (fun _ _ => rfl)) pe_int (fun _ _ => rfl)) (pv 0) (by rfl)))))) (pss_one ps_never) pss_nil))))), (by (try dsimp only [cxOf]); infer_instance), ?_⟩
  obtain ⟨ps, ts, rfl, h1, h2, h3, h⟩ := h
  walk_at "d"
  rw [if_neg (by simp; omega)]
  walk_at "d"
  refine ⟨by simp; omega, by simp, fun i r _ => J_ties ps ts r, ⟨none, rfl⟩, fun _ _ _ _ => trivial, ?_, ?_⟩
  · rintro i d r m' hi ⟨o, rfl⟩
    obtain ⟨hj, rfl⟩ := rngD_get hi
    have hi : i < ts.length := by simpa using hj
    have e : (ts.map tieD)[i]? = some (tieD ts[i]) := by rw [List.getElem?_map, List.getElem?_eq_getElem hi]; rfl
    have ht := h3 _ (List.getElem_mem hi)
    walk_at "d"
    rw [Int.zero_add, atN e]
    walk_at "d"
    refine ⟨_, ps, rfl, ht, h2 _ ht.one, h2 _ ht.other, ?_⟩
    walk_at "d"
    rw [inDs_str, inDs_str, decide_eq_true ht.one, decide_eq_true ht.other]
    walk_at "d"
    exact ⟨_, rfl⟩
  · rintro r m' ⟨o, rfl⟩
    exact h
abbrev S_look_at_web : Spc := fun ds m F X => ∃ w : Web, ds = [webD w] ∧ WebOk w ∧ F .non []
theorem sc_look_at_web : FnScope ["thing", "places", "ties", "first", "last"] ["thing"] (defScope s_look_at_web) := ⟨rfl, rfl, rfl, by decide +kernel, rfl, by decide +kernel, by decide +kernel⟩
theorem ok_look_at_web {P : Program} {w : World} {K : PySem.W.Frag} {mg : Str → Option Value} {base : Heap} (T : Tx K mg) (G_look_at_places : Fo P w K mg base CX0 2 "look_at_places" ["thing"] (spD K (NC K) 1 S_look_at_places)) (G_look_at_ties : Fo P w K mg base CX0 5 "look_at_ties" ["places", "thing"] (spD K (NC K) 2 S_look_at_ties)) (G_is_name : Fo P w K mg base CX0 1 "is_name" ["thing"] (spD K (NC K) 1 S_is_name)) : Fo P w K mg base CX0 6 "look_at_web" ["thing"] (spD K (NC K) 1 S_look_at_web) := by
  refine Fo.mk_ T 15 14 rfl rfl rfl rfl rfl (fun _ _ _ _ _ _ us hl => match us, hl with | [_], _ => rfl) fun f fd F => ok_pure 0 F sc_look_at_web rfl fun cdv A outer s H E I m ds Fv X hr h => ?_
  refine ⟨_, _, (pss_cons (ps_if (PW.pt (pw_or (pt_not (pt_val (pe_bi c_isi (T.b 84 rfl) bb_isinstance (pa_cons (pv 0) (pa_cons (pe_tyN .tuple (T.b 92 rfl) bb_tuple) pa_nil))))) (pw_or1 (pt_cmpR op_ne (pe_bi c_len (T.b 85 rfl) bb_len (pa_cons (pv 0) pa_nil)) pe_int (nomark _))))) (pss_one ps_never) pss_nil)
    (pss_cons (ps_asg (pv 0) (pg_tup rfl (pgs_cons (pg_name (i := 1) sc_look_at_web.nd rfl (.inl rfl)) (pgs_cons (pg_name (i := 2) sc_look_at_web.nd rfl (.inl rfl)) (pgs_cons (pg_name (i := 3) sc_look_at_web.nd rfl (.inl rfl)) (pgs_cons (pg_name (i := 4) sc_look_at_web.nd rfl (.inl rfl)) pgs_nil))))))
    (pss_cons (ps_expr (pe_ownK K 0 G_look_at_places (hr.mono (by decide)) pass0 (pa_cons (pv 1) pa_nil)))
    (pss_cons (ps_expr (pe_ownK K 0 G_look_at_ties (hr.mono (by decide)) pass0 (pa_cons (pv 1) (pa_cons (pv 2) pa_nil))))
    (pss_cons (ps_if (PW.pt (pw_or (pt_not (pt_val (pe_ownK K 0 G_is_name (hr.mono (by decide)) pass0 (pa_cons (pv 3) pa_nil)))) (pw_or1 (pt_cmpR (o_ninK K) (pv 3) (pv 1) (by rfl))))) (pss_one ps_never) pss_nil)
    (pss_one (ps_if (PW.pt (pw_or (pt_not (pt_val (pe_ownK K 0 G_is_name (hr.mono (by decide)) pass0 (pa_cons (pv 4) pa_nil)))) (pw_or (pt_cmpR (o_ninK K) (pv 4) (pv 1) (by rfl)) (pw_or1 (pt_cmpR op_eq (pv 4) (pv 3) (nomark _)))))) (pss_one ps_never) pss_nil))))))), (by (try dsimp only [cxOf]); infer_instance), ?_⟩
  obtain ⟨w', rfl, hw, h⟩ := h
  walk_at "d"
  refine ⟨rfl, _, rfl, hw.lo, hw.hi, hw.nd, hw.nm, ?_⟩
  walk_at "d"
  refine ⟨_, _, rfl, hw.tl, hw.nm, hw.tie, ?_⟩
  walk_at "d"
  refine ⟨_, rfl, hw.nm _ hw.first, ?_⟩
  walk_at "d"
  rw [inDs_str, decide_eq_true hw.first]
  walk_at "d"
  refine ⟨_, rfl, hw.nm _ hw.last, ?_⟩
  walk_at "d"
  rw [inDs_str, decide_eq_true hw.last]
  walk_at "d"
  rw [if_neg (by simp [hw.ne.symm])]
  exact h
/-- the number of a tie, as the program looks -/
def tieNo (n : Nat) : D → Bool
  | .int i => decide (0 ≤ i ∧ i < (n : Int))
  | _ => false
abbrev S_is_tie_number : Spc := fun ds m F X => ∃ (w : Web) (d : D) (s : String), ds = [webD w, d] ∧ tyD d = some s ∧ F (.bl (tieNo w.ties.length d)) []
theorem sc_is_tie_number : FnScope ["web", "thing"] ["web", "thing"] (defScope s_is_tie_number) := ⟨rfl, rfl, rfl, by decide +kernel, rfl, by decide +kernel, by decide +kernel⟩
theorem ok_is_tie_number {P : Program} {w : World} {K : PySem.W.Frag} {mg : Str → Option Value} {base : Heap} (T : Tx K mg) (G_is_whole : Fo P w K mg base CX0 1 "is_whole" ["thing"] (spD K (NC K) 1 S_is_whole)) : Fo P w K mg base CX0 2 "is_tie_number" ["web", "thing"] (spD K (NC K) 2 S_is_tie_number) := by
  refine Fo.mk_ T 16 15 rfl rfl rfl rfl rfl (fun _ _ _ _ _ _ us hl => match us, hl with | [_, _], _ => rfl) fun f fd F => ok_pure 0 F sc_is_tie_number rfl fun cdv A outer s H E I m ds Fv X hr h => ?_
  refine ⟨_, _, (pss_one (ps_ret (pe_and (pe_ownK K 0 G_is_whole (hr.mono (by decide)) pass0 (pa_cons (pv 1) pa_nil)) (pe_one (pe_chain o_le o_lt pe_int (pv 1) (pe_bi c_len (T.b 85 rfl) bb_len (pa_cons (pe_ix (o_ixK K) (pv 0) pe_int (fun _ _ => rfl)) pa_nil))))))), (by (try dsimp only [cxOf]); infer_instance), ?_⟩
  obtain ⟨w', d, s', rfl, hd, h⟩ := h
  walk_at "d"
  refine ⟨_, _, rfl, hd, ?_⟩
  cases d with
  | int i =>
    simp only [isInt]
    walk_at "d"
    have e : tieNo w'.ties.length (.int i) = decide (0 ≤ i ∧ i < (w'.ties.length : Int)) := rfl
    rw [e] at h
    by_cases h0 : 0 ≤ i
    · rw [decide_eq_true h0, if_pos rfl]
      rw [show decide (i < (w'.ties.length : Int)) = decide (0 ≤ i ∧ i < (w'.ties.length : Int)) from decide_eq_decide.mpr ⟨fun z => ⟨h0, z⟩, fun z => z.2⟩]
      exact h
    · rw [decide_eq_false h0, if_neg Bool.false_ne_true]
      rw [decide_eq_false (fun z => h0 z.1)] at h
      exact h
  | _ => exact h
abbrev S_is_purse : Spc := fun ds m F X => ∃ q : Rat, ds = [fD q] ∧ 0 ≤ q ∧ F (.bl true) []
theorem sc_is_purse : FnScope ["thing"] ["thing"] (defScope s_is_purse) := ⟨rfl, rfl, rfl, by decide +kernel, rfl, by decide +kernel, by decide +kernel⟩
theorem ok_is_purse {P : Program} {w : World} {K : PySem.W.Frag} {mg : Str → Option Value} {base : Heap} (T : Tx K mg) (G_is_length : Fo P w K mg base CX0 3 "is_length" ["thing"] (spD K (NC K) 1 S_is_length)) : Fo P w K mg base CX0 4 "is_purse" ["thing"] (spD K (NC K) 1 S_is_purse) := by
  refine Fo.mk_ T 17 16 rfl rfl rfl rfl rfl (fun _ _ _ _ _ _ us hl => match us, hl with | [_], _ => rfl) fun f fd F => ok_pure 0 F sc_is_purse rfl fun cdv A outer s H E I m ds Fv X hr h => ?_
  refine ⟨_, _, (pss_one (ps_ret (pe_ownK K 0 G_is_length (hr.mono (by decide)) pass0 (pa_cons (pv 0) pa_nil)))), (by (try dsimp only [cxOf]); infer_instance), ?_⟩
  obtain ⟨q, rfl, hq, h⟩ := h
  walk_at "d"
  exact ⟨q, rfl, hq, h⟩
abbrev S_look_at_purse : Spc := fun ds m F X => ∃ q : Rat, ds = [fD q] ∧ 0 ≤ q ∧ F .non []
theorem sc_look_at_purse : FnScope ["thing"] ["thing"] (defScope s_look_at_purse) := ⟨rfl, rfl, rfl, by decide +kernel, rfl, by decide +kernel, by decide +kernel⟩
theorem ok_look_at_purse {P : Program} {w : World} {K : PySem.W.Frag} {mg : Str → Option Value} {base : Heap} (T : Tx K mg) (G_is_purse : Fo P w K mg base CX0 4 "is_purse" ["thing"] (spD K (NC K) 1 S_is_purse)) : Fo P w K mg base CX0 5 "look_at_purse" ["thing"] (spD K (NC K) 1 S_look_at_purse) := by
  refine Fo.mk_ T 18 17 rfl rfl rfl rfl rfl (fun _ _ _ _ _ _ us hl => match us, hl with | [_], _ => rfl) fun f fd F => ok_pure 0 F sc_look_at_purse rfl fun cdv A outer s H E I m ds Fv X hr h => ?_
  refine ⟨_, _, (pss_one (ps_if (pt_not (pt_val (pe_ownK K 0 G_is_purse (hr.mono (by decide)) pass0 (pa_cons (pv 0) pa_nil)))) (pss_one ps_never) pss_nil)), (by (try dsimp only [cxOf]); infer_instance), ?_⟩
  obtain ⟨q, rfl, hq, h⟩ := h
  walk_at "d"
  refine ⟨q, rfl, hq, ?_⟩
  walk_at "d"
  exact h
abbrev S_look_at_adds : Spc := fun ds m F X => ∃ (w : Web) (qs : List Rat), ds = [webD w, .lst (qs.map fD)] ∧ qs.length = w.ties.length ∧ (∀ q ∈ qs, 0 ≤ q) ∧ F .non []
def J_adds (w : Web) (qs : List Rat) (r : Rho) : Prop := ∃ o : Option D, r = [some (webD w), some (.lst (qs.map fD)), o]
theorem sc_look_at_adds : FnScope ["web", "thing", "one"] ["web", "thing"] (defScope s_look_at_adds) := ⟨rfl, rfl, rfl, by decide +kernel, rfl, by decide +kernel, by decide +kernel⟩
theorem ok_look_at_adds {P : Program} {w : World} {K : PySem.W.Frag} {mg : Str → Option Value} {base : Heap} (T : Tx K mg) (G_is_length : Fo P w K mg base CX0 3 "is_length" ["thing"] (spD K (NC K) 1 S_is_length)) : Fo P w K mg base CX0 4 "look_at_adds" ["web", "thing"] (spD K (NC K) 2 S_look_at_adds) := by
  refine Fo.mk_ T 38 37 rfl rfl rfl rfl rfl (fun _ _ _ _ _ _ us hl => match us, hl with | [_, _], _ => rfl) fun f fd F => ok_pure 0 F sc_look_at_adds rfl fun cdv A outer s H E I m ds Fv X hr h => ?_
  refine ⟨_, _, (pss_cons (ps_if (PW.pt (pw_or (pt_not (pt_val (pe_bi c_isi (T.b 84 rfl) bb_isinstance (pa_cons (pv 1) (pa_cons (pe_tyN .list (T.b 86 rfl) bb_list) pa_nil))))) (pw_or1 (pt_cmpR op_ne (pe_bi c_len (T.b 85 rfl) bb_len (pa_cons (pv 1) pa_nil)) (pe_bi c_len (T.b 85 rfl) bb_len (pa_cons (pe_ix (o_ixK K) (pv 0) pe_int (fun _ _ => rfl)) pa_nil)) (nomark _))))) (pss_one ps_never) pss_nil)
    (pss_one (ps_for PassesOwn.never rfl (pi_list (pv 1)) (pg_name (i := 2) sc_look_at_adds.nd rfl (.inl rfl))
    (pss_one (ps_if (pt_not (pt_val (pe_ownK K 0 G_is_length (hr.mono (by decide)) pass0 (pa_cons (pv 2) pa_nil)))) (pss_one ps_never) pss_nil))))), (by (try dsimp only [cxOf]); infer_instance), ?_⟩
  obtain ⟨w', qs, rfl, h1, h2, h⟩ := h
  walk_at "d"
  rw [h1]
  walk_at "d"
  refine ⟨fun i r _ => J_adds w' qs r, ⟨none, rfl⟩, fun _ _ _ _ => trivial, ?_, ?_⟩
  · rintro i d r m' hi ⟨o, rfl⟩
    rw [List.getElem?_map] at hi
    cases e : qs[i]? with
    | none => rw [e] at hi; cases hi
    | some q =>
      rw [e] at hi
      cases hi
      walk_at "d"
      refine ⟨q, rfl, h2 q (List.mem_of_getElem? e), ?_⟩
      walk_at "d"
      exact ⟨_, rfl⟩
  · rintro r m' ⟨o, rfl⟩
    exact h
end FC
/-! THE MATHEMATICS, 3: takings, ways. -/
namespace FC
open PySem PySem.Spec L2
def wtOf (w : Web) (k : Nat) : Rat := match w.ties[k]? with
  | some t => t.worth.getD 0
  | none => 0
def Free (w : Web) (k : Nat) : Prop := ∃ t q, w.ties[k]? = some t ∧ t.worth = some q
def worthL (w : Web) (ks : List Nat) : Rat := sumF 0 (ks.map (wtOf w))
def freeB (w : Web) (k : Nat) : Bool := match w.ties[k]? with
  | some t => t.worth.isSome
  | none => false
theorem freeB_iff (w : Web) (k : Nat) : freeB w k = true ↔ Free w k := by
  unfold freeB Free
  cases e : w.ties[k]? with
  | none => simp
  | some t =>
    cases e2 : t.worth with
    | none => simp [e2]
    | some q => simp [e2]
theorem Free.lt {w : Web} {k : Nat} (h : Free w k) : k < w.ties.length := by
  obtain ⟨t, q, h, _⟩ := h
  exact (List.getElem?_eq_some_iff.mp h).1
theorem Free.sz {w : Web} {k : Nat} (hw : WebOk w) (h : Free w k) : 0 < wtOf w k ∧ Sz 1 (wtOf w k) := by
  obtain ⟨t, q, h1, h2⟩ := h
  have e : wtOf w k = q := by unfold wtOf; rw [h1]; show t.worth.getD 0 = q; rw [h2]; rfl
  rw [e]
  exact (hw.tie t (List.mem_of_getElem? h1)).worth q h2
theorem worthL_snoc (w : Web) (ks : List Nat) (k : Nat) : worthL w (ks ++ [k]) = worthL w ks + wtOf w k := by
  unfold worthL
  rw [List.map_append, sumF_append]
  congr 1
  show sumF (0 + wtOf w k) [] = _
  show 0 + wtOf w k = _
  rw [Rat.zero_add]
/-- those of some ties that can be taken -/
def askB (w : Web) (purse : Rat) (taken kept : List Nat) (k : Nat) : Bool := freeB w k && (decide (k ∉ taken) && (decide (k ∉ kept) && !decide (purse < worthL w (taken ++ [k]))))
def askL (w : Web) (purse : Rat) (ties taken kept : List Nat) : List Nat := ties.filter (askB w purse taken kept)
/-! ### ways -/
def behT (t : Tie) (p : Str) : Option Str := if t.one = p then some t.other else if t.other = p ∧ t.both = true then some t.one else none
def optS : Option Str → D
  | some p => .str p
  | none => .non
/-- where one comes to by the next thing of a list, ps and p the places come to -/
def stepD (w : Web) (ps : List Str) (p : Str) : D → Option Str
  | .int i => if p = w.last then none else if 0 ≤ i ∧ i < (w.ties.length : Int) then match w.ties[i.toNat]? with
    | some t => match behT t p with
      | some p' => if p' ∈ ps ++ [p] then none else some p'
      | none => none
    | none => none
    else none
  | _ => none
def goneP (w : Web) : List Str → Str → List D → List Str × Str
  | ps, p, [] => (ps, p)
  | ps, p, d :: r => match stepD w ps p d with
    | some p' => goneP w (ps ++ [p]) p' r
    | none => (ps, p)
def isWayL (w : Web) (ds : List D) : Bool := decide (ds.length = (goneP w [] w.first ds).1.length ∧ (goneP w [] w.first ds).2 = w.last)
def isWayD (w : Web) : D → Bool
  | .lst ds => isWayL w ds
  | _ => false
/-- from a place along ties -/
def walkTo (w : Web) : Str → List Nat → Option Str
  | p, [] => some p
  | p, k :: r => match w.ties[k]? with
    | some t => match behT t p with
      | some p' => walkTo w p' r
      | none => none
    | none => none
theorem goneP_len (w : Web) : ∀ (ds : List D) (ps : List Str) (p : Str), (goneP w ps p ds).1.length ≤ ps.length + ds.length
  | [], ps, p => Nat.le_refl _
  | d :: r, ps, p => by
    unfold goneP
    split
    · rename_i p' _
      have h := goneP_len w r (ps ++ [p]) p'
      rw [List.length_append, List.length_singleton] at h
      rw [List.length_cons]
      omega
    · exact Nat.le_add_right _ _
/-- what a way is -/
theorem goneP_walk (w : Web) : ∀ (ds : List D) (ps : List Str) (p : Str), (goneP w ps p ds).1.length = ps.length + ds.length → ∃ ks : List Nat, ds = ks.map (fun k => D.int (k : Nat)) ∧ (∀ k ∈ ks, k < w.ties.length) ∧ walkTo w p ks = some (goneP w ps p ds).2
  | [], ps, p, _ => ⟨[], rfl, (fun _ h => nomatch h), rfl⟩
  | d :: r, ps, p, h => by
    unfold goneP at h ⊢
    cases e : stepD w ps p d with
    | none =>
      rw [e] at h
      have h : ps.length = ps.length + (r.length + 1) := h
      omega
    | some p' =>
      rw [e] at h
      have h : (goneP w (ps ++ [p]) p' r).1.length = ps.length + (r.length + 1) := h
      obtain ⟨ks, rfl, h2, h3⟩ := goneP_walk w r (ps ++ [p]) p' (by rw [h, List.length_append, List.length_singleton]; omega)
      unfold stepD at e
      split at e
      · rename_i i
        split at e
        · cases e
        · split at e
          · rename_i hi
            split at e
            · rename_i t ht
              split at e
              · rename_i p2 hb
                split at e
                · cases e
                · cases e
                  refine ⟨i.toNat :: ks, ?_, fun k hk => ?_, ?_⟩
                  · rw [List.map_cons, Int.toNat_of_nonneg hi.1]
                  · rcases List.mem_cons.mp hk with rfl | hk
                    · exact (List.getElem?_eq_some_iff.mp ht).1
                    · exact h2 k hk
                  · show (match w.ties[i.toNat]? with | some t => (match behT t p with | some p' => walkTo w p' ks | none => none) | none => none) = _
                    rw [ht]
                    show (match behT t p with | some p' => walkTo w p' ks | none => none) = _
                    rw [hb]
                    exact h3
              · cases e
            · cases e
          · cases e
      · cases e
theorem behT_in {ps : List Str} {t : Tie} {p p' : Str} (ht : TieOk ps t) (h : behT t p = some p') : p' ∈ ps := by
  unfold behT at h
  split at h
  · cases h; exact ht.other
  · split at h
    · cases h; exact ht.one
    · cases h
theorem goneP_nd (w : Web) (hw : WebOk w) : ∀ (ds : List D) (ps : List Str) (p : Str), (ps ++ [p]).Nodup → (∀ z ∈ ps ++ [p], z ∈ w.places) → ((goneP w ps p ds).1 ++ [(goneP w ps p ds).2]).Nodup ∧ ∀ z ∈ (goneP w ps p ds).1 ++ [(goneP w ps p ds).2], z ∈ w.places
  | [], ps, p, h1, h2 => ⟨h1, h2⟩
  | d :: r, ps, p, h1, h2 => by
    unfold goneP
    cases e : stepD w ps p d with
    | none => exact ⟨h1, h2⟩
    | some p' =>
      unfold stepD at e
      split at e
      · split at e
        · cases e
        · split at e
          · split at e
            · rename_i t ht
              split at e
              · rename_i p2 hb
                split at e
                · cases e
                · rename_i hn
                  cases e
                  refine goneP_nd w hw r (ps ++ [p]) p' ?_ ?_
                  · refine List.nodup_append.mpr ⟨h1, by simp, fun a ha b hb e => ?_⟩
                    obtain rfl : b = p' := by simpa using hb
                    exact hn (e ▸ ha)
                  · intro z hz
                    rcases List.mem_append.mp hz with hz | hz
                    · exact h2 z hz
                    · obtain rfl : z = p' := by simpa using hz
                      exact behT_in (hw.tie t (List.mem_of_getElem? ht)) hb
              · cases e
            · cases e
          · cases e
      · cases e
/-- a way: numbers of ties, few, from first to last -/
theorem isWay_ok {w : Web} (hw : WebOk w) {d : D} (h : isWayD w d = true) : ∃ ks : List Nat, d = tk ks ∧ (∀ k ∈ ks, k < w.ties.length) ∧ ks.length ≤ 7 ∧ walkTo w w.first ks = some w.last := by
  cases d with
  | lst ds =>
    have h : isWayL w ds = true := h
    unfold isWayL at h
    obtain ⟨h1, h2⟩ := of_decide_eq_true h
    obtain ⟨ks, e1, e2, e3⟩ := goneP_walk w ds [] w.first (by rw [← h1]; simp)
    obtain ⟨n1, n2⟩ := goneP_nd w hw ds [] w.first (by simp) (fun z hz => by
      obtain rfl : z = w.first := by simpa using hz
      exact hw.first)
    have n3 := pigeon n1 n2
    rw [List.length_append, List.length_singleton, ← h1, e1, List.length_map] at n3
    refine ⟨ks, by rw [e1], e2, by have := hw.hi; omega, ?_⟩
    rw [e3, h2]
  | _ => cases h
/-! ### lengths under a lengthening -/
def addL (w : Web) (adds : List Rat) (T : List Nat) (k : Nat) : Rat := ((w.ties[k]?.map (·.len)).getD 0) + if k ∈ T then adds.getD k 0 else 0
def lenL (w : Web) (adds : List Rat) (T ks : List Nat) : Rat := sumF 0 (ks.map (addL w adds T))
end FC
/-! THE LOGIC, 7: more short rules; fields, methods, new instances. -/
namespace FC
open PySem PySem.Spec L2
section
variable {X : Cx} {e : Expr} {st : Stmt} {wi : TI} {g : TG} {tt : TT} {te : TE} {i : Nat}
theorem as_lc (vs : List Nat) (h : PE X e (tLc wi g tt te vs)) : PE X e (tLc wi g tt te vs) := h
theorem as_setLc (vs : List Nat) (h : PS X st (tAsg (tLc wi g tt te vs) (gName i))) : PS X st (tAsg (tLc wi g tt te vs) (gName i)) := h
end
/-! ### comprehensions point by point -/
theorem lc_opt {b : Bool} {di : DI} {dg : DG} {dt : DT} {de : DE} {vs : List Nat} {r : Rho} {m : Mu} {F : VP} (its : List D) (outs : List (Option D)) (c : Mu → Prop) (hd : ∀ G : List D → (Mu → Prop) → Mu → Prop, G its c m → di r m G) (hc : ∀ t, c (m ++ [t]))
    (hl : its.length = outs.length) (hs : its.length ≤ 100000)
    (he : ∀ (i : Nat) (d : D) (o : Option D) (acc : List D) (p : Addr) (G : VP) (E : Mu → Prop), its[i]? = some d → outs[i]? = some o → (∀ y, o = some y → G y (m ++ [(p, .l acc)])) → (o = none → E (m ++ [(p, .l acc)])) → dg d (wipeD r vs) fun r2 => dt r2 (m ++ [(p, .l acc)]) fun b m2 => if b = true then de r2 m2 G else E m2)
    (hF : lcRes b F (outs.filterMap id) m) : dLc b di dg dt de vs r m F := by
  refine hd _ ⟨fun i acc m' => m' = m ∧ acc = (outs.take i).filterMap id, ⟨rfl, rfl⟩, ?_, ?_, ?_⟩
  · rintro i acc m' ⟨rfl, rfl⟩
    refine ⟨?_, hc⟩
    have h1 := List.length_filterMap_le id (outs.take i)
    rw [List.length_take] at h1
    have h2 : (100000 : Nat) < sizeLine := by decide
    omega
  · rintro i d acc m' p hi ⟨rfl, rfl⟩
    have hlt : i < outs.length := by rw [← hl]; exact (List.getElem?_eq_some_iff.mp hi).1
    have e : outs[i]? = some outs[i] := List.getElem?_eq_getElem hlt
    have et : outs.take (i + 1) = outs.take i ++ [outs[i]] := List.take_succ_eq_append_getElem hlt
    refine he i d outs[i] _ p _ _ hi e ?_ ?_
    · intro y hy
      refine ⟨_, rfl, rfl, ?_⟩
      rw [et, List.filterMap_append, hy]
      rfl
    · intro hy
      refine ⟨_, rfl, rfl, ?_⟩
      rw [et, List.filterMap_append, hy]
      exact (List.append_nil _).symm
  · rintro acc m' ⟨rfl, rfl⟩
    rw [hl, List.take_length]
    exact hF
theorem fm_some {α β : Type} (xs : List α) (f : α → β) : (xs.map fun x => some (f x)).filterMap id = xs.map f := by
  induction xs with
  | nil => rfl
  | cons x r ih => rw [List.map_cons, List.map_cons, ← ih]; rfl
theorem lc_map {b : Bool} {α : Type} {di : DI} {dg : DG} {dt : DT} {de : DE} {vs : List Nat} {r : Rho} {m : Mu} {F : VP} (xs : List α) (g f : α → D) (c : Mu → Prop) (hd : ∀ G : List D → (Mu → Prop) → Mu → Prop, G (xs.map g) c m → di r m G) (hc : ∀ t, c (m ++ [t]))
    (hs : xs.length ≤ 100000)
    (he : ∀ x ∈ xs, ∀ (t : Addr × MO) (G : VP) (E : Mu → Prop), G (f x) (m ++ [t]) → dg (g x) (wipeD r vs) fun r2 => dt r2 (m ++ [t]) fun b m2 => if b = true then de r2 m2 G else E m2)
    (hF : lcRes b F (xs.map f) m) : dLc b di dg dt de vs r m F := by
  refine lc_opt (xs.map g) (xs.map fun x => some (f x)) c hd hc (by rw [List.length_map, List.length_map]) (by rw [List.length_map]; exact hs) ?_ (by rw [fm_some]; exact hF)
  intro i d o acc p G E h1 h2 h3 _
  rw [List.getElem?_map] at h1 h2
  cases e : xs[i]? with
  | none => rw [e] at h1; cases h1
  | some x =>
    rw [e] at h1 h2
    cases h1
    cases h2
    exact he x (List.mem_of_getElem? e) _ G E (h3 _ rfl)
end FC
/-! THE WALK, 3: takings, ways. -/
namespace FC
open PySem PySem.Spec L2
local macro_rules | `(tactic| walk_at "d") => `(tactic| try simp only [dVar, dC, dOp, dUn, dAdd, dSub, dMul, dMod, dDiv, dPow, dNeg, dCmp, dEq, dNe, dEqv, dIsN, dNotN, isNon, dIn, inD, dInM, dIx, ixDs, dIxM, dChain, dB, asB, dAnd, dOr, dNot, dAndV, dOrV, dNotV, dIf, dNil, dCons, dTup, dLst, dLstM, dDic0, dDicM, dDisp1,
  dCB, dLen, dLenM, dAbs, dMax2, dMin2, dInt, dBool, dStr, dList, dListN, dListM, dTuple, dSorted, dDicC, dIsi, tyD_non, tyD_bl, tyD_int, tyD_str, tyD_lst, tyD_tup, tyD_dic, dNoPart, asI, dPart, dSl, dRev, dApp, dPopI, dRem, dEqNil, dEqNilM, dGet, dDGetM, dDGet, dDInM, dDInA, dDPopM, dEqD0, dEqDM, dJoin, dNext, dSeq, dDrop, dRet, dIfS, dNever, dgName, dgNil, dgCons, dgTup, dAsg, dSubM, dDPutM, dPar, dAug, dFrz, frzD, dFgt,
  diLst, diTup, diLstM, diRng1, diRng2, diStr, diEnum, diZip, dYes, dCall, endsD, startD, wipeD, dom,
  isTy_0_0, isTy_0_1, isTy_0_2, isTy_0_3, isTy_0_4, isTy_1_0, isTy_1_1, isTy_1_2, isTy_1_3, isTy_1_4, isTy_2_0, isTy_2_1, isTy_2_2, isTy_2_3, isTy_2_4, isTy_3_0, isTy_3_1, isTy_3_2, isTy_3_3, isTy_3_4, isTy_4_0, isTy_4_1, isTy_4_2, isTy_4_3, isTy_4_4, isTy_5_0, isTy_5_1, isTy_5_2, isTy_5_3, isTy_5_4, isTy_6_0, isTy_6_1, isTy_6_2, isTy_6_3, isTy_6_4,
  Int.cast_ofNat_Int, decide_true, decide_false, Int.reduceEq, Int.reduceLT, Int.reduceLE, atI_0, atI_1, atI_2, atI_3, atI_4, List.length_map, List.map_cons, List.map_nil, List.length_cons, List.length_nil, Nat.reduceAdd, Nat.reduceSub, List.reduceReplicate, List.cons_append, List.nil_append, List.append_nil, List.getElem?_cons_zero, List.getElem?_cons_succ, List.getElem?_nil, List.set_cons_zero, List.set_cons_succ, List.take_zero, List.drop_zero, List.take_succ_cons, List.drop_succ_cons,
  List.eraseIdx_cons_zero, List.eraseIdx_cons_succ, true_and, and_true, eq_self, and_self, if_true, if_false, Bool.false_eq_true, reduceIte, Bool.not_true, Bool.not_false, forall_const, exists_eq_left, exists_eq_left', exists_eq_right, exists_eq_right', exists_and_left, exists_const, D.adr.injEq, D.str.injEq, D.int.injEq, D.lst.injEq, D.tup.injEq, D.bl.injEq, Option.some.injEq, Prod.mk.injEq, MO.l.injEq, MO.d.injEq, List.cons.injEq, Function.const_apply, List.not_mem_nil, false_implies, implies_true, List.mem_singleton, forall_eq, lcRes, exists_eq, exists_eq', List.length_append, List.length_singleton])

theorem tie_at {w : Web} {k : Nat} {t : Tie} (h : w.ties[k]? = some t) : (w.ties.map tieD)[k]? = some (tieD t) := by rw [List.getElem?_map, h]; rfl
theorem ints_at {ks : List Nat} {i : Nat} {d : D} (h : (ks.map fun k => D.int (k : Nat))[i]? = some d) : ∃ k, ks[i]? = some k ∧ d = .int (k : Nat) := by
  rw [List.getElem?_map] at h
  cases e : ks[i]? with
  | none => rw [e] at h; cases h
  | some k =>
    rw [e] at h
    cases h
    exact ⟨k, rfl, rfl⟩
abbrev S_worth_in : Spc := fun ds m F X => ∃ (w : Web) (ks : List Nat), ds = [webD w, tk ks] ∧ WebOk w ∧ (∀ k ∈ ks, Free w k) ∧ ks.length ≤ 60 ∧ F (fD (worthL w ks)) []
theorem sc_worth_in : FnScope ["web", "taking", "k"] ["web", "taking"] (defScope s_worth_in) := ⟨rfl, rfl, rfl, by decide +kernel, rfl, by decide +kernel, by decide +kernel⟩
theorem ok_worth_in {P : Program} {w : World} {K : PySem.W.Frag} {mg : Str → Option Value} {base : Heap} (T : Tx K mg) (G_sum_of : Fo P w K mg base CX0 4 "sum_of" ["some"] (spD K (NC K) 1 S_sum_of)) : Fo P w K mg base CX0 5 "worth_in" ["web", "taking"] (spD K (NC K) 2 S_worth_in) := by
  refine Fo.mk_ T 19 18 rfl rfl rfl rfl rfl (fun _ _ _ _ _ _ us hl => match us, hl with | [_, _], _ => rfl) fun f fd F => ok_pure 0 F sc_worth_in rfl fun cdv A outer s H E I m ds Fv X hr h => ?_
  refine ⟨_, _, (pss_one (ps_ret (pe_ownK K 0 G_sum_of (hr.mono (by decide)) pass0 (pa_cons (as_lc [2] (pe_lc (own := [("k", 2)]) rfl sc_worth_in.nd (pi_list (pv 1)) (blkOk_by (own := [("k", 2)]) (N := ["web", "taking", "k"]) (sc := defScope s_worth_in) (by decide +kernel)) (fun _ _ _ _ _ => (pg_name (i := 2) sc_worth_in.nd rfl (.inl rfl))) (fun _ _ _ _ _ => pts_nil) (fun _ _ _ _ _ => (pe_ix (o_ixK K) (pe_ix (o_ixK K) (pe_ix (o_ixK K) (pv 0) pe_int (fun _ _ => rfl)) (pv 2) (fun _ _ => rfl)) pe_int (fun _ _ => rfl))))) pa_nil)))), (by (try dsimp only [cxOf]); infer_instance), ?_⟩
  obtain ⟨w', ks, rfl, hw, hk, hl, h⟩ := h
  walk_at "d"
  refine lc_map ks (fun k => .int (k : Nat)) (fun k => fD (wtOf w' k)) anyMu (fun G h => ?_) (fun _ => trivial) (by omega) ?_ ?_
  · walk_at "d"
    exact h
  · intro k hkm t G E hG
    obtain ⟨t, q, h1, h2⟩ := hk k hkm
    have e : wtOf w' k = q := by unfold wtOf; rw [h1]; show t.worth.getD 0 = q; rw [h2]; rfl
    rw [e] at hG
    walk_at "d"
    rw [atN (tie_at h1)]
    walk_at "d"
    rw [h2]
    exact hG
  · walk_at "d"
    refine ⟨ks.map (wtOf w'), 1, by rw [List.map_map]; rfl, fun p hp => ?_, by decide, by rw [List.length_map]; omega, by decide, h⟩
    obtain ⟨k, h1, rfl⟩ := List.mem_map.mp hp
    exact ((hk k h1).sz hw).2
abbrev S_fits : Spc := fun ds m F X => ∃ (w : Web) (ks : List Nat) (q : Rat), ds = [webD w, tk ks, fD q] ∧ WebOk w ∧ (∀ k ∈ ks, Free w k) ∧ ks.length ≤ 60 ∧ Sz 20 q ∧ F (.bl (!decide (q < worthL w ks))) []
theorem worthL_sz {w : Web} (hw : WebOk w) {ks : List Nat} (hk : ∀ k ∈ ks, Free w k) (hl : ks.length ≤ 60) : Sz 61 (worthL w ks) := by
  have h := Sz.sum (k := 1) (by decide) (ks.map (wtOf w)) sz0 (by decide) (fun q hq => by
    obtain ⟨k, h1, rfl⟩ := List.mem_map.mp hq
    exact ((hk k h1).sz hw).2)
  rw [List.length_map] at h
  exact h.mono (by omega)
theorem sc_fits : FnScope ["web", "taking", "purse"] ["web", "taking", "purse"] (defScope s_fits) := ⟨rfl, rfl, rfl, by decide +kernel, rfl, by decide +kernel, by decide +kernel⟩
theorem ok_fits {P : Program} {w : World} {K : PySem.W.Frag} {mg : Str → Option Value} {base : Heap} (T : Tx K mg) (G_is_less : Fo P w K mg base CX0 1 "is_less" ["one", "other"] (spD K (NC K) 2 S_is_less)) (G_worth_in : Fo P w K mg base CX0 5 "worth_in" ["web", "taking"] (spD K (NC K) 2 S_worth_in)) : Fo P w K mg base CX0 6 "fits" ["web", "taking", "purse"] (spD K (NC K) 3 S_fits) := by
  refine Fo.mk_ T 20 19 rfl rfl rfl rfl rfl (fun _ _ _ _ _ _ us hl => match us, hl with | [_, _, _], _ => rfl) fun f fd F => ok_pure 0 F sc_fits rfl fun cdv A outer s H E I m ds Fv X hr h => ?_
  refine ⟨_, _, (pss_one (ps_ret (pe_not (pe_ownK K 0 G_is_less (hr.mono (by decide)) pass0 (pa_cons (pv 2) (pa_cons (pe_ownK K 0 G_worth_in (hr.mono (by decide)) pass0 (pa_cons (pv 0) (pa_cons (pv 1) pa_nil))) pa_nil)))))), (by (try dsimp only [cxOf]); infer_instance), ?_⟩
  obtain ⟨w', ks, q, rfl, hw, hk, hl, hq, h⟩ := h
  walk_at "d"
  refine ⟨w', ks, rfl, hw, hk, hl, ?_⟩
  walk_at "d"
  refine ⟨q, worthL w' ks, 20, 61, rfl, hq, worthL_sz hw hk hl, by decide, by decide, by decide, ?_⟩
  walk_at "d"
  exact h
abbrev S_askable : Spc := fun ds m F X => ∃ (w : Web) (purse : Rat) (ks T Kp : List Nat), ds = [webD w, fD purse, tk ks, tk T, tk Kp] ∧ m = [] ∧ WebOk w ∧ Sz 20 purse ∧ (∀ k ∈ ks, k < w.ties.length) ∧ ks.length ≤ 1000 ∧ (∀ k ∈ T, Free w k) ∧ T.length ≤ 50 ∧ F (tk (askL w purse ks T Kp)) []
def J_ask (w : Web) (purse : Rat) (ks T Kp : List Nat) (i : Nat) (r : Rho) (m : Mu) : Prop := ∃ (a : Addr) (o : Option D), r = [some (webD w), some (fD purse), some (tk ks), some (tk T), some (tk Kp), some (.adr a), o] ∧ m = [(a, .l ((askL w purse (ks.take i) T Kp).map fun k => .int (k : Nat)))]
theorem sc_askable : FnScope ["web", "purse", "ties", "taken", "kept", "found", "tie"] ["web", "purse", "ties", "taken", "kept"] (defScope s_askable) := ⟨rfl, rfl, rfl, by decide +kernel, rfl, by decide +kernel, by decide +kernel⟩
theorem ok_askable {P : Program} {w : World} {K : PySem.W.Frag} {mg : Str → Option Value} {base : Heap} (T : Tx K mg) (G_fits : Fo P w K mg base CX0 6 "fits" ["web", "taking", "purse"] (spD K (NC K) 3 S_fits)) : Fo P w K mg base CX0 7 "askable" ["web", "purse", "ties", "taken", "kept"] (spD K (NC K) 5 S_askable) := by
  refine Fo.mk_ T 22 21 rfl rfl rfl rfl rfl (fun _ _ _ _ _ _ us hl => match us, hl with | [_, _, _, _, _], _ => rfl) fun f fd F => ok_pure 0 F sc_askable rfl fun cdv A outer s H E I m ds Fv X hr h => ?_
  refine ⟨_, _, (pss_cons (ps_set (i := 5) sc_askable.nd rfl (.inl rfl) (pe_lstM pa_nil))
    (pss_cons (ps_for PassesOwn.never rfl (pi_list (pv 2)) (pg_name (i := 6) sc_askable.nd rfl (.inl rfl))
    (pss_one (ps_if (PW.pt (pw_and (pt_cmpR o_isnot (pe_ix (o_ixK K) (pe_ix (o_ixK K) (pe_ix (o_ixK K) (pv 0) pe_int (fun _ _ => rfl)) (pv 6) (fun _ _ => rfl)) pe_int (fun _ _ => rfl)) pe_non (nomark _)) (pw_and (pt_cmpR (o_ninK K) (pv 6) (pv 3) (by rfl)) (pw_and (pt_cmpR (o_ninK K) (pv 6) (pv 4) (by rfl)) (pw_and1 (pt_val (pe_ownK K 0 G_fits (hr.mono (by decide)) pass0 (pa_cons (pv 0) (pa_cons (pe_op o_add (pv 3) (pe_lst (pa_cons (pv 6) pa_nil))) (pa_cons (pv 1) pa_nil)))))))))) (pss_one (ps_expr (as_app 0 (pe_bm PySem.F.plainAttrs_list PySem.F.slot_list_append PySem.F.type_list_append mt_append (pv 5) (pa_cons (pv 6) pa_nil))))) pss_nil)))
    (pss_frz 5 0 (pss_one (ps_ret (pv 5)))))), (by (try dsimp only [cxOf]); infer_instance), ?_⟩
  obtain ⟨w', purse, ks, T', Kp, rfl, rfl, hw, hp, hk, hkn, hT, hTl, h⟩ := h
  walk_at "d"
  refine ⟨Nat.zero_le _, fun a => ⟨fun i r m => J_ask w' purse ks T' Kp i r m, ⟨a, none, rfl, rfl⟩, fun _ _ _ _ => trivial, ?_, ?_⟩⟩
  · rintro i d r m' hi ⟨a, o, rfl, rfl⟩
    obtain ⟨k, hik, rfl⟩ := ints_at hi
    obtain ⟨hlt, ek⟩ := List.getElem?_eq_some_iff.mp hik
    have hkl := hk k (List.mem_of_getElem? hik)
    have ht : w'.ties[k]? = some w'.ties[k] := List.getElem?_eq_getElem hkl
    have et : askL w' purse (ks.take (i + 1)) T' Kp = askL w' purse (ks.take i) T' Kp ++ (if askB w' purse T' Kp k then [k] else []) := by
      unfold askL
      rw [List.take_succ_eq_append_getElem hlt, ek, List.filter_append]
      congr 1
      cases z : askB w' purse T' Kp k with
      | true => rw [List.filter_cons_of_pos z]; rfl
      | false => rw [List.filter_cons_of_neg (by rw [z]; decide)]; rfl
    have no : askB w' purse T' Kp k = false → J_ask w' purse ks T' Kp (i + 1) [some (webD w'), some (fD purse), some (tk ks), some (tk T'), some (tk Kp), some (.adr a), some (.int (k : Nat))] [(a, .l ((askL w' purse (ks.take i) T' Kp).map fun k => .int (k : Nat)))] := fun z => by
      refine ⟨a, _, rfl, ?_⟩
      rw [et, z, if_neg Bool.false_ne_true, List.append_nil]
    walk_at "d"
    rw [atN (tie_at ht)]
    walk_at "d"
    cases hwt : w'.ties[k].worth with
    | none =>
      rw [worthD_none]
      walk_at "d"
      refine no ?_
      unfold askB freeB
      rw [ht]
      show (Option.isSome w'.ties[k].worth && _) = _
      rw [hwt]
      rfl
    | some q =>
      have hf : Free w' k := ⟨_, q, ht, hwt⟩
      have hfb : freeB w' k = true := (freeB_iff w' k).mpr hf
      rw [worthD_some]
      walk_at "d"
      rw [inDs_tk]
      walk_at "d"
      by_cases h1 : k ∈ T'
      · rw [decide_eq_true h1]
        walk_at "d"
        refine no ?_
        unfold askB
        rw [decide_eq_false (fun z => z h1), Bool.false_and, Bool.and_false]
      · rw [decide_eq_false h1]
        walk_at "d"
        rw [inDs_tk]
        walk_at "d"
        by_cases h2 : k ∈ Kp
        · rw [decide_eq_true h2]
          walk_at "d"
          refine no ?_
          unfold askB
          rw [decide_eq_false (fun z : k ∉ Kp => z h2), Bool.false_and, Bool.and_false, Bool.and_false]
        · rw [decide_eq_false h2]
          walk_at "d"
          have ea : (T'.map fun k => D.int (k : Nat)) ++ [.int (k : Nat)] = (T' ++ [k]).map fun k => D.int (k : Nat) := by rw [List.map_append]; rfl
          have eb : askB w' purse T' Kp k = !decide (purse < worthL w' (T' ++ [k])) := by
            unfold askB
            rw [hfb, decide_eq_true h1, decide_eq_true h2]
            rfl
          rw [ea]
          refine ⟨sl100 (by decide), sl100 (by omega), w', T' ++ [k], purse, rfl, hw, fun j hj => ?_, by rw [List.length_append, List.length_singleton]; omega, hp, ?_⟩
          · rcases List.mem_append.mp hj with hj | hj
            · exact hT j hj
            · obtain rfl : j = k := by simpa using hj
              exact hf
          rw [← eb]
          walk_at "d"
          split
          · rename_i hb
            have hln : (askL w' purse (ks.take i) T' Kp).length ≤ 1000 := by
              have h5 := List.length_filter_le (askB w' purse T' Kp) (ks.take i)
              have h6 := List.length_take_le i ks
              unfold askL
              rw [List.length_take] at h5
              omega
            refine ⟨Nat.lt_of_le_of_lt hln (by decide), a, _, rfl, ?_⟩
            rw [et, hb, if_pos rfl, List.map_append]
            rfl
          · rename_i hb
            exact no (Bool.eq_false_iff.mpr hb)
  · rintro r m' ⟨a, o, rfl, rfl⟩
    rw [List.length_map, List.take_length]
    walk_at "d"
    exact h
abbrev S_behind : Spc := fun ds m F X => ∃ (t : Tie) (p : Str), ds = [tieD t, .str p] ∧ F (optS (behT t p)) []
theorem bothW_eq (b : Bool) : decide (bothW b = "both") = b := by cases b <;> decide +kernel
theorem sc_behind : FnScope ["tie", "place"] ["tie", "place"] (defScope s_behind) := ⟨rfl, rfl, rfl, by decide +kernel, rfl, by decide +kernel, by decide +kernel⟩
theorem ok_behind {P : Program} {w : World} {K : PySem.W.Frag} {mg : Str → Option Value} {base : Heap} (T : Tx K mg) : Fo P w K mg base CX0 1 "behind" ["tie", "place"] (spD K (NC K) 2 S_behind) := by
  refine Fo.mk_ T 25 24 rfl rfl rfl rfl rfl (fun _ _ _ _ _ _ us hl => match us, hl with | [_, _], _ => rfl) fun f fd F => ok_pure 0 F sc_behind rfl fun cdv A outer s H E I m ds Fv X hr h => ?_
  refine ⟨_, _, (pss_cons (ps_if (pt_cmpR op_eq (pe_ix (o_ixK K) (pv 0) pe_int (fun _ _ => rfl)) (pv 1) (nomark _)) (pss_one (ps_ret (pe_ix (o_ixK K) (pv 0) pe_int (fun _ _ => rfl)))) pss_nil)
    (pss_cons (ps_if (PW.pt (pw_and (pt_cmpR op_eq (pe_ix (o_ixK K) (pv 0) pe_int (fun _ _ => rfl)) (pv 1) (nomark _)) (pw_and1 (pt_cmpR op_eq (pe_ix (o_ixK K) (pv 0) pe_int (fun _ _ => rfl)) pe_str (nomark _))))) (pss_one (ps_ret (pe_ix (o_ixK K) (pv 0) pe_int (fun _ _ => rfl)))) pss_nil)
    (pss_one (ps_ret pe_non)))), (by (try dsimp only [cxOf]); infer_instance), ?_⟩
  obtain ⟨t, p, rfl, h⟩ := h
  walk_at "d"
  rw [bothW_eq]
  unfold behT at h
  by_cases h1 : t.one = p
  · rw [if_pos h1] at h
    rw [if_pos (decide_eq_true h1)]
    exact h
  · rw [if_neg h1] at h
    rw [if_neg (by simpa using h1)]
    by_cases h2 : t.other = p
    · rw [if_pos (decide_eq_true h2)]
      cases hb : t.both with
      | true =>
        rw [hb, if_pos ⟨h2, rfl⟩] at h
        exact h
      | false =>
        rw [hb, if_neg (fun z => nomatch z.2)] at h
        exact h
    · rw [if_neg (by simpa using h2)]
      rw [if_neg (fun z => h2 z.1)] at h
      exact h
abbrev S_gone_along : Spc := fun ds m F X => ∃ (w : Web) (es : List D), ds = [webD w, .lst [], .lst es] ∧ m = [] ∧ WebOk w ∧ (∀ d ∈ es, (tyD d).isSome = true) ∧ es.length ≤ 1000 ∧ F (.lst (((goneP w [] w.first es).1 ++ [(goneP w [] w.first es).2]).map .str)) []
theorem goneP_cons (w : Web) (ps : List Str) (p : Str) (d : D) (r : List D) : goneP w ps p (d :: r) = (match stepD w ps p d with | some p' => goneP w (ps ++ [p]) p' r | none => (ps, p)) := rfl
def J_gone (w : Web) (es : List D) (i : Nat) (r : Rho) (m : Mu) : Prop := ∃ (a : Addr) (o1 o2 : Option D) (ps : List Str) (p : Str), r = [some (webD w), some (.lst []), some (.lst es), some (.adr a), o1, o2] ∧ m = [(a, .l (ps.map .str ++ [.str p]))] ∧ ps.length ≤ i ∧ goneP w ps p (es.drop i) = goneP w [] w.first es
theorem sc_gone_along : FnScope ["web", "taken", "thing", "places", "number", "place"] ["web", "taken", "thing"] (defScope s_gone_along) := ⟨rfl, rfl, rfl, by decide +kernel, rfl, by decide +kernel, by decide +kernel⟩
theorem ok_gone_along {P : Program} {w : World} {K : PySem.W.Frag} {mg : Str → Option Value} {base : Heap} (T : Tx K mg) (G_is_tie_number : Fo P w K mg base CX0 2 "is_tie_number" ["web", "thing"] (spD K (NC K) 2 S_is_tie_number)) (G_behind : Fo P w K mg base CX0 1 "behind" ["tie", "place"] (spD K (NC K) 2 S_behind)) : Fo P w K mg base CX0 3 "gone_along" ["web", "taken", "thing"] (spD K (NC K) 3 S_gone_along) := by
  refine Fo.mk_ T 26 25 rfl rfl rfl rfl rfl (fun _ _ _ _ _ _ us hl => match us, hl with | [_, _, _], _ => rfl) fun f fd F => ok_pure 0 F sc_gone_along rfl fun cdv A outer s H E I m ds Fv X hr h => ?_
  refine ⟨_, _, (pss_cons (ps_set (i := 3) sc_gone_along.nd rfl (.inl rfl) (pe_lstM (pa_cons (pe_ix (o_ixK K) (pv 0) pe_int (fun _ _ => rfl)) pa_nil)))
    (pss_cons (ps_for PassesOwn.never rfl (pi_list (pv 2)) (pg_name (i := 4) sc_gone_along.nd rfl (.inl rfl))
    (pss_cons (ps_if (PW.pt (pw_or (pt_cmpR op_eq (pe_ix (o_ixM 0) (pv 3) (pe_un o_neg pe_int) (fun _ _ => rfl)) (pe_ix (o_ixK K) (pv 0) pe_int (fun _ _ => rfl)) (nomark _)) (pw_or (pt_not (pt_val (pe_ownK K 0 G_is_tie_number (hr.mono (by decide)) pass0 (pa_cons (pv 0) (pa_cons (pv 4) pa_nil))))) (pw_or1 (pt_cmpR (o_inK K) (pv 4) (pv 1) (by rfl)))))) (pss_frz 3 0 (pss_one (ps_ret (pv 3)))) pss_nil)
    (pss_cons (ps_set (i := 5) sc_gone_along.nd rfl (.inl rfl) (pe_ownK K 0 G_behind (hr.mono (by decide)) pass0 (pa_cons (pe_ix (o_ixK K) (pe_ix (o_ixK K) (pv 0) pe_int (fun _ _ => rfl)) (pv 4) (fun _ _ => rfl)) (pa_cons (pe_ix (o_ixM 0) (pv 3) (pe_un o_neg pe_int) (fun _ _ => rfl)) pa_nil))))
    (pss_cons (ps_if (PW.pt (pw_or (pt_cmpR o_is (pv 5) pe_non (nomark _)) (pw_or1 (pt_cmpR (o_inM 0) (pv 5) (pv 3) (by rfl))))) (pss_frz 3 0 (pss_one (ps_ret (pv 3)))) pss_nil)
    (pss_one (ps_expr (as_app 0 (pe_bm PySem.F.plainAttrs_list PySem.F.slot_list_append PySem.F.type_list_append mt_append (pv 3) (pa_cons (pv 5) pa_nil)))))))))
    (pss_frz 3 0 (pss_one (ps_ret (pv 3)))))), (by (try dsimp only [cxOf]); infer_instance), ?_⟩
  obtain ⟨w', es, rfl, rfl, hw, he, hl, h⟩ := h
  walk_at "d"
  refine ⟨sl100 (by decide), fun a => ⟨fun i r m => J_gone w' es i r m, ⟨a, none, none, [], _, rfl, rfl, Nat.zero_le _, rfl⟩, fun _ _ _ _ => trivial, ?_, ?_⟩⟩
  · rintro i d r m' hi ⟨a, o1, o2, ps, p, rfl, rfl, hpl, hg⟩
    obtain ⟨hlt, ed⟩ := List.getElem?_eq_some_iff.mp hi
    obtain ⟨ty, hty⟩ := Option.isSome_iff_exists.mp (he d (List.mem_of_getElem? hi))
    rw [List.drop_eq_getElem_cons hlt, ed] at hg
    rw [goneP_cons] at hg
    have stop : stepD w' ps p d = none → Fv (.lst (ps.map .str ++ [.str p])) [] := fun z => by
      rw [z] at hg
      rw [← hg, List.map_append] at h
      exact h
    have on : ∀ p' o1 o2, stepD w' ps p d = some p' → J_gone w' es (i + 1) [some (webD w'), some (.lst []), some (.lst es), some (.adr a), o1, o2] [(a, .l (ps.map .str ++ [.str p] ++ [.str p']))] := fun p' o1 o2 z => by
      rw [z] at hg
      refine ⟨a, o1, o2, ps ++ [p], p', rfl, ?_, ?_, hg⟩
      · rw [List.map_append]
        rfl
      · rw [List.length_append, List.length_singleton]
        omega
    walk_at "d"
    rw [atI_last]
    walk_at "d"
    by_cases h1 : p = w'.last
    · rw [decide_eq_true h1]
      walk_at "d"
      refine stop ?_
      unfold stepD
      split
      · rw [if_pos h1]
      · rfl
    · rw [decide_eq_false h1]
      walk_at "d"
      refine ⟨w', d, ty, rfl, hty, ?_⟩
      walk_at "d"
      cases d with
      | int j =>
        by_cases h2 : 0 ≤ j ∧ j < (w'.ties.length : Int)
        · rw [show tieNo w'.ties.length (.int j) = true from decide_eq_true h2]
          walk_at "d"
          rw [show inDs (.int j) [] = some false from rfl]
          walk_at "d"
          obtain ⟨k, rfl⟩ := Int.eq_ofNat_of_zero_le h2.1
          have hkl : k < w'.ties.length := by omega
          have ht : w'.ties[k]? = some w'.ties[k] := List.getElem?_eq_getElem hkl
          rw [atN (tie_at ht)]
          walk_at "d"
          rw [atI_last]
          walk_at "d"
          refine ⟨_, _, rfl, ?_⟩
          walk_at "d"
          have es : stepD w' ps p (.int (k : Nat)) = (match behT w'.ties[k] p with | some p' => if p' ∈ ps ++ [p] then none else some p' | none => none) := by
            show (if p = w'.last then none else if 0 ≤ (k : Int) ∧ (k : Int) < (w'.ties.length : Int) then match w'.ties[(k : Int).toNat]? with | some t => (match behT t p with | some p' => if p' ∈ ps ++ [p] then none else some p' | none => none) | none => none else none) = _
            rw [if_neg h1, if_pos h2, Int.toNat_natCast, ht]
          cases hb : behT w'.ties[k] p with
          | none =>
            rw [show optS none = D.non from rfl]
            walk_at "d"
            refine stop ?_
            rw [es, hb]
          | some p' =>
            rw [show optS (some p') = D.str p' from rfl]
            walk_at "d"
            rw [show ps.map D.str ++ [D.str p] = (ps ++ [p]).map .str by rw [List.map_append]; rfl, inDs_str]
            walk_at "d"
            by_cases h3 : p' ∈ ps ++ [p]
            · rw [decide_eq_true h3]
              walk_at "d"
              rw [List.map_append]
              refine stop ?_
              rw [es, hb]
              show (if p' ∈ ps ++ [p] then none else some p') = none
              rw [if_pos h3]
            · rw [decide_eq_false h3]
              walk_at "d"
              refine ⟨Nat.lt_of_le_of_lt (m := 1000) (by omega) (by decide), ?_⟩
              rw [List.map_append]
              refine on p' _ _ ?_
              rw [es, hb]
              show (if p' ∈ ps ++ [p] then none else some p') = some p'
              rw [if_neg h3]
        · rw [show tieNo w'.ties.length (.int j) = false from decide_eq_false h2]
          walk_at "d"
          refine stop ?_
          show (if p = w'.last then none else if 0 ≤ j ∧ j < (w'.ties.length : Int) then _ else none) = _
          rw [if_neg h1, if_neg h2]
      | _ => exact stop rfl
  · rintro r m' ⟨a, o1, o2, ps, p, rfl, rfl, hpl, hg⟩
    rw [List.drop_length] at hg
    walk_at "d"
    rw [← hg, List.map_append] at h
    exact h
end FC
/-! THE MATHEMATICS, 4: the least ahead, how many at once. -/
namespace FC
open PySem PySem.Spec L2
def minQ : Rat → List Rat → Rat
  | q, [] => q
  | q, p :: r => minQ (if p < q then p else q) r
theorem minQ_mem : ∀ (r : List Rat) (q : Rat), minQ q r = q ∨ minQ q r ∈ r
  | [], q => .inl rfl
  | p :: r, q => by
    have e : minQ q (p :: r) = minQ (if p < q then p else q) r := rfl
    rw [e]
    split
    · rcases minQ_mem r p with h | h
      · rw [h]
        exact .inr List.mem_cons_self
      · exact .inr (List.mem_cons_of_mem _ h)
    · rcases minQ_mem r q with h | h
      · rw [h]
        exact .inl rfl
      · exact .inr (List.mem_cons_of_mem _ h)
def minL : List Rat → Rat
  | [] => 0
  | q :: r => minQ q (q :: r)
theorem minL_mem {l : List Rat} (h : l ≠ []) : minL l ∈ l := by
  cases l with
  | nil => exact absurd rfl h
  | cons q r =>
    rcases minQ_mem (q :: r) q with e | e
    · show minQ q (q :: r) ∈ _
      rw [e]
      exact List.mem_cons_self
    · exact e
def selF : Nat → List Rat → List Rat
  | 0, _ => []
  | n + 1, l => minL l :: selF n (l.erase (minL l))
/-- the least one ahead, again and again -/
def selq (l : List Rat) : List Rat := selF l.length l
theorem selq_step {l : List Rat} (h : l ≠ []) : selq l = minL l :: selq (l.erase (minL l)) := by
  unfold selq
  rw [List.length_erase_of_mem (minL_mem h)]
  cases l with
  | nil => exact absurd rfl h
  | cons q r => rfl
theorem selF_len : ∀ n l, (selF n l).length = n
  | 0, _ => rfl
  | n + 1, l => congrArg (· + 1) (selF_len n _)
theorem selF_mem : ∀ (n : Nat) (l : List Rat), l.length = n → ∀ q ∈ selF n l, q ∈ l
  | 0, _, _, _, h => nomatch h
  | n + 1, l, hl, q, h => by
    have hn : l ≠ [] := fun z => by rw [z] at hl; cases hl
    rcases List.mem_cons.mp h with rfl | h
    · exact minL_mem hn
    · exact List.mem_of_mem_erase (selF_mem n _ (by rw [List.length_erase_of_mem (minL_mem hn), hl]; rfl) q h)
def cnt : List Rat → Rat → Rat → Nat
  | [], _, _ => 0
  | q :: r, s, p => if p < s + q then 0 else 1 + cnt r (s + q) p
theorem cnt_le : ∀ (l : List Rat) (s p : Rat), cnt l s p ≤ l.length
  | [], _, _ => Nat.le_refl _
  | q :: r, s, p => by
    unfold cnt
    split
    · exact Nat.zero_le _
    · have := cnt_le r (s + q) p
      rw [List.length_cons]
      omega
/-- a purse for the first ones and for less than the next one whole -/
theorem cnt_purse : ∀ (l : List Rat) (k : Nat) (s p : Rat), (∀ q, l[k]? = some q → p < s + sumF 0 (l.take k) + q) → cnt l s p ≤ k
  | [], k, _, _, _ => Nat.zero_le _
  | q :: r, 0, s, p, h => by
    have h1 := h q rfl
    have e : s + sumF 0 ((q :: r).take 0) + q = s + q := by
      show s + 0 + q = _
      rw [Rat.add_zero]
    rw [e] at h1
    unfold cnt
    rw [if_pos h1]
    exact Nat.le_refl _
  | q :: r, k + 1, s, p, h => by
    unfold cnt
    split
    · exact Nat.zero_le _
    · have := cnt_purse r k (s + q) p fun x hx => by
        have h1 := h x hx
        rw [List.take_succ_cons, sumF_cons] at h1
        have e : s + (q + sumF 0 (List.take k r)) + x = s + q + sumF 0 (List.take k r) + x := by rw [← Rat.add_assoc s q]
        rw [e] at h1
        exact h1
      omega
def freeW (w : Web) : List Rat := w.ties.filterMap (·.worth)
theorem freeW_sz {w : Web} (hw : WebOk w) {q : Rat} (h : q ∈ freeW w) : 0 < q ∧ Sz 1 q := by
  obtain ⟨t, h1, h2⟩ := List.mem_filterMap.mp h
  exact (hw.tie t h1).worth q h2
theorem freeW_len {w : Web} (hw : WebOk w) : (freeW w).length ≤ 14 := Nat.le_trans (List.length_filterMap_le _ _) hw.tl
/-- l.remove(q) -/
abbrev fPy (q : Rat) : PyData := .tuple [.int q.num, .int (q.den : Int)]
theorem toPys_fD : ∀ l : List Rat, toPys (l.map fD) = some (l.map fPy)
  | [] => rfl
  | q :: r => by
    rw [List.map_cons]
    unfold toPys
    rw [toPys_fD r]
    rfl
theorem plain_fPy : ∀ l : List Rat, PyData.plainAll (l.map fPy) = true
  | [] => rfl
  | q :: r => by
    rw [List.map_cons]
    show (PyData.plain (fPy q) && PyData.plainAll (r.map fPy)) = true
    rw [plain_fPy r]
    rfl
theorem eqv_fPy (p q : Rat) : PyData.eqv (fPy p) (fPy q) = (p == q) := by
  have e : PyData.eqv (fPy p) (fPy q) = (decide (p.num = q.num) && decide (p.den = q.den)) := by
    show ((p.num == q.num) && (((p.den : Int) == (q.den : Int)) && true)) = _
    rw [Bool.and_true, Bool.eq_iff_iff]
    simp only [Bool.and_eq_true, decide_eq_true_eq, beq_iff_eq, Int.natCast_inj]
  rw [e, Bool.eq_iff_iff]
  simp only [Bool.and_eq_true, decide_eq_true_eq, beq_iff_eq]
  exact ⟨fun z => Rat.ext z.1 z.2, fun z => z ▸ ⟨rfl, rfl⟩⟩
theorem place_fPy (l : List Rat) (q : Rat) (h : q ∈ l) : SeqAt.dataPlace (l.map fPy) (fPy q) = some (l.idxOf q) := by
  unfold SeqAt.dataPlace
  rw [List.findIdx?_map]
  have e : ((fun y => PyData.eqv y (fPy q)) ∘ fPy) = (fun p => p == q) := funext fun p => eqv_fPy p q
  rw [e]
  have h1 : List.findIdx? (fun p => p == q) l = some (l.idxOf q) := by
    rw [List.findIdx?_eq_some_iff_findIdx_eq]
    exact ⟨List.idxOf_lt_length_of_mem h, rfl⟩
  exact h1
end FC
/-! THE WALK, 4: how many at once; lengthenings; wholes. -/
namespace FC
open PySem PySem.Spec L2
local macro_rules | `(tactic| walk_at "d") => `(tactic| try simp only [dVar, dC, dOp, dUn, dAdd, dSub, dMul, dMod, dDiv, dPow, dNeg, dCmp, dEq, dNe, dEqv, dIsN, dNotN, isNon, dIn, inD, dInM, dIx, ixDs, dIxM, dChain, dB, asB, dAnd, dOr, dNot, dAndV, dOrV, dNotV, dIf, dNil, dCons, dTup, dLst, dLstM, dDic0, dDicM, dDisp1,
  dCB, dLen, dLenM, dAbs, dMax2, dMin2, dInt, dBool, dStr, dList, dListN, dListM, dTuple, dSorted, dDicC, dIsi, tyD_non, tyD_bl, tyD_int, tyD_str, tyD_lst, tyD_tup, tyD_dic, dNoPart, asI, dPart, dSl, dRev, dApp, dPopI, dRem, dEqNil, dEqNilM, dGet, dDGetM, dDGet, dDInM, dDInA, dDPopM, dEqD0, dEqDM, dJoin, dNext, dSeq, dDrop, dRet, dIfS, dNever, dgName, dgNil, dgCons, dgTup, dAsg, dSubM, dDPutM, dPar, dAug, dFrz, frzD, dFgt,
  diLst, diTup, diLstM, diRng1, diRng2, diStr, diEnum, diZip, dYes, dCall, endsD, startD, wipeD, dom,
  isTy_0_0, isTy_0_1, isTy_0_2, isTy_0_3, isTy_0_4, isTy_1_0, isTy_1_1, isTy_1_2, isTy_1_3, isTy_1_4, isTy_2_0, isTy_2_1, isTy_2_2, isTy_2_3, isTy_2_4, isTy_3_0, isTy_3_1, isTy_3_2, isTy_3_3, isTy_3_4, isTy_4_0, isTy_4_1, isTy_4_2, isTy_4_3, isTy_4_4, isTy_5_0, isTy_5_1, isTy_5_2, isTy_5_3, isTy_5_4, isTy_6_0, isTy_6_1, isTy_6_2, isTy_6_3, isTy_6_4,
  Int.cast_ofNat_Int, decide_true, decide_false, Int.reduceEq, Int.reduceLT, Int.reduceLE, atI_0, atI_1, atI_2, atI_3, atI_4, List.length_map, List.map_cons, List.map_nil, List.length_cons, List.length_nil, Nat.reduceAdd, Nat.reduceSub, List.reduceReplicate, List.cons_append, List.nil_append, List.append_nil, List.getElem?_cons_zero, List.getElem?_cons_succ, List.getElem?_nil, List.set_cons_zero, List.set_cons_succ, List.take_zero, List.drop_zero, List.take_succ_cons, List.drop_succ_cons,
  List.eraseIdx_cons_zero, List.eraseIdx_cons_succ, true_and, and_true, eq_self, and_self, if_true, if_false, Bool.false_eq_true, reduceIte, Bool.not_true, Bool.not_false, forall_const, exists_eq_left, exists_eq_left', exists_eq_right, exists_eq_right', exists_and_left, exists_const, D.adr.injEq, D.str.injEq, D.int.injEq, D.lst.injEq, D.tup.injEq, D.bl.injEq, Option.some.injEq, Prod.mk.injEq, MO.l.injEq, MO.d.injEq, List.cons.injEq, Function.const_apply, List.not_mem_nil, false_implies, implies_true, List.mem_singleton, forall_eq, lcRes, exists_eq, exists_eq', List.length_append, List.length_singleton])

theorem eraseIdx_mapD {α β : Type} (f : α → β) : ∀ (l : List α) (i : Nat), (l.map f).eraseIdx i = (l.eraseIdx i).map f
  | [], _ => rfl
  | _ :: _, 0 => rfl
  | x :: r, i + 1 => by
    show f x :: (r.map f).eraseIdx i = f x :: (r.eraseIdx i).map f
    rw [eraseIdx_mapD f r i]
abbrev S_at_once : Spc := fun ds m F X => ∃ (w : Web) (purse : Rat), ds = [webD w, fD purse] ∧ m = [] ∧ WebOk w ∧ Sz 20 purse ∧ F (.int (cnt (selq (freeW w)) 0 purse : Nat)) []
def J_once (w : Web) (purse : Rat) (n : Nat) (r : Rho) (m : Mu) : Prop := ∃ (a : Addr) (o1 o2 o3 : Option D) (l : List Rat) (s : Rat) (k : Nat), r = [some (webD w), some (fD purse), o1, some (.adr a), some (fD s), some (.int (k : Nat)), o2, o3] ∧ m = [(a, .l (l.map fD))] ∧
  n = l.length ∧ l.length + k ≤ 14 ∧ Sz (1 + k) s ∧ (∀ q ∈ l, 0 < q ∧ Sz 1 q) ∧ k + cnt (selq l) s purse = cnt (selq (freeW w)) 0 purse
def J_least (w : Web) (purse : Rat) (a : Addr) (l : List Rat) (s : Rat) (k : Nat) (i : Nat) (r : Rho) (m : Mu) : Prop := ∃ (o1 o3 : Option D) (q : Rat), r = [some (webD w), some (fD purse), o1, some (.adr a), some (fD s), some (.int (k : Nat)), some (fD q), o3] ∧ m = [(a, .l (l.map fD))] ∧ Sz 1 q ∧ minQ q (l.drop i) = minL l
theorem sc_at_once : FnScope ["web", "purse", "tie", "left", "spent", "many", "least", "worth"] ["web", "purse"] (defScope s_at_once) := ⟨rfl, rfl, rfl, by decide +kernel, rfl, by decide +kernel, by decide +kernel⟩
theorem ok_at_once {P : Program} {w : World} {K : PySem.W.Frag} {mg : Str → Option Value} {base : Heap} (T : Tx K mg) (G_is_less : Fo P w K mg base CX0 1 "is_less" ["one", "other"] (spD K (NC K) 2 S_is_less)) (G_plus : Fo P w K mg base CX0 3 "plus" ["one", "other"] (spD K (NC K) 2 S_plus)) : Fo P w K mg base CX0 4 "at_once" ["web", "purse"] (spD K (NC K) 2 S_at_once) := by
  haveI := T.nought
  refine Fo.mk_ T 21 20 rfl rfl rfl rfl rfl (fun _ _ _ _ _ _ us hl => match us, hl with | [_, _], _ => rfl) fun f fd F => ok_pure 0 F sc_at_once rfl fun cdv A outer s H E I m ds Fv X hr h => ?_
  refine ⟨_, _, (pss_cons (as_lcM [2] (ps_setLc (i := 3) (own := [("tie", 2)]) rfl sc_at_once.nd rfl rfl (sw_true rfl rfl rfl (by decide +kernel)) (pi_list (pe_ix (o_ixK K) (pv 0) pe_int (fun _ _ => rfl))) (blkOk_by (own := [("tie", 2)]) (N := ["web", "purse", "tie", "left", "spent", "many", "least", "worth"]) (sc := defScope s_at_once) (by decide +kernel)) (fun _ _ _ _ _ => (pg_name (i := 2) sc_at_once.nd rfl (.inl rfl))) (fun _ _ _ _ _ => pts_one (pt_cmpR o_isnot (pe_ix (o_ixK K) (pv 2) pe_int (fun _ _ => rfl)) pe_non (nomark _))) (fun _ _ _ _ _ => (pe_ix (o_ixK K) (pv 2) pe_int (fun _ _ => rfl)))))
    (pss_cons (ps_set (i := 4) sc_at_once.nd rfl (.inl rfl) (pe_gtup (T.g 77 rfl)))
    (pss_cons (ps_set (i := 5) sc_at_once.nd rfl (.inl rfl) pe_int)
    (pss_cons (ps_while PassesOwn.never (pt_cmpR (o_neNilM 0 hr.units0) (pv 3) (pe_lst pa_nil) (nomark _))
    (pss_cons (ps_set (i := 6) sc_at_once.nd rfl (.inl rfl) (pe_ix (o_ixM 0) (pv 3) pe_int (fun _ _ => rfl)))
    (pss_cons (ps_for PassesOwn.never rfl (pi_listM 0 (pv 3)) (pg_name (i := 7) sc_at_once.nd rfl (.inl rfl))
    (pss_one (ps_if (pt_val (pe_ownK K 0 G_is_less (hr.mono (by decide)) pass0 (pa_cons (pv 7) (pa_cons (pv 6) pa_nil)))) (pss_one (ps_set (i := 6) sc_at_once.nd rfl (.inl rfl) (pv 7))) pss_nil)))
    (pss_cons (ps_expr (as_rem 0 (pe_bm PySem.F.plainAttrs_list PySem.F.slot_list_remove PySem.F.type_list_remove (mt_remD hr.units) (pv 3) (pa_cons (pv 6) pa_nil))))
    (pss_cons (ps_set (i := 4) sc_at_once.nd rfl (.inl rfl) (pe_ownK K 0 G_plus (hr.mono (by decide)) pass0 (pa_cons (pv 4) (pa_cons (pv 6) pa_nil))))
    (pss_cons (ps_if (pt_val (pe_ownK K 0 G_is_less (hr.mono (by decide)) pass0 (pa_cons (pv 1) (pa_cons (pv 4) pa_nil)))) (pss_one (ps_ret (pv 5))) pss_nil)
    (pss_one (ps_aug (i := 5) sc_at_once.nd rfl (.inl rfl) pe_int ip_add))))))))
    (pss_one (ps_ret (pv 5))))))), (by (try dsimp only [cxOf]); infer_instance), ?_⟩
  obtain ⟨w', purse, rfl, rfl, hw, hp, h⟩ := h
  walk_at "d"
  refine lc_opt (w'.ties.map tieD) (w'.ties.map fun t => t.worth.map fD) anyMu (fun G h => ?_) (fun _ => trivial) (by rw [List.length_map, List.length_map]) (by rw [List.length_map]; have := hw.tl; omega) ?_ ?_
  · walk_at "d"
    exact h
  · intro i d o acc p G E h1 h2 h3 h4
    rw [List.getElem?_map] at h1 h2
    cases e : w'.ties[i]? with
    | none => rw [e] at h1; cases h1
    | some t =>
      rw [e] at h1 h2
      cases h1
      cases h2
      walk_at "d"
      cases hwt : t.worth with
      | none =>
        rw [worthD_none]
        walk_at "d"
        exact h4 (by show t.worth.map fD = _; rw [hwt]; rfl)
      | some q =>
        rw [worthD_some]
        walk_at "d"
        exact h3 _ (by show t.worth.map fD = _; rw [hwt]; rfl)
  · walk_at "d"
    have ef : (w'.ties.map fun t => t.worth.map fD).filterMap id = (freeW w').map fD := by
      unfold freeW
      rw [List.filterMap_map, List.map_filterMap]
      rfl
    rw [ef]
    intro a
    refine ⟨fun n r m => J_once w' purse n r m, ⟨(freeW w').length, a, _, _, _, freeW w', 0, 0, rfl, rfl, rfl, freeW_len hw, sz0, fun q hq => freeW_sz hw hq, by omega⟩, ?_⟩
    rintro n r m' ⟨a, o1, o2, o3, l, s', k, rfl, rfl, rfl, hlk, hs, hl, hc⟩
    walk_at "d"
    refine ⟨Nat.zero_le _, ?_⟩
    cases l with
    | nil =>
      walk_at "d"
      rw [← hc] at h
      exact h
    | cons q0 rest =>
      walk_at "d"
      have hl0 := hl q0 List.mem_cons_self
      rw [if_pos (by rfl)]
      refine ⟨a, _, rfl, rfl, fun i r m => J_least w' purse a (q0 :: rest) s' k i r m, ⟨o1, o3, q0, rfl, rfl, hl0.2, rfl⟩, fun i r m ⟨_, _, _, _, h2, _⟩ => by rw [h2]; rfl, ?_, ?_⟩
      · rintro i d r m' hi ⟨o1, o3, q, rfl, rfl, hq, hm⟩
        have hi : ((q0 :: rest).map fD)[i]? = some d := hi
        rw [List.getElem?_map] at hi
        cases e : (q0 :: rest)[i]? with
        | none => rw [e] at hi; cases hi
        | some y =>
          rw [e] at hi
          cases hi
          obtain ⟨hlt, ey⟩ := List.getElem?_eq_some_iff.mp e
          have hy := (hl y (List.mem_of_getElem? e)).2
          rw [List.drop_eq_getElem_cons hlt, ey] at hm
          walk_at "d"
          refine ⟨y, q, 1, 1, rfl, hy, hq, by decide, by decide, by decide, ?_⟩
          walk_at "d"
          split
          · rename_i hc
            refine ⟨_, _, y, rfl, rfl, hy, ?_⟩
            rw [← hm]
            show _ = minQ (if y < q then y else q) _
            rw [if_pos (of_decide_eq_true hc)]
          · rename_i hc
            refine ⟨_, _, q, rfl, rfl, hq, ?_⟩
            rw [← hm]
            show _ = minQ (if y < q then y else q) _
            rw [if_neg (of_decide_eq_false (Bool.eq_false_iff.mpr hc))]
      · rintro r m' ⟨o1, o3, q, rfl, rfl, hq, hm⟩
        have e0 : (q0 :: rest).drop ((fD q0 :: rest.map fD).length) = [] := List.drop_eq_nil_of_le (by simp)
        rw [e0] at hm
        have hm : q = minL (q0 :: rest) := hm
        have hin : q ∈ q0 :: rest := hm ▸ minL_mem (by simp)
        walk_at "d"
        have er : ((fD q0 :: rest.map fD).eraseIdx ((q0 :: rest).idxOf q)) = ((q0 :: rest).erase q).map fD := by
          rw [← List.map_cons, eraseIdx_mapD, List.erase_eq_eraseIdx_of_idxOf rfl]
        refine ⟨_, toPys_fD (q0 :: rest), _, rfl, plain_fPy (q0 :: rest), rfl, Nat.le_of_ble_eq_true rfl, _, place_fPy _ _ hin, ?_⟩
        rw [er]
        have hln : ((q0 :: rest).erase q).length = rest.length := by rw [List.length_erase_of_mem hin]; rfl
        have hq0 := hl q hin
        have hs2 : Sz (1 + (k + 1)) (s' + q) := by
          have z := hs.add hq (by omega) (by decide)
          exact z
        rw [List.length_cons] at hlk
        refine ⟨_, _, 1 + k, 1, rfl, hs, hq, by omega, by decide, by omega, ?_⟩
        refine ⟨_, _, 20, 1 + (k + 1), rfl, hp, hs2, by decide, by omega, by omega, ?_⟩
        have hst : cnt (selq (q0 :: rest)) s' purse = if purse < s' + q then 0 else 1 + cnt (selq ((q0 :: rest).erase q)) (s' + q) purse := by
          rw [selq_step (by simp), ← hm]
          rfl
        walk_at "d"
        by_cases hlt : purse < s' + q
        · rw [if_pos (decide_eq_true hlt)]
          rw [hst, if_pos hlt] at hc
          rw [← hc] at h
          exact h
        · rw [if_neg (by simpa using hlt)]
          rw [hst, if_neg hlt] at hc
          refine ⟨rest.length, by omega, a, o1, some (fD q), o3, (q0 :: rest).erase q, s' + q, k + 1, rfl, rfl, hln.symm, by omega, hs2, fun x hx => hl x (List.mem_of_mem_erase hx), by omega⟩
abbrev S_look_at_size : Spc := fun ds m F X => ∃ (w : Web) (purse : Rat), ds = [webD w, fD purse] ∧ m = [] ∧ WebOk w ∧ Sz 20 purse ∧ cnt (selq (freeW w)) 0 purse ≤ 3 ∧ F .non []
theorem sc_look_at_size : FnScope ["web", "purse"] ["web", "purse"] (defScope s_look_at_size) := ⟨rfl, rfl, rfl, by decide +kernel, rfl, by decide +kernel, by decide +kernel⟩
theorem ok_look_at_size {P : Program} {w : World} {K : PySem.W.Frag} {mg : Str → Option Value} {base : Heap} (T : Tx K mg) (G_at_once : Fo P w K mg base CX0 4 "at_once" ["web", "purse"] (spD K (NC K) 2 S_at_once)) : Fo P w K mg base CX0 5 "look_at_size" ["web", "purse"] (spD K (NC K) 2 S_look_at_size) := by
  refine Fo.mk_ T 36 35 rfl rfl rfl rfl rfl (fun _ _ _ _ _ _ us hl => match us, hl with | [_, _], _ => rfl) fun f fd F => ok_pure 0 F sc_look_at_size rfl fun cdv A outer s H E I m ds Fv X hr h => ?_
  refine ⟨_, _, (pss_one (ps_if (pt_cmpR o_gt (pe_ownK K 0 G_at_once (hr.mono (by decide)) pass0 (pa_cons (pv 0) (pa_cons (pv 1) pa_nil))) (pe_gint (T.i 98 rfl)) (nomark _)) (pss_one ps_never) pss_nil)), (by (try dsimp only [cxOf]); infer_instance), ?_⟩
  obtain ⟨w', purse, rfl, rfl, hw, hp, hc, h⟩ := h
  walk_at "d"
  refine ⟨w', purse, rfl, rfl, hw, hp, ?_⟩
  walk_at "d"
  rw [if_neg (by simp; omega)]
  exact h
end FC
/-! THE MATHEMATICS, 5: dicts by keys; what is reached. -/
namespace FC
open PySem PySem.Spec L2
abbrev keysD (kvs : List (Str × D)) : List Str := kvs.map (·.1)
theorem dget_none {kvs : List (Str × D)} {z : Str} : dget kvs z = none ↔ z ∉ keysD kvs := by
  induction kvs with
  | nil => simp [dget]
  | cons p r ih =>
    obtain ⟨k, d⟩ := p
    unfold dget
    by_cases h : k = z
    · rw [if_pos h]
      simp [h]
    · rw [if_neg h, ih]
      simp [Ne.symm h]
theorem dget_mem {kvs : List (Str × D)} {z : Str} {d : D} (h : dget kvs z = some d) : (z, d) ∈ kvs := by
  induction kvs with
  | nil => cases h
  | cons p r ih =>
    obtain ⟨k, e⟩ := p
    unfold dget at h
    by_cases hk : k = z
    · rw [if_pos hk] at h
      cases h
      subst hk
      exact List.mem_cons_self
    · rw [if_neg hk] at h
      exact List.mem_cons_of_mem _ (ih h)
theorem dget_some {kvs : List (Str × D)} {z : Str} {d : D} (h : dget kvs z = some d) : z ∈ keysD kvs := List.mem_map.mpr ⟨_, dget_mem h, rfl⟩
theorem dget_at {A B : List (Str × D)} {z : Str} {d : D} (h : z ∉ keysD A) : dget (A ++ (z, d) :: B) z = some d := by
  induction A with
  | nil =>
    show dget ((z, d) :: B) z = _
    unfold dget
    rw [if_pos rfl]
  | cons p r ih =>
    obtain ⟨k, e⟩ := p
    have h1 : k ≠ z := fun q => h (by simp [q])
    show dget ((k, e) :: (r ++ (z, d) :: B)) z = _
    unfold dget
    rw [if_neg h1]
    exact ih fun q => h (by simp at q ⊢; exact .inr q)
theorem dget_nd {A B : List (Str × D)} {z : Str} {d : D} (h : (keysD (A ++ (z, d) :: B)).Nodup) : dget (A ++ (z, d) :: B) z = some d := by
  refine dget_at fun q => ?_
  unfold keysD at h
  rw [List.map_append, List.nodup_append] at h
  exact h.2.2 z q z (by simp) rfl
theorem any_keys {kvs : List (Str × D)} {z : Str} : (kvs.any fun kv => decide (kv.1 = z)) = true ↔ z ∈ keysD kvs := by
  simp only [List.any_eq_true, decide_eq_true_eq, List.mem_map]
theorem dput_new {kvs : List (Str × D)} {z : Str} {d : D} (h : z ∉ keysD kvs) : dput kvs z d = kvs ++ [(z, d)] := by
  unfold dput
  rw [if_neg fun q => h (any_keys.mp q)]
theorem keys_dput {kvs : List (Str × D)} {z : Str} {d : D} : keysD (dput kvs z d) = if z ∈ keysD kvs then keysD kvs else keysD kvs ++ [z] := by
  by_cases h : z ∈ keysD kvs
  · rw [if_pos h]
    unfold dput
    rw [if_pos (any_keys.mpr h)]
    unfold keysD
    rw [List.map_map]
    refine List.map_congr_left fun p _ => ?_
    show (if p.1 = z then (p.1, d) else p).1 = p.1
    split <;> rfl
  · rw [if_neg h, dput_new h]
    unfold keysD
    rw [List.map_append]
    rfl
theorem dget_dput {kvs : List (Str × D)} {z y : Str} {d : D} : dget (dput kvs z d) y = if y = z then some d else dget kvs y := by
  by_cases h : z ∈ keysD kvs
  · unfold dput
    rw [if_pos (any_keys.mpr h)]
    induction kvs with
    | nil => cases h
    | cons p r ih =>
      obtain ⟨k, e⟩ := p
      rw [List.map_cons]
      by_cases hk : k = z
      · subst hk
        rw [if_pos rfl]
        unfold dget
        by_cases hy : k = y
        · subst hy
          rw [if_pos rfl, if_pos rfl]
        · rw [if_neg hy, if_neg (Ne.symm hy), if_neg hy]
          by_cases hr : k ∈ keysD r
          · rw [ih hr, if_neg (Ne.symm hy)]
          · congr 1
            have : ∀ q ∈ r, (if q.1 = k then (q.1, d) else q) = q := fun q hq => if_neg fun e => hr (List.mem_map.mpr ⟨q, hq, e⟩)
            rw [List.map_congr_left this, List.map_id']
      · have hr : z ∈ keysD r := by
          rcases List.mem_cons.mp h with q | q
          · exact absurd q.symm hk
          · exact q
        rw [if_neg hk]
        unfold dget
        by_cases hy : k = y
        · subst hy
          rw [if_pos rfl, if_neg hk, if_pos rfl]
        · rw [if_neg hy, ih hr, if_neg hy]
  · rw [dput_new h]
    induction kvs with
    | nil =>
      show dget [(z, d)] y = _
      unfold dget
      by_cases hy : y = z
      · subst hy
        rw [if_pos rfl, if_pos rfl]
      · rw [if_neg (Ne.symm hy), if_neg hy]
        rfl
    | cons p r ih =>
      obtain ⟨k, e⟩ := p
      have hk : k ≠ z := fun q => h (by simp [q])
      have hr : z ∉ keysD r := fun q => h (List.mem_cons_of_mem _ q)
      show dget ((k, e) :: (r ++ [(z, d)])) y = _
      unfold dget
      by_cases hy : k = y
      · subst hy
        rw [if_pos rfl, if_neg hk, if_pos rfl]
      · rw [if_neg hy, ih hr, if_neg hy]
theorem keys_ddrop {kvs : List (Str × D)} {z : Str} : keysD (ddrop kvs z) = (keysD kvs).filter fun k => decide (k ≠ z) := by
  unfold ddrop keysD
  rw [List.filter_map]
  rfl
theorem dget_ddrop {kvs : List (Str × D)} {z y : Str} (h : y ≠ z) : dget (ddrop kvs z) y = dget kvs y := by
  unfold ddrop
  induction kvs with
  | nil => rfl
  | cons p r ih =>
    obtain ⟨k, e⟩ := p
    by_cases hk : k = z
    · rw [List.filter_cons_of_neg (by simp [hk]), ih]
      conv => rhs; unfold dget
      rw [if_neg (by rw [hk]; exact Ne.symm h)]
    · rw [List.filter_cons_of_pos (by simp [hk])]
      unfold dget
      rw [ih]
theorem zip_keys (kvs : List (Str × D)) : (kvs.map (·.1)).zip (kvs.map (·.2)) = kvs := by
  induction kvs with
  | nil => rfl
  | cons p r ih => rw [List.map_cons, List.map_cons, List.zip_cons_cons, ih]
/-! ### what is reached -/
def Reach (w : Web) (p : Str) : Prop := ∃ ks : List Nat, walkTo w w.first ks = some p
theorem walkTo_snoc (w : Web) {p' : Str} {k : Nat} {t : Tie} (ht : w.ties[k]? = some t) : ∀ (ks : List Nat) (p q : Str), walkTo w p ks = some q → behT t q = some p' → walkTo w p (ks ++ [k]) = some p'
  | [], p, q, h, hb => by
    cases h
    show (match w.ties[k]? with | some t => (match behT t p with | some p' => walkTo w p' [] | none => none) | none => none) = _
    rw [ht]
    show (match behT t p with | some p' => walkTo w p' [] | none => none) = _
    rw [hb]
    rfl
  | j :: r, p, q, h, hb => by
    show (match w.ties[j]? with | some t => (match behT t p with | some p' => walkTo w p' (r ++ [k]) | none => none) | none => none) = _
    have h : (match w.ties[j]? with | some t => (match behT t p with | some p' => walkTo w p' r | none => none) | none => none) = some q := h
    cases e : w.ties[j]? with
    | none => rw [e] at h; cases h
    | some t' =>
      rw [e] at h
      show (match behT t' p with | some p' => walkTo w p' (r ++ [k]) | none => none) = _
      have h : (match behT t' p with | some p' => walkTo w p' r | none => none) = some q := h
      cases e2 : behT t' p with
      | none => rw [e2] at h; cases h
      | some p2 =>
        rw [e2] at h
        exact walkTo_snoc w ht r p2 q h hb
theorem Reach.step {w : Web} {p p' : Str} {k : Nat} {t : Tie} (h : Reach w p) (ht : w.ties[k]? = some t) (hb : behT t p = some p') : Reach w p' := by
  obtain ⟨ks, h⟩ := h
  exact ⟨_, walkTo_snoc w ht ks _ _ h hb⟩
theorem walk_closed {w : Web} {S : Str → Prop} (hc : ∀ (p : Str) (k : Nat) (t : Tie) (p' : Str), S p → w.ties[k]? = some t → behT t p = some p' → S p') : ∀ (ks : List Nat) (p q : Str), S p → walkTo w p ks = some q → S q
  | [], p, q, hp, h => by cases h; exact hp
  | j :: r, p, q, hp, h => by
    have h : (match w.ties[j]? with | some t => (match behT t p with | some p' => walkTo w p' r | none => none) | none => none) = some q := h
    cases e : w.ties[j]? with
    | none => rw [e] at h; cases h
    | some t' =>
      rw [e] at h
      have h : (match behT t' p with | some p' => walkTo w p' r | none => none) = some q := h
      cases e2 : behT t' p with
      | none => rw [e2] at h; cases h
      | some p2 =>
        rw [e2] at h
        exact walk_closed hc r p2 q (hc p j t' p2 hp e e2) h
/-- an entry: how far, by which tie, from where -/
def EntOk (w : Web) (B : Nat) (P : Str → Prop) (p : Str) (e : D) : Prop := (p = w.first ∧ ∃ f : Int, e = .tup [.int f, .non, .non] ∧ f.natAbs ≤ B) ∨ ∃ (f : Int) (k : Nat) (t : Tie) (p0 : Str), e = .tup [.int f, .int (k : Nat), .str p0] ∧ f.natAbs ≤ B ∧ w.ties[k]? = some t ∧ behT t p0 = some p ∧ P p0
theorem EntOk.far {w : Web} {B : Nat} {P : Str → Prop} {p : Str} {e : D} (h : EntOk w B P p e) : ∃ f a b, e = .tup [.int f, a, b] ∧ f.natAbs ≤ B := by
  rcases h with ⟨_, f, rfl, hb⟩ | ⟨f, k, t, p0, rfl, hb, _⟩
  · exact ⟨f, _, _, rfl, hb⟩
  · exact ⟨f, _, _, rfl, hb⟩
theorem EntOk.mono {w : Web} {B B' : Nat} {P Q : Str → Prop} {p : Str} {e : D} (h : EntOk w B P p e) (hB : B ≤ B') (hq : ∀ z, P z → Q z) : EntOk w B' Q p e := by
  rcases h with ⟨h1, f, h2, h3⟩ | ⟨f, k, t, p0, h1, h5, h2, h3, h4⟩
  · exact .inl ⟨h1, f, h2, by omega⟩
  · exact .inr ⟨f, k, t, p0, h1, by omega, h2, h3, hq _ h4⟩
structure Found (w : Web) (W : Nat) (kvs : List (Str × D)) : Prop where
  nd : (keysD kvs).Nodup
  sub : ∀ p ∈ keysD kvs, p ∈ w.places
  ord : ∀ A p e B, kvs = A ++ (p, e) :: B → EntOk w (A.length * W) (fun z => z ∈ keysD A) p e
theorem Found.snoc {w : Web} {W : Nat} {kvs : List (Str × D)} {z : Str} {e : D} (h : Found w W kvs) (hz : z ∉ keysD kvs) (hp : z ∈ w.places) (he : EntOk w (kvs.length * W) (fun z => z ∈ keysD kvs) z e) : Found w W (kvs ++ [(z, e)]) := by
  refine ⟨?_, ?_, ?_⟩
  · unfold keysD
    rw [List.map_append]
    refine List.nodup_append.mpr ⟨h.nd, by simp, fun a ha b hb q => ?_⟩
    obtain rfl : b = z := by simpa using hb
    exact hz (q ▸ ha)
  · intro p hp'
    unfold keysD at hp'
    rw [List.map_append] at hp'
    rcases List.mem_append.mp hp' with q | q
    · exact h.sub p q
    · obtain rfl : p = z := by simpa using q
      exact hp
  · intro A p e' B hq
    rcases List.eq_nil_or_concat B with rfl | ⟨B', b, rfl⟩
    · have := List.append_inj' hq rfl
      obtain ⟨rfl, h2⟩ := this
      cases h2
      exact he
    · rw [List.concat_eq_append] at hq
      have e2 : A ++ (p, e') :: (B' ++ [b]) = (A ++ (p, e') :: B') ++ [b] := by rw [List.append_assoc]; rfl
      rw [e2] at hq
      obtain ⟨h1, _⟩ := List.append_inj' hq rfl
      exact h.ord A p e' B' h1
theorem Found.len {w : Web} {W : Nat} {kvs : List (Str × D)} (hw : WebOk w) (h : Found w W kvs) : kvs.length ≤ 7 := by
  have h1 := pigeon h.nd h.sub
  unfold keysD at h1
  rw [List.length_map] at h1
  have := hw.hi
  omega
theorem mem_split {kvs : List (Str × D)} {z : Str} (h : z ∈ keysD kvs) : ∃ A e B, kvs = A ++ (z, e) :: B := by
  obtain ⟨⟨z', e⟩, h1, rfl⟩ := List.mem_map.mp h
  obtain ⟨A, B, rfl⟩ := List.append_of_mem h1
  exact ⟨A, e, B, rfl⟩
theorem Found.get {w : Web} {W : Nat} {kvs : List (Str × D)} (hw : WebOk w) (h : Found w W kvs) {z : Str} (hz : z ∈ keysD kvs) : ∃ f a b, dget kvs z = some (.tup [.int f, a, b]) ∧ f.natAbs ≤ 7 * W := by
  obtain ⟨A, e, B, rfl⟩ := mem_split hz
  obtain ⟨f, a, b, rfl, hf⟩ := (h.ord A z e B rfl).far
  have hl := h.len hw
  rw [List.length_append, List.length_cons] at hl
  exact ⟨f, a, b, dget_nd h.nd, Nat.le_trans hf (Nat.mul_le_mul_right W (by omega))⟩
theorem dput_len {kvs : List (Str × D)} {z : Str} {d : D} : (dput kvs z d).length ≤ kvs.length + 1 := by
  unfold dput
  split
  · rw [List.length_map]
    omega
  · rw [List.length_append]
    exact Nat.le_refl _
end FC
/-! THE LOGIC, 8: a dict walked (locked); fields, methods, new instances. -/
namespace FC
open PySem PySem.Spec L2
section
variable {K : PySem.W.Frag} {o : Og}
theorem Wd.lck {I H : Hp} {m : Mu} {k : Nat} {a : Addr} {x : Obj} {kvs : List (Str × D)} {vs : List (Key × V)} (w : Wd K I H m) (h : m[k]? = some (a, .k x kvs vs)) : H a = some (.frz x (.dK vs)) ∧ RepK K I kvs vs := (w.mo _ (List.mem_of_getElem? h)).2
theorem Wd.ins {I H : Hp} {m : Mu} {k : Nat} {a C : Addr} {fs : List (Str × D)} (w : Wd K I H m) (h : m[k]? = some (a, .i C fs)) : ∃ dx vs, H a = some (.ins C dx vs) ∧ RepF K I fs vs := (w.mo _ (List.mem_of_getElem? h)).2
def tLockM (k : Nat) (t : TS) : TS := tLock t
theorem ps_lockM {X : Cx} {st : Stmt} {t : TS} (k : Nat) (h : PS X st t) : PS X st (tLockM k t) := ps_lock h
def lckE (k : Nat) (a : Addr) (x : Obj) (kvs : List (Str × D)) (vs : List (Key × V)) (F : DEnds) : DEnds :=
  ⟨fun r m => m[k]? = some (a, .k x kvs vs) ∧ F.nx r (m.set k (a, .d kvs)), fun d m => m[k]? = some (a, .k x kvs vs) ∧ F.rt d (m.set k (a, .d kvs)), fun r m => m[k]? = some (a, .k x kvs vs) ∧ F.bk r (m.set k (a, .d kvs)), fun r m => m[k]? = some (a, .k x kvs vs) ∧ F.ct r (m.set k (a, .d kvs))⟩
def dLock (k : Nat) (dt : DS) : DS := fun F r m => ∃ a kvs, m[k]? = some (a, .d kvs) ∧ ∀ x vs, dt (lckE k a x kvs vs F) r (m.set k (a, .k x kvs vs))
theorem Wo.unl {I H : Hp} {m : Mu} {k : Nat} {a : Addr} {x : Obj} {kvs : List (Str × D)} {vs : List (Key × V)} (w : Wo K o I H m) (h : m[k]? = some (a, .k x kvs vs)) : Wo K o I (upd H a (.dK vs)) (m.set k (a, .d kvs)) := by
  obtain ⟨g1, g2⟩ := w.w.lck h
  exact w.mut h _ (z := .d kvs) ⟨vs, upd_same, g2⟩
instance {k : Nat} {t : TS} {dt : DS} [it : LS K o t dt] : LS K o (tLockM k t) (dLock k dt) := ⟨fun {r m I H s F Q} w l h p => by
  obtain ⟨a, kvs, hk, h⟩ := h
  obtain ⟨vs, g1, g2⟩ := w.w.dic hk
  refine ⟨a, _, g1, trivial, fun od => ?_⟩
  refine it.go (w.mut hk (.frz od (.dK vs)) (z := .k od kvs vs) ⟨upd_same, g2⟩) l (h od vs) ⟨?_, ?_, ?_, ?_⟩
  · rintro r' s' I' H' m' ⟨h1, h2⟩ w' e' l'
    exact ⟨(w'.w.lck h1).1, p.nx r' s' I' _ _ h2 (w'.unl h1) e' l'⟩
  · rintro v d I' H' m' ⟨h1, h2⟩ w' r'
    exact ⟨(w'.w.lck h1).1, p.rt v d I' _ _ h2 (w'.unl h1) r'⟩
  · rintro r' s' I' H' m' ⟨h1, h2⟩ w' e' l'
    exact ⟨(w'.w.lck h1).1, p.bk r' s' I' _ _ h2 (w'.unl h1) e' l'⟩
  · rintro r' s' I' H' m' ⟨h1, h2⟩ w' e' l'
    exact ⟨(w'.w.lck h1).1, p.ct r' s' I' _ _ h2 (w'.unl h1) e' l'⟩⟩
theorem repk_keys {I : Hp} : ∀ {kvs : List (Str × D)} {vs : List (Key × V)}, RepK K I kvs vs → vs.map (·.1) = (keysD kvs).map Sum.inr
  | [], _, h => by cases h; rfl
  | (k, d) :: r, _, h => by
    obtain ⟨v, s, rfl, h1, h2⟩ := h
    show Sum.inr k :: s.map (·.1) = Sum.inr k :: (keysD r).map Sum.inr
    rw [repk_keys h2]
/-- the keys of the locked dict, the object k -/
def iKeysK (k : Nat) (td : TE) : TI := iKeys td
theorem pi_keysK {X : Cx} {tg e : Expr} {td : TE} (k : Nat) (he : PE X e td) : PI X tg e (iKeysK k td) := pi_keys he
def diKeys (k : Nat) (de : DE) : DI := fun r m F => de r m fun d m1 => ∃ a x kvs vs, d = .adr a ∧ m1[k]? = some (a, .k x kvs vs) ∧ F ((keysD kvs).map .str) (fun m => m[k]? = some (a, .k x kvs vs)) m1
theorem keys_at {I : Hp} {kvs : List (Str × D)} {vs : List (Key × V)} (h : RepK K I kvs vs) {i : Nat} {d : D} (hi : ((keysD kvs).map D.str)[i]? = some d) : ∃ z v, d = .str z ∧ vs[i]? = some (Sum.inr z, v) := by
  rw [List.getElem?_map] at hi
  cases e : (keysD kvs)[i]? with
  | none => rw [e] at hi; cases hi
  | some z =>
    rw [e] at hi
    cases hi
    have q := congrArg (fun l : List Key => l[i]?) (repk_keys h)
    have q : (vs.map (·.1))[i]? = ((keysD kvs).map Sum.inr)[i]? := q
    rw [List.getElem?_map, List.getElem?_map, e] at q
    cases e2 : vs[i]? with
    | none => rw [e2] at q; cases q
    | some p =>
      rw [e2] at q
      obtain ⟨p1, p2⟩ := p
      have q : some p1 = some (Sum.inr z) := q
      cases q
      exact ⟨z, p2, rfl, rfl⟩
instance {k : Nat} {te : TE} {de : DE} [ie : LE K o te de] : LI K o (iKeysK k te) (diKeys k de) := ⟨fun {r m I H s F R} w l h q => ie.go w l h fun v d I1 H1 m1 h1 w1 e1 r1 => by
  obtain ⟨a, x, kvs, vs, rfl, hk, h1⟩ := h1
  cases r1
  obtain ⟨g1, g2⟩ := w1.w.lck hk
  refine ⟨a, x, rfl, .inl ⟨vs, g1, q _ _ _ I1 H1 m1 h1 w1 e1 ⟨fun {I2 H2 m2} e w c => ?_, fun {I2 H2 m2 i d} e w c hi => ?_⟩⟩⟩
  · obtain ⟨g3, g4⟩ := w.w.lck c
    refine ⟨g3, ?_⟩
    have q := congrArg List.length (repk_keys g4)
    rw [List.length_map, List.length_map] at q
    rw [q, List.length_map, List.length_map]
    unfold keysD
    rw [List.length_map]
    exact Nat.le_refl _
  · obtain ⟨g3, g4⟩ := w.w.lck c
    obtain ⟨z, v, rfl, hv⟩ := keys_at g4 hi
    refine ⟨⟨g3, (List.getElem?_eq_some_iff.mp hv).1⟩, fun y H' hy => ?_⟩
    obtain ⟨rfl, k', v', hv', rfl⟩ := hy
    rw [hv] at hv'
    cases hv'
    exact ⟨I2, Same.refl I2, w, rfl⟩⟩
/-- d[z] of the locked dict -/
def tDGetK (k : Nat) (td ty : TE) : TE := tDGet td ty
theorem pe_dgetK {X : Cx} (k : Nat) {ob i : Expr} {pos : Pos} {td ty : TE} (h : PE X (.Subscript ob i pos) (tDGet td ty)) : PE X (.Subscript ob i pos) (tDGetK k td ty) := h
def dDGetK (k : Nat) (dd dy : DE) : DE := fun r m F => dd r m fun x m1 => dy r m1 fun y m2 => ∃ a o kvs vs z, x = .adr a ∧ y = .str z ∧ m2[k]? = some (a, .k o kvs vs) ∧ dGet m2 F kvs z
instance {k : Nat} {td ty : TE} {dd dy : DE} [ia : LE K o td dd] [ib : LE K o ty dy] : LE K o (tDGetK k td ty) (dDGetK k dd dy) := ⟨fun {r m F I H s Q} w l h q =>
  ia.go w l h fun vx x I1 H1 m1 h1 w1 e1 rx => ib.go w1 (l.mono e1) h1 fun vy y I2 H2 m2 h2 w2 e2 ry => by
    obtain ⟨a, od, kvs, vs, z, rfl, rfl, hk, h2⟩ := h2
    cases rx; cases ry
    obtain ⟨g1, g2⟩ := w2.w.lck hk
    obtain ⟨d, v, g3, g4, g5⟩ := got g2 h2
    exact ⟨a, v, rfl, .inl ⟨vs, .inr z, .inr ⟨_, g1⟩, rfl, g4.symm⟩, q v d I2 H2 m2 g3 w2 (e1.trans e2) g5⟩⟩
/-! ### fields -/
theorem RepF.get {I : Hp} {f : Str} : ∀ {fs : List (Str × D)} {vs : List (Str × V)}, RepF K I fs vs → match fs.lookup f with
    | some d => ∃ v, vs.lookup f = some v ∧ Rep K I d v
    | none => vs.lookup f = none
  | [], _, h => by cases h; rfl
  | (g, d) :: r, _, h => by
    obtain ⟨v, s, rfl, h1, h2⟩ := h
    rw [List.lookup_cons, List.lookup_cons]
    cases e : f == g with
    | true => exact ⟨v, rfl, h1⟩
    | false => exact RepF.get h2
def dputF (f : Str) (d : D) : List (Str × D) → List (Str × D)
  | [] => [(f, d)]
  | (g, x) :: r => if g = f then (g, d) :: r else (g, x) :: dputF f d r
theorem RepF.put {I : Hp} {f : Str} {d : D} {v : V} (rv : Rep K I d v) : ∀ {fs : List (Str × D)} {vs : List (Str × V)}, RepF K I fs vs → RepF K I (dputF f d fs) (putF f v vs)
  | [], _, h => by cases h; exact ⟨v, [], rfl, rv, rfl⟩
  | (g, x) :: r, _, h => by
    obtain ⟨u, s, rfl, h1, h2⟩ := h
    unfold dputF putF
    by_cases e : g = f
    · rw [if_pos e, if_pos e]
      exact ⟨v, s, rfl, rv, h2⟩
    · rw [if_neg e, if_neg e]
      exact ⟨u, _, rfl, h1, RepF.put rv h2⟩
theorem RepF.len {I : Hp} : ∀ {fs : List (Str × D)} {vs : List (Str × V)}, RepF K I fs vs → vs.length = fs.length
  | [], _, h => by cases h; rfl
  | (g, x) :: r, _, h => by
    obtain ⟨u, s, rfl, h1, h2⟩ := h
    rw [List.length_cons, List.length_cons, RepF.len h2]
def tFldM (K : PySem.W.Frag) (k : Nat) (ta : TE) (f : Str) : TE := tFld K ta f
theorem pe_fldK (K : PySem.W.Frag) {X : Cx} {e : Expr} {ta : TE} {f : Str} {pos : Pos} (k : Nat) (he : PE X e ta) (hK : X.K = K := by rfl) (hb : attributeBase e f X.env (eval e X.env) = eval e X.env := by rfl) : PE X (.Attribute e f pos) (tFldM K k ta f) := by
  subst hK
  exact pe_fld he hb
def dFld (K : PySem.W.Frag) (k : Nat) (da : DE) (f : Str) : DE := fun r m F => da r m fun x m1 => ∃ a C fs d, x = .adr a ∧ m1[k]? = some (a, .i C fs) ∧ (Cls K C ∧ NoAttr K C f) ∧ fs.lookup f = some d ∧ F d m1
instance {k : Nat} {ta : TE} {da : DE} {f : Str} [ia : LE K o ta da] : LE K o (tFldM K k ta f) (dFld K k da f) := ⟨fun {r m F I H s Q} w l h q => ia.go w l h fun vx x I1 H1 m1 h1 w1 e1 rx => by
  obtain ⟨a, C, fs, d, rfl, hk, ⟨c, n⟩, hf, h1⟩ := h1
  cases rx
  obtain ⟨dx, vs, g1, g2⟩ := w1.w.ins hk
  have g := g2.get (f := f)
  rw [hf] at g
  obtain ⟨v, g3, g4⟩ := g
  exact ⟨a, C, dx, vs, v, rfl, g1, c, n, g3, q v d I1 H1 m1 h1 w1 e1 g4⟩⟩
def sFldM (K : PySem.W.Frag) (k : Nat) (ta tv : TE) (f : Str) : TS := sFld K ta tv f
theorem ps_fldK (K : PySem.W.Frag) {X : Cx} {ob value : Expr} {ta tv : TE} {f : Str} {pos pos' : Pos} (k : Nat) (ha : PE X ob ta) (hv : PE X value tv) (hs : swapsWith value (some (.Attribute ob f pos')) pos.line X.env = pure false) (hK : X.K = K := by rfl) : PS X (.Assign [.Attribute ob f pos'] value pos) (sFldM K k ta tv f) := by
  subst hK
  exact ps_fld ha hv hs
def dSetF (K : PySem.W.Frag) (k : Nat) (da dv : DE) (f : Str) : DS := fun F r m => dv r m fun d m1 => da r m1 fun x m2 => ∃ a C fs, x = .adr a ∧ m2[k]? = some (a, .i C fs) ∧ (Cls K C ∧ NoAttr K C f) ∧ fs.length < 1000 ∧ F.nx r (m2.set k (a, .i C (dputF f d fs)))
instance {k : Nat} {ta tv : TE} {da dv : DE} {f : Str} [ia : LE K o ta da] [iv : LE K o tv dv] : LS K o (sFldM K k ta tv f) (dSetF K k da dv f) := ⟨fun {r m I H s F Q} w l h p => iv.go w l h fun vy d I1 H1 m1 h1 w1 e1 ry => ia.go w1 (l.mono e1) h1 fun vx x I2 H2 m2 h2 w2 e2 rx => by
  obtain ⟨a, C, fs, rfl, hk, ⟨c, n⟩, hl, h2⟩ := h2
  cases rx
  obtain ⟨dx, vs, g1, g2⟩ := w2.w.ins hk
  exact ⟨a, C, dx, vs, rfl, g1, c, n, by rw [g2.len]; exact hl, p.nx r s I2 _ _ h2 (w2.mut hk _ (z := .i C (dputF f d fs)) ⟨dx, _, upd_same, g2.put (ry.mono e2)⟩) (e1.trans e2) (l.mono (e1.trans e2))⟩⟩
/-! ### methods -/
/-- a method of a class of the program -/
structure FoM (P : Program) (w : World) (K : PySem.W.Frag) (mg : Str → Option Value) (base : Heap) (CX : CXT) (k : Nat) (cl x : Str) (ps : List Str) (sp : Sp) : Prop where
  ex : ∃ fd, FnOk P w K mg base CX k (He.ma K (He.ga K cl) x) fd ps sp ∧ Binds K fd ps []
theorem FoM.mono {P : Program} {w : World} {K : PySem.W.Frag} {mg : Str → Option Value} {base : Heap} {CX : CXT} {j k : Nat} {cl x : Str} {ps : List Str} {sp : Sp} (G : FoM P w K mg base CX j cl x ps sp) (h : j ≤ k) : FoM P w K mg base CX k cl x ps sp := by
  obtain ⟨fd, h1, h2⟩ := G.ex
  exact ⟨fd, h1.mono h, h2⟩
def tMethD (K : PySem.W.Frag) (C0 C : Addr) (x : Str) (n j k : Nat) (S : Spc) (E : XK) (to : TE) (ta : TA) : TE := tMeth C x (spD K C0 n S) [] E to ta
def dMeth (C : Addr) (mn : Str) (n j k : Nat) (S : Spc) (X : Mu → Prop) (dO : DE) (da : DA) : DE := fun r m F => dO r m fun x m1 => ∃ a fs, x = .adr a ∧ m1[k]? = some (a, .i C fs) ∧ fs.lookup mn = none ∧ da r m1 fun ds m2 => ds.length + 1 = n ∧ S (.adr a :: ds) (m2.take j) (fun d m' => F d (m' ++ m2.drop j)) fun m' => X (m' ++ m2.drop j)
instance {C0 C : Addr} {mn : Str} {n j k : Nat} {S : Spc} {E : XK} {X : Mu → Prop} {to : TE} {ta : TA} {dO : DE} {da : DA} [ix : XOk K o C0 E X] [io : LE K o to dO] [ia : LA K o ta da] : LE K o (tMethD K C0 C mn n j k S E to ta) (dMeth C mn n j k S X dO da) := ⟨fun {r m F I H s Q} w l h q => io.go w l h fun vx x I0 H0 m0 h0 w0 e0 rx => by
  obtain ⟨a, fs, rfl, hk, hn, h0⟩ := h0
  cases rx
  obtain ⟨dx, vs, g1, g2⟩ := w0.w.ins hk
  have g := g2.get (f := mn)
  rw [hn] at g
  refine ⟨a, dx, vs, rfl, g1, g, ia.go w0 (l.mono e0) h0 fun vs ds I1 H1 m1 h1 w1 e1 r1 => ?_⟩
  rw [List.append_nil]
  exact call_go (C := C0) (E := E) w1 (ds := .adr a :: ds) ⟨_, _, rfl, rfl, r1⟩ h1 (q.mono (e0.trans e1))⟩
/-! ### a new instance -/
def tMakeD (K : PySem.W.Frag) (C0 C : Addr) (n : Nat) (S : Spc) (E : XK) (ta : TA) : TE := tMake C (spD K C0 n S) [] E ta
def dMake (C : Addr) (n : Nat) (S : Spc) (X : Mu → Prop) (da : DA) : DE := fun r m F => da r m fun ds m1 => m1 = [] ∧ ∀ a, ds.length + 1 = n ∧ S (.adr a :: ds) [(a, .i C [])] (fun d m' => d = .non ∧ F (.adr a) m') X
instance {C0 C : Addr} {n : Nat} {S : Spc} {E : XK} {X : Mu → Prop} {ta : TA} {da : DA} [ix : XOk K o C0 E X] [ia : LA K o ta da] : LE K o (tMakeD K C0 C n S E ta) (dMake C n S X da) := ⟨fun {r m F I H s Q} w l h q => ia.go w l h fun vs ds I1 H1 m1 h1 w1 e1 r1 => by
  obtain ⟨rfl, h1⟩ := h1
  intro x dx hx hdx ne
  have w2 := w1.new hdx (.own x)
  have e2 := same_upd (o := HO.own x) (w1.w.iN hdx)
  have w3 : Wo K o _ _ [(x, .i C [])] := w2.newM (p := x) (by rw [upd_ne (Ne.symm ne)]; exact hx) (.ins C dx []) (y := .i C []) ⟨dx, [], upd_same, rfl⟩
  rw [List.append_nil]
  obtain ⟨h2, h3⟩ := h1 x
  refine ⟨?_, _, _, .adr x :: ds, _, _, w3.w, ⟨_, _, rfl, rfl, r1.mono e2⟩, h3, ?_, ?_⟩
  · rw [List.length_cons, r1.length]
    exact h2
  · rintro v d I2 H2 m2 ⟨rfl, hf⟩ w4 t4 r4
    cases r4
    have w5 := Wo.call (m1 := [(x, .i C [])]) (m2 := []) w3 w4 t4
    rw [List.append_nil] at w5
    exact ⟨rfl, q _ (.adr x) I2 H2 m2 hf w5 (e1.trans (e2.trans t4.i)) rfl⟩
  · intro dd I2 H2 m2 hx2 w4 t4
    have w5 := Wo.call (m1 := [(x, .i C [])]) (m2 := []) w3 w4 t4
    rw [List.append_nil] at w5
    exact ix.go hx2 w5⟩
end
end FC
/-! THE LOGIC, 9: rules for methods, new instances, exceptions. -/
namespace FC
open PySem PySem.Spec L2
section
variable {X : Cx} {CX : CXT} {kk : Nat} {cl mn x : Str} {ps : List Str} {n : Nat} {S : Spc} {E : XK} {p pos apos : Pos} {e ob : Expr} {es : List Expr} {to : TE} {t : TA} {C0 : Addr}
theorem pe_methD (K : PySem.W.Frag) {pl : Sem Bool} (j k : Nat) (he : PE X ob to) (c : Cls K (He.ga K cl)) (hm : Meth K (He.ga K cl) mn (He.ma K (He.ga K cl) mn)) (G : FoM X.prog X.w K X.mg X.base CX kk cl mn ps (spD K C0 n S)) (hr : Room kk X.A) (hx : Passes CX X E) (ha : PA X (e :: es) t) (hK : X.K = K := by rfl)
    (hst : starEach (e :: es) X.env = (false, eval e X.env) :: starEach es X.env := by rfl) (hpl : (backTo pos (starEach es X.env)).any (·.1) = false := by rfl)
    (ht : eval (.Call (.Attribute ob mn apos) (e :: es) [] pos) X.env = (do
      let ov ← eval ob X.env
      standAt apos.atName
      let (f, first) ← holding [ov] (getMethod ov mn pl)
      callWith pos f first (backTo pos (starEach (e :: es) X.env)) (backToKw pos (keywordEach [] X.env))) := by rfl) :
    PE X (.Call (.Attribute ob mn apos) (e :: es) [] pos) (tMethD K C0 (He.ga K cl) mn n j k S E to t) := by
  subst hK
  obtain ⟨fd, h1, h2⟩ := G.ex
  exact pe_meth he c hm h1 hr h2 .nil hx ha hst hpl ht
theorem pe_meth0D (K : PySem.W.Frag) {pl : Sem Bool} (j k : Nat) (he : PE X ob to) (c : Cls K (He.ga K cl)) (hm : Meth K (He.ga K cl) mn (He.ma K (He.ga K cl) mn)) (G : FoM X.prog X.w K X.mg X.base CX kk cl mn ps (spD K C0 n S)) (hr : Room kk X.A) (hx : Passes CX X E) (hK : X.K = K := by rfl)
    (ht : eval (.Call (.Attribute ob mn apos) [] [] pos) X.env = (do
      let ov ← eval ob X.env
      standAt apos.atName
      let (f, first) ← holding [ov] (getMethod ov mn pl)
      callWith pos f first (backTo pos (starEach [] X.env)) (backToKw pos (keywordEach [] X.env))) := by rfl) :
    PE X (.Call (.Attribute ob mn apos) [] [] pos) (tMethD K C0 (He.ga K cl) mn n j k S E to tNil) := by
  subst hK
  obtain ⟨fd, h1, h2⟩ := G.ex
  exact pe_meth0 he c hm h1 hr h2 .nil hx ht
theorem pe_mkD (K : PySem.W.Frag) (M : Mk K (He.ga K x) (He.ma K (He.ga K x) "__init__")) (G : FoM X.prog X.w K X.mg X.base CX kk x "__init__" ps (spD K C0 n S)) (hr : Room (kk + 1) X.A) (hmg : X.mg x = some (.ref (He.ga K x))) (hx : Passes CX X E) (ha : PA X (e :: es) t) (hK : X.K = K := by rfl)
    (hg : Gl X x := by rfl) (hdb : (x == ("__debug__" : Str)) = false := by decide) (he : starEach (e :: es) X.env = (false, eval e X.env) :: starEach es X.env := by rfl) (hpl : (backTo pos (starEach es X.env)).any (·.1) = false := by rfl) :
    PE X (.Call (.Name x p) (e :: es) [] pos) (tMakeD K C0 (He.ga K x) n S E t) := by
  subst hK
  obtain ⟨fd, h1, h2⟩ := G.ex
  exact pe_make M h1 hr hg hmg h2 .nil hx ha hdb he hpl
end
theorem Tx.cls {K : PySem.W.Frag} {mg : Str → Option Value} (T : Tx K mg) {x : Str} (i : Nat) (h : FC.fa[i]? = some (.cls x)) : Cls K (He.ga K x) := He.cls_ok (T.fa _ (List.mem_of_getElem? h))
theorem Tx.mkr {K : PySem.W.Frag} {mg : Str → Option Value} (T : Tx K mg) {x : Str} (i : Nat) (h : FC.fa[i]? = some (.mkr x)) : Mk K (He.ga K x) (He.ma K (He.ga K x) "__init__") := He.mkr_ok (T.fa _ (List.mem_of_getElem? h))
theorem Tx.noat {K : PySem.W.Frag} {mg : Str → Option Value} (T : Tx K mg) {x f : Str} (i : Nat) (h : FC.fa[i]? = some (.noat x f)) : NoAttr K (He.ga K x) f := He.noat_ok (T.fa _ (List.mem_of_getElem? h))
theorem Tx.meth {K : PySem.W.Frag} {mg : Str → Option Value} (T : Tx K mg) {x m : Str} (i : Nat) (h : FC.fa[i]? = some (.meth x m)) : Meth K (He.ga K x) m (He.ma K (He.ga K x) m) := He.meth_ok (T.fa _ (List.mem_of_getElem? h))
theorem FoM.mk_ {P : Program} {w : World} {K : PySem.W.Frag} {mg : Str → Option Value} {base : Heap} {CX : CXT} {k : Nat} {ps : List Str} {sp : Sp} (T : Tx K mg) (i : Nat) {d : He.DefD} {cl x : Str} (hd : FC.fn[i]? = some d) (hx : d.at_ = (cl, some x)) (hdf : d.dfl = []) (hkw : d.kwd = [])
    (hb : ∀ (kV doc pm : Value) (an : Option Addr) (cdv ct : Value) (us : List Value), us.length = ps.length → bindArgs (PySem.W.fnOf d.name d.qual d.params d.body d.scope .none kV doc pm an cdv ct) ⟨us, []⟩ = pure (ps.zip us))
    (F : ∀ f fd, FunD K d.name d.qual d.params d.body d.scope [] [] f fd → FnOk P w K mg base CX k f fd ps sp) : FoM P w K mg base CX k cl x ps sp := by
  obtain ⟨fd, h⟩ := T.fn d (List.mem_of_getElem? hd)
  have e1 : d.dvs K = [] := by unfold He.DefD.dvs; rw [hdf]; rfl
  have e2 : d.kws K = [] := by unfold He.DefD.kws; rw [hkw]; rfl
  rw [e1, e2] at h
  have e3 : He.fAd K d.at_ = He.ma K (He.ga K cl) x := by rw [hx]; rfl
  rw [e3] at h
  exact ⟨fd, F _ fd h, h.bindsN hb⟩
/-! ### raise NoCases(e) -/
theorem Tx.oex {K : PySem.W.Frag} {mg : Str → Option Value} (T : Tx K mg) : OexC K (NC K) ∧ PySem.W.findIn K (.ref (NC K)) "__init__" = some (some (.ref (He.ma K (NC K) "__init__"))) ∧ PySem.W.typeIn K (.ref (He.ma K (NC K) "__init__")) = some (.type "function") := by
  have h := T.ex
  unfold exB at h
  obtain ⟨_, h⟩ := He.ba h
  obtain ⟨h1, h⟩ := He.ba h
  obtain ⟨h2, h⟩ := He.ba h
  obtain ⟨h3, h⟩ := He.ba h
  obtain ⟨h4, h⟩ := He.ba h
  obtain ⟨h5, h⟩ := He.ba h
  obtain ⟨h6, h7⟩ := He.ba h
  exact ⟨⟨oexB_ok h1, He.eqO_ok h2, of_decide_eq_true h3, of_decide_eq_true h4, h5⟩, He.eqO_ok h6, of_decide_eq_true h7⟩
/-- NoCases.__init__ -/
def spNC (K : PySem.W.Frag) : Sp := fun vs H Q _ => vs.length = 2 ∧ ∃ a v, vs = [.ref a, v] ∧ H a = some (exo a (NC K) none) ∧ ∀ dx, H dx = none → dx ≠ a → Q .non (upd (upd H dx (exd dx [("path", v)])) a (exo a (NC K) (some dx)))
def tRaiseD (C : Addr) (sp : Sp) (E : XK) (ta : TA) : TS := fun _ σ H => tMkO C sp [] ta σ H fun cls d H' => E cls d H'
theorem ps_raiseD (K : PySem.W.Frag) {mg : Str → Option Value} (T : Tx K mg) {X : Cx} {CX : CXT} {kk : Nat} {E : XK} {e : Expr} {es : List Expr} {ta : TA} {p pos pos' : Pos} (tk : L2.Takes X (fun cls d _ H => E cls d H)) (G : FoM X.prog X.w K mg X.base CX kk "NoCases" "__init__" ["self", "path"] (spNC K)) (hr : Room (kk + 1) X.A) (hx : Passes CX X (fun _ _ _ => False)) (ha : PA X (e :: es) ta)
    (hmg : mg "NoCases" = some (.ref (NC K))) (hc : X.calm = true := by rfl) (hK : X.K = K := by rfl) (hm : X.mg = mg := by rfl) (hg : Gl X "NoCases" := by rfl) (he : starEach (e :: es) X.env = (false, eval e X.env) :: starEach es X.env := by rfl) (hpl : (backTo pos (starEach es X.env)).any (·.1) = false := by rfl) :
    PS X (.Raise (some (.Call (.Name "NoCases" p) (e :: es) [] pos)) none pos') (tRaiseD (NC K) (spNC K) E ta) := by
  subst hK
  subst hm
  obtain ⟨fd, h1, h2⟩ := G.ex
  obtain ⟨o1, o2, o3⟩ := T.oex
  exact ps_raise hc tk (pmk_oex o1 o2 o3 h1 hr h2 .nil hx hg hmg ha (by decide) he hpl)
section
variable {K : PySem.W.Frag} {o : Og}
def dRaise (X : Mu → Prop) (da : DA) : DS := fun _ r m => da r m fun ds m1 => (∃ d, ds = [d]) ∧ X m1
instance {E : XK} {X : Mu → Prop} {ta : TA} {da : DA} [ix : XOk K o (NC K) E X] [ia : LA K o ta da] : LS K o (tRaiseD (NC K) (spNC K) E ta) (dRaise X da) := ⟨fun {r m I H s F Q} w l h p => ia.go w l h fun vs ds I1 H1 m1 h1 w1 e1 r1 => by
  obtain ⟨⟨d, rfl⟩, hX⟩ := h1
  obtain ⟨v, rfl, rv⟩ := reps1 r1
  refine ⟨by simp, fun a ha => ⟨rfl, a, v, rfl, upd_same, fun dx hdx ne => ⟨rfl, dx, [("path", v)], upd_same, ?_, ?_, ?_⟩⟩⟩
  · rw [upd_ne ne, upd_same]
  · rw [upd_ne ne] at hdx
    exact hdx
  · rw [upd_ne ne] at hdx
    have e : upd (del (upd (upd (upd H1 a (exo a (NC K) none)) dx (exd dx [("path", v)])) a (exo a (NC K) (some dx))) a) dx (.xd [("path", v)]) = upd H1 dx (.xd [("path", v)]) := by
      funext b
      by_cases hb : b = dx
      · subst hb
        rw [upd_same, upd_same]
      · rw [upd_ne hb, upd_ne hb]
        by_cases hba : b = a
        · subst hba
          rw [del_same, ha]
        · rw [del_ne hba, upd_ne hba, upd_ne hb, upd_ne hba]
    rw [e]
    exact ix.go hX (w1.new hdx _)⟩
end
/-! ### a list and one that may change, the object k -/
section
variable {K : PySem.W.Frag} {o : Og}
def rAddMk (k : Nat) : R2 := rAddA
theorem o_addM {X : Cx} (k : Nat) : OpR X (binaryOp .Add) (rAddMk k) := o_add
def dAddM (k : Nat) : D → D → Mu → VP → Prop := fun x y m F => ∃ a ds es, x = .lst ds ∧ y = .adr a ∧ m[k]? = some (a, .l es) ∧ ds.length + es.length ≤ sizeLine ∧ F (.lst (ds ++ es)) m
instance {k : Nat} : LR K o (rAddMk k) (dAddM k) := ⟨fun {x y vx vy m F I H Q} w rx ry h q => by
  obtain ⟨a, ds, es, rfl, rfl, hk, hl, h⟩ := h
  cases ry
  obtain ⟨p, vs, rfl, h1, h2⟩ := rx
  obtain ⟨us, g1, g2⟩ := w.w.lst hk
  refine .inr (.inr ⟨p, a, vs, us, rfl, rfl, w.w.sub _ _ h1, g1, by rw [h2.length, g2.length]; exact hl, fun b hb => q.new w hb h fun e => ⟨b, _, rfl, upd_same, (h2.mono e).append (g2.mono e)⟩⟩)⟩
end
end FC
/-! THE WALK, 5: lengthenings; wholes; what is reached. -/
namespace FC
open PySem PySem.Spec L2
local macro_rules | `(tactic| walk_at "d") => `(tactic| try simp only [dVar, dC, dOp, dUn, dAdd, dSub, dMul, dMod, dDiv, dPow, dNeg, dCmp, dEq, dNe, dEqv, dIsN, dNotN, isNon, dIn, inD, dInM, dIx, ixDs, dIxM, dChain, dB, asB, dAnd, dOr, dNot, dAndV, dOrV, dNotV, dIf, dNil, dCons, dTup, dLst, dLstM, dDic0, dDicM, dDisp1,
  dCB, dLen, dLenM, dAbs, dMax2, dMin2, dInt, dBool, dStr, dList, dListN, dListM, dTuple, dSorted, dDicC, dIsi, tyD_non, tyD_bl, tyD_int, tyD_str, tyD_lst, tyD_tup, tyD_dic, dNoPart, asI, dPart, dSl, dRev, dApp, dPopI, dRem, dEqNil, dEqNilM, dGet, dDGetM, dDGet, dDInM, dDInA, dDPopM, dEqD0, dEqDM, dJoin, dNext, dSeq, dDrop, dRet, dIfS, dNever, dgName, dgNil, dgCons, dgTup, dAsg, dSubM, dDPutM, dPar, dAug, dFrz, frzD, dFgt,
  diLst, diTup, diLstM, diRng1, diRng2, diStr, diEnum, diZip, dYes, dCall, endsD, startD, wipeD, dom,
  isTy_0_0, isTy_0_1, isTy_0_2, isTy_0_3, isTy_0_4, isTy_1_0, isTy_1_1, isTy_1_2, isTy_1_3, isTy_1_4, isTy_2_0, isTy_2_1, isTy_2_2, isTy_2_3, isTy_2_4, isTy_3_0, isTy_3_1, isTy_3_2, isTy_3_3, isTy_3_4, isTy_4_0, isTy_4_1, isTy_4_2, isTy_4_3, isTy_4_4, isTy_5_0, isTy_5_1, isTy_5_2, isTy_5_3, isTy_5_4, isTy_6_0, isTy_6_1, isTy_6_2, isTy_6_3, isTy_6_4,
  Int.cast_ofNat_Int, decide_true, decide_false, Int.reduceEq, Int.reduceLT, Int.reduceLE, atI_0, atI_1, atI_2, atI_3, atI_4, List.length_map, List.map_cons, List.map_nil, List.length_cons, List.length_nil, Nat.reduceAdd, Nat.reduceSub, List.reduceReplicate, List.cons_append, List.nil_append, List.append_nil, List.getElem?_cons_zero, List.getElem?_cons_succ, List.getElem?_nil, List.set_cons_zero, List.set_cons_succ, List.take_zero, List.drop_zero, List.take_succ_cons, List.drop_succ_cons,
  List.eraseIdx_cons_zero, List.eraseIdx_cons_succ, true_and, and_true, eq_self, and_self, if_true, if_false, Bool.false_eq_true, reduceIte, Bool.not_true, Bool.not_false, forall_const, exists_eq_left, exists_eq_left', exists_eq_right, exists_eq_right', exists_and_left, exists_const, D.adr.injEq, D.str.injEq, D.int.injEq, D.lst.injEq, D.tup.injEq, D.bl.injEq, Option.some.injEq, Prod.mk.injEq, MO.l.injEq, MO.d.injEq, List.cons.injEq, Function.const_apply, dLock, lckE, dDGetK, dFld, dSetF, dMeth, dMake, dRaise, diKeys, dGet, dAddM, List.not_mem_nil, false_implies, implies_true, List.mem_singleton, forall_eq, Option.isSome_none, Option.isSome_some, lcRes, exists_eq, exists_eq', List.length_append, List.length_singleton])

theorem ixN_nat {n j : Nat} (hj : j < n) : ixN n (j : Int) = some j := by
  unfold ixN
  rw [if_pos (by omega), if_pos (by omega)]
  simp
structure AddsOk (w : Web) (adds : List Rat) : Prop where
  len : adds.length = w.ties.length
  ok : ∀ q ∈ adds, 0 ≤ q ∧ Sz 1 q
def lensL (w : Web) (adds : List Rat) (T : List Nat) : List Rat := (List.range w.ties.length).map (addL w adds T)
theorem lensL_len (w : Web) (adds : List Rat) (T : List Nat) : (lensL w adds T).length = w.ties.length := by simp [lensL]
theorem lensL_get {w : Web} {adds : List Rat} {T : List Nat} {k : Nat} (h : k < w.ties.length) : (lensL w adds T)[k]? = some (addL w adds T k) := by
  unfold lensL
  rw [List.getElem?_map, List.getElem?_range h]
  rfl
theorem addL_at {w : Web} {adds : List Rat} {T : List Nat} {k : Nat} {t : Tie} (ht : w.ties[k]? = some t) : addL w adds T k = t.len + if k ∈ T then adds.getD k 0 else 0 := by
  unfold addL
  rw [ht]
  rfl
theorem addL_sz {w : Web} {adds : List Rat} (hw : WebOk w) (ha : AddsOk w adds) (T : List Nat) {k : Nat} (h : k < w.ties.length) : Sz 2 (addL w adds T k) ∧ 0 ≤ addL w adds T k := by
  have ht : w.ties[k]? = some w.ties[k] := List.getElem?_eq_getElem h
  rw [addL_at ht]
  have h1 := hw.tie _ (List.mem_of_getElem? ht)
  split
  · have hk : k < adds.length := by rw [ha.len]; exact h
    have e : adds.getD k 0 = adds[k] := by rw [List.getD_eq_getElem?_getD, List.getElem?_eq_getElem hk]; rfl
    rw [e]
    have h2 := ha.ok _ (List.getElem_mem hk)
    exact ⟨h1.sz.add h2.2 (by decide) (by decide), Rat.add_nonneg h1.len h2.1⟩
  · rw [Rat.add_zero]
    exact ⟨h1.sz.mono (by decide), h1.len⟩
theorem lensL_set {w : Web} {adds : List Rat} {T : List Nat} {k : Nat} (h : k < w.ties.length) (hk : k ∉ T) (v : Rat) (hv : v = addL w adds T k + adds.getD k 0) : (lensL w adds T).set k v = lensL w adds (T ++ [k]) := by
  refine List.ext_getElem? fun i => ?_
  by_cases hi : i < w.ties.length
  · rw [lensL_get hi]
    have ht : w.ties[i]? = some w.ties[i] := List.getElem?_eq_getElem hi
    by_cases e : k = i
    · subst e
      rw [List.getElem?_set_self (by rw [lensL_len]; exact h), hv, addL_at ht, addL_at ht, if_neg hk, if_pos (by simp), Rat.add_zero]
    · rw [List.getElem?_set_ne e, lensL_get hi, addL_at ht, addL_at ht]
      congr 2
      have : i ∈ T ++ [k] ↔ i ∈ T := by simp [Ne.symm e]
      by_cases hT : i ∈ T
      · rw [if_pos hT, if_pos (this.mpr hT)]
      · rw [if_neg hT, if_neg (fun z => hT (this.mp z))]
  · rw [List.getElem?_eq_none (by rw [List.length_set, lensL_len]; omega), List.getElem?_eq_none (by rw [lensL_len]; omega)]
abbrev S_longer_lengths : Spc := fun ds m F X => ∃ (w : Web) (adds : List Rat) (ks : List Nat), ds = [webD w, .lst (adds.map fD), tk ks] ∧ m = [] ∧ WebOk w ∧ AddsOk w adds ∧ (∀ k ∈ ks, k < w.ties.length) ∧ ks.Nodup ∧ F (.lst ((lensL w adds ks).map fD)) []
def J_ll (w : Web) (adds : List Rat) (ks : List Nat) (i : Nat) (r : Rho) (m : Mu) : Prop := ∃ (a : Addr) (o1 o2 : Option D), r = [some (webD w), some (.lst (adds.map fD)), some (tk ks), o1, some (.adr a), o2] ∧ m = [(a, .l ((lensL w adds (ks.take i)).map fD))]
theorem fds_at {l : List Rat} {k : Nat} {q : Rat} (h : l[k]? = some q) : (l.map fD)[k]? = some (fD q) := by rw [List.getElem?_map, h]; rfl
theorem sc_longer_lengths : FnScope ["web", "adds", "lengthening", "tie", "found", "k"] ["web", "adds", "lengthening"] (defScope s_longer_lengths) := ⟨rfl, rfl, rfl, by decide +kernel, rfl, by decide +kernel, by decide +kernel⟩
theorem ok_longer_lengths {P : Program} {w : World} {K : PySem.W.Frag} {mg : Str → Option Value} {base : Heap} (T : Tx K mg) (G_plus : Fo P w K mg base CX0 3 "plus" ["one", "other"] (spD K (NC K) 2 S_plus)) : Fo P w K mg base CX0 4 "longer_lengths" ["web", "adds", "lengthening"] (spD K (NC K) 3 S_longer_lengths) := by
  refine Fo.mk_ T 39 38 rfl rfl rfl rfl rfl (fun _ _ _ _ _ _ us hl => match us, hl with | [_, _, _], _ => rfl) fun f fd F => ok_pure 0 F sc_longer_lengths rfl fun cdv A outer s H E I m ds Fv X hr h => ?_
  refine ⟨_, _, (pss_cons (as_lcM [3] (ps_setLc (i := 4) (own := [("tie", 3)]) rfl sc_longer_lengths.nd rfl rfl (sw_true rfl rfl rfl (by decide +kernel)) (pi_list (pe_ix (o_ixK K) (pv 0) pe_int (fun _ _ => rfl))) (blkOk_by (own := [("tie", 3)]) (N := ["web", "adds", "lengthening", "tie", "found", "k"]) (sc := defScope s_longer_lengths) (by decide +kernel)) (fun _ _ _ _ _ => (pg_name (i := 3) sc_longer_lengths.nd rfl (.inl rfl))) (fun _ _ _ _ _ => pts_nil) (fun _ _ _ _ _ => (pe_ix (o_ixK K) (pv 3) pe_int (fun _ _ => rfl)))))
    (pss_cons (ps_for PassesOwn.never rfl (pi_list (pv 2)) (pg_name (i := 5) sc_longer_lengths.nd rfl (.inl rfl))
    (pss_one (as_set 0 (ps_asg (pe_ownK K 0 G_plus (hr.mono (by decide)) pass0 (pa_cons (pe_ix (o_ixM 0) (pv 4) (pv 5) (fun _ _ => rfl)) (pa_cons (pe_ix (o_ixK K) (pv 1) (pv 5) (fun _ _ => rfl)) pa_nil))) (pg_sub (pv 4) (pv 5) set_list)))))
    (pss_frz 4 0 (pss_one (ps_ret (pv 4)))))), (by (try dsimp only [cxOf]); infer_instance), ?_⟩
  obtain ⟨w', adds, ks, rfl, rfl, hw, ha, hk, nd, h⟩ := h
  walk_at "d"
  refine lc_map (List.range w'.ties.length) (fun k => tieD (w'.ties[k]?.getD ⟨"", "", false, 0, none⟩)) (fun k => fD (addL w' adds [] k)) anyMu (fun G h => ?_) (fun _ => trivial) (by rw [List.length_range]; have := hw.tl; omega) ?_ ?_
  · walk_at "d"
    have e : (List.range w'.ties.length).map (fun k => tieD (w'.ties[k]?.getD ⟨"", "", false, 0, none⟩)) = w'.ties.map tieD := by
      refine List.ext_getElem? fun i => ?_
      rw [List.getElem?_map, List.getElem?_map]
      by_cases hi : i < w'.ties.length
      · rw [List.getElem?_range hi, List.getElem?_eq_getElem hi]
        simp [List.getElem?_eq_getElem hi]
      · rw [List.getElem?_eq_none (by simpa using hi), List.getElem?_eq_none (by simpa using hi)]
        rfl
    rw [e] at h
    exact h
  · intro k hkm t G E hG
    rw [List.mem_range] at hkm
    have ht : w'.ties[k]? = some w'.ties[k] := List.getElem?_eq_getElem hkm
    rw [addL_at ht, if_neg (by simp), Rat.add_zero] at hG
    rw [ht, Option.getD_some]
    walk_at "d"
    exact hG
  · walk_at "d"
    intro a
    refine ⟨fun i r m => J_ll w' adds ks i r m, ⟨a, _, _, rfl, ?_⟩, fun _ _ _ _ => trivial, ?_, ?_⟩
    · rw [List.take_zero]
      unfold lensL
      rw [List.map_map]
      rfl
    · rintro i d r m' hi ⟨a, o1, o2, rfl, rfl⟩
      obtain ⟨k, hik, rfl⟩ := ints_at hi
      obtain ⟨hlt, ek⟩ := List.getElem?_eq_some_iff.mp hik
      have hkl := hk k (List.mem_of_getElem? hik)
      have hkn : k ∉ ks.take i := fun z => by
        obtain ⟨j, hj, e2⟩ := List.mem_iff_getElem.mp z
        rw [List.getElem_take] at e2
        rw [List.length_take] at hj
        have := (List.getElem_inj nd).mp (e2.trans ek.symm)
        omega
      have hka : k < adds.length := by rw [ha.len]; exact hkl
      have h2 := addL_sz hw ha (ks.take i) hkl
      have h3 := ha.ok _ (List.getElem_mem hka)
      walk_at "d"
      rw [atN (fds_at (lensL_get hkl)), atN (fds_at (List.getElem?_eq_getElem hka))]
      walk_at "d"
      refine ⟨_, _, 2, 1, rfl, h2.1, h3.2, by decide, by decide, by decide, ?_⟩
      walk_at "d"
      refine ⟨k, ixN_nat (by rw [lensL_len]; exact hkl), a, _, _, rfl, ?_⟩
      rw [← List.map_set, List.take_succ_eq_append_getElem hlt, ek, lensL_set hkl hkn]
      rw [List.getD_eq_getElem?_getD, List.getElem?_eq_getElem hka]
      rfl
    · rintro r m' ⟨a, o1, o2, rfl, rfl⟩
      rw [List.length_map, List.take_length]
      walk_at "d"
      exact h
/-- bounded denominators -/
abbrev S_common_of : Spc := fun ds m F X => ∃ (qs : List Rat), ds = [.lst (qs.map fD)] ∧ (∀ q ∈ qs, Sz 2 q) ∧ qs.length ≤ 24 ∧ ∀ c : Nat, 0 < c → c < 2 ^ 400 → F (.int (c : Nat)) []
def J_com (qs : List Rat) (i : Nat) (r : Rho) : Prop := ∃ (c : Nat) (o : Option D), r = [some (.lst (qs.map fD)), some (.int (c : Nat)), o] ∧ 0 < c ∧ c < 2 ^ (16 * i + 1)
theorem sc_common_of : FnScope ["some", "found", "one"] ["some"] (defScope s_common_of) := ⟨rfl, rfl, rfl, by decide +kernel, rfl, by decide +kernel, by decide +kernel⟩
theorem ok_common_of {P : Program} {w : World} {K : PySem.W.Frag} {mg : Str → Option Value} {base : Heap} (T : Tx K mg) (G_divisor : Fo P w K mg base CX0 1 "divisor" ["one", "other"] (spD K (NC K) 2 S_divisor)) : Fo P w K mg base CX0 2 "common_of" ["some"] (spD K (NC K) 1 S_common_of) := by
  refine Fo.mk_ T 29 28 rfl rfl rfl rfl rfl (fun _ _ _ _ _ _ us hl => match us, hl with | [_], _ => rfl) fun f fd F => ok_pure 0 F sc_common_of rfl fun cdv A outer s H E I m ds Fv X hr h => ?_
  refine ⟨_, _, (pss_cons (ps_set (i := 1) sc_common_of.nd rfl (.inl rfl) pe_int)
    (pss_cons (ps_for PassesOwn.never rfl (pi_list (pv 0)) (pg_name (i := 2) sc_common_of.nd rfl (.inl rfl))
    (pss_one (ps_set (i := 1) sc_common_of.nd rfl (.inl rfl) (pe_op o_fdiv (pe_op o_mul (pv 1) (pe_ix (o_ixK K) (pv 2) pe_int (fun _ _ => rfl))) (pe_ownK K 0 G_divisor (hr.mono (by decide)) pass0 (pa_cons (pv 1) (pa_cons (pe_ix (o_ixK K) (pv 2) pe_int (fun _ _ => rfl)) pa_nil)))))))
    (pss_one (ps_ret (pv 1))))), (by (try dsimp only [cxOf]); infer_instance), ?_⟩
  obtain ⟨qs, rfl, hs, hl, h⟩ := h
  walk_at "d"
  refine ⟨fun i r _ => J_com qs i r, ⟨1, none, rfl, by decide, by decide⟩, fun _ _ _ _ => trivial, ?_, ?_⟩
  · rintro i d r m' hi ⟨c, o, rfl, hc0, hc⟩
    have hi : (qs.map fD)[i]? = some d := hi
    rw [List.getElem?_map] at hi
    cases e : qs[i]? with
    | none => rw [e] at hi; cases hi
    | some q =>
      rw [e] at hi
      cases hi
      have hq := (hs q (List.mem_of_getElem? e)).2
      have hi : i < qs.length := (List.getElem?_eq_some_iff.mp e).1
      have h16 : (2 : Nat) ^ (16 * i + 1) ≤ 2 ^ 400 := Nat.pow_le_pow_right (by decide) (by omega)
      have hg0 : 0 < Int.gcd (c : Nat) (q.den : Nat) := Nat.gcd_pos_of_pos_left _ hc0
      have hgl : Int.gcd (c : Nat) (q.den : Nat) ≤ c := Nat.gcd_le_left _ hc0
      walk_at "d"
      refine ⟨mulW (a := 400) (b := 16) (by rw [Int.natAbs_natCast]; omega) (by rw [Int.natAbs_natCast]; exact hq) (by decide) (by decide) (by decide), _, _, rfl, ?_⟩
      walk_at "d"
      refine ⟨wide_div (by omega) (b := 400) (by rw [Int.natAbs_natCast]; exact Nat.lt_of_le_of_lt hgl (by omega)) (by decide) (by decide), ?_⟩
      refine ⟨c * q.den / Int.gcd (c : Nat) (q.den : Nat), some (fD q), ?_, ?_, ?_⟩
      · rw [Int.natCast_ediv, Int.natCast_mul]
      · refine Nat.div_pos ?_ hg0
        exact Nat.le_trans hgl (Nat.le_mul_of_pos_right _ q.den_pos)
      · refine Nat.lt_of_le_of_lt (Nat.div_le_self _ _) ?_
        have e3 : 16 * (i + 1) + 1 = (16 * i + 1) + 16 := by omega
        rw [e3, Nat.pow_add]
        exact Nat.mul_lt_mul'' hc hq
  · rintro r m' ⟨c, o, rfl, hc0, hc⟩
    walk_at "d"
    refine h c hc0 (Nat.lt_of_lt_of_le hc (Nat.pow_le_pow_right (by decide) ?_))
    rw [List.length_map]
    omega
def wholeI (q : Rat) (c : Nat) : Int := q.num * ((c / q.den : Nat) : Int)
theorem wholeI_bd {q : Rat} {c : Nat} (hq : Sz 2 q) (hc : c < 2 ^ 400) : (wholeI q c).natAbs ≤ 2 ^ 912 := by
  have h2 : c / q.den < 2 ^ 400 := Nat.lt_of_le_of_lt (Nat.div_le_self _ _) hc
  unfold wholeI
  rw [Int.natAbs_mul, Int.natAbs_natCast, show 912 = 512 + 400 from rfl, Nat.pow_add]
  exact Nat.mul_le_mul (Nat.le_of_lt hq.1) (Nat.le_of_lt h2)
abbrev S_whole_of : Spc := fun ds m F X => ∃ (q : Rat) (c : Nat), ds = [fD q, .int (c : Nat)] ∧ Sz 2 q ∧ 0 < c ∧ c < 2 ^ 400 ∧ F (.int (wholeI q c)) []
theorem sc_whole_of : FnScope ["one", "part"] ["one", "part"] (defScope s_whole_of) := ⟨rfl, rfl, rfl, by decide +kernel, rfl, by decide +kernel, by decide +kernel⟩
theorem ok_whole_of {P : Program} {w : World} {K : PySem.W.Frag} {mg : Str → Option Value} {base : Heap} (T : Tx K mg) : Fo P w K mg base CX0 1 "whole_of" ["one", "part"] (spD K (NC K) 2 S_whole_of) := by
  refine Fo.mk_ T 30 29 rfl rfl rfl rfl rfl (fun _ _ _ _ _ _ us hl => match us, hl with | [_, _], _ => rfl) fun f fd F => ok_pure 0 F sc_whole_of rfl fun cdv A outer s H E I m ds Fv X hr h => ?_
  refine ⟨_, _, (pss_one (ps_ret (pe_op o_mul (pe_ix (o_ixK K) (pv 0) pe_int (fun _ _ => rfl)) (pe_op o_fdiv (pv 1) (pe_ix (o_ixK K) (pv 0) pe_int (fun _ _ => rfl)))))), (by (try dsimp only [cxOf]); infer_instance), ?_⟩
  obtain ⟨q, c, rfl, hq, hc0, hc, h⟩ := h
  walk_at "d"
  have h1 : ((c : Int) / (q.den : Int)) = ((c / q.den : Nat) : Int) := by rw [Int.natCast_ediv]
  have h2 : c / q.den < 2 ^ 400 := Nat.lt_of_le_of_lt (Nat.div_le_self _ _) hc
  have h3 : CDivW (c : Int) (q.den : Int) := wide_div (by have := q.den_pos; omega) (b := 16) (by rw [Int.natAbs_natCast]; exact hq.2) (by decide) (by decide)
  rw [h1]
  have h4 : CMulW q.num ((c / q.den : Nat) : Int) := mulW (a := 512) (b := 400) hq.1 (by rw [Int.natAbs_natCast]; exact h2) (by decide) (by decide) (by decide)
  exact ⟨h3, h4, h⟩
abbrev S_is_longer : Spc := fun ds m F X => ∃ (p q : Rat), ds = [fD p, fD q] ∧ Sz 50 p ∧ Sz 50 q ∧ ∀ b, F (.bl b) []
theorem sc_is_longer : FnScope ["length", "other"] ["length", "other"] (defScope s_is_longer) := ⟨rfl, rfl, rfl, by decide +kernel, rfl, by decide +kernel, by decide +kernel⟩
theorem ok_is_longer {P : Program} {w : World} {K : PySem.W.Frag} {mg : Str → Option Value} {base : Heap} (T : Tx K mg) (G_is_less : Fo P w K mg base CX0 1 "is_less" ["one", "other"] (spD K (NC K) 2 S_is_less)) : Fo P w K mg base CX0 2 "is_longer" ["length", "other"] (spD K (NC K) 2 S_is_longer) := by
  refine Fo.mk_ T 37 36 rfl rfl rfl rfl rfl (fun _ _ _ _ _ _ us hl => match us, hl with | [_, _], _ => rfl) fun f fd F => ok_pure 0 F sc_is_longer rfl fun cdv A outer s H E I m ds Fv X hr h => ?_
  refine ⟨_, _, (pss_cons (ps_if (PW.pt (pw_or (pt_cmpR o_is (pv 0) pe_non (nomark _)) (pw_or1 (pt_cmpR o_is (pv 1) pe_non (nomark _))))) (pss_one (ps_ret (pe_and (pe_cmpR o_is (pv 0) pe_non (nomark _)) (pe_one (pe_cmpR o_isnot (pv 1) pe_non (nomark _)))))) pss_nil)
    (pss_one (ps_ret (pe_ownK K 0 G_is_less (hr.mono (by decide)) pass0 (pa_cons (pv 1) (pa_cons (pv 0) pa_nil)))))), (by (try dsimp only [cxOf]); infer_instance), ?_⟩
  obtain ⟨p, q, rfl, hp, hq, h⟩ := h
  walk_at "d"
  refine ⟨q, p, 50, 50, rfl, hq, hp, by decide, by decide, by decide, ?_⟩
  walk_at "d"
  exact h _
abbrev S_nearest : Spc := fun ds m F X => ∃ (a : Addr) (kvs : List (Str × D)), ds = [.adr a] ∧ m = [(a, .d kvs)] ∧ kvs ≠ [] ∧ (∀ z ∈ keysD kvs, ∃ (f : Int) (x y : D), dget kvs z = some (.tup [.int f, x, y])) ∧ ∀ z ∈ keysD kvs, F (.str z) [(a, .d kvs)]
def J_near (a : Addr) (kvs : List (Str × D)) (x : Obj) (vs : List (Key × V)) (i : Nat) (r : Rho) (m : Mu) : Prop := ∃ (o : Option D) (d : D), r = [some (.adr a), some d, o] ∧ m = [(a, .k x kvs vs)] ∧ ((i = 0 ∧ d = .non) ∨ ∃ z ∈ keysD kvs, d = .str z)
theorem sc_nearest : FnScope ["waiting", "found", "place"] ["waiting"] (defScope s_nearest) := ⟨rfl, rfl, rfl, by decide +kernel, rfl, by decide +kernel, by decide +kernel⟩
theorem ok_nearest {P : Program} {w : World} {K : PySem.W.Frag} {mg : Str → Option Value} {base : Heap} (T : Tx K mg) : Fo P w K mg base CX0 1 "nearest" ["waiting"] (spD K (NC K) 1 S_nearest) := by
  refine Fo.mk_ T 31 30 rfl rfl rfl rfl rfl (fun _ _ _ _ _ _ us hl => match us, hl with | [_], _ => rfl) fun f fd F => ok_pure 1 F sc_nearest rfl fun cdv A outer s H E I m ds Fv X hr h => ?_
  have hu := hu_of hr
  refine ⟨_, _, (pss_cons (ps_set (i := 1) sc_nearest.nd rfl (.inl rfl) pe_non)
    (pss_cons (ps_lockM 0 (ps_for PassesOwn.never rfl (pi_keysK 0 (pv 0)) (pg_name (i := 2) sc_nearest.nd rfl (.inl rfl))
    (pss_one (ps_if (PW.pt (pw_or (pt_cmpR o_is (pv 1) pe_non (nomark _)) (pw_or1 (pt_cmpR o_lt (pe_ix (o_ixK K) (pe_dgetK 0 (pe_dget hu (pv 0) (pv 2) (fun _ _ => rfl))) pe_int (fun _ _ => rfl)) (pe_ix (o_ixK K) (pe_dgetK 0 (pe_dget hu (pv 0) (pv 1) (fun _ _ => rfl))) pe_int (fun _ _ => rfl)) (nomark _))))) (pss_one (ps_set (i := 1) sc_nearest.nd rfl (.inl rfl) (pv 2))) pss_nil))))
    (pss_one (ps_ret (pv 1))))), (by (try dsimp only [cxOf]); infer_instance), ?_⟩
  obtain ⟨a, kvs, rfl, rfl, hn, hv, h⟩ := h
  walk_at "d"
  refine ⟨a, kvs, ⟨rfl, rfl⟩, fun x vs => ?_⟩
  have h0 : ∀ z ∈ keysD kvs, ∃ d, dget kvs z = some d := fun z hz => by
    obtain ⟨f, x, y, e⟩ := hv z hz
    exact ⟨_, e⟩
  refine ⟨a, x, kvs, vs, rfl, rfl, fun i r m => J_near a kvs x vs i r m, ⟨none, .non, rfl, rfl, .inl ⟨rfl, rfl⟩⟩, fun i r m ⟨_, _, _, h2, _⟩ => by rw [h2]; rfl, ?_, ?_⟩
  · rintro i d r m' hi ⟨o, d', rfl, rfl, hd⟩
    rw [List.getElem?_map] at hi
    cases e : (keysD kvs)[i]? with
    | none => rw [e] at hi; cases hi
    | some z =>
      rw [e] at hi
      cases hi
      have hz : z ∈ keysD kvs := List.mem_of_getElem? e
      rcases hd with ⟨rfl, rfl⟩ | ⟨y, hy, rfl⟩
      · walk_at "d"
        exact ⟨_, _, rfl, rfl, .inr ⟨z, hz, rfl⟩⟩
      · obtain ⟨f, x1, y1, e1⟩ := hv z hz
        obtain ⟨g, x2, y2, e2⟩ := hv y hy
        walk_at "d"
        refine ⟨x, kvs, vs, rfl, ?_⟩
        rw [e1]
        walk_at "d"
        refine ⟨x, kvs, vs, rfl, ?_⟩
        rw [e2]
        walk_at "d"
        split
        · exact ⟨_, _, rfl, rfl, .inr ⟨z, hz, rfl⟩⟩
        · exact ⟨_, _, rfl, rfl, .inr ⟨y, hy, rfl⟩⟩
  · rintro r m' ⟨o, d', rfl, rfl, hd⟩
    walk_at "d"
    rcases hd with ⟨h1, rfl⟩ | ⟨y, hy, rfl⟩
    · rw [List.length_map] at h1
      unfold keysD at h1
      rw [List.length_map] at h1
      exact absurd (List.length_eq_zero_iff.mp h1) hn
    · exact h y hy
end FC
set_option synthInstance.maxSize 100000
set_option synthInstance.maxHeartbeats 400000
/-! THE WALK, 6: what is reached; the least way. -/
namespace FC
open PySem PySem.Spec L2
local macro_rules | `(tactic| walk_at "d") => `(tactic| try simp only [dVar, dC, dOp, dUn, dAdd, dSub, dMul, dMod, dDiv, dPow, dNeg, dCmp, dEq, dNe, dEqv, dIsN, dNotN, isNon, dIn, inD, dInM, dIx, ixDs, dIxM, dChain, dB, asB, dAnd, dOr, dNot, dAndV, dOrV, dNotV, dIf, dNil, dCons, dTup, dLst, dLstM, dDic0, dDicM, dDisp1,
  dCB, dLen, dLenM, dAbs, dMax2, dMin2, dInt, dBool, dStr, dList, dListN, dListM, dTuple, dSorted, dDicC, dIsi, tyD_non, tyD_bl, tyD_int, tyD_str, tyD_lst, tyD_tup, tyD_dic, dNoPart, asI, dPart, dSl, dRev, dApp, dPopI, dRem, dEqNil, dEqNilM, dGet, dDGetM, dDGet, dDInM, dDInA, dDPopM, dEqD0, dEqDM, dJoin, dNext, dSeq, dDrop, dRet, dIfS, dNever, dgName, dgNil, dgCons, dgTup, dAsg, dSubM, dDPutM, dPar, dAug, dFrz, frzD, dFgt,
  diLst, diTup, diLstM, diRng1, diRng2, diStr, diEnum, diZip, dYes, dCall, endsD, startD, wipeD, dom,
  isTy_0_0, isTy_0_1, isTy_0_2, isTy_0_3, isTy_0_4, isTy_1_0, isTy_1_1, isTy_1_2, isTy_1_3, isTy_1_4, isTy_2_0, isTy_2_1, isTy_2_2, isTy_2_3, isTy_2_4, isTy_3_0, isTy_3_1, isTy_3_2, isTy_3_3, isTy_3_4, isTy_4_0, isTy_4_1, isTy_4_2, isTy_4_3, isTy_4_4, isTy_5_0, isTy_5_1, isTy_5_2, isTy_5_3, isTy_5_4, isTy_6_0, isTy_6_1, isTy_6_2, isTy_6_3, isTy_6_4,
  Int.cast_ofNat_Int, decide_true, decide_false, Int.reduceEq, Int.reduceLT, Int.reduceLE, atI_0, atI_1, atI_2, atI_3, atI_4, List.length_map, List.map_cons, List.map_nil, List.length_cons, List.length_nil, Nat.reduceAdd, Nat.reduceSub, List.reduceReplicate, List.cons_append, List.nil_append, List.append_nil, List.getElem?_cons_zero, List.getElem?_cons_succ, List.getElem?_nil, List.set_cons_zero, List.set_cons_succ, List.take_zero, List.drop_zero, List.take_succ_cons, List.drop_succ_cons,
  List.eraseIdx_cons_zero, List.eraseIdx_cons_succ, true_and, and_true, eq_self, and_self, if_true, if_false, Bool.false_eq_true, reduceIte, Bool.not_true, Bool.not_false, forall_const, exists_eq_left, exists_eq_left', exists_eq_right, exists_eq_right', exists_and_left, exists_const, D.adr.injEq, D.str.injEq, D.int.injEq, D.lst.injEq, D.tup.injEq, D.bl.injEq, Option.some.injEq, Prod.mk.injEq, MO.l.injEq, MO.d.injEq, List.cons.injEq, Function.const_apply, dLock, lckE, dDGetK, dFld, dSetF, dMeth, dMake, dRaise, diKeys, dGet, dAddM, List.not_mem_nil, false_implies, implies_true, List.mem_singleton, forall_eq, Option.isSome_none, Option.isSome_some, lcRes, exists_eq, exists_eq', List.length_append, List.length_singleton])

abbrev dicD (kvs : List (Str × D)) : D := .dic (kvs.map (·.1)) (kvs.map (·.2))
abbrev S_reached : Spc := fun ds m F X => ∃ (w : Web) (ws : List Int) (W : Nat), ds = [webD w, .lst [], .lst (ws.map .int)] ∧ m = [] ∧ WebOk w ∧ ws.length = w.ties.length ∧ (∀ i ∈ ws, i.natAbs ≤ W) ∧ ∀ kvs, Found w W kvs → (∀ p, p ∈ keysD kvs ↔ Reach w p) → F (dicD kvs) []
structure RInv (w : Web) (W : Nat) (kw kf : List (Str × D)) : Prop where
  f : Found w W kf
  nd : (keysD kw).Nodup
  sub : ∀ p ∈ keysD kw, p ∈ w.places ∧ p ∉ keysD kf ∧ Reach w p
  rf : ∀ p ∈ keysD kf, Reach w p
  ent : ∀ p e, dget kw p = some e → EntOk w (kf.length * W) (fun z => z ∈ keysD kf) p e
  st : w.first ∈ keysD kw ∨ w.first ∈ keysD kf
/-- all that the tie k leads to from p is told -/
def ClK (w : Web) (kw kf : List (Str × D)) (p : Str) (k : Nat) : Prop := ∀ (t : Tie) (p' : Str), w.ties[k]? = some t → behT t p = some p' → p' ∈ keysD kf ∨ p' ∈ keysD kw
theorem RInv.pop {w : Web} {W : Nat} {kw kf : List (Str × D)} {here : Str} {e : D} (h : RInv w W kw kf) (he : dget kw here = some e) : RInv w W (ddrop kw here) (kf ++ [(here, e)]) := by
  have hz := dget_some he
  obtain ⟨h1, h2, h3⟩ := h.sub here hz
  have hk : ∀ z, z ∈ keysD (kf ++ [(here, e)]) ↔ z ∈ keysD kf ∨ z = here := fun z => by simp [keysD, List.map_append]
  refine ⟨h.f.snoc h2 h1 (h.ent here e he), ?_, fun p hp => ?_, fun p hp => ?_, fun p d hd => ?_, ?_⟩
  · rw [keys_ddrop]
    exact h.nd.filter _
  · rw [keys_ddrop, List.mem_filter] at hp
    obtain ⟨hp1, hp2⟩ := hp
    obtain ⟨g1, g2, g3⟩ := h.sub p hp1
    exact ⟨g1, fun q => ((hk p).mp q).elim g2 (fun e => (by simpa using hp2 : ¬ p = here) e), g3⟩
  · rcases (hk p).mp hp with q | rfl
    · exact h.rf p q
    · exact h3
  · have hp := dget_some hd
    rw [keys_ddrop, List.mem_filter] at hp
    rw [dget_ddrop (of_decide_eq_true hp.2)] at hd
    refine (h.ent p d hd).mono (Nat.mul_le_mul_right W ?_) fun z hz => (hk z).mpr (.inl hz)
    rw [List.length_append]
    exact Nat.le_add_right _ _
  · by_cases e : w.first = here
    · exact .inr ((hk _).mpr (.inr e))
    · rcases h.st with q | q
      · refine .inl ?_
        rw [keys_ddrop, List.mem_filter]
        exact ⟨q, decide_eq_true e⟩
      · exact .inr ((hk _).mpr (.inl q))
theorem RInv.put {w : Web} {W : Nat} {kw kf : List (Str × D)} {p : Str} {e : D} (h : RInv w W kw kf) (h1 : p ∈ w.places) (h2 : p ∉ keysD kf) (h3 : Reach w p) (he : EntOk w (kf.length * W) (fun z => z ∈ keysD kf) p e) : RInv w W (dput kw p e) kf := by
  have hk : ∀ z, z ∈ keysD (dput kw p e) → z ∈ keysD kw ∨ z = p := fun z hz => by
    rw [keys_dput] at hz
    split at hz
    · exact .inl hz
    · rcases List.mem_append.mp hz with q | q
      · exact .inl q
      · exact .inr (by simpa using q)
  refine ⟨h.f, ?_, fun z hz => ?_, h.rf, fun z d hd => ?_, ?_⟩
  · rw [keys_dput]
    split
    · exact h.nd
    · rename_i hn
      refine List.nodup_append.mpr ⟨h.nd, by simp, fun a ha b hb q => ?_⟩
      obtain rfl : b = p := by simpa using hb
      exact hn (q ▸ ha)
  · rcases hk z hz with q | rfl
    · exact h.sub z q
    · exact ⟨h1, h2, h3⟩
  · rw [dget_dput] at hd
    split at hd
    · rename_i q
      cases hd
      rw [q]
      exact he
    · exact h.ent z d hd
  · rcases h.st with q | q
    · refine .inl ?_
      rw [keys_dput]
      split
      · exact q
      · exact List.mem_append_left _ q
    · exact .inr q
theorem mem_dput {kw : List (Str × D)} {p z : Str} {e : D} (h : z ∈ keysD kw ∨ z = p) : z ∈ keysD (dput kw p e) := by
  rw [keys_dput]
  split
  · rcases h with h | rfl
    · exact h
    · assumption
  · rcases h with h | rfl
    · exact List.mem_append_left _ h
    · simp
theorem ClK.mono {w : Web} {kw kf kw' kf' : List (Str × D)} {p : Str} {k : Nat} (h : ClK w kw kf p k) (hk : ∀ z, z ∈ keysD kf ∨ z ∈ keysD kw → z ∈ keysD kf' ∨ z ∈ keysD kw') : ClK w kw' kf' p k := fun t p' ht hb => hk p' (h t p' ht hb)
def J_re (w : Web) (ws : List Int) (W : Nat) (n : Nat) (r : Rho) (m : Mu) : Prop := ∃ (a b : Addr) (o1 o2 o3 o4 : Option D) (kw kf : List (Str × D)), r = [some (webD w), some (.lst []), some (.lst (ws.map .int)), some (.adr a), some (.adr b), o1, o2, o3, o4] ∧ m = [(a, .d kw), (b, .d kf)] ∧ RInv w W kw kf ∧ n + kf.length = w.places.length ∧ ∀ p ∈ keysD kf, ∀ k, ClK w kw kf p k
def J_ri (w : Web) (ws : List Int) (W : Nat) (a b : Addr) (here : Str) (f : Int) (x y : D) (kf : List (Str × D)) (i : Nat) (r : Rho) (m : Mu) : Prop := ∃ (o2 o3 o4 : Option D) (kw : List (Str × D)), r = [some (webD w), some (.lst []), some (.lst (ws.map .int)), some (.adr a), some (.adr b), some (.str here), o2, o3, o4] ∧ m = [(a, .d kw), (b, .d kf)] ∧ RInv w W kw kf ∧ dget kf here = some (.tup [.int f, x, y]) ∧ (∀ p ∈ keysD kf, p ≠ here → ∀ k, ClK w kw kf p k) ∧ ∀ k, k < i → ClK w kw kf here k
theorem sc_reached : FnScope ["web", "taken", "wholes", "waiting", "found", "here", "number", "place", "far"] ["web", "taken", "wholes"] (defScope s_reached) := ⟨rfl, rfl, rfl, by decide +kernel, rfl, by decide +kernel, by decide +kernel⟩
theorem ok_reached {P : Program} {w : World} {K : PySem.W.Frag} {mg : Str → Option Value} {base : Heap} (T : Tx K mg) (G_nearest : Fo P w K mg base CX0 1 "nearest" ["waiting"] (spD K (NC K) 1 S_nearest)) (G_behind : Fo P w K mg base CX0 1 "behind" ["tie", "place"] (spD K (NC K) 2 S_behind)) : Fo P w K mg base CX0 2 "reached" ["web", "taken", "wholes"] (spD K (NC K) 3 S_reached) := by
  refine Fo.mk_ T 32 31 rfl rfl rfl rfl rfl (fun _ _ _ _ _ _ us hl => match us, hl with | [_, _, _], _ => rfl) fun f fd F => ok_pure 0 F sc_reached rfl fun cdv A outer s H E I m ds Fv X hr h => ?_
  have hu := hu_of hr
  refine ⟨_, _, (pss_cons (ps_set (i := 3) sc_reached.nd rfl (.inl rfl) (pe_disp1 (pe_ix (o_ixK K) (pv 0) pe_int (fun _ _ => rfl)) (pe_tup (pa_cons pe_int (pa_cons pe_non (pa_cons pe_non pa_nil))))))
    (pss_cons (ps_set (i := 4) sc_reached.nd rfl (.inl rfl) pe_dicM)
    (pss_cons (ps_while PassesOwn.never (pt_cmpR (o_neD0 0 hr.units0) (pv 3) pe_dnewK (nomark _))
    (pss_cons (ps_set (i := 5) sc_reached.nd rfl (.inl rfl) (pe_ownK K 1 G_nearest (hr.mono (by decide)) pass0 (pa_cons (pv 3) pa_nil)))
    (pss_cons (as_dput 1 (ps_dput hu (pv 4) (pv 5) (as_dpop 0 (pe_dpop1 (pv 3) (pv 5) ⟨rfl, rfl, rfl, rfl⟩)) rfl))
    (pss_one (ps_for PassesOwn.never rfl (pi_range1 rfl (T.b 89 rfl) (pa_cons (pe_bi c_len (T.b 85 rfl) bb_len (pa_cons (pv 2) pa_nil)) pa_nil)) (pg_name (i := 6) sc_reached.nd rfl (.inl rfl))
    (pss_cons (ps_set (i := 7) sc_reached.nd rfl (.inl rfl) (pe_ownK K 0 G_behind (hr.mono (by decide)) pass0 (pa_cons (pe_ix (o_ixK K) (pe_ix (o_ixK K) (pv 0) pe_int (fun _ _ => rfl)) (pv 6) (fun _ _ => rfl)) (pa_cons (pv 5) pa_nil))))
    (pss_one (ps_if (PW.pt (pw_and (pt_cmpR o_isnot (pv 7) pe_non (nomark _)) (pw_and (pt_cmp (pc_ninM 1 hu (pv 7) (pv 4))) (pw_and1 (pt_cmpR (o_ninK K) (pv 6) (pv 1) (by rfl)))))) (pss_cons (ps_set (i := 8) sc_reached.nd rfl (.inl rfl) (pe_op o_add (pe_ix (o_ixK K) (pe_dgetM 1 (pe_dget hu (pv 4) (pv 5) (fun _ _ => rfl))) pe_int (fun _ _ => rfl)) (pe_ix (o_ixK K) (pv 2) (pv 6) (fun _ _ => rfl))))
    (pss_one (ps_if (PW.pt (pw_or (pt_cmp (pc_ninM 0 hu (pv 7) (pv 3))) (pw_or1 (pt_cmpR o_lt (pv 8) (pe_ix (o_ixK K) (pe_dgetM 0 (pe_dget hu (pv 3) (pv 7) (fun _ _ => rfl))) pe_int (fun _ _ => rfl)) (nomark _))))) (pss_one (as_dput 0 (ps_dput hu (pv 3) (pv 7) (pe_tup (pa_cons (pv 8) (pa_cons (pv 6) (pa_cons (pv 5) pa_nil)))) rfl))) pss_nil))) pss_nil))))))))
    (pss_frz 4 1 (pss_one (ps_ret (pv 4))))))), (by (try dsimp only [cxOf]); infer_instance), ?_⟩
  obtain ⟨w', ws, W, rfl, rfl, hw, hl, hW, h⟩ := h
  walk_at "d"
  intro a
  refine ⟨sl100 (by decide), fun b => ⟨fun n r m => J_re w' ws W n r m, ⟨w'.places.length, a, b, none, none, none, none, [(w'.first, .tup [.int 0, .non, .non])], [], rfl, rfl, ?_, rfl, fun p hp => nomatch hp⟩, ?_⟩⟩
  · refine ⟨⟨List.nodup_nil, fun p hp => (nomatch hp), fun A p e B hq => ?_⟩, by simp [keysD], fun p hp => ?_, fun p hp => (nomatch hp), fun p e he => ?_, .inl (by simp [keysD])⟩
    · exact absurd hq.symm (by simp)
    · obtain rfl : p = w'.first := by simpa [keysD] using hp
      exact ⟨hw.first, by simp [keysD], [], rfl⟩
    · have hp := dget_some he
      obtain rfl : p = w'.first := by simpa [keysD] using hp
      unfold dget at he
      rw [if_pos rfl] at he
      cases he
      exact .inl ⟨rfl, 0, rfl, Nat.zero_le _⟩
  rintro n r m' ⟨a, b, o1, o2, o3, o4, kw, kf, rfl, rfl, hI, hn, hcl⟩
  walk_at "d"
  cases kw with
  | nil =>
    walk_at "d"
    rw [if_neg (by decide)]
    refine h kf hI.f fun p => ⟨hI.rf p, fun ⟨ks, hk⟩ => ?_⟩
    refine walk_closed (S := fun z => z ∈ keysD kf) (fun p k t p' hp ht hb => ?_) ks _ _ ?_ hk
    · rcases hcl p hp k t p' ht hb with z | z
      · exact z
      · exact nomatch z
    · rcases hI.st with z | z
      · exact nomatch z
      · exact z
  | cons q0 kr =>
    rw [if_pos (by rfl)]
    refine ⟨a, q0 :: kr, rfl, rfl, by simp, fun z hz => ?_, fun here hz => ?_⟩
    · cases e : dget (q0 :: kr) z with
      | none => exact absurd hz (dget_none.mp e)
      | some d =>
        obtain ⟨f, x, y, rfl, _⟩ := (hI.ent z d e).far
        exact ⟨f, x, y, rfl⟩
    · generalize hkw : q0 :: kr = kw at *
      cases e : dget kw here with
      | none => exact absurd hz (dget_none.mp e)
      | some d =>
        have he := hI.ent here d e
        obtain ⟨f, x, y, rfl, hf⟩ := he.far
        obtain ⟨hz1, hz2, hz3⟩ := hI.sub here hz
        have hkl := hI.f.len hw
        have hk : ∀ z, z ∈ keysD (kf ++ [(here, D.tup [.int f, x, y])]) ↔ z ∈ keysD kf ∨ z = here := fun z => by simp [keysD, List.map_append]
        have hcl2 : ∀ z, z ∈ keysD kf ∨ z ∈ keysD kw → z ∈ keysD (kf ++ [(here, D.tup [.int f, x, y])]) ∨ z ∈ keysD (ddrop kw here) := fun z hz => by
          by_cases q : z = here
          · exact .inl ((hk z).mpr (.inr q))
          · rcases hz with hz | hz
            · exact .inl ((hk z).mpr (.inl hz))
            · refine .inr ?_
              rw [keys_ddrop, List.mem_filter]
              exact ⟨hz, decide_eq_true q⟩
        have hI2 := hI.pop e
        have hgf : dget (kf ++ [(here, D.tup [.int f, x, y])]) here = some (.tup [.int f, x, y]) := dget_at hz2
        have hnp : 0 < n := by
          have h5 := pigeon hI2.f.nd hI2.f.sub
          have e5 : (keysD (kf ++ [(here, D.tup [.int f, x, y])])).length = kf.length + 1 := by simp [keysD]
          rw [e5] at h5
          omega
        have hl14 := hw.tl
        walk_at "d"
        refine ⟨_, e, Nat.lt_of_le_of_lt hkl (by decide), ?_⟩
        rw [dput_new hz2]
        refine ⟨by simp <;> omega, by simp <;> omega, fun i r m => J_ri w' ws W a b here f x y (kf ++ [(here, .tup [.int f, x, y])]) i r m, ⟨o2, o3, o4, ddrop kw here, rfl, rfl, hI2, hgf, fun p hp hne k => ?_, fun k hk => absurd hk (Nat.not_lt_zero _)⟩, fun _ _ _ _ => trivial, ?_, ?_⟩
        · rcases (hk p).mp hp with q | q
          · exact (hcl p q k).mono hcl2
          · exact absurd q hne
        · rintro i d r m' hi ⟨o2, o3, o4, kw2, rfl, rfl, hJ, hg, hc1, hc2⟩
          obtain ⟨hj, rfl⟩ := rngD_get hi
          have hi : i < ws.length := by simpa using hj
          have hit : i < w'.ties.length := by omega
          have ht : w'.ties[i]? = some w'.ties[i] := List.getElem?_eq_getElem hit
          rw [Int.zero_add]
          have go : ∀ o3 o4 kw3, RInv w' W kw3 (kf ++ [(here, .tup [.int f, x, y])]) → (∀ z, z ∈ keysD kw2 → z ∈ keysD kw3) → ClK w' kw3 (kf ++ [(here, .tup [.int f, x, y])]) here i →
              J_ri w' ws W a b here f x y (kf ++ [(here, .tup [.int f, x, y])]) (i + 1) [some (webD w'), some (.lst []), some (.lst (ws.map .int)), some (.adr a), some (.adr b), some (.str here), some (.int (i : Nat)), o3, o4] [(a, .d kw3), (b, .d (kf ++ [(here, .tup [.int f, x, y])]))] := fun o3 o4 kw3 g1 g2 g3 =>
            ⟨_, o3, o4, kw3, rfl, rfl, g1, hg, fun p hp hne k => (hc1 p hp hne k).mono fun z hz => hz.imp id (g2 z), fun k hk => by
              rcases Nat.lt_succ_iff_lt_or_eq.mp hk with q | rfl
              · exact (hc2 k q).mono fun z hz => hz.imp id (g2 z)
              · exact g3⟩
          walk_at "d"
          rw [atN (tie_at ht)]
          walk_at "d"
          refine ⟨_, _, rfl, ?_⟩
          cases hb : behT w'.ties[i] here with
          | none =>
            rw [show optS none = D.non from rfl]
            walk_at "d"
            refine go _ _ _ hJ (fun _ q => q) fun t p' ht2 hb2 => ?_
            rw [ht] at ht2
            cases ht2
            rw [hb] at hb2
            cases hb2
          | some p' =>
            have hb3 : ∀ kw3, (p' ∈ keysD (kf ++ [(here, D.tup [.int f, x, y])]) ∨ p' ∈ keysD kw3) → ClK w' kw3 (kf ++ [(here, .tup [.int f, x, y])]) here i := fun kw3 q t p2 ht2 hb2 => by
              rw [ht] at ht2
              cases ht2
              rw [hb] at hb2
              cases hb2
              exact q
            rw [show optS (some p') = D.str p' from rfl]
            walk_at "d"
            by_cases hpf : p' ∈ keysD (kf ++ [(here, D.tup [.int f, x, y])])
            · cases e3 : dget (kf ++ [(here, D.tup [.int f, x, y])]) p' with
              | none => exact absurd hpf (dget_none.mp e3)
              | some d3 =>
                walk_at "d"
                exact go _ _ _ hJ (fun _ q => q) (hb3 _ (.inl hpf))
            · rw [dget_none.mpr hpf]
              walk_at "d"
              rw [show inDs (.int (i : Nat)) [] = some false from rfl, hg]
              walk_at "d"
              have ew : (ws.map D.int)[i]? = some (.int ws[i]) := by rw [List.getElem?_map, List.getElem?_eq_getElem hi]; rfl
              rw [atN ew]
              walk_at "d"
              have hr' : Reach w' p' := hz3.step ht hb
              have hp' : p' ∈ w'.places := behT_in (hw.tie _ (List.mem_of_getElem? ht)) hb
              have hfw : (f + ws[i]).natAbs ≤ (kf ++ [(here, D.tup [.int f, x, y])]).length * W := by
                have h6 := hW ws[i] (List.getElem_mem hi)
                have h7 := Int.natAbs_add_le f ws[i]
                have e8 : (kf ++ [(here, D.tup [.int f, x, y])]).length * W = kf.length * W + W := by rw [List.length_append, Nat.add_mul]; simp
                omega
              have he2 : EntOk w' ((kf ++ [(here, D.tup [.int f, x, y])]).length * W) (fun z => z ∈ keysD (kf ++ [(here, D.tup [.int f, x, y])])) p' (.tup [.int (f + ws[i]), .int (i : Nat), .str here]) := .inr ⟨_, i, _, here, rfl, hfw, ht, hb, (hk _).mpr (.inr rfl)⟩
              have hput := hJ.put hp' hpf hr' he2
              have hkw2 : kw2.length ≤ 7 := by
                have h8 := pigeon hJ.nd fun z hz => (hJ.sub z hz).1
                unfold keysD at h8
                rw [List.length_map] at h8
                have := hw.hi
                omega
              have fin := go (some (.str p')) (some (.int (f + ws[i]))) _ hput (fun z hz => mem_dput (.inl hz)) (hb3 _ (.inr (mem_dput (.inr rfl))))
              have h3 : 3 ≤ sizeLine := sl100 (by decide)
              have h4 : kw2.length < sizeLine := Nat.lt_of_le_of_lt hkw2 (by decide)
              cases e4 : dget kw2 p' with
              | none =>
                walk_at "d"
                exact ⟨h3, h4, fin⟩
              | some d4 =>
                obtain ⟨g, x4, y4, rfl, _⟩ := (hJ.ent p' d4 e4).far
                walk_at "d"
                split
                · exact ⟨h3, h4, fin⟩
                · exact go _ _ _ hJ (fun _ q => q) (hb3 _ (.inr (dget_some e4)))
        · rintro r m' ⟨o2, o3, o4, kw2, rfl, rfl, hJ, hg, hc1, hc2⟩
          refine ⟨n - 1, by omega, a, b, _, _, _, _, kw2, _, rfl, rfl, hJ, ?_, fun p hp k => ?_⟩
          · rw [List.length_append]
            show n - 1 + (kf.length + 1) = _
            omega
          · by_cases q : p = here
            · subst q
              by_cases hk2 : k < w'.ties.length
              · refine hc2 k ?_
                rw [rngD_len]
                simp
                omega
              · intro t p' ht
                rw [List.getElem?_eq_none (by omega)] at ht
                cases ht
            · exact hc1 p hp q k
end FC
/-! THE WALK, 7: the way back; the least way; the side. -/
namespace FC
open PySem PySem.Spec L2
local macro_rules | `(tactic| walk_at "d") => `(tactic| try simp only [dVar, dC, dOp, dUn, dAdd, dSub, dMul, dMod, dDiv, dPow, dNeg, dCmp, dEq, dNe, dEqv, dIsN, dNotN, isNon, dIn, inD, dInM, dIx, ixDs, dIxM, dChain, dB, asB, dAnd, dOr, dNot, dAndV, dOrV, dNotV, dIf, dNil, dCons, dTup, dLst, dLstM, dDic0, dDicM, dDisp1,
  dCB, dLen, dLenM, dAbs, dMax2, dMin2, dInt, dBool, dStr, dList, dListN, dListM, dTuple, dSorted, dDicC, dIsi, tyD_non, tyD_bl, tyD_int, tyD_str, tyD_lst, tyD_tup, tyD_dic, dNoPart, asI, dPart, dSl, dRev, dApp, dPopI, dRem, dEqNil, dEqNilM, dGet, dDGetM, dDGet, dDInM, dDInA, dDPopM, dEqD0, dEqDM, dJoin, dNext, dSeq, dDrop, dRet, dIfS, dNever, dgName, dgNil, dgCons, dgTup, dAsg, dSubM, dDPutM, dPar, dAug, dFrz, frzD, dFgt,
  diLst, diTup, diLstM, diRng1, diRng2, diStr, diEnum, diZip, dYes, dCall, endsD, startD, wipeD, dom,
  isTy_0_0, isTy_0_1, isTy_0_2, isTy_0_3, isTy_0_4, isTy_1_0, isTy_1_1, isTy_1_2, isTy_1_3, isTy_1_4, isTy_2_0, isTy_2_1, isTy_2_2, isTy_2_3, isTy_2_4, isTy_3_0, isTy_3_1, isTy_3_2, isTy_3_3, isTy_3_4, isTy_4_0, isTy_4_1, isTy_4_2, isTy_4_3, isTy_4_4, isTy_5_0, isTy_5_1, isTy_5_2, isTy_5_3, isTy_5_4, isTy_6_0, isTy_6_1, isTy_6_2, isTy_6_3, isTy_6_4,
  Int.cast_ofNat_Int, decide_true, decide_false, Int.reduceEq, Int.reduceLT, Int.reduceLE, atI_0, atI_1, atI_2, atI_3, atI_4, List.length_map, List.map_cons, List.map_nil, List.length_cons, List.length_nil, Nat.reduceAdd, Nat.reduceSub, List.reduceReplicate, List.cons_append, List.nil_append, List.append_nil, List.getElem?_cons_zero, List.getElem?_cons_succ, List.getElem?_nil, List.set_cons_zero, List.set_cons_succ, List.take_zero, List.drop_zero, List.take_succ_cons, List.drop_succ_cons,
  List.eraseIdx_cons_zero, List.eraseIdx_cons_succ, true_and, and_true, eq_self, and_self, if_true, if_false, Bool.false_eq_true, reduceIte, Bool.not_true, Bool.not_false, forall_const, exists_eq_left, exists_eq_left', exists_eq_right, exists_eq_right', exists_and_left, exists_const, D.adr.injEq, D.str.injEq, D.int.injEq, D.lst.injEq, D.tup.injEq, D.bl.injEq, Option.some.injEq, Prod.mk.injEq, MO.l.injEq, MO.d.injEq, List.cons.injEq, Function.const_apply, dLock, lckE, dDGetK, dFld, dSetF, dMeth, dMake, dRaise, diKeys, dGet, dAddM, List.not_mem_nil, false_implies, implies_true, List.mem_singleton, forall_eq, Option.isSome_none, Option.isSome_some, lcRes, exists_eq, exists_eq', List.length_append, List.length_singleton])

theorem behT_ends {t : Tie} {p p' : Str} (h : behT t p = some p') : (t.one = p ∧ t.other = p') ∨ (t.other = p ∧ t.one = p') := by
  unfold behT at h
  split at h
  · rename_i e
    cases h
    exact .inl ⟨e, rfl⟩
  · split at h
    · rename_i e
      cases h
      exact .inr ⟨e.1, rfl⟩
    · cases h
abbrev S_way_back : Spc := fun ds m F X => ∃ (w : Web) (W : Nat) (kvs : List (Str × D)), ds = [webD w, dicD kvs] ∧ m = [] ∧ WebOk w ∧ Found w W kvs ∧ w.last ∈ keysD kvs ∧ ∀ ks : List Nat, (∀ k ∈ ks, k < w.ties.length) → ks.Nodup → ks.length ≤ 7 → F (tk ks) []
def J_wb (w : Web) (kvs : List (Str × D)) (n : Nat) (r : Rho) (m : Mu) : Prop := ∃ (a : Addr) (o1 o2 o3 : Option D) (p : Str) (ks : List Nat) (A B : List (Str × D)) (e : D), r = [some (webD w), some (dicD kvs), some (.adr a), some (.str p), o1, o2, o3] ∧ m = [(a, .l (ks.map fun k => .int (k : Nat)))] ∧ (∀ k ∈ ks, k < w.ties.length) ∧ kvs = A ++ (p, e) :: B ∧ n = A.length ∧ ks.length + A.length ≤ 7 ∧ ks.Nodup ∧ ∀ k ∈ ks, ∃ t, w.ties[k]? = some t ∧ (t.one ∈ keysD B ∨ t.other ∈ keysD B)
theorem sc_way_back : FnScope ["web", "found", "way", "place", "far", "number", "ahead"] ["web", "found"] (defScope s_way_back) := ⟨rfl, rfl, rfl, by decide +kernel, rfl, by decide +kernel, by decide +kernel⟩
theorem ok_way_back {P : Program} {w : World} {K : PySem.W.Frag} {mg : Str → Option Value} {base : Heap} (T : Tx K mg) : Fo P w K mg base CX0 1 "way_back" ["web", "found"] (spD K (NC K) 2 S_way_back) := by
  refine Fo.mk_ T 33 32 rfl rfl rfl rfl rfl (fun _ _ _ _ _ _ us hl => match us, hl with | [_, _], _ => rfl) fun f fd F => ok_pure 0 F sc_way_back rfl fun cdv A outer s H E I m ds Fv X hr h => ?_
  have hu := hu_of hr
  refine ⟨_, _, (pss_cons (ps_set (i := 2) sc_way_back.nd rfl (.inl rfl) (pe_lstM pa_nil))
    (pss_cons (ps_set (i := 3) sc_way_back.nd rfl (.inl rfl) (pe_ix (o_ixK K) (pv 0) pe_int (fun _ _ => rfl)))
    (pss_cons (ps_while PassesOwn.never (pt_cmpR op_ne (pv 3) (pe_ix (o_ixK K) (pv 0) pe_int (fun _ _ => rfl)) (nomark _))
    (pss_cons (ps_asg (pe_dget hu (pv 1) (pv 3) (fun _ _ => rfl)) (pg_tup rfl (pgs_cons (pg_name (i := 4) sc_way_back.nd rfl (.inl rfl)) (pgs_cons (pg_name (i := 5) sc_way_back.nd rfl (.inl rfl)) (pgs_cons (pg_name (i := 6) sc_way_back.nd rfl (.inl rfl)) pgs_nil)))))
    (pss_cons (ps_expr (as_app 0 (pe_bm PySem.F.plainAttrs_list PySem.F.slot_list_append PySem.F.type_list_append mt_append (pv 2) (pa_cons (pv 5) pa_nil))))
    (pss_one (ps_set (i := 3) sc_way_back.nd rfl (.inl rfl) (pv 6))))))
    (pss_frz 2 0 (pss_one (ps_ret (pe_revL (pv 2)))))))), (by (try dsimp only [cxOf]); infer_instance), ?_⟩
  obtain ⟨w', W, kvs, rfl, rfl, hw, hF, hl, h⟩ := h
  walk_at "d"
  refine ⟨sl100 (by decide), fun a => ⟨fun n r m => J_wb w' kvs n r m, ?_, ?_⟩⟩
  · obtain ⟨A, e, B, hs⟩ := mem_split hl
    refine ⟨A.length, a, none, none, none, _, [], A, B, e, rfl, rfl, (fun _ h => nomatch h), hs, rfl, ?_, List.nodup_nil, (fun _ h => nomatch h)⟩
    have h1 := hF.len hw
    rw [hs, List.length_append] at h1
    simp
    omega
  · rintro n r m' ⟨a, o1, o2, o3, p, ks, A, B, e, rfl, rfl, hk, hs, rfl, hn, hnd2, hke⟩
    walk_at "d"
    have hnd := hF.nd
    have hord := hF.ord A p e B hs
    by_cases hp : p = w'.first
    · rw [if_neg (by simp [hp])]
      rw [← List.map_reverse]
      exact h _ (fun k hk' => hk k (by simpa using hk')) (List.pairwise_reverse.mpr (hnd2.imp fun h => Ne.symm h)) (by simp; omega)
    · rw [if_pos (by simp [hp])]
      rcases hord with ⟨h1, _⟩ | ⟨f, k, t, p0, rfl, hf, ht, hb, hp0⟩
      · exact absurd h1 hp
      · rw [zip_keys]
        have hg : dget kvs p = some (.tup [.int f, .int (k : Nat), .str p0]) := by
          rw [hs] at hnd ⊢
          exact dget_nd hnd
        rw [hg]
        walk_at "d"
        have hkt : k < w'.ties.length := (List.getElem?_eq_some_iff.mp ht).1
        refine ⟨rfl, Nat.lt_of_le_of_lt (m := 7) (by omega) (by decide), ?_⟩
        obtain ⟨A', e', B', rfl⟩ := mem_split hp0
        rw [List.length_append, List.length_cons] at hn ⊢
        have hnB : p ∉ keysD B ∧ p0 ∉ keysD B := by
          rw [hs] at hnd
          unfold keysD at hnd
          rw [List.map_append, List.map_cons] at hnd
          obtain ⟨_, g2, g3⟩ := List.nodup_append.mp hnd
          refine ⟨(List.nodup_cons.mp g2).1, fun q => g3 p0 ?_ p0 (List.mem_cons_of_mem _ q) rfl⟩
          simp
        have hends := behT_ends hb
        refine ⟨A'.length, by omega, a, _, _, _, p0, ks ++ [k], A', B' ++ (p, .tup [.int f, .int (k : Nat), .str p0]) :: B, e', rfl, ?_, fun j hj => ?_, ?_, rfl, ?_, ?_, fun j hj => ?_⟩
        · rw [List.map_append]
          rfl
        · rcases List.mem_append.mp hj with q | q
          · exact hk j q
          · obtain rfl : j = k := by simpa using q
            exact hkt
        · rw [hs]
          simp
        · rw [List.length_append, List.length_singleton]
          omega
        · refine List.nodup_append.mpr ⟨hnd2, by simp, fun x hx y hy q => ?_⟩
          obtain rfl : y = k := by simpa using hy
          subst q
          obtain ⟨t2, g1, g2⟩ := hke x hx
          rw [ht] at g1
          cases g1
          rcases hends with ⟨c1, c2⟩ | ⟨c1, c2⟩ <;> rw [c1, c2] at g2 <;> rcases g2 with g | g <;> first
            | exact hnB.1 g
            | exact hnB.2 g
        · have hsub : ∀ z, z ∈ keysD B ∨ z = p → z ∈ keysD (B' ++ (p, D.tup [.int f, .int (k : Nat), .str p0]) :: B) := fun z hz => by
            rcases hz with g | rfl
            · simp only [keysD, List.map_append, List.map_cons, List.mem_append, List.mem_cons] at g ⊢
              exact .inr (.inr g)
            · simp [keysD]
          rcases List.mem_append.mp hj with q | q
          · obtain ⟨t2, g1, g2⟩ := hke j q
            exact ⟨t2, g1, g2.imp (fun g => hsub _ (.inl g)) fun g => hsub _ (.inl g)⟩
          · obtain rfl : j = k := by simpa using q
            refine ⟨t, ht, ?_⟩
            rcases hends with ⟨c1, c2⟩ | ⟨c1, c2⟩
            · exact .inr (hsub _ (.inr c2))
            · exact .inl (hsub _ (.inr c2))
theorem sz_mk {f : Int} {c : Nat} (hc0 : 0 < c) (hc : c < 2 ^ 400) (hf : f.natAbs ≤ 7 * 2 ^ 912) : Sz 50 (mkRat f c) := by
  constructor
  · rw [Rat.num_mkRat, if_neg (by omega)]
    refine Nat.lt_of_le_of_lt (Int.natAbs_ediv_le_natAbs _ _) (Nat.lt_of_le_of_lt hf ?_)
    refine Nat.lt_of_lt_of_le (m := 2 ^ 3 * 2 ^ 912) (Nat.mul_lt_mul_of_pos_right (by decide) (Nat.pow_pos (by decide))) ?_
    rw [← Nat.pow_add]
    exact Nat.pow_le_pow_right (by decide) (by decide)
  · rw [Rat.den_mkRat, if_neg (by omega)]
    exact Nat.lt_of_le_of_lt (Nat.div_le_self _ _) hc
abbrev S_least_by : Spc := fun ds m F X => ∃ (w : Web) (ls : List Rat), ds = [webD w, .lst [], .lst (ls.map fD)] ∧ m = [] ∧ WebOk w ∧ ls.length = w.ties.length ∧ (∀ q ∈ ls, Sz 2 q) ∧ Reach w w.last ∧ ∀ (ks : List Nat) (q : Rat) (pr : List (Str × D)), (∀ k ∈ ks, k < w.ties.length) → ks.Nodup → ks.length ≤ 7 → Sz 50 q → F (.tup [tk ks, fD q, dicD pr]) []
def J_lb (w : Web) (ls : List Rat) (c : Nat) (kf : List (Str × D)) (i : Nat) (r : Rho) (m : Mu) : Prop := ∃ (a : Addr) (o1 o2 : Option D) (pr : List (Str × D)), r = [some (webD w), some (.lst []), some (.lst (ls.map fD)), some (.int (c : Nat)), o1, some (dicD kf), some (.adr a), o2] ∧ m = [(a, .d pr)] ∧ pr.length ≤ 2 * i ∧ ∀ p ∈ w.places.take i, p ∈ keysD kf → ∃ q, Sz 50 q ∧ dget pr p = some (fD q)
theorem sc_least_by : FnScope ["web", "taken", "lengths", "part", "one", "found", "prices", "place"] ["web", "taken", "lengths"] (defScope s_least_by) := ⟨rfl, rfl, rfl, by decide +kernel, rfl, by decide +kernel, by decide +kernel⟩
theorem ok_least_by {P : Program} {w : World} {K : PySem.W.Frag} {mg : Str → Option Value} {base : Heap} (T : Tx K mg) (G_common_of : Fo P w K mg base CX0 2 "common_of" ["some"] (spD K (NC K) 1 S_common_of)) (G_reached : Fo P w K mg base CX0 2 "reached" ["web", "taken", "wholes"] (spD K (NC K) 3 S_reached)) (G_whole_of : Fo P w K mg base CX0 1 "whole_of" ["one", "part"] (spD K (NC K) 2 S_whole_of)) (G_lowest : Fo P w K mg base CX0 2 "lowest" ["top", "bottom"] (spD K (NC K) 2 S_lowest)) (G_way_back : Fo P w K mg base CX0 1 "way_back" ["web", "found"] (spD K (NC K) 2 S_way_back)) : Fo P w K mg base CX0 3 "least_by" ["web", "taken", "lengths"] (spD K (NC K) 3 S_least_by) := by
  refine Fo.mk_ T 34 33 rfl rfl rfl rfl rfl (fun _ _ _ _ _ _ us hl => match us, hl with | [_, _, _], _ => rfl) fun f fd F => ok_pure 0 F sc_least_by rfl fun cdv A outer s H E I m ds Fv X hr h => ?_
  have hu := hu_of hr
  refine ⟨_, _, (pss_cons (ps_set (i := 3) sc_least_by.nd rfl (.inr rfl) (pe_ownK K 0 G_common_of (hr.mono (by decide)) pass0 (pa_cons (pv 2) pa_nil)))
    (pss_cons (ps_set (i := 5) sc_least_by.nd rfl (.inl rfl) (pe_ownK K 0 G_reached (hr.mono (by decide)) pass0 (pa_cons (pv 0) (pa_cons (pv 1) (pa_cons (as_lc [4] (pe_lc (own := [("one", 4)]) rfl sc_least_by.nd (pi_list (pv 2)) (blkOk_by (own := [("one", 4)]) (N := ["web", "taken", "lengths", "part", "one", "found", "prices", "place"]) (sc := defScope s_least_by) (by decide +kernel)) (fun _ _ _ _ _ => (pg_name (i := 4) sc_least_by.nd rfl (.inl rfl))) (fun _ _ _ _ _ => pts_nil) (fun _ _ _ _ _ => (pe_ownK K 0 G_whole_of (hr.mono (by decide)) pass0 (pa_cons (pv 4) (pa_cons (pv 3) pa_nil)))))) pa_nil)))))
    (pss_cons (ps_set (i := 6) sc_least_by.nd rfl (.inl rfl) pe_dicM)
    (pss_cons (ps_for PassesOwn.never rfl (pi_list (pe_ix (o_ixK K) (pv 0) pe_int (fun _ _ => rfl))) (pg_name (i := 7) sc_least_by.nd rfl (.inl rfl))
    (pss_cons (as_dput 0 (ps_dput hu (pv 6) (pv 7) pe_non rfl))
    (pss_one (ps_if (pt_cmp (pc_inA hu (pv 7) (pv 5))) (pss_one (as_dput 0 (ps_dput hu (pv 6) (pv 7) (pe_ownK K 0 G_lowest (hr.mono (by decide)) pass0 (pa_cons (pe_ix (o_ixK K) (pe_dget hu (pv 5) (pv 7) (fun _ _ => rfl)) pe_int (fun _ _ => rfl)) (pa_cons (pv 3) pa_nil))) rfl))) pss_nil))))
    (pss_frz 6 0 (pss_cons (ps_if (pt_cmp (pc_ninA hu (pe_ix (o_ixK K) (pv 0) pe_int (fun _ _ => rfl)) (pv 5))) (pss_one (ps_ret (pe_tup (pa_cons pe_non (pa_cons pe_non (pa_cons (pv 6) pa_nil)))))) pss_nil)
    (pss_one (ps_ret (pe_tup (pa_cons (pe_ownK K 0 G_way_back (hr.mono (by decide)) pass0 (pa_cons (pv 0) (pa_cons (pv 5) pa_nil))) (pa_cons (pe_dget hu (pv 6) (pe_ix (o_ixK K) (pv 0) pe_int (fun _ _ => rfl)) (fun _ _ => rfl)) (pa_cons (pv 6) pa_nil)))))))))))), (by (try dsimp only [cxOf]); infer_instance), ?_⟩
  obtain ⟨w', ls, rfl, rfl, hw, hl, hs, hr, h⟩ := h
  have hl14 := hw.tl
  walk_at "d"
  refine ⟨ls, rfl, hs, by omega, fun c hc0 hc => ?_⟩
  refine lc_map ls fD (fun q => .int (wholeI q c)) anyMu (fun G h => ?_) (fun _ => trivial) (by omega) ?_ ?_
  · walk_at "d"
    exact h
  · intro q hq t G E hG
    walk_at "d"
    exact ⟨q, c, rfl, hs q hq, hc0, hc, hG⟩
  · walk_at "d"
    refine ⟨w', ls.map fun q => wholeI q c, 2 ^ 912, by rw [List.map_map]; rfl, rfl, hw, by rw [List.length_map]; exact hl, fun i hi => ?_, fun kf hF hfr a => ?_⟩
    · obtain ⟨q, h1, rfl⟩ := List.mem_map.mp hi
      exact wholeI_bd (hs q h1) hc
    · refine ⟨fun i r m => J_lb w' ls c kf i r m, ⟨a, _, _, [], rfl, rfl, Nat.zero_le _, fun p hp => (by simp at hp)⟩, fun _ _ _ _ => trivial, ?_, ?_⟩
      · rintro i d r m' hi ⟨a, o1, o2, pr, rfl, rfl, hpl, hp⟩
        rw [List.getElem?_map] at hi
        cases e : w'.places[i]? with
        | none => rw [e] at hi; cases hi
        | some z =>
          rw [e] at hi
          cases hi
          obtain ⟨hlt, ez⟩ := List.getElem?_eq_some_iff.mp e
          have hi7 := hw.hi
          have l1 := dput_len (kvs := pr) (z := z) (d := .non)
          have hsl : ∀ n, n ≤ 100 → n < sizeLine := fun n hn => Nat.lt_of_le_of_lt hn (by decide)
          walk_at "d"
          refine ⟨hsl _ (by omega), ?_⟩
          rw [zip_keys]
          have old : ∀ pr2 : List (Str × D), (∀ y, y ≠ z → dget pr2 y = dget pr y) → (z ∈ keysD kf → ∃ q, Sz 50 q ∧ dget pr2 z = some (fD q)) → ∀ p ∈ w'.places.take (i + 1), p ∈ keysD kf → ∃ q, Sz 50 q ∧ dget pr2 p = some (fD q) := fun pr2 g1 g2 p hp1 hp2 => by
            by_cases q : p = z
            · subst q
              exact g2 hp2
            · rw [g1 p q]
              rw [List.take_succ_eq_append_getElem hlt, ez] at hp1
              refine hp p ?_ hp2
              rcases List.mem_append.mp hp1 with g | g
              · exact g
              · exact absurd (by simpa using g) q
          by_cases hz : z ∈ keysD kf
          · obtain ⟨f, x, y, hg, hf⟩ := hF.get hw hz
            rw [hg]
            walk_at "d"
            refine ⟨f, c, rfl, hc0, Nat.lt_trans hc (Nat.pow_lt_pow_right (by decide) (by decide)), ?_⟩
            have l2 := dput_len (kvs := dput pr z .non) (z := z) (d := fD (mkRat f c))
            refine ⟨dput pr z .non, rfl, hsl _ (by omega), a, _, _, _, rfl, rfl, by omega, old _ (fun y hy => ?_) fun _ => ⟨mkRat f c, ?_, ?_⟩⟩
            · rw [dget_dput, if_neg hy, dget_dput, if_neg hy]
            · exact sz_mk hc0 hc hf
            · rw [dget_dput, if_pos rfl]
          · rw [dget_none.mpr hz]
            walk_at "d"
            refine ⟨a, _, _, _, rfl, rfl, by omega, old _ (fun y hy => ?_) fun q => absurd q hz⟩
            rw [dget_dput, if_neg hy]
      · rintro r m' ⟨a, o1, o2, pr, rfl, rfl, hpl, hp⟩
        rw [List.length_map, List.take_length] at hp
        have hlk := (hfr w'.last).mpr hr
        obtain ⟨q, hq, hg⟩ := hp _ hw.last hlk
        walk_at "d"
        rw [zip_keys, zip_keys]
        obtain ⟨f, x, y, hg2, hf⟩ := hF.get hw hlk
        rw [hg2]
        walk_at "d"
        refine ⟨w', 2 ^ 912, kf, rfl, rfl, hw, hF, hlk, fun ks h1 hnd h2 => ?_⟩
        show (match dget pr w'.last with | some d_1 => 3 ≤ sizeLine ∧ Fv (D.tup [tk ks, d_1, D.dic (List.map (fun x => x.fst) pr) (List.map (fun x => x.snd) pr)]) [] | none => False)
        rw [hg]
        exact ⟨sl100 (by decide), h ks q pr h1 hnd h2 hq⟩
abbrev S_side_in : Spc := fun ds m F X => ∃ (w : Web), ds = [webD w, .lst []] ∧ m = [] ∧ WebOk w ∧ ∀ l : List Str, (w.last ∈ l ↔ Reach w w.last) → F (.lst (l.map .str)) []
theorem sc_side_in : FnScope ["web", "taken", "tie", "found", "place"] ["web", "taken"] (defScope s_side_in) := ⟨rfl, rfl, rfl, by decide +kernel, rfl, by decide +kernel, by decide +kernel⟩
theorem ok_side_in {P : Program} {w : World} {K : PySem.W.Frag} {mg : Str → Option Value} {base : Heap} (T : Tx K mg) (G_reached : Fo P w K mg base CX0 2 "reached" ["web", "taken", "wholes"] (spD K (NC K) 3 S_reached)) : Fo P w K mg base CX0 3 "side_in" ["web", "taken"] (spD K (NC K) 2 S_side_in) := by
  refine Fo.mk_ T 35 34 rfl rfl rfl rfl rfl (fun _ _ _ _ _ _ us hl => match us, hl with | [_, _], _ => rfl) fun f fd F => ok_pure 0 F sc_side_in rfl fun cdv A outer s H E I m ds Fv X hr h => ?_
  have hu := hu_of hr
  refine ⟨_, _, (pss_cons (ps_set (i := 3) sc_side_in.nd rfl (.inr rfl) (pe_ownK K 0 G_reached (hr.mono (by decide)) pass0 (pa_cons (pv 0) (pa_cons (pv 1) (pa_cons (as_lc [2] (pe_lc (own := [("tie", 2)]) rfl sc_side_in.nd (pi_list (pe_ix (o_ixK K) (pv 0) pe_int (fun _ _ => rfl))) (blkOk_by (own := [("tie", 2)]) (N := ["web", "taken", "tie", "found", "place"]) (sc := defScope s_side_in) (by decide +kernel)) (fun _ _ _ _ _ => (pg_name (i := 2) sc_side_in.nd rfl (.inl rfl))) (fun _ _ _ _ _ => pts_nil) (fun _ _ _ _ _ => pe_int))) pa_nil)))))
    (pss_one (ps_ret (as_lc [4] (pe_lc (own := [("place", 4)]) rfl sc_side_in.nd (pi_list (pe_ix (o_ixK K) (pv 0) pe_int (fun _ _ => rfl))) (blkOk_by (own := [("place", 4)]) (N := ["web", "taken", "tie", "found", "place"]) (sc := defScope s_side_in) (by decide +kernel)) (fun _ _ _ _ _ => (pg_name (i := 4) sc_side_in.nd rfl (.inl rfl))) (fun _ _ _ _ _ => pts_one (pt_cmp (pc_inA hu (pv 4) (pv 3)))) (fun _ _ _ _ _ => (pv 4))))))), (by (try dsimp only [cxOf]); infer_instance), ?_⟩
  obtain ⟨w', rfl, rfl, hw, h⟩ := h
  walk_at "d"
  have hl14 := hw.tl
  have hl7 := hw.hi
  refine lc_map w'.ties tieD (fun _ => .int 0) anyMu (fun G h => ?_) (fun _ => trivial) (by omega) ?_ ?_
  · walk_at "d"
    exact h
  · intro t _ t G E hG
    walk_at "d"
    exact hG
  · walk_at "d"
    refine ⟨w', w'.ties.map fun _ => 0, 0, by rw [List.map_map]; rfl, rfl, hw, by rw [List.length_map], fun i hi => ?_, fun kf hF hfr => ?_⟩
    · obtain ⟨t, _, rfl⟩ := List.mem_map.mp hi
      exact Nat.le_refl _
    · refine lc_opt (w'.places.map .str) (w'.places.map fun z => if z ∈ keysD kf then some (.str z) else none) anyMu (fun G h => ?_) (fun _ => trivial) (by rw [List.length_map, List.length_map]) (by rw [List.length_map]; omega) ?_ ?_
      · walk_at "d"
        exact h
      · intro i d o acc p G E h1 h2 h3 h4
        rw [List.getElem?_map] at h1 h2
        cases e : w'.places[i]? with
        | none => rw [e] at h1; cases h1
        | some z =>
          rw [e] at h1 h2
          cases h1
          cases h2
          walk_at "d"
          rw [zip_keys]
          by_cases hz : z ∈ keysD kf
          · obtain ⟨f, x, y, hg2, hf⟩ := hF.get hw hz
            rw [hg2]
            walk_at "d"
            exact h3 _ (if_pos hz)
          · rw [dget_none.mpr hz]
            walk_at "d"
            exact h4 (if_neg hz)
      · walk_at "d"
        have e : (w'.places.map fun z => if z ∈ keysD kf then some (D.str z) else none).filterMap id = (w'.places.filter fun z => decide (z ∈ keysD kf)).map .str := by
          rw [List.filterMap_map]
          generalize w'.places = l
          induction l with
          | nil => rfl
          | cons z r ih =>
            by_cases hz : z ∈ keysD kf
            · rw [List.filter_cons_of_pos (by simpa using hz), List.map_cons, ← ih, List.filterMap_cons_some (b := D.str z)]
              exact if_pos hz
            · rw [List.filter_cons_of_neg (by simpa using hz), ← ih, List.filterMap_cons_none]
              exact if_neg hz
        rw [e]
        refine h _ ⟨fun q => ?_, fun q => ?_⟩
        · exact (hfr _).mp (of_decide_eq_true (List.mem_filter.mp q).2)
        · exact List.mem_filter.mpr ⟨hw.last, decide_eq_true ((hfr _).mpr q)⟩
end FC
/-! THE MATHEMATICS, 6: what a tree of ways shows. -/
namespace FC
open PySem PySem.Spec L2
structure WayK (w : Web) (ks : List Nat) : Prop where
  lt : ∀ k ∈ ks, k < w.ties.length
  nd : ks.Nodup
  len : ks.length < w.places.length
  walk : walkTo w w.first ks = some w.last
theorem goneP_ties (w : Web) : ∀ (ks : List Nat) (ps : List Str) (p : Str), (goneP w ps p (ks.map fun k => .int (k : Nat))).1.length = ps.length + ks.length → ks.Nodup ∧ ∀ k ∈ ks, ∃ t, w.ties[k]? = some t ∧ (t.one ∉ ps ++ [p] ∨ t.other ∉ ps ++ [p])
  | [], ps, p, _ => ⟨List.nodup_nil, fun _ h => nomatch h⟩
  | k :: r, ps, p, h => by
    rw [List.map_cons, goneP_cons] at h
    cases e : stepD w ps p (.int (k : Nat)) with
    | none =>
      rw [e] at h
      have h : ps.length = ps.length + (r.length + 1) := h
      omega
    | some p' =>
      rw [e] at h
      have h : (goneP w (ps ++ [p]) p' (r.map fun k => .int (k : Nat))).1.length = ps.length + (r.length + 1) := h
      obtain ⟨n1, n2⟩ := goneP_ties w r (ps ++ [p]) p' (by rw [h, List.length_append, List.length_singleton]; omega)
      have e : (if p = w.last then none else if 0 ≤ (k : Int) ∧ (k : Int) < (w.ties.length : Int) then match w.ties[(k : Int).toNat]? with | some t => (match behT t p with | some p' => if p' ∈ ps ++ [p] then none else some p' | none => none) | none => none else none) = some p' := e
      split at e
      · cases e
      · split at e
        · rw [Int.toNat_natCast] at e
          split at e
          · rename_i t ht
            split at e
            · rename_i p2 hb
              split at e
              · cases e
              · rename_i hn
                cases e
                have hends := behT_ends hb
                refine ⟨List.nodup_cons.mpr ⟨fun hk => ?_, n1⟩, fun j hj => ?_⟩
                · obtain ⟨t2, h1, h2⟩ := n2 k hk
                  rw [ht] at h1
                  cases h1
                  have q1 : p ∈ ps ++ [p] ++ [p'] := by simp
                  have q2 : p' ∈ ps ++ [p] ++ [p'] := by simp
                  rcases hends with ⟨a, b⟩ | ⟨a, b⟩ <;> rw [a, b] at h2 <;> rcases h2 with q | q <;> first
                    | exact q q1
                    | exact q q2
                · rcases List.mem_cons.mp hj with rfl | hj
                  · refine ⟨t, ht, ?_⟩
                    rcases hends with ⟨a, b⟩ | ⟨a, b⟩
                    · exact .inr (by rw [b]; exact hn)
                    · exact .inl (by rw [b]; exact hn)
                  · obtain ⟨t2, h1, h2⟩ := n2 j hj
                    refine ⟨t2, h1, h2.imp (fun q z => q ?_) fun q z => q ?_⟩ <;> exact List.mem_append_left _ z
            · cases e
          · cases e
        · cases e
theorem isWay_K {w : Web} (hw : WebOk w) {d : D} (h : isWayD w d = true) : ∃ ks : List Nat, d = tk ks ∧ WayK w ks := by
  cases d with
  | lst ds =>
    have h : isWayL w ds = true := h
    unfold isWayL at h
    obtain ⟨h1, h2⟩ := of_decide_eq_true h
    obtain ⟨ks, e1, e2, e3⟩ := goneP_walk w ds [] w.first (by rw [← h1]; simp)
    obtain ⟨n1, n2⟩ := goneP_nd w hw ds [] w.first (by simp) (fun z hz => by
      obtain rfl : z = w.first := by simpa using hz
      exact hw.first)
    have n3 := pigeon n1 n2
    rw [List.length_append, List.length_singleton, ← h1, e1, List.length_map] at n3
    subst e1
    refine ⟨ks, rfl, e2, (goneP_ties w ks [] w.first ?_).1, by omega, ?_⟩
    · rw [← h1, List.length_map]
      simp
    · rw [e3, h2]
  | _ => cases h
/-! ### sums over takings -/
theorem sumF_erase (f : Nat → Rat) : ∀ (S : List Nat) (a : Nat), a ∈ S → sumF 0 (S.map f) = f a + sumF 0 ((S.erase a).map f)
  | [], _, h => nomatch h
  | b :: r, a, h => by
    by_cases e : b = a
    · subst e
      rw [List.erase_cons_head, List.map_cons, sumF_cons]
    · have hr : a ∈ r := by
        rcases List.mem_cons.mp h with q | q
        · exact absurd q.symm e
        · exact q
      rw [List.erase_cons_tail (by simpa using e), List.map_cons, sumF_cons, List.map_cons, sumF_cons, sumF_erase f r a hr, ← Rat.add_assoc, ← Rat.add_assoc, Rat.add_comm (f b)]
theorem sum_sub (f : Nat → Rat) (hf : ∀ k, 0 ≤ f k) : ∀ (A S : List Nat), A.Nodup → (∀ k ∈ A, k ∈ S) → sumF 0 (A.map f) ≤ sumF 0 (S.map f)
  | [], S, _, _ => sumF_nonneg _ fun q hq => by
    obtain ⟨k, _, rfl⟩ := List.mem_map.mp hq
    exact hf k
  | a :: r, S, nd, h => by
    obtain ⟨h1, h2⟩ := List.nodup_cons.mp nd
    rw [sumF_erase f S a (h a List.mem_cons_self), List.map_cons, sumF_cons]
    have h3 := sum_sub f hf r (S.erase a) h2 fun x hx => (List.mem_erase_of_ne (fun e : x = a => h1 (e ▸ hx))).mpr (h x (List.mem_cons_of_mem _ hx))
    grind
theorem sum_le (f g : Nat → Rat) : ∀ ks : List Nat, (∀ k ∈ ks, f k ≤ g k) → sumF 0 (ks.map f) ≤ sumF 0 (ks.map g)
  | [], _ => Rat.le_refl
  | a :: r, h => by
    rw [List.map_cons, List.map_cons, sumF_cons, sumF_cons]
    have h1 := h a List.mem_cons_self
    have h2 := sum_le f g r fun k hk => h k (List.mem_cons_of_mem _ hk)
    grind
theorem wtOf_nonneg {w : Web} (hw : WebOk w) (k : Nat) : 0 ≤ wtOf w k := by
  unfold wtOf
  cases e : w.ties[k]? with
  | none => exact Rat.le_refl
  | some t =>
    show 0 ≤ t.worth.getD 0
    cases e2 : t.worth with
    | none => exact Rat.le_refl
    | some q =>
      have := (hw.tie t (List.mem_of_getElem? e)).worth q e2
      exact Rat.le_of_lt this.1
/-- a taking within the purse -/
structure Tak (w : Web) (purse : Rat) (S : List Nat) : Prop where
  nd : S.Nodup
  fr : ∀ k ∈ S, Free w k
  le : worthL w S ≤ purse
def Sound (w : Web) (adds : List Rat) (purse : Rat) (T Kp : List Nat) (qs : List Rat) : Prop := ∀ S, Tak w purse S → (∀ k ∈ T, k ∈ S) → (∀ k ∈ Kp, k ∉ S) → ∃ ks, WayK w ks ∧ ∃ q ∈ qs, lenL w adds S ks ≤ q
theorem Sound.more {w : Web} {adds : List Rat} {purse : Rat} {T Kp : List Nat} {qs ps : List Rat} (h : Sound w adds purse T Kp qs) (hs : ∀ q ∈ qs, q ∈ ps) : Sound w adds purse T Kp ps := fun S a b c => by
  obtain ⟨ks, h1, q, h2, h3⟩ := h S a b c
  exact ⟨ks, h1, q, hs q h2, h3⟩
/-- what is shown of the first i of the ties that may be taken next -/
def SoundI (w : Web) (adds : List Rat) (purse : Rat) (T Kp due : List Nat) (ks : List Nat) (i : Nat) (qs : List Rat) : Prop := lenL w adds T ks ∈ qs ∧ ∀ j k, j < i → due[j]? = some k → Sound w adds purse (T ++ [k]) (Kp ++ due.take j) qs
theorem first_in {P : Nat → Prop} [DecidablePred P] : ∀ (l : List Nat), (∀ k ∈ l, ¬ P k) ∨ ∃ j k, l[j]? = some k ∧ P k ∧ ∀ x ∈ l.take j, ¬ P x
  | [] => .inl fun _ h => nomatch h
  | a :: r => by
    by_cases ha : P a
    · exact .inr ⟨0, a, rfl, ha, fun _ h => nomatch h⟩
    · rcases first_in (P := P) r with h | ⟨j, k, h1, h2, h3⟩
      · refine .inl fun k hk => ?_
        rcases List.mem_cons.mp hk with rfl | hk
        · exact ha
        · exact h k hk
      · refine .inr ⟨j + 1, k, h1, h2, fun x hx => ?_⟩
        rw [List.take_succ_cons] at hx
        rcases List.mem_cons.mp hx with rfl | hx
        · exact ha
        · exact h3 x hx
theorem SoundI.all {w : Web} {adds : List Rat} {purse : Rat} {T Kp ks : List Nat} {qs : List Rat} (hw : WebOk w) (ha : AddsOk w adds) (hT : T.Nodup) (hk : WayK w ks) (h : SoundI w adds purse T Kp (askL w purse ks T Kp) ks (askL w purse ks T Kp).length qs) : Sound w adds purse T Kp qs := by
  intro S hS hTS hKS
  rcases first_in (P := fun k => k ∈ S) (askL w purse ks T Kp) with hn | ⟨j, k, h1, h2, h3⟩
  · refine ⟨ks, hk, _, h.1, ?_⟩
    refine sum_le _ _ ks fun k hkk => ?_
    have hlt := hk.lt k hkk
    have ht : w.ties[k]? = some w.ties[k] := List.getElem?_eq_getElem hlt
    rw [addL_at ht, addL_at ht]
    by_cases hkS : k ∈ S
    · have hkT : k ∈ T := by
        refine Decidable.byContradiction fun hkT => hn k ?_ hkS
        refine List.mem_filter.mpr ⟨hkk, ?_⟩
        unfold askB
        have h4 : worthL w (T ++ [k]) ≤ purse := by
          refine Rat.le_trans (sum_sub (wtOf w) (wtOf_nonneg hw) (T ++ [k]) S ?_ ?_) hS.le
          · exact List.nodup_append.mpr ⟨hT, by simp, fun a ha b hb q => by
              obtain rfl : b = k := by simpa using hb
              exact hkT (q ▸ ha)⟩
          · intro x hx
            rcases List.mem_append.mp hx with q | q
            · exact hTS x q
            · obtain rfl : x = k := by simpa using q
              exact hkS
        have hkK : ¬ k ∈ Kp := fun q => hKS k q hkS
        rw [(freeB_iff w k).mpr (hS.fr k hkS), decide_eq_true hkT, decide_eq_true hkK, decide_eq_false (Rat.not_lt.mpr h4)]
        rfl
      rw [if_pos hkS, if_pos hkT]
      exact Rat.le_refl
    · rw [if_neg hkS, Rat.add_zero]
      split
      · have h5 : 0 ≤ adds.getD k 0 := by
          rw [List.getD_eq_getElem?_getD]
          cases e : adds[k]? with
          | none => exact Rat.le_refl
          | some q => exact (ha.ok q (List.mem_of_getElem? e)).1
        grind
      · rw [Rat.add_zero]
        exact Rat.le_refl
  · have hj := (List.getElem?_eq_some_iff.mp h1).1
    refine h.2 j k hj h1 S hS (fun x hx => ?_) fun x hx => ?_
    · rcases List.mem_append.mp hx with q | q
      · exact hTS x q
      · obtain rfl : x = k := by simpa using q
        exact h2
    · rcases List.mem_append.mp hx with q | q
      · exact hKS x q
      · exact h3 x q
/-! ### how many -/
def remL (w : Web) (T Kp : List Nat) : List Nat := (List.range w.ties.length).filter fun k => decide (k ∉ T) && decide (k ∉ Kp)
theorem rem_le {w : Web} {purse : Rat} {T Kp ks : List Nat} (hlt : ∀ k ∈ ks, k < w.ties.length) (hn : ks.Nodup) {i k : Nat} (h : (askL w purse ks T Kp)[i]? = some k) : (remL w (T ++ [k]) (Kp ++ (askL w purse ks T Kp).take i)).length + (i + 1) ≤ (remL w T Kp).length := by
  have hnd : (askL w purse ks T Kp).Nodup := hn.filter _
  obtain ⟨hi, ek⟩ := List.getElem?_eq_some_iff.mp h
  have e1 : (askL w purse ks T Kp).take (i + 1) = (askL w purse ks T Kp).take i ++ [k] := by rw [List.take_succ_eq_append_getElem hi, ek]
  have hp := pigeon (l := remL w (T ++ [k]) (Kp ++ (askL w purse ks T Kp).take i) ++ (askL w purse ks T Kp).take (i + 1)) (m := remL w T Kp) ?_ ?_
  · rw [List.length_append, List.length_take, Nat.min_eq_left hi] at hp
    exact hp
  · refine List.nodup_append.mpr ⟨List.nodup_range.filter _, hnd.sublist (List.take_sublist _ _), fun a ha b hb q => ?_⟩
    subst q
    have h1 := (List.mem_filter.mp ha).2
    rw [Bool.and_eq_true, decide_eq_true_eq, decide_eq_true_eq] at h1
    rw [e1] at hb
    rcases List.mem_append.mp hb with q | q
    · exact h1.2 (List.mem_append_right _ q)
    · exact h1.1 (List.mem_append_right _ q)
  · intro x hx
    rcases List.mem_append.mp hx with q | q
    · obtain ⟨h1, h2⟩ := List.mem_filter.mp q
      rw [Bool.and_eq_true, decide_eq_true_eq, decide_eq_true_eq] at h2
      refine List.mem_filter.mpr ⟨h1, ?_⟩
      rw [Bool.and_eq_true, decide_eq_true_eq, decide_eq_true_eq]
      exact ⟨fun z => h2.1 (List.mem_append_left _ z), fun z => h2.2 (List.mem_append_left _ z)⟩
    · obtain ⟨h1, h2⟩ := List.mem_filter.mp ((List.take_sublist _ _).subset q)
      unfold askB at h2
      rw [Bool.and_eq_true, Bool.and_eq_true, Bool.and_eq_true, decide_eq_true_eq, decide_eq_true_eq] at h2
      refine List.mem_filter.mpr ⟨List.mem_range.mpr (hlt x h1), ?_⟩
      rw [Bool.and_eq_true, decide_eq_true_eq, decide_eq_true_eq]
      exact ⟨h2.2.1, h2.2.2.1⟩
end FC
/-! THE WALK, 8: trees of ways. -/
namespace FC
open PySem PySem.Spec L2
local macro_rules | `(tactic| walk_at "d") => `(tactic| try simp only [dVar, dC, dOp, dUn, dAdd, dSub, dMul, dMod, dDiv, dPow, dNeg, dCmp, dEq, dNe, dEqv, dIsN, dNotN, isNon, dIn, inD, dInM, dIx, ixDs, dIxM, dChain, dB, asB, dAnd, dOr, dNot, dAndV, dOrV, dNotV, dIf, dNil, dCons, dTup, dLst, dLstM, dDic0, dDicM, dDisp1,
  dCB, dLen, dLenM, dAbs, dMax2, dMin2, dInt, dBool, dStr, dList, dListN, dListM, dTuple, dSorted, dDicC, dIsi, tyD_non, tyD_bl, tyD_int, tyD_str, tyD_lst, tyD_tup, tyD_dic, dNoPart, asI, dPart, dSl, dRev, dApp, dPopI, dRem, dEqNil, dEqNilM, dGet, dDGetM, dDGet, dDInM, dDInA, dDPopM, dEqD0, dEqDM, dJoin, dNext, dSeq, dDrop, dRet, dIfS, dNever, dgName, dgNil, dgCons, dgTup, dAsg, dSubM, dDPutM, dPar, dAug, dFrz, frzD, dFgt,
  diLst, diTup, diLstM, diRng1, diRng2, diStr, diEnum, diZip, dYes, dCall, endsD, startD, wipeD, dom,
  isTy_0_0, isTy_0_1, isTy_0_2, isTy_0_3, isTy_0_4, isTy_1_0, isTy_1_1, isTy_1_2, isTy_1_3, isTy_1_4, isTy_2_0, isTy_2_1, isTy_2_2, isTy_2_3, isTy_2_4, isTy_3_0, isTy_3_1, isTy_3_2, isTy_3_3, isTy_3_4, isTy_4_0, isTy_4_1, isTy_4_2, isTy_4_3, isTy_4_4, isTy_5_0, isTy_5_1, isTy_5_2, isTy_5_3, isTy_5_4, isTy_6_0, isTy_6_1, isTy_6_2, isTy_6_3, isTy_6_4,
  Int.cast_ofNat_Int, decide_true, decide_false, Int.reduceEq, Int.reduceLT, Int.reduceLE, atI_0, atI_1, atI_2, atI_3, atI_4, List.length_map, List.map_cons, List.map_nil, List.length_cons, List.length_nil, Nat.reduceAdd, Nat.reduceSub, List.reduceReplicate, List.cons_append, List.nil_append, List.append_nil, List.getElem?_cons_zero, List.getElem?_cons_succ, List.getElem?_nil, List.set_cons_zero, List.set_cons_succ, List.take_zero, List.drop_zero, List.take_succ_cons, List.drop_succ_cons,
  List.eraseIdx_cons_zero, List.eraseIdx_cons_succ, true_and, and_true, eq_self, and_self, if_true, if_false, Bool.false_eq_true, reduceIte, Bool.not_true, Bool.not_false, forall_const, exists_eq_left, exists_eq_left', exists_eq_right, exists_eq_right', exists_and_left, exists_const, D.adr.injEq, D.str.injEq, D.int.injEq, D.lst.injEq, D.tup.injEq, D.bl.injEq, Option.some.injEq, Prod.mk.injEq, MO.l.injEq, MO.d.injEq, List.cons.injEq, Function.const_apply, dLock, lckE, dDGetK, dFld, dSetF, dMeth, dMake, dRaise, diKeys, dGet, dAddM, List.not_mem_nil, false_implies, implies_true, List.mem_singleton, forall_eq, Option.isSome_none, Option.isSome_some, lcRes, exists_eq, exists_eq', List.length_append, List.length_singleton])

mutual
/-- data that a tree may hold -/
def vis : D → Bool
  | .non => true
  | .bl _ => true
  | .int _ => true
  | .str _ => true
  | .lst ds => decide (ds.length ≤ 1000) && visL ds
  | .tup ds => visL ds
  | .dic _ _ => true
  | _ => false
def visL : List D → Bool
  | [] => true
  | d :: ds => vis d && visL ds
end
theorem vis_ty {d : D} (h : vis d = true) : (tyD d).isSome = true := by
  cases d <;> first
    | rfl
    | cases h
theorem visL_mem : ∀ {ds : List D}, visL ds = true → ∀ d ∈ ds, vis d = true
  | [], _, _, h => nomatch h
  | d :: ds, h, x, hx => by
    have h : (vis d && visL ds) = true := h
    obtain ⟨h1, h2⟩ := Bool.and_eq_true_iff.mp h
    rcases List.mem_cons.mp hx with rfl | hx
    · exact h1
    · exact visL_mem h2 x hx
theorem vis_lst {ds : List D} (h : vis (.lst ds) = true) : ds.length ≤ 1000 ∧ visL ds = true := by
  have h : (decide (ds.length ≤ 1000) && visL ds) = true := h
  obtain ⟨h1, h2⟩ := Bool.and_eq_true_iff.mp h
  exact ⟨of_decide_eq_true h1, h2⟩
def cB : List Nat → List D → Bool
  | [], [] => true
  | k :: ks, .tup [.int i, _] :: es => decide (i = (k : Nat)) && cB ks es
  | _, _ => false
def casesB (ks : List Nat) : D → Bool
  | .lst es => decide (es.length = ks.length) && cB ks es
  | _ => false
abbrev S_are_cases_of : Spc := fun ds m F X => ∃ (ks : List Nat) (d : D), ds = [tk ks, d] ∧ vis d = true ∧ F (.bl (casesB ks d)) []
def J_cas (ks : List Nat) (es : List D) (i : Nat) (r : Rho) : Prop := ∃ (o1 o2 : Option D), r = [some (tk ks), some (.lst es), o1, o2] ∧ cB (ks.drop i) (es.drop i) = cB ks es
theorem sc_are_cases_of : FnScope ["due", "thing", "tie", "one"] ["due", "thing"] (defScope s_are_cases_of) := ⟨rfl, rfl, rfl, by decide +kernel, rfl, by decide +kernel, by decide +kernel⟩
theorem ok_are_cases_of {P : Program} {w : World} {K : PySem.W.Frag} {mg : Str → Option Value} {base : Heap} (T : Tx K mg) (G_is_whole : Fo P w K mg base CX0 1 "is_whole" ["thing"] (spD K (NC K) 1 S_is_whole)) : Fo P w K mg base CX0 2 "are_cases_of" ["due", "thing"] (spD K (NC K) 2 S_are_cases_of) := by
  refine Fo.mk_ T 23 22 rfl rfl rfl rfl rfl (fun _ _ _ _ _ _ us hl => match us, hl with | [_, _], _ => rfl) fun f fd F => ok_pure 0 F sc_are_cases_of rfl fun cdv A outer s H E I m ds Fv X hr h => ?_
  refine ⟨_, _, (pss_cons (ps_if (PW.pt (pw_or (pt_not (pt_val (pe_bi c_isi (T.b 84 rfl) bb_isinstance (pa_cons (pv 1) (pa_cons (pe_tyN .list (T.b 86 rfl) bb_list) pa_nil))))) (pw_or1 (pt_cmpR op_ne (pe_bi c_len (T.b 85 rfl) bb_len (pa_cons (pv 1) pa_nil)) (pe_bi c_len (T.b 85 rfl) bb_len (pa_cons (pv 0) pa_nil)) (nomark _))))) (pss_one (ps_ret pe_bl)) pss_nil)
    (pss_cons (ps_for PassesOwn.never rfl (pi_zip rfl (T.b 93 rfl) (pa_cons (pv 0) (pa_cons (pv 1) pa_nil))) (pg_tup rfl (pgs_cons (pg_name (i := 2) sc_are_cases_of.nd rfl (.inl rfl)) (pgs_cons (pg_name (i := 3) sc_are_cases_of.nd rfl (.inl rfl)) pgs_nil)))
    (pss_one (ps_if (PW.pt (pw_or (pt_not (pt_val (pe_bi c_isi (T.b 84 rfl) bb_isinstance (pa_cons (pv 3) (pa_cons (pe_tyN .tuple (T.b 92 rfl) bb_tuple) pa_nil))))) (pw_or (pt_cmpR op_ne (pe_bi c_len (T.b 85 rfl) bb_len (pa_cons (pv 3) pa_nil)) pe_int (nomark _)) (pw_or (pt_not (pt_val (pe_ownK K 0 G_is_whole (hr.mono (by decide)) pass0 (pa_cons (pe_ix (o_ixK K) (pv 3) pe_int (fun _ _ => rfl)) pa_nil)))) (pw_or1 (pt_cmpR op_ne (pe_ix (o_ixK K) (pv 3) pe_int (fun _ _ => rfl)) (pv 2) (nomark _))))))) (pss_one (ps_ret pe_bl)) pss_nil)))
    (pss_one (ps_ret pe_bl)))), (by (try dsimp only [cxOf]); infer_instance), ?_⟩
  obtain ⟨ks, d, rfl, hd, h⟩ := h
  walk_at "d"
  obtain ⟨ty, hty⟩ := Option.isSome_iff_exists.mp (vis_ty hd)
  rw [hty]
  walk_at "d"
  cases d with
  | lst es =>
    cases hty
    obtain ⟨h1, h2⟩ := vis_lst hd
    walk_at "d"
    by_cases hl : es.length = ks.length
    · have e : decide ((es.length : Int) = (ks.length : Int)) = true := decide_eq_true (by omega)
      rw [e]
      walk_at "d"
      rw [show casesB ks (.lst es) = (decide (es.length = ks.length) && cB ks es) from rfl, decide_eq_true hl, Bool.true_and] at h
      refine ⟨fun i r _ => J_cas ks es i r, ⟨none, none, rfl, rfl⟩, fun _ _ _ _ => trivial, ?_, ?_⟩
      · rintro i d r m' hi ⟨o1, o2, rfl, hc⟩
        unfold zipD at hi
        rw [List.getElem?_map] at hi
        cases e : ((ks.map fun k => D.int (k : Nat)).zip es)[i]? with
        | none => rw [e] at hi; cases hi
        | some p =>
          rw [e] at hi
          cases hi
          obtain ⟨p1, p2⟩ := p
          obtain ⟨e4, e5⟩ := List.getElem?_zip_eq_some.mp e
          obtain ⟨k, hik, rfl⟩ := ints_at e4
          obtain ⟨hlt, ek⟩ := List.getElem?_eq_some_iff.mp hik
          obtain ⟨hlt2, ek2⟩ := List.getElem?_eq_some_iff.mp e5
          have e5 : es[i]? = some p2 := e5
          have hv := visL_mem h2 p2 (List.mem_of_getElem? e5)
          obtain ⟨ty, hty⟩ := Option.isSome_iff_exists.mp (vis_ty hv)
          rw [List.drop_eq_getElem_cons hlt, List.drop_eq_getElem_cons hlt2, ek, ek2] at hc
          have no : cB (k :: ks.drop (i + 1)) (p2 :: es.drop (i + 1)) = false → Fv (.bl false) [] := fun z => by
            rw [z] at hc
            rw [← hc] at h
            exact h
          walk_at "d"
          refine ⟨rfl, ?_⟩
          rw [hty]
          walk_at "d"
          cases p2 with
          | tup xs =>
            cases hty
            walk_at "d"
            cases xs with
            | nil => exact no rfl
            | cons x xs =>
              cases xs with
              | nil => exact no (by cases x <;> rfl)
              | cons y ys =>
                cases ys with
                | cons z zs =>
                  walk_at "d"
                  rw [if_pos (by simp; omega)]
                  exact no (by cases x <;> rfl)
                | nil =>
                  walk_at "d"
                  have hvx : vis x = true := visL_mem hv x List.mem_cons_self
                  obtain ⟨ty2, hty2⟩ := Option.isSome_iff_exists.mp (vis_ty hvx)
                  refine ⟨x, ty2, rfl, hty2, ?_⟩
                  cases x with
                  | int j =>
                    rw [isInt_int]
                    walk_at "d"
                    have hc2 : (decide (j = (k : Nat)) && cB (ks.drop (i + 1)) (es.drop (i + 1))) = cB ks es := hc
                    by_cases hj : j = (k : Nat)
                    · rw [decide_eq_true hj]
                      walk_at "d"
                      rw [decide_eq_true hj, Bool.true_and] at hc2
                      exact ⟨_, _, rfl, hc2⟩
                    · rw [decide_eq_false hj]
                      walk_at "d"
                      rw [decide_eq_false hj, Bool.false_and] at hc2
                      rw [← hc2] at h
                      exact h
                  | _ => exact no rfl
          | _ =>
            cases hty <;> exact no rfl
      · rintro r m' ⟨o1, o2, rfl, hc⟩
        have e6 : (zipD (ks.map fun k => D.int (k : Nat)) es).length = ks.length := by
          unfold zipD
          rw [List.length_map, List.length_zip, List.length_map, hl, Nat.min_self]
        rw [e6, List.drop_length, ← hl, List.drop_length] at hc
        walk_at "d"
        rw [← hc] at h
        exact h
    · have e : decide ((es.length : Int) = (ks.length : Int)) = false := decide_eq_false (by omega)
      rw [e]
      walk_at "d"
      rw [show casesB ks (.lst es) = (decide (es.length = ks.length) && cB ks es) from rfl, decide_eq_false hl, Bool.false_and] at h
      exact h
  | _ =>
    cases hty <;> exact h
abbrev S_wrong_at : Spc := fun ds m F X => ∃ (w : Web) (es : List D), ds = [webD w, .lst [], .lst es] ∧ m = [] ∧ WebOk w ∧ vis (.lst es) = true ∧ ∀ j : Int, F (if isWayL w es = true then .non else .int j) []
theorem sc_wrong_at : FnScope ["web", "taken", "some", "places"] ["web", "taken", "some"] (defScope s_wrong_at) := ⟨rfl, rfl, rfl, by decide +kernel, rfl, by decide +kernel, by decide +kernel⟩
theorem ok_wrong_at {P : Program} {w : World} {K : PySem.W.Frag} {mg : Str → Option Value} {base : Heap} (T : Tx K mg) (G_gone_along : Fo P w K mg base CX0 3 "gone_along" ["web", "taken", "thing"] (spD K (NC K) 3 S_gone_along)) : Fo P w K mg base CX0 4 "wrong_at" ["web", "taken", "some"] (spD K (NC K) 3 S_wrong_at) := by
  refine Fo.mk_ T 27 26 rfl rfl rfl rfl rfl (fun _ _ _ _ _ _ us hl => match us, hl with | [_, _, _], _ => rfl) fun f fd F => ok_pure 0 F sc_wrong_at rfl fun cdv A outer s H E I m ds Fv X hr h => ?_
  refine ⟨_, _, (pss_cons (ps_set (i := 3) sc_wrong_at.nd rfl (.inl rfl) (pe_ownK K 0 G_gone_along (hr.mono (by decide)) pass0 (pa_cons (pv 0) (pa_cons (pv 1) (pa_cons (pv 2) pa_nil)))))
    (pss_cons (ps_if (PW.pt (pw_or (pt_cmpR o_le (pe_bi c_len (T.b 85 rfl) bb_len (pa_cons (pv 3) pa_nil)) (pe_bi c_len (T.b 85 rfl) bb_len (pa_cons (pv 2) pa_nil)) (nomark _)) (pw_or1 (pt_cmpR op_ne (pe_ix (o_ixK K) (pv 3) (pe_un o_neg pe_int) (fun _ _ => rfl)) (pe_ix (o_ixK K) (pv 0) pe_int (fun _ _ => rfl)) (nomark _))))) (pss_one (ps_ret (pe_op o_sub (pe_bi c_len (T.b 85 rfl) bb_len (pa_cons (pv 3) pa_nil)) pe_int))) pss_nil)
    (pss_one (ps_ret pe_non)))), (by (try dsimp only [cxOf]); infer_instance), ?_⟩
  obtain ⟨w', es, rfl, rfl, hw, hd, h⟩ := h
  obtain ⟨h1, h2⟩ := vis_lst hd
  walk_at "d"
  refine ⟨w', es, rfl, rfl, hw, fun d hd => vis_ty (visL_mem h2 d hd), h1, ?_⟩
  walk_at "d"
  rw [List.map_append]
  rw [show [(goneP w' [] w'.first es).snd].map D.str = [D.str (goneP w' [] w'.first es).snd] from rfl, atI_last]
  walk_at "d"
  have hle := goneP_len w' es [] w'.first
  have hl0 : ([] : List Str).length = 0 := rfl
  by_cases hq : es.length = (goneP w' [] w'.first es).1.length
  · rw [if_neg (by simp; omega)]
    by_cases hp : (goneP w' [] w'.first es).2 = w'.last
    · have e : isWayL w' es = true := decide_eq_true ⟨hq, hp⟩
      rw [decide_eq_true hp]
      have h3 := h 0
      rw [e] at h3
      exact h3
    · have e : isWayL w' es = false := decide_eq_false fun z => hp z.2
      rw [decide_eq_false hp]
      have h3 := h ((((goneP w' [] w'.first es).fst.length + 1 : Nat) : Int) - 1)
      rw [e] at h3
      exact h3
  · have e : isWayL w' es = false := decide_eq_false fun z => hq z.1
    rw [if_pos (by simp; omega)]
    have h3 := h ((((goneP w' [] w'.first es).fst.length + 1 : Nat) : Int) - 1)
    rw [e] at h3
    exact h3
abbrev S_is_way : Spc := fun ds m F X => ∃ (w : Web) (d : D), ds = [webD w, .lst [], d] ∧ m = [] ∧ WebOk w ∧ vis d = true ∧ F (.bl (isWayD w d)) []
theorem sc_is_way : FnScope ["web", "taken", "thing"] ["web", "taken", "thing"] (defScope s_is_way) := ⟨rfl, rfl, rfl, by decide +kernel, rfl, by decide +kernel, by decide +kernel⟩
theorem ok_is_way {P : Program} {w : World} {K : PySem.W.Frag} {mg : Str → Option Value} {base : Heap} (T : Tx K mg) (G_wrong_at : Fo P w K mg base CX0 4 "wrong_at" ["web", "taken", "some"] (spD K (NC K) 3 S_wrong_at)) : Fo P w K mg base CX0 5 "is_way" ["web", "taken", "thing"] (spD K (NC K) 3 S_is_way) := by
  refine Fo.mk_ T 28 27 rfl rfl rfl rfl rfl (fun _ _ _ _ _ _ us hl => match us, hl with | [_, _, _], _ => rfl) fun f fd F => ok_pure 0 F sc_is_way rfl fun cdv A outer s H E I m ds Fv X hr h => ?_
  refine ⟨_, _, (pss_one (ps_ret (pe_and (pe_bi c_isi (T.b 84 rfl) bb_isinstance (pa_cons (pv 2) (pa_cons (pe_tyN .list (T.b 86 rfl) bb_list) pa_nil))) (pe_one (pe_cmpR o_is (pe_ownK K 0 G_wrong_at (hr.mono (by decide)) pass0 (pa_cons (pv 0) (pa_cons (pv 1) (pa_cons (pv 2) pa_nil)))) pe_non (nomark _)))))), (by (try dsimp only [cxOf]); infer_instance), ?_⟩
  obtain ⟨w', d, rfl, rfl, hw, hd, h⟩ := h
  walk_at "d"
  obtain ⟨ty, hty⟩ := Option.isSome_iff_exists.mp (vis_ty hd)
  rw [hty]
  walk_at "d"
  cases d with
  | lst es =>
    cases hty
    walk_at "d"
    refine ⟨w', es, rfl, rfl, hw, hd, fun j => ?_⟩
    have e : isWayD w' (.lst es) = isWayL w' es := rfl
    rw [e] at h
    cases hq : isWayL w' es with
    | true =>
      rw [hq] at h
      exact h
    | false =>
      rw [hq] at h
      exact h
  | _ =>
    cases hty <;> exact h
theorem lw_c {K : PySem.W.Frag} {mg : Str → Option Value} (T : Tx K mg) : Cls K (He.ga K "LongWays") ∧ NoAttr K (He.ga K "LongWays") "long_web" ∧ NoAttr K (He.ga K "LongWays") "more" := ⟨T.cls 100 rfl, T.noat 102 rfl, T.noat 103 rfl⟩
abbrev lwO (K : PySem.W.Frag) (w : Web) (adds : List Rat) : MO := .i (He.ga K "LongWays") [("long_web", webD w), ("more", .lst (adds.map fD))]
abbrev S_LongWays_init (K : PySem.W.Frag) : Spc := fun ds m F X => ∃ (a : Addr) (w : Web) (adds : List Rat), ds = [.adr a, webD w, .lst (adds.map fD)] ∧ m = [(a, .i (He.ga K "LongWays") [])] ∧ F .non [(a, lwO K w adds)]
theorem sc_LongWays_init : FnScope ["self", "web", "adds"] ["self", "web", "adds"] (defScope s_LongWays_init) := ⟨rfl, rfl, rfl, by decide +kernel, rfl, by decide +kernel, by decide +kernel⟩
theorem ok_LongWays_init {P : Program} {w : World} {K : PySem.W.Frag} {mg : Str → Option Value} {base : Heap} (T : Tx K mg) : FoM P w K mg base CX0 1 "LongWays" "__init__" ["self", "web", "adds"] (spD K (NC K) 3 (S_LongWays_init K)) := by
  refine FoM.mk_ T 40 rfl rfl rfl rfl (fun _ _ _ _ _ _ us hl => match us, hl with | [_, _, _], _ => rfl) fun f fd F => ok_pure 1 F sc_LongWays_init rfl fun cdv A outer s H E I m ds Fv X hr h => ?_
  refine ⟨_, _, (pss_cons (ps_fldK K 0 (pv 0) (pv 1) (by rfl))
    (pss_one (ps_fldK K 0 (pv 0) (pv 2) (by rfl)))), (by (try dsimp only [cxOf]); infer_instance), ?_⟩
  obtain ⟨a, w', adds, rfl, rfl, h⟩ := h
  obtain ⟨c0, c1, c2⟩ := lw_c T
  walk_at "d"
  exact ⟨_, _, rfl, ⟨c0, c1⟩, by simp, _, _, rfl, ⟨c0, c2⟩, by simp [dputF], h⟩
abbrev S_LongWays_word (K : PySem.W.Frag) : Spc := fun ds m F X => ∃ (a : Addr) (y : MO), ds = [.adr a] ∧ m = [(a, y)] ∧ F (.str "way") [(a, y)]
theorem sc_LongWays_word : FnScope ["self"] ["self"] (defScope s_LongWays_word) := ⟨rfl, rfl, rfl, by decide +kernel, rfl, by decide +kernel, by decide +kernel⟩
theorem ok_LongWays_word {P : Program} {w : World} {K : PySem.W.Frag} {mg : Str → Option Value} {base : Heap} (T : Tx K mg) : FoM P w K mg base CX0 1 "LongWays" "word" ["self"] (spD K (NC K) 1 (S_LongWays_word K)) := by
  refine FoM.mk_ T 41 rfl rfl rfl rfl (fun _ _ _ _ _ _ us hl => match us, hl with | [_], _ => rfl) fun f fd F => ok_pure 1 F sc_LongWays_word rfl fun cdv A outer s H E I m ds Fv X hr h => ?_
  refine ⟨_, _, (pss_one (ps_ret pe_str)), (by (try dsimp only [cxOf]); infer_instance), ?_⟩
  obtain ⟨a, y, rfl, rfl, h⟩ := h
  walk_at "d"
  exact h
abbrev S_LongWays_is_one (K : PySem.W.Frag) : Spc := fun ds m F X => ∃ (a : Addr) (w : Web) (adds : List Rat) (t d : D), ds = [.adr a, t, d] ∧ m = [(a, lwO K w adds)] ∧ WebOk w ∧ vis d = true ∧ F (.bl (isWayD w d)) [(a, lwO K w adds)]
theorem sc_LongWays_is_one : FnScope ["self", "taken", "thing"] ["self", "taken", "thing"] (defScope s_LongWays_is_one) := ⟨rfl, rfl, rfl, by decide +kernel, rfl, by decide +kernel, by decide +kernel⟩
theorem ok_LongWays_is_one {P : Program} {w : World} {K : PySem.W.Frag} {mg : Str → Option Value} {base : Heap} (T : Tx K mg) (G_is_way : Fo P w K mg base CX0 5 "is_way" ["web", "taken", "thing"] (spD K (NC K) 3 S_is_way)) : FoM P w K mg base CX0 6 "LongWays" "is_one" ["self", "taken", "thing"] (spD K (NC K) 3 (S_LongWays_is_one K)) := by
  refine FoM.mk_ T 42 rfl rfl rfl rfl (fun _ _ _ _ _ _ us hl => match us, hl with | [_, _, _], _ => rfl) fun f fd F => ok_pure 1 F sc_LongWays_is_one rfl fun cdv A outer s H E I m ds Fv X hr h => ?_
  refine ⟨_, _, (pss_one (ps_ret (pe_ownK K 0 G_is_way (hr.mono (by decide)) pass0 (pa_cons (pe_fldK K 0 (pv 0)) (pa_cons (pe_lst pa_nil) (pa_cons (pv 2) pa_nil)))))), (by (try dsimp only [cxOf]); infer_instance), ?_⟩
  obtain ⟨a, w', adds, t, d, rfl, rfl, hw, hd, h⟩ := h
  obtain ⟨c0, c1, c2⟩ := lw_c T
  walk_at "d"
  exact ⟨_, _, rfl, ⟨c0, c1⟩, _, rfl, Nat.zero_le _, w', d, rfl, rfl, hw, hd, h⟩
abbrev S_LongWays_ties_of (K : PySem.W.Frag) : Spc := fun ds m F X => ∃ (a : Addr) (y : MO) (es : List D), ds = [.adr a, .lst es] ∧ m = [(a, y)] ∧ F (.lst es) [(a, y)]
theorem sc_LongWays_ties_of : FnScope ["self", "one"] ["self", "one"] (defScope s_LongWays_ties_of) := ⟨rfl, rfl, rfl, by decide +kernel, rfl, by decide +kernel, by decide +kernel⟩
theorem ok_LongWays_ties_of {P : Program} {w : World} {K : PySem.W.Frag} {mg : Str → Option Value} {base : Heap} (T : Tx K mg) : FoM P w K mg base CX0 1 "LongWays" "ties_of" ["self", "one"] (spD K (NC K) 2 (S_LongWays_ties_of K)) := by
  refine FoM.mk_ T 43 rfl rfl rfl rfl (fun _ _ _ _ _ _ us hl => match us, hl with | [_, _], _ => rfl) fun f fd F => ok_pure 1 F sc_LongWays_ties_of rfl fun cdv A outer s H E I m ds Fv X hr h => ?_
  refine ⟨_, _, (pss_one (ps_ret (pe_bt c_list (T.b 86 rfl) bb_list (pa_cons (pv 1) pa_nil)))), (by (try dsimp only [cxOf]); infer_instance), ?_⟩
  obtain ⟨a, y, es, rfl, rfl, h⟩ := h
  walk_at "d"
  exact h
abbrev S_LongWays_measure (K : PySem.W.Frag) : Spc := fun ds m F X => ∃ (a : Addr) (w : Web) (adds : List Rat) (T ks : List Nat), ds = [.adr a, tk T, tk ks] ∧ m = [(a, lwO K w adds)] ∧ WebOk w ∧ AddsOk w adds ∧ (∀ k ∈ T, k < w.ties.length) ∧ T.Nodup ∧ (∀ k ∈ ks, k < w.ties.length) ∧ ks.length ≤ 50 ∧ F (fD (lenL w adds T ks)) [(a, lwO K w adds)]
theorem sc_LongWays_measure : FnScope ["self", "taken", "one", "lengths", "k"] ["self", "taken", "one"] (defScope s_LongWays_measure) := ⟨rfl, rfl, rfl, by decide +kernel, rfl, by decide +kernel, by decide +kernel⟩
theorem ok_LongWays_measure {P : Program} {w : World} {K : PySem.W.Frag} {mg : Str → Option Value} {base : Heap} (T : Tx K mg) (G_longer_lengths : Fo P w K mg base CX0 4 "longer_lengths" ["web", "adds", "lengthening"] (spD K (NC K) 3 S_longer_lengths)) (G_sum_of : Fo P w K mg base CX0 4 "sum_of" ["some"] (spD K (NC K) 1 S_sum_of)) : FoM P w K mg base CX0 5 "LongWays" "measure" ["self", "taken", "one"] (spD K (NC K) 3 (S_LongWays_measure K)) := by
  refine FoM.mk_ T 44 rfl rfl rfl rfl (fun _ _ _ _ _ _ us hl => match us, hl with | [_, _, _], _ => rfl) fun f fd F => ok_pure 1 F sc_LongWays_measure rfl fun cdv A outer s H E I m ds Fv X hr h => ?_
  refine ⟨_, _, (pss_cons (ps_set (i := 3) sc_LongWays_measure.nd rfl (.inr rfl) (pe_ownK K 0 G_longer_lengths (hr.mono (by decide)) pass0 (pa_cons (pe_fldK K 0 (pv 0)) (pa_cons (pe_fldK K 0 (pv 0)) (pa_cons (pv 1) pa_nil)))))
    (pss_one (ps_ret (pe_ownK K 0 G_sum_of (hr.mono (by decide)) pass0 (pa_cons (as_lc [4] (pe_lc (own := [("k", 4)]) rfl sc_LongWays_measure.nd (pi_list (pv 2)) (blkOk_by (own := [("k", 4)]) (N := ["self", "taken", "one", "lengths", "k"]) (sc := defScope s_LongWays_measure) (by decide +kernel)) (fun _ _ _ _ _ => (pg_name (i := 4) sc_LongWays_measure.nd rfl (.inl rfl))) (fun _ _ _ _ _ => pts_nil) (fun _ _ _ _ _ => (pe_ix (o_ixK K) (pv 3) (pv 4) (fun _ _ => rfl))))) pa_nil))))), (by (try dsimp only [cxOf]); infer_instance), ?_⟩
  obtain ⟨a, w', adds, T', ks, rfl, rfl, hw, ha, hT, nd, hk, hl, h⟩ := h
  obtain ⟨c0, c1, c2⟩ := lw_c T
  walk_at "d"
  refine ⟨_, _, rfl, ⟨c0, c1⟩, _, rfl, _, _, rfl, ⟨c0, c2⟩, _, rfl, w', adds, T', rfl, rfl, hw, ha, hT, nd, ?_⟩
  refine lc_map ks (fun k => .int (k : Nat)) (fun k => fD (addL w' adds T' k)) anyMu (fun G h => ?_) (fun _ => trivial) (by omega) ?_ ?_
  · walk_at "d"
    exact h
  · intro k hkm t G E hG
    walk_at "d"
    rw [atN (fds_at (lensL_get (hk k hkm)))]
    exact hG
  · walk_at "d"
    refine ⟨ks.map (addL w' adds T'), 2, by rw [List.map_map]; rfl, fun p hp => ?_, by decide, by rw [List.length_map]; omega, by decide, h⟩
    obtain ⟨k, h1, rfl⟩ := List.mem_map.mp hp
    exact (addL_sz hw ha T' (hk k h1)).1
end FC
/-! THE WALK, 9: the claim. -/
namespace FC
open PySem PySem.Spec L2
local macro_rules | `(tactic| walk_at "d") => `(tactic| try simp only [dVar, dC, dOp, dUn, dAdd, dSub, dMul, dMod, dDiv, dPow, dNeg, dCmp, dEq, dNe, dEqv, dIsN, dNotN, isNon, dIn, inD, dInM, dIx, ixDs, dIxM, dChain, dB, asB, dAnd, dOr, dNot, dAndV, dOrV, dNotV, dIf, dNil, dCons, dTup, dLst, dLstM, dDic0, dDicM, dDisp1,
  dCB, dLen, dLenM, dAbs, dMax2, dMin2, dInt, dBool, dStr, dList, dListN, dListM, dTuple, dSorted, dDicC, dIsi, tyD_non, tyD_bl, tyD_int, tyD_str, tyD_lst, tyD_tup, tyD_dic, dNoPart, asI, dPart, dSl, dRev, dApp, dPopI, dRem, dEqNil, dEqNilM, dGet, dDGetM, dDGet, dDInM, dDInA, dDPopM, dEqD0, dEqDM, dJoin, dNext, dSeq, dDrop, dRet, dIfS, dNever, dgName, dgNil, dgCons, dgTup, dAsg, dSubM, dDPutM, dPar, dAug, dFrz, frzD, dFgt,
  diLst, diTup, diLstM, diRng1, diRng2, diStr, diEnum, diZip, dYes, dCall, endsD, startD, wipeD, dom,
  isTy_0_0, isTy_0_1, isTy_0_2, isTy_0_3, isTy_0_4, isTy_1_0, isTy_1_1, isTy_1_2, isTy_1_3, isTy_1_4, isTy_2_0, isTy_2_1, isTy_2_2, isTy_2_3, isTy_2_4, isTy_3_0, isTy_3_1, isTy_3_2, isTy_3_3, isTy_3_4, isTy_4_0, isTy_4_1, isTy_4_2, isTy_4_3, isTy_4_4, isTy_5_0, isTy_5_1, isTy_5_2, isTy_5_3, isTy_5_4, isTy_6_0, isTy_6_1, isTy_6_2, isTy_6_3, isTy_6_4,
  Int.cast_ofNat_Int, decide_true, decide_false, Int.reduceEq, Int.reduceLT, Int.reduceLE, atI_0, atI_1, atI_2, atI_3, atI_4, List.length_map, List.map_cons, List.map_nil, List.length_cons, List.length_nil, Nat.reduceAdd, Nat.reduceSub, List.reduceReplicate, List.cons_append, List.nil_append, List.append_nil, List.getElem?_cons_zero, List.getElem?_cons_succ, List.getElem?_nil, List.set_cons_zero, List.set_cons_succ, List.take_zero, List.drop_zero, List.take_succ_cons, List.drop_succ_cons,
  List.eraseIdx_cons_zero, List.eraseIdx_cons_succ, true_and, and_true, eq_self, and_self, if_true, if_false, Bool.false_eq_true, reduceIte, Bool.not_true, Bool.not_false, forall_const, exists_eq_left, exists_eq_left', exists_eq_right, exists_eq_right', exists_and_left, exists_const, D.adr.injEq, D.str.injEq, D.int.injEq, D.lst.injEq, D.tup.injEq, D.bl.injEq, Option.some.injEq, Prod.mk.injEq, MO.l.injEq, MO.d.injEq, List.cons.injEq, Function.const_apply, dLock, lckE, dDGetK, dFld, dSetF, dMeth, dMake, dRaise, diKeys, dGet, dAddM, List.not_mem_nil, false_implies, implies_true, List.mem_singleton, forall_eq, Option.isSome_none, Option.isSome_some, lcRes, exists_eq, exists_eq', List.length_append, List.length_singleton])

/-- a tree that is let by -/
def Good (w : Web) (purse : Rat) : Nat → D → List Nat → List Nat → Prop
  | 0, _, _, _ => False
  | n + 1, d, T, Kp => ∃ (ks : List Nat) (es : List D), d = .tup [.str "way", tk ks, .lst es] ∧ isWayD w (tk ks) = true ∧ es.length = (askL w purse ks T Kp).length ∧ cB (askL w purse ks T Kp) es = true ∧
    ∀ (i k : Nat) (x y : D), (askL w purse ks T Kp)[i]? = some k → es[i]? = some (.tup [x, y]) → Good w purse n y (T ++ [k]) (Kp ++ (askL w purse ks T Kp).take i)
abbrev S_measures_in (K : PySem.W.Frag) (n : Nat) : Spc := fun ds m F X => ∃ (a : Addr) (w : Web) (adds : List Rat) (purse : Rat) (d : D) (ps : List D) (T Kp : List Nat), ds = [webD w, fD purse, .adr a, d, .lst ps, tk T, tk Kp] ∧ m = [(a, lwO K w adds)] ∧ WebOk w ∧ AddsOk w adds ∧ Sz 20 purse ∧ vis d = true ∧
  ps.length = T.length ∧ T.Nodup ∧ (∀ k ∈ T, Free w k) ∧ T.length + n = 15 ∧ Kp.length ≤ 7 * T.length ∧ (Good w purse n d T Kp ∨ X [(a, lwO K w adds)]) ∧
  ∀ qs : List Rat, qs ≠ [] → (∀ q ∈ qs, 0 ≤ q ∧ Sz 30 q) → qs.length ≤ 2 ^ (remL w T Kp).length → Sound w adds purse T Kp qs → F (.lst (qs.map fD)) [(a, lwO K w adds)]
theorem tk_inj : ∀ {a b : List Nat}, (a.map fun k => D.int (k : Nat)) = (b.map fun k => D.int (k : Nat)) → a = b
  | [], [], _ => rfl
  | [], _ :: _, h => nomatch h
  | _ :: _, [], h => nomatch h
  | x :: a, y :: b, h => by
    rw [List.map_cons, List.map_cons] at h
    injection h with h1 h2
    injection h1 with h1
    rw [tk_inj h2, Int.natCast_inj.mp h1]
theorem Good.inv {w : Web} {purse : Rat} {n : Nat} {x0 : D} {ks : List Nat} {es : List D} {T Kp : List Nat} (h : Good w purse (n + 1) (.tup [x0, tk ks, .lst es]) T Kp) : ∀ (i k : Nat) (x y : D), (askL w purse ks T Kp)[i]? = some k → es[i]? = some (.tup [x, y]) → Good w purse n y (T ++ [k]) (Kp ++ (askL w purse ks T Kp).take i) := by
  obtain ⟨ks', es', e, _, _, _, h4⟩ := h
  injection e with e
  injection e with _ e
  injection e with e2 e3
  injection e3 with e3
  injection e3 with e3
  injection e2 with e2
  have e4 := tk_inj e2
  subst e4
  subst e3
  exact h4
theorem cB_at : ∀ {due : List Nat} {es : List D} {i k : Nat}, cB due es = true → due[i]? = some k → ∃ y, es[i]? = some (.tup [.int (k : Nat), y])
  | [], _, i, k, _, h => by simp at h
  | a :: r, [], i, k, hc, h => by cases hc
  | a :: r, d :: es, i, k, hc, h => by
    have key : ∃ j y, d = .tup [.int j, y] ∧ (decide (j = (a : Nat)) && cB r es) = true := by
      cases d with
      | tup xs =>
        rcases xs with _ | ⟨x, _ | ⟨y, _ | ⟨z, zs⟩⟩⟩
        · cases hc
        · cases x <;> cases hc
        · cases x with
          | int j => exact ⟨j, y, rfl, hc⟩
          | _ => cases hc
        · cases x <;> cases hc
      | _ => cases hc
    obtain ⟨j, y, rfl, hc⟩ := key
    obtain ⟨q1, q2⟩ := Bool.and_eq_true_iff.mp hc
    cases i with
    | zero =>
      cases h
      rw [of_decide_eq_true q1]
      exact ⟨_, rfl⟩
    | succ i => exact cB_at (i := i) q2 h
theorem lenL_ok {w : Web} {adds : List Rat} (hw : WebOk w) (ha : AddsOk w adds) (T : List Nat) {ks : List Nat} (hk : ∀ k ∈ ks, k < w.ties.length) (hl : ks.length ≤ 7) : 0 ≤ lenL w adds T ks ∧ Sz 30 (lenL w adds T ks) := by
  constructor
  · refine sumF_nonneg _ fun q hq => ?_
    obtain ⟨k, h1, rfl⟩ := List.mem_map.mp hq
    exact (addL_sz hw ha T (hk k h1)).2
  · have h := Sz.sum (k := 2) (by decide) (ks.map (addL w adds T)) sz0 (by decide) (fun q hq => by
      obtain ⟨k, h1, rfl⟩ := List.mem_map.mp hq
      exact (addL_sz hw ha T (hk k h1)).1)
    rw [List.length_map] at h
    exact h.mono (by omega)
def J_meas (K : PySem.W.Frag) (a : Addr) (w : Web) (adds : List Rat) (purse : Rat) (d : D) (ps : List D) (T Kp ks : List Nat) (i : Nat) (r : Rho) (m : Mu) : Prop := ∃ (o1 o2 : Option D) (qs : List Rat), r = [some (webD w), some (fD purse), some (.adr a), some d, some (.lst ps), some (tk T), some (tk Kp), some (tk (askL w purse ks T Kp)), some (.lst (qs.map fD)), o1, o2] ∧ m = [(a, lwO K w adds)] ∧
  qs ≠ [] ∧ (∀ q ∈ qs, 0 ≤ q ∧ Sz 30 q) ∧ qs.length + 2 ^ ((remL w T Kp).length - i) ≤ 2 ^ (remL w T Kp).length + 1 ∧ SoundI w adds purse T Kp (askL w purse ks T Kp) ks i qs
theorem sc_measures_in : FnScope ["web", "purse", "kind", "thing", "path", "taken", "kept", "due", "found", "at", "inner"] ["web", "purse", "kind", "thing", "path", "taken", "kept"] (defScope s_measures_in) := ⟨rfl, rfl, rfl, by decide +kernel, rfl, by decide +kernel, by decide +kernel⟩
theorem ok_measures_in {P : Program} {w : World} {K : PySem.W.Frag} {mg : Str → Option Value} {base : Heap} {n : Nat} (T : Tx K mg) (G_LongWays_word : FoM P w K mg base CX0 1 "LongWays" "word" ["self"] (spD K (NC K) 1 (S_LongWays_word K))) (G_NoCases_init : FoM P w K mg base CX0 1 "NoCases" "__init__" ["self", "path"] (spNC K)) (G_LongWays_is_one : FoM P w K mg base CX0 6 "LongWays" "is_one" ["self", "taken", "thing"] (spD K (NC K) 3 (S_LongWays_is_one K))) (G_askable : Fo P w K mg base CX0 7 "askable" ["web", "purse", "ties", "taken", "kept"] (spD K (NC K) 5 S_askable)) (G_LongWays_ties_of : FoM P w K mg base CX0 1 "LongWays" "ties_of" ["self", "one"] (spD K (NC K) 2 (S_LongWays_ties_of K))) (G_are_cases_of : Fo P w K mg base CX0 2 "are_cases_of" ["due", "thing"] (spD K (NC K) 2 S_are_cases_of)) (G_LongWays_measure : FoM P w K mg base CX0 5 "LongWays" "measure" ["self", "taken", "one"] (spD K (NC K) 3 (S_LongWays_measure K))) (G_measures_in : Fo P w K mg base (L2.CX P w) (20 + n) "measures_in" ["web", "purse", "kind", "thing", "path", "taken", "kept"] (spD K (NC K) 7 (S_measures_in K n))) : Fo P w K mg base (L2.CX P w) (20 + n + 1) "measures_in" ["web", "purse", "kind", "thing", "path", "taken", "kept"] (spD K (NC K) 7 (S_measures_in K (n + 1))) := by
  refine Fo.mk_ T 24 23 rfl rfl rfl rfl rfl (fun _ _ _ _ _ _ us hl => match us, hl with | [_, _, _, _, _, _, _], _ => rfl) fun f fd F => ok_x 1 F sc_measures_in rfl fun cdv A outer s H E I m ds Fv X hr h hx => ?_
  haveI := hx
  refine ⟨_, _, (pss_cons (ps_if (PW.pt (pw_or (pt_not (pt_val (pe_bi c_isi (T.b 84 rfl) bb_isinstance (pa_cons (pv 3) (pa_cons (pe_tyN .tuple (T.b 92 rfl) bb_tuple) pa_nil))))) (pw_or (pt_cmpR op_ne (pe_bi c_len (T.b 85 rfl) bb_len (pa_cons (pv 3) pa_nil)) pe_int (nomark _)) (pw_or (pt_not (pt_val (pe_bi c_isi (T.b 84 rfl) bb_isinstance (pa_cons (pe_ix (o_ixK K) (pv 3) pe_int (fun _ _ => rfl)) (pa_cons (pe_tyN .str (T.b 91 rfl) bb_str) pa_nil))))) (pw_or1 (pt_cmpR op_ne (pe_ix (o_ixK K) (pv 3) pe_int (fun _ _ => rfl)) (pe_meth0D K 1 0 (pv 2) (T.cls 100 rfl) (T.meth 110 rfl) G_LongWays_word (hr.mono (by omega)) pass0) (nomark _))))))) (pss_one (ps_raiseD K T (E := E) (L2.takes_of rfl rfl rfl rfl) G_NoCases_init (hr.mono (by omega)) pass0 (pa_cons (pv 4) pa_nil) (T.g 73 rfl))) pss_nil)
    (pss_cons (ps_if (pt_not (pt_val (pe_methD K 1 0 (pv 2) (T.cls 100 rfl) (T.meth 111 rfl) G_LongWays_is_one (hr.mono (by omega)) pass0 (pa_cons (pv 5) (pa_cons (pe_ix (o_ixK K) (pv 3) pe_int (fun _ _ => rfl)) pa_nil))))) (pss_one (ps_raiseD K T (E := E) (L2.takes_of rfl rfl rfl rfl) G_NoCases_init (hr.mono (by omega)) pass0 (pa_cons (pv 4) pa_nil) (T.g 73 rfl))) pss_nil)
    (pss_cons (ps_set (i := 7) sc_measures_in.nd rfl (.inl rfl) (pe_ownK K 0 G_askable (hr.mono (by omega)) pass0 (pa_cons (pv 0) (pa_cons (pv 1) (pa_cons (pe_methD K 1 0 (pv 2) (T.cls 100 rfl) (T.meth 112 rfl) G_LongWays_ties_of (hr.mono (by omega)) pass0 (pa_cons (pe_ix (o_ixK K) (pv 3) pe_int (fun _ _ => rfl)) pa_nil)) (pa_cons (pv 5) (pa_cons (pv 6) pa_nil)))))))
    (pss_cons (ps_if (pt_not (pt_val (pe_ownK K 0 G_are_cases_of (hr.mono (by omega)) pass0 (pa_cons (pv 7) (pa_cons (pe_ix (o_ixK K) (pv 3) pe_int (fun _ _ => rfl)) pa_nil))))) (pss_one (ps_raiseD K T (E := E) (L2.takes_of rfl rfl rfl rfl) G_NoCases_init (hr.mono (by omega)) pass0 (pa_cons (pv 4) pa_nil) (T.g 73 rfl))) pss_nil)
    (pss_cons (ps_set (i := 8) sc_measures_in.nd rfl (.inl rfl) (pe_lst (pa_cons (pe_methD K 1 0 (pv 2) (T.cls 100 rfl) (T.meth 113 rfl) G_LongWays_measure (hr.mono (by omega)) pass0 (pa_cons (pv 5) (pa_cons (pe_ix (o_ixK K) (pv 3) pe_int (fun _ _ => rfl)) pa_nil))) pa_nil)))
    (pss_cons (ps_for (L2.passes_of rfl) rfl (pi_range1 rfl (T.b 89 rfl) (pa_cons (pe_bi c_len (T.b 85 rfl) bb_len (pa_cons (pv 7) pa_nil)) pa_nil)) (pg_name (i := 9) sc_measures_in.nd rfl (.inl rfl))
    (pss_cons (ps_set (i := 10) sc_measures_in.nd rfl (.inl rfl) (pe_ix (o_ixK K) (pe_ix (o_ixK K) (pe_ix (o_ixK K) (pv 3) pe_int (fun _ _ => rfl)) (pv 9) (fun _ _ => rfl)) pe_int (fun _ _ => rfl)))
    (pss_one (ps_set (i := 8) sc_measures_in.nd rfl (.inl rfl) (pe_op o_add (pv 8) (pe_ownK K 1 (E := E) G_measures_in (hr.mono (by omega)) (L2.passes_call (L2.takes_of rfl rfl rfl rfl) (fun _ _ _ _ h => h)) (pa_cons (pv 0) (pa_cons (pv 1) (pa_cons (pv 2) (pa_cons (pv 10) (pa_cons (pe_op o_add (pv 4) (pe_lst (pa_cons (pv 9) pa_nil))) (pa_cons (pe_op o_add (pv 5) (pe_lst (pa_cons (pe_ix (o_ixK K) (pv 7) (pv 9) (fun _ _ => rfl)) pa_nil))) (pa_cons (pe_op o_add (pv 6) (pe_slice (sl_anyK K) (pv 7) po_none (po_some (pv 9)))) pa_nil)))))))))))))
    (pss_one (ps_ret (pv 8))))))))), (by (try dsimp only [cxOf]); infer_instance), ?_⟩
  obtain ⟨a, w', adds, purse, d, ps, T', Kp, rfl, rfl, hw, ha, hp, hd, hps, nd, hT, hn, hKp, hG, h⟩ := h
  obtain ⟨ty, hty⟩ := Option.isSome_iff_exists.mp (vis_ty hd)
  walk_at "d"
  rw [hty]
  have bad : ¬ Good w' purse (n + 1) d T' Kp → X [(a, lwO K w' adds)] := fun z => hG.resolve_left z
  walk_at "d"
  cases d with
  | tup xs =>
    cases hty
    walk_at "d"
    rcases xs with _ | ⟨x0, _ | ⟨x1, _ | ⟨x2, _ | ⟨x3, xs⟩⟩⟩⟩
    · exact bad fun ⟨_, _, e, _⟩ => nomatch e
    · exact bad fun ⟨_, _, e, _⟩ => nomatch e
    · exact bad fun ⟨_, _, e, _⟩ => nomatch e
    · walk_at "d"
      have hv0 : vis x0 = true := visL_mem hd x0 (by simp)
      have hv1 : vis x1 = true := visL_mem hd x1 (by simp)
      have hv2 : vis x2 = true := visL_mem hd x2 (by simp)
      obtain ⟨ty0, hty0⟩ := Option.isSome_iff_exists.mp (vis_ty hv0)
      rw [hty0]
      walk_at "d"
      cases x0 with
      | str z =>
        cases hty0
        walk_at "d"
        refine ⟨_, rfl, rfl, a, _, rfl, rfl, ?_⟩
        walk_at "d"
        by_cases hz : z = "way"
        · subst hz
          rw [decide_eq_true rfl]
          walk_at "d"
          refine ⟨_, rfl, rfl, a, w', adds, _, x1, rfl, rfl, hw, hv1, ?_⟩
          walk_at "d"
          cases hway : isWayD w' x1 with
          | false =>
            walk_at "d"
            refine bad ?_
            rintro ⟨ks, es, e, h2, _⟩
            cases e
            rw [hway] at h2
            cases h2
          | true =>
            obtain ⟨ks, rfl, hWK⟩ := isWay_K hw hway
            have hks7 : ks.length ≤ 7 := by have := hWK.len; have := hw.hi; omega
            walk_at "d"
            refine ⟨_, rfl, rfl, a, _, _, rfl, rfl, ?_⟩
            walk_at "d"
            refine ⟨w', purse, ks, T', Kp, rfl, rfl, hw, hp, hWK.lt, by omega, hT, by omega, ?_⟩
            walk_at "d"
            refine ⟨_, x2, rfl, hv2, ?_⟩
            walk_at "d"
            cases hcas : casesB (askL w' purse ks T' Kp) x2 with
            | false =>
              walk_at "d"
              refine bad ?_
              rintro ⟨ks', es, e, h2, h3, h4, _⟩
              have e2 := e
              injection e2 with e2
              injection e2 with _ e2
              injection e2 with e2 e3
              injection e3 with e3
              injection e2 with e2
              have e4 : ks = ks' := by
                have := congrArg (List.map (fun d : D => match d with | .int i => i.toNat | _ => 0)) e2
                rw [List.map_map, List.map_map] at this
                simpa [Function.comp_def] using this
              subst e4
              rw [e3] at hcas
              have h5 : casesB (askL w' purse ks T' Kp) (.lst es) = true := by
                show (decide _ && _) = true
                rw [decide_eq_true h3, h4]
                rfl
              rw [h5] at hcas
              cases hcas
            | true =>
              walk_at "d"
              cases x2 with
              | lst es =>
                obtain ⟨hl1, hl2⟩ := Bool.and_eq_true_iff.mp hcas
                have hl1 := of_decide_eq_true hl1
                have hdl : (askL w' purse ks T' Kp).length ≤ 7 := Nat.le_trans (List.length_filter_le _ _) hks7
                have hrl : (remL w' T' Kp).length ≤ 14 := by
                  refine Nat.le_trans (List.length_filter_le _ _) ?_
                  rw [List.length_range]
                  exact hw.tl
                refine ⟨_, rfl, rfl, a, w', adds, T', ks, rfl, rfl, hw, ha, fun k hk => (hT k hk).lt, nd, hWK.lt, by omega, ?_⟩
                walk_at "d"
                refine ⟨sl100 (by decide), ?_⟩
                refine ⟨by simp <;> omega, by simp <;> omega, fun i r m => J_meas K a w' adds purse (.tup [.str "way", tk ks, .lst es]) ps T' Kp ks i r m, ⟨none, none, [lenL w' adds T' ks], rfl, rfl, by simp, fun q hq => ?_, ?_, ?_⟩, fun _ _ _ _ => trivial, ?_, ?_⟩
                · obtain rfl : q = lenL w' adds T' ks := by simpa using hq
                  exact lenL_ok hw ha T' hWK.lt hks7
                · show 1 + 2 ^ _ ≤ _
                  rw [Nat.sub_zero]
                  omega
                · exact ⟨by simp, fun j k hj => absurd hj (Nat.not_lt_zero _)⟩
                · rintro i d r m' hi ⟨o1, o2, qs, rfl, rfl, hqn, hq, hql, hqs⟩
                  obtain ⟨hj, rfl⟩ := rngD_get hi
                  have hi : i < (askL w' purse ks T' Kp).length := by simpa using hj
                  obtain ⟨k, hik⟩ : ∃ k, (askL w' purse ks T' Kp)[i]? = some k := ⟨_, List.getElem?_eq_getElem hi⟩
                  obtain ⟨y, hy⟩ := cB_at hl2 hik
                  have hkm := List.mem_filter.mp (List.mem_of_getElem? hik)
                  obtain ⟨hkk, hkb⟩ := hkm
                  unfold askB at hkb
                  rw [Bool.and_eq_true, Bool.and_eq_true, Bool.and_eq_true, decide_eq_true_eq, decide_eq_true_eq] at hkb
                  have hfr : Free w' k := (freeB_iff w' k).mp hkb.1
                  have hkT : k ∉ T' := hkb.2.1
                  have hvy : vis y = true := by
                    have h7 := visL_mem (vis_lst hv2).2 _ (List.mem_of_getElem? hy)
                    exact visL_mem h7 y (by simp)
                  have hrem := rem_le hWK.lt hWK.nd hik
                  rw [Int.zero_add]
                  walk_at "d"
                  rw [atN hy]
                  walk_at "d"
                  have edk : ((askL w' purse ks T' Kp).map fun k => D.int (k : Nat))[i]? = some (.int (k : Nat)) := by rw [List.getElem?_map, hik]; rfl
                  rw [atN edk]
                  walk_at "d"
                  rw [cutD_hi _ _ (by rw [List.length_map]; omega), ← List.map_take]
                  have e1 : (T'.map fun k => D.int (k : Nat)) ++ [.int (k : Nat)] = (T' ++ [k]).map fun k => D.int (k : Nat) := by rw [List.map_append]; rfl
                  have e2 : (Kp.map fun k => D.int (k : Nat)) ++ ((askL w' purse ks T' Kp).take i).map (fun k => D.int (k : Nat)) = (Kp ++ (askL w' purse ks T' Kp).take i).map fun k => D.int (k : Nat) := by rw [List.map_append]
                  rw [e1, e2]
                  have hti : ((askL w' purse ks T' Kp).take i).length ≤ 7 := Nat.le_trans (List.length_take_le _ _) (by omega)
                  refine ⟨sl100 (by decide), sl100 (by omega), sl100 (by decide), sl100 (by omega), sl100 (by rw [List.length_map]; omega), ?_⟩
                  refine ⟨a, w', adds, purse, y, _, T' ++ [k], Kp ++ (askL w' purse ks T' Kp).take i, rfl, rfl, hw, ha, hp, hvy, ?_, ?_, ?_, ?_, ?_, ?_, fun qs2 hn2 hq2 hl2 hs2 => ?_⟩
                  · rw [List.length_append, List.length_append, hps]
                    rfl
                  · refine List.nodup_append.mpr ⟨nd, by simp, fun a ha b hb q => ?_⟩
                    obtain rfl : b = k := by simpa using hb
                    exact hkT (q ▸ ha)
                  · intro j hj
                    rcases List.mem_append.mp hj with q | q
                    · exact hT j q
                    · obtain rfl : j = k := by simpa using q
                      exact hfr
                  · rw [List.length_append, List.length_singleton]
                    omega
                  · rw [List.length_append, List.length_append, List.length_singleton]
                    omega
                  · rcases hG with g | g
                    · exact .inl (g.inv i k _ y hik hy)
                    · exact .inr g
                  · have hpw : 2 ^ ((remL w' T' Kp).length - i) = 2 * 2 ^ ((remL w' T' Kp).length - (i + 1)) := by
                      rw [← Nat.pow_succ']
                      congr 1
                      omega
                    have hq2l : qs2.length ≤ 2 ^ ((remL w' T' Kp).length - (i + 1)) := Nat.le_trans hl2 (Nat.pow_le_pow_right (by decide) (by omega))
                    have hbig : 2 ^ (remL w' T' Kp).length ≤ 2 ^ 14 := Nat.pow_le_pow_right (by decide) hrl
                    walk_at "d"
                    refine ⟨sl100 (by omega), some (.int (i : Nat)), some y, qs ++ qs2, ?_, rfl, by simp [hqn], fun q hqm => ?_, ?_, ?_⟩
                    · rw [List.map_append]
                    · rcases List.mem_append.mp hqm with g | g
                      · exact hq q g
                      · exact hq2 q g
                    · rw [List.length_append]
                      omega
                    · refine ⟨List.mem_append_left _ hqs.1, fun j k2 hj hjk => ?_⟩
                      rcases Nat.lt_succ_iff_lt_or_eq.mp hj with g | rfl
                      · exact (hqs.2 j k2 g hjk).more fun q hqm => List.mem_append_left _ hqm
                      · rw [hik] at hjk
                        cases hjk
                        exact hs2.more fun q hqm => List.mem_append_right _ hqm
                · rintro r m' ⟨o1, o2, qs, rfl, rfl, hqn, hq, hql, hqs⟩
                  have el : (rngD 0 ((((askL w' purse ks T' Kp).map fun k => D.int (k : Nat)).length : Nat) : Int).toNat).length = (askL w' purse ks T' Kp).length := by rw [rngD_len]; simp
                  rw [el] at hql hqs
                  have h8 : 0 < 2 ^ ((remL w' T' Kp).length - (askL w' purse ks T' Kp).length) := Nat.pow_pos (by decide)
                  walk_at "d"
                  exact h qs hqn hq (by omega) (hqs.all hw ha nd hWK)
              | _ => cases hcas
        · rw [decide_eq_false hz]
          walk_at "d"
          refine bad ?_
          rintro ⟨_, _, e, _⟩
          cases e
          exact hz rfl
      | _ => cases hty0 <;> exact bad fun ⟨_, _, e, _⟩ => nomatch e
    · walk_at "d"
      rw [if_pos (by simp; omega)]
      exact bad fun ⟨_, _, e, _⟩ => nomatch e
  | _ => cases hty <;> exact bad fun ⟨_, _, e, _⟩ => nomatch e
/-- the claim lies no lower than the least way's length under each taking -/
def ClaimOk (w : Web) (adds : List Rat) (purse q : Rat) : Prop := ∀ S, Tak w purse S → ∃ ks, WayK w ks ∧ lenL w adds S ks ≤ q
abbrev S_claim_of_longer : Spc := fun ds m F X => ∃ (w : Web) (adds : List Rat) (purse : Rat) (d : D), ds = [webD w, .lst (adds.map fD), fD purse, d] ∧ m = [] ∧ WebOk w ∧ AddsOk w adds ∧ 0 ≤ purse ∧ Sz 20 purse ∧ vis d = true ∧ (Good w purse 15 d [] [] ∨ ∀ m', X m') ∧
  ∀ q : Rat, 0 ≤ q → Sz 30 q → ClaimOk w adds purse q → F (fD q) []
theorem sc_claim_of_longer : FnScope ["web", "adds", "purse", "thing"] ["web", "adds", "purse", "thing"] (defScope s_claim_of_longer) := ⟨rfl, rfl, rfl, by decide +kernel, rfl, by decide +kernel, by decide +kernel⟩
theorem ok_claim_of_longer {P : Program} {w : World} {K : PySem.W.Frag} {mg : Str → Option Value} {base : Heap} (T : Tx K mg) (G_look_at_web : Fo P w K mg base CX0 6 "look_at_web" ["thing"] (spD K (NC K) 1 S_look_at_web)) (G_look_at_adds : Fo P w K mg base CX0 4 "look_at_adds" ["web", "thing"] (spD K (NC K) 2 S_look_at_adds)) (G_look_at_purse : Fo P w K mg base CX0 5 "look_at_purse" ["thing"] (spD K (NC K) 1 S_look_at_purse)) (G_most_of : Fo P w K mg base CX0 2 "most_of" ["some"] (spD K (NC K) 1 S_most_of)) (G_measures_in : Fo P w K mg base (L2.CX P w) (20 + 15) "measures_in" ["web", "purse", "kind", "thing", "path", "taken", "kept"] (spD K (NC K) 7 (S_measures_in K 15))) (G_LongWays_init : FoM P w K mg base CX0 1 "LongWays" "__init__" ["self", "web", "adds"] (spD K (NC K) 3 (S_LongWays_init K))) : Fo P w K mg base (L2.CX P w) 40 "claim_of_longer" ["web", "adds", "purse", "thing"] (spD K (NC K) 4 S_claim_of_longer) := by
  refine Fo.mk_ T 45 39 rfl rfl rfl rfl rfl (fun _ _ _ _ _ _ us hl => match us, hl with | [_, _, _, _], _ => rfl) fun f fd F => ok_x 0 F sc_claim_of_longer rfl fun cdv A outer s H E I m ds Fv X hr h hx => ?_
  haveI := hx
  refine ⟨_, _, (pss_cons (ps_expr (pe_ownK K 0 G_look_at_web (hr.mono (by decide)) pass0 (pa_cons (pv 0) pa_nil)))
    (pss_cons (ps_expr (pe_ownK K 0 G_look_at_adds (hr.mono (by decide)) pass0 (pa_cons (pv 0) (pa_cons (pv 1) pa_nil))))
    (pss_cons (ps_expr (pe_ownK K 0 G_look_at_purse (hr.mono (by decide)) pass0 (pa_cons (pv 2) pa_nil)))
    (pss_one (ps_ret (pe_ownK K 0 G_most_of (hr.mono (by decide)) pass0 (pa_cons (pe_ownK K 1 (E := E) G_measures_in (hr.mono (by omega)) (L2.passes_call (L2.takes_of rfl rfl rfl rfl) (fun _ _ _ _ h => h)) (pa_cons (pv 0) (pa_cons (pv 2) (pa_cons (pe_mkD K (T.mkr 101 rfl) G_LongWays_init (hr.mono (by decide)) (T.g 75 rfl) pass0 (pa_cons (pv 0) (pa_cons (pv 1) pa_nil))) (pa_cons (pv 3) (pa_cons (pe_lst pa_nil) (pa_cons (pe_lst pa_nil) (pa_cons (pe_lst pa_nil) pa_nil)))))))) pa_nil))))))), (by (try dsimp only [cxOf]); infer_instance), ?_⟩
  obtain ⟨w', adds, purse, d, rfl, rfl, hw, ha, hp0, hp, hd, hG, h⟩ := h
  walk_at "d"
  refine ⟨w', rfl, hw, ?_⟩
  walk_at "d"
  refine ⟨w', adds, rfl, ha.len, fun q hq => (ha.ok q hq).1, ?_⟩
  walk_at "d"
  refine ⟨purse, rfl, hp0, ?_⟩
  walk_at "d"
  intro a
  refine ⟨a, w', adds, rfl, rfl, ?_⟩
  have s0 := sl100 (n := 0) (by decide)
  walk_at "d"
  refine ⟨s0, s0, s0, a, w', adds, purse, d, [], [], [], rfl, rfl, hw, ha, hp, hd, rfl, List.nodup_nil, fun k hk => (nomatch hk), rfl, Nat.zero_le _, ?_, fun qs hn hq hl hs => ?_⟩
  · exact hG.imp id fun z => z _
  · cases qs with
    | nil => exact absurd rfl hn
    | cons q0 qr =>
      refine ⟨q0, qr, 30, rfl, fun p hp => (hq p hp).2, by decide, by decide, ?_⟩
      have hm := maxQ_mem qr q0
      have hmm : maxQ q0 qr ∈ q0 :: qr := by
        rcases hm with e | e
        · rw [e]
          exact List.mem_cons_self
        · exact List.mem_cons_of_mem _ e
      refine h _ (hq _ hmm).1 (hq _ hmm).2 fun S hS => ?_
      obtain ⟨ks, h1, q, h2, h3⟩ := hs S hS (fun k hk => (nomatch hk)) fun k hk => (nomatch hk)
      refine ⟨ks, h1, Rat.le_trans h3 ?_⟩
      have hg := maxQ_ge qr q0
      rcases List.mem_cons.mp h2 with rfl | h2
      · exact hg.1
      · exact hg.2 q h2
end FC
/-! THE WALK, 10: the search. -/
namespace FC
open PySem PySem.Spec L2
local macro_rules | `(tactic| walk_at "d") => `(tactic| try simp only [dVar, dC, dOp, dUn, dAdd, dSub, dMul, dMod, dDiv, dPow, dNeg, dCmp, dEq, dNe, dEqv, dIsN, dNotN, isNon, dIn, inD, dInM, dIx, ixDs, dIxM, dChain, dB, asB, dAnd, dOr, dNot, dAndV, dOrV, dNotV, dIf, dNil, dCons, dTup, dLst, dLstM, dDic0, dDicM, dDisp1,
  dCB, dLen, dLenM, dAbs, dMax2, dMin2, dInt, dBool, dStr, dList, dListN, dListM, dTuple, dSorted, dDicC, dIsi, tyD_non, tyD_bl, tyD_int, tyD_str, tyD_lst, tyD_tup, tyD_dic, dNoPart, asI, dPart, dSl, dRev, dApp, dPopI, dRem, dEqNil, dEqNilM, dGet, dDGetM, dDGet, dDInM, dDInA, dDPopM, dEqD0, dEqDM, dJoin, dNext, dSeq, dDrop, dRet, dIfS, dNever, dgName, dgNil, dgCons, dgTup, dAsg, dSubM, dDPutM, dPar, dAug, dFrz, frzD, dFgt,
  diLst, diTup, diLstM, diRng1, diRng2, diStr, diEnum, diZip, dYes, dCall, endsD, startD, wipeD, dom,
  isTy_0_0, isTy_0_1, isTy_0_2, isTy_0_3, isTy_0_4, isTy_1_0, isTy_1_1, isTy_1_2, isTy_1_3, isTy_1_4, isTy_2_0, isTy_2_1, isTy_2_2, isTy_2_3, isTy_2_4, isTy_3_0, isTy_3_1, isTy_3_2, isTy_3_3, isTy_3_4, isTy_4_0, isTy_4_1, isTy_4_2, isTy_4_3, isTy_4_4, isTy_5_0, isTy_5_1, isTy_5_2, isTy_5_3, isTy_5_4, isTy_6_0, isTy_6_1, isTy_6_2, isTy_6_3, isTy_6_4,
  Int.cast_ofNat_Int, decide_true, decide_false, Int.reduceEq, Int.reduceLT, Int.reduceLE, atI_0, atI_1, atI_2, atI_3, atI_4, List.length_map, List.map_cons, List.map_nil, List.length_cons, List.length_nil, Nat.reduceAdd, Nat.reduceSub, List.reduceReplicate, List.cons_append, List.nil_append, List.append_nil, List.getElem?_cons_zero, List.getElem?_cons_succ, List.getElem?_nil, List.set_cons_zero, List.set_cons_succ, List.take_zero, List.drop_zero, List.take_succ_cons, List.drop_succ_cons,
  List.eraseIdx_cons_zero, List.eraseIdx_cons_succ, true_and, and_true, eq_self, and_self, if_true, if_false, Bool.false_eq_true, reduceIte, Bool.not_true, Bool.not_false, forall_const, exists_eq_left, exists_eq_left', exists_eq_right, exists_eq_right', exists_and_left, exists_const, D.adr.injEq, D.str.injEq, D.int.injEq, D.lst.injEq, D.tup.injEq, D.bl.injEq, Option.some.injEq, Prod.mk.injEq, MO.l.injEq, MO.d.injEq, List.cons.injEq, Function.const_apply, dLock, lckE, dDGetK, dFld, dSetF, dMeth, dMake, dRaise, diKeys, dGet, dAddM, List.not_mem_nil, false_implies, implies_true, List.mem_singleton, forall_eq, Option.isSome_none, Option.isSome_some, lcRes, exists_eq, exists_eq', List.length_append, List.length_singleton])

theorem ls_c {K : PySem.W.Frag} {mg : Str → Option Value} (T : Tx K mg) : Cls K (He.ga K "LongSearch") ∧ NoAttr K (He.ga K "LongSearch") "looked_web" ∧ NoAttr K (He.ga K "LongSearch") "put_on" ∧ NoAttr K (He.ga K "LongSearch") "limit" ∧ NoAttr K (He.ga K "LongSearch") "ends" := ⟨T.cls 104 rfl, T.noat 106 rfl, T.noat 107 rfl, T.noat 108 rfl, T.noat 109 rfl⟩
abbrev lsO (K : PySem.W.Frag) (w : Web) (adds : List Rat) (purse : Rat) (b : Addr) : MO := .i (He.ga K "LongSearch") [("looked_web", webD w), ("put_on", .lst (adds.map fD)), ("limit", fD purse), ("ends", .adr b)]
/-- trees as they are made -/
def TreeN : Nat → D → Prop
  | 0, _ => False
  | n + 1, d => ∃ (ks : List Nat) (es : List D), d = .tup [.str "way", tk ks, .lst es] ∧ ks.length ≤ 7 ∧ es.length ≤ 7 ∧ (∀ k ∈ ks, k < 14) ∧ ∀ e ∈ es, ∃ (k : Nat) (y : D), e = .tup [.int (k : Nat), y] ∧ k < 14 ∧ TreeN n y
/-- an end: taking, way, length, prices -/
def EndOk (e : D) : Prop := ∃ (x y : D) (q : Rat) (z : D), e = .tup [x, y, fD q, z] ∧ Sz 50 q
theorem dputF_len (f : Str) (d : D) : ∀ fs : List (Str × D), (dputF f d fs).length ≤ fs.length + 1
  | [] => Nat.le_refl _
  | (g, x) :: r => by
    unfold dputF
    split
    · exact Nat.le_succ _
    · exact Nat.succ_le_succ (dputF_len f d r)
abbrev S_LongSearch_init (K : PySem.W.Frag) : Spc := fun ds m F X => ∃ (a : Addr) (w : Web) (adds : List Rat) (purse : Rat), ds = [.adr a, webD w, .lst (adds.map fD), fD purse] ∧ m = [(a, .i (He.ga K "LongSearch") [])] ∧ ∀ b, F .non [(a, lsO K w adds purse b), (b, .l [])]
theorem sc_LongSearch_init : FnScope ["self", "web", "adds", "purse"] ["self", "web", "adds", "purse"] (defScope s_LongSearch_init) := ⟨rfl, rfl, rfl, by decide +kernel, rfl, by decide +kernel, by decide +kernel⟩
theorem ok_LongSearch_init {P : Program} {w : World} {K : PySem.W.Frag} {mg : Str → Option Value} {base : Heap} (T : Tx K mg) : FoM P w K mg base CX0 1 "LongSearch" "__init__" ["self", "web", "adds", "purse"] (spD K (NC K) 4 (S_LongSearch_init K)) := by
  refine FoM.mk_ T 46 rfl rfl rfl rfl (fun _ _ _ _ _ _ us hl => match us, hl with | [_, _, _, _], _ => rfl) fun f fd F => ok_pure 2 F sc_LongSearch_init rfl fun cdv A outer s H E I m ds Fv X hr h => ?_
  refine ⟨_, _, (pss_cons (ps_fldK K 0 (pv 0) (pv 1) (by rfl))
    (pss_cons (ps_fldK K 0 (pv 0) (pv 2) (by rfl))
    (pss_cons (ps_fldK K 0 (pv 0) (pv 3) (by rfl))
    (pss_one (ps_fldK K 0 (pv 0) (pe_lstM pa_nil) (by rfl)))))), (by (try dsimp only [cxOf]); infer_instance), ?_⟩
  obtain ⟨a, w', adds, purse, rfl, rfl, h⟩ := h
  obtain ⟨c0, c1, c2, c3, c4⟩ := ls_c T
  walk_at "d"
  refine ⟨_, _, rfl, ⟨c0, c1⟩, by simp, _, _, rfl, ⟨c0, c2⟩, by simp [dputF], _, _, rfl, ⟨c0, c3⟩, Nat.lt_of_le_of_lt (dputF_len _ _ _) (Nat.lt_of_le_of_lt (Nat.succ_le_succ (dputF_len _ _ _)) (by simp)), Nat.zero_le _, fun b => ⟨_, _, rfl, ⟨c0, c4⟩, ?_, h b⟩⟩
  refine Nat.lt_of_le_of_lt (dputF_len _ _ _) (Nat.lt_of_le_of_lt (Nat.succ_le_succ (dputF_len _ _ _)) (Nat.lt_of_le_of_lt (Nat.succ_le_succ (Nat.succ_le_succ (dputF_len _ _ _))) (by simp)))
def J_go (K : PySem.W.Frag) (a b : Addr) (w : Web) (adds : List Rat) (purse : Rat) (n n0 : Nat) (T Kp ks : List Nat) (o3 o4 : Option D) (i : Nat) (r : Rho) (m : Mu) : Prop := ∃ (a1 a2 : Addr) (o : Option D) (es cs : List D), r = [some (.adr a), some (tk T), some (tk Kp), some (tk ks), o3, o4, some (.adr a1), some (.adr a2), o] ∧ m = [(a, lsO K w adds purse b), (b, .l es), (a1, .l cs), (a2, .l (((askL w purse ks T Kp).take i).map fun k => .int (k : Nat)))] ∧
  es ≠ [] ∧ (∀ e ∈ es, EndOk e) ∧ es.length + 2 ^ ((remL w T Kp).length - i) ≤ n0 + 1 + 2 ^ (remL w T Kp).length ∧ cs.length = i ∧ ∀ e ∈ cs, ∃ (k : Nat) (y : D), e = .tup [.int (k : Nat), y] ∧ k < 14 ∧ TreeN n y
abbrev S_LongSearch_go_on (K : PySem.W.Frag) (n : Nat) : Spc := fun ds m F X => ∃ (a b : Addr) (w : Web) (adds : List Rat) (purse : Rat) (es : List D) (T Kp : List Nat), ds = [.adr a, tk T, tk Kp] ∧ m = [(a, lsO K w adds purse b), (b, .l es)] ∧ WebOk w ∧ AddsOk w adds ∧ Sz 20 purse ∧ Reach w w.last ∧
  T.Nodup ∧ (∀ k ∈ T, Free w k) ∧ T.length + n = 15 ∧ Kp.length ≤ 7 * T.length ∧ (∀ e ∈ es, EndOk e) ∧ es.length + 2 ^ (remL w T Kp).length ≤ 40000 ∧
  ∀ (t : D) (es' : List D), TreeN n t → (∀ e ∈ es', EndOk e) → es' ≠ [] → es'.length ≤ es.length + 2 ^ (remL w T Kp).length → F t [(a, lsO K w adds purse b), (b, .l es')]
theorem sc_LongSearch_go_on : FnScope ["self", "chosen", "kept", "way", "length", "prices", "cases", "ahead", "tie"] ["self", "chosen", "kept"] (defScope s_LongSearch_go_on) := ⟨rfl, rfl, rfl, by decide +kernel, rfl, by decide +kernel, by decide +kernel⟩
theorem ok_LongSearch_go_on {P : Program} {w : World} {K : PySem.W.Frag} {mg : Str → Option Value} {base : Heap} {n : Nat} (T : Tx K mg) (G_least_by : Fo P w K mg base CX0 3 "least_by" ["web", "taken", "lengths"] (spD K (NC K) 3 S_least_by)) (G_longer_lengths : Fo P w K mg base CX0 4 "longer_lengths" ["web", "adds", "lengthening"] (spD K (NC K) 3 S_longer_lengths)) (G_askable : Fo P w K mg base CX0 7 "askable" ["web", "purse", "ties", "taken", "kept"] (spD K (NC K) 5 S_askable)) (G_LongSearch_go_on : FoM P w K mg base CX0 (20 + n) "LongSearch" "go_on" ["self", "chosen", "kept"] (spD K (NC K) 3 (S_LongSearch_go_on K n))) : FoM P w K mg base CX0 (20 + n + 1) "LongSearch" "go_on" ["self", "chosen", "kept"] (spD K (NC K) 3 (S_LongSearch_go_on K (n + 1))) := by
  refine FoM.mk_ T 47 rfl rfl rfl rfl (fun _ _ _ _ _ _ us hl => match us, hl with | [_, _, _], _ => rfl) fun f fd F => ok_pure 2 F sc_LongSearch_go_on rfl fun cdv A outer s H E I m ds Fv X hr h => ?_
  refine ⟨_, _, (pss_cons (ps_asg (pe_ownK K 0 G_least_by (hr.mono (by omega)) pass0 (pa_cons (pe_fldK K 0 (pv 0)) (pa_cons (pe_lst pa_nil) (pa_cons (pe_ownK K 0 G_longer_lengths (hr.mono (by omega)) pass0 (pa_cons (pe_fldK K 0 (pv 0)) (pa_cons (pe_fldK K 0 (pv 0)) (pa_cons (pv 1) pa_nil)))) pa_nil)))) (pg_tup rfl (pgs_cons (pg_name (i := 3) sc_LongSearch_go_on.nd rfl (.inl rfl)) (pgs_cons (pg_name (i := 4) sc_LongSearch_go_on.nd rfl (.inl rfl)) (pgs_cons (pg_name (i := 5) sc_LongSearch_go_on.nd rfl (.inl rfl)) pgs_nil)))))
    (pss_cons (ps_expr (as_app 1 (pe_bm PySem.F.plainAttrs_list PySem.F.slot_list_append PySem.F.type_list_append mt_append (pe_fldK K 0 (pv 0)) (pa_cons (pe_tup (pa_cons (pe_bi c_sorted (T.b 90 rfl) bb_sorted (pa_cons (pv 1) pa_nil)) (pa_cons (pv 3) (pa_cons (pv 4) (pa_cons (pv 5) pa_nil))))) pa_nil))))
    (pss_cons (ps_set (i := 6) sc_LongSearch_go_on.nd rfl (.inl rfl) (pe_lstM pa_nil))
    (pss_cons (ps_set (i := 7) sc_LongSearch_go_on.nd rfl (.inl rfl) (pe_lstM pa_nil))
    (pss_cons (ps_for PassesOwn.never rfl (pi_list (pe_ownK K 0 G_askable (hr.mono (by omega)) pass0 (pa_cons (pe_fldK K 0 (pv 0)) (pa_cons (pe_fldK K 0 (pv 0)) (pa_cons (pv 3) (pa_cons (pv 1) (pa_cons (pv 2) pa_nil))))))) (pg_name (i := 8) sc_LongSearch_go_on.nd rfl (.inl rfl))
    (pss_cons (ps_expr (as_app 2 (pe_bm PySem.F.plainAttrs_list PySem.F.slot_list_append PySem.F.type_list_append mt_append (pv 6) (pa_cons (pe_tup (pa_cons (pv 8) (pa_cons (pe_methD K 2 0 (pv 0) (T.cls 104 rfl) (T.meth 114 rfl) G_LongSearch_go_on (hr.mono (by omega)) pass0 (pa_cons (pe_op o_add (pv 1) (pe_lst (pa_cons (pv 8) pa_nil))) (pa_cons (pe_op (o_addM 3) (pv 2) (pv 7)) pa_nil))) pa_nil))) pa_nil))))
    (pss_one (ps_expr (as_app 3 (pe_bm PySem.F.plainAttrs_list PySem.F.slot_list_append PySem.F.type_list_append mt_append (pv 7) (pa_cons (pv 8) pa_nil)))))))
    (pss_frz 6 2 (pss_one (ps_ret (pe_tup (pa_cons pe_str (pa_cons (pe_bt c_list (T.b 86 rfl) bb_list (pa_cons (pv 3) pa_nil)) (pa_cons (pv 6) pa_nil)))))))))))), (by (try dsimp only [cxOf]); infer_instance), ?_⟩
  obtain ⟨a, b, w', adds, purse, es, T', Kp, rfl, rfl, hw, ha, hp, hr1, nd, hT, hn, hKp, hes, hel, h⟩ := h
  obtain ⟨c0, c1, c2, c3, c4⟩ := ls_c T
  walk_at "d"
  have hTl : ∀ k ∈ T', k < w'.ties.length := fun k hk => (hT k hk).lt
  have h14 := hw.tl
  refine ⟨_, _, rfl, ⟨c0, c1⟩, _, rfl, Nat.zero_le _, _, _, rfl, ⟨c0, c1⟩, _, rfl, _, _, rfl, ⟨c0, c2⟩, _, rfl, w', adds, T', rfl, rfl, hw, ha, hTl, nd, ?_⟩
  walk_at "d"
  refine ⟨w', lensL w' adds T', rfl, rfl, hw, lensL_len _ _ _, fun q hq => ?_, hr1, fun ks q pr hks hkn hk7 hq => ?_⟩
  · obtain ⟨k, h1, rfl⟩ := List.mem_map.mp hq
    exact (addL_sz hw ha T' (List.mem_range.mp h1)).1
  walk_at "d"
  have hrl : (remL w' T' Kp).length ≤ 14 := by
    refine Nat.le_trans (List.length_filter_le _ _) ?_
    rw [List.length_range]
    exact hw.tl
  have hpos : 0 < 2 ^ (remL w' T' Kp).length := Nat.pow_pos (by decide)
  have s4 := sl100 (n := 4) (by decide)
  refine ⟨rfl, _, _, rfl, ⟨c0, c4⟩, _, rfl, b, rfl, rfl, T'.map fun (k : Nat) => (k : Int), tk_map T', by rw [List.length_map]; omega, fun ns' => ⟨s4, es, ⟨rfl, rfl⟩, ?_, ?_⟩⟩
  · exact Nat.lt_of_le_of_lt (m := 40000) (by omega) (by decide)
  walk_at "d"
  have s0 := sl100 (n := 0) (by decide)
  refine ⟨s0, fun a1 => ⟨s0, fun a2 => ?_⟩⟩
  unfold dFor
  walk_at "d"
  have hend : EndOk (D.tup [D.lst (List.map D.int ns'), tk ks, fD q, dicD pr]) := ⟨_, _, q, _, rfl, hq⟩
  refine ⟨_, _, rfl, ⟨c0, c1⟩, _, rfl, _, _, rfl, ⟨c0, c3⟩, _, rfl, w', purse, ks, T', Kp, rfl, rfl, hw, hp, hks, by omega, hT, by omega, ?_⟩
  walk_at "d"
  have hdl : (askL w' purse ks T' Kp).length ≤ 7 := Nat.le_trans (List.length_filter_le _ _) hk7
  refine ⟨fun i r m => J_go K a b w' adds purse n es.length T' Kp ks (some (fD q)) (some (dicD pr)) i r m, ⟨a1, a2, none, es ++ [D.tup [D.lst (List.map D.int ns'), tk ks, fD q, dicD pr]], [], rfl, rfl, by simp, fun e he => ?_, ?_, rfl, fun e he => (nomatch he)⟩, fun _ _ _ _ => trivial, ?_, ?_⟩
  · rcases List.mem_append.mp he with g | g
    · exact hes e g
    · obtain rfl : e = _ := by simpa using g
      exact hend
  · rw [List.length_append, Nat.sub_zero]
    show _ + 1 + _ ≤ _
    omega
  · rintro i d r m' hi ⟨a1, a2, o, es1, cs, rfl, rfl, hen, he1, hel1, hcl, hcs⟩
    obtain ⟨k, hik, rfl⟩ := ints_at hi
    obtain ⟨hlt, ek⟩ := List.getElem?_eq_some_iff.mp hik
    obtain ⟨hkk, hkb⟩ := List.mem_filter.mp (List.mem_of_getElem? hik)
    unfold askB at hkb
    rw [Bool.and_eq_true, Bool.and_eq_true, Bool.and_eq_true, decide_eq_true_eq, decide_eq_true_eq] at hkb
    have hfr : Free w' k := (freeB_iff w' k).mp hkb.1
    have hkT : k ∉ T' := hkb.2.1
    have hrem := rem_le hks hkn hik
    have s1 := sl100 (n := 1) (by decide)
    have s2 := sl100 (n := 2) (by decide)
    have hti : ((askL w' purse ks T' Kp).take i).length ≤ 7 := Nat.le_trans (List.length_take_le _ _) (by omega)
    walk_at "d"
    have e1 : (T'.map fun k => D.int (k : Nat)) ++ [.int (k : Nat)] = (T' ++ [k]).map fun k => D.int (k : Nat) := by rw [List.map_append]; rfl
    have e2 : (Kp.map fun k => D.int (k : Nat)) ++ ((askL w' purse ks T' Kp).take i).map (fun k => D.int (k : Nat)) = (Kp ++ (askL w' purse ks T' Kp).take i).map fun k => D.int (k : Nat) := by rw [List.map_append]
    have hpw : 2 ^ ((remL w' T' Kp).length - i) = 2 * 2 ^ ((remL w' T' Kp).length - (i + 1)) := by
      rw [← Nat.pow_succ']
      congr 1
      omega
    have hp1 : 0 < 2 ^ ((remL w' T' Kp).length - (i + 1)) := Nat.pow_pos (by decide)
    have hq2l : 2 ^ (remL w' (T' ++ [k]) (Kp ++ List.take i (askL w' purse ks T' Kp))).length ≤ 2 ^ ((remL w' T' Kp).length - (i + 1)) := Nat.pow_le_pow_right (by decide) (by omega)
    rw [e1, e2]
    refine ⟨_, rfl, rfl, s1, sl100 (by omega), sl100 (by omega), a, b, w', adds, purse, es1, T' ++ [k], Kp ++ (askL w' purse ks T' Kp).take i, rfl, rfl, hw, ha, hp, hr1, ?_, ?_, ?_, ?_, he1, by omega, fun t es2 ht he2 hen2 hl2 => ?_⟩
    · refine List.nodup_append.mpr ⟨nd, by simp, fun a ha b hb q => ?_⟩
      obtain rfl : b = k := by simpa using hb
      exact hkT (q ▸ ha)
    · intro j hj
      rcases List.mem_append.mp hj with q | q
      · exact hT j q
      · obtain rfl : j = k := by simpa using q
        exact hfr
    · rw [List.length_append, List.length_singleton]
      omega
    · rw [List.length_append, List.length_append, List.length_singleton]
      omega
    · walk_at "d"
      refine ⟨s2, Nat.lt_of_le_of_lt (m := 7) (by omega) (by decide), Nat.lt_of_le_of_lt hti (by decide), a1, a2, _, es2, cs ++ [.tup [.int (k : Nat), t]], rfl, ?_, hen2, he2, by omega, ?_, fun e he => ?_⟩
      · rw [List.take_succ_eq_append_getElem hlt, ek, List.map_append]
        rfl
      · rw [List.length_append, hcl]
        rfl
      · rcases List.mem_append.mp he with g | g
        · exact hcs e g
        · obtain rfl : e = _ := by simpa using g
          exact ⟨k, t, rfl, Nat.lt_of_lt_of_le hfr.lt h14, ht⟩
  · rintro r m' ⟨a1, a2, o, es1, cs, rfl, rfl, hen, he1, hel1, hcl, hcs⟩
    have h8 : 0 < 2 ^ ((remL w' T' Kp).length - (askL w' purse ks T' Kp).length) := Nat.pow_pos (by decide)
    walk_at "d"
    refine ⟨by simp, sl100 (by decide), h _ es1 ⟨ks, cs, rfl, hk7, by omega, fun k hk => Nat.lt_of_lt_of_le (hks k hk) h14, hcs⟩ he1 hen (by omega)⟩
abbrev S_best_longer : Spc := fun ds m F X => ∃ (w : Web) (adds : List Rat) (purse : Rat), ds = [webD w, .lst (adds.map fD), fD purse] ∧ m = [] ∧ WebOk w ∧ AddsOk w adds ∧ 0 ≤ purse ∧ Sz 20 purse ∧ cnt (selq (freeW w)) 0 purse ≤ 3 ∧
  (¬ Reach w w.last → ∀ x : D, F (.tup [.str "none", x]) []) ∧ (Reach w w.last → ∀ x1 x2 x3 t : D, TreeN 15 t → F (.tup [.str "left", x1, x2, x3, t]) [])
def J_bl (K : PySem.W.Frag) (a b : Addr) (w : Web) (adds : List Rat) (purse : Rat) (l : List Str) (t : D) (es : List D) (r : Rho) (m : Mu) : Prop := ∃ (e : D) (o : Option D), r = [some (webD w), some (.lst (adds.map fD)), some (fD purse), some (.lst (l.map .str)), some (.adr a), some t, some e, o] ∧ m = [(a, lsO K w adds purse b), (b, .l es)] ∧ EndOk e
theorem sc_best_longer : FnScope ["web", "adds", "purse", "side", "search", "cases", "best", "one"] ["web", "adds", "purse"] (defScope s_best_longer) := ⟨rfl, rfl, rfl, by decide +kernel, rfl, by decide +kernel, by decide +kernel⟩
theorem ok_best_longer {P : Program} {w : World} {K : PySem.W.Frag} {mg : Str → Option Value} {base : Heap} (T : Tx K mg) (G_look_at_web : Fo P w K mg base CX0 6 "look_at_web" ["thing"] (spD K (NC K) 1 S_look_at_web)) (G_look_at_adds : Fo P w K mg base CX0 4 "look_at_adds" ["web", "thing"] (spD K (NC K) 2 S_look_at_adds)) (G_look_at_purse : Fo P w K mg base CX0 5 "look_at_purse" ["thing"] (spD K (NC K) 1 S_look_at_purse)) (G_look_at_size : Fo P w K mg base CX0 5 "look_at_size" ["web", "purse"] (spD K (NC K) 2 S_look_at_size)) (G_side_in : Fo P w K mg base CX0 3 "side_in" ["web", "taken"] (spD K (NC K) 2 S_side_in)) (G_LongSearch_init : FoM P w K mg base CX0 1 "LongSearch" "__init__" ["self", "web", "adds", "purse"] (spD K (NC K) 4 (S_LongSearch_init K))) (G_LongSearch_go_on : FoM P w K mg base CX0 (20 + 15) "LongSearch" "go_on" ["self", "chosen", "kept"] (spD K (NC K) 3 (S_LongSearch_go_on K 15))) (G_is_longer : Fo P w K mg base CX0 2 "is_longer" ["length", "other"] (spD K (NC K) 2 S_is_longer)) : Fo P w K mg base CX0 40 "best_longer" ["web", "adds", "purse"] (spD K (NC K) 3 S_best_longer) := by
  refine Fo.mk_ T 48 40 rfl rfl rfl rfl rfl (fun _ _ _ _ _ _ us hl => match us, hl with | [_, _, _], _ => rfl) fun f fd F => ok_pure 0 F sc_best_longer rfl fun cdv A outer s H E I m ds Fv X hr h => ?_
  refine ⟨_, _, (pss_cons (ps_expr (pe_ownK K 0 G_look_at_web (hr.mono (by decide)) pass0 (pa_cons (pv 0) pa_nil)))
    (pss_cons (ps_expr (pe_ownK K 0 G_look_at_adds (hr.mono (by decide)) pass0 (pa_cons (pv 0) (pa_cons (pv 1) pa_nil))))
    (pss_cons (ps_expr (pe_ownK K 0 G_look_at_purse (hr.mono (by decide)) pass0 (pa_cons (pv 2) pa_nil)))
    (pss_cons (ps_expr (pe_ownK K 0 G_look_at_size (hr.mono (by decide)) pass0 (pa_cons (pv 0) (pa_cons (pv 2) pa_nil))))
    (pss_cons (ps_set (i := 3) sc_best_longer.nd rfl (.inl rfl) (pe_ownK K 0 G_side_in (hr.mono (by decide)) pass0 (pa_cons (pv 0) (pa_cons (pe_lst pa_nil) pa_nil))))
    (pss_cons (ps_if (pt_cmpR (o_ninK K) (pe_ix (o_ixK K) (pv 0) pe_int (fun _ _ => rfl)) (pv 3) (by rfl)) (pss_one (ps_ret (pe_tup (pa_cons pe_str (pa_cons (pv 3) pa_nil))))) pss_nil)
    (pss_cons (ps_set (i := 4) sc_best_longer.nd rfl (.inl rfl) (pe_mkD K (T.mkr 105 rfl) G_LongSearch_init (hr.mono (by decide)) (T.g 76 rfl) pass0 (pa_cons (pv 0) (pa_cons (pv 1) (pa_cons (pv 2) pa_nil)))))
    (pss_cons (ps_set (i := 5) sc_best_longer.nd rfl (.inl rfl) (pe_methD K 2 0 (pv 4) (T.cls 104 rfl) (T.meth 114 rfl) G_LongSearch_go_on (hr.mono (by omega)) pass0 (pa_cons (pe_lst pa_nil) (pa_cons (pe_lst pa_nil) pa_nil))))
    (pss_cons (ps_set (i := 6) sc_best_longer.nd rfl (.inl rfl) (pe_ix (o_ixM 1) (pe_fldK K 0 (pv 4)) pe_int (fun _ _ => rfl)))
    (pss_cons (ps_for PassesOwn.never rfl (pi_listM 1 (pe_fldK K 0 (pv 4))) (pg_name (i := 7) sc_best_longer.nd rfl (.inl rfl))
    (pss_one (ps_if (pt_val (pe_ownK K 0 G_is_longer (hr.mono (by decide)) pass0 (pa_cons (pe_ix (o_ixK K) (pv 7) pe_int (fun _ _ => rfl)) (pa_cons (pe_ix (o_ixK K) (pv 6) pe_int (fun _ _ => rfl)) pa_nil)))) (pss_one (ps_set (i := 6) sc_best_longer.nd rfl (.inl rfl) (pv 7))) pss_nil)))
    (pss_one (ps_ret (pe_tup (pa_cons pe_str (pa_cons (pe_ix (o_ixK K) (pv 6) pe_int (fun _ _ => rfl)) (pa_cons (pe_ix (o_ixK K) (pv 6) pe_int (fun _ _ => rfl)) (pa_cons (pe_ix (o_ixK K) (pv 6) pe_int (fun _ _ => rfl)) (pa_cons (pv 5) pa_nil)))))))))))))))))), (by (try dsimp only [cxOf]); infer_instance), ?_⟩
  obtain ⟨w', adds, purse, rfl, rfl, hw, ha, hp0, hp, hc, h1, h2⟩ := h
  obtain ⟨c0, c1, c2, c3, c4⟩ := ls_c T
  have s0 := sl100 (n := 0) (by decide)
  have s2 := sl100 (n := 2) (by decide)
  walk_at "d"
  refine ⟨w', rfl, hw, ?_⟩
  walk_at "d"
  refine ⟨w', adds, rfl, ha.len, fun q hq => (ha.ok q hq).1, ?_⟩
  walk_at "d"
  refine ⟨purse, rfl, hp0, ?_⟩
  walk_at "d"
  refine ⟨w', purse, rfl, rfl, hw, hp, hc, ?_⟩
  walk_at "d"
  refine ⟨s0, w', rfl, rfl, hw, fun l hl => ?_⟩
  walk_at "d"
  rw [inDs_str]
  by_cases hr1 : Reach w' w'.last
  · rw [decide_eq_true (hl.mpr hr1)]
    walk_at "d"
    intro a
    refine ⟨a, w', adds, purse, rfl, rfl, fun b => ?_⟩
    walk_at "d"
    have hrl : (remL w' [] []).length ≤ 14 := by
      refine Nat.le_trans (List.length_filter_le _ _) ?_
      rw [List.length_range]
      exact hw.tl
    have hbig : 2 ^ (remL w' [] []).length ≤ 2 ^ 14 := Nat.pow_le_pow_right (by decide) hrl
    refine ⟨_, rfl, rfl, s0, s0, a, b, w', adds, purse, [], [], [], rfl, rfl, hw, ha, hp, hr1, List.nodup_nil, fun k hk => (nomatch hk), rfl, Nat.zero_le _, fun e he => (nomatch he), by simp only [List.length_nil]; omega, fun t es ht hes hen hl => ?_⟩
    walk_at "d"
    cases es with
    | nil => exact absurd rfl hen
    | cons e0 er =>
      refine ⟨_, _, rfl, ⟨c0, c4⟩, _, rfl, b, rfl, _, ⟨rfl, rfl⟩, ?_⟩
      walk_at "d"
      unfold dFor
      walk_at "d"
      refine ⟨_, _, rfl, ⟨c0, c4⟩, _, rfl, b, rfl, _, ⟨rfl, rfl⟩, fun i r m => J_bl K a b w' adds purse l t (e0 :: er) r m, ⟨e0, none, rfl, rfl, hes e0 List.mem_cons_self⟩, fun i r m ⟨_, _, _, h2, _⟩ => by rw [h2]; rfl, ?_, ?_⟩
      · rintro i d r m' hi ⟨e, o, rfl, rfl, he⟩
        obtain ⟨x1, x2, q1, x3, rfl, hq1⟩ := he
        obtain ⟨y1, y2, q2, y3, rfl, hq2⟩ := hes d (List.mem_of_getElem? hi)
        walk_at "d"
        refine ⟨q2, q1, rfl, hq2, hq1, fun c => ?_⟩
        cases c with
        | true => exact ⟨_, _, rfl, rfl, _, _, q2, _, rfl, hq2⟩
        | false => exact ⟨_, _, rfl, rfl, _, _, q1, _, rfl, hq1⟩
      · rintro r m' ⟨e, o, rfl, rfl, he⟩
        obtain ⟨x1, x2, q1, x3, rfl, hq1⟩ := he
        walk_at "d"
        exact ⟨sl100 (by decide), h2 hr1 _ _ _ t ht⟩
  · rw [decide_eq_false fun q => hr1 (hl.mp q)]
    walk_at "d"
    exact ⟨s2, h1 hr1 _⟩
end FC
set_option exponentiation.threshold 3000
/-! THE WALK, 11: the law's draws. -/
namespace FC
open PySem PySem.Spec L2
local macro_rules | `(tactic| walk_at "d") => `(tactic| try simp only [dVar, dC, dOp, dUn, dAdd, dSub, dMul, dMod, dDiv, dPow, dNeg, dCmp, dEq, dNe, dEqv, dIsN, dNotN, isNon, dIn, inD, dInM, dIx, ixDs, dIxM, dChain, dB, asB, dAnd, dOr, dNot, dAndV, dOrV, dNotV, dIf, dNil, dCons, dTup, dLst, dLstM, dDic0, dDicM, dDisp1,
  dCB, dLen, dLenM, dAbs, dMax2, dMin2, dInt, dBool, dStr, dList, dListN, dListM, dTuple, dSorted, dDicC, dIsi, tyD_non, tyD_bl, tyD_int, tyD_str, tyD_lst, tyD_tup, tyD_dic, dNoPart, asI, dPart, dSl, dRev, dApp, dPopI, dRem, dEqNil, dEqNilM, dGet, dDGetM, dDGet, dDInM, dDInA, dDPopM, dEqD0, dEqDM, dJoin, dNext, dSeq, dDrop, dRet, dIfS, dNever, dgName, dgNil, dgCons, dgTup, dAsg, dSubM, dDPutM, dPar, dAug, dFrz, frzD, dFgt,
  diLst, diTup, diLstM, diRng1, diRng2, diStr, diEnum, diZip, dYes, dCall, endsD, startD, wipeD, dom,
  isTy_0_0, isTy_0_1, isTy_0_2, isTy_0_3, isTy_0_4, isTy_1_0, isTy_1_1, isTy_1_2, isTy_1_3, isTy_1_4, isTy_2_0, isTy_2_1, isTy_2_2, isTy_2_3, isTy_2_4, isTy_3_0, isTy_3_1, isTy_3_2, isTy_3_3, isTy_3_4, isTy_4_0, isTy_4_1, isTy_4_2, isTy_4_3, isTy_4_4, isTy_5_0, isTy_5_1, isTy_5_2, isTy_5_3, isTy_5_4, isTy_6_0, isTy_6_1, isTy_6_2, isTy_6_3, isTy_6_4,
  Int.cast_ofNat_Int, decide_true, decide_false, Int.reduceEq, Int.reduceLT, Int.reduceLE, atI_0, atI_1, atI_2, atI_3, atI_4, List.length_map, List.map_cons, List.map_nil, List.length_cons, List.length_nil, Nat.reduceAdd, Nat.reduceSub, List.reduceReplicate, List.cons_append, List.nil_append, List.append_nil, List.getElem?_cons_zero, List.getElem?_cons_succ, List.getElem?_nil, List.set_cons_zero, List.set_cons_succ, List.take_zero, List.drop_zero, List.take_succ_cons, List.drop_succ_cons,
  List.eraseIdx_cons_zero, List.eraseIdx_cons_succ, true_and, and_true, eq_self, and_self, if_true, if_false, Bool.false_eq_true, reduceIte, Bool.not_true, Bool.not_false, forall_const, exists_eq_left, exists_eq_left', exists_eq_right, exists_eq_right', exists_and_left, exists_const, D.adr.injEq, D.str.injEq, D.int.injEq, D.lst.injEq, D.tup.injEq, D.bl.injEq, Option.some.injEq, Prod.mk.injEq, MO.l.injEq, MO.d.injEq, List.cons.injEq, Function.const_apply, dLock, lckE, dDGetK, dFld, dSetF, dMeth, dMake, dRaise, diKeys, dGet, dAddM, List.not_mem_nil, false_implies, implies_true, List.mem_singleton, forall_eq, Option.isSome_none, Option.isSome_some, lcRes, exists_eq, exists_eq', List.length_append, List.length_singleton])

theorem sc_NoCases_init : FnScope ["self", "path"] ["self", "path"] (defScope s_NoCases_init) := ⟨rfl, rfl, rfl, by decide +kernel, rfl, by decide +kernel, by decide +kernel⟩
theorem ok_NoCases_init {P : Program} {w : World} {K : PySem.W.Frag} {mg : Str → Option Value} {base : Heap} (T : Tx K mg) : FoM P w K mg base CX0 1 "NoCases" "__init__" ["self", "path"] (spNC K) := by
  refine FoM.mk_ T 0 rfl rfl rfl rfl (fun _ _ _ _ _ _ us hl => match us, hl with | [_, _], _ => rfl) fun f fd F => ?_
  refine F.ok sc_NoCases_init (fun vs H Q E h => h.1) (fun cdv A outer s H vs Q E hr h => ?_)
  obtain ⟨_, a, v, rfl, ha, h⟩ := h
  refine ⟨_, PSs.nox (pss_one (ps_ost (pv 0) (pv 1))), ?_⟩
  refine ⟨v, rfl, .ref a, rfl, a, NC K, rfl, T.oex.1, T.noat 116 rfl, .inl ⟨ha, fun dx h1 h2 => h dx h1 h2⟩⟩
abbrev S_l_low : Spc := fun ds m F X => ∃ (t : Int) (b : Nat), ds = [.int t, .int b] ∧ 0 < b ∧ b < 2 ^ 8000 ∧ F (fD (mkRat t b)) []
theorem sc_l_low : FnScope ["_law_top", "_law_bottom", "_law_one", "_law_other"] ["_law_top", "_law_bottom"] (defScope s_l_low) := ⟨rfl, rfl, rfl, by decide +kernel, rfl, by decide +kernel, by decide +kernel⟩
theorem ok_l_low {P : Program} {w : World} {K : PySem.W.Frag} {mg : Str → Option Value} {base : Heap} (T : Tx K mg) : Fo P w K mg base CX0 1 "_law_low" ["_law_top", "_law_bottom"] (spD K (NC K) 2 S_l_low) := by
  refine Fo.mk_ T 51 43 rfl rfl rfl rfl rfl (fun _ _ _ _ _ _ us hl => match us, hl with | [_, _], _ => rfl) fun f fd F => ok_pure 0 F sc_l_low rfl fun cdv A outer s H E I m ds Fv X hr h => ?_
  refine ⟨_, _, (pss_cons (ps_set (i := 2) sc_l_low.nd rfl (.inl rfl) (pe_bi c_abs (T.b 79 rfl) bb_abs (pa_cons (pv 0) pa_nil)))
    (pss_cons (ps_set (i := 3) sc_l_low.nd rfl (.inl rfl) (pv 1))
    (pss_cons (ps_while PassesOwn.never (pt_cmpR op_ne (pv 3) pe_int (nomark _))
    (pss_one (ps_par (i := 2) (j := 3) (by rfl) sc_l_low.nd rfl rfl (by decide) rfl rfl (pa_cons (pv 3) (pa_cons (pe_op o_mod (pv 2) (pv 3)) pa_nil)) (by rfl))))
    (pss_one (ps_ret (pe_tup (pa_cons (pe_op o_fdiv (pv 0) (pv 2)) (pa_cons (pe_op o_fdiv (pv 1) (pv 2)) pa_nil)))))))), (by (try dsimp only [cxOf]); infer_instance), ?_⟩
  obtain ⟨t, b, rfl, hb, hs, h⟩ := h
  walk_at "d"
  refine ⟨fun n r _ => ∃ x y : Nat, r = [some (.int t), some (.int (b : Nat)), some (.int x), some (.int y)] ∧ n = y ∧ Nat.gcd x y = Int.gcd t b, ⟨b, t.natAbs, b, rfl, rfl, rfl⟩, ?_⟩
  rintro n r m' ⟨x, y, rfl, rfl, hg⟩
  walk_at "d"
  by_cases hy : n = 0
  · subst hy
    rw [Nat.gcd_zero_right] at hg
    rw [if_neg (by simp)]
    have h1 : Int.gcd t b ≤ b := Nat.gcd_le_right _ hb
    have h0 : 0 < Int.gcd t b := Nat.gcd_pos_of_pos_right _ hb
    have hd : ∀ i, CDivW i (x : Int) := fun i => wide_div (by omega) (b := 8000) (by rw [Int.natAbs_natCast]; exact Nat.lt_of_le_of_lt (by omega) hs) (by decide) (by decide)
    refine ⟨hd _, hd _, sl100 (by decide), ?_⟩
    rw [hg, ← mk_num t b hb, ← mk_den t b hb]
    exact h
  · rw [if_pos (by simp; omega)]
    refine ⟨by omega, x % n, Nat.mod_lt _ (by omega), n, x % n, ?_, rfl, ?_⟩
    · rw [Int.natCast_emod]
      exact ⟨rfl, rfl⟩
    · rw [← hg, Nat.gcd_comm n, ← Nat.gcd_rec, Nat.gcd_comm]
abbrev S_l_plus : Spc := fun ds m F X => ∃ (p q : Rat) (j k : Nat), ds = [fD p, fD q] ∧ Sz j p ∧ Sz k q ∧ 1 ≤ j ∧ 1 ≤ k ∧ j + k ≤ 1000 ∧ F (fD (p + q)) []
theorem sc_l_plus : FnScope ["_law_one", "_law_other"] ["_law_one", "_law_other"] (defScope s_l_plus) := ⟨rfl, rfl, rfl, by decide +kernel, rfl, by decide +kernel, by decide +kernel⟩
theorem ok_l_plus {P : Program} {w : World} {K : PySem.W.Frag} {mg : Str → Option Value} {base : Heap} (T : Tx K mg) (G_l_low : Fo P w K mg base CX0 1 "_law_low" ["_law_top", "_law_bottom"] (spD K (NC K) 2 S_l_low)) : Fo P w K mg base CX0 2 "_law_plus" ["_law_one", "_law_other"] (spD K (NC K) 2 S_l_plus) := by
  refine Fo.mk_ T 52 44 rfl rfl rfl rfl rfl (fun _ _ _ _ _ _ us hl => match us, hl with | [_, _], _ => rfl) fun f fd F => ok_pure 0 F sc_l_plus rfl fun cdv A outer s H E I m ds Fv X hr h => ?_
  refine ⟨_, _, (pss_one (ps_ret (pe_ownK K 0 G_l_low (hr.mono (by decide)) pass0 (pa_cons (pe_op o_add (pe_op o_mul (pe_ix (o_ixK K) (pv 0) pe_int (fun _ _ => rfl)) (pe_ix (o_ixK K) (pv 1) pe_int (fun _ _ => rfl))) (pe_op o_mul (pe_ix (o_ixK K) (pv 1) pe_int (fun _ _ => rfl)) (pe_ix (o_ixK K) (pv 0) pe_int (fun _ _ => rfl)))) (pa_cons (pe_op o_mul (pe_ix (o_ixK K) (pv 0) pe_int (fun _ _ => rfl)) (pe_ix (o_ixK K) (pv 1) pe_int (fun _ _ => rfl))) pa_nil))))), (by (try dsimp only [cxOf]); infer_instance), ?_⟩
  obtain ⟨p, q, j, k, rfl, hp, hq, hj, hk, hjk, h⟩ := h
  walk_at "d"
  refine ⟨hp.nd hq hj hk hjk, hq.nd hp hk hj (by omega), hp.dd hq hj hk hjk, ?_⟩
  have h1 := hp.den hq hjk
  refine ⟨_, p.den * q.den, by rw [Int.natCast_mul], h1.1, h1.2, ?_⟩
  rw [← Rat.add_def']
  walk_at "d"
  exact h
/-- also of (a, b) that is no lowest form -/
abbrev S_l_under : Spc := fun ds m F X => ∃ (p : Rat) (t : Int) (b : Nat), ds = [fD p, .tup [.int t, .int (b : Nat)]] ∧ 0 < b ∧ p.num.natAbs < 2 ^ 300000 ∧ t.natAbs < 2 ^ 300000 ∧ p.den < 2 ^ 10000 ∧ b < 2 ^ 10000 ∧ F (.bl (decide (p < mkRat t b))) []
theorem lt_mkRat (p : Rat) (t : Int) (b : Nat) (hb : 0 < b) : p < mkRat t b ↔ p.num * (b : Int) < t * (p.den : Int) := by
  have h0 : 0 < Int.gcd t b := Nat.gcd_pos_of_pos_right _ hb
  rw [Rat.lt_iff, mk_num t b hb, mk_den t b hb]
  obtain ⟨t', ht⟩ := Int.gcd_dvd_left (a := t) (b := (b : Int))
  obtain ⟨b', hb'⟩ := Int.gcd_dvd_right (a := t) (b := (b : Int))
  generalize Int.gcd t b = g at h0 ht hb'
  have hg : (g : Int) ≠ 0 := by omega
  have e1 : t / (g : Int) = t' := by rw [ht, Int.mul_ediv_cancel_left _ hg]
  have e2 : (b : Int) / (g : Int) = b' := by rw [hb', Int.mul_ediv_cancel_left _ hg]
  rw [e1, e2, hb', ht]
  have e3 : p.num * ((g : Int) * b') = (g : Int) * (p.num * b') := by rw [← Int.mul_assoc, ← Int.mul_assoc, Int.mul_comm p.num]
  rw [e3, Int.mul_assoc]
  exact (Int.mul_lt_mul_left (by omega)).symm
theorem sc_l_under : FnScope ["_law_one", "_law_other"] ["_law_one", "_law_other"] (defScope s_l_under) := ⟨rfl, rfl, rfl, by decide +kernel, rfl, by decide +kernel, by decide +kernel⟩
theorem ok_l_under {P : Program} {w : World} {K : PySem.W.Frag} {mg : Str → Option Value} {base : Heap} (T : Tx K mg) : Fo P w K mg base CX0 1 "_law_under" ["_law_one", "_law_other"] (spD K (NC K) 2 S_l_under) := by
  refine Fo.mk_ T 53 45 rfl rfl rfl rfl rfl (fun _ _ _ _ _ _ us hl => match us, hl with | [_, _], _ => rfl) fun f fd F => ok_pure 0 F sc_l_under rfl fun cdv A outer s H E I m ds Fv X hr h => ?_
  refine ⟨_, _, (pss_one (ps_ret (pe_cmpR o_lt (pe_op o_mul (pe_ix (o_ixK K) (pv 0) pe_int (fun _ _ => rfl)) (pe_ix (o_ixK K) (pv 1) pe_int (fun _ _ => rfl))) (pe_op o_mul (pe_ix (o_ixK K) (pv 1) pe_int (fun _ _ => rfl)) (pe_ix (o_ixK K) (pv 0) pe_int (fun _ _ => rfl))) (nomark _)))), (by (try dsimp only [cxOf]); infer_instance), ?_⟩
  obtain ⟨p, t, b, rfl, hb, h1, h2, h3, h4, h⟩ := h
  walk_at "d"
  have e : decide (p.num * (b : Int) < t * (p.den : Int)) = decide (p < mkRat t b) := decide_eq_decide.mpr (lt_mkRat p t b hb).symm
  rw [e]
  exact ⟨mulW (a := 300000) (b := 10000) h1 (by rw [Int.natAbs_natCast]; exact h4) (by decide) (by decide) (by decide), mulW (a := 300000) (b := 10000) h2 (by rw [Int.natAbs_natCast]; exact h3) (by decide) (by decide) (by decide), h⟩
def StOk (y : MO) : Prop := ∃ (s0 s1 : Int) (b : Bool), y = .l [.int s0, .int s1, .bl b] ∧ 0 ≤ s0 ∧ 0 ≤ s1 ∧ s1 < 2 ^ 32
abbrev S_l_begun : Spc := fun ds m F X => ∃ (ns : List Int) (k : Nat), ds = [.scr ns, .int (k : Nat)] ∧ m = [] ∧ k ≤ 100 ∧ ns.length ≤ 63 ∧ ∀ a y, StOk y → F (.adr a) [(a, y)]
theorem sc_l_begun : FnScope ["_law_script", "_law_k", "_law_cell", "_law_mixed"] ["_law_script", "_law_k"] (defScope s_l_begun) := ⟨rfl, rfl, rfl, by decide +kernel, rfl, by decide +kernel, by decide +kernel⟩
theorem ok_l_begun {P : Program} {w : World} {K : PySem.W.Frag} {mg : Str → Option Value} {base : Heap} (T : Tx K mg) : Fo P w K mg base CX0 1 "_law_begun" ["_law_script", "_law_k"] (spD K (NC K) 2 S_l_begun) := by
  refine Fo.mk_ T 49 41 rfl rfl rfl rfl rfl (fun _ _ _ _ _ _ us hl => match us, hl with | [_, _], _ => rfl) fun f fd F => ok_pure 1 F sc_l_begun rfl fun cdv A outer s H E I m ds Fv X hr h => ?_
  refine ⟨_, _, (pss_cons (ps_set (i := 2) sc_l_begun.nd rfl (.inl rfl) pe_int)
    (pss_cons (ps_if (pt_cmpR (o_neNil hr.units0) (pv 0) (pe_lst pa_nil) (nomark _)) (pss_one (ps_set (i := 2) sc_l_begun.nd rfl (.inl rfl) (pe_ix (o_ixK K) (pv 0) (pe_op o_mod (pv 1) (pe_bi c_len (T.b 85 rfl) bb_len (pa_cons (pv 0) pa_nil))) (fun _ _ => rfl)))) pss_nil)
    (pss_cons (ps_set (i := 3) sc_l_begun.nd rfl (.inl rfl) (pe_op o_mod (pe_op o_add (pe_op o_add (pe_op o_add (pe_op o_mod (pv 2) pe_int) (pe_op o_mul (pe_op o_mul pe_int (pv 1)) (pv 1))) (pe_op o_mul pe_int (pv 1))) pe_int) pe_int))
    (pss_one (ps_ret (pe_lstM (pa_cons (pe_op o_mod (pe_bi c_abs (T.b 79 rfl) bb_abs (pa_cons (pv 2) pa_nil)) (pe_op o_pow (pe_op o_pow pe_int pe_int) pe_int)) (pa_cons (pv 3) (pa_cons (pe_cmpR o_ge (pe_bi c_abs (T.b 79 rfl) bb_abs (pa_cons (pv 2) pa_nil)) (pe_op o_pow pe_int pe_int) (nomark _)) pa_nil))))))))), (by (try dsimp only [cxOf]); infer_instance), ?_⟩
  obtain ⟨ns, k, rfl, rfl, hk, hn, h⟩ := h
  have cp1 : CPowW 10 60 := by unfold CPowW; decide +kernel
  have cp2 : CPowW (10 ^ 60) 8 := by unfold CPowW; decide +kernel
  have cp3 : CPowW 10 18 := by unfold CPowW; decide +kernel
  have sm : ∀ i j : Int, i.natAbs < 2 ^ 100 → j.natAbs < 2 ^ 100 → CMulW i j := fun i j a b => mulW a b (by decide) (by decide) (by decide)
  have m1 : CMulW 104729 (k : Nat) := sm _ _ (by decide) (by omega)
  have m2 : CMulW (104729 * (k : Nat)) (k : Nat) := sm _ _ (by omega) (by omega)
  have m3 : CMulW 31 (k : Nat) := sm _ _ (by decide) (by omega)
  walk_at "d"
  refine ⟨sl100 (by decide), ?_⟩
  cases ns with
  | nil =>
    walk_at "d"
    rw [if_neg (by decide)]
    walk_at "d"
    exact ⟨m1, m2, m3, cp1, cp2, by decide +kernel, cp3, sl100 (by decide), fun p => h _ _ ⟨_, _, _, rfl, Int.emod_nonneg _ (by decide +kernel), Int.emod_nonneg _ (by decide), Int.lt_trans (Int.emod_lt_of_pos _ (by decide)) (by decide)⟩⟩
  | cons c0 cr =>
    rw [if_pos (by rfl)]
    have e1 : ((k : Nat) : Int) % (((c0 :: cr).length : Nat) : Int) = ((k % (c0 :: cr).length : Nat) : Int) := (Int.natCast_emod _ _).symm
    have hlt : k % (c0 :: cr).length < (c0 :: cr).length := Nat.mod_lt _ (by simp)
    have e2 : ((c0 :: cr).map D.int)[k % (c0 :: cr).length]? = some (.int (c0 :: cr)[k % (c0 :: cr).length]) := by rw [List.getElem?_map, List.getElem?_eq_getElem hlt]; rfl
    refine ⟨by simp <;> omega, ?_⟩
    rw [e1, atN e2]
    generalize (c0 :: cr)[k % (c0 :: cr).length] = c
    walk_at "d"
    exact ⟨m1, m2, m3, cp1, cp2, by decide +kernel, cp3, sl100 (by decide), fun p => h _ _ ⟨_, _, _, rfl, Int.emod_nonneg _ (by decide +kernel), Int.emod_nonneg _ (by decide), Int.lt_trans (Int.emod_lt_of_pos _ (by decide)) (by decide)⟩⟩
def J_take (a : Addr) (many : Int) (i : Nat) (r : Rho) (m : Mu) : Prop := ∃ (o o2 : Option D) (made s0 s1 : Int), r = [some (.adr a), some (.int many), o, some (.int made), o2] ∧ m = [(a, .l [.int s0, .int s1, .bl false])] ∧ 0 ≤ s0 ∧ 0 ≤ s1 ∧ s1 < 2 ^ 32 ∧ 0 ≤ made ∧ made.natAbs < 2 ^ (32 * i)
abbrev S_l_take : Spc := fun ds m F X => ∃ (a : Addr) (y : MO) (many : Int), ds = [.adr a, .int many] ∧ m = [(a, y)] ∧ StOk y ∧ 0 < many ∧ many < 2 ^ 250 ∧ ∀ r y', 0 ≤ r → r < many → StOk y' → F (.int r) [(a, y')]
theorem sc_l_take : FnScope ["_law_state", "_law_many", "_law_digit", "_law_made", "_law_turn"] ["_law_state", "_law_many"] (defScope s_l_take) := ⟨rfl, rfl, rfl, by decide +kernel, rfl, by decide +kernel, by decide +kernel⟩
theorem ok_l_take {P : Program} {w : World} {K : PySem.W.Frag} {mg : Str → Option Value} {base : Heap} (T : Tx K mg) : Fo P w K mg base CX0 1 "_law_take" ["_law_state", "_law_many"] (spD K (NC K) 2 S_l_take) := by
  refine Fo.mk_ T 50 42 rfl rfl rfl rfl rfl (fun _ _ _ _ _ _ us hl => match us, hl with | [_, _], _ => rfl) fun f fd F => ok_pure 1 F sc_l_take rfl fun cdv A outer s H E I m ds Fv X hr h => ?_
  refine ⟨_, _, (pss_cons (ps_if (pt_val (pe_ix (o_ixM 0) (pv 0) pe_int (fun _ _ => rfl))) (pss_cons (ps_set (i := 2) sc_l_take.nd rfl (.inl rfl) (pe_op o_mod (pe_ix (o_ixM 0) (pv 0) pe_int (fun _ _ => rfl)) (pv 1)))
    (pss_cons (as_set 0 (ps_asg (pe_op o_fdiv (pe_ix (o_ixM 0) (pv 0) pe_int (fun _ _ => rfl)) (pv 1)) (pg_sub (pv 0) pe_int set_list)))
    (pss_cons (as_set 0 (ps_asg (pe_cmpR o_gt (pe_ix (o_ixM 0) (pv 0) pe_int (fun _ _ => rfl)) pe_int (nomark _)) (pg_sub (pv 0) pe_int set_list)))
    (pss_one (ps_ret (pv 2)))))) pss_nil)
    (pss_cons (ps_set (i := 3) sc_l_take.nd rfl (.inl rfl) pe_int)
    (pss_cons (ps_for PassesOwn.never rfl (pi_range1 rfl (T.b 89 rfl) (pa_cons (pe_op o_add pe_int (pe_op o_mul pe_int (pe_bt c_int (T.b 83 rfl) bb_int (pa_cons (pe_cmpR o_gt (pv 1) (pe_op o_pow pe_int pe_int) (nomark _)) pa_nil)))) pa_nil)) (pg_name (i := 4) sc_l_take.nd rfl (.inl rfl))
    (pss_cons (as_set 0 (ps_asg (pe_op o_mod (pe_op o_add (pe_op o_mul (pe_ix (o_ixM 0) (pv 0) pe_int (fun _ _ => rfl)) pe_int) pe_int) pe_int) (pg_sub (pv 0) pe_int set_list)))
    (pss_one (ps_set (i := 3) sc_l_take.nd rfl (.inl rfl) (pe_op o_add (pe_op o_mul (pv 3) pe_int) (pe_op o_mod (pe_op o_mul (pe_ix (o_ixM 0) (pv 0) pe_int (fun _ _ => rfl)) (pe_ix (o_ixM 0) (pv 0) pe_int (fun _ _ => rfl))) pe_int))))))
    (pss_one (ps_ret (pe_op o_mod (pe_op o_fdiv (pv 3) pe_int) (pv 1))))))), (by (try dsimp only [cxOf]); infer_instance), ?_⟩
  obtain ⟨a, y, many, rfl, rfl, ⟨s0, s1, b, rfl, hs0, hs1, hs2⟩, hm0, hm, h⟩ := h
  have cp1 : CPowW 10 6 := by unfold CPowW; decide +kernel
  have hmn : many.natAbs < 2 ^ 250 := by omega
  walk_at "d"
  cases b with
  | true =>
    walk_at "d"
    refine ⟨hm0, wide_div (by omega) (b := 250) hmn (by decide) (by decide), 0, rfl, ?_⟩
    walk_at "d"
    refine ⟨2, rfl, ?_⟩
    exact h _ _ (Int.emod_nonneg _ (by omega)) (Int.emod_lt_of_pos _ hm0) ⟨_, _, _, rfl, Int.ediv_nonneg hs0 (by omega), hs1, hs2⟩
  | false =>
    walk_at "d"
    unfold dFor
    walk_at "d"
    have hn9 : (1 + 8 * if decide ((10 : Int) ^ Int.toNat 6 < many) = true then (1 : Int) else 0) ≤ 9 ∧ 1 ≤ (1 + 8 * if decide ((10 : Int) ^ Int.toNat 6 < many) = true then (1 : Int) else 0) := by split <;> decide
    refine ⟨cp1, ?_, by omega, by omega, fun i r m => J_take a many i r m, ⟨none, none, 0, s0, s1, rfl, rfl, hs0, hs1, hs2, by decide, by decide⟩, fun _ _ _ _ => trivial, ?_, ?_⟩
    · split <;> exact mulW (a := 64) (b := 64) (by decide) (by decide) (by decide) (by decide) (by decide)
    · rintro i d r m' hi ⟨o, o2, made, s0, s1, rfl, rfl, hs0, hs1, hs2, hd0, hd1⟩
      obtain ⟨hj, rfl⟩ := rngD_get hi
      have hi9 : i < 9 := by omega
      have hp9 : (2 : Nat) ^ (32 * i) ≤ 2 ^ 288 := Nat.pow_le_pow_right (by decide) (by omega)
      have q1 : 0 ≤ (s1 * 39373 + 17) % 2147483647 := Int.emod_nonneg _ (by decide)
      have q2 : (s1 * 39373 + 17) % 2147483647 < 2147483647 := Int.emod_lt_of_pos _ (by decide)
      have sm : ∀ i j : Int, i.natAbs < 2 ^ 300 → j.natAbs < 2 ^ 300 → CMulW i j := fun i j a b => mulW a b (by decide) (by decide) (by decide)
      have hw9 : (made * 2147483587 + (s1 * 39373 + 17) % 2147483647 * ((s1 * 39373 + 17) % 2147483647) % 2147483587).natAbs < 2 ^ (32 * (i + 1)) := by
        have e1 : 32 * (i + 1) = 32 * i + 32 := by omega
        have q3 : 0 ≤ (s1 * 39373 + 17) % 2147483647 * ((s1 * 39373 + 17) % 2147483647) % 2147483587 := Int.emod_nonneg _ (by decide)
        have q4 : (s1 * 39373 + 17) % 2147483647 * ((s1 * 39373 + 17) % 2147483647) % 2147483587 < 2147483587 := Int.emod_lt_of_pos _ (by decide)
        rw [e1, Nat.pow_add]
        omega
      have hw8 : 0 ≤ made * 2147483587 + (s1 * 39373 + 17) % 2147483647 * ((s1 * 39373 + 17) % 2147483647) % 2147483587 := by
        have q3 : 0 ≤ (s1 * 39373 + 17) % 2147483647 * ((s1 * 39373 + 17) % 2147483647) % 2147483587 := Int.emod_nonneg _ (by decide)
        omega
      walk_at "d"
      refine ⟨sm _ _ (by omega) (by decide), 1, rfl, ?_⟩
      walk_at "d"
      refine ⟨sm _ _ (by omega) (by decide), sm _ _ (by omega) (by omega), ?_⟩
      exact ⟨_, _, _, _, _, rfl, rfl, hs0, q1, by omega, hw8, hw9⟩
    · rintro r m' ⟨o, o2, made, s0, s1, rfl, rfl, hs0, hs1, hs2, hd0, hd1⟩
      walk_at "d"
      refine ⟨wide_div (by decide) (b := 64) (by decide) (by decide) (by decide), hm0, ?_⟩
      exact h _ _ (Int.emod_nonneg _ (by omega)) (Int.emod_lt_of_pos _ hm0) ⟨_, _, _, rfl, hs0, hs1, hs2⟩
end FC
/-! THE MATHEMATICS, 7: names. -/
namespace FC
open PySem PySem.Spec L2
def sgn (c : Nat) : Str := ⟨#[c]⟩
theorem sgn_len (c : Nat) : (sgn c).length = 1 := rfl
theorem fold_cps (sep : Str) (hs : sep.cps = #[]) : ∀ (l : List Str) (acc : Array Nat), (l.foldl (fun acc p => acc ++ sep.cps ++ p.cps) acc).toList = acc.toList ++ (l.map (·.cps.toList)).flatten
  | [], acc => by simp
  | p :: r, acc => by
    rw [List.foldl_cons, fold_cps sep hs r, hs]
    simp
theorem join_sgn (cs : List Nat) : (Txt.join "" (cs.map sgn)).cps.toList = cs := by
  have he : (Str.ofString "").cps = #[] := by decide
  unfold Txt.join PySem.Builtin.Str.glued
  cases cs with
  | nil => rfl
  | cons c r =>
    show ((r.map sgn).foldl (fun acc p => acc ++ (Str.ofString "").cps ++ p.cps) (sgn c).cps).toList = c :: r
    rw [fold_cps _ he]
    have : ((r.map sgn).map (·.cps.toList)).flatten = r := by
      induction r with
      | nil => rfl
      | cons d r ih => rw [List.map_cons, List.map_cons, List.flatten_cons, ih]; rfl
    rw [this]
    rfl
theorem join_len (cs : List Nat) : (Txt.join "" (cs.map sgn)).length = cs.length := by
  show (Txt.join "" (cs.map sgn)).cps.size = _
  rw [← Array.length_toList, join_sgn]
def nmOf (tl : List Nat) (at_ c : Nat) : Str := ⟨(tl.take at_ ++ [c] ++ tl.drop at_).toArray⟩
theorem cutS_hi (z : Str) (k : Nat) (hk : k ≤ z.length) : (cutS z none (some (k : Int))).cps.toList = z.cps.toList.take k := by
  unfold cutS
  rw [HT.sIx_none, HT.sIx_nat, Nat.min_eq_left hk]
  simp
theorem cutS_lo (z : Str) (k : Nat) (hk : k ≤ z.length) : (cutS z (some (k : Int)) none).cps.toList = z.cps.toList.drop k := by
  unfold cutS
  rw [HT.sIx_none, HT.sIx_nat, Nat.min_eq_left hk]
  simp
  exact List.take_of_length_le (by rw [List.length_drop]; show z.cps.size - k ≤ z.cps.size - k; exact Nat.le_refl _)
theorem nm_cut (z : Str) (k c : Nat) (hk : k ≤ z.length) : cutS z none (some (k : Int)) ++ sgn c ++ cutS z (some (k : Int)) none = nmOf z.cps.toList k c := by
  have h : ∀ x y : Str, x.cps.toList = y.cps.toList → x = y := fun x y e => by
    obtain ⟨x⟩ := x
    obtain ⟨y⟩ := y
    exact congrArg Str.mk (Array.toList_inj.mp e)
  refine h _ _ ?_
  show ((cutS z none (some (k : Int))).cps ++ (sgn c).cps ++ (cutS z (some (k : Int)) none).cps).toList = _
  rw [Array.toList_append, Array.toList_append, cutS_hi z k hk, cutS_lo z k hk]
  simp [nmOf, sgn]
theorem nm_ok {tl : List Nat} {k c : Nat} (hl : tl.length ≤ 7) (ht : ∀ x ∈ tl, x ∈ LETT.cps.toList) (hc : c ∈ LETT.cps.toList) : IsNm (nmOf tl k c) := by
  have hlen : (nmOf tl k c).length = tl.length + 1 := by
    show (tl.take k ++ [c] ++ tl.drop k).toArray.size = _
    simp
    omega
  refine ⟨by omega, by omega, fun x hx => ?_⟩
  have hx : x ∈ tl.take k ++ [c] ++ tl.drop k := by simpa [nmOf] using hx
  rcases List.mem_append.mp hx with q | q
  · rcases List.mem_append.mp q with q | q
    · exact ht x (List.mem_of_mem_take q)
    · obtain rfl : x = c := by simpa using q
      exact hc
  · exact ht x (List.mem_of_mem_drop q)
theorem nm_inj {tl : List Nat} {k c d : Nat} (h : nmOf tl k c = nmOf tl k d) : c = d := by
  unfold nmOf at h
  injection h with h
  have h2 := congrArg Array.toList h
  simp at h2
  exact h2
theorem LETT_nd : LETT.cps.toList.Nodup := by decide +kernel
theorem LETT_len : LETT.cps.toList.length = 26 := by decide +kernel
/-- the letters drawn are different ones -/
theorem letters_nd {turn step : Nat} (hs : step = 1 ∨ step = 3 ∨ step = 5 ∨ step = 7 ∨ step = 11 ∨ step = 25) {many : Nat} (hm : many ≤ 7) : ((List.range many).map fun k => LETT.cps.toList.getD ((turn + step * k) % 26) 0).Nodup := by
  rw [List.nodup_iff_pairwise_ne, List.pairwise_map]
  refine List.nodup_range.imp_of_mem fun {x y} hx hy hne => ?_
  rw [List.mem_range] at hx hy
  have h1 : (turn + step * x) % 26 < LETT.cps.toList.length := by rw [LETT_len]; exact Nat.mod_lt _ (by decide)
  have h2 : (turn + step * y) % 26 < LETT.cps.toList.length := by rw [LETT_len]; exact Nat.mod_lt _ (by decide)
  rw [List.getD_eq_getElem?_getD, List.getD_eq_getElem?_getD, List.getElem?_eq_getElem h1, List.getElem?_eq_getElem h2]
  intro e
  have e : LETT.cps.toList[(turn + step * x) % 26] = LETT.cps.toList[(turn + step * y) % 26] := e
  have e3 := (List.getElem_inj LETT_nd).mp e
  rcases hs with rfl | rfl | rfl | rfl | rfl | rfl <;> omega
end FC
/-! THE WALK, 12: the law's web. -/
namespace FC
open PySem PySem.Spec L2
local macro_rules | `(tactic| walk_at "d") => `(tactic| try simp only [dVar, dC, dOp, dUn, dAdd, dSub, dMul, dMod, dDiv, dPow, dNeg, dCmp, dEq, dNe, dEqv, dIsN, dNotN, isNon, dIn, inD, dInM, dIx, ixDs, dIxM, dChain, dB, asB, dAnd, dOr, dNot, dAndV, dOrV, dNotV, dIf, dNil, dCons, dTup, dLst, dLstM, dDic0, dDicM, dDisp1,
  dCB, dLen, dLenM, dAbs, dMax2, dMin2, dInt, dBool, dStr, dList, dListN, dListM, dTuple, dSorted, dDicC, dIsi, tyD_non, tyD_bl, tyD_int, tyD_str, tyD_lst, tyD_tup, tyD_dic, dNoPart, asI, dPart, dSl, dRev, dApp, dPopI, dRem, dEqNil, dEqNilM, dGet, dDGetM, dDGet, dDInM, dDInA, dDPopM, dEqD0, dEqDM, dJoin, dNext, dSeq, dDrop, dRet, dIfS, dNever, dgName, dgNil, dgCons, dgTup, dAsg, dSubM, dDPutM, dPar, dAug, dFrz, frzD, dFgt,
  diLst, diTup, diLstM, diRng1, diRng2, diStr, diEnum, diZip, dYes, dCall, endsD, startD, wipeD, dom,
  isTy_0_0, isTy_0_1, isTy_0_2, isTy_0_3, isTy_0_4, isTy_1_0, isTy_1_1, isTy_1_2, isTy_1_3, isTy_1_4, isTy_2_0, isTy_2_1, isTy_2_2, isTy_2_3, isTy_2_4, isTy_3_0, isTy_3_1, isTy_3_2, isTy_3_3, isTy_3_4, isTy_4_0, isTy_4_1, isTy_4_2, isTy_4_3, isTy_4_4, isTy_5_0, isTy_5_1, isTy_5_2, isTy_5_3, isTy_5_4, isTy_6_0, isTy_6_1, isTy_6_2, isTy_6_3, isTy_6_4,
  Int.cast_ofNat_Int, decide_true, decide_false, Int.reduceEq, Int.reduceLT, Int.reduceLE, atI_0, atI_1, atI_2, atI_3, atI_4, List.length_map, List.map_cons, List.map_nil, List.length_cons, List.length_nil, Nat.reduceAdd, Nat.reduceSub, List.reduceReplicate, List.cons_append, List.nil_append, List.append_nil, List.getElem?_cons_zero, List.getElem?_cons_succ, List.getElem?_nil, List.set_cons_zero, List.set_cons_succ, List.take_zero, List.drop_zero, List.take_succ_cons, List.drop_succ_cons,
  List.eraseIdx_cons_zero, List.eraseIdx_cons_succ, true_and, and_true, eq_self, and_self, if_true, if_false, Bool.false_eq_true, reduceIte, Bool.not_true, Bool.not_false, forall_const, exists_eq_left, exists_eq_left', exists_eq_right, exists_eq_right', exists_and_left, exists_const, D.adr.injEq, D.str.injEq, D.int.injEq, D.lst.injEq, D.tup.injEq, D.bl.injEq, Option.some.injEq, Prod.mk.injEq, MO.l.injEq, MO.d.injEq, List.cons.injEq, Function.const_apply, dLock, lckE, dDGetK, dFld, dSetF, dMeth, dMake, dRaise, diKeys, dGet, dAddM, List.not_mem_nil, false_implies, implies_true, List.mem_singleton, forall_eq, Option.isSome_none, Option.isSome_some, lcRes, exists_eq, exists_eq', List.length_append, List.length_singleton])

theorem nat_of {r n : Int} (h0 : 0 ≤ r) (h1 : r < n) : ∃ i : Nat, r = (i : Nat) ∧ i < n.toNat := ⟨r.toNat, by omega, by omega⟩
abbrev S_l_amount : Spc := fun ds m F X => ∃ (a : Addr) (y : MO) (least : Int), ds = [.adr a, .int least] ∧ m = [(a, y)] ∧ StOk y ∧ 0 ≤ least ∧ least ≤ 1 ∧ ∀ (q : Rat) y', 0 ≤ q → Sz 1 q → (0 < least → 0 < q) → StOk y' → F (fD q) [(a, y')]
theorem sc_l_amount : FnScope ["_law_state", "_law_least", "_law_way", "_law_top"] ["_law_state", "_law_least"] (defScope s_l_amount) := ⟨rfl, rfl, rfl, by decide +kernel, rfl, by decide +kernel, by decide +kernel⟩
theorem ok_l_amount {P : Program} {w : World} {K : PySem.W.Frag} {mg : Str → Option Value} {base : Heap} (T : Tx K mg) (G_l_take : Fo P w K mg base CX0 1 "_law_take" ["_law_state", "_law_many"] (spD K (NC K) 2 S_l_take)) (G_l_low : Fo P w K mg base CX0 1 "_law_low" ["_law_top", "_law_bottom"] (spD K (NC K) 2 S_l_low)) : Fo P w K mg base CX0 2 "_law_amount" ["_law_state", "_law_least"] (spD K (NC K) 2 S_l_amount) := by
  refine Fo.mk_ T 54 46 rfl rfl rfl rfl rfl (fun _ _ _ _ _ _ us hl => match us, hl with | [_, _], _ => rfl) fun f fd F => ok_pure 1 F sc_l_amount rfl fun cdv A outer s H E I m ds Fv X hr h => ?_
  refine ⟨_, _, (pss_cons (ps_set (i := 2) sc_l_amount.nd rfl (.inl rfl) (pe_ownK K 1 G_l_take (hr.mono (by decide)) pass0 (pa_cons (pv 0) (pa_cons pe_int pa_nil))))
    (pss_cons (ps_set (i := 3) sc_l_amount.nd rfl (.inl rfl) (pe_op o_add (pv 1) (pe_ownK K 1 G_l_take (hr.mono (by decide)) pass0 (pa_cons (pv 0) (pa_cons (pe_ix (o_ixK K) (pe_lst (pa_cons pe_int (pa_cons pe_int (pa_cons pe_int (pa_cons pe_int (pa_cons pe_int (pa_cons pe_int (pa_cons (pe_op o_pow pe_int pe_int) (pa_cons (pe_op o_pow pe_int pe_int) pa_nil))))))))) (pv 2) (fun _ _ => rfl)) pa_nil)))))
    (pss_one (ps_ret (pe_ownK K 0 G_l_low (hr.mono (by decide)) pass0 (pa_cons (pv 3) (pa_cons (pe_ix (o_ixK K) (pe_lst (pa_cons pe_int (pa_cons pe_int (pa_cons pe_int (pa_cons pe_int (pa_cons pe_int (pa_cons pe_int (pa_cons pe_int (pa_cons pe_int pa_nil))))))))) (pv 2) (fun _ _ => rfl)) pa_nil))))))), (by (try dsimp only [cxOf]); infer_instance), ?_⟩
  obtain ⟨a, y, least, rfl, rfl, hy, hl0, hl1, h⟩ := h
  have cp1 : CPowW 10 12 := by unfold CPowW; decide +kernel
  have cp2 : CPowW 10 56 := by unfold CPowW; decide +kernel
  walk_at "d"
  refine ⟨a, y, 8, rfl, rfl, hy, by decide, by decide, fun r y1 h0 h1 hy1 => ?_⟩
  obtain ⟨i, rfl, hi⟩ := nat_of h0 h1
  have hi : i < 8 := hi
  obtain ⟨t, ht, ht0, ht1⟩ : ∃ t : Int, ([D.int 2, .int 3, .int 5, .int 9, .int 9, .int 40, .int (10 ^ (Int.toNat 12)), .int (10 ^ Int.toNat 56)] : List D)[i]? = some (.int t) ∧ 0 < t ∧ t ≤ 10 ^ 56 := by
    match i, hi with
    | 0, _ => exact ⟨_, rfl, by decide, by decide⟩
    | 1, _ => exact ⟨_, rfl, by decide, by decide⟩
    | 2, _ => exact ⟨_, rfl, by decide, by decide⟩
    | 3, _ => exact ⟨_, rfl, by decide, by decide⟩
    | 4, _ => exact ⟨_, rfl, by decide, by decide⟩
    | 5, _ => exact ⟨_, rfl, by decide, by decide⟩
    | 6, _ => exact ⟨_, rfl, by decide, by decide⟩
    | 7, _ => exact ⟨_, rfl, by decide, by decide⟩
  obtain ⟨b, hb, hb0, hb1⟩ : ∃ b : Nat, ([D.int 1, .int 1, .int 1, .int 1, .int 2, .int 6, .int 7, .int 12] : List D)[i]? = some (.int (b : Nat)) ∧ 0 < b ∧ b ≤ 12 := by
    match i, hi with
    | 0, _ => exact ⟨1, rfl, by decide, by decide⟩
    | 1, _ => exact ⟨1, rfl, by decide, by decide⟩
    | 2, _ => exact ⟨1, rfl, by decide, by decide⟩
    | 3, _ => exact ⟨1, rfl, by decide, by decide⟩
    | 4, _ => exact ⟨2, rfl, by decide, by decide⟩
    | 5, _ => exact ⟨6, rfl, by decide, by decide⟩
    | 6, _ => exact ⟨7, rfl, by decide, by decide⟩
    | 7, _ => exact ⟨12, rfl, by decide, by decide⟩
  walk_at "d"
  refine ⟨cp1, cp2, sl100 (by decide), ?_⟩
  rw [atN ht]
  walk_at "d"
  refine ⟨a, y1, t, rfl, rfl, hy1, ht0, by omega, fun r2 y2 h2 h3 hy2 => ?_⟩
  walk_at "d"
  refine ⟨sl100 (by decide), ?_⟩
  rw [atN hb]
  walk_at "d"
  refine ⟨least + r2, b, rfl, hb0, Nat.lt_of_le_of_lt hb1 (by decide +kernel), ?_⟩
  have hn0 : 0 ≤ mkRat (least + r2) b := Rat.num_nonneg.mp (by rw [mk_num _ _ hb0]; exact Int.ediv_nonneg (by omega) (by omega))
  refine h (mkRat (least + r2) b) y2 hn0 ⟨?_, ?_⟩ (fun hl => ?_) hy2
  · rw [Rat.num_mkRat, if_neg (by omega)]
    refine Nat.lt_of_le_of_lt (Int.natAbs_ediv_le_natAbs _ _) (Nat.lt_of_le_of_lt (m := 10 ^ 56 + 1) ?_ (by decide))
    omega
  · rw [Rat.den_mkRat, if_neg (by omega)]
    exact Nat.lt_of_le_of_lt (Nat.div_le_self _ _) (Nat.lt_of_le_of_lt hb1 (by decide))
  · refine Rat.lt_iff_le_and_ne.mpr ⟨hn0, fun z => ?_⟩
    have z := ((Rat.mkRat_eq_zero (by omega)).mp z.symm)
    omega
abbrev S_l_names : Spc := fun ds m F X => ∃ (a : Addr) (y : MO) (many : Nat), ds = [.adr a, .int (many : Nat)] ∧ m = [(a, y)] ∧ StOk y ∧ many ≤ 7 ∧ ∀ (ps : List Str) y', ps.length = many → ps.Nodup → (∀ z ∈ ps, IsNm z) → StOk y' → F (.lst (ps.map .str)) [(a, y')]
theorem sum_one : ∀ cs : List Nat, (cs.map ((fun x : Str => x.length) ∘ sgn)).sum = cs.length
  | [] => rfl
  | c :: r => by
    rw [List.map_cons, List.sum_cons, sum_one r, List.length_cons, Nat.add_comm]
    rfl
def J_nm (a : Addr) (i : Nat) (acc : List D) (m : Mu) : Prop := ∃ (cs : List Nat) (y : MO), acc = (cs.map sgn).map .str ∧ cs.length = i ∧ (∀ c ∈ cs, c ∈ LETT.cps.toList) ∧ cs.length ≤ 8 ∧ m = [(a, y)] ∧ StOk y
theorem sc_l_names : FnScope ["_law_state", "_law_many", "_law_letters", "_law_turn", "_law_step", "_law_k", "_law_tail", "_law_at", "_law_some", "_law_letter"] ["_law_state", "_law_many"] (defScope s_l_names) := ⟨rfl, rfl, rfl, by decide +kernel, rfl, by decide +kernel, by decide +kernel⟩
theorem ok_l_names {P : Program} {w : World} {K : PySem.W.Frag} {mg : Str → Option Value} {base : Heap} (T : Tx K mg) (G_l_take : Fo P w K mg base CX0 1 "_law_take" ["_law_state", "_law_many"] (spD K (NC K) 2 S_l_take)) : Fo P w K mg base CX0 2 "_law_names" ["_law_state", "_law_many"] (spD K (NC K) 2 S_l_names) := by
  refine Fo.mk_ T 55 47 rfl rfl rfl rfl rfl (fun _ _ _ _ _ _ us hl => match us, hl with | [_, _], _ => rfl) fun f fd F => ok_pure 1 F sc_l_names rfl fun cdv A outer s H E I m ds Fv X hr h => ?_
  refine ⟨_, _, (pss_cons (ps_set (i := 2) sc_l_names.nd rfl (.inr rfl) pe_str)
    (pss_cons (ps_set (i := 3) sc_l_names.nd rfl (.inr rfl) (pe_ownK K 1 G_l_take (hr.mono (by decide)) pass0 (pa_cons (pv 0) (pa_cons pe_int pa_nil))))
    (pss_cons (ps_set (i := 4) sc_l_names.nd rfl (.inr rfl) (pe_ix (o_ixK K) (pe_lst (pa_cons pe_int (pa_cons pe_int (pa_cons pe_int (pa_cons pe_int (pa_cons pe_int (pa_cons pe_int pa_nil))))))) (pe_ownK K 1 G_l_take (hr.mono (by decide)) pass0 (pa_cons (pv 0) (pa_cons pe_int pa_nil))) (fun _ _ => rfl)))
    (pss_cons (ps_set (i := 6) sc_l_names.nd rfl (.inr rfl) (as_join (pe_bm PySem.F.plainAttrs_str PySem.F.slot_str_join PySem.F.type_str_join m_join pe_str (pa_cons (as_lc [5] (pe_lc (own := [("_law_k", 5)]) rfl sc_l_names.nd (pi_range1 rfl (T.b 89 rfl) (pa_cons (pe_ownK K 1 G_l_take (hr.mono (by decide)) pass0 (pa_cons (pv 0) (pa_cons pe_int pa_nil))) pa_nil)) (blkOk_by (own := [("_law_k", 5)]) (N := ["_law_state", "_law_many", "_law_letters", "_law_turn", "_law_step", "_law_k", "_law_tail", "_law_at", "_law_some", "_law_letter"]) (sc := defScope s_l_names) (by decide +kernel)) (fun _ _ _ _ _ => (pg_name (i := 5) sc_l_names.nd rfl (.inl rfl))) (fun _ _ _ _ _ => pts_nil) (fun _ _ _ _ _ => (pe_ix (o_ixK K) (pv 2) (pe_ownK K 1 G_l_take (hr.mono (by decide)) pass0 (pa_cons (pv 0) (pa_cons pe_int pa_nil))) (fun _ _ => rfl))))) pa_nil))))
    (pss_cons (ps_set (i := 7) sc_l_names.nd rfl (.inr rfl) (pe_ownK K 1 G_l_take (hr.mono (by decide)) pass0 (pa_cons (pv 0) (pa_cons (pe_op o_add (pe_bi c_len (T.b 85 rfl) bb_len (pa_cons (pv 6) pa_nil)) pe_int) pa_nil))))
    (pss_cons (as_setLc [5] (ps_setLc (i := 8) (own := [("_law_k", 5)]) rfl sc_l_names.nd rfl rfl (sw_true rfl rfl rfl (by decide +kernel)) (pi_range1 rfl (T.b 89 rfl) (pa_cons (pv 1) pa_nil)) (blkOk_by (own := [("_law_k", 5)]) (N := ["_law_state", "_law_many", "_law_letters", "_law_turn", "_law_step", "_law_k", "_law_tail", "_law_at", "_law_some", "_law_letter"]) (sc := defScope s_l_names) (by decide +kernel)) (fun _ _ _ _ _ => (pg_name (i := 5) sc_l_names.nd rfl (.inl rfl))) (fun _ _ _ _ _ => pts_nil) (fun _ _ _ _ _ => (pe_ix (o_ixK K) (pv 2) (pe_op o_mod (pe_op o_add (pv 3) (pe_op o_mul (pv 4) (pv 5))) pe_int) (fun _ _ => rfl)))))
    (pss_one (ps_ret (as_lc [9] (pe_lc (own := [("_law_letter", 9)]) rfl sc_l_names.nd (pi_list (pv 8)) (blkOk_by (own := [("_law_letter", 9)]) (N := ["_law_state", "_law_many", "_law_letters", "_law_turn", "_law_step", "_law_k", "_law_tail", "_law_at", "_law_some", "_law_letter"]) (sc := defScope s_l_names) (by decide +kernel)) (fun _ _ _ _ _ => (pg_name (i := 9) sc_l_names.nd rfl (.inl rfl))) (fun _ _ _ _ _ => pts_nil) (fun _ _ _ _ _ => (pe_op o_add (pe_op o_add (pe_slice (sl_anyK K) (pv 6) po_none (po_some (pv 7))) (pv 9)) (pe_slice (sl_anyK K) (pv 6) (po_some (pv 7)) po_none))))))))))))), (by (try dsimp only [cxOf]); infer_instance), ?_⟩
  obtain ⟨a, y, many, rfl, rfl, hy, hm, h⟩ := h
  walk_at "d"
  refine ⟨a, y, 26, rfl, rfl, hy, by decide, by decide, fun r y1 h0 h1 hy1 => ?_⟩
  obtain ⟨turn, rfl, hi⟩ := nat_of h0 h1
  walk_at "d"
  refine ⟨sl100 (by decide), a, y1, 6, rfl, rfl, hy1, by decide, by decide, fun r y2 h0 h1 hy2 => ?_⟩
  obtain ⟨i, rfl, hi6⟩ := nat_of h0 h1
  have hi6 : i < 6 := hi6
  obtain ⟨step, hst, hs⟩ : ∃ step : Nat, ([D.int 1, .int 3, .int 5, .int 7, .int 11, .int 25] : List D)[i]? = some (.int (step : Nat)) ∧ (step = 1 ∨ step = 3 ∨ step = 5 ∨ step = 7 ∨ step = 11 ∨ step = 25) := by
    match i, hi6 with
    | 0, _ => exact ⟨1, rfl, by decide⟩
    | 1, _ => exact ⟨3, rfl, by decide⟩
    | 2, _ => exact ⟨5, rfl, by decide⟩
    | 3, _ => exact ⟨7, rfl, by decide⟩
    | 4, _ => exact ⟨11, rfl, by decide⟩
    | 5, _ => exact ⟨25, rfl, by decide⟩
  walk_at "d"
  rw [atN hst]
  walk_at "d"
  have hL : ("abcdefghijklmnopqrstuvwxyz" : Str) = LETT := rfl
  rw [hL]
  have hLl : LETT.length ≤ sizeLine := sl100 (by decide +kernel)
  unfold dLc
  walk_at "d"
  refine ⟨a, y2, 8, rfl, rfl, hy2, by decide, by decide, fun r y3 h0 h1 hy3 => ?_⟩
  obtain ⟨n, rfl, hn8⟩ := nat_of h0 h1
  have hn8 : n < 8 := hn8
  walk_at "d"
  refine ⟨by omega, by omega, fun i acc m => J_nm a i acc m, ⟨[], y3, rfl, rfl, (fun _ h => nomatch h), by decide, rfl, hy3⟩, ?_, ?_, ?_⟩
  · rintro i acc m ⟨cs, y, rfl, h1, h2, h3, h4, h5⟩
    refine ⟨?_, fun _ => trivial⟩
    rw [List.length_map, List.length_map]
    exact Nat.lt_of_le_of_lt h3 (by decide)
  · rintro i d acc m p hi ⟨cs, y, rfl, rfl, h2, h3, rfl, h5⟩
    obtain ⟨hj, rfl⟩ := rngD_get hi
    walk_at "d"
    refine ⟨a, y, 26, rfl, rfl, h5, by decide, by decide, fun r y4 h0 h1 hy4 => ?_⟩
    obtain ⟨j, rfl, hj26⟩ := nat_of h0 h1
    have hj26 : j < LETT.cps.toList.length := by rw [LETT_len]; exact hj26
    walk_at "d"
    refine ⟨hLl, ?_⟩
    rw [atN (List.getElem?_eq_getElem hj26)]
    walk_at "d"
    refine ⟨[(a, y4)], rfl, cs ++ [LETT.cps.toList[j]], y4, ?_, ?_, fun c hc => ?_, ?_, rfl, hy4⟩
    · rw [List.map_append, List.map_append]
      rfl
    · rw [List.length_append]
      rfl
    · rcases List.mem_append.mp hc with q | q
      · exact h2 c q
      · obtain rfl : c = _ := by simpa using q
        exact List.getElem_mem hj26
    · rw [List.length_append, List.length_singleton]
      omega
  · rintro acc m ⟨cs, y4, rfl, h1, h2, h3, rfl, hy4⟩
    walk_at "d"
    have hcl : cs.length ≤ 7 := by
      rw [rngD_len] at h1
      have : ((n : Int)).toNat = n := Int.toNat_natCast n
      omega
    refine ⟨cs.map sgn, rfl, ?_, sl100 (by rw [join_len]; omega), a, y4, _, rfl, rfl, hy4, by omega, by rw [join_len]; omega, fun r y5 h0 h1 hy5 => ?_⟩
    · have e1 : ((cs.map sgn).map (·.length)).sum = cs.length := by
        rw [List.map_map]
        exact sum_one cs
      rw [e1]
      show cs.length + _ * 0 ≤ _
      omega
    rw [join_len] at h1
    obtain ⟨at_, rfl, hat⟩ := nat_of h0 h1
    have hat : at_ ≤ cs.length := by omega
    refine ⟨by omega, by omega, fun i acc m => i ≤ 7 ∧ acc = ((List.range i).map fun k => LETT.cps.toList.getD ((turn + step * k) % 26) 0).map (fun c => .str (sgn c)) ∧ m = [(a, y5)], ⟨by decide, rfl, rfl⟩, ?_, ?_, ?_⟩
    · rintro i acc m ⟨h1, rfl, rfl⟩
      refine ⟨?_, fun _ => trivial⟩
      rw [List.length_map, List.length_map, List.length_range]
      exact Nat.lt_of_le_of_lt h1 (by decide)
    · rintro i d acc m p hi ⟨h1, rfl, rfl⟩
      obtain ⟨hj, rfl⟩ := rngD_get hi
      have hj : i < many := by rw [Int.toNat_natCast] at hj; exact hj
      have hlt : (turn + step * i) % 26 < LETT.cps.toList.length := by rw [LETT_len]; exact Nat.mod_lt _ (by decide)
      have e : (((turn : Nat) : Int) + ((step : Nat) : Int) * ((i : Nat) : Int)) % 26 = (((turn + step * i) % 26 : Nat) : Int) := by
        rw [← Int.natCast_mul, ← Int.natCast_add]
        rfl
      rw [Int.zero_add]
      walk_at "d"
      have hst25 : step ≤ 25 := by omega
      refine ⟨mulW (a := 64) (b := 64) (by rw [Int.natAbs_natCast]; omega) (by rw [Int.natAbs_natCast]; omega) (by decide) (by decide) (by decide), hLl, ?_⟩
      rw [e, atN (List.getElem?_eq_getElem hlt)]
      walk_at "d"
      refine ⟨[(a, y5)], rfl, by omega, ?_, rfl⟩
      rw [List.range_succ, List.map_append, List.map_append]
      congr 1
      show [_] = [D.str (sgn (LETT.cps.toList.getD _ 0))]
      rw [List.getD_eq_getElem?_getD, List.getElem?_eq_getElem hlt]
      rfl
    · rintro acc m ⟨h1, rfl, rfl⟩
      rw [rngD_len, Int.toNat_natCast]
      generalize hchs : ((List.range many).map fun k => LETT.cps.toList.getD ((turn + step * k) % 26) 0) = chs
      have hnd : chs.Nodup := hchs ▸ letters_nd hs hm
      have hchl : chs.length = many := by rw [← hchs, List.length_map, List.length_range]
      have hchm : ∀ c ∈ chs, c ∈ LETT.cps.toList := fun c hc => by
        rw [← hchs] at hc
        obtain ⟨k, _, rfl⟩ := List.mem_map.mp hc
        have hlt : (turn + step * k) % 26 < LETT.cps.toList.length := by rw [LETT_len]; exact Nat.mod_lt _ (by decide)
        rw [List.getD_eq_getElem?_getD, List.getElem?_eq_getElem hlt]
        exact List.getElem_mem hlt
      refine ⟨fun i acc m => i ≤ 7 ∧ acc = ((chs.take i).map fun c => nmOf cs at_ c).map .str ∧ m = [(a, y5)], ⟨by decide, rfl, rfl⟩, ?_, ?_, ?_⟩
      · rintro i acc m ⟨h1, rfl, rfl⟩
        refine ⟨?_, fun _ => trivial⟩
        rw [List.length_map, List.length_map, List.length_take]
        exact Nat.lt_of_le_of_lt (m := 7) (by omega) (by decide)
      · rintro i d acc m p hi ⟨h1, rfl, rfl⟩
        rw [List.getElem?_map] at hi
        cases e : chs[i]? with
        | none => rw [e] at hi; cases hi
        | some c =>
          rw [e] at hi
          cases hi
          obtain ⟨hlt, ec⟩ := List.getElem?_eq_some_iff.mp e
          have hz : at_ ≤ (Txt.join "" (cs.map sgn)).length := by rw [join_len]; exact hat
          have hjl : (Txt.join "" (cs.map sgn)).length ≤ sizeLine := sl100 (by rw [join_len]; omega)
          have hc1 : (cutS (Txt.join "" (cs.map sgn)) none (some (at_ : Int))).length ≤ 7 := by
            refine Nat.le_trans (cutS_length _ _ _) ?_
            rw [join_len]
            exact hcl
          have hc2 : (cutS (Txt.join "" (cs.map sgn)) (some (at_ : Int)) none).length ≤ 7 := by
            refine Nat.le_trans (cutS_length _ _ _) ?_
            rw [join_len]
            exact hcl
          have hc3 : (cutS (Txt.join "" (cs.map sgn)) none (some (at_ : Int)) ++ sgn c).length ≤ 8 := by
            rw [Str.length_append, sgn_len]
            omega
          walk_at "d"
          refine ⟨hjl, sl100 (by rw [sgn_len]; omega), hjl, sl100 (by omega), [(a, y5)], rfl, by omega, ?_, rfl⟩
          rw [List.take_succ_eq_append_getElem hlt, ec, List.map_append, List.map_append]
          congr 1
          have hnc := nm_cut (Txt.join "" (cs.map sgn)) at_ c hz
          rw [join_sgn] at hnc
          show [D.str _] = [D.str (nmOf cs at_ c)]
          rw [← hnc]
      · rintro acc m ⟨h1, rfl, rfl⟩
        rw [List.length_map, List.take_length]
        refine h (chs.map fun c => nmOf cs at_ c) y5 (by rw [List.length_map, hchl]) ?_ (fun z hz => ?_) hy5
        · rw [List.nodup_iff_pairwise_ne, List.pairwise_map]
          exact hnd.imp fun hne q => hne (nm_inj q)
        · obtain ⟨c, hc, rfl⟩ := List.mem_map.mp hz
          exact nm_ok hcl h2 (hchm c hc)
end FC
/-! THE WALK, 13: the law's web. -/
namespace FC
open PySem PySem.Spec L2
local macro_rules | `(tactic| walk_at "d") => `(tactic| try simp only [dVar, dC, dOp, dUn, dAdd, dSub, dMul, dMod, dDiv, dPow, dNeg, dCmp, dEq, dNe, dEqv, dIsN, dNotN, isNon, dIn, inD, dInM, dIx, ixDs, dIxM, dChain, dB, asB, dAnd, dOr, dNot, dAndV, dOrV, dNotV, dIf, dNil, dCons, dTup, dLst, dLstM, dDic0, dDicM, dDisp1,
  dCB, dLen, dLenM, dAbs, dMax2, dMin2, dInt, dBool, dStr, dList, dListN, dListM, dTuple, dSorted, dDicC, dIsi, tyD_non, tyD_bl, tyD_int, tyD_str, tyD_lst, tyD_tup, tyD_dic, dNoPart, asI, dPart, dSl, dRev, dApp, dPopI, dRem, dEqNil, dEqNilM, dGet, dDGetM, dDGet, dDInM, dDInA, dDPopM, dEqD0, dEqDM, dJoin, dNext, dSeq, dDrop, dRet, dIfS, dNever, dgName, dgNil, dgCons, dgTup, dAsg, dSubM, dDPutM, dPar, dAug, dFrz, frzD, dFgt,
  diLst, diTup, diLstM, diRng1, diRng2, diStr, diEnum, diZip, dYes, dCall, endsD, startD, wipeD, dom,
  isTy_0_0, isTy_0_1, isTy_0_2, isTy_0_3, isTy_0_4, isTy_1_0, isTy_1_1, isTy_1_2, isTy_1_3, isTy_1_4, isTy_2_0, isTy_2_1, isTy_2_2, isTy_2_3, isTy_2_4, isTy_3_0, isTy_3_1, isTy_3_2, isTy_3_3, isTy_3_4, isTy_4_0, isTy_4_1, isTy_4_2, isTy_4_3, isTy_4_4, isTy_5_0, isTy_5_1, isTy_5_2, isTy_5_3, isTy_5_4, isTy_6_0, isTy_6_1, isTy_6_2, isTy_6_3, isTy_6_4,
  Int.cast_ofNat_Int, decide_true, decide_false, Int.reduceEq, Int.reduceLT, Int.reduceLE, atI_0, atI_1, atI_2, atI_3, atI_4, List.length_map, List.map_cons, List.map_nil, List.length_cons, List.length_nil, Nat.reduceAdd, Nat.reduceSub, List.reduceReplicate, List.cons_append, List.nil_append, List.append_nil, List.getElem?_cons_zero, List.getElem?_cons_succ, List.getElem?_nil, List.set_cons_zero, List.set_cons_succ, List.take_zero, List.drop_zero, List.take_succ_cons, List.drop_succ_cons,
  List.eraseIdx_cons_zero, List.eraseIdx_cons_succ, true_and, and_true, eq_self, and_self, if_true, if_false, Bool.false_eq_true, reduceIte, Bool.not_true, Bool.not_false, forall_const, exists_eq_left, exists_eq_left', exists_eq_right, exists_eq_right', exists_and_left, exists_const, D.adr.injEq, D.str.injEq, D.int.injEq, D.lst.injEq, D.tup.injEq, D.bl.injEq, Option.some.injEq, Prod.mk.injEq, MO.l.injEq, MO.d.injEq, List.cons.injEq, Function.const_apply, dLock, lckE, dDGetK, dFld, dSetF, dMeth, dMake, dRaise, diKeys, dGet, dAddM, List.not_mem_nil, false_implies, implies_true, List.mem_singleton, forall_eq, Option.isSome_none, Option.isSome_some, lcRes, exists_eq, exists_eq', List.length_append, List.length_singleton])

abbrev S_l_tie : Spc := fun ds m F X => ∃ (a : Addr) (y : MO) (ps : List Str) (k : Nat), ds = [.adr a, .lst (ps.map .str), .int (k : Nat)] ∧ m = [(a, y)] ∧ StOk y ∧ 2 ≤ ps.length ∧ ps.length ≤ 7 ∧ ps.Nodup ∧ ∀ (t : Tie) y', TieOk ps t → StOk y' → F (tieD t) [(a, y')]
theorem seq_mid {t u : DS} {F : DEnds} {r : Rho} {m : Mu} (M : Rho → Mu → Prop) (h1 : ∀ R : Rho → Mu → Prop, (∀ r m, M r m → R r m) → t { F with nx := R } r m) (h2 : ∀ r m, M r m → u F r m) : dSeq t u F r m := h1 _ h2
def J_tie (a : Addr) (ps : List Str) (k : Nat) (r : Rho) (m : Mu) : Prop := ∃ (y : MO) (o3 o4 : Option D) (p q : Str), r = [some (.adr a), some (.lst (ps.map .str)), some (.int (k : Nat)), o3, o4, some (.str p), some (.str q), none, none, none] ∧ m = [(a, y)] ∧ StOk y ∧ p ∈ ps ∧ q ∈ ps ∧ p ≠ q
theorem strs_at {ps : List Str} {i : Nat} (h : i < ps.length) : (ps.map D.str)[i]? = some (.str ps[i]) := by rw [List.getElem?_map, List.getElem?_eq_getElem h]; rfl
theorem sc_l_tie : FnScope ["_law_state", "_law_order", "_law_k", "_law_at", "_law_far_here", "_law_one", "_law_other", "_law_length", "_law_some", "_law_worth_here"] ["_law_state", "_law_order", "_law_k"] (defScope s_l_tie) := ⟨rfl, rfl, rfl, by decide +kernel, rfl, by decide +kernel, by decide +kernel⟩
theorem ok_l_tie {P : Program} {w : World} {K : PySem.W.Frag} {mg : Str → Option Value} {base : Heap} (T : Tx K mg) (G_l_take : Fo P w K mg base CX0 1 "_law_take" ["_law_state", "_law_many"] (spD K (NC K) 2 S_l_take)) (G_l_amount : Fo P w K mg base CX0 2 "_law_amount" ["_law_state", "_law_least"] (spD K (NC K) 2 S_l_amount)) : Fo P w K mg base CX0 3 "_law_tie" ["_law_state", "_law_order", "_law_k"] (spD K (NC K) 3 S_l_tie) := by
  refine Fo.mk_ T 56 48 rfl rfl rfl rfl rfl (fun _ _ _ _ _ _ us hl => match us, hl with | [_, _, _], _ => rfl) fun f fd F => ok_pure 1 F sc_l_tie rfl fun cdv A outer s H E I m ds Fv X hr h => ?_
  refine ⟨_, _, (pss_cons (ps_set (i := 3) sc_l_tie.nd rfl (.inl rfl) (pe_ownK K 1 G_l_take (hr.mono (by decide)) pass0 (pa_cons (pv 0) (pa_cons (pe_bi c_len (T.b 85 rfl) bb_len (pa_cons (pv 1) pa_nil)) pa_nil))))
    (pss_cons (ps_set (i := 4) sc_l_tie.nd rfl (.inl rfl) (pe_op o_add pe_int (pe_ownK K 1 G_l_take (hr.mono (by decide)) pass0 (pa_cons (pv 0) (pa_cons (pe_op o_sub (pe_bi c_len (T.b 85 rfl) bb_len (pa_cons (pv 1) pa_nil)) pe_int) pa_nil)))))
    (pss_cons (ps_par (i := 5) (j := 6) (by rfl) sc_l_tie.nd rfl rfl (by decide) rfl rfl (pa_cons (pe_ix (o_ixK K) (pv 1) (pv 3) (fun _ _ => rfl)) (pa_cons (pe_ix (o_ixK K) (pv 1) (pe_op o_mod (pe_op o_add (pv 3) (pv 4)) (pe_bi c_len (T.b 85 rfl) bb_len (pa_cons (pv 1) pa_nil))) (fun _ _ => rfl)) pa_nil)) (by rfl))
    (pss_cons (ps_if (pt_cmpR o_gt (pe_ownK K 1 G_l_take (hr.mono (by decide)) pass0 (pa_cons (pv 0) (pa_cons pe_int pa_nil))) pe_int (nomark _)) (pss_cons (ps_set (i := 3) sc_l_tie.nd rfl (.inl rfl) (pe_op o_mod (pv 2) (pe_op o_sub (pe_bi c_len (T.b 85 rfl) bb_len (pa_cons (pv 1) pa_nil)) pe_int)))
    (pss_one (ps_par (i := 5) (j := 6) (by rfl) sc_l_tie.nd rfl rfl (by decide) rfl rfl (pa_cons (pe_ix (o_ixK K) (pv 1) (pv 3) (fun _ _ => rfl)) (pa_cons (pe_ix (o_ixK K) (pv 1) (pe_op o_add (pv 3) pe_int) (fun _ _ => rfl)) pa_nil)) (by rfl)))) pss_nil)
    (pss_cons (ps_if (pt_cmpR op_eq (pe_ownK K 1 G_l_take (hr.mono (by decide)) pass0 (pa_cons (pv 0) (pa_cons pe_int pa_nil))) pe_int (nomark _)) (pss_one (ps_par (i := 5) (j := 6) (by rfl) sc_l_tie.nd rfl rfl (by decide) rfl rfl (pa_cons (pv 6) (pa_cons (pv 5) pa_nil)) (by rfl))) pss_nil)
    (pss_cons (ps_set (i := 7) sc_l_tie.nd rfl (.inl rfl) (pe_ownK K 1 G_l_amount (hr.mono (by decide)) pass0 (pa_cons (pv 0) (pa_cons pe_int pa_nil))))
    (pss_cons (ps_set (i := 8) sc_l_tie.nd rfl (.inl rfl) (pe_lst (pa_cons (pe_tup (pa_cons pe_int (pa_cons pe_int pa_nil))) (pa_cons (pe_tup (pa_cons pe_int (pa_cons pe_int pa_nil))) (pa_cons (pe_tup (pa_cons pe_int (pa_cons pe_int pa_nil))) (pa_cons (pe_ownK K 1 G_l_amount (hr.mono (by decide)) pass0 (pa_cons (pv 0) (pa_cons pe_int pa_nil))) (pa_cons pe_non pa_nil)))))))
    (pss_cons (ps_set (i := 9) sc_l_tie.nd rfl (.inl rfl) (pe_ix (o_ixK K) (pv 8) (pe_ix (o_ixK K) (pe_lst (pa_cons pe_int (pa_cons pe_int (pa_cons pe_int (pa_cons pe_int (pa_cons pe_int (pa_cons pe_int (pa_cons pe_int (pa_cons pe_int pa_nil))))))))) (pe_ownK K 1 G_l_take (hr.mono (by decide)) pass0 (pa_cons (pv 0) (pa_cons pe_int pa_nil))) (fun _ _ => rfl)) (fun _ _ => rfl)))
    (pss_one (ps_ret (pe_tup (pa_cons (pv 5) (pa_cons (pv 6) (pa_cons (pe_ix (o_ixK K) (pe_lst (pa_cons pe_str (pa_cons pe_str pa_nil))) (pe_ownK K 1 G_l_take (hr.mono (by decide)) pass0 (pa_cons (pv 0) (pa_cons pe_int pa_nil))) (fun _ _ => rfl)) (pa_cons (pv 7) (pa_cons (pv 9) pa_nil)))))))))))))))), (by (try dsimp only [cxOf]); infer_instance), ?_⟩
  obtain ⟨a, y, ps, k, rfl, rfl, hy, h2, h7, nd, h⟩ := h
  have hne : ∀ i j (hi : i < ps.length) (hj : j < ps.length), i ≠ j → ps[i] ≠ ps[j] := fun i j hi hj hij e => hij ((List.getElem_inj nd).mp e)
  refine seq_mid (fun r m => ∃ (y : MO) (at_ : Nat), r = [some (.adr a), some (.lst (ps.map .str)), some (.int (k : Nat)), some (.int (at_ : Nat)), none, none, none, none, none, none] ∧ m = [(a, y)] ∧ StOk y ∧ at_ < ps.length) (fun R hR => ?_) ?_
  · walk_at "d"
    refine ⟨a, y, ps.length, rfl, rfl, hy, by omega, by omega, fun r y1 h0 h1 hy1 => ?_⟩
    obtain ⟨i, rfl, hi⟩ := nat_of h0 h1
    exact hR _ _ ⟨y1, i, rfl, rfl, hy1, by omega⟩
  rintro r m ⟨y, at_, rfl, rfl, hy, hat⟩
  refine seq_mid (fun r m => ∃ (y : MO) (far : Nat), r = [some (.adr a), some (.lst (ps.map .str)), some (.int (k : Nat)), some (.int (at_ : Nat)), some (.int (far : Nat)), none, none, none, none, none] ∧ m = [(a, y)] ∧ StOk y ∧ 1 ≤ far ∧ far < ps.length) (fun R hR => ?_) ?_
  · walk_at "d"
    refine ⟨a, y, (ps.length : Int) - 1, rfl, rfl, hy, by omega, by omega, fun r y1 h0 h1 hy1 => ?_⟩
    obtain ⟨i, rfl, hi⟩ := nat_of h0 h1
    refine hR _ _ ⟨y1, 1 + i, ?_, rfl, hy1, by omega, by omega⟩
    rw [Int.natCast_add]
    rfl
  rintro r m ⟨y, far, rfl, rfl, hy, hf1, hf2⟩
  refine seq_mid (J_tie a ps k) (fun R hR => ?_) ?_
  · have e : (((at_ : Nat) : Int) + ((far : Nat) : Int)) % ((ps.length : Nat) : Int) = (((at_ + far) % ps.length : Nat) : Int) := by
      rw [← Int.natCast_add]
      rfl
    have hlt : (at_ + far) % ps.length < ps.length := Nat.mod_lt _ (by omega)
    walk_at "d"
    rw [atN (strs_at hat), e]
    walk_at "d"
    refine ⟨by omega, ?_⟩
    rw [atN (strs_at hlt)]
    walk_at "d"
    refine hR _ _ ⟨y, _, _, _, _, rfl, rfl, hy, List.getElem_mem hat, List.getElem_mem hlt, hne _ _ hat hlt fun q => ?_⟩
    by_cases hs : at_ + far < ps.length
    · rw [Nat.mod_eq_of_lt hs] at q
      omega
    · rw [Nat.mod_eq_sub_mod (by omega), Nat.mod_eq_of_lt (by omega)] at q
      omega
  rintro r m ⟨y, o3, o4, p, q, rfl, rfl, hy, hp, hq, hpq⟩
  refine seq_mid (J_tie a ps k) (fun R hR => ?_) ?_
  · have e : ((k : Nat) : Int) % (((ps.length : Nat) : Int) - 1) = ((k % (ps.length - 1) : Nat) : Int) := by
      have : ((ps.length : Nat) : Int) - 1 = ((ps.length - 1 : Nat) : Int) := by omega
      rw [this]
      rfl
    have hlt : k % (ps.length - 1) < ps.length - 1 := Nat.mod_lt _ (by omega)
    walk_at "d"
    refine ⟨a, y, 3, rfl, rfl, hy, by decide, by decide, fun r y1 h0 h1 hy1 => ?_⟩
    walk_at "d"
    split
    · refine ⟨by omega, ?_⟩
      rw [e]
      walk_at "d"
      rw [atN (strs_at (by omega : k % (ps.length - 1) < ps.length))]
      walk_at "d"
      rw [show ((k % (ps.length - 1) : Nat) : Int) + 1 = ((k % (ps.length - 1) + 1 : Nat) : Int) from rfl, atN (strs_at (by omega : k % (ps.length - 1) + 1 < ps.length))]
      walk_at "d"
      exact hR _ _ ⟨y1, _, _, _, _, rfl, rfl, hy1, List.getElem_mem _, List.getElem_mem _, hne _ _ _ _ (by omega)⟩
    · exact hR _ _ ⟨y1, _, _, _, _, rfl, rfl, hy1, hp, hq, hpq⟩
  rintro r m ⟨y, o3, o4, p, q, rfl, rfl, hy, hp, hq, hpq⟩
  refine seq_mid (J_tie a ps k) (fun R hR => ?_) ?_
  · walk_at "d"
    refine ⟨a, y, 6, rfl, rfl, hy, by decide, by decide, fun r y1 h0 h1 hy1 => ?_⟩
    walk_at "d"
    split
    · exact hR _ _ ⟨y1, _, _, _, _, rfl, rfl, hy1, hq, hp, Ne.symm hpq⟩
    · exact hR _ _ ⟨y1, _, _, _, _, rfl, rfl, hy1, hp, hq, hpq⟩
  rintro r m ⟨y, o3, o4, p, q, rfl, rfl, hy, hp, hq, hpq⟩
  have s2 := sl100 (n := 2) (by decide)
  have s5 := sl100 (n := 5) (by decide)
  have s8 := sl100 (n := 8) (by decide)
  walk_at "d"
  refine ⟨a, y, 0, rfl, rfl, hy, by decide, by decide, fun l y1 hl0 hls _ hy1 => ?_⟩
  walk_at "d"
  refine ⟨s2, s2, s2, a, y1, 1, rfl, rfl, hy1, by decide, by decide, fun v y2 hv0 hvs hv1 hy2 => ?_⟩
  walk_at "d"
  refine ⟨s5, s8, a, y2, 8, rfl, rfl, hy2, by decide, by decide, fun r y3 h0 h1 hy3 => ?_⟩
  obtain ⟨i, rfl, hi⟩ := nat_of h0 h1
  have hi : i < 8 := hi
  obtain ⟨j, hj, hj5⟩ : ∃ j : Nat, ([D.int 0, .int 0, .int 1, .int 1, .int 2, .int 3, .int 3, .int 4] : List D)[i]? = some (.int (j : Nat)) ∧ j < 5 := by
    match i, hi with
    | 0, _ => exact ⟨0, rfl, by decide⟩
    | 1, _ => exact ⟨0, rfl, by decide⟩
    | 2, _ => exact ⟨1, rfl, by decide⟩
    | 3, _ => exact ⟨1, rfl, by decide⟩
    | 4, _ => exact ⟨2, rfl, by decide⟩
    | 5, _ => exact ⟨3, rfl, by decide⟩
    | 6, _ => exact ⟨3, rfl, by decide⟩
    | 7, _ => exact ⟨4, rfl, by decide⟩
  obtain ⟨wo, hwo, hwk⟩ : ∃ wo : Option Rat, ([.tup [.int 1, .int 1], .tup [.int 1, .int 1], .tup [.int 2, .int 1], fD v, .non] : List D)[j]? = some (worthD wo) ∧ ∀ q, wo = some q → 0 < q ∧ Sz 1 q := by
    match j, hj5 with
    | 0, _ => exact ⟨some 1, rfl, fun q hq => by cases hq; exact ⟨by decide, by decide, by decide⟩⟩
    | 1, _ => exact ⟨some 1, rfl, fun q hq => by cases hq; exact ⟨by decide, by decide, by decide⟩⟩
    | 2, _ => exact ⟨some 2, rfl, fun q hq => by cases hq; exact ⟨by decide, by decide, by decide⟩⟩
    | 3, _ => exact ⟨some v, rfl, fun q hq => by cases hq; exact ⟨hv1 (by decide), hvs⟩⟩
    | 4, _ => exact ⟨none, rfl, fun q hq => by cases hq⟩
  walk_at "d"
  rw [atN hj]
  walk_at "d"
  rw [atN hwo]
  walk_at "d"
  refine ⟨s2, a, y3, 2, rfl, rfl, hy3, by decide, by decide, fun r y4 h0 h1 hy4 => ?_⟩
  obtain ⟨i2, rfl, hi2⟩ := nat_of h0 h1
  have hi2 : i2 < 2 := hi2
  obtain ⟨bo, hbo⟩ : ∃ bo : Bool, ([.str "one", .str "both"] : List D)[i2]? = some (.str (bothW bo)) := by
    match i2, hi2 with
    | 0, _ => exact ⟨false, rfl⟩
    | 1, _ => exact ⟨true, rfl⟩
  walk_at "d"
  rw [atN hbo]
  walk_at "d"
  exact ⟨s5, h ⟨p, q, bo, l, wo⟩ y4 ⟨hp, hq, hpq, hl0, hls, hwk⟩ hy4⟩
abbrev S_l_web : Spc := fun ds m F X => ∃ (ns : List Int), ds = [.scr ns, .int 7, .int 8] ∧ m = [] ∧ ns.length ≤ 63 ∧ ∀ w : Web, WebOk w → w.ties.length ≤ 8 → F (webD w) []
structure Perm7 (ps os : List Str) : Prop where
  nd : os.Nodup
  len : os.length = ps.length
  sub : ∀ z ∈ os, z ∈ ps
theorem sc_l_web : FnScope ["_law_script", "_law_most_places", "_law_most_ties", "_law_state", "_law_places", "_law_order", "_law_k", "_law_many", "_law_ties"] ["_law_script", "_law_most_places", "_law_most_ties"] (defScope s_l_web) := ⟨rfl, rfl, rfl, by decide +kernel, rfl, by decide +kernel, by decide +kernel⟩
theorem ok_l_web {P : Program} {w : World} {K : PySem.W.Frag} {mg : Str → Option Value} {base : Heap} (T : Tx K mg) (G_l_begun : Fo P w K mg base CX0 1 "_law_begun" ["_law_script", "_law_k"] (spD K (NC K) 2 S_l_begun)) (G_l_names : Fo P w K mg base CX0 2 "_law_names" ["_law_state", "_law_many"] (spD K (NC K) 2 S_l_names)) (G_l_take : Fo P w K mg base CX0 1 "_law_take" ["_law_state", "_law_many"] (spD K (NC K) 2 S_l_take)) (G_l_tie : Fo P w K mg base CX0 3 "_law_tie" ["_law_state", "_law_order", "_law_k"] (spD K (NC K) 3 S_l_tie)) : Fo P w K mg base CX0 4 "_law_web" ["_law_script", "_law_most_places", "_law_most_ties"] (spD K (NC K) 3 S_l_web) := by
  refine Fo.mk_ T 57 49 rfl rfl rfl rfl rfl (fun _ _ _ _ _ _ us hl => match us, hl with | [_, _, _], _ => rfl) fun f fd F => ok_pure 0 F sc_l_web rfl fun cdv A outer s H E I m ds Fv X hr h => ?_
  refine ⟨_, _, (pss_cons (ps_set (i := 3) sc_l_web.nd rfl (.inl rfl) (pe_ownK K 0 G_l_begun (hr.mono (by decide)) pass0 (pa_cons (pv 0) (pa_cons pe_int pa_nil))))
    (pss_cons (ps_set (i := 4) sc_l_web.nd rfl (.inl rfl) (pe_ownK K 1 G_l_names (hr.mono (by decide)) pass0 (pa_cons (pv 3) (pa_cons (pe_op o_add pe_int (pe_ownK K 1 G_l_take (hr.mono (by decide)) pass0 (pa_cons (pv 3) (pa_cons (pe_op o_sub (pv 1) pe_int) pa_nil)))) pa_nil))))
    (pss_cons (ps_set (i := 5) sc_l_web.nd rfl (.inr rfl) (pe_bt c_listN (T.b 86 rfl) bb_list (pa_cons (pv 4) pa_nil)))
    (pss_cons (ps_for PassesOwn.never rfl (pi_range1 rfl (T.b 89 rfl) (pa_cons (pe_bi (c_lenM 1) (T.b 85 rfl) bb_len (pa_cons (pv 5) pa_nil)) pa_nil)) (pg_name (i := 6) sc_l_web.nd rfl (.inl rfl))
    (pss_one (ps_expr (as_app 1 (pe_bm PySem.F.plainAttrs_list PySem.F.slot_list_append PySem.F.type_list_append mt_append (pv 5) (pa_cons (as_popI 1 (pe_bm PySem.F.plainAttrs_list PySem.F.slot_list_pop PySem.F.type_list_pop mt_popAt (pv 5) (pa_cons (pe_ownK K 1 G_l_take (hr.mono (by decide)) pass0 (pa_cons (pv 3) (pa_cons (pe_op o_sub (pe_bi (c_lenM 1) (T.b 85 rfl) bb_len (pa_cons (pv 5) pa_nil)) (pv 6)) pa_nil))) pa_nil))) pa_nil))))))
    (pss_frz 5 1 (pss_cons (ps_set (i := 7) sc_l_web.nd rfl (.inl rfl) (pe_ix (o_ixK K) (pe_lst (pa_cons (pe_ownK K 1 G_l_take (hr.mono (by decide)) pass0 (pa_cons (pv 3) (pa_cons (pe_op o_add (pv 2) pe_int) pa_nil))) (pa_cons (pv 2) (pa_cons (pe_op o_sub (pv 2) pe_int) pa_nil)))) (pe_ownK K 1 G_l_take (hr.mono (by decide)) pass0 (pa_cons (pv 3) (pa_cons pe_int pa_nil))) (fun _ _ => rfl)))
    (pss_cons (as_setLc [6] (ps_setLc (i := 8) (own := [("_law_k", 6)]) rfl sc_l_web.nd rfl rfl (sw_true rfl rfl rfl (by decide +kernel)) (pi_range1 rfl (T.b 89 rfl) (pa_cons (pv 7) pa_nil)) (blkOk_by (own := [("_law_k", 6)]) (N := ["_law_script", "_law_most_places", "_law_most_ties", "_law_state", "_law_places", "_law_order", "_law_k", "_law_many", "_law_ties"]) (sc := defScope s_l_web) (by decide +kernel)) (fun _ _ _ _ _ => (pg_name (i := 6) sc_l_web.nd rfl (.inl rfl))) (fun _ _ _ _ _ => pts_nil) (fun _ _ _ _ _ => (pe_ownK K 1 G_l_tie (hr.mono (by decide)) pass0 (pa_cons (pe_ownK K 0 G_l_begun (hr.mono (by decide)) pass0 (pa_cons (pv 0) (pa_cons (pe_op o_add pe_int (pv 6)) pa_nil))) (pa_cons (pv 5) (pa_cons (pv 6) pa_nil)))))))
    (pss_one (ps_ret (pe_tup (pa_cons (pv 4) (pa_cons (pv 8) (pa_cons (pe_ix (o_ixK K) (pv 5) pe_int (fun _ _ => rfl)) (pa_cons (pe_ix (o_ixK K) (pv 5) (pe_un o_neg pe_int) (fun _ _ => rfl)) pa_nil)))))))))))))), (by (try dsimp only [cxOf]); infer_instance), ?_⟩
  obtain ⟨ns, rfl, rfl, hn, h⟩ := h
  refine seq_mid (fun r m => ∃ (a : Addr) (y : MO), r = [some (.scr ns), some (.int 7), some (.int 8), some (.adr a), none, none, none, none, none] ∧ m = [(a, y)] ∧ StOk y) (fun R hR => ?_) ?_
  · walk_at "d"
    exact ⟨ns, 0, rfl, rfl, by decide, hn, fun a y hy => hR _ _ ⟨a, y, rfl, rfl, hy⟩⟩
  rintro r m ⟨a, y, rfl, rfl, hy⟩
  refine seq_mid (fun r m => ∃ (y : MO) (ps : List Str), r = [some (.scr ns), some (.int 7), some (.int 8), some (.adr a), some (.lst (ps.map .str)), none, none, none, none] ∧ m = [(a, y)] ∧ StOk y ∧ 2 ≤ ps.length ∧ ps.length ≤ 7 ∧ ps.Nodup ∧ ∀ z ∈ ps, IsNm z) (fun R hR => ?_) ?_
  · walk_at "d"
    refine ⟨a, y, 7 - 1, rfl, rfl, hy, by decide, by decide, fun r y1 h0 h1 hy1 => ?_⟩
    obtain ⟨i, rfl, hi⟩ := nat_of h0 h1
    have hi : i < 6 := hi
    walk_at "d"
    refine ⟨a, y1, 2 + i, ?_, rfl, hy1, by omega, fun ps y2 h1 h2 h3 hy2 => hR _ _ ⟨y2, ps, rfl, rfl, hy2, by omega, by omega, h2, h3⟩⟩
    rw [Int.natCast_add]
    rfl
  rintro r m ⟨y, ps, rfl, rfl, hy, hp2, hp7, hnd, hnm⟩
  refine seq_mid (fun r m => ∃ b : Addr, r = [some (.scr ns), some (.int 7), some (.int 8), some (.adr a), some (.lst (ps.map .str)), some (.adr b), none, none, none] ∧ m = [(a, y), (b, .l (ps.map .str))]) (fun R hR => ?_) ?_
  · walk_at "d"
    exact fun b => hR _ _ ⟨b, rfl, rfl⟩
  rintro r m ⟨b, rfl, rfl⟩
  refine seq_mid (fun r m => ∃ (y : MO) (o : Option D) (os : List Str), r = [some (.scr ns), some (.int 7), some (.int 8), some (.adr a), some (.lst (ps.map .str)), some (.adr b), o, none, none] ∧ m = [(a, y), (b, .l (os.map .str))] ∧ StOk y ∧ Perm7 ps os) (fun R hR => ?_) ?_
  · unfold dFor
    walk_at "d"
    refine ⟨by omega, by omega, fun i r m => ∃ (y : MO) (o : Option D) (os : List Str), r = [some (.scr ns), some (.int 7), some (.int 8), some (.adr a), some (.lst (ps.map .str)), some (.adr b), o, none, none] ∧ m = [(a, y), (b, .l (os.map .str))] ∧ StOk y ∧ Perm7 ps os, ⟨y, none, ps, rfl, rfl, hy, hnd, rfl, fun z hz => hz⟩, fun _ _ _ _ => trivial, ?_, ?_⟩
    · rintro i d r m hi ⟨y, o, os, rfl, rfl, hy, hpm⟩
      obtain ⟨hj, rfl⟩ := rngD_get hi
      rw [Int.toNat_natCast] at hj
      have hol := hpm.len
      walk_at "d"
      refine ⟨a, y, (os.length : Int) - (0 + (i : Nat)), rfl, rfl, hy, by omega, by omega, fun r y1 h0 h1 hy1 => ?_⟩
      obtain ⟨j, rfl, hj2⟩ := nat_of h0 h1
      have hjl : j < os.length := by omega
      walk_at "d"
      refine ⟨by omega, by omega, j, (ixN_seq (ixN_nat hjl)).1, .str os[j], strs_at hjl, ?_, y1, os.eraseIdx j ++ [os[j]], ⟨rfl, ?_⟩, hy1, ?_, ?_, fun z hz => ?_⟩
      · rw [eraseIdx_mapD, List.length_map]
        exact Nat.lt_of_le_of_lt (List.length_eraseIdx_le _ _) (Nat.lt_of_le_of_lt (m := 7) (by omega) (by decide))
      · rw [eraseIdx_mapD, List.map_append]
        rfl
      · refine List.nodup_append.mpr ⟨hpm.nd.sublist (List.eraseIdx_sublist _ _), by simp, fun x hx y hy q => ?_⟩
        obtain rfl : y = os[j] := by simpa using hy
        subst q
        obtain ⟨j2, hj2, e2⟩ := List.mem_eraseIdx_iff_getElem?.mp hx
        exact hj2 (nodup_get hpm.nd e2 (List.getElem?_eq_getElem hjl))
      · rw [List.length_append, List.length_eraseIdx_of_lt hjl, List.length_singleton]
        omega
      · rcases List.mem_append.mp hz with q | q
        · exact hpm.sub z (List.mem_of_mem_eraseIdx q)
        · obtain rfl : z = os[j] := by simpa using q
          exact hpm.sub _ (List.getElem_mem hjl)
    · rintro r m ⟨y, o, os, rfl, rfl, hy, hpm⟩
      exact hR _ _ ⟨y, o, os, rfl, rfl, hy, hpm⟩
  rintro r m ⟨y, o, os, rfl, rfl, hy, hpm⟩
  have s3 := sl100 (n := 3) (by decide)
  have s4 := sl100 (n := 4) (by decide)
  have hol := hpm.len
  walk_at "d"
  refine ⟨a, y, 8 + 1, rfl, rfl, hy, by decide, by decide, fun r y1 h0 h1 hy1 => ?_⟩
  obtain ⟨j, rfl, hj⟩ := nat_of h0 h1
  have hj : j < 9 := hj
  walk_at "d"
  refine ⟨s3, a, y1, 3, rfl, rfl, hy1, by decide, by decide, fun r y2 h0 h1 hy2 => ?_⟩
  obtain ⟨i, rfl, hi⟩ := nat_of h0 h1
  have hi : i < 3 := hi
  obtain ⟨n, hn1, hn2⟩ : ∃ n : Nat, ([.int (j : Nat), .int 8, .int (8 - 1)] : List D)[i]? = some (.int (n : Nat)) ∧ n ≤ 8 := by
    match i, hi with
    | 0, _ => exact ⟨j, rfl, by omega⟩
    | 1, _ => exact ⟨8, rfl, by decide⟩
    | 2, _ => exact ⟨7, rfl, by decide⟩
  walk_at "d"
  rw [atN hn1]
  walk_at "d"
  unfold dLc
  walk_at "d"
  refine ⟨by omega, by omega, fun i acc m => ∃ ts : List Tie, acc = ts.map tieD ∧ ts.length = i ∧ i ≤ 8 ∧ ∀ t ∈ ts, TieOk os t, ⟨[], rfl, rfl, by decide, fun t ht => (nomatch ht)⟩, ?_, ?_, ?_⟩
  · rintro i acc m ⟨ts, rfl, h1, h2, h3⟩
    refine ⟨?_, fun _ => trivial⟩
    rw [List.length_map]
    exact Nat.lt_of_le_of_lt (m := 8) (by omega) (by decide)
  · rintro i d acc m p hi ⟨ts, rfl, rfl, h2, h3⟩
    obtain ⟨hj, rfl⟩ := rngD_get hi
    rw [Int.toNat_natCast] at hj
    walk_at "d"
    refine ⟨ns, 1 + ts.length, ?_, rfl, by omega, hn, fun b y hy => ?_⟩
    · rw [Int.natCast_add, Int.zero_add]
      rfl
    walk_at "d"
    refine ⟨b, y, os, ts.length, ?_, rfl, hy, by omega, by omega, hpm.nd, fun t y' ht hy' => ?_⟩
    · rw [Int.zero_add]
    refine ⟨(b, y') :: m, rfl, ts ++ [t], ?_, ?_, by omega, fun t' ht' => ?_⟩
    · rw [List.map_append]
      rfl
    · rw [List.length_append]
      rfl
    · rcases List.mem_append.mp ht' with q | q
      · exact h3 t' q
      · obtain rfl : t' = t := by simpa using q
        exact ht
  · rintro acc m ⟨ts, rfl, h1, h2, h3⟩
    rw [rngD_len, Int.toNat_natCast] at h1
    have e0 : (os.map D.str)[0]? = some (.str os[0]) := strs_at (by omega)
    have e9 : atI (os.map D.str) (-1) = some (.str os[os.length - 1]) := by
      have hne : os ≠ [] := fun q => by rw [q] at hol; simp at hol; omega
      have e : os = os.dropLast ++ [os[os.length - 1]] := by
        rw [← List.getLast_eq_getElem hne]
        exact (List.dropLast_concat_getLast hne).symm
      conv => lhs; rw [e]
      rw [List.map_append]
      exact atI_last _ _
    rw [show ((0 : Int)) = ((0 : Nat) : Int) from rfl, atN e0]
    walk_at "d"
    rw [e9]
    walk_at "d"
    refine ⟨s4, h ⟨ps, ts, os[0], os[os.length - 1]⟩ ⟨hp2, hp7, hnd, hnm, by show ts.length ≤ 14; omega, fun t ht => ?_, hpm.sub _ (List.getElem_mem _), hpm.sub _ (List.getElem_mem _), fun q => ?_⟩ (by show ts.length ≤ 8; omega)⟩
    · have := h3 t ht
      exact ⟨hpm.sub _ this.one, hpm.sub _ this.other, this.ne, this.len, this.sz, this.worth⟩
    · have q := (List.getElem_inj hpm.nd).mp q
      omega
end FC
/-! THE MATHEMATICS, 8: ways found by going. -/
namespace FC
open PySem PySem.Spec L2
/-- a way from a place on, past the places seen -/
def goodW (w : Web) : List Str → Str → List Nat → Prop
  | _, p, [] => p = w.last
  | seen, p, k :: r => p ≠ w.last ∧ ∃ t p', w.ties[k]? = some t ∧ behT t p = some p' ∧ p' ∉ seen ∧ goodW w (seen ++ [p']) p' r
theorem goodW_gone (w : Web) : ∀ (ks : List Nat) (ps : List Str) (p : Str), goodW w (ps ++ [p]) p ks → (goneP w ps p (ks.map fun k => .int (k : Nat))).1.length = ps.length + ks.length ∧ (goneP w ps p (ks.map fun k => .int (k : Nat))).2 = w.last
  | [], ps, p, h => ⟨rfl, h⟩
  | k :: r, ps, p, h => by
    obtain ⟨h1, t, p', ht, hb, hn, h2⟩ := h
    have hk : k < w.ties.length := (List.getElem?_eq_some_iff.mp ht).1
    have e : stepD w ps p (.int (k : Nat)) = some p' := by
      show (if p = w.last then none else if 0 ≤ (k : Int) ∧ (k : Int) < (w.ties.length : Int) then match w.ties[(k : Int).toNat]? with | some t => (match behT t p with | some p' => if p' ∈ ps ++ [p] then none else some p' | none => none) | none => none else none) = _
      rw [if_neg h1, if_pos (by omega), Int.toNat_natCast, ht]
      show (match behT t p with | some p' => if p' ∈ ps ++ [p] then none else some p' | none => none) = _
      rw [hb]
      show (if p' ∈ ps ++ [p] then none else some p') = _
      rw [if_neg hn]
    rw [List.map_cons, goneP_cons, e]
    obtain ⟨i1, i2⟩ := goodW_gone w r (ps ++ [p]) p' h2
    refine ⟨?_, i2⟩
    show (goneP w (ps ++ [p]) p' _).1.length = _
    rw [i1, List.length_append, List.length_singleton, List.length_cons]
    omega
theorem goodW_isWay {w : Web} {ks : List Nat} (h : goodW w [w.first] w.first ks) : isWayD w (tk ks) = true := by
  obtain ⟨h1, h2⟩ := goodW_gone w ks [] w.first h
  show decide _ = true
  refine decide_eq_true ⟨?_, h2⟩
  rw [h1, List.length_map]
  simp
theorem goodW_walk (w : Web) : ∀ (ks : List Nat) (seen : List Str) (p : Str), goodW w seen p ks → walkTo w p ks = some w.last
  | [], _, p, h => by
    show some p = _
    rw [show p = w.last from h]
  | k :: r, seen, p, h => by
    obtain ⟨h1, t, p', ht, hb, hn, h2⟩ := h
    show (match w.ties[k]? with | some t => (match behT t p with | some p' => walkTo w p' r | none => none) | none => none) = _
    rw [ht]
    show (match behT t p with | some p' => walkTo w p' r | none => none) = _
    rw [hb]
    exact goodW_walk w r _ p' h2
theorem goodW_len {w : Web} (hw : WebOk w) : ∀ (ks : List Nat) (seen : List Str) (p : Str), seen.Nodup → (∀ z ∈ seen, z ∈ w.places) → goodW w seen p ks → seen.length + ks.length ≤ w.places.length
  | [], seen, p, h1, h2, _ => pigeon h1 h2
  | k :: r, seen, p, h1, h2, h => by
    obtain ⟨_, t, p', ht, hb, hn, hg⟩ := h
    have := goodW_len hw r (seen ++ [p']) p' (List.nodup_append.mpr ⟨h1, by simp, fun u hu v hv q => by
      obtain rfl : v = p' := by simpa using hv
      exact hn (q ▸ hu)⟩) (fun z hz => by
      rcases List.mem_append.mp hz with q | q
      · exact h2 z q
      · obtain rfl : z = p' := by simpa using q
        exact behT_in (hw.tie t (List.mem_of_getElem? ht)) hb) hg
    rw [List.length_append, List.length_singleton] at this
    rw [List.length_cons]
    omega
theorem least_of {P : Nat → Prop} : ∀ n, P n → ∃ k, P k ∧ ∀ j, P j → k ≤ j := by
  intro n
  induction n using Nat.strongRecOn with
  | _ n ih =>
    intro h
    by_cases hq : ∃ m, m < n ∧ P m
    · obtain ⟨m, h1, h2⟩ := hq
      exact ih m h1 h2
    · exact ⟨n, h, fun j hj => Nat.le_of_not_lt fun hlt => hq ⟨j, hlt, hj⟩⟩
theorem walk_good (w : Web) : ∀ (ks : List Nat) (seen : List Str) (p : Str), p ∈ seen → walkTo w p ks = some w.last → (∀ z ∈ seen, ∀ ks', walkTo w z ks' = some w.last → ks.length ≤ ks'.length) → ∃ ks, goodW w seen p ks
  | [], seen, p, _, h, _ => ⟨[], Option.some.inj h⟩
  | k :: r, seen, p, hp, h, hm => by
    have hpl : p ≠ w.last := fun e => by
      have := hm p hp [] (by rw [e]; rfl)
      simp at this
    have h : (match w.ties[k]? with | some t => (match behT t p with | some p' => walkTo w p' r | none => none) | none => none) = some w.last := h
    cases ht : w.ties[k]? with
    | none => rw [ht] at h; cases h
    | some t =>
      rw [ht] at h
      have h : (match behT t p with | some p' => walkTo w p' r | none => none) = some w.last := h
      cases hb : behT t p with
      | none => rw [hb] at h; cases h
      | some p' =>
        rw [hb] at h
        have h : walkTo w p' r = some w.last := h
        have hn : p' ∉ seen := fun q => by
          have := hm p' q r h
          rw [List.length_cons] at this
          omega
        obtain ⟨ks, hg⟩ := walk_good w r (seen ++ [p']) p' (by simp) h fun z hz ks' hk' => by
          rcases List.mem_append.mp hz with q | q
          · have := hm z q ks' hk'
            rw [List.length_cons] at this
            omega
          · obtain rfl : z = p' := by simpa using q
            have := hm p hp (k :: ks') (by
              show (match w.ties[k]? with | some t => (match behT t p with | some p' => walkTo w p' ks' | none => none) | none => none) = _
              rw [ht]
              show (match behT t p with | some p' => walkTo w p' ks' | none => none) = _
              rw [hb]
              exact hk')
            rw [List.length_cons, List.length_cons] at this
            omega
        exact ⟨k :: ks, hpl, t, p', ht, hb, hn, hg⟩
theorem reach_good (w : Web) : Reach w w.last ↔ ∃ ks, goodW w [w.first] w.first ks := by
  constructor
  · rintro ⟨ks, h⟩
    obtain ⟨n, ⟨ks', h1, h2⟩, h3⟩ := least_of (P := fun n => ∃ ks, ks.length = n ∧ walkTo w w.first ks = some w.last) ks.length ⟨ks, rfl, h⟩
    refine walk_good w ks' [w.first] w.first (by simp) h2 fun z hz ks2 hk2 => ?_
    obtain rfl : z = w.first := by simpa using hz
    rw [h1]
    exact h3 _ ⟨ks2, rfl, hk2⟩
  · rintro ⟨ks, h⟩
    exact ⟨ks, goodW_walk w ks _ _ h⟩
/-- the next steps -/
def stepO (w : Web) (here : Str) (seen : List Str) (k : Nat) : Option (Nat × Str) := match w.ties[k]? with
  | some t => match behT t here with
    | some p => if p ∈ seen then none else some (k, p)
    | none => none
  | none => none
def stepsL (w : Web) (here : Str) (seen : List Str) : List (Nat × Str) := (List.range w.ties.length).filterMap (stepO w here seen)
theorem stepO_eq {w : Web} {here : Str} {seen : List Str} {k : Nat} {x : Nat × Str} : stepO w here seen k = some x ↔ ∃ t, w.ties[k]? = some t ∧ behT t here = some x.2 ∧ x.2 ∉ seen ∧ x.1 = k := by
  unfold stepO
  cases ht : w.ties[k]? with
  | none => simp
  | some t =>
    cases hb : behT t here with
    | none => simp [hb]
    | some p =>
      obtain ⟨x1, x2⟩ := x
      by_cases hp : p ∈ seen
      · simp [hb, hp]
        rintro rfl
        exact absurd hp
      · simp [hb, hp]
        constructor
        · rintro ⟨rfl, rfl⟩
          exact ⟨rfl, hp, rfl⟩
        · rintro ⟨rfl, _, rfl⟩
          exact ⟨rfl, rfl⟩
theorem mem_steps {w : Web} {here : Str} {seen : List Str} {x : Nat × Str} : x ∈ stepsL w here seen ↔ ∃ t, w.ties[x.1]? = some t ∧ behT t here = some x.2 ∧ x.2 ∉ seen := by
  unfold stepsL
  rw [List.mem_filterMap]
  constructor
  · rintro ⟨k, _, h⟩
    obtain ⟨t, h1, h2, h3, h4⟩ := stepO_eq.mp h
    exact ⟨t, by rw [h4]; exact h1, h2, h3⟩
  · rintro ⟨t, h1, h2, h3⟩
    exact ⟨x.1, List.mem_range.mpr (List.getElem?_eq_some_iff.mp h1).1, stepO_eq.mpr ⟨t, h1, h2, h3, rfl⟩⟩
theorem mk_lt (q : Rat) (t : Int) (b : Nat) (hb : 0 < b) : mkRat t b < q ↔ t * (q.den : Int) < q.num * (b : Int) := by
  have h0 : 0 < Int.gcd t b := Nat.gcd_pos_of_pos_right _ hb
  rw [Rat.lt_iff, mk_num t b hb, mk_den t b hb]
  obtain ⟨t', ht⟩ := Int.gcd_dvd_left (a := t) (b := (b : Int))
  obtain ⟨b', hb'⟩ := Int.gcd_dvd_right (a := t) (b := (b : Int))
  generalize Int.gcd t b = g at h0 ht hb'
  have hg : (g : Int) ≠ 0 := by omega
  have e1 : t / (g : Int) = t' := by rw [ht, Int.mul_ediv_cancel_left _ hg]
  have e2 : (b : Int) / (g : Int) = b' := by rw [hb', Int.mul_ediv_cancel_left _ hg]
  rw [e1, e2, hb', ht]
  have e3 : q.num * ((g : Int) * b') = (g : Int) * (q.num * b') := by rw [← Int.mul_assoc, ← Int.mul_assoc, Int.mul_comm q.num]
  rw [e3, Int.mul_assoc]
  exact (Int.mul_lt_mul_left (by omega)).symm
end FC
/-! THE WALK, 14: purses, worths, adds. -/
namespace FC
open PySem PySem.Spec L2
local macro_rules | `(tactic| walk_at "d") => `(tactic| try simp only [dVar, dC, dOp, dUn, dAdd, dSub, dMul, dMod, dDiv, dPow, dNeg, dCmp, dEq, dNe, dEqv, dIsN, dNotN, isNon, dIn, inD, dInM, dIx, ixDs, dIxM, dChain, dB, asB, dAnd, dOr, dNot, dAndV, dOrV, dNotV, dIf, dNil, dCons, dTup, dLst, dLstM, dDic0, dDicM, dDisp1,
  dCB, dLen, dLenM, dAbs, dMax2, dMin2, dInt, dBool, dStr, dList, dListN, dListM, dTuple, dSorted, dDicC, dIsi, tyD_non, tyD_bl, tyD_int, tyD_str, tyD_lst, tyD_tup, tyD_dic, dNoPart, asI, dPart, dSl, dRev, dApp, dPopI, dRem, dEqNil, dEqNilM, dGet, dDGetM, dDGet, dDInM, dDInA, dDPopM, dEqD0, dEqDM, dJoin, dNext, dSeq, dDrop, dRet, dIfS, dNever, dgName, dgNil, dgCons, dgTup, dAsg, dSubM, dDPutM, dPar, dAug, dFrz, frzD, dFgt,
  diLst, diTup, diLstM, diRng1, diRng2, diStr, diEnum, diZip, dYes, dCall, endsD, startD, wipeD, dom,
  isTy_0_0, isTy_0_1, isTy_0_2, isTy_0_3, isTy_0_4, isTy_1_0, isTy_1_1, isTy_1_2, isTy_1_3, isTy_1_4, isTy_2_0, isTy_2_1, isTy_2_2, isTy_2_3, isTy_2_4, isTy_3_0, isTy_3_1, isTy_3_2, isTy_3_3, isTy_3_4, isTy_4_0, isTy_4_1, isTy_4_2, isTy_4_3, isTy_4_4, isTy_5_0, isTy_5_1, isTy_5_2, isTy_5_3, isTy_5_4, isTy_6_0, isTy_6_1, isTy_6_2, isTy_6_3, isTy_6_4,
  Int.cast_ofNat_Int, decide_true, decide_false, Int.reduceEq, Int.reduceLT, Int.reduceLE, atI_0, atI_1, atI_2, atI_3, atI_4, List.length_map, List.map_cons, List.map_nil, List.length_cons, List.length_nil, Nat.reduceAdd, Nat.reduceSub, List.reduceReplicate, List.cons_append, List.nil_append, List.append_nil, List.getElem?_cons_zero, List.getElem?_cons_succ, List.getElem?_nil, List.set_cons_zero, List.set_cons_succ, List.take_zero, List.drop_zero, List.take_succ_cons, List.drop_succ_cons,
  List.eraseIdx_cons_zero, List.eraseIdx_cons_succ, true_and, and_true, eq_self, and_self, if_true, if_false, Bool.false_eq_true, reduceIte, Bool.not_true, Bool.not_false, forall_const, exists_eq_left, exists_eq_left', exists_eq_right, exists_eq_right', exists_and_left, exists_const, D.adr.injEq, D.str.injEq, D.int.injEq, D.lst.injEq, D.tup.injEq, D.bl.injEq, Option.some.injEq, Prod.mk.injEq, MO.l.injEq, MO.d.injEq, List.cons.injEq, Function.const_apply, dLock, lckE, dDGetK, dFld, dSetF, dMeth, dMake, dRaise, diKeys, dGet, dAddM, List.not_mem_nil, false_implies, implies_true, List.mem_singleton, forall_eq, Option.isSome_none, Option.isSome_some, lcRes, exists_eq, exists_eq', List.length_append, List.length_singleton])

abbrev S_l_cheapest : Spc := fun ds m F X => ∃ (w : Web), ds = [webD w] ∧ m = [] ∧ WebOk w ∧ F (.lst ((selq (freeW w)).map fD)) []
def J_ch (w : Web) (n : Nat) (r : Rho) (m : Mu) : Prop := ∃ (a b : Addr) (o1 o2 o3 : Option D) (l g : List Rat), r = [some (webD w), o1, some (.adr a), some (.adr b), o2, o3] ∧ m = [(a, .l (l.map fD)), (b, .l (g.map fD))] ∧ n = l.length ∧ l.length + g.length ≤ 14 ∧ (∀ q ∈ l, 0 < q ∧ Sz 1 q) ∧ g ++ selq l = selq (freeW w)
def J_chl (w : Web) (a b : Addr) (l g : List Rat) (i : Nat) (r : Rho) (m : Mu) : Prop := ∃ (o1 o3 : Option D) (q : Rat), r = [some (webD w), o1, some (.adr a), some (.adr b), some (fD q), o3] ∧ m = [(a, .l (l.map fD)), (b, .l (g.map fD))] ∧ Sz 1 q ∧ minQ q (l.drop i) = minL l
theorem sc_l_cheapest : FnScope ["_law_web_here", "_law_tie_here", "_law_left", "_law_found", "_law_least", "_law_worth_here"] ["_law_web_here"] (defScope s_l_cheapest) := ⟨rfl, rfl, rfl, by decide +kernel, rfl, by decide +kernel, by decide +kernel⟩
theorem ok_l_cheapest {P : Program} {w : World} {K : PySem.W.Frag} {mg : Str → Option Value} {base : Heap} (T : Tx K mg) (G_l_under : Fo P w K mg base CX0 1 "_law_under" ["_law_one", "_law_other"] (spD K (NC K) 2 S_l_under)) : Fo P w K mg base CX0 2 "_law_cheapest" ["_law_web_here"] (spD K (NC K) 1 S_l_cheapest) := by
  refine Fo.mk_ T 58 50 rfl rfl rfl rfl rfl (fun _ _ _ _ _ _ us hl => match us, hl with | [_], _ => rfl) fun f fd F => ok_pure 0 F sc_l_cheapest rfl fun cdv A outer s H E I m ds Fv X hr h => ?_
  refine ⟨_, _, (pss_cons (as_lcM [1] (ps_setLc (i := 2) (own := [("_law_tie_here", 1)]) rfl sc_l_cheapest.nd rfl rfl (sw_true rfl rfl rfl (by decide +kernel)) (pi_list (pe_ix (o_ixK K) (pv 0) pe_int (fun _ _ => rfl))) (blkOk_by (own := [("_law_tie_here", 1)]) (N := ["_law_web_here", "_law_tie_here", "_law_left", "_law_found", "_law_least", "_law_worth_here"]) (sc := defScope s_l_cheapest) (by decide +kernel)) (fun _ _ _ _ _ => (pg_name (i := 1) sc_l_cheapest.nd rfl (.inl rfl))) (fun _ _ _ _ _ => pts_one (pt_cmpR o_isnot (pe_ix (o_ixK K) (pv 1) pe_int (fun _ _ => rfl)) pe_non (nomark _))) (fun _ _ _ _ _ => (pe_ix (o_ixK K) (pv 1) pe_int (fun _ _ => rfl)))))
    (pss_cons (ps_set (i := 3) sc_l_cheapest.nd rfl (.inl rfl) (pe_lstM pa_nil))
    (pss_cons (ps_while PassesOwn.never (pt_cmpR (o_neNilM 0 hr.units0) (pv 2) (pe_lst pa_nil) (nomark _))
    (pss_cons (ps_set (i := 4) sc_l_cheapest.nd rfl (.inl rfl) (pe_ix (o_ixM 0) (pv 2) pe_int (fun _ _ => rfl)))
    (pss_cons (ps_for PassesOwn.never rfl (pi_listM 0 (pv 2)) (pg_name (i := 5) sc_l_cheapest.nd rfl (.inl rfl))
    (pss_one (ps_if (pt_val (pe_ownK K 0 G_l_under (hr.mono (by decide)) pass0 (pa_cons (pv 5) (pa_cons (pv 4) pa_nil)))) (pss_one (ps_set (i := 4) sc_l_cheapest.nd rfl (.inl rfl) (pv 5))) pss_nil)))
    (pss_cons (ps_expr (as_rem 0 (pe_bm PySem.F.plainAttrs_list PySem.F.slot_list_remove PySem.F.type_list_remove (mt_remD hr.units) (pv 2) (pa_cons (pv 4) pa_nil))))
    (pss_one (ps_expr (as_app 1 (pe_bm PySem.F.plainAttrs_list PySem.F.slot_list_append PySem.F.type_list_append mt_append (pv 3) (pa_cons (pv 4) pa_nil)))))))))
    (pss_frz 3 1 (pss_one (ps_ret (pv 3))))))), (by (try dsimp only [cxOf]); infer_instance), ?_⟩
  obtain ⟨w', rfl, rfl, hw, h⟩ := h
  walk_at "d"
  refine lc_opt (w'.ties.map tieD) (w'.ties.map fun t => t.worth.map fD) anyMu (fun G h => ?_) (fun _ => trivial) (by rw [List.length_map, List.length_map]) (by rw [List.length_map]; have := hw.tl; omega) ?_ ?_
  · walk_at "d"
    exact h
  · intro i d o acc p G E h1 h2 h3 h4
    rw [List.getElem?_map] at h1 h2
    cases e : w'.ties[i]? with
    | none => rw [e] at h1; cases h1
    | some t =>
      rw [e] at h1 h2
      cases h1
      cases h2
      walk_at "d"
      cases hwt : t.worth with
      | none =>
        rw [worthD_none]
        walk_at "d"
        exact h4 (by show t.worth.map fD = _; rw [hwt]; rfl)
      | some q =>
        rw [worthD_some]
        walk_at "d"
        exact h3 _ (by show t.worth.map fD = _; rw [hwt]; rfl)
  · walk_at "d"
    have ef : (w'.ties.map fun t => t.worth.map fD).filterMap id = (freeW w').map fD := by
      unfold freeW
      rw [List.filterMap_map, List.map_filterMap]
      rfl
    rw [ef]
    intro a
    refine ⟨Nat.zero_le _, fun b => ⟨fun n r m => J_ch w' n r m, ⟨(freeW w').length, a, b, _, _, _, freeW w', [], rfl, rfl, rfl, freeW_len hw, fun q hq => freeW_sz hw hq, rfl⟩, ?_⟩⟩
    rintro n r m' ⟨a, b, o1, o2, o3, l, g, rfl, rfl, rfl, hlk, hl, hc⟩
    walk_at "d"
    refine ⟨Nat.zero_le _, ?_⟩
    cases l with
    | nil =>
      walk_at "d"
      rw [← hc] at h
      have e : g ++ selq [] = g := List.append_nil g
      rw [e] at h
      exact h
    | cons q0 rest =>
      walk_at "d"
      have hl0 := hl q0 List.mem_cons_self
      rw [if_pos (by rfl)]
      refine ⟨a, _, rfl, rfl, fun i r m => J_chl w' a b (q0 :: rest) g i r m, ⟨o1, o3, q0, rfl, rfl, hl0.2, rfl⟩, fun i r m ⟨_, _, _, _, h2, _⟩ => by rw [h2]; rfl, ?_, ?_⟩
      · rintro i d r m' hi ⟨o1, o3, q, rfl, rfl, hq, hm⟩
        have hi : ((q0 :: rest).map fD)[i]? = some d := hi
        rw [List.getElem?_map] at hi
        cases e : (q0 :: rest)[i]? with
        | none => rw [e] at hi; cases hi
        | some y =>
          rw [e] at hi
          cases hi
          obtain ⟨hlt, ey⟩ := List.getElem?_eq_some_iff.mp e
          have hy := (hl y (List.mem_of_getElem? e)).2
          rw [List.drop_eq_getElem_cons hlt, ey] at hm
          walk_at "d"
          refine ⟨y, q.num, q.den, rfl, q.den_pos, ?_, ?_, ?_, ?_, ?_⟩
          · exact Nat.lt_trans hy.1 (Nat.pow_lt_pow_right (by decide) (by decide))
          · exact Nat.lt_trans hq.1 (Nat.pow_lt_pow_right (by decide) (by decide))
          · exact Nat.lt_trans hy.2 (Nat.pow_lt_pow_right (by decide) (by decide))
          · exact Nat.lt_trans hq.2 (Nat.pow_lt_pow_right (by decide) (by decide))
          rw [Rat.mkRat_self]
          walk_at "d"
          split
          · rename_i hc
            refine ⟨_, _, y, rfl, rfl, hy, ?_⟩
            rw [← hm]
            show _ = minQ (if y < q then y else q) _
            rw [if_pos (of_decide_eq_true hc)]
          · rename_i hc
            refine ⟨_, _, q, rfl, rfl, hq, ?_⟩
            rw [← hm]
            show _ = minQ (if y < q then y else q) _
            rw [if_neg (of_decide_eq_false (Bool.eq_false_iff.mpr hc))]
      · rintro r m' ⟨o1, o3, q, rfl, rfl, hq, hm⟩
        have e0 : (q0 :: rest).drop ((fD q0 :: rest.map fD).length) = [] := List.drop_eq_nil_of_le (by simp)
        rw [e0] at hm
        have hm : q = minL (q0 :: rest) := hm
        have hin : q ∈ q0 :: rest := hm ▸ minL_mem (by simp)
        walk_at "d"
        have er : ((fD q0 :: rest.map fD).eraseIdx ((q0 :: rest).idxOf q)) = ((q0 :: rest).erase q).map fD := by
          rw [← List.map_cons, eraseIdx_mapD, List.erase_eq_eraseIdx_of_idxOf rfl]
        have hln : ((q0 :: rest).erase q).length = rest.length := by rw [List.length_erase_of_mem hin]; rfl
        rw [List.length_cons] at hlk
        refine ⟨_, toPys_fD (q0 :: rest), _, rfl, plain_fPy (q0 :: rest), rfl, Nat.le_of_ble_eq_true rfl, _, place_fPy _ _ hin, ?_⟩
        rw [er]
        refine ⟨Nat.lt_of_le_of_lt (m := 14) (by omega) (by decide), rest.length, by omega, a, b, o1, _, _, (q0 :: rest).erase q, g ++ [q], rfl, ?_, hln.symm, ?_, fun x hx => hl x (List.mem_of_mem_erase hx), ?_⟩
        · rw [List.map_append]
          rfl
        · rw [List.length_append, hln]
          show rest.length + (g.length + 1) ≤ 14
          omega
        · rw [List.append_assoc, ← hc, selq_step (by simp : q0 :: rest ≠ []), ← hm]
          rfl
abbrev S_l_purse : Spc := fun ds m F X => ∃ (a : Addr) (y : MO) (w : Web), ds = [.adr a, webD w, .int 3] ∧ m = [(a, y)] ∧ StOk y ∧ WebOk w ∧ ∀ (p : Rat) y', 0 ≤ p → Sz 20 p → cnt (selq (freeW w)) 0 p ≤ 3 → StOk y' → F (fD p) [(a, y')]
def J_pu (a : Addr) (w : Web) (k : Nat) (c : List Rat) (i : Nat) (r : Rho) (m : Mu) : Prop := ∃ (y : MO) (p : Rat) (o : Option D), r = [some (.adr a), some (webD w), some (.int 3), some (.lst (c.map fD)), some (.int (k : Nat)), some (fD p), o, none] ∧ m = [(a, y)] ∧ StOk y ∧ Sz (1 + i) p ∧ 0 ≤ p ∧ sumF p ((c.take k).drop i) = sumF 0 (c.take k)
def J_pv (a : Addr) (w : Web) (k part : Nat) (c : List Rat) (i : Nat) (r : Rho) (m : Mu) : Prop := ∃ (y : MO) (p : Rat) (o : Option D), r = [some (.adr a), some (webD w), some (.int 3), some (.lst (c.map fD)), some (.int (k : Nat)), some (fD p), o, some (.int (part : Nat))] ∧ m = [(a, y)] ∧ StOk y ∧ Sz (4 + 2 * i) p ∧ 0 ≤ p ∧ (i = 0 → p = sumF 0 (c.take k)) ∧ (1 ≤ i → ∀ q, c[k]? = some q → p < sumF 0 (c.take k) + q)
theorem cutD_one (ds : List D) (k : Nat) (hk : k ≤ ds.length) : cutD ds (some (k : Int)) (some ((k : Int) + 1)) = (ds.drop k).take 1 := by
  unfold cutD
  rw [show ((k : Int) + 1) = ((k + 1 : Nat) : Int) from rfl, HT.sIx_nat, HT.sIx_nat, Nat.min_eq_left hk]
  by_cases h : k + 1 ≤ ds.length
  · rw [Nat.min_eq_left h]
    congr 1
    omega
  · have e : k = ds.length := by omega
    rw [e, List.drop_length]
    simp
theorem sc_l_purse : FnScope ["_law_state", "_law_web_here", "_law_most", "_law_worths", "_law_many", "_law_purse_here", "_law_worth_here", "_law_part"] ["_law_state", "_law_web_here", "_law_most"] (defScope s_l_purse) := ⟨rfl, rfl, rfl, by decide +kernel, rfl, by decide +kernel, by decide +kernel⟩
theorem ok_l_purse {P : Program} {w : World} {K : PySem.W.Frag} {mg : Str → Option Value} {base : Heap} (T : Tx K mg) (G_l_cheapest : Fo P w K mg base CX0 2 "_law_cheapest" ["_law_web_here"] (spD K (NC K) 1 S_l_cheapest)) (G_l_take : Fo P w K mg base CX0 1 "_law_take" ["_law_state", "_law_many"] (spD K (NC K) 2 S_l_take)) (G_l_plus : Fo P w K mg base CX0 2 "_law_plus" ["_law_one", "_law_other"] (spD K (NC K) 2 S_l_plus)) (G_l_low : Fo P w K mg base CX0 1 "_law_low" ["_law_top", "_law_bottom"] (spD K (NC K) 2 S_l_low)) : Fo P w K mg base CX0 3 "_law_purse" ["_law_state", "_law_web_here", "_law_most"] (spD K (NC K) 3 S_l_purse) := by
  refine Fo.mk_ T 59 51 rfl rfl rfl rfl rfl (fun _ _ _ _ _ _ us hl => match us, hl with | [_, _, _], _ => rfl) fun f fd F => ok_pure 1 F sc_l_purse rfl fun cdv A outer s H E I m ds Fv X hr h => ?_
  refine ⟨_, _, (pss_cons (ps_set (i := 3) sc_l_purse.nd rfl (.inl rfl) (pe_ownK K 0 G_l_cheapest (hr.mono (by decide)) pass0 (pa_cons (pv 1) pa_nil)))
    (pss_cons (ps_set (i := 4) sc_l_purse.nd rfl (.inl rfl) (pe_bi (c_min2 rfl) (T.b 88 rfl) bb_min (pa_cons (pe_ownK K 1 G_l_take (hr.mono (by decide)) pass0 (pa_cons (pv 0) (pa_cons (pe_op o_add (pv 2) pe_int) pa_nil))) (pa_cons (pe_bi c_len (T.b 85 rfl) bb_len (pa_cons (pv 3) pa_nil)) pa_nil))))
    (pss_cons (ps_set (i := 5) sc_l_purse.nd rfl (.inl rfl) (pe_tup (pa_cons pe_int (pa_cons pe_int pa_nil))))
    (pss_cons (ps_for PassesOwn.never rfl (pi_list (pe_slice (sl_anyK K) (pv 3) po_none (po_some (pv 4)))) (pg_name (i := 6) sc_l_purse.nd rfl (.inl rfl))
    (pss_one (ps_set (i := 5) sc_l_purse.nd rfl (.inl rfl) (pe_ownK K 0 G_l_plus (hr.mono (by decide)) pass0 (pa_cons (pv 5) (pa_cons (pv 6) pa_nil))))))
    (pss_cons (ps_set (i := 7) sc_l_purse.nd rfl (.inl rfl) (pe_ownK K 1 G_l_take (hr.mono (by decide)) pass0 (pa_cons (pv 0) (pa_cons pe_int pa_nil))))
    (pss_cons (ps_for PassesOwn.never rfl (pi_list (pe_slice (sl_anyK K) (pv 3) (po_some (pv 4)) (po_some (pe_op o_add (pv 4) pe_int)))) (pg_name (i := 6) sc_l_purse.nd rfl (.inl rfl))
    (pss_one (ps_set (i := 5) sc_l_purse.nd rfl (.inl rfl) (pe_ownK K 0 G_l_plus (hr.mono (by decide)) pass0 (pa_cons (pv 5) (pa_cons (pe_ownK K 0 G_l_low (hr.mono (by decide)) pass0 (pa_cons (pe_op o_mul (pe_ix (o_ixK K) (pv 6) pe_int (fun _ _ => rfl)) (pv 7)) (pa_cons (pe_op o_mul (pe_ix (o_ixK K) (pv 6) pe_int (fun _ _ => rfl)) pe_int) pa_nil))) pa_nil))))))
    (pss_one (ps_ret (pv 5))))))))), (by (try dsimp only [cxOf]); infer_instance), ?_⟩
  obtain ⟨a, y, w', rfl, rfl, hy, hw, h⟩ := h
  walk_at "d"
  refine ⟨w', rfl, rfl, hw, ?_⟩
  walk_at "d"
  refine ⟨a, y, 4, rfl, rfl, hy, by decide, by decide, fun r y1 h0 h1 hy1 => ?_⟩
  obtain ⟨many0, rfl, hi⟩ := nat_of h0 h1
  have hi : many0 < 4 := hi
  walk_at "d"
  obtain ⟨k, hk, hk3, hkl⟩ : ∃ k : Nat, min ((many0 : Nat) : Int) (((selq (freeW w')).length : Nat) : Int) = ((k : Nat) : Int) ∧ k ≤ 3 ∧ k ≤ (selq (freeW w')).length := ⟨min many0 (selq (freeW w')).length, by omega, by omega, by omega⟩
  rw [hk]
  have hcm : ∀ q ∈ selq (freeW w'), 0 < q ∧ Sz 1 q := fun q hq => freeW_sz hw (selF_mem _ _ rfl q hq)
  refine ⟨sl100 (by decide), ?_⟩
  unfold dFor
  walk_at "d"
  rw [cutD_hi _ _ (by rw [List.length_map]; exact hkl), ← List.map_take]
  refine ⟨fun i r m => J_pu a w' k (selq (freeW w')) i r m, ⟨y1, 0, none, rfl, rfl, hy1, sz0, by decide, rfl⟩, fun _ _ _ _ => trivial, ?_, ?_⟩
  · rintro i d r m hi ⟨y, p, o, rfl, rfl, hy, hp, hp0, hs⟩
    rw [List.getElem?_map] at hi
    cases e : ((selq (freeW w')).take k)[i]? with
    | none => rw [e] at hi; cases hi
    | some q =>
      rw [e] at hi
      cases hi
      obtain ⟨hlt, eq⟩ := List.getElem?_eq_some_iff.mp e
      have hq := hcm q (List.mem_of_mem_take (List.mem_of_getElem? e))
      have hi3 : i < 3 := by
        rw [List.length_take] at hlt
        omega
      walk_at "d"
      refine ⟨p, q, 1 + i, 1, rfl, hp, hq.2, by omega, by decide, by omega, y, p + q, _, rfl, rfl, hy, (hp.add hq.2 (by omega) (by decide)).mono (by omega), Rat.add_nonneg hp0 (Rat.le_of_lt hq.1), ?_⟩
      rw [← hs, List.drop_eq_getElem_cons hlt, eq]
      rfl
  · rintro r m ⟨y, p, o, rfl, rfl, hy, hp, hp0, hs⟩
    have hlk : ((selq (freeW w')).take k).length = k := by rw [List.length_take]; omega
    rw [List.length_map, List.drop_length] at hs
    rw [List.length_map, hlk] at hp
    have hs : p = sumF 0 ((selq (freeW w')).take k) := hs
    walk_at "d"
    refine ⟨a, y, 4, rfl, rfl, hy, by decide, by decide, fun r y2 h0 h1 hy2 => ?_⟩
    obtain ⟨part, rfl, hpt⟩ := nat_of h0 h1
    have hpt : part < 4 := hpt
    walk_at "d"
    rw [cutD_one _ _ (by rw [List.length_map]; exact hkl), ← List.map_drop, ← List.map_take]
    refine ⟨fun i r m => J_pv a w' k part (selq (freeW w')) i r m, ⟨y2, p, o, rfl, rfl, hy2, hp.mono (by omega), hp0, fun _ => hs, fun h => absurd h (Nat.not_succ_le_zero _)⟩, fun _ _ _ _ => trivial, ?_, ?_⟩
    · rintro i d r m hi ⟨y, p, o, rfl, rfl, hy, hp, hp0, hs0, hs1⟩
      rw [List.getElem?_map] at hi
      cases e : (((selq (freeW w')).drop k).take 1)[i]? with
      | none => rw [e] at hi; cases hi
      | some q =>
        rw [e] at hi
        cases hi
        obtain ⟨hlt, eq⟩ := List.getElem?_eq_some_iff.mp e
        have hi0 : i = 0 := by
          rw [List.length_take] at hlt
          omega
        subst hi0
        have hq := hcm q (List.mem_of_mem_drop (List.mem_of_mem_take (List.mem_of_getElem? e)))
        have hck : (selq (freeW w'))[k]? = some q := by
          rw [List.getElem?_take] at e
          simpa using e
        have hqn := num_pos hq.1
        have hb0 : 0 < q.den * 4 := Nat.mul_pos q.den_pos (by decide)
        have hqd := q.den_pos
        have hd8 : q.den < 256 := hq.2.2
        have hz : Sz 2 (mkRat (q.num * (part : Nat)) (q.den * 4)) := by
          constructor
          · rw [Rat.num_mkRat, if_neg (by omega)]
            refine Nat.lt_of_le_of_lt (Int.natAbs_ediv_le_natAbs _ _) ?_
            rw [Int.natAbs_mul, Int.natAbs_natCast]
            refine Nat.lt_of_le_of_lt (Nat.mul_le_mul_left _ (by omega : part ≤ 3)) ?_
            have := hq.2.1
            omega
          · rw [Rat.den_mkRat, if_neg (by omega)]
            refine Nat.lt_of_le_of_lt (Nat.div_le_self _ _) ?_
            omega
        have hn0 : 0 ≤ mkRat (q.num * (part : Nat)) (q.den * 4) := Rat.num_nonneg.mp (by rw [mk_num _ _ hb0]; exact Int.ediv_nonneg (Int.mul_nonneg (by omega) (by omega)) (by omega))
        have hlq : mkRat (q.num * (part : Nat)) (q.den * 4) < q := by
          rw [mk_lt _ _ _ hb0, Int.mul_assoc]
          refine Int.mul_lt_mul_of_pos_left ?_ hqn
          rw [← Int.natCast_mul]
          refine Int.ofNat_lt.mpr ?_
          rw [Nat.mul_comm]
          exact Nat.mul_lt_mul_of_pos_left hpt hqd
        walk_at "d"
        refine ⟨mulW (a := 300) (b := 300) (Nat.lt_trans hq.2.1 (by decide)) (by rw [Int.natAbs_natCast]; omega) (by decide) (by decide) (by decide), mulW (a := 300) (b := 300) (by rw [Int.natAbs_natCast]; omega) (by decide) (by decide) (by decide) (by decide), ?_⟩
        refine ⟨_, q.den * 4, by rw [Int.natCast_mul]; rfl, hb0, Nat.lt_of_lt_of_le (m := 1024) (by omega) (by decide +kernel), ?_⟩
        have hs := hs0 rfl
        refine ⟨p, _, 4, 2, rfl, hp, hz, by decide, by decide, by decide, y, _, _, rfl, rfl, hy, ?_, Rat.add_nonneg hp0 hn0, fun z => (nomatch z), fun _ q' hq' => ?_⟩
        · exact hp.add hz (by decide) (by decide)
        · rw [hck] at hq'
          cases hq'
          rw [hs]
          exact Rat.add_lt_add_left.mpr hlq
    · rintro r m ⟨y, p, o, rfl, rfl, hy, hp, hp0, hs0, hs1⟩
      walk_at "d"
      have hli : (((selq (freeW w')).drop k).take 1).length ≤ 1 := List.length_take_le _ _
      rw [List.length_map] at hs0 hs1 hp
      refine h p y hp0 (hp.mono (by omega)) (Nat.le_trans (cnt_purse _ k 0 p fun q hq => ?_) hk3) hy
      rw [Rat.zero_add]
      refine hs1 ?_ q hq
      have : k < (selq (freeW w')).length := (List.getElem?_eq_some_iff.mp hq).1
      rw [List.length_take, List.length_drop]
      omega
abbrev S_l_worth : Spc := fun ds m F X => ∃ (w : Web) (ks : List Nat), ds = [webD w, tk ks] ∧ WebOk w ∧ (∀ k ∈ ks, Free w k) ∧ ks.length ≤ 60 ∧ F (fD (worthL w ks)) []
def J_wo (w : Web) (ks : List Nat) (i : Nat) (r : Rho) : Prop := ∃ (p : Rat) (o : Option D), r = [some (webD w), some (tk ks), some (fD p), o] ∧ Sz (1 + i) p ∧ sumF p ((ks.drop i).map (wtOf w)) = worthL w ks
theorem sc_l_worth : FnScope ["_law_web_here", "_law_taking", "_law_found", "_law_k"] ["_law_web_here", "_law_taking"] (defScope s_l_worth) := ⟨rfl, rfl, rfl, by decide +kernel, rfl, by decide +kernel, by decide +kernel⟩
theorem ok_l_worth {P : Program} {w : World} {K : PySem.W.Frag} {mg : Str → Option Value} {base : Heap} (T : Tx K mg) (G_l_plus : Fo P w K mg base CX0 2 "_law_plus" ["_law_one", "_law_other"] (spD K (NC K) 2 S_l_plus)) : Fo P w K mg base CX0 3 "_law_worth" ["_law_web_here", "_law_taking"] (spD K (NC K) 2 S_l_worth) := by
  refine Fo.mk_ T 60 52 rfl rfl rfl rfl rfl (fun _ _ _ _ _ _ us hl => match us, hl with | [_, _], _ => rfl) fun f fd F => ok_pure 0 F sc_l_worth rfl fun cdv A outer s H E I m ds Fv X hr h => ?_
  refine ⟨_, _, (pss_cons (ps_set (i := 2) sc_l_worth.nd rfl (.inl rfl) (pe_tup (pa_cons pe_int (pa_cons pe_int pa_nil))))
    (pss_cons (ps_for PassesOwn.never rfl (pi_list (pv 1)) (pg_name (i := 3) sc_l_worth.nd rfl (.inl rfl))
    (pss_one (ps_set (i := 2) sc_l_worth.nd rfl (.inl rfl) (pe_ownK K 0 G_l_plus (hr.mono (by decide)) pass0 (pa_cons (pv 2) (pa_cons (pe_ix (o_ixK K) (pe_ix (o_ixK K) (pe_ix (o_ixK K) (pv 0) pe_int (fun _ _ => rfl)) (pv 3) (fun _ _ => rfl)) pe_int (fun _ _ => rfl)) pa_nil))))))
    (pss_one (ps_ret (pv 2))))), (by (try dsimp only [cxOf]); infer_instance), ?_⟩
  obtain ⟨w', ks, rfl, hw, hk, hl, h⟩ := h
  walk_at "d"
  refine ⟨sl100 (by decide), fun i r _ => J_wo w' ks i r, ⟨0, none, rfl, sz0, rfl⟩, fun _ _ _ _ => trivial, ?_, ?_⟩
  · rintro i d r m' hi ⟨p, o, rfl, hp, hs⟩
    obtain ⟨k, hik, rfl⟩ := ints_at hi
    obtain ⟨hlt, ek⟩ := List.getElem?_eq_some_iff.mp hik
    have hf := hk k (List.mem_of_getElem? hik)
    have hz := hf.sz hw
    obtain ⟨t, q, h1, h2⟩ := hf
    have e : wtOf w' k = q := by unfold wtOf; rw [h1]; show t.worth.getD 0 = q; rw [h2]; rfl
    rw [e] at hz
    walk_at "d"
    rw [atN (tie_at h1)]
    walk_at "d"
    rw [h2]
    refine ⟨p, q, 1 + i, 1, rfl, hp, hz.2, by omega, by decide, by omega, p + q, _, rfl, ?_, ?_⟩
    · exact (hp.add hz.2 (by omega) (by decide)).mono (by omega)
    · rw [← hs, List.drop_eq_getElem_cons hlt, ek, List.map_cons, e]
      rfl
  · rintro r m' ⟨p, o, rfl, hp, hs⟩
    rw [List.length_map, List.drop_length] at hs
    walk_at "d"
    rw [show p = worthL w' ks from hs]
    exact h
abbrev S_l_can : Spc := S_askable
theorem sc_l_can : FnScope ["_law_web_here", "_law_purse_here", "_law_ties", "_law_taken", "_law_kept", "_law_found", "_law_k"] ["_law_web_here", "_law_purse_here", "_law_ties", "_law_taken", "_law_kept"] (defScope s_l_can) := ⟨rfl, rfl, rfl, by decide +kernel, rfl, by decide +kernel, by decide +kernel⟩
theorem ok_l_can {P : Program} {w : World} {K : PySem.W.Frag} {mg : Str → Option Value} {base : Heap} (T : Tx K mg) (G_l_under : Fo P w K mg base CX0 1 "_law_under" ["_law_one", "_law_other"] (spD K (NC K) 2 S_l_under)) (G_l_worth : Fo P w K mg base CX0 3 "_law_worth" ["_law_web_here", "_law_taking"] (spD K (NC K) 2 S_l_worth)) : Fo P w K mg base CX0 4 "_law_can" ["_law_web_here", "_law_purse_here", "_law_ties", "_law_taken", "_law_kept"] (spD K (NC K) 5 S_l_can) := by
  refine Fo.mk_ T 63 55 rfl rfl rfl rfl rfl (fun _ _ _ _ _ _ us hl => match us, hl with | [_, _, _, _, _], _ => rfl) fun f fd F => ok_pure 0 F sc_l_can rfl fun cdv A outer s H E I m ds Fv X hr h => ?_
  refine ⟨_, _, (pss_cons (ps_set (i := 5) sc_l_can.nd rfl (.inl rfl) (pe_lstM pa_nil))
    (pss_cons (ps_for PassesOwn.never rfl (pi_list (pv 2)) (pg_name (i := 6) sc_l_can.nd rfl (.inl rfl))
    (pss_one (ps_if (PW.pt (pw_and (pt_cmpR o_isnot (pe_ix (o_ixK K) (pe_ix (o_ixK K) (pe_ix (o_ixK K) (pv 0) pe_int (fun _ _ => rfl)) (pv 6) (fun _ _ => rfl)) pe_int (fun _ _ => rfl)) pe_non (nomark _)) (pw_and (pt_cmpR (o_ninK K) (pv 6) (pv 3) (by rfl)) (pw_and1 (pt_cmpR (o_ninK K) (pv 6) (pv 4) (by rfl)))))) (pss_one (ps_if (pt_not (pt_val (pe_ownK K 0 G_l_under (hr.mono (by decide)) pass0 (pa_cons (pv 1) (pa_cons (pe_ownK K 0 G_l_worth (hr.mono (by decide)) pass0 (pa_cons (pv 0) (pa_cons (pe_op o_add (pv 3) (pe_lst (pa_cons (pv 6) pa_nil))) pa_nil))) pa_nil))))) (pss_one (ps_expr (as_app 0 (pe_bm PySem.F.plainAttrs_list PySem.F.slot_list_append PySem.F.type_list_append mt_append (pv 5) (pa_cons (pv 6) pa_nil))))) pss_nil)) pss_nil)))
    (pss_frz 5 0 (pss_one (ps_ret (pv 5)))))), (by (try dsimp only [cxOf]); infer_instance), ?_⟩
  obtain ⟨w', purse, ks, T', Kp, rfl, rfl, hw, hp, hk, hkn, hT, hTl, h⟩ := h
  walk_at "d"
  refine ⟨Nat.zero_le _, fun a => ⟨fun i r m => J_ask w' purse ks T' Kp i r m, ⟨a, none, rfl, rfl⟩, fun _ _ _ _ => trivial, ?_, ?_⟩⟩
  · rintro i d r m' hi ⟨a, o, rfl, rfl⟩
    obtain ⟨k, hik, rfl⟩ := ints_at hi
    obtain ⟨hlt, ek⟩ := List.getElem?_eq_some_iff.mp hik
    have hkl := hk k (List.mem_of_getElem? hik)
    have ht : w'.ties[k]? = some w'.ties[k] := List.getElem?_eq_getElem hkl
    have et : askL w' purse (ks.take (i + 1)) T' Kp = askL w' purse (ks.take i) T' Kp ++ (if askB w' purse T' Kp k then [k] else []) := by
      unfold askL
      rw [List.take_succ_eq_append_getElem hlt, ek, List.filter_append]
      congr 1
      cases z : askB w' purse T' Kp k with
      | true => rw [List.filter_cons_of_pos z]; rfl
      | false => rw [List.filter_cons_of_neg (by rw [z]; decide)]; rfl
    have no : askB w' purse T' Kp k = false → J_ask w' purse ks T' Kp (i + 1) [some (webD w'), some (fD purse), some (tk ks), some (tk T'), some (tk Kp), some (.adr a), some (.int (k : Nat))] [(a, .l ((askL w' purse (ks.take i) T' Kp).map fun k => .int (k : Nat)))] := fun z => by
      refine ⟨a, _, rfl, ?_⟩
      rw [et, z, if_neg Bool.false_ne_true, List.append_nil]
    walk_at "d"
    rw [atN (tie_at ht)]
    walk_at "d"
    cases hwt : w'.ties[k].worth with
    | none =>
      rw [worthD_none]
      walk_at "d"
      refine no ?_
      unfold askB freeB
      rw [ht]
      show (Option.isSome w'.ties[k].worth && _) = _
      rw [hwt]
      rfl
    | some q =>
      have hf : Free w' k := ⟨_, q, ht, hwt⟩
      have hfb : freeB w' k = true := (freeB_iff w' k).mpr hf
      rw [worthD_some]
      walk_at "d"
      rw [inDs_tk]
      walk_at "d"
      by_cases h1 : k ∈ T'
      · rw [decide_eq_true h1]
        walk_at "d"
        refine no ?_
        unfold askB
        rw [decide_eq_false (fun z => z h1), Bool.false_and, Bool.and_false]
      · rw [decide_eq_false h1]
        walk_at "d"
        rw [inDs_tk]
        walk_at "d"
        by_cases h2 : k ∈ Kp
        · rw [decide_eq_true h2]
          walk_at "d"
          refine no ?_
          unfold askB
          rw [decide_eq_false (fun z : k ∉ Kp => z h2), Bool.false_and, Bool.and_false, Bool.and_false]
        · rw [decide_eq_false h2]
          walk_at "d"
          have ea : (T'.map fun k => D.int (k : Nat)) ++ [.int (k : Nat)] = (T' ++ [k]).map fun k => D.int (k : Nat) := by rw [List.map_append]; rfl
          have eb : askB w' purse T' Kp k = !decide (purse < worthL w' (T' ++ [k])) := by
            unfold askB
            rw [hfb, decide_eq_true h1, decide_eq_true h2]
            rfl
          rw [ea]
          refine ⟨sl100 (by decide), sl100 (by omega), w', T' ++ [k], rfl, hw, fun j hj => ?_, by rw [List.length_append, List.length_singleton]; omega, ?_⟩
          · rcases List.mem_append.mp hj with hj | hj
            · exact hT j hj
            · obtain rfl : j = k := by simpa using hj
              exact hf
          walk_at "d"
          have hws := (worthL_sz hw (ks := T' ++ [k]) (fun j hj => by
            rcases List.mem_append.mp hj with hj | hj
            · exact hT j hj
            · obtain rfl : j = k := by simpa using hj
              exact hf) (by rw [List.length_append, List.length_singleton]; omega))
          refine ⟨purse, (worthL w' (T' ++ [k])).num, (worthL w' (T' ++ [k])).den, rfl, Rat.den_pos _, ?_, ?_, ?_, ?_, ?_⟩
          · exact Nat.lt_trans hp.1 (Nat.pow_lt_pow_right (by decide) (by decide))
          · exact Nat.lt_trans hws.1 (Nat.pow_lt_pow_right (by decide) (by decide))
          · exact Nat.lt_trans hp.2 (Nat.pow_lt_pow_right (by decide) (by decide))
          · exact Nat.lt_trans hws.2 (Nat.pow_lt_pow_right (by decide) (by decide))
          rw [Rat.mkRat_self]
          walk_at "d"
          rw [← eb]
          split
          · rename_i hb
            have hln : (askL w' purse (ks.take i) T' Kp).length ≤ 1000 := by
              have h5 := List.length_filter_le (askB w' purse T' Kp) (ks.take i)
              have h6 := List.length_take_le i ks
              unfold askL
              rw [List.length_take] at h5
              omega
            refine ⟨Nat.lt_of_le_of_lt hln (by decide), a, _, rfl, ?_⟩
            rw [et, hb, if_pos rfl, List.map_append]
            rfl
          · rename_i hb
            exact no (Bool.eq_false_iff.mpr hb)
  · rintro r m' ⟨a, o, rfl, rfl⟩
    rw [List.length_map, List.take_length]
    walk_at "d"
    exact h
abbrev S_l_lengths : Spc := S_longer_lengths
theorem sc_l_lengths : FnScope ["_law_web_here", "_law_adds_here", "_law_chosen", "_law_tie_here", "_law_found", "_law_k"] ["_law_web_here", "_law_adds_here", "_law_chosen"] (defScope s_l_lengths) := ⟨rfl, rfl, rfl, by decide +kernel, rfl, by decide +kernel, by decide +kernel⟩
theorem ok_l_lengths {P : Program} {w : World} {K : PySem.W.Frag} {mg : Str → Option Value} {base : Heap} (T : Tx K mg) (G_l_plus : Fo P w K mg base CX0 2 "_law_plus" ["_law_one", "_law_other"] (spD K (NC K) 2 S_l_plus)) : Fo P w K mg base CX0 3 "_law_lengths" ["_law_web_here", "_law_adds_here", "_law_chosen"] (spD K (NC K) 3 S_l_lengths) := by
  refine Fo.mk_ T 66 58 rfl rfl rfl rfl rfl (fun _ _ _ _ _ _ us hl => match us, hl with | [_, _, _], _ => rfl) fun f fd F => ok_pure 0 F sc_l_lengths rfl fun cdv A outer s H E I m ds Fv X hr h => ?_
  refine ⟨_, _, (pss_cons (as_lcM [3] (ps_setLc (i := 4) (own := [("_law_tie_here", 3)]) rfl sc_l_lengths.nd rfl rfl (sw_true rfl rfl rfl (by decide +kernel)) (pi_list (pe_ix (o_ixK K) (pv 0) pe_int (fun _ _ => rfl))) (blkOk_by (own := [("_law_tie_here", 3)]) (N := ["_law_web_here", "_law_adds_here", "_law_chosen", "_law_tie_here", "_law_found", "_law_k"]) (sc := defScope s_l_lengths) (by decide +kernel)) (fun _ _ _ _ _ => (pg_name (i := 3) sc_l_lengths.nd rfl (.inl rfl))) (fun _ _ _ _ _ => pts_nil) (fun _ _ _ _ _ => (pe_ix (o_ixK K) (pv 3) pe_int (fun _ _ => rfl)))))
    (pss_cons (ps_for PassesOwn.never rfl (pi_list (pv 2)) (pg_name (i := 5) sc_l_lengths.nd rfl (.inl rfl))
    (pss_one (as_set 0 (ps_asg (pe_ownK K 0 G_l_plus (hr.mono (by decide)) pass0 (pa_cons (pe_ix (o_ixM 0) (pv 4) (pv 5) (fun _ _ => rfl)) (pa_cons (pe_ix (o_ixK K) (pv 1) (pv 5) (fun _ _ => rfl)) pa_nil))) (pg_sub (pv 4) (pv 5) set_list)))))
    (pss_frz 4 0 (pss_one (ps_ret (pv 4)))))), (by (try dsimp only [cxOf]); infer_instance), ?_⟩
  obtain ⟨w', adds, ks, rfl, rfl, hw, ha, hk, nd, h⟩ := h
  walk_at "d"
  refine lc_map (List.range w'.ties.length) (fun k => tieD (w'.ties[k]?.getD ⟨"", "", false, 0, none⟩)) (fun k => fD (addL w' adds [] k)) anyMu (fun G h => ?_) (fun _ => trivial) (by rw [List.length_range]; have := hw.tl; omega) ?_ ?_
  · walk_at "d"
    have e : (List.range w'.ties.length).map (fun k => tieD (w'.ties[k]?.getD ⟨"", "", false, 0, none⟩)) = w'.ties.map tieD := by
      refine List.ext_getElem? fun i => ?_
      rw [List.getElem?_map, List.getElem?_map]
      by_cases hi : i < w'.ties.length
      · rw [List.getElem?_range hi, List.getElem?_eq_getElem hi]
        simp [List.getElem?_eq_getElem hi]
      · rw [List.getElem?_eq_none (by simpa using hi), List.getElem?_eq_none (by simpa using hi)]
        rfl
    rw [e] at h
    exact h
  · intro k hkm t G E hG
    rw [List.mem_range] at hkm
    have ht : w'.ties[k]? = some w'.ties[k] := List.getElem?_eq_getElem hkm
    rw [addL_at ht, if_neg (by simp), Rat.add_zero] at hG
    rw [ht, Option.getD_some]
    walk_at "d"
    exact hG
  · walk_at "d"
    intro a
    refine ⟨fun i r m => J_ll w' adds ks i r m, ⟨a, _, _, rfl, ?_⟩, fun _ _ _ _ => trivial, ?_, ?_⟩
    · rw [List.take_zero]
      unfold lensL
      rw [List.map_map]
      rfl
    · rintro i d r m' hi ⟨a, o1, o2, rfl, rfl⟩
      obtain ⟨k, hik, rfl⟩ := ints_at hi
      obtain ⟨hlt, ek⟩ := List.getElem?_eq_some_iff.mp hik
      have hkl := hk k (List.mem_of_getElem? hik)
      have hkn : k ∉ ks.take i := fun z => by
        obtain ⟨j, hj, e2⟩ := List.mem_iff_getElem.mp z
        rw [List.getElem_take] at e2
        rw [List.length_take] at hj
        have := (List.getElem_inj nd).mp (e2.trans ek.symm)
        omega
      have hka : k < adds.length := by rw [ha.len]; exact hkl
      have h2 := addL_sz hw ha (ks.take i) hkl
      have h3 := ha.ok _ (List.getElem_mem hka)
      walk_at "d"
      rw [atN (fds_at (lensL_get hkl)), atN (fds_at (List.getElem?_eq_getElem hka))]
      walk_at "d"
      refine ⟨_, _, 2, 1, rfl, h2.1, h3.2, by decide, by decide, by decide, ?_⟩
      walk_at "d"
      refine ⟨k, ixN_nat (by rw [lensL_len]; exact hkl), a, _, _, rfl, ?_⟩
      rw [← List.map_set, List.take_succ_eq_append_getElem hlt, ek, lensL_set hkl hkn]
      rw [List.getD_eq_getElem?_getD, List.getElem?_eq_getElem hka]
      rfl
    · rintro r m' ⟨a, o1, o2, rfl, rfl⟩
      rw [List.length_map, List.take_length]
      walk_at "d"
      exact h
abbrev S_l_adds : Spc := fun ds m F X => ∃ (a : Addr) (y : MO) (w : Web), ds = [.adr a, webD w] ∧ m = [(a, y)] ∧ StOk y ∧ WebOk w ∧ ∀ (adds : List Rat) y', AddsOk w adds → StOk y' → F (.lst (adds.map fD)) [(a, y')]
def J_ad (a : Addr) (w : Web) (i : Nat) (acc : List D) (m : Mu) : Prop := ∃ (qs : List Rat) (y : MO), acc = qs.map fD ∧ qs.length = i ∧ i ≤ w.ties.length ∧ (∀ q ∈ qs, 0 ≤ q ∧ Sz 1 q) ∧ m = [(a, y)] ∧ StOk y
theorem sc_l_adds : FnScope ["_law_state", "_law_web_here", "_law_tie_here"] ["_law_state", "_law_web_here"] (defScope s_l_adds) := ⟨rfl, rfl, rfl, by decide +kernel, rfl, by decide +kernel, by decide +kernel⟩
theorem ok_l_adds {P : Program} {w : World} {K : PySem.W.Frag} {mg : Str → Option Value} {base : Heap} (T : Tx K mg) (G_l_amount : Fo P w K mg base CX0 2 "_law_amount" ["_law_state", "_law_least"] (spD K (NC K) 2 S_l_amount)) (G_l_take : Fo P w K mg base CX0 1 "_law_take" ["_law_state", "_law_many"] (spD K (NC K) 2 S_l_take)) : Fo P w K mg base CX0 3 "_law_adds" ["_law_state", "_law_web_here"] (spD K (NC K) 2 S_l_adds) := by
  refine Fo.mk_ T 65 57 rfl rfl rfl rfl rfl (fun _ _ _ _ _ _ us hl => match us, hl with | [_, _], _ => rfl) fun f fd F => ok_pure 1 F sc_l_adds rfl fun cdv A outer s H E I m ds Fv X hr h => ?_
  refine ⟨_, _, (pss_one (ps_ret (as_lc [2] (pe_lc (own := [("_law_tie_here", 2)]) rfl sc_l_adds.nd (pi_list (pe_ix (o_ixK K) (pv 1) pe_int (fun _ _ => rfl))) (blkOk_by (own := [("_law_tie_here", 2)]) (N := ["_law_state", "_law_web_here", "_law_tie_here"]) (sc := defScope s_l_adds) (by decide +kernel)) (fun _ _ _ _ _ => (pg_name (i := 2) sc_l_adds.nd rfl (.inl rfl))) (fun _ _ _ _ _ => pts_nil) (fun _ _ _ _ _ => (pe_ix (o_ixK K) (pe_lst (pa_cons (pe_ownK K 1 G_l_amount (hr.mono (by decide)) pass0 (pa_cons (pv 0) (pa_cons pe_int pa_nil))) (pa_cons (pe_ownK K 1 G_l_amount (hr.mono (by decide)) pass0 (pa_cons (pv 0) (pa_cons pe_int pa_nil))) pa_nil))) (pe_ownK K 1 G_l_take (hr.mono (by decide)) pass0 (pa_cons (pv 0) (pa_cons pe_int pa_nil))) (fun _ _ => rfl))))))), (by (try dsimp only [cxOf]); infer_instance), ?_⟩
  obtain ⟨a, y, w', rfl, rfl, hy, hw, h⟩ := h
  have hl14 := hw.tl
  have s2 := sl100 (n := 2) (by decide)
  unfold dLc
  walk_at "d"
  refine ⟨fun i acc m => J_ad a w' i acc m, ⟨[], y, rfl, rfl, Nat.zero_le _, fun q hq => (nomatch hq), rfl, hy⟩, ?_, ?_, ?_⟩
  · rintro i acc m ⟨qs, y, rfl, h1, h2, h3, rfl, h4⟩
    refine ⟨?_, fun _ => trivial⟩
    rw [List.length_map]
    exact Nat.lt_of_le_of_lt (m := 14) (by omega) (by decide)
  · rintro i d acc m p hi ⟨qs, y, rfl, rfl, h2, h3, rfl, hy⟩
    have hlt := (List.getElem?_eq_some_iff.mp hi).1
    rw [List.length_map] at hlt
    walk_at "d"
    refine ⟨a, y, 0, rfl, rfl, hy, by decide, by decide, fun q1 y1 g0 g1 _ hy1 => ?_⟩
    walk_at "d"
    refine ⟨a, y1, 1, rfl, rfl, hy1, by decide, by decide, fun q2 y2 k0 k1 _ hy2 => ?_⟩
    walk_at "d"
    refine ⟨s2, a, y2, 2, rfl, rfl, hy2, by decide, by decide, fun r y3 h0 h1 hy3 => ?_⟩
    obtain ⟨j, rfl, hj⟩ := nat_of h0 h1
    have hj : j < 2 := hj
    obtain ⟨q, hq, hq1⟩ : ∃ q : Rat, ([fD q1, fD q2] : List D)[j]? = some (fD q) ∧ 0 ≤ q ∧ Sz 1 q := by
      match j, hj with
      | 0, _ => exact ⟨q1, rfl, g0, g1⟩
      | 1, _ => exact ⟨q2, rfl, k0, k1⟩
    walk_at "d"
    rw [atN hq]
    walk_at "d"
    refine ⟨[(a, y3)], rfl, qs ++ [q], y3, ?_, ?_, by omega, fun x hx => ?_, rfl, hy3⟩
    · rw [List.map_append]
      rfl
    · rw [List.length_append]
      rfl
    · rcases List.mem_append.mp hx with g | g
      · exact h3 x g
      · obtain rfl : x = q := by simpa using g
        exact hq1
  · rintro acc m ⟨qs, y, rfl, h1, h2, h3, rfl, hy⟩
    walk_at "d"
    exact h qs y ⟨h1, h3⟩ hy
end FC
/-! THE WALK, 15: the law's paper. -/
namespace FC
open PySem PySem.Spec L2
local macro_rules | `(tactic| walk_at "d") => `(tactic| try simp only [dVar, dC, dOp, dUn, dAdd, dSub, dMul, dMod, dDiv, dPow, dNeg, dCmp, dEq, dNe, dEqv, dIsN, dNotN, isNon, dIn, inD, dInM, dIx, ixDs, dIxM, dChain, dB, asB, dAnd, dOr, dNot, dAndV, dOrV, dNotV, dIf, dNil, dCons, dTup, dLst, dLstM, dDic0, dDicM, dDisp1,
  dCB, dLen, dLenM, dAbs, dMax2, dMin2, dInt, dBool, dStr, dList, dListN, dListM, dTuple, dSorted, dDicC, dIsi, tyD_non, tyD_bl, tyD_int, tyD_str, tyD_lst, tyD_tup, tyD_dic, dNoPart, asI, dPart, dSl, dRev, dApp, dPopI, dRem, dEqNil, dEqNilM, dGet, dDGetM, dDGet, dDInM, dDInA, dDPopM, dEqD0, dEqDM, dJoin, dNext, dSeq, dDrop, dRet, dIfS, dNever, dgName, dgNil, dgCons, dgTup, dAsg, dSubM, dDPutM, dPar, dAug, dFrz, frzD, dFgt,
  diLst, diTup, diLstM, diRng1, diRng2, diStr, diEnum, diZip, dYes, dCall, endsD, startD, wipeD, dom,
  isTy_0_0, isTy_0_1, isTy_0_2, isTy_0_3, isTy_0_4, isTy_1_0, isTy_1_1, isTy_1_2, isTy_1_3, isTy_1_4, isTy_2_0, isTy_2_1, isTy_2_2, isTy_2_3, isTy_2_4, isTy_3_0, isTy_3_1, isTy_3_2, isTy_3_3, isTy_3_4, isTy_4_0, isTy_4_1, isTy_4_2, isTy_4_3, isTy_4_4, isTy_5_0, isTy_5_1, isTy_5_2, isTy_5_3, isTy_5_4, isTy_6_0, isTy_6_1, isTy_6_2, isTy_6_3, isTy_6_4,
  Int.cast_ofNat_Int, decide_true, decide_false, Int.reduceEq, Int.reduceLT, Int.reduceLE, atI_0, atI_1, atI_2, atI_3, atI_4, List.length_map, List.map_cons, List.map_nil, List.length_cons, List.length_nil, Nat.reduceAdd, Nat.reduceSub, List.reduceReplicate, List.cons_append, List.nil_append, List.append_nil, List.getElem?_cons_zero, List.getElem?_cons_succ, List.getElem?_nil, List.set_cons_zero, List.set_cons_succ, List.take_zero, List.drop_zero, List.take_succ_cons, List.drop_succ_cons,
  List.eraseIdx_cons_zero, List.eraseIdx_cons_succ, true_and, and_true, eq_self, and_self, if_true, if_false, Bool.false_eq_true, reduceIte, Bool.not_true, Bool.not_false, forall_const, exists_eq_left, exists_eq_left', exists_eq_right, exists_eq_right', exists_and_left, exists_const, D.adr.injEq, D.str.injEq, D.int.injEq, D.lst.injEq, D.tup.injEq, D.bl.injEq, Option.some.injEq, Prod.mk.injEq, MO.l.injEq, MO.d.injEq, List.cons.injEq, Function.const_apply, dLock, lckE, dDGetK, dFld, dSetF, dMeth, dMake, dRaise, diKeys, dGet, dAddM, List.not_mem_nil, false_implies, implies_true, List.mem_singleton, forall_eq, Option.isSome_none, Option.isSome_some, lcRes, exists_eq, exists_eq', List.length_append, List.length_singleton])

def sD (x : Nat × Str) : D := .tup [.int (x.1 : Nat), .str x.2]
theorem enum_at {ts : List Tie} {i : Nat} {d : D} (h : (enumD (ts.map tieD))[i]? = some d) : ∃ t, ts[i]? = some t ∧ d = .tup [.int (i : Nat), tieD t] := by
  unfold enumD at h
  rw [List.getElem?_map, List.getElem?_zipIdx, List.getElem?_map] at h
  cases e : ts[i]? with
  | none => rw [e] at h; cases h
  | some t =>
    rw [e] at h
    cases h
    refine ⟨t, rfl, ?_⟩
    rw [Nat.zero_add]
theorem stepO_some {w : Web} {here p : Str} {seen : List Str} {i : Nat} {t : Tie} (ht : w.ties[i]? = some t) (hb : behT t here = some p) : stepO w here seen i = if p ∈ seen then none else some (i, p) := by
  unfold stepO
  rw [ht]
  show (match behT t here with | some p => if p ∈ seen then none else some (i, p) | none => none) = _
  rw [hb]
theorem stepO_no {w : Web} {here : Str} {seen : List Str} {i : Nat} {t : Tie} (ht : w.ties[i]? = some t) (hb : behT t here = none) : stepO w here seen i = none := by
  unfold stepO
  rw [ht]
  show (match behT t here with | some p => if p ∈ seen then none else some (i, p) | none => none) = _
  rw [hb]
abbrev S_l_steps : Spc := fun ds m F X => ∃ (w : Web) (here : Str) (seen : List Str), ds = [webD w, .lst [], .str here, .lst (seen.map .str)] ∧ m = [] ∧ WebOk w ∧ F (.lst ((stepsL w here seen).map sD)) []
def J_st (w : Web) (here : Str) (seen : List Str) (i : Nat) (r : Rho) (m : Mu) : Prop := ∃ (b : Addr) (o1 o2 : Option D), r = [some (webD w), some (.lst []), some (.str here), some (.lst (seen.map .str)), some (.adr b), o1, o2] ∧ m = [(b, .l (((List.range i).filterMap (stepO w here seen)).map sD))]
theorem sc_l_steps : FnScope ["_law_web_here", "_law_taken", "_law_here", "_law_seen", "_law_found", "_law_k", "_law_tie_here"] ["_law_web_here", "_law_taken", "_law_here", "_law_seen"] (defScope s_l_steps) := ⟨rfl, rfl, rfl, by decide +kernel, rfl, by decide +kernel, by decide +kernel⟩
theorem ok_l_steps {P : Program} {w : World} {K : PySem.W.Frag} {mg : Str → Option Value} {base : Heap} (T : Tx K mg) : Fo P w K mg base CX0 1 "_law_steps" ["_law_web_here", "_law_taken", "_law_here", "_law_seen"] (spD K (NC K) 4 S_l_steps) := by
  refine Fo.mk_ T 61 53 rfl rfl rfl rfl rfl (fun _ _ _ _ _ _ us hl => match us, hl with | [_, _, _, _], _ => rfl) fun f fd F => ok_pure 0 F sc_l_steps rfl fun cdv A outer s H E I m ds Fv X hr h => ?_
  refine ⟨_, _, (pss_cons (ps_set (i := 4) sc_l_steps.nd rfl (.inl rfl) (pe_lstM pa_nil))
    (pss_cons (ps_for PassesOwn.never rfl (pi_enum rfl (T.b 82 rfl) (pa_cons (pe_ix (o_ixK K) (pv 0) pe_int (fun _ _ => rfl)) pa_nil)) (pg_tup rfl (pgs_cons (pg_name (i := 5) sc_l_steps.nd rfl (.inl rfl)) (pgs_cons (pg_name (i := 6) sc_l_steps.nd rfl (.inl rfl)) pgs_nil)))
    (pss_cons (ps_if (PW.pt (pw_and (pt_cmpR (o_ninK K) (pv 5) (pv 1) (by rfl)) (pw_and (pt_cmpR op_eq (pe_ix (o_ixK K) (pv 6) pe_int (fun _ _ => rfl)) (pv 2) (nomark _)) (pw_and1 (pt_cmpR (o_ninK K) (pe_ix (o_ixK K) (pv 6) pe_int (fun _ _ => rfl)) (pv 3) (by rfl)))))) (pss_one (ps_expr (as_app 0 (pe_bm PySem.F.plainAttrs_list PySem.F.slot_list_append PySem.F.type_list_append mt_append (pv 4) (pa_cons (pe_tup (pa_cons (pv 5) (pa_cons (pe_ix (o_ixK K) (pv 6) pe_int (fun _ _ => rfl)) pa_nil))) pa_nil))))) pss_nil)
    (pss_one (ps_if (PW.pt (pw_and (pt_cmpR (o_ninK K) (pv 5) (pv 1) (by rfl)) (pw_and (pt_cmpR op_eq (pe_ix (o_ixK K) (pv 6) pe_int (fun _ _ => rfl)) pe_str (nomark _)) (pw_and (pt_cmpR op_eq (pe_ix (o_ixK K) (pv 6) pe_int (fun _ _ => rfl)) (pv 2) (nomark _)) (pw_and1 (pt_cmpR (o_ninK K) (pe_ix (o_ixK K) (pv 6) pe_int (fun _ _ => rfl)) (pv 3) (by rfl))))))) (pss_one (ps_expr (as_app 0 (pe_bm PySem.F.plainAttrs_list PySem.F.slot_list_append PySem.F.type_list_append mt_append (pv 4) (pa_cons (pe_tup (pa_cons (pv 5) (pa_cons (pe_ix (o_ixK K) (pv 6) pe_int (fun _ _ => rfl)) pa_nil))) pa_nil))))) pss_nil))))
    (pss_frz 4 0 (pss_one (ps_ret (pv 4)))))), (by (try dsimp only [cxOf]); infer_instance), ?_⟩
  obtain ⟨w', here, seen, rfl, rfl, hw, h⟩ := h
  have hl14 := hw.tl
  walk_at "d"
  refine ⟨Nat.zero_le _, fun b => ?_⟩
  refine ⟨fun i r m => J_st w' here seen i r m, ⟨b, none, none, rfl, rfl⟩, fun _ _ _ _ => trivial, ?_, ?_⟩
  · rintro i d r m hi ⟨b, o1, o2, rfl, rfl⟩
    obtain ⟨t, ht, rfl⟩ := enum_at hi
    have hto := hw.tie t (List.mem_of_getElem? ht)
    have hi14 : i < 14 := by
      have := (List.getElem?_eq_some_iff.mp ht).1
      omega
    have s2 := sl100 (n := 2) (by decide)
    have hln : ((List.range i).filterMap (stepO w' here seen)).length < sizeLine := by
      refine Nat.lt_of_le_of_lt (List.length_filterMap_le _ _) ?_
      rw [List.length_range]
      exact Nat.lt_of_le_of_lt (Nat.le_of_lt hi14) (by decide)
    have fin : ∀ x : Option (Nat × Str), stepO w' here seen i = x → J_st w' here seen (i + 1) [some (webD w'), some (.lst []), some (.str here), some (.lst (seen.map .str)), some (.adr b), some (.int (i : Nat)), some (tieD t)] [(b, .l (((List.range i).filterMap (stepO w' here seen)).map sD ++ (match x with | some x => [sD x] | none => [])))] := fun x hx => by
      refine ⟨b, _, _, rfl, ?_⟩
      rw [List.range_succ, List.filterMap_append, List.map_append]
      congr 3
      cases x with
      | none => rw [List.filterMap_cons_none hx]; rfl
      | some x => rw [List.filterMap_cons_some hx]; rfl
    have e0 : inDs (.int (i : Nat)) [] = some false := rfl
    walk_at "d"
    refine ⟨rfl, ?_⟩
    rw [e0]
    walk_at "d"
    rw [inDs_str, inDs_str, bothW_eq]
    by_cases h1 : t.one = here
    · have h2 : t.other ≠ here := fun q => hto.ne (h1.trans q.symm)
      have hb : behT t here = some t.other := by unfold behT; rw [if_pos h1]
      rw [decide_eq_true h1, decide_eq_false h2]
      walk_at "d"
      by_cases hs : t.other ∈ seen
      · rw [decide_eq_true hs]
        walk_at "d"
        have := fin none ((stepO_some ht hb).trans (if_pos hs))
        simp only [List.append_nil] at this
        split <;> exact this
      · rw [decide_eq_false hs]
        walk_at "d"
        have := fin (some (i, t.other)) ((stepO_some ht hb).trans (if_neg hs))
        refine ⟨s2, hln, ?_⟩
        split <;> exact this
    · rw [decide_eq_false h1]
      walk_at "d"
      have no : behT t here = none → J_st w' here seen (i + 1) [some (webD w'), some (.lst []), some (.str here), some (.lst (seen.map .str)), some (.adr b), some (.int (i : Nat)), some (tieD t)] [(b, .l (((List.range i).filterMap (stepO w' here seen)).map sD))] := fun hb => by
        have := fin none (stepO_no ht hb)
        simp only [List.append_nil] at this
        exact this
      by_cases h2 : t.other = here
      · cases hbo : t.both with
        | true =>
          have hb : behT t here = some t.one := by unfold behT; rw [if_neg h1, if_pos ⟨h2, hbo⟩]
          rw [if_pos rfl, if_pos (decide_eq_true h2)]
          by_cases hs : t.one ∈ seen
          · rw [if_neg (by simpa using hs)]
            have := fin none ((stepO_some ht hb).trans (if_pos hs))
            simp only [List.append_nil] at this
            exact this
          · rw [if_pos (by simpa using hs)]
            exact ⟨s2, hln, fin (some (i, t.one)) ((stepO_some ht hb).trans (if_neg hs))⟩
        | false =>
          rw [if_neg (by decide)]
          refine no ?_
          unfold behT
          rw [if_neg h1, if_neg fun z => by rw [hbo] at z; cases z.2]
      · have hb : behT t here = none := by unfold behT; rw [if_neg h1, if_neg fun z => h2 z.1]
        split
        · rw [if_neg (by simpa using h2)]
          exact no hb
        · exact no hb
  · rintro r m ⟨b, o1, o2, rfl, rfl⟩
    have e : (enumD (w'.ties.map tieD)).length = w'.ties.length := by simp [enumD]
    rw [e]
    walk_at "d"
    exact h
abbrev S_l_go (n : Nat) : Spc := fun ds m F X => ∃ (a : Addr) (y : MO) (w : Web) (here : Str) (seen : List Str), ds = [.adr a, webD w, .lst [], .str here, .lst (seen.map .str)] ∧ m = [(a, y)] ∧ StOk y ∧ WebOk w ∧ seen.Nodup ∧ (∀ z ∈ seen, z ∈ w.places) ∧ seen.length + n = 8 ∧
  (∀ ks y', goodW w seen here ks → StOk y' → F (tk ks) [(a, y')]) ∧ ((∀ ks, ¬ goodW w seen here ks) → ∀ y', StOk y' → F .non [(a, y')])
def J_lg (a : Addr) (w : Web) (here : Str) (seen : List Str) (o5 o6 : Option D) (l : List (Nat × Str)) (i : Nat) (r : Rho) (m : Mu) : Prop := ∃ (y : MO) (o1 o2 o3 : Option D), r = [some (.adr a), some (webD w), some (.lst []), some (.str here), some (.lst (seen.map .str)), o5, o6, o1, o2, o3] ∧ m = [(a, y)] ∧ StOk y ∧ ∀ x ∈ l.take i, ∀ ks, ¬ goodW w (seen ++ [x.2]) x.2 ks
theorem sc_l_go : FnScope ["_law_state", "_law_web_here", "_law_taken", "_law_here", "_law_seen", "_law_some", "_law_begin", "_law_k", "_law_there", "_law_rest"] ["_law_state", "_law_web_here", "_law_taken", "_law_here", "_law_seen"] (defScope s_l_go) := ⟨rfl, rfl, rfl, by decide +kernel, rfl, by decide +kernel, by decide +kernel⟩
theorem ok_l_go {P : Program} {w : World} {K : PySem.W.Frag} {mg : Str → Option Value} {base : Heap} {n : Nat} (T : Tx K mg) (G_l_steps : Fo P w K mg base CX0 1 "_law_steps" ["_law_web_here", "_law_taken", "_law_here", "_law_seen"] (spD K (NC K) 4 S_l_steps)) (G_l_take : Fo P w K mg base CX0 1 "_law_take" ["_law_state", "_law_many"] (spD K (NC K) 2 S_l_take)) (G_l_go : Fo P w K mg base CX0 (10 + n) "_law_go" ["_law_state", "_law_web_here", "_law_taken", "_law_here", "_law_seen"] (spD K (NC K) 5 (S_l_go n))) : Fo P w K mg base CX0 (10 + n + 1) "_law_go" ["_law_state", "_law_web_here", "_law_taken", "_law_here", "_law_seen"] (spD K (NC K) 5 (S_l_go (n + 1))) := by
  refine Fo.mk_ T 62 54 rfl rfl rfl rfl rfl (fun _ _ _ _ _ _ us hl => match us, hl with | [_, _, _, _, _], _ => rfl) fun f fd F => ok_pure 1 F sc_l_go rfl fun cdv A outer s H E I m ds Fv X hr h => ?_
  refine ⟨_, _, (pss_cons (ps_if (pt_cmpR op_eq (pv 3) (pe_ix (o_ixK K) (pv 1) pe_int (fun _ _ => rfl)) (nomark _)) (pss_one (ps_ret (pe_lst pa_nil))) pss_nil)
    (pss_cons (ps_set (i := 5) sc_l_go.nd rfl (.inl rfl) (pe_ownK K 0 G_l_steps (hr.mono (by omega)) pass0 (pa_cons (pv 1) (pa_cons (pv 2) (pa_cons (pv 3) (pa_cons (pv 4) pa_nil))))))
    (pss_cons (ps_set (i := 6) sc_l_go.nd rfl (.inl rfl) (pe_ownK K 1 G_l_take (hr.mono (by omega)) pass0 (pa_cons (pv 0) (pa_cons (pe_bi (c_max2 rfl) (T.b 87 rfl) bb_max (pa_cons pe_int (pa_cons (pe_bi c_len (T.b 85 rfl) bb_len (pa_cons (pv 5) pa_nil)) pa_nil))) pa_nil))))
    (pss_cons (ps_for PassesOwn.never rfl (pi_list (pe_op o_add (pe_slice (sl_anyK K) (pv 5) (po_some (pv 6)) po_none) (pe_slice (sl_anyK K) (pv 5) po_none (po_some (pv 6))))) (pg_tup rfl (pgs_cons (pg_name (i := 7) sc_l_go.nd rfl (.inl rfl)) (pgs_cons (pg_name (i := 8) sc_l_go.nd rfl (.inl rfl)) pgs_nil)))
    (pss_cons (ps_set (i := 9) sc_l_go.nd rfl (.inl rfl) (pe_ownK K 1 G_l_go (hr.mono (by omega)) pass0 (pa_cons (pv 0) (pa_cons (pv 1) (pa_cons (pv 2) (pa_cons (pv 8) (pa_cons (pe_op o_add (pv 4) (pe_lst (pa_cons (pv 8) pa_nil))) pa_nil)))))))
    (pss_one (ps_if (pt_cmpR o_isnot (pv 9) pe_non (nomark _)) (pss_one (ps_ret (pe_op o_add (pe_lst (pa_cons (pv 7) pa_nil)) (pv 9)))) pss_nil))))
    (pss_one (ps_ret pe_non)))))), (by (try dsimp only [cxOf]); infer_instance), ?_⟩
  obtain ⟨a, y, w', here, seen, rfl, rfl, hy, hw, hsn, hss, hn, h1, h2⟩ := h
  walk_at "d"
  by_cases hl : here = w'.last
  · rw [if_pos (decide_eq_true hl)]
    exact ⟨sl100 (by decide), h1 [] y hl hy⟩
  rw [if_neg (by simpa using hl)]
  refine ⟨w', here, seen, rfl, rfl, hw, ?_⟩
  walk_at "d"
  have hl14 := hw.tl
  have hln : (stepsL w' here seen).length ≤ 14 := by
    refine Nat.le_trans (List.length_filterMap_le _ _) ?_
    rw [List.length_range]
    exact hl14
  refine ⟨a, y, max 1 ((stepsL w' here seen).length : Int), rfl, rfl, hy, by omega, by omega, fun r y1 h3 h4 hy1 => ?_⟩
  obtain ⟨b, rfl, hb⟩ := nat_of h3 h4
  have hbl : b ≤ (stepsL w' here seen).length := by omega
  unfold dFor
  walk_at "d"
  rw [cutD_lo _ _ (by rw [List.length_map]; exact hbl), cutD_hi _ _ (by rw [List.length_map]; exact hbl), ← List.map_drop, ← List.map_take, ← List.map_append]
  generalize hrot : (stepsL w' here seen).drop b ++ (stepsL w' here seen).take b = rot
  have hrm : ∀ x, x ∈ rot ↔ x ∈ stepsL w' here seen := fun x => by
    rw [← hrot, List.mem_append]
    constructor
    · rintro (q | q)
      · exact List.mem_of_mem_drop q
      · exact List.mem_of_mem_take q
    · intro q
      rw [← List.take_append_drop b (stepsL w' here seen)] at q
      exact (List.mem_append.mp q).symm
  have s14 : ∀ k, k ≤ 100 → k ≤ sizeLine := fun k hk => sl100 (by omega)
  refine ⟨?_, fun i r m => J_lg a w' here seen (some (.lst ((stepsL w' here seen).map sD))) (some (.int (b : Nat))) rot i r m, ⟨y1, none, none, none, rfl, rfl, hy1, fun x hx => by simp at hx⟩, fun _ _ _ _ => trivial, ?_, ?_⟩
  · rw [List.length_map, List.length_map, List.length_drop, List.length_take]
    exact sl100 (by omega)
  · rintro i d r m hi ⟨y, o1, o2, o3, rfl, rfl, hy, hno⟩
    rw [List.getElem?_map] at hi
    cases e : rot[i]? with
    | none => rw [e] at hi; cases hi
    | some x =>
      rw [e] at hi
      cases hi
      obtain ⟨hlt, ex⟩ := List.getElem?_eq_some_iff.mp e
      obtain ⟨t, g1, g2, g3⟩ := mem_steps.mp ((hrm x).mp (List.mem_of_getElem? e))
      have hxp : x.2 ∈ w'.places := behT_in (hw.tie t (List.mem_of_getElem? g1)) g2
      have es : (seen.map D.str) ++ [.str x.2] = (seen ++ [x.2]).map .str := by rw [List.map_append]; rfl
      have hsl := pigeon hsn hss
      have hp7 := hw.hi
      unfold sD
      walk_at "d"
      rw [es]
      refine ⟨rfl, s14 _ (by omega), s14 _ (by omega), a, y, w', x.2, seen ++ [x.2], rfl, rfl, hy, hw, ?_, ?_, ?_, fun ks y' hg hy' => ?_, fun hno2 y' hy' => ?_⟩
      · refine List.nodup_append.mpr ⟨hsn, by simp, fun u hu v hv q => ?_⟩
        obtain rfl : v = x.2 := by simpa using hv
        exact g3 (q ▸ hu)
      · intro z hz
        rcases List.mem_append.mp hz with q | q
        · exact hss z q
        · obtain rfl : z = x.2 := by simpa using q
          exact hxp
      · rw [List.length_append, List.length_singleton]
        omega
      · have hgw : goodW w' seen here (x.1 :: ks) := ⟨hl, t, x.2, g1, g2, g3, hg⟩
        have hk7 : ks.length ≤ 7 := by
          have := goodW_len hw (x.1 :: ks) seen here hsn hss hgw
          rw [List.length_cons] at this
          omega
        walk_at "d"
        exact ⟨s14 _ (by omega), s14 _ (by omega), h1 _ _ hgw hy'⟩
      · walk_at "d"
        refine ⟨y', _, _, _, rfl, rfl, hy', fun z hz => ?_⟩
        rw [List.take_succ_eq_append_getElem hlt, ex] at hz
        rcases List.mem_append.mp hz with q | q
        · exact hno z q
        · obtain rfl : z = x := by simpa using q
          exact hno2
  · rintro r m ⟨y, o1, o2, o3, rfl, rfl, hy, hno⟩
    have el : ((stepsL w' here seen).drop b).length + (((stepsL w' here seen).take b).map sD).length = rot.length := by rw [← hrot, List.length_append, List.length_map]
    simp only [List.length_append, List.length_map] at hno el
    rw [el, List.take_length] at hno
    walk_at "d"
    refine h2 (fun ks hg => ?_) y hy
    cases ks with
    | nil => exact hl hg
    | cons k r =>
      obtain ⟨_, t, p', ht, hb, hn, hg2⟩ := hg
      exact hno (k, p') ((hrm _).mpr (mem_steps.mpr ⟨t, ht, hb, hn⟩)) r hg2
def zipC (ks : List Nat) (ts : List D) : List D := List.zipWith (fun k t => D.tup [.int (k : Nat), t]) ks ts
theorem zipC_len {ks : List Nat} {ts : List D} (h : ts.length = ks.length) : (zipC ks ts).length = ks.length := by
  unfold zipC
  rw [List.length_zipWith, h, Nat.min_self]
theorem zipC_snoc {ks : List Nat} {ts : List D} (h : ts.length = ks.length) (k : Nat) (t : D) : zipC (ks ++ [k]) (ts ++ [t]) = zipC ks ts ++ [.tup [.int (k : Nat), t]] := by
  unfold zipC
  rw [List.zipWith_append h.symm]
  rfl
theorem zipC_cB : ∀ {ks : List Nat} {ts : List D}, ts.length = ks.length → cB ks (zipC ks ts) = true
  | [], [], _ => rfl
  | [], _ :: _, h => by cases h
  | _ :: _, [], h => by cases h
  | k :: ks, t :: ts, h => by
    show (decide ((k : Int) = (k : Nat)) && cB ks (zipC ks ts)) = true
    rw [zipC_cB (by simpa using h), decide_eq_true rfl]
    rfl
theorem zipC_get {ks : List Nat} {ts : List D} {i : Nat} {e : D} (h : (zipC ks ts)[i]? = some e) : ∃ k t, ks[i]? = some k ∧ ts[i]? = some t ∧ e = .tup [.int (k : Nat), t] := by
  unfold zipC at h
  rw [List.getElem?_zipWith] at h
  cases e1 : ks[i]? with
  | none => rw [e1] at h; cases h
  | some k =>
    cases e2 : ts[i]? with
    | none => rw [e1, e2] at h; cases h
    | some t =>
      rw [e1, e2] at h
      cases h
      exact ⟨k, t, rfl, rfl, rfl⟩
abbrev S_l_paper (n : Nat) : Spc := fun ds m F X => ∃ (a : Addr) (y : MO) (w : Web) (purse : Rat) (T Kp : List Nat), ds = [.adr a, webD w, fD purse, tk T, tk Kp] ∧ m = [(a, y)] ∧ StOk y ∧ WebOk w ∧ Sz 20 purse ∧ T.Nodup ∧ (∀ k ∈ T, Free w k) ∧ T.length + n = 15 ∧ Kp.length ≤ 7 * T.length ∧
  (Reach w w.last → ∀ t y', Good w purse n t T Kp → TreeN n t → StOk y' → F t [(a, y')]) ∧ (¬ Reach w w.last → ∀ y', StOk y' → F .non [(a, y')])
def J_pp (n : Nat) (a : Addr) (w : Web) (purse : Rat) (T Kp ks : List Nat) (i : Nat) (r : Rho) (m : Mu) : Prop := ∃ (y : MO) (b : Addr) (o : Option D) (ts : List D), r = [some (.adr a), some (webD w), some (fD purse), some (tk T), some (tk Kp), some (tk ks), some (.adr b), some (tk (askL w purse ks T Kp)), o] ∧ m = [(a, y), (b, .l (zipC ((askL w purse ks T Kp).take i) ts))] ∧ StOk y ∧ ts.length = i ∧
  ∀ (j k : Nat) (t : D), (askL w purse ks T Kp)[j]? = some k → ts[j]? = some t → Good w purse n t (T ++ [k]) (Kp ++ (askL w purse ks T Kp).take j) ∧ TreeN n t
theorem sc_l_paper : FnScope ["_law_state", "_law_web_here", "_law_purse_here", "_law_taken", "_law_kept", "_law_way", "_law_cases", "_law_due", "_law_at"] ["_law_state", "_law_web_here", "_law_purse_here", "_law_taken", "_law_kept"] (defScope s_l_paper) := ⟨rfl, rfl, rfl, by decide +kernel, rfl, by decide +kernel, by decide +kernel⟩
theorem ok_l_paper {P : Program} {w : World} {K : PySem.W.Frag} {mg : Str → Option Value} {base : Heap} {n : Nat} (T : Tx K mg) (G_l_go : Fo P w K mg base CX0 (10 + 7) "_law_go" ["_law_state", "_law_web_here", "_law_taken", "_law_here", "_law_seen"] (spD K (NC K) 5 (S_l_go 7))) (G_l_can : Fo P w K mg base CX0 4 "_law_can" ["_law_web_here", "_law_purse_here", "_law_ties", "_law_taken", "_law_kept"] (spD K (NC K) 5 S_l_can)) (G_l_paper : Fo P w K mg base CX0 (30 + n) "_law_paper" ["_law_state", "_law_web_here", "_law_purse_here", "_law_taken", "_law_kept"] (spD K (NC K) 5 (S_l_paper n))) : Fo P w K mg base CX0 (30 + n + 1) "_law_paper" ["_law_state", "_law_web_here", "_law_purse_here", "_law_taken", "_law_kept"] (spD K (NC K) 5 (S_l_paper (n + 1))) := by
  refine Fo.mk_ T 64 56 rfl rfl rfl rfl rfl (fun _ _ _ _ _ _ us hl => match us, hl with | [_, _, _, _, _], _ => rfl) fun f fd F => ok_pure 1 F sc_l_paper rfl fun cdv A outer s H E I m ds Fv X hr h => ?_
  refine ⟨_, _, (pss_cons (ps_set (i := 5) sc_l_paper.nd rfl (.inl rfl) (pe_ownK K 1 G_l_go (hr.mono (by omega)) pass0 (pa_cons (pv 0) (pa_cons (pv 1) (pa_cons (pe_lst pa_nil) (pa_cons (pe_ix (o_ixK K) (pv 1) pe_int (fun _ _ => rfl)) (pa_cons (pe_lst (pa_cons (pe_ix (o_ixK K) (pv 1) pe_int (fun _ _ => rfl)) pa_nil)) pa_nil)))))))
    (pss_cons (ps_if (pt_cmpR o_is (pv 5) pe_non (nomark _)) (pss_one (ps_ret pe_non)) pss_nil)
    (pss_cons (ps_set (i := 6) sc_l_paper.nd rfl (.inl rfl) (pe_lstM pa_nil))
    (pss_cons (ps_set (i := 7) sc_l_paper.nd rfl (.inl rfl) (pe_ownK K 0 G_l_can (hr.mono (by omega)) pass0 (pa_cons (pv 1) (pa_cons (pv 2) (pa_cons (pv 5) (pa_cons (pv 3) (pa_cons (pv 4) pa_nil)))))))
    (pss_cons (ps_for PassesOwn.never rfl (pi_range1 rfl (T.b 89 rfl) (pa_cons (pe_bi c_len (T.b 85 rfl) bb_len (pa_cons (pv 7) pa_nil)) pa_nil)) (pg_name (i := 8) sc_l_paper.nd rfl (.inl rfl))
    (pss_one (ps_expr (as_app 1 (pe_bm PySem.F.plainAttrs_list PySem.F.slot_list_append PySem.F.type_list_append mt_append (pv 6) (pa_cons (pe_tup (pa_cons (pe_ix (o_ixK K) (pv 7) (pv 8) (fun _ _ => rfl)) (pa_cons (pe_ownK K 1 G_l_paper (hr.mono (by omega)) pass0 (pa_cons (pv 0) (pa_cons (pv 1) (pa_cons (pv 2) (pa_cons (pe_op o_add (pv 3) (pe_lst (pa_cons (pe_ix (o_ixK K) (pv 7) (pv 8) (fun _ _ => rfl)) pa_nil))) (pa_cons (pe_op o_add (pv 4) (pe_slice (sl_anyK K) (pv 7) po_none (po_some (pv 8)))) pa_nil)))))) pa_nil))) pa_nil))))))
    (pss_frz 6 1 (pss_one (ps_ret (pe_tup (pa_cons pe_str (pa_cons (pv 5) (pa_cons (pv 6) pa_nil)))))))))))), (by (try dsimp only [cxOf]); infer_instance), ?_⟩
  obtain ⟨a, y, w', purse, T', Kp, rfl, rfl, hy, hw, hp, nd, hT, hn, hKp, h1, h2⟩ := h
  have s1 := sl100 (n := 1) (by decide)
  have s0 := sl100 (n := 0) (by decide)
  walk_at "d"
  refine ⟨s0, s1, a, y, w', w'.first, [w'.first], rfl, rfl, hy, hw, by simp, fun z hz => ?_, rfl, fun ks y1 hg hy1 => ?_, fun hno y1 hy1 => ?_⟩
  · obtain rfl : z = w'.first := by simpa using hz
    exact hw.first
  · have hway := goodW_isWay hg
    obtain ⟨ks', e, hWK⟩ := isWay_K hw hway
    have e4 : ks = ks' := tk_inj (by injection e)
    subst e4
    have hr : Reach w' w'.last := ⟨ks, hWK.walk⟩
    have hk7 : ks.length ≤ 7 := by have := hWK.len; have := hw.hi; omega
    have h14 := hw.tl
    have hdl : (askL w' purse ks T' Kp).length ≤ 7 := Nat.le_trans (List.length_filter_le _ _) hk7
    walk_at "d"
    refine ⟨s0, fun b => ⟨w', purse, ks, T', Kp, rfl, rfl, hw, hp, hWK.lt, by omega, hT, by omega, ?_⟩⟩
    unfold dFor
    walk_at "d"
    refine ⟨by omega, by omega, fun i r m => J_pp n a w' purse T' Kp ks i r m, ⟨y1, b, none, [], rfl, rfl, hy1, rfl, fun j k t _ h => by simp at h⟩, fun _ _ _ _ => trivial, ?_, ?_⟩
    · rintro i d r m hi ⟨y, b, o, ts, rfl, rfl, hy, hts, hgd⟩
      obtain ⟨hj, rfl⟩ := rngD_get hi
      rw [Int.toNat_natCast] at hj
      obtain ⟨k, hik⟩ : ∃ k, (askL w' purse ks T' Kp)[i]? = some k := ⟨_, List.getElem?_eq_getElem hj⟩
      obtain ⟨hlt, ek⟩ := List.getElem?_eq_some_iff.mp hik
      obtain ⟨hkk, hkb⟩ := List.mem_filter.mp (List.mem_of_getElem? hik)
      unfold askB at hkb
      rw [Bool.and_eq_true, Bool.and_eq_true, Bool.and_eq_true, decide_eq_true_eq, decide_eq_true_eq] at hkb
      have hfr : Free w' k := (freeB_iff w' k).mp hkb.1
      have hkT : k ∉ T' := hkb.2.1
      have edk : ((askL w' purse ks T' Kp).map fun k => D.int (k : Nat))[i]? = some (.int (k : Nat)) := by rw [List.getElem?_map, hik]; rfl
      have e1 : (T'.map fun k => D.int (k : Nat)) ++ [.int (k : Nat)] = (T' ++ [k]).map fun k => D.int (k : Nat) := by rw [List.map_append]; rfl
      have e2 : (Kp.map fun k => D.int (k : Nat)) ++ ((askL w' purse ks T' Kp).take i).map (fun k => D.int (k : Nat)) = (Kp ++ (askL w' purse ks T' Kp).take i).map fun k => D.int (k : Nat) := by rw [List.map_append]
      have hti : ((askL w' purse ks T' Kp).take i).length = i := by rw [List.length_take]; omega
      rw [Int.zero_add]
      walk_at "d"
      rw [atN edk]
      walk_at "d"
      rw [cutD_hi _ _ (by rw [List.length_map]; omega), ← List.map_take, e1, e2]
      refine ⟨s1, sl100 (by omega), sl100 (by rw [List.length_map]; omega), a, y, w', purse, T' ++ [k], Kp ++ (askL w' purse ks T' Kp).take i, rfl, rfl, hy, hw, hp, ?_, ?_, ?_, ?_, fun _ t y2 ht1 ht2 hy2 => ?_, fun q => absurd hr q⟩
      · refine List.nodup_append.mpr ⟨nd, by simp, fun u hu v hv q => ?_⟩
        obtain rfl : v = k := by simpa using hv
        exact hkT (q ▸ hu)
      · intro j hj
        rcases List.mem_append.mp hj with q | q
        · exact hT j q
        · obtain rfl : j = k := by simpa using q
          exact hfr
      · rw [List.length_append, List.length_singleton]
        omega
      · rw [List.length_append, List.length_append, List.length_singleton]
        omega
      · walk_at "d"
        refine ⟨sl100 (by decide), ?_, y2, b, some (.int (i : Nat)), ts ++ [t], rfl, ?_, hy2, ?_, fun j k2 t2 hj2 ht2' => ?_⟩
        · rw [zipC_len (by rw [hti, hts])]
          exact Nat.lt_of_le_of_lt (m := 7) (by omega) (by decide)
        · rw [List.take_succ_eq_append_getElem hlt, ek, zipC_snoc (by rw [hti, hts])]
        · rw [List.length_append, hts]
          rfl
        · by_cases hji : j < ts.length
          · rw [List.getElem?_append_left hji] at ht2'
            exact hgd j k2 t2 hj2 ht2'
          · have hj0 : j = ts.length := by
              have := (List.getElem?_eq_some_iff.mp ht2').1
              rw [List.length_append, List.length_singleton] at this
              omega
            rw [hj0, List.getElem?_append_right (Nat.le_refl _), Nat.sub_self] at ht2'
            cases ht2'
            rw [hj0, hts] at hj2 ⊢
            rw [hik] at hj2
            cases hj2
            exact ⟨ht1, ht2⟩
    · rintro r m ⟨y, b, o, ts, rfl, rfl, hy, hts, hgd⟩
      rw [rngD_len, Int.toNat_natCast] at hts
      rw [rngD_len, Int.toNat_natCast, List.take_length]
      walk_at "d"
      have hzl := zipC_len (ks := askL w' purse ks T' Kp) (ts := ts) hts
      refine ⟨sl100 (by decide), h1 hr _ y ⟨ks, _, rfl, hway, hzl, zipC_cB hts, fun i k x t hik hx => ?_⟩ ⟨ks, _, rfl, hk7, by omega, fun k hk => Nat.lt_of_lt_of_le (hWK.lt k hk) h14, fun e he => ?_⟩ hy⟩
      · obtain ⟨k2, t2, g1, g2, g3⟩ := zipC_get hx
        cases g3
        rw [hik] at g1
        cases g1
        exact (hgd i k t hik g2).1
      · obtain ⟨i, hi, rfl⟩ := List.mem_iff_getElem.mp he
        obtain ⟨k2, t2, g1, g2, g3⟩ := zipC_get (List.getElem?_eq_getElem hi)
        have hm := (List.mem_filter.mp (List.mem_of_getElem? g1)).1
        exact ⟨k2, t2, g3, Nat.lt_of_lt_of_le (hWK.lt k2 hm) h14, (hgd i k2 t2 g1 g2).2⟩
  · have hr : ¬ Reach w' w'.last := fun q => by
      obtain ⟨ks, hg⟩ := (reach_good w').mp q
      exact hno ks hg
    walk_at "d"
    exact h2 hr y1 hy1
end FC
/-! THE WALK, 16: the law's bent papers. -/
namespace FC
open PySem PySem.Spec L2
local macro_rules | `(tactic| walk_at "d") => `(tactic| try simp only [dVar, dC, dOp, dUn, dAdd, dSub, dMul, dMod, dDiv, dPow, dNeg, dCmp, dEq, dNe, dEqv, dIsN, dNotN, isNon, dIn, inD, dInM, dIx, ixDs, dIxM, dChain, dB, asB, dAnd, dOr, dNot, dAndV, dOrV, dNotV, dIf, dNil, dCons, dTup, dLst, dLstM, dDic0, dDicM, dDisp1,
  dCB, dLen, dLenM, dAbs, dMax2, dMin2, dInt, dBool, dStr, dList, dListN, dListM, dTuple, dSorted, dDicC, dIsi, tyD_non, tyD_bl, tyD_int, tyD_str, tyD_lst, tyD_tup, tyD_dic, dNoPart, asI, dPart, dSl, dRev, dApp, dPopI, dRem, dEqNil, dEqNilM, dGet, dDGetM, dDGet, dDInM, dDInA, dDPopM, dEqD0, dEqDM, dJoin, dNext, dSeq, dDrop, dRet, dIfS, dNever, dgName, dgNil, dgCons, dgTup, dAsg, dSubM, dDPutM, dPar, dAug, dFrz, frzD, dFgt,
  diLst, diTup, diLstM, diRng1, diRng2, diStr, diEnum, diZip, dYes, dCall, endsD, startD, wipeD, dom,
  isTy_0_0, isTy_0_1, isTy_0_2, isTy_0_3, isTy_0_4, isTy_1_0, isTy_1_1, isTy_1_2, isTy_1_3, isTy_1_4, isTy_2_0, isTy_2_1, isTy_2_2, isTy_2_3, isTy_2_4, isTy_3_0, isTy_3_1, isTy_3_2, isTy_3_3, isTy_3_4, isTy_4_0, isTy_4_1, isTy_4_2, isTy_4_3, isTy_4_4, isTy_5_0, isTy_5_1, isTy_5_2, isTy_5_3, isTy_5_4, isTy_6_0, isTy_6_1, isTy_6_2, isTy_6_3, isTy_6_4,
  Int.cast_ofNat_Int, decide_true, decide_false, Int.reduceEq, Int.reduceLT, Int.reduceLE, atI_0, atI_1, atI_2, atI_3, atI_4, List.length_map, List.map_cons, List.map_nil, List.length_cons, List.length_nil, Nat.reduceAdd, Nat.reduceSub, List.reduceReplicate, List.cons_append, List.nil_append, List.append_nil, List.getElem?_cons_zero, List.getElem?_cons_succ, List.getElem?_nil, List.set_cons_zero, List.set_cons_succ, List.take_zero, List.drop_zero, List.take_succ_cons, List.drop_succ_cons,
  List.eraseIdx_cons_zero, List.eraseIdx_cons_succ, true_and, and_true, eq_self, and_self, if_true, if_false, Bool.false_eq_true, reduceIte, Bool.not_true, Bool.not_false, forall_const, exists_eq_left, exists_eq_left', exists_eq_right, exists_eq_right', exists_and_left, exists_const, D.adr.injEq, D.str.injEq, D.int.injEq, D.lst.injEq, D.tup.injEq, D.bl.injEq, Option.some.injEq, Prod.mk.injEq, MO.l.injEq, MO.d.injEq, List.cons.injEq, Function.const_apply, dLock, lckE, dDGetK, dFld, dSetF, dMeth, dMake, dRaise, diKeys, dGet, dAddM, List.not_mem_nil, false_implies, implies_true, List.mem_singleton, forall_eq, Option.isSome_none, Option.isSome_some, lcRes, exists_eq, exists_eq', List.length_append, List.length_singleton])

theorem visL_of : ∀ {ds : List D}, (∀ d ∈ ds, vis d = true) → visL ds = true
  | [], _ => rfl
  | d :: ds, h => by
    show (vis d && visL ds) = true
    rw [h d List.mem_cons_self, visL_of fun x hx => h x (List.mem_cons_of_mem _ hx)]
    rfl
theorem vis_L {ds : List D} (hl : ds.length ≤ 1000) (h : ∀ d ∈ ds, vis d = true) : vis (.lst ds) = true := by
  show (decide (ds.length ≤ 1000) && visL ds) = true
  rw [decide_eq_true hl, visL_of h]
  rfl
theorem vis_T {ds : List D} (h : ∀ d ∈ ds, vis d = true) : vis (.tup ds) = true := visL_of h
theorem vis_ints (ks : List Nat) : ∀ d ∈ ks.map fun k => D.int (k : Nat), vis d = true := fun d hd => by
  obtain ⟨k, _, rfl⟩ := List.mem_map.mp hd
  rfl
theorem cutD_mem {ds : List D} {lo hi : Option Int} {d : D} (h : d ∈ cutD ds lo hi) : d ∈ ds := by
  unfold cutD at h
  exact List.mem_of_mem_drop (List.mem_of_mem_take h)
theorem cutD_le {ds : List D} {lo hi : Option Int} : (cutD ds lo hi).length ≤ ds.length := by
  unfold cutD
  rw [List.length_take, List.length_drop]
  omega
theorem vis_app {as bs : List D} (ha : ∀ d ∈ as, vis d = true) (hb : ∀ d ∈ bs, vis d = true) : ∀ d ∈ as ++ bs, vis d = true := fun d hd => by
  rcases List.mem_append.mp hd with q | q
  · exact ha d q
  · exact hb d q
theorem vis_cut {ds : List D} (h : ∀ d ∈ ds, vis d = true) (lo hi : Option Int) : ∀ d ∈ cutD ds lo hi, vis d = true := fun d hd => h d (cutD_mem hd)
theorem vis_one {d : D} (h : vis d = true) : ∀ x ∈ [d], vis x = true := fun x hx => by
  obtain rfl : x = d := by simpa using hx
  exact h
theorem Tree_vis : ∀ {n : Nat} {t : D}, TreeN n t → vis t = true
  | 0, _, h => h.elim
  | n + 1, t, h => by
    obtain ⟨ks, es, rfl, h1, h2, h3, h4⟩ := h
    refine vis_T fun d hd => ?_
    simp only [List.mem_cons, List.not_mem_nil, or_false] at hd
    rcases hd with rfl | rfl | rfl
    · rfl
    · exact vis_L (by rw [List.length_map]; omega) (vis_ints ks)
    · refine vis_L (by omega) fun e he => ?_
      obtain ⟨k, y, rfl, _, hy⟩ := h4 e he
      refine vis_T fun d hd => ?_
      simp only [List.mem_cons, List.not_mem_nil, or_false] at hd
      rcases hd with rfl | rfl
      · rfl
      · exact Tree_vis hy
abbrev S_l_other_way : Spc := fun ds m F X => ∃ (a : Addr) (y : MO) (w : Web) (ks : List Nat), ds = [.adr a, webD w, tk ks] ∧ m = [(a, y)] ∧ StOk y ∧ WebOk w ∧ ks.length ≤ 7 ∧ ∀ d y', vis d = true → StOk y' → F d [(a, y')]
theorem sc_l_other_way : FnScope ["_law_state", "_law_web_here", "_law_way", "_law_turn", "_law_at", "_law_some", "_law_k"] ["_law_state", "_law_web_here", "_law_way"] (defScope s_l_other_way) := ⟨rfl, rfl, rfl, by decide +kernel, rfl, by decide +kernel, by decide +kernel⟩
theorem ok_l_other_way {P : Program} {w : World} {K : PySem.W.Frag} {mg : Str → Option Value} {base : Heap} (T : Tx K mg) (G_l_take : Fo P w K mg base CX0 1 "_law_take" ["_law_state", "_law_many"] (spD K (NC K) 2 S_l_take)) : Fo P w K mg base CX0 2 "_law_other_way" ["_law_state", "_law_web_here", "_law_way"] (spD K (NC K) 3 S_l_other_way) := by
  refine Fo.mk_ T 67 59 rfl rfl rfl rfl rfl (fun _ _ _ _ _ _ us hl => match us, hl with | [_, _, _], _ => rfl) fun f fd F => ok_pure 1 F sc_l_other_way rfl fun cdv A outer s H E I m ds Fv X hr h => ?_
  refine ⟨_, _, (pss_cons (ps_set (i := 3) sc_l_other_way.nd rfl (.inl rfl) (pe_ownK K 1 G_l_take (hr.mono (by decide)) pass0 (pa_cons (pv 0) (pa_cons pe_int pa_nil))))
    (pss_cons (ps_set (i := 4) sc_l_other_way.nd rfl (.inr rfl) (pe_ownK K 1 G_l_take (hr.mono (by decide)) pass0 (pa_cons (pv 0) (pa_cons (pe_op o_add (pe_bi c_len (T.b 85 rfl) bb_len (pa_cons (pv 2) pa_nil)) pe_int) pa_nil))))
    (pss_cons (ps_set (i := 5) sc_l_other_way.nd rfl (.inl rfl) (pe_op o_sub (pe_ownK K 1 G_l_take (hr.mono (by decide)) pass0 (pa_cons (pv 0) (pa_cons (pe_op o_add (pe_bi c_len (T.b 85 rfl) bb_len (pa_cons (pe_ix (o_ixK K) (pv 1) pe_int (fun _ _ => rfl)) pa_nil)) pe_int) pa_nil))) pe_int))
    (pss_cons (ps_if (pt_cmpR op_eq (pv 3) pe_int (nomark _)) (pss_one (ps_ret (pe_op o_add (pe_slice (sl_anyK K) (pv 2) po_none (po_some (pv 4))) (pe_slice (sl_anyK K) (pv 2) (po_some (pe_op o_add (pv 4) pe_int)) po_none)))) pss_nil)
    (pss_cons (ps_if (pt_cmpR op_eq (pv 3) pe_int (nomark _)) (pss_one (ps_ret (pe_op o_add (pe_op o_add (pe_slice (sl_anyK K) (pv 2) po_none (po_some (pv 4))) (pe_lst (pa_cons (pv 5) pa_nil))) (pe_slice (sl_anyK K) (pv 2) (po_some (pv 4)) po_none)))) pss_nil)
    (pss_cons (ps_if (pt_cmpR op_eq (pv 3) pe_int (nomark _)) (pss_one (ps_ret (pe_op o_add (pe_op o_add (pe_slice (sl_anyK K) (pv 2) po_none (po_some (pv 4))) (pe_lst (pa_cons (pv 5) pa_nil))) (pe_slice (sl_anyK K) (pv 2) (po_some (pe_op o_add (pv 4) pe_int)) po_none)))) pss_nil)
    (pss_cons (ps_if (pt_cmpR op_eq (pv 3) pe_int (nomark _)) (pss_one (ps_ret (pe_revL (pv 2)))) pss_nil)
    (pss_cons (ps_if (pt_cmpR op_eq (pv 3) pe_int (nomark _)) (pss_one (ps_ret (pe_op o_add (as_lc [6] (pe_lc (own := [("_law_k", 6)]) rfl sc_l_other_way.nd (pi_range1 rfl (T.b 89 rfl) (pa_cons (pe_bi c_len (T.b 85 rfl) bb_len (pa_cons (pv 2) pa_nil)) pa_nil)) (blkOk_by (own := [("_law_k", 6)]) (N := ["_law_state", "_law_web_here", "_law_way", "_law_turn", "_law_at", "_law_some", "_law_k"]) (sc := defScope s_l_other_way) (by decide +kernel)) (fun _ _ _ _ _ => (pg_name (i := 6) sc_l_other_way.nd rfl (.inl rfl))) (fun _ _ _ _ _ => pts_one (pt_cmpR op_ne (pv 6) (pv 4) (nomark _))) (fun _ _ _ _ _ => (pe_ix (o_ixK K) (pv 2) (pv 6) (fun _ _ => rfl))))) (pe_slice (sl_anyK K) (pv 2) (po_some (pv 4)) (po_some (pe_op o_add (pv 4) pe_int)))))) pss_nil)
    (pss_cons (ps_if (pt_cmpR op_eq (pv 3) pe_int (nomark _)) (pss_one (ps_ret (pe_ix (o_ixK K) (pe_lst (pa_cons (pe_bt c_tuple (T.b 92 rfl) bb_tuple (pa_cons (pv 2) pa_nil)) (pa_cons pe_non (pa_cons pe_str (pa_cons pe_dnewK (pa_cons (pe_lst (pa_cons pe_non pa_nil)) (pa_cons (pe_lst (pa_cons (pe_lst pa_nil) pa_nil)) (pa_cons (pe_op o_add (pv 2) (pe_lst (pa_cons pe_bl pa_nil))) (pa_cons (pe_lst (pa_cons (pv 2) pa_nil)) pa_nil))))))))) (pe_op o_mod (pv 4) pe_int) (fun _ _ => rfl)))) pss_nil)
    (pss_one (ps_ret (as_lc [6] (pe_lc (own := [("_law_k", 6)]) rfl sc_l_other_way.nd (pi_list (pv 2)) (blkOk_by (own := [("_law_k", 6)]) (N := ["_law_state", "_law_web_here", "_law_way", "_law_turn", "_law_at", "_law_some", "_law_k"]) (sc := defScope s_l_other_way) (by decide +kernel)) (fun _ _ _ _ _ => (pg_name (i := 6) sc_l_other_way.nd rfl (.inl rfl))) (fun _ _ _ _ _ => pts_nil) (fun _ _ _ _ _ => (pe_ifExp (pt_cmpR (o_inK K) (pv 6) (pe_tup (pa_cons pe_int (pa_cons pe_int pa_nil))) (by rfl)) (pe_cmpR op_eq (pv 6) pe_int (nomark _)) (pv 6)))))))))))))))), (by (try dsimp only [cxOf]); infer_instance), ?_⟩
  obtain ⟨a, y, w', ks, rfl, rfl, hy, hw, hk7, h⟩ := h
  have hl14 := hw.tl
  have sL : ∀ n, n ≤ 100 → n ≤ sizeLine := fun n hn => sl100 (by omega)
  refine seq_mid (fun r m => ∃ (y : MO) (turn : Nat), r = [some (.adr a), some (webD w'), some (tk ks), some (.int (turn : Nat)), none, none, none] ∧ m = [(a, y)] ∧ StOk y) (fun R hR => ?_) ?_
  · walk_at "d"
    refine ⟨a, y, 8, rfl, rfl, hy, by decide, by decide, fun r y1 h0 h1 hy1 => ?_⟩
    obtain ⟨i, rfl, hi⟩ := nat_of h0 h1
    exact hR _ _ ⟨y1, i, rfl, rfl, hy1⟩
  rintro r m ⟨y, turn, rfl, rfl, hy⟩
  refine seq_mid (fun r m => ∃ (y : MO) (at_ : Nat), r = [some (.adr a), some (webD w'), some (tk ks), some (.int (turn : Nat)), some (.int (at_ : Nat)), none, none] ∧ m = [(a, y)] ∧ StOk y) (fun R hR => ?_) ?_
  · walk_at "d"
    refine ⟨a, y, ks.length + 1, rfl, rfl, hy, by omega, by omega, fun r y1 h0 h1 hy1 => ?_⟩
    obtain ⟨i, rfl, hi⟩ := nat_of h0 h1
    exact hR _ _ ⟨y1, i, rfl, rfl, hy1⟩
  rintro r m ⟨y, at_, rfl, rfl, hy⟩
  refine seq_mid (fun r m => ∃ (y : MO) (some_ : Int), r = [some (.adr a), some (webD w'), some (tk ks), some (.int (turn : Nat)), some (.int (at_ : Nat)), some (.int some_), none] ∧ m = [(a, y)] ∧ StOk y) (fun R hR => ?_) ?_
  · walk_at "d"
    refine ⟨a, y, w'.ties.length + 2, rfl, rfl, hy, by omega, by omega, fun r y1 h0 h1 hy1 => ?_⟩
    exact hR _ _ ⟨y1, _, rfl, rfl, hy1⟩
  rintro r m ⟨y, some_, rfl, rfl, hy⟩
  have hv := vis_ints ks
  have hcl : ∀ lo hi, (cutD (ks.map fun k => D.int (k : Nat)) lo hi).length ≤ 7 := fun lo hi => Nat.le_trans cutD_le (by rw [List.length_map]; exact hk7)
  have fin : ∀ d, vis d = true → Fv d [(a, y)] := fun d hd => h d y hd hy
  have hlen : (ks.map fun k => D.int (k : Nat)).length ≤ 7 := by rw [List.length_map]; exact hk7
  have hvw : vis (tk ks) = true := vis_L (by omega) hv
  have e8 : ((at_ : Nat) : Int) % 8 = ((at_ % 8 : Nat) : Int) := rfl
  have h8 : at_ % 8 < 8 := Nat.mod_lt _ (by decide)
  walk_at "d"
  split
  · have q1 := hcl none (some (at_ : Int)); have q2 := hcl (some ((at_ : Int) + 1)) none
    exact ⟨sL _ (by omega), fin _ (vis_L (by rw [List.length_append]; omega) (vis_app (vis_cut hv _ _) (vis_cut hv _ _)))⟩
  split
  · have q1 := hcl none (some (at_ : Int)); have q2 := hcl (some (at_ : Int)) none
    exact ⟨sL _ (by omega), sL _ (by omega), sL _ (by omega), fin _ (vis_L (by rw [List.length_append, List.length_append, List.length_singleton]; omega) (vis_app (vis_app (vis_cut hv _ _) (vis_one rfl)) (vis_cut hv _ _)))⟩
  split
  · have q1 := hcl none (some (at_ : Int)); have q2 := hcl (some ((at_ : Int) + 1)) none
    exact ⟨sL _ (by omega), sL _ (by omega), sL _ (by omega), fin _ (vis_L (by rw [List.length_append, List.length_append, List.length_singleton]; omega) (vis_app (vis_app (vis_cut hv _ _) (vis_one rfl)) (vis_cut hv _ _)))⟩
  split
  · exact fin _ (vis_L (by rw [List.length_reverse]; omega) fun d hd => hv d (List.mem_reverse.mp hd))
  split
  · refine lc_opt (rngD 0 ks.length) ((List.range ks.length).map fun i => if i = at_ then none else some (.int ((ks.getD i 0 : Nat) : Int))) anyMu (fun G h => ?_) (fun _ => trivial) (by rw [rngD_len, List.length_map, List.length_range]) (by rw [rngD_len]; omega) ?_ ?_
    · walk_at "d"
      exact ⟨by omega, by omega, h⟩
    · intro i d o acc p G E h1 h2 h3 h4
      obtain ⟨hj, rfl⟩ := rngD_get h1
      rw [List.getElem?_map, List.getElem?_range hj] at h2
      cases h2
      have ek : (ks.map fun k => D.int (k : Nat))[i]? = some (.int ((ks.getD i 0 : Nat) : Int)) := by
        rw [List.getElem?_map, List.getD_eq_getElem?_getD, List.getElem?_eq_getElem hj]
        rfl
      rw [Int.zero_add]
      walk_at "d"
      by_cases hia : i = at_
      · rw [if_neg (by simp [hia])]
        exact h4 (if_pos hia)
      · rw [if_pos (by simp; omega), atN ek]
        walk_at "d"
        exact h3 _ (if_neg hia)
    · have hr : ∀ d ∈ ((List.range ks.length).map fun i => if i = at_ then none else some (D.int ((ks.getD i 0 : Nat) : Int))).filterMap id, vis d = true := fun d hd => by
        obtain ⟨o, h1, h2⟩ := List.mem_filterMap.mp hd
        obtain ⟨i, _, rfl⟩ := List.mem_map.mp h1
        split at h2
        · cases h2
        · cases h2
          rfl
      have hrl : (((List.range ks.length).map fun i => if i = at_ then none else some (D.int ((ks.getD i 0 : Nat) : Int))).filterMap id).length ≤ 7 := by
        refine Nat.le_trans (List.length_filterMap_le _ _) ?_
        rw [List.length_map, List.length_range]
        exact hk7
      have q1 := hcl (some (at_ : Int)) (some ((at_ : Int) + 1))
      walk_at "d"
      exact ⟨sL _ (by omega), fin _ (vis_L (by rw [List.length_append]; omega) (vis_app hr (vis_cut hv _ _)))⟩
  split
  · rw [e8]
    refine ⟨sL _ (by decide), sL _ (by decide), sL _ (by decide), sL _ (by decide), sL _ (by omega), sL _ (by decide), sL _ (by decide), ?_⟩
    obtain ⟨d, hd, hvd⟩ : ∃ d, ([D.tup (ks.map fun k => D.int (k : Nat)), .non, .str "way", .dic [] [], .lst [.non], .lst [.lst []], .lst ((ks.map fun k => D.int (k : Nat)) ++ [.bl true]), .lst [tk ks]] : List D)[at_ % 8]? = some d ∧ vis d = true := by
      match at_ % 8, h8 with
      | 0, _ => exact ⟨_, rfl, vis_T hv⟩
      | 1, _ => exact ⟨_, rfl, rfl⟩
      | 2, _ => exact ⟨_, rfl, rfl⟩
      | 3, _ => exact ⟨_, rfl, rfl⟩
      | 4, _ => exact ⟨_, rfl, rfl⟩
      | 5, _ => exact ⟨_, rfl, rfl⟩
      | 6, _ => exact ⟨_, rfl, vis_L (by rw [List.length_append, List.length_singleton]; omega) (vis_app hv (vis_one rfl))⟩
      | 7, _ => exact ⟨_, rfl, vis_L (by simp) (vis_one hvw)⟩
    rw [atN hd]
    exact fin d hvd
  · refine lc_map ks (fun k => .int (k : Nat)) (fun k => if k = 0 ∨ k = 1 then .bl (decide (((k : Nat) : Int) = 1)) else .int (k : Nat)) anyMu (fun G h => ?_) (fun _ => trivial) (by omega) ?_ ?_
    · walk_at "d"
      exact h
    · intro k hk t G E hG
      have ei : inDs (.int ((k : Nat) : Int)) [.int 0, .int 1] = some (decide (k = 0 ∨ k = 1)) := by
        have := inDs_int ((k : Nat) : Int) [0, 1]
        refine this.trans ?_
        congr 1
        refine decide_eq_decide.mpr ?_
        simp
        omega
      walk_at "d"
      rw [ei]
      by_cases hk1 : k = 0 ∨ k = 1
      · rw [if_pos hk1] at hG
        rw [decide_eq_true hk1]
        walk_at "d"
        exact ⟨sL _ (by decide), hG⟩
      · rw [if_neg hk1] at hG
        rw [decide_eq_false hk1]
        walk_at "d"
        exact ⟨sL _ (by decide), hG⟩
    · walk_at "d"
      refine fin _ (vis_L (by rw [List.length_map]; omega) fun d hd => ?_)
      obtain ⟨k, _, rfl⟩ := List.mem_map.mp hd
      show vis (if k = 0 ∨ k = 1 then _ else _) = true
      split <;> rfl
def CaseOk (e : D) : Prop := ∃ (k : Nat) (n : Nat) (y : D), e = .tup [.int (k : Nat), y] ∧ k < 14 ∧ TreeN n y
theorem CaseOk.vis {e : D} (h : CaseOk e) : vis e = true := by
  obtain ⟨k, n, y, rfl, _, hy⟩ := h
  refine vis_T fun d hd => ?_
  simp only [List.mem_cons, List.not_mem_nil, or_false] at hd
  rcases hd with rfl | rfl
  · rfl
  · exact Tree_vis hy
abbrev S_l_other_cases : Spc := fun ds m F X => ∃ (a : Addr) (y : MO) (cs : List D), ds = [.adr a, .lst cs] ∧ m = [(a, y)] ∧ StOk y ∧ cs.length ≤ 7 ∧ (∀ e ∈ cs, CaseOk e) ∧ ∀ d y', vis d = true → StOk y' → F d [(a, y')]
theorem vis_2 {x y : D} (hx : vis x = true) (hy : vis y = true) : vis (.tup [x, y]) = true := vis_T fun d hd => by
  simp only [List.mem_cons, List.not_mem_nil, or_false] at hd
  rcases hd with rfl | rfl
  · exact hx
  · exact hy
theorem vis_3 {x y z : D} (hx : vis x = true) (hy : vis y = true) (hz : vis z = true) : vis (.tup [x, y, z]) = true := vis_T fun d hd => by
  simp only [List.mem_cons, List.not_mem_nil, or_false] at hd
  rcases hd with rfl | rfl | rfl
  · exact hx
  · exact hy
  · exact hz
theorem sc_l_other_cases : FnScope ["_law_state", "_law_cases", "_law_turn", "_law_at", "_law_tie_here", "_law_inner", "_law_other"] ["_law_state", "_law_cases"] (defScope s_l_other_cases) := ⟨rfl, rfl, rfl, by decide +kernel, rfl, by decide +kernel, by decide +kernel⟩
theorem ok_l_other_cases {P : Program} {w : World} {K : PySem.W.Frag} {mg : Str → Option Value} {base : Heap} (T : Tx K mg) (G_l_take : Fo P w K mg base CX0 1 "_law_take" ["_law_state", "_law_many"] (spD K (NC K) 2 S_l_take)) : Fo P w K mg base CX0 2 "_law_other_cases" ["_law_state", "_law_cases"] (spD K (NC K) 2 S_l_other_cases) := by
  refine Fo.mk_ T 68 60 rfl rfl rfl rfl rfl (fun _ _ _ _ _ _ us hl => match us, hl with | [_, _], _ => rfl) fun f fd F => ok_pure 1 F sc_l_other_cases rfl fun cdv A outer s H E I m ds Fv X hr h => ?_
  refine ⟨_, _, (pss_cons (ps_set (i := 2) sc_l_other_cases.nd rfl (.inl rfl) (pe_ownK K 1 G_l_take (hr.mono (by decide)) pass0 (pa_cons (pv 0) (pa_cons pe_int pa_nil))))
    (pss_cons (ps_set (i := 3) sc_l_other_cases.nd rfl (.inl rfl) (pe_ownK K 1 G_l_take (hr.mono (by decide)) pass0 (pa_cons (pv 0) (pa_cons (pe_bi (c_max2 rfl) (T.b 87 rfl) bb_max (pa_cons pe_int (pa_cons (pe_bi c_len (T.b 85 rfl) bb_len (pa_cons (pv 1) pa_nil)) pa_nil))) pa_nil))))
    (pss_cons (ps_if (pt_cmpR (o_eqNil hr.units0) (pv 1) (pe_lst pa_nil) (nomark _)) (pss_one (ps_ret (pe_ix (o_ixK K) (pe_lst (pa_cons (pe_lst (pa_cons (pe_tup (pa_cons pe_int (pa_cons (pe_tup (pa_cons pe_str (pa_cons (pe_lst (pa_cons pe_int pa_nil)) (pa_cons (pe_lst pa_nil) pa_nil)))) pa_nil))) pa_nil)) (pa_cons (pe_tup pa_nil) (pa_cons pe_non (pa_cons (pe_lst (pa_cons pe_non pa_nil)) (pa_cons (pe_lst (pa_cons (pe_tup pa_nil) pa_nil)) (pa_cons pe_dnewK (pa_cons (pe_lst (pa_cons (pe_lst pa_nil) pa_nil)) (pa_cons (pe_lst (pa_cons pe_str pa_nil)) (pa_cons (pe_lst (pa_cons (pe_tup (pa_cons pe_int pa_nil)) pa_nil)) pa_nil)))))))))) (pv 2) (fun _ _ => rfl)))) pss_nil)
    (pss_cons (ps_asg (pe_ix (o_ixK K) (pv 1) (pv 3) (fun _ _ => rfl)) (pg_tup rfl (pgs_cons (pg_name (i := 4) sc_l_other_cases.nd rfl (.inl rfl)) (pgs_cons (pg_name (i := 5) sc_l_other_cases.nd rfl (.inl rfl)) pgs_nil))))
    (pss_cons (ps_if (pt_cmpR o_lt (pv 2) pe_int (nomark _)) (pss_one (ps_ret (pe_op o_add (pe_slice (sl_anyK K) (pv 1) po_none (po_some (pv 3))) (pe_slice (sl_anyK K) (pv 1) (po_some (pe_op o_add (pv 3) pe_int)) po_none)))) pss_nil)
    (pss_cons (ps_if (pt_cmpR op_eq (pv 2) pe_int (nomark _)) (pss_one (ps_ret (pe_op o_add (pe_op o_add (pe_slice (sl_anyK K) (pv 1) po_none (po_some (pv 3))) (pe_slice (sl_anyK K) (pv 1) (po_some (pv 3)) (po_some (pe_op o_add (pv 3) pe_int)))) (pe_slice (sl_anyK K) (pv 1) (po_some (pv 3)) po_none)))) pss_nil)
    (pss_cons (ps_if (pt_cmpR op_eq (pv 2) pe_int (nomark _)) (pss_one (ps_ret (pe_op o_add (pe_slice (sl_anyK K) (pv 1) (po_some pe_int) po_none) (pe_slice (sl_anyK K) (pv 1) po_none (po_some pe_int))))) pss_nil)
    (pss_cons (ps_if (pt_cmpR op_eq (pv 2) pe_int (nomark _)) (pss_cons (ps_set (i := 6) sc_l_other_cases.nd rfl (.inl rfl) (pe_ix (o_ixK K) (pe_lst (pa_cons (pe_tup (pa_cons (pv 4) pa_nil)) (pa_cons (pe_lst (pa_cons (pv 4) (pa_cons (pv 5) pa_nil))) (pa_cons (pe_tup (pa_cons (pv 4) (pa_cons (pv 5) (pa_cons pe_int pa_nil)))) (pa_cons (pe_tup (pa_cons (pv 5) (pa_cons (pv 4) pa_nil))) (pa_cons (pv 4) pa_nil)))))) (pe_ownK K 1 G_l_take (hr.mono (by decide)) pass0 (pa_cons (pv 0) (pa_cons pe_int pa_nil))) (fun _ _ => rfl)))
    (pss_one (ps_ret (pe_op o_add (pe_op o_add (pe_slice (sl_anyK K) (pv 1) po_none (po_some (pv 3))) (pe_lst (pa_cons (pv 6) pa_nil))) (pe_slice (sl_anyK K) (pv 1) (po_some (pe_op o_add (pv 3) pe_int)) po_none))))) pss_nil)
    (pss_cons (ps_if (pt_cmpR op_eq (pv 2) pe_int (nomark _)) (pss_cons (ps_set (i := 6) sc_l_other_cases.nd rfl (.inl rfl) (pe_ix (o_ixK K) (pe_lst (pa_cons (pe_op o_add (pv 4) pe_int) (pa_cons (pe_bt c_str (T.b 91 rfl) bb_str (pa_cons (pv 4) pa_nil)) (pa_cons (pe_bt c_bool (T.b 80 rfl) bb_bool (pa_cons (pv 4) pa_nil)) (pa_cons pe_non pa_nil))))) (pe_ownK K 1 G_l_take (hr.mono (by decide)) pass0 (pa_cons (pv 0) (pa_cons pe_int pa_nil))) (fun _ _ => rfl)))
    (pss_one (ps_ret (pe_op o_add (pe_op o_add (pe_slice (sl_anyK K) (pv 1) po_none (po_some (pv 3))) (pe_lst (pa_cons (pe_tup (pa_cons (pv 6) (pa_cons (pv 5) pa_nil))) pa_nil))) (pe_slice (sl_anyK K) (pv 1) (po_some (pe_op o_add (pv 3) pe_int)) po_none))))) pss_nil)
    (pss_cons (ps_if (pt_cmpR op_eq (pv 2) pe_int (nomark _)) (pss_one (ps_ret (pe_ix (o_ixK K) (pe_lst (pa_cons (pe_bt c_tuple (T.b 92 rfl) bb_tuple (pa_cons (pv 1) pa_nil)) (pa_cons pe_dnewK (pa_cons pe_non pa_nil)))) (pe_op o_mod (pv 3) pe_int) (fun _ _ => rfl)))) pss_nil)
    (pss_cons (ps_if (pt_cmpR op_eq (pv 2) pe_int (nomark _)) (pss_one (ps_ret (pe_op o_add (pe_op o_add (pe_slice (sl_anyK K) (pv 1) po_none (po_some (pv 3))) (pe_lst (pa_cons (pe_tup (pa_cons (pv 4) (pa_cons (pe_ix (o_ixK K) (pe_lst (pa_cons pe_non (pa_cons (pe_lst pa_nil) (pa_cons pe_str (pa_cons (pe_ix (o_ixK K) (pv 5) pe_int (fun _ _ => rfl)) pa_nil))))) (pe_op o_mod (pv 3) pe_int) (fun _ _ => rfl)) pa_nil))) pa_nil))) (pe_slice (sl_anyK K) (pv 1) (po_some (pe_op o_add (pv 3) pe_int)) po_none)))) pss_nil)
    (pss_one (ps_ret (pe_op o_add (pv 1) (pe_lst (pa_cons (pe_tup (pa_cons (pe_op o_add (pv 4) pe_int) (pa_cons (pv 5) pa_nil))) pa_nil)))))))))))))))), (by (try dsimp only [cxOf]); infer_instance), ?_⟩
  obtain ⟨a, y, cs, rfl, rfl, hy, hc7, hcs, h⟩ := h
  have sL : ∀ n, n ≤ 100 → n ≤ sizeLine := fun n hn => sl100 (by omega)
  refine seq_mid (fun r m => ∃ (y : MO) (turn : Nat), r = [some (.adr a), some (.lst cs), some (.int (turn : Nat)), none, none, none, none] ∧ m = [(a, y)] ∧ StOk y ∧ turn < 9) (fun R hR => ?_) ?_
  · walk_at "d"
    refine ⟨a, y, 9, rfl, rfl, hy, by decide, by decide, fun r y1 h0 h1 hy1 => ?_⟩
    obtain ⟨i, rfl, hi⟩ := nat_of h0 h1
    exact hR _ _ ⟨y1, i, rfl, rfl, hy1, hi⟩
  rintro r m ⟨y, turn, rfl, rfl, hy, ht9⟩
  refine seq_mid (fun r m => ∃ (y : MO) (at_ : Nat), r = [some (.adr a), some (.lst cs), some (.int (turn : Nat)), some (.int (at_ : Nat)), none, none, none] ∧ m = [(a, y)] ∧ StOk y ∧ (cs ≠ [] → at_ < cs.length)) (fun R hR => ?_) ?_
  · walk_at "d"
    refine ⟨a, y, max 1 (cs.length : Int), rfl, rfl, hy, by omega, by omega, fun r y1 h0 h1 hy1 => ?_⟩
    obtain ⟨i, rfl, hi⟩ := nat_of h0 h1
    refine hR _ _ ⟨y1, i, rfl, rfl, hy1, fun hne => ?_⟩
    have := List.length_pos_iff.mpr hne
    omega
  rintro r m ⟨y, at_, rfl, rfl, hy, hat⟩
  have fin : ∀ d y, StOk y → vis d = true → Fv d [(a, y)] := fun d y hy hd => h d y hd hy
  have hv : ∀ d ∈ cs, vis d = true := fun d hd => (hcs d hd).vis
  have hcl : ∀ lo hi, (cutD cs lo hi).length ≤ 7 := fun lo hi => Nat.le_trans cutD_le hc7
  refine seq_mid (fun r m => ∃ (y : MO), r = [some (.adr a), some (.lst cs), some (.int (turn : Nat)), some (.int (at_ : Nat)), none, none, none] ∧ m = [(a, y)] ∧ StOk y ∧ cs ≠ []) (fun R hR => ?_) ?_
  · cases hcn : cs with
    | nil =>
      subst hcn
      walk_at "d"
      rw [if_pos (by rfl)]
      repeat refine And.intro (sL _ (by decide)) ?_
      obtain ⟨d, hd, hvd⟩ : ∃ d, ([D.lst [D.tup [D.int 0, D.tup [D.str "way", D.lst [D.int 0], D.lst []]]], D.tup [], D.non, D.lst [D.non], D.lst [D.tup []], D.dic [] [], D.lst [D.lst []], D.lst [D.str "way"], D.lst [D.tup [D.int 0]]] : List D)[turn]? = some d ∧ vis d = true := by
        match turn, ht9 with
        | 0, _ => exact ⟨_, rfl, rfl⟩
        | 1, _ => exact ⟨_, rfl, rfl⟩
        | 2, _ => exact ⟨_, rfl, rfl⟩
        | 3, _ => exact ⟨_, rfl, rfl⟩
        | 4, _ => exact ⟨_, rfl, rfl⟩
        | 5, _ => exact ⟨_, rfl, rfl⟩
        | 6, _ => exact ⟨_, rfl, rfl⟩
        | 7, _ => exact ⟨_, rfl, rfl⟩
        | 8, _ => exact ⟨_, rfl, rfl⟩
      rw [atN hd]
      exact fin d y hy hvd
    | cons c0 cr =>
      rw [← hcn]
      have hne : cs ≠ [] := by rw [hcn]; simp
      have hie : cs.isEmpty = false := by rw [hcn]; rfl
      walk_at "d"
      rw [hie, if_neg (by decide)]
      exact ⟨sL _ (by decide), hR _ _ ⟨y, rfl, rfl, hy, hne⟩⟩
  rintro r m ⟨y, rfl, rfl, hy, hne⟩
  have hat := hat hne
  obtain ⟨k, n, inner, he, hk14, hin⟩ := hcs _ (List.getElem_mem hat)
  have hg : cs[at_]? = some (.tup [.int (k : Nat), inner]) := by rw [List.getElem?_eq_getElem hat, he]
  refine seq_mid (fun r m => r = [some (.adr a), some (.lst cs), some (.int (turn : Nat)), some (.int (at_ : Nat)), some (.int (k : Nat)), some inner, none] ∧ m = [(a, y)]) (fun R hR => ?_) ?_
  · walk_at "d"
    rw [atN hg]
    walk_at "d"
    exact ⟨rfl, hR _ _ ⟨rfl, rfl⟩⟩
  rintro r m ⟨rfl, rfl⟩
  have hvi := Tree_vis hin
  have q0 := hcl none (some (at_ : Int))
  have q1 := hcl (some (at_ : Int)) none
  have q2 := hcl (some ((at_ : Int) + 1)) none
  have q3 := hcl (some (at_ : Int)) (some ((at_ : Int) + 1))
  have q4 := hcl (some 1) none
  have q5 := hcl none (some 1)
  have vc := fun lo hi => vis_cut hv lo hi
  have put : ∀ d, vis d = true → vis (.lst (cutD cs none (some (at_ : Int)) ++ [d] ++ cutD cs (some ((at_ : Int) + 1)) none)) = true := fun d hd => vis_L (by rw [List.length_append, List.length_append, List.length_singleton]; omega) (vis_app (vis_app (vc _ _) (vis_one hd)) (vc _ _))
  walk_at "d"
  split
  · exact ⟨sL _ (by omega), fin _ y hy (vis_L (by rw [List.length_append]; omega) (vis_app (vc _ _) (vc _ _)))⟩
  split
  · exact ⟨sL _ (by omega), sL _ (by omega), fin _ y hy (vis_L (by rw [List.length_append, List.length_append]; omega) (vis_app (vis_app (vc _ _) (vc _ _)) (vc _ _)))⟩
  split
  · exact ⟨sL _ (by omega), fin _ y hy (vis_L (by rw [List.length_append]; omega) (vis_app (vc _ _) (vc _ _)))⟩
  split
  · repeat refine And.intro (sL _ (by decide)) ?_
    refine ⟨a, y, 5, rfl, rfl, hy, by decide, by decide, fun r y1 h0 h1 hy1 => ?_⟩
    obtain ⟨i, rfl, hi⟩ := nat_of h0 h1
    have hi : i < 5 := hi
    obtain ⟨d, hd, hvd⟩ : ∃ d, ([D.tup [D.int (k : Nat)], D.lst [D.int (k : Nat), inner], D.tup [D.int (k : Nat), inner, D.int 0], D.tup [inner, D.int (k : Nat)], D.int (k : Nat)] : List D)[i]? = some d ∧ vis d = true := by
      match i, hi with
      | 0, _ => exact ⟨_, rfl, rfl⟩
      | 1, _ => exact ⟨_, rfl, vis_L (by simp) (vis_app (as := [_]) (vis_one rfl) (vis_one hvi))⟩
      | 2, _ => exact ⟨_, rfl, vis_3 rfl hvi rfl⟩
      | 3, _ => exact ⟨_, rfl, vis_2 hvi rfl⟩
      | 4, _ => exact ⟨_, rfl, rfl⟩
    walk_at "d"
    rw [atN hd]
    walk_at "d"
    exact ⟨sL _ (by decide), sL _ (by omega), sL _ (by omega), fin _ y1 hy1 (put d hvd)⟩
  split
  · refine ⟨?_, fun z => ⟨sL _ (by decide), ?_⟩⟩
    · have : (k : Int).natAbs.log2 ≤ (k : Int).natAbs := Nat.log2_le_self _
      omega
    refine ⟨a, y, 4, rfl, rfl, hy, by decide, by decide, fun r y1 h0 h1 hy1 => ?_⟩
    obtain ⟨i, rfl, hi⟩ := nat_of h0 h1
    have hi : i < 4 := hi
    obtain ⟨d, hd, hvd⟩ : ∃ d, ([D.int ((k : Nat) + 1), D.str z, D.bl (((k : Nat) : Int) != 0), D.non] : List D)[i]? = some d ∧ vis d = true := by
      match i, hi with
      | 0, _ => exact ⟨_, rfl, rfl⟩
      | 1, _ => exact ⟨_, rfl, rfl⟩
      | 2, _ => exact ⟨_, rfl, rfl⟩
      | 3, _ => exact ⟨_, rfl, rfl⟩
    walk_at "d"
    rw [atN hd]
    walk_at "d"
    exact ⟨sL _ (by decide), sL _ (by decide), sL _ (by omega), sL _ (by omega), fin _ y1 hy1 (put _ (vis_2 hvd hvi))⟩
  split
  · refine ⟨sL _ (by decide), ?_⟩
    have e3 : ((at_ : Nat) : Int) % 3 = ((at_ % 3 : Nat) : Int) := rfl
    have h3 : at_ % 3 < 3 := Nat.mod_lt _ (by decide)
    obtain ⟨d, hd, hvd⟩ : ∃ d, ([D.tup cs, D.dic [] [], D.non] : List D)[at_ % 3]? = some d ∧ vis d = true := by
      match at_ % 3, h3 with
      | 0, _ => exact ⟨_, rfl, vis_T hv⟩
      | 1, _ => exact ⟨_, rfl, rfl⟩
      | 2, _ => exact ⟨_, rfl, rfl⟩
    rw [e3, atN hd]
    exact fin d y hy hvd
  split
  · have e4 : ((at_ : Nat) : Int) % 4 = ((at_ % 4 : Nat) : Int) := rfl
    have h4 : at_ % 4 < 4 := Nat.mod_lt _ (by decide)
    cases n with
    | zero => exact hin.elim
    | succ n =>
      obtain ⟨ks, es, rfl, hk7, _⟩ := hin
      walk_at "d"
      refine ⟨sL _ (by decide), sL _ (by decide), ?_⟩
      obtain ⟨d, hd, hvd⟩ : ∃ d, ([D.non, D.lst [], D.str "way", tk ks] : List D)[at_ % 4]? = some d ∧ vis d = true := by
        match at_ % 4, h4 with
        | 0, _ => exact ⟨_, rfl, rfl⟩
        | 1, _ => exact ⟨_, rfl, rfl⟩
        | 2, _ => exact ⟨_, rfl, rfl⟩
        | 3, _ => exact ⟨_, rfl, vis_L (by rw [List.length_map]; omega) (vis_ints ks)⟩
      rw [e4, atN hd]
      walk_at "d"
      exact ⟨sL _ (by decide), sL _ (by decide), sL _ (by omega), sL _ (by omega), fin _ y hy (put _ (vis_2 rfl hvd))⟩
  · exact ⟨sL _ (by decide), sL _ (by decide), sL _ (by omega), fin _ y hy (vis_L (by rw [List.length_append, List.length_singleton]; omega) (vis_app hv (vis_one (vis_2 rfl hvi))))⟩
abbrev S_l_spoilt (n : Nat) : Spc := fun ds m F X => ∃ (a : Addr) (y : MO) (w : Web) (t : D), ds = [.adr a, webD w, t] ∧ m = [(a, y)] ∧ StOk y ∧ WebOk w ∧ TreeN n t ∧ ∀ d y', vis d = true → StOk y' → F d [(a, y')]
theorem sc_l_spoilt : FnScope ["_law_state", "_law_web_here", "_law_thing", "_law_word", "_law_way", "_law_cases", "_law_at", "_law_inner", "_law_turn", "_law_other"] ["_law_state", "_law_web_here", "_law_thing"] (defScope s_l_spoilt) := ⟨rfl, rfl, rfl, by decide +kernel, rfl, by decide +kernel, by decide +kernel⟩
theorem ok_l_spoilt {P : Program} {w : World} {K : PySem.W.Frag} {mg : Str → Option Value} {base : Heap} {n : Nat} (T : Tx K mg) (G_l_take : Fo P w K mg base CX0 1 "_law_take" ["_law_state", "_law_many"] (spD K (NC K) 2 S_l_take)) (G_l_spoilt : Fo P w K mg base CX0 (30 + n) "_law_spoilt" ["_law_state", "_law_web_here", "_law_thing"] (spD K (NC K) 3 (S_l_spoilt n))) (G_l_other_way : Fo P w K mg base CX0 2 "_law_other_way" ["_law_state", "_law_web_here", "_law_way"] (spD K (NC K) 3 S_l_other_way)) (G_l_other_cases : Fo P w K mg base CX0 2 "_law_other_cases" ["_law_state", "_law_cases"] (spD K (NC K) 2 S_l_other_cases)) : Fo P w K mg base CX0 (30 + n + 1) "_law_spoilt" ["_law_state", "_law_web_here", "_law_thing"] (spD K (NC K) 3 (S_l_spoilt (n + 1))) := by
  refine Fo.mk_ T 69 61 rfl rfl rfl rfl rfl (fun _ _ _ _ _ _ us hl => match us, hl with | [_, _, _], _ => rfl) fun f fd F => ok_pure 1 F sc_l_spoilt rfl fun cdv A outer s H E I m ds Fv X hr h => ?_
  refine ⟨_, _, (pss_cons (ps_asg (pv 2) (pg_tup rfl (pgs_cons (pg_name (i := 3) sc_l_spoilt.nd rfl (.inl rfl)) (pgs_cons (pg_name (i := 4) sc_l_spoilt.nd rfl (.inl rfl)) (pgs_cons (pg_name (i := 5) sc_l_spoilt.nd rfl (.inl rfl)) pgs_nil)))))
    (pss_cons (ps_if (PW.pt (pw_and (pt_cmpR (o_neNil hr.units0) (pv 5) (pe_lst pa_nil) (nomark _)) (pw_and1 (pt_cmpR o_gt (pe_ownK K 1 G_l_take (hr.mono (by omega)) pass0 (pa_cons (pv 0) (pa_cons pe_int pa_nil))) pe_int (nomark _))))) (pss_cons (ps_set (i := 6) sc_l_spoilt.nd rfl (.inl rfl) (pe_ownK K 1 G_l_take (hr.mono (by omega)) pass0 (pa_cons (pv 0) (pa_cons (pe_bi c_len (T.b 85 rfl) bb_len (pa_cons (pv 5) pa_nil)) pa_nil))))
    (pss_cons (ps_set (i := 7) sc_l_spoilt.nd rfl (.inl rfl) (pe_ownK K 1 G_l_spoilt (hr.mono (by omega)) pass0 (pa_cons (pv 0) (pa_cons (pv 1) (pa_cons (pe_ix (o_ixK K) (pe_ix (o_ixK K) (pv 5) (pv 6) (fun _ _ => rfl)) pe_int (fun _ _ => rfl)) pa_nil)))))
    (pss_one (ps_ret (pe_tup (pa_cons (pv 3) (pa_cons (pv 4) (pa_cons (pe_op o_add (pe_op o_add (pe_slice (sl_anyK K) (pv 5) po_none (po_some (pv 6))) (pe_lst (pa_cons (pe_tup (pa_cons (pe_ix (o_ixK K) (pe_ix (o_ixK K) (pv 5) (pv 6) (fun _ _ => rfl)) pe_int (fun _ _ => rfl)) (pa_cons (pv 7) pa_nil))) pa_nil))) (pe_slice (sl_anyK K) (pv 5) (po_some (pe_op o_add (pv 6) pe_int)) po_none)) pa_nil)))))))) pss_nil)
    (pss_cons (ps_set (i := 8) sc_l_spoilt.nd rfl (.inl rfl) (pe_ownK K 1 G_l_take (hr.mono (by omega)) pass0 (pa_cons (pv 0) (pa_cons pe_int pa_nil))))
    (pss_cons (ps_if (pt_cmpR op_eq (pv 8) pe_int (nomark _)) (pss_cons (ps_set (i := 9) sc_l_spoilt.nd rfl (.inl rfl) (pe_ix (o_ixK K) (pe_lst (pa_cons pe_str (pa_cons pe_str (pa_cons pe_str (pa_cons pe_non (pa_cons pe_int (pa_cons (pe_lst (pa_cons pe_str pa_nil)) pa_nil))))))) (pe_op o_mod (pe_bi c_len (T.b 85 rfl) bb_len (pa_cons (pv 4) pa_nil)) pe_int) (fun _ _ => rfl)))
    (pss_one (ps_ret (pe_ix (o_ixK K) (pe_lst (pa_cons (pe_tup (pa_cons (pv 9) (pa_cons (pv 4) (pa_cons (pv 5) pa_nil)))) (pa_cons (pe_tup (pa_cons (pv 3) (pa_cons (pv 4) pa_nil))) (pa_cons (pe_lst (pa_cons (pv 3) (pa_cons (pv 4) (pa_cons (pv 5) pa_nil)))) (pa_cons pe_non pa_nil))))) (pe_ownK K 1 G_l_take (hr.mono (by omega)) pass0 (pa_cons (pv 0) (pa_cons pe_int pa_nil))) (fun _ _ => rfl))))) pss_nil)
    (pss_cons (ps_if (pt_cmpR o_lt (pv 8) pe_int (nomark _)) (pss_one (ps_ret (pe_tup (pa_cons (pv 3) (pa_cons (pe_ownK K 1 G_l_other_way (hr.mono (by omega)) pass0 (pa_cons (pv 0) (pa_cons (pv 1) (pa_cons (pv 4) pa_nil)))) (pa_cons (pv 5) pa_nil)))))) pss_nil)
    (pss_one (ps_ret (pe_tup (pa_cons (pv 3) (pa_cons (pv 4) (pa_cons (pe_ownK K 1 G_l_other_cases (hr.mono (by omega)) pass0 (pa_cons (pv 0) (pa_cons (pv 5) pa_nil))) pa_nil))))))))))), (by (try dsimp only [cxOf]); infer_instance), ?_⟩
  obtain ⟨a, y, w', t, rfl, rfl, hy, hw, ht, h⟩ := h
  obtain ⟨ks, es, rfl, hk7, he7, hk14, hes⟩ := ht
  have sL : ∀ n, n ≤ 100 → n ≤ sizeLine := fun n hn => sl100 (by omega)
  have fin : ∀ d y, StOk y → vis d = true → Fv d [(a, y)] := fun d y hy hd => h d y hd hy
  have hco : ∀ e ∈ es, CaseOk e := fun e he => by
    obtain ⟨k, y, h1, h2, h3⟩ := hes e he
    exact ⟨k, n, y, h1, h2, h3⟩
  have hv : ∀ d ∈ es, vis d = true := fun d hd => (hco d hd).vis
  have hvw : vis (tk ks) = true := vis_L (by rw [List.length_map]; omega) (vis_ints ks)
  have hvc : vis (.lst es) = true := vis_L (by omega) hv
  have hcl : ∀ lo hi, (cutD es lo hi).length ≤ 7 := fun lo hi => Nat.le_trans cutD_le he7
  refine seq_mid (fun r m => r = [some (.adr a), some (webD w'), some (.tup [.str "way", tk ks, .lst es]), some (.str "way"), some (tk ks), some (.lst es), none, none, none, none] ∧ m = [(a, y)]) (fun R hR => ?_) ?_
  · walk_at "d"
    exact ⟨rfl, hR _ _ ⟨rfl, rfl⟩⟩
  rintro r m ⟨rfl, rfl⟩
  refine seq_mid (fun r m => ∃ y, r = [some (.adr a), some (webD w'), some (.tup [.str "way", tk ks, .lst es]), some (.str "way"), some (tk ks), some (.lst es), none, none, none, none] ∧ m = [(a, y)] ∧ StOk y) (fun R hR => ?_) ?_
  · cases hie : es.isEmpty with
    | true =>
      walk_at "d"
      rw [hie]
      exact ⟨sL _ (by decide), hR _ _ ⟨y, rfl, rfl, hy⟩⟩
    | false =>
      walk_at "d"
      rw [hie]
      walk_at "d"
      refine ⟨sL _ (by decide), a, y, 3, rfl, rfl, hy, by decide, by decide, fun r y1 h0 h1 hy1 => ?_⟩
      walk_at "d"
      split
      · have hpos : 0 < es.length := List.length_pos_iff.mpr fun q => by rw [q] at hie; cases hie
        refine ⟨a, y1, es.length, rfl, rfl, hy1, by omega, by omega, fun r y2 h0 h1 hy2 => ?_⟩
        obtain ⟨i, rfl, hi⟩ := nat_of h0 h1
        have hil : i < es.length := by omega
        obtain ⟨k, t, he, hk, ht⟩ := hes _ (List.getElem_mem hil)
        have hg : es[i]? = some (.tup [.int (k : Nat), t]) := by rw [List.getElem?_eq_getElem hil, he]
        have q0 := hcl none (some (i : Int))
        have q2 := hcl (some ((i : Int) + 1)) none
        walk_at "d"
        rw [atN hg]
        walk_at "d"
        refine ⟨a, y2, w', t, rfl, rfl, hy2, hw, ht, fun d y3 hd hy3 => ?_⟩
        walk_at "d"
        refine ⟨sL _ (by decide), sL _ (by decide), sL _ (by omega), sL _ (by omega), sL _ (by decide), fin _ y3 hy3 (vis_3 rfl hvw (vis_L (by rw [List.length_append, List.length_append, List.length_singleton]; omega) (vis_app (vis_app (vis_cut hv _ _) (vis_one (vis_2 rfl hd))) (vis_cut hv _ _))))⟩
      · exact hR _ _ ⟨y1, rfl, rfl, hy1⟩
  rintro r m ⟨y, rfl, rfl, hy⟩
  refine seq_mid (fun r m => ∃ (y : MO) (turn : Nat), r = [some (.adr a), some (webD w'), some (.tup [.str "way", tk ks, .lst es]), some (.str "way"), some (tk ks), some (.lst es), none, none, some (.int (turn : Nat)), none] ∧ m = [(a, y)] ∧ StOk y) (fun R hR => ?_) ?_
  · walk_at "d"
    refine ⟨a, y, 5, rfl, rfl, hy, by decide, by decide, fun r y1 h0 h1 hy1 => ?_⟩
    obtain ⟨i, rfl, hi⟩ := nat_of h0 h1
    exact hR _ _ ⟨y1, i, rfl, rfl, hy1⟩
  rintro r m ⟨y, turn, rfl, rfl, hy⟩
  have e6 : ((ks.length : Nat) : Int) % 6 = ((ks.length % 6 : Nat) : Int) := rfl
  have h6 : ks.length % 6 < 6 := Nat.mod_lt _ (by decide)
  obtain ⟨d6, hd6, hvd6⟩ : ∃ d, ([D.str "ways", .str "Way", .str "", .non, .int 0, .lst [.str "way"]] : List D)[ks.length % 6]? = some d ∧ vis d = true := by
    match ks.length % 6, h6 with
    | 0, _ => exact ⟨_, rfl, rfl⟩
    | 1, _ => exact ⟨_, rfl, rfl⟩
    | 2, _ => exact ⟨_, rfl, rfl⟩
    | 3, _ => exact ⟨_, rfl, rfl⟩
    | 4, _ => exact ⟨_, rfl, rfl⟩
    | 5, _ => exact ⟨_, rfl, rfl⟩
  walk_at "d"
  split
  · rw [e6]
    repeat refine And.intro (sL _ (by decide)) ?_
    rw [atN hd6]
    walk_at "d"
    repeat refine And.intro (sL _ (by decide)) ?_
    refine ⟨a, y, 4, rfl, rfl, hy, by decide, by decide, fun r y1 h0 h1 hy1 => ?_⟩
    obtain ⟨i, rfl, hi⟩ := nat_of h0 h1
    have hi : i < 4 := hi
    obtain ⟨d, hd, hvd⟩ : ∃ d, ([D.tup [d6, tk ks, .lst es], .tup [.str "way", tk ks], .lst [.str "way", tk ks, .lst es], .non] : List D)[i]? = some d ∧ vis d = true := by
      match i, hi with
      | 0, _ => exact ⟨_, rfl, vis_3 hvd6 hvw hvc⟩
      | 1, _ => exact ⟨_, rfl, vis_2 rfl hvw⟩
      | 2, _ => exact ⟨_, rfl, vis_L (by simp) (vis_app (as := [_]) (vis_one rfl) (vis_app (as := [_]) (vis_one hvw) (vis_one hvc)))⟩
      | 3, _ => exact ⟨_, rfl, rfl⟩
    walk_at "d"
    rw [atN hd]
    exact fin d y1 hy1 hvd
  split
  · refine ⟨a, y, w', ks, rfl, rfl, hy, hw, hk7, fun d y1 hd hy1 => ?_⟩
    walk_at "d"
    exact ⟨sL _ (by decide), fin _ y1 hy1 (vis_3 rfl hd hvc)⟩
  · refine ⟨a, y, es, rfl, rfl, hy, he7, hco, fun d y1 hd hy1 => ?_⟩
    walk_at "d"
    exact ⟨sL _ (by decide), fin _ y1 hy1 (vis_3 rfl hvw hd)⟩
end FC
/-! THE WALK, 17: how far; takings. -/
namespace FC
open PySem PySem.Spec L2
local macro_rules | `(tactic| walk_at "d") => `(tactic| try simp only [dVar, dC, dOp, dUn, dAdd, dSub, dMul, dMod, dDiv, dPow, dNeg, dCmp, dEq, dNe, dEqv, dIsN, dNotN, isNon, dIn, inD, dInM, dIx, ixDs, dIxM, dChain, dB, asB, dAnd, dOr, dNot, dAndV, dOrV, dNotV, dIf, dNil, dCons, dTup, dLst, dLstM, dDic0, dDicM, dDisp1,
  dCB, dLen, dLenM, dAbs, dMax2, dMin2, dInt, dBool, dStr, dList, dListN, dListM, dTuple, dSorted, dDicC, dIsi, tyD_non, tyD_bl, tyD_int, tyD_str, tyD_lst, tyD_tup, tyD_dic, dNoPart, asI, dPart, dSl, dRev, dApp, dPopI, dRem, dEqNil, dEqNilM, dGet, dDGetM, dDGet, dDInM, dDInA, dDPopM, dEqD0, dEqDM, dJoin, dNext, dSeq, dDrop, dRet, dIfS, dNever, dgName, dgNil, dgCons, dgTup, dAsg, dSubM, dDPutM, dPar, dAug, dFrz, frzD, dFgt,
  diLst, diTup, diLstM, diRng1, diRng2, diStr, diEnum, diZip, dYes, dCall, endsD, startD, wipeD, dom,
  isTy_0_0, isTy_0_1, isTy_0_2, isTy_0_3, isTy_0_4, isTy_1_0, isTy_1_1, isTy_1_2, isTy_1_3, isTy_1_4, isTy_2_0, isTy_2_1, isTy_2_2, isTy_2_3, isTy_2_4, isTy_3_0, isTy_3_1, isTy_3_2, isTy_3_3, isTy_3_4, isTy_4_0, isTy_4_1, isTy_4_2, isTy_4_3, isTy_4_4, isTy_5_0, isTy_5_1, isTy_5_2, isTy_5_3, isTy_5_4, isTy_6_0, isTy_6_1, isTy_6_2, isTy_6_3, isTy_6_4,
  Int.cast_ofNat_Int, decide_true, decide_false, Int.reduceEq, Int.reduceLT, Int.reduceLE, atI_0, atI_1, atI_2, atI_3, atI_4, List.length_map, List.map_cons, List.map_nil, List.length_cons, List.length_nil, Nat.reduceAdd, Nat.reduceSub, List.reduceReplicate, List.cons_append, List.nil_append, List.append_nil, List.getElem?_cons_zero, List.getElem?_cons_succ, List.getElem?_nil, List.set_cons_zero, List.set_cons_succ, List.take_zero, List.drop_zero, List.take_succ_cons, List.drop_succ_cons,
  List.eraseIdx_cons_zero, List.eraseIdx_cons_succ, true_and, and_true, eq_self, and_self, if_true, if_false, Bool.false_eq_true, reduceIte, Bool.not_true, Bool.not_false, forall_const, exists_eq_left, exists_eq_left', exists_eq_right, exists_eq_right', exists_and_left, exists_const, D.adr.injEq, D.str.injEq, D.int.injEq, D.lst.injEq, D.tup.injEq, D.bl.injEq, Option.some.injEq, Prod.mk.injEq, MO.l.injEq, MO.d.injEq, List.cons.injEq, Function.const_apply, dLock, lckE, dDGetK, dFld, dSetF, dMeth, dMake, dRaise, diKeys, dGet, dAddM, List.not_mem_nil, false_implies, implies_true, List.mem_singleton, forall_eq, Option.isSome_none, Option.isSome_some, lcRes, exists_eq, exists_eq', List.length_append, List.length_singleton])

theorem pg_tupK (K : PySem.W.Frag) {X : Cx} {es : List Expr} {k : Nat} {t : TGs} {pos : Pos} (n : Nat) (hc : X.calm = true) (h : PGs X es t) (hK : X.K = K := by rfl) (hn : (assignEach es X.env).length = n := by rfl) (hst : (assignEach es X.env).findIdx? (·.1) = none := by rfl) : PG X (.Tuple es k pos) (gTup K n t) := by
  subst hK
  exact pg_tup hc h hn hst
/-- the bottom is some number above nought -/
abbrev S_l_wholes : Spc := fun ds m F X => ∃ (bs : List Nat), ds = [.lst (.tup [.int 1, .int 1] :: bs.map fun b => .tup [.int 1, .int (b : Nat)])] ∧ m = [] ∧ bs.length ≤ 40 ∧ (∀ b ∈ bs, 0 < b ∧ b < 256) ∧ ∀ (c : Nat) (rest : List D), 0 < c → c < 2 ^ 400 → F (.lst (.int (c : Nat) :: rest)) []
def J_wh (bs : List Nat) (i : Nat) (r : Rho) (m : Mu) : Prop := ∃ (c : Nat) (o : Option D), r = [some (.lst ((1 :: bs).map fun b => .tup [.int 1, .int (b : Nat)])), some (.int (c : Nat)), o] ∧ m = [] ∧ 0 < c ∧ c < 2 ^ (8 * i + 1)
theorem sc_l_wholes : FnScope ["_law_some", "_law_bottom", "_law_one"] ["_law_some"] (defScope s_l_wholes) := ⟨rfl, rfl, rfl, by decide +kernel, rfl, by decide +kernel, by decide +kernel⟩
theorem ok_l_wholes {P : Program} {w : World} {K : PySem.W.Frag} {mg : Str → Option Value} {base : Heap} (T : Tx K mg) (G_l_low : Fo P w K mg base CX0 1 "_law_low" ["_law_top", "_law_bottom"] (spD K (NC K) 2 S_l_low)) : Fo P w K mg base CX0 2 "_law_wholes" ["_law_some"] (spD K (NC K) 1 S_l_wholes) := by
  refine Fo.mk_ T 70 62 rfl rfl rfl rfl rfl (fun _ _ _ _ _ _ us hl => match us, hl with | [_], _ => rfl) fun f fd F => ok_pure 0 F sc_l_wholes rfl fun cdv A outer s H E I m ds Fv X hr h => ?_
  refine ⟨_, _, (pss_cons (ps_set (i := 1) sc_l_wholes.nd rfl (.inr rfl) pe_int)
    (pss_cons (ps_for PassesOwn.never rfl (pi_list (pv 0)) (pg_name (i := 2) sc_l_wholes.nd rfl (.inl rfl))
    (pss_one (ps_set (i := 1) sc_l_wholes.nd rfl (.inr rfl) (pe_op o_mul (pv 1) (pe_ix (o_ixK K) (pe_ownK K 0 G_l_low (hr.mono (by decide)) pass0 (pa_cons (pe_ix (o_ixK K) (pv 2) pe_int (fun _ _ => rfl)) (pa_cons (pv 1) pa_nil))) pe_int (fun _ _ => rfl))))))
    (pss_one (ps_ret (as_lc [2] (pe_lc (own := [("_law_one", 2)]) rfl sc_l_wholes.nd (pi_list (pv 0)) (blkOk_by (own := [("_law_one", 2)]) (N := ["_law_some", "_law_bottom", "_law_one"]) (sc := defScope s_l_wholes) (by decide +kernel)) (fun _ _ _ _ _ => (pg_name (i := 2) sc_l_wholes.nd rfl (.inl rfl))) (fun _ _ _ _ _ => pts_nil) (fun _ _ _ _ _ => (pe_op o_mul (pe_ix (o_ixK K) (pv 2) pe_int (fun _ _ => rfl)) (pe_op o_fdiv (pv 1) (pe_ix (o_ixK K) (pv 2) pe_int (fun _ _ => rfl))))))))))), (by (try dsimp only [cxOf]); infer_instance), ?_⟩
  obtain ⟨bs, rfl, rfl, hl, hb, h⟩ := h
  have hall : ∀ b ∈ 1 :: bs, 0 < b ∧ b < 256 := fun b hb' => by
    rcases List.mem_cons.mp hb' with rfl | q
    · decide
    · exact hb b q
  refine seq_mid (fun r m => r = [some (.lst (.tup [.int 1, .int 1] :: bs.map fun b => .tup [.int 1, .int (b : Nat)])), some (.int 1), none] ∧ m = []) (fun R hR => ?_) ?_
  · walk_at "d"
    exact hR _ _ ⟨rfl, rfl⟩
  rintro r m ⟨rfl, rfl⟩
  have ee : (D.tup [.int 1, .int 1] :: bs.map fun b => .tup [.int 1, .int (b : Nat)]) = (1 :: bs).map fun b => D.tup [.int 1, .int (b : Nat)] := rfl
  rw [ee]
  refine seq_mid (fun r m => ∃ (c : Nat) (o : Option D), r = [some (.lst ((1 :: bs).map fun b => .tup [.int 1, .int (b : Nat)])), some (.int (c : Nat)), o] ∧ m = [] ∧ 0 < c ∧ c < 2 ^ 400) (fun R hR => ?_) ?_
  · refine ⟨fun i r m => J_wh bs i r m, ⟨1, none, rfl, rfl, by decide, by decide⟩, fun _ _ _ _ => trivial, ?_, ?_⟩
    · rintro i d r m hi ⟨c, o, rfl, rfl, hc0, hc⟩
      have hi : ((1 :: bs).map fun b => D.tup [.int 1, .int (b : Nat)])[i]? = some d := hi
      rw [List.getElem?_map] at hi
      cases e : (1 :: bs)[i]? with
      | none => rw [e] at hi; cases hi
      | some b =>
        rw [e] at hi
        cases hi
        obtain ⟨hb0, hb8⟩ := hall b (List.mem_of_getElem? e)
        have hi41 : i < 41 := by
          have := (List.getElem?_eq_some_iff.mp e).1
          rw [List.length_cons] at this
          omega
        have hc4 : c < 2 ^ 400 := Nat.lt_of_lt_of_le hc (Nat.pow_le_pow_right (by decide) (by omega))
        have hg0 : 0 < Int.gcd (b : Nat) (c : Nat) := Nat.gcd_pos_of_pos_left _ hb0
        have hnum : (mkRat ((b : Nat) : Int) c).num = ((b / Int.gcd (b : Nat) (c : Nat) : Nat) : Int) := by
          rw [mk_num _ _ hc0, Int.natCast_ediv]
        have hq0 : 0 < b / Int.gcd (b : Nat) (c : Nat) := Nat.div_pos (Nat.gcd_le_left _ hb0) hg0
        have hq8 : b / Int.gcd (b : Nat) (c : Nat) < 256 := Nat.lt_of_le_of_lt (Nat.div_le_self _ _) hb8
        walk_at "d"
        refine ⟨(b : Nat), c, rfl, hc0, Nat.lt_trans hc4 (Nat.pow_lt_pow_right (by decide) (by decide)), ?_⟩
        walk_at "d"
        rw [hnum]
        refine ⟨mulW (a := 400) (b := 8) (by rw [Int.natAbs_natCast]; exact hc4) (by rw [Int.natAbs_natCast]; exact hq8) (by decide) (by decide) (by decide), c * (b / Int.gcd (b : Nat) (c : Nat)), some (.tup [.int 1, .int (b : Nat)]), ?_, rfl, Nat.mul_pos hc0 hq0, ?_⟩
        · rw [Int.natCast_mul]
          rfl
        · have e3 : 8 * (i + 1) + 1 = (8 * i + 1) + 8 := by omega
          rw [e3, Nat.pow_add]
          exact Nat.mul_lt_mul'' hc hq8
    · rintro r m ⟨c, o, rfl, rfl, hc0, hc⟩
      refine hR _ _ ⟨c, o, rfl, rfl, hc0, Nat.lt_of_lt_of_le hc (Nat.pow_le_pow_right (by decide) ?_)⟩
      rw [List.length_map, List.length_cons]
      omega
  rintro r m ⟨c, o, rfl, rfl, hc0, hc⟩
  refine lc_map (1 :: bs) (fun b => D.tup [.int 1, .int (b : Nat)]) (fun b => .int ((c / b : Nat) : Int)) anyMu (fun G h => ?_) (fun _ => trivial) (by rw [List.length_cons]; omega) ?_ ?_
  · walk_at "d"
    exact h
  · intro b hb' t G E hG
    obtain ⟨hb0, hb8⟩ := hall b hb'
    walk_at "d"
    have h2 : c / b < 2 ^ 400 := Nat.lt_of_le_of_lt (Nat.div_le_self _ _) hc
    have h1 : ((c : Nat) : Int) / ((b : Nat) : Int) = ((c / b : Nat) : Int) := by rw [Int.natCast_ediv]
    rw [h1]
    refine ⟨wide_div (by omega) (b := 8) (by rw [Int.natAbs_natCast]; exact hb8) (by decide) (by decide), mulW (a := 8) (b := 400) (by decide) (by rw [Int.natAbs_natCast]; exact h2) (by decide) (by decide) (by decide), ?_⟩
    rw [Int.one_mul]
    exact hG
  · walk_at "d"
    rw [Nat.div_one]
    exact h c _ hc0 hc
abbrev S_l_takings : Spc := fun ds m F X => ∃ (w : Web) (purse : Rat), ds = [webD w, fD purse] ∧ m = [] ∧ WebOk w ∧ Sz 20 purse ∧ 0 ≤ purse ∧ ∀ l : List (List Nat), (∀ S ∈ l, Tak w purse S) → F (.lst (l.map fun S => tk S)) []
def pD (x : List Nat × Rat) : D := .tup [tk x.1, fD x.2]
/-- a list of takings of the first ties, each with its worth -/
def TkOk (w : Web) (purse : Rat) (i : Nat) (l : List (List Nat × Rat)) : Prop := (∀ x ∈ l, x.1.Nodup ∧ (∀ k ∈ x.1, Free w k ∧ k < i) ∧ x.2 = worthL w x.1 ∧ x.2 ≤ purse) ∧ l.length ≤ 2 ^ i
def J_tk (w : Web) (purse : Rat) (i : Nat) (r : Rho) (m : Mu) : Prop := ∃ (b : Addr) (o1 o2 o3 o4 o5 : Option D) (l : List (List Nat × Rat)), r = [some (webD w), some (fD purse), some (.adr b), o1, o2, o3, o4, o5] ∧ m = [(b, .l (l.map pD))] ∧ TkOk w purse i l
def J_tj (w : Web) (purse : Rat) (b : Addr) (k : Nat) (t : Tie) (l0 : List (List Nat × Rat)) (i : Nat) (r : Rho) (m : Mu) : Prop := ∃ (o3 o4 o5 : Option D) (l : List (List Nat × Rat)), r = [some (webD w), some (fD purse), some (.adr b), some (.int (k : Nat)), some (tieD t), o3, o4, o5] ∧ m = [(b, .l (l.map pD))] ∧ (∀ x ∈ l, x.1.Nodup ∧ (∀ j ∈ x.1, Free w j ∧ j < k + 1) ∧ x.2 = worthL w x.1 ∧ x.2 ≤ purse) ∧ l.length ≤ l0.length + i
theorem sc_l_takings : FnScope ["_law_web_here", "_law_purse_here", "_law_found", "_law_k", "_law_tie_here", "_law_taking", "_law_worth_here", "_law_more"] ["_law_web_here", "_law_purse_here"] (defScope s_l_takings) := ⟨rfl, rfl, rfl, by decide +kernel, rfl, by decide +kernel, by decide +kernel⟩
theorem ok_l_takings {P : Program} {w : World} {K : PySem.W.Frag} {mg : Str → Option Value} {base : Heap} (T : Tx K mg) (G_l_plus : Fo P w K mg base CX0 2 "_law_plus" ["_law_one", "_law_other"] (spD K (NC K) 2 S_l_plus)) (G_l_under : Fo P w K mg base CX0 1 "_law_under" ["_law_one", "_law_other"] (spD K (NC K) 2 S_l_under)) : Fo P w K mg base CX0 3 "_law_takings" ["_law_web_here", "_law_purse_here"] (spD K (NC K) 2 S_l_takings) := by
  refine Fo.mk_ T 72 64 rfl rfl rfl rfl rfl (fun _ _ _ _ _ _ us hl => match us, hl with | [_, _], _ => rfl) fun f fd F => ok_pure 0 F sc_l_takings rfl fun cdv A outer s H E I m ds Fv X hr h => ?_
  refine ⟨_, _, (pss_cons (ps_set (i := 2) sc_l_takings.nd rfl (.inl rfl) (pe_lstM (pa_cons (pe_tup (pa_cons (pe_lst pa_nil) (pa_cons (pe_tup (pa_cons pe_int (pa_cons pe_int pa_nil))) pa_nil))) pa_nil)))
    (pss_cons (ps_for PassesOwn.never rfl (pi_enum rfl (T.b 82 rfl) (pa_cons (pe_ix (o_ixK K) (pv 0) pe_int (fun _ _ => rfl)) pa_nil)) (pg_tup rfl (pgs_cons (pg_name (i := 3) sc_l_takings.nd rfl (.inl rfl)) (pgs_cons (pg_name (i := 4) sc_l_takings.nd rfl (.inl rfl)) pgs_nil)))
    (pss_one (ps_if (pt_cmpR o_isnot (pe_ix (o_ixK K) (pv 4) pe_int (fun _ _ => rfl)) pe_non (nomark _)) (pss_one (ps_for PassesOwn.never rfl (pi_list (pe_bt (c_listM 0) (T.b 86 rfl) bb_list (pa_cons (pv 2) pa_nil))) (pg_tup rfl (pgs_cons (pg_name (i := 5) sc_l_takings.nd rfl (.inl rfl)) (pgs_cons (pg_name (i := 6) sc_l_takings.nd rfl (.inl rfl)) pgs_nil)))
    (pss_cons (ps_set (i := 7) sc_l_takings.nd rfl (.inl rfl) (pe_ownK K 0 G_l_plus (hr.mono (by decide)) pass0 (pa_cons (pv 6) (pa_cons (pe_ix (o_ixK K) (pv 4) pe_int (fun _ _ => rfl)) pa_nil))))
    (pss_one (ps_if (pt_not (pt_val (pe_ownK K 0 G_l_under (hr.mono (by decide)) pass0 (pa_cons (pv 1) (pa_cons (pv 7) pa_nil))))) (pss_one (ps_expr (as_app 0 (pe_bm PySem.F.plainAttrs_list PySem.F.slot_list_append PySem.F.type_list_append mt_append (pv 2) (pa_cons (pe_tup (pa_cons (pe_op o_add (pv 5) (pe_lst (pa_cons (pv 3) pa_nil))) (pa_cons (pv 7) pa_nil))) pa_nil))))) pss_nil))))) pss_nil)))
    (pss_one (ps_ret (as_lc [5, 6] (pe_lc (own := [("_law_taking", 5), ("_law_worth_here", 6)]) rfl sc_l_takings.nd (pi_listM 0 (pv 2)) (blkOk_by (own := [("_law_taking", 5), ("_law_worth_here", 6)]) (N := ["_law_web_here", "_law_purse_here", "_law_found", "_law_k", "_law_tie_here", "_law_taking", "_law_worth_here", "_law_more"]) (sc := defScope s_l_takings) (by decide +kernel)) (fun _ _ _ _ _ => (pg_tupK K 2 rfl (pgs_cons (pg_name (i := 5) sc_l_takings.nd rfl (.inl rfl)) (pgs_cons (pg_name (i := 6) sc_l_takings.nd rfl (.inl rfl)) pgs_nil)))) (fun _ _ _ _ _ => pts_nil) (fun _ _ _ _ _ => (pv 5)))))))), (by (try dsimp only [cxOf]); infer_instance), ?_⟩
  obtain ⟨w', purse, rfl, rfl, hw, hp, hp0, h⟩ := h
  have hl14 := hw.tl
  have sL : ∀ n, n ≤ 100 → n ≤ sizeLine := fun n hn => sl100 (by omega)
  refine seq_mid (fun r m => J_tk w' purse 0 r m) (fun R hR => ?_) ?_
  · walk_at "d"
    refine ⟨sL _ (by decide), sL _ (by decide), sL _ (by decide), sL _ (by decide), fun b => hR _ _ ⟨b, none, none, none, none, none, [([], 0)], rfl, rfl, fun x hx => ?_, by decide⟩⟩
    obtain rfl : x = ([], 0) := by simpa using hx
    exact ⟨List.nodup_nil, fun k hk => (nomatch hk), rfl, hp0⟩
  rintro r m hJ
  refine seq_mid (fun r m => J_tk w' purse w'.ties.length r m) (fun R hR => ?_) ?_
  · obtain ⟨b, o1, o2, o3, o4, o5, l, rfl, rfl, hl⟩ := hJ
    refine ⟨fun i r m => J_tk w' purse i r m, ⟨b, o1, o2, o3, o4, o5, l, rfl, rfl, hl⟩, fun _ _ _ _ => trivial, ?_, ?_⟩
    · rintro i d r m hi ⟨b, o1, o2, o3, o4, o5, l, rfl, rfl, hl, hll⟩
      obtain ⟨t, ht, rfl⟩ := enum_at hi
      have hto := hw.tie t (List.mem_of_getElem? ht)
      have hi14 : i < 14 := by
        have := (List.getElem?_eq_some_iff.mp ht).1
        omega
      have hpw : 2 ^ i ≤ 2 ^ 14 := Nat.pow_le_pow_right (by decide) (Nat.le_of_lt hi14)
      walk_at "d"
      refine ⟨rfl, ?_⟩
      cases hwt : t.worth with
      | none =>
        rw [worthD_none]
        walk_at "d"
        exact ⟨b, _, _, _, _, _, l, rfl, rfl, fun x hx => ⟨(hl x hx).1, fun k hk => ⟨((hl x hx).2.1 k hk).1, by have := ((hl x hx).2.1 k hk).2; omega⟩, (hl x hx).2.2⟩, Nat.le_trans hll (Nat.pow_le_pow_right (by decide) (Nat.le_succ i))⟩
      | some q =>
        have hq := hto.worth q hwt
        have hfr : Free w' i := ⟨t, q, ht, hwt⟩
        have hwo : wtOf w' i = q := by unfold wtOf; rw [ht]; show t.worth.getD 0 = q; rw [hwt]; rfl
        rw [worthD_some]
        walk_at "d"
        unfold dFor
        walk_at "d"
        refine ⟨fun j r m => J_tj w' purse b i t l j r m, ⟨_, _, _, l, rfl, rfl, fun x hx => ⟨(hl x hx).1, fun k hk => ⟨((hl x hx).2.1 k hk).1, by have := ((hl x hx).2.1 k hk).2; omega⟩, (hl x hx).2.2⟩, Nat.le_refl _⟩, fun _ _ _ _ => trivial, ?_, ?_⟩
        · rintro j d r m hj ⟨o3, o4, o5, l2, rfl, rfl, hl2, hl2l⟩
          rw [List.getElem?_map] at hj
          cases e : l[j]? with
          | none => rw [e] at hj; cases hj
          | some x =>
            rw [e] at hj
            cases hj
            have hjl : j < l.length := (List.getElem?_eq_some_iff.mp e).1
            obtain ⟨x1, x2, x3, x4⟩ := hl x (List.mem_of_getElem? e)
            have hxl : x.1.length ≤ 14 := by
              have := pigeon (m := List.range w'.ties.length) x1 fun k hk => List.mem_range.mpr (x2 k hk).1.lt
              rw [List.length_range] at this
              omega
            have hsz := worthL_sz hw (ks := x.1) (fun k hk => (x2 k hk).1) (by omega)
            rw [← x3] at hsz
            have hsz2 := hsz.add hq.2 (by decide) (by decide)
            have es : (x.1.map fun k => D.int (k : Nat)) ++ [.int (i : Nat)] = (x.1 ++ [i]).map fun k => D.int (k : Nat) := by rw [List.map_append]; rfl
            unfold pD
            walk_at "d"
            rw [hwt, worthD_some]
            refine ⟨rfl, x.2, q, 61, 1, rfl, hsz, hq.2, by decide, by decide, by decide, ?_⟩
            walk_at "d"
            refine ⟨purse, (x.2 + q).num, (x.2 + q).den, rfl, Rat.den_pos _, ?_, ?_, ?_, ?_, ?_⟩
            · exact Nat.lt_trans hp.1 (Nat.pow_lt_pow_right (by decide) (by decide))
            · exact Nat.lt_trans hsz2.1 (Nat.pow_lt_pow_right (by decide) (by decide))
            · exact Nat.lt_trans hp.2 (Nat.pow_lt_pow_right (by decide) (by decide))
            · exact Nat.lt_trans hsz2.2 (Nat.pow_lt_pow_right (by decide) (by decide))
            rw [Rat.mkRat_self]
            walk_at "d"
            by_cases hlt : purse < x.2 + q
            · rw [if_neg (by simp [hlt])]
              exact ⟨_, _, _, l2, rfl, rfl, hl2, by omega⟩
            · rw [if_pos (by simp [hlt])]
              rw [es]
              refine ⟨sL _ (by decide), sL _ (by omega), sL _ (by decide), Nat.lt_of_le_of_lt (m := 2 ^ 15) (by omega) (by decide), _, _, _, l2 ++ [(x.1 ++ [i], x.2 + q)], rfl, ?_, fun z hz => ?_, ?_⟩
              · have e9 : (l2 ++ [(x.1 ++ [i], x.2 + q)]).map pD = l2.map pD ++ [pD (x.1 ++ [i], x.2 + q)] := List.map_append
                rw [e9]
                rfl
              · rcases List.mem_append.mp hz with g | g
                · exact hl2 z g
                · obtain rfl : z = (x.1 ++ [i], x.2 + q) := by simpa using g
                  refine ⟨List.nodup_append.mpr ⟨x1, by simp, fun u hu v hv z => ?_⟩, fun k hk => ?_, ?_, Rat.not_lt.mp hlt⟩
                  · obtain rfl : v = i := by simpa using hv
                    have := (x2 u hu).2
                    omega
                  · rcases List.mem_append.mp hk with g2 | g2
                    · exact ⟨(x2 k g2).1, by have := (x2 k g2).2; omega⟩
                    · obtain rfl : k = i := by simpa using g2
                      exact ⟨hfr, by omega⟩
                  · show x.2 + q = worthL w' (x.1 ++ [i])
                    rw [worthL_snoc, hwo, x3]
              · rw [List.length_append, List.length_singleton]
                omega
        · rintro r m ⟨o3, o4, o5, l2, rfl, rfl, hl2, hl2l⟩
          refine ⟨b, _, _, _, _, _, l2, rfl, rfl, hl2, ?_⟩
          rw [Nat.pow_succ]
          omega
    · rintro r m hJ
      have e : (enumD (w'.ties.map tieD)).length = w'.ties.length := by simp [enumD]
      rw [e] at hJ
      exact hR _ _ hJ
  rintro r m ⟨b, o1, o2, o3, o4, o5, l, rfl, rfl, hl, hll⟩
  have hpw : 2 ^ w'.ties.length ≤ 2 ^ 14 := Nat.pow_le_pow_right (by decide) hl14
  refine lc_map l pD (fun x => tk x.1) (fun m => m[0]? = some (b, .l (l.map pD))) (fun G h => ?_) (fun _ => rfl) (by omega) ?_ ?_
  · walk_at "d"
    exact h
  · intro x hx t G E hG
    unfold pD
    walk_at "d"
    exact hG
  · walk_at "d"
    have := h (l.map (·.1)) fun S hS => by
      obtain ⟨x, hx, rfl⟩ := List.mem_map.mp hS
      obtain ⟨x1, x2, x3, x4⟩ := hl x hx
      exact ⟨x1, fun k hk => (x2 k hk).1, by rw [← x3]; exact x4⟩
    rw [List.map_map] at this
    exact this
end FC
/-! THE MATHEMATICS, 9: how far, round by round. -/
namespace FC
open PySem PySem.Spec L2
def AllInt (kvs : List (Str × D)) : Prop := ∀ x ∈ kvs, ∃ i, x.2 = .int i
theorem AllInt.get {kvs : List (Str × D)} (h : AllInt kvs) {p : Str} {d : D} (e : dget kvs p = some d) : ∃ i, d = .int i := h _ (dget_mem e)
theorem AllInt.put {kvs : List (Str × D)} (h : AllInt kvs) (p : Str) (i : Int) : AllInt (dput kvs p (.int i)) := fun x hx => by
  unfold dput at hx
  split at hx
  · obtain ⟨y, hy, rfl⟩ := List.mem_map.mp hx
    split
    · exact ⟨i, rfl⟩
    · exact h y hy
  · rcases List.mem_append.mp hx with q | q
    · exact h x q
    · obtain rfl : x = (p, .int i) := by simpa using q
      exact ⟨i, rfl⟩
/-- E tells of all that A tells of, and no higher -/
def LeF (E A : List (Str × D)) : Prop := ∀ p i, dget A p = some (.int i) → ∃ j, dget E p = some (.int j) ∧ j ≤ i
theorem LeF.refl (A : List (Str × D)) : LeF A A := fun p i h => ⟨i, h, Int.le_refl i⟩
theorem LeF.trans {A B C : List (Str × D)} (h1 : LeF A B) (h2 : LeF B C) : LeF A C := fun p i h => by
  obtain ⟨j, a, b⟩ := h2 p i h
  obtain ⟨k, c, d⟩ := h1 p j a
  exact ⟨k, c, Int.le_trans d b⟩
theorem LeF.put {E : List (Str × D)} {p : Str} {v : Int} (h : ∀ i, dget E p = some (.int i) → v ≤ i) : LeF (dput E p (.int v)) E := fun z i hz => by
  by_cases e : z = p
  · subst e
    exact ⟨v, by rw [dget_dput, if_pos rfl], h i hz⟩
  · exact ⟨i, by rw [dget_dput, if_neg e]; exact hz, Int.le_refl i⟩
/-- the edge is seen to -/
def Edge (A E : List (Str × D)) (one other : Str) (v : Int) : Prop := ∀ i, dget A one = some (.int i) → ∃ j, dget E other = some (.int j) ∧ j ≤ i + v
theorem Edge.le {A E E' : List (Str × D)} {one other : Str} {v : Int} (h : Edge A E one other v) (hl : LeF E' E) : Edge A E' one other v := fun i hi => by
  obtain ⟨j, a, b⟩ := h i hi
  obtain ⟨k, c, d⟩ := hl other j a
  exact ⟨k, c, Int.le_trans d b⟩
def RelI (w : Web) (ws : List Int) (A E : List (Str × D)) (n : Nat) : Prop := ∀ k t, k < n → w.ties[k]? = some t → ∀ one other, behT t one = some other → Edge A E one other (ws.getD k 0)
theorem RelI.le {w : Web} {ws : List Int} {A E E' : List (Str × D)} {n : Nat} (h : RelI w ws A E n) (hl : LeF E' E) : RelI w ws A E' n := fun k t hk ht one other hb => (h k t hk ht one other hb).le hl
def sumW (ws : List Int) (ks : List Nat) : Int := (ks.map fun k => ws.getD k 0).sum
/-- all walks of at most i ties -/
def WalkI (w : Web) (ws : List Int) (E : List (Str × D)) (i : Nat) : Prop := ∀ ks p, ks.length ≤ i → walkTo w w.first ks = some p → ∃ j, dget E p = some (.int j) ∧ j ≤ sumW ws ks
theorem walkTo_cut (w : Web) {k : Nat} : ∀ (r : List Nat) (p q : Str), walkTo w p (r ++ [k]) = some q → ∃ z t, walkTo w p r = some z ∧ w.ties[k]? = some t ∧ behT t z = some q
  | [], p, q, h => by
    have h : (match w.ties[k]? with | some t => (match behT t p with | some p' => walkTo w p' [] | none => none) | none => none) = some q := h
    cases e : w.ties[k]? with
    | none => rw [e] at h; cases h
    | some t =>
      rw [e] at h
      have h : (match behT t p with | some p' => walkTo w p' [] | none => none) = some q := h
      cases e2 : behT t p with
      | none => rw [e2] at h; cases h
      | some p' =>
        rw [e2] at h
        exact ⟨p, t, rfl, rfl, by rw [e2]; exact h⟩
  | j :: r, p, q, h => by
    have h : (match w.ties[j]? with | some t => (match behT t p with | some p' => walkTo w p' (r ++ [k]) | none => none) | none => none) = some q := h
    cases e : w.ties[j]? with
    | none => rw [e] at h; cases h
    | some t =>
      rw [e] at h
      have h : (match behT t p with | some p' => walkTo w p' (r ++ [k]) | none => none) = some q := h
      cases e2 : behT t p with
      | none => rw [e2] at h; cases h
      | some p' =>
        rw [e2] at h
        obtain ⟨z, t2, h1, h2, h3⟩ := walkTo_cut w r p' q h
        refine ⟨z, t2, ?_, h2, h3⟩
        show (match w.ties[j]? with | some t => (match behT t p with | some p' => walkTo w p' r | none => none) | none => none) = _
        rw [e]
        show (match behT t p with | some p' => walkTo w p' r | none => none) = _
        rw [e2]
        exact h1
theorem sumW_snoc (ws : List Int) (r : List Nat) (k : Nat) : sumW ws (r ++ [k]) = sumW ws r + ws.getD k 0 := by
  unfold sumW
  rw [List.map_append, List.sum_append]
  simp
theorem WalkI.next {w : Web} {ws : List Int} {A E : List (Str × D)} {i : Nat} (h : WalkI w ws A i) (hl : LeF E A) (hr : RelI w ws A E w.ties.length) : WalkI w ws E (i + 1) := fun ks p hk hp => by
  rcases List.eq_nil_or_concat ks with rfl | ⟨r, k, rfl⟩
  · obtain ⟨j, a, b⟩ := h [] p (Nat.zero_le _) hp
    obtain ⟨j', c, d⟩ := hl p j a
    exact ⟨j', c, Int.le_trans d b⟩
  · rw [List.concat_eq_append] at hk hp ⊢
    rw [List.length_append, List.length_singleton] at hk
    obtain ⟨z, t, h1, h2, h3⟩ := walkTo_cut w r _ p hp
    obtain ⟨j, a, b⟩ := h r z (by omega) h1
    obtain ⟨j', c, d⟩ := hr k t (List.getElem?_eq_some_iff.mp h2).1 h2 z p h3 j a
    refine ⟨j', c, ?_⟩
    rw [sumW_snoc]
    omega
/-- a round without a change -/
theorem WalkI.stop {w : Web} {ws : List Int} {A E : List (Str × D)} {i : Nat} (h : WalkI w ws A i) (hl : LeF E A) (hr : RelI w ws A E w.ties.length) (hs : ∀ p j, dget E p = some (.int j) → dget A p = some (.int j)) : ∀ n, WalkI w ws E n
  | 0 => fun ks p hk hp => by
    obtain ⟨j, a, b⟩ := h ks p (by omega) hp
    obtain ⟨j', c, d⟩ := hl p j a
    exact ⟨j', c, Int.le_trans d b⟩
  | n + 1 => by
    have ih := WalkI.stop h hl hr hs n
    have ih' : WalkI w ws A n := fun ks p hk hp => by
      obtain ⟨j, a, b⟩ := ih ks p hk hp
      exact ⟨j, hs p j a, b⟩
    exact ih'.next hl hr
theorem dsame_go {ls : List (Str × D)} (hl : AllInt ls) : ∀ {ks : List (Str × D)}, AllInt ks → (keysD ks).Nodup → ∃ c, dsame.go ls ks = some c ∧ (c = true → ∀ p i, dget ks p = some (.int i) → dget ls p = some (.int i))
  | [], _, _ => ⟨true, rfl, fun _ p i h => by cases h⟩
  | (k, d) :: r, h, nd => by
    obtain ⟨i, hi⟩ := h (k, d) List.mem_cons_self
    obtain rfl : d = .int i := hi
    obtain ⟨c, hc, hc2⟩ := dsame_go (ks := r) hl (fun x hx => h x (List.mem_cons_of_mem _ hx)) (List.nodup_cons.mp nd).2
    cases e : dget ls k with
    | none => exact ⟨false, by unfold dsame.go; rw [e], fun z => nomatch z⟩
    | some d =>
      obtain ⟨j, rfl⟩ := hl.get e
      refine ⟨decide (i = j) && c, by unfold dsame.go; rw [e]; show (dsame.go ls r).map _ = _; rw [hc]; rfl, fun hcc p i2 hp => ?_⟩
      obtain ⟨g1, g2⟩ := Bool.and_eq_true_iff.mp hcc
      have g1 := of_decide_eq_true g1
      unfold dget at hp
      by_cases hkp : k = p
      · rw [if_pos hkp] at hp
        cases hp
        rw [← hkp, e, g1]
      · rw [if_neg hkp] at hp
        exact hc2 g2 p i2 hp
theorem dsame_ok {ks ls : List (Str × D)} (hk : AllInt ks) (hl : AllInt ls) (nd : (keysD ks).Nodup) : ∃ c, dsame ks ls = some c ∧ (c = true → ∀ p i, dget ks p = some (.int i) → dget ls p = some (.int i)) := by
  unfold dsame
  split
  · exact dsame_go hl hk nd
  · exact ⟨false, rfl, fun z => nomatch z⟩
end FC
/-! THE WALK, 18: how far. -/
namespace FC
open PySem PySem.Spec L2
local macro_rules | `(tactic| walk_at "d") => `(tactic| try simp only [dVar, dC, dOp, dUn, dAdd, dSub, dMul, dMod, dDiv, dPow, dNeg, dCmp, dEq, dNe, dEqv, dIsN, dNotN, isNon, dIn, inD, dInM, dIx, ixDs, dIxM, dChain, dB, asB, dAnd, dOr, dNot, dAndV, dOrV, dNotV, dIf, dNil, dCons, dTup, dLst, dLstM, dDic0, dDicM, dDisp1,
  dCB, dLen, dLenM, dAbs, dMax2, dMin2, dInt, dBool, dStr, dList, dListN, dListM, dTuple, dSorted, dDicC, dIsi, tyD_non, tyD_bl, tyD_int, tyD_str, tyD_lst, tyD_tup, tyD_dic, dNoPart, asI, dPart, dSl, dRev, dApp, dPopI, dRem, dEqNil, dEqNilM, dGet, dDGetM, dDGet, dDInM, dDInA, dDPopM, dEqD0, dEqDM, dJoin, dNext, dSeq, dDrop, dRet, dIfS, dNever, dgName, dgNil, dgCons, dgTup, dAsg, dSubM, dDPutM, dPar, dAug, dFrz, frzD, dFgt,
  diLst, diTup, diLstM, diRng1, diRng2, diStr, diEnum, diZip, dYes, dCall, endsD, startD, wipeD, dom,
  isTy_0_0, isTy_0_1, isTy_0_2, isTy_0_3, isTy_0_4, isTy_1_0, isTy_1_1, isTy_1_2, isTy_1_3, isTy_1_4, isTy_2_0, isTy_2_1, isTy_2_2, isTy_2_3, isTy_2_4, isTy_3_0, isTy_3_1, isTy_3_2, isTy_3_3, isTy_3_4, isTy_4_0, isTy_4_1, isTy_4_2, isTy_4_3, isTy_4_4, isTy_5_0, isTy_5_1, isTy_5_2, isTy_5_3, isTy_5_4, isTy_6_0, isTy_6_1, isTy_6_2, isTy_6_3, isTy_6_4,
  Int.cast_ofNat_Int, decide_true, decide_false, Int.reduceEq, Int.reduceLT, Int.reduceLE, atI_0, atI_1, atI_2, atI_3, atI_4, List.length_map, List.map_cons, List.map_nil, List.length_cons, List.length_nil, Nat.reduceAdd, Nat.reduceSub, List.reduceReplicate, List.cons_append, List.nil_append, List.append_nil, List.getElem?_cons_zero, List.getElem?_cons_succ, List.getElem?_nil, List.set_cons_zero, List.set_cons_succ, List.take_zero, List.drop_zero, List.take_succ_cons, List.drop_succ_cons,
  List.eraseIdx_cons_zero, List.eraseIdx_cons_succ, true_and, and_true, eq_self, and_self, if_true, if_false, Bool.false_eq_true, reduceIte, Bool.not_true, Bool.not_false, forall_const, exists_eq_left, exists_eq_left', exists_eq_right, exists_eq_right', exists_and_left, exists_const, D.adr.injEq, D.str.injEq, D.int.injEq, D.lst.injEq, D.tup.injEq, D.bl.injEq, Option.some.injEq, Prod.mk.injEq, MO.l.injEq, MO.d.injEq, List.cons.injEq, Function.const_apply, dLock, lckE, dDGetK, dFld, dSetF, dMeth, dMake, dRaise, diKeys, dGet, dAddM, List.not_mem_nil, false_implies, implies_true, List.mem_singleton, forall_eq, Option.isSome_none, Option.isSome_some, lcRes, exists_eq, exists_eq', List.length_append, List.length_singleton])

theorem for_of {di : DI} {dg : DG} {db : DS} {F : DEnds} {r : Rho} {m : Mu} (its : List D) (c : Mu → Prop) (m1 : Mu) (hd : ∀ G : List D → (Mu → Prop) → Mu → Prop, G its c m1 → di r m G) (Inv : Nat → Rho → Mu → Prop) (h0 : Inv 0 r m1) (hc : ∀ i r m, Inv i r m → c m)
    (hs : ∀ i d r m, its[i]? = some d → Inv i r m → dg d r fun r' => db { nx := Inv (i + 1), rt := F.rt, bk := F.nx, ct := Inv (i + 1) } r' m) (hn : ∀ r m, Inv its.length r m → F.nx r m) : dFor di dg db F r m := hd _ ⟨Inv, h0, hc, hs, hn⟩
structure FarOk (w : Web) (E : List (Str × D)) : Prop where
  int : AllInt E
  nd : (keysD E).Nodup
  sub : ∀ p ∈ keysD E, p ∈ w.places
theorem FarOk.len {w : Web} (hw : WebOk w) {E : List (Str × D)} (h : FarOk w E) : E.length ≤ 7 := by
  have h1 := pigeon h.nd h.sub
  unfold keysD at h1
  rw [List.length_map] at h1
  have := hw.hi
  omega
theorem FarOk.put {w : Web} {E : List (Str × D)} (h : FarOk w E) {p : Str} (hp : p ∈ w.places) (v : Int) : FarOk w (dput E p (.int v)) := by
  refine ⟨h.int.put p v, ?_, fun z hz => ?_⟩
  · rw [keys_dput]
    split
    · exact h.nd
    · rename_i hn
      refine List.nodup_append.mpr ⟨h.nd, by simp, fun u hu y hy q => ?_⟩
      obtain rfl : y = p := by simpa using hy
      exact hn (q ▸ hu)
  · rw [keys_dput] at hz
    split at hz
    · exact h.sub z hz
    · rcases List.mem_append.mp hz with q | q
      · exact h.sub z q
      · obtain rfl : z = p := by simpa using q
        exact hp
abbrev S_l_far : Spc := fun ds m F X => ∃ (w : Web) (ws : List Int), ds = [webD w, .lst (ws.map .int), .lst []] ∧ m = [] ∧ WebOk w ∧ ws.length = w.ties.length ∧ Reach w w.last ∧ ∀ (kvs : List (Str × D)) (f : Int), dget kvs w.last = some (.int f) → (∀ ks, WayK w ks → f ≤ sumW ws ks) → F (dicD kvs) []
def J_fr (w : Web) (ws : List Int) (a : Addr) (i : Nat) (r : Rho) (m : Mu) : Prop := ∃ (o1 o2 o3 o4 o5 o6 : Option D) (E : List (Str × D)), r = [some (webD w), some (.lst (ws.map .int)), some (.lst []), some (.adr a), o1, o2, o3, o4, o5, o6] ∧ m = [(a, .d E)] ∧ FarOk w E ∧ WalkI w ws E i
def J_fi (w : Web) (ws : List Int) (a b : Addr) (A : List (Str × D)) (i : Nat) (r : Rho) (m : Mu) : Prop := ∃ (o1 o3 o4 o5 o6 : Option D) (E : List (Str × D)), r = [some (webD w), some (.lst (ws.map .int)), some (.lst []), some (.adr a), o1, some (.adr b), o3, o4, o5, o6] ∧ m = [(a, .d E), (b, .d A)] ∧ FarOk w E ∧ LeF E A ∧ RelI w ws A E i
/-- the directions of a tie -/
def dirs (t : Tie) : List (Str × Str) := (t.one, t.other) :: (if t.both = true then [(t.other, t.one)] else [])
def J_fd (w : Web) (ws : List Int) (a b : Addr) (A : List (Str × D)) (k : Nat) (t : Tie) (c : Nat) (r : Rho) (m : Mu) : Prop := ∃ (o1 o5 o6 : Option D) (E : List (Str × D)), r = [some (webD w), some (.lst (ws.map .int)), some (.lst []), some (.adr a), o1, some (.adr b), some (.int (k : Nat)), some (tieD t), o5, o6] ∧ m = [(a, .d E), (b, .d A)] ∧ FarOk w E ∧ LeF E A ∧ RelI w ws A E k ∧ ∀ x ∈ (dirs t).take c, Edge A E x.1 x.2 (ws.getD k 0)
theorem dirs_cut (t : Tie) : cutD [.tup [.str t.one, .str t.other], .tup [.str t.other, .str t.one]] none (some (1 + (if t.both = true then 1 else 0))) = (dirs t).map fun x => .tup [.str x.1, .str x.2] := by
  unfold dirs
  cases t.both <;> rfl
theorem sc_l_far : FnScope ["_law_web_here", "_law_wholes_here", "_law_taken", "_law_found", "_law_turn", "_law_ahead", "_law_k", "_law_tie_here", "_law_one", "_law_other"] ["_law_web_here", "_law_wholes_here", "_law_taken"] (defScope s_l_far) := ⟨rfl, rfl, rfl, by decide +kernel, rfl, by decide +kernel, by decide +kernel⟩
theorem ok_l_far {P : Program} {w : World} {K : PySem.W.Frag} {mg : Str → Option Value} {base : Heap} (T : Tx K mg) : Fo P w K mg base CX0 1 "_law_far" ["_law_web_here", "_law_wholes_here", "_law_taken"] (spD K (NC K) 3 S_l_far) := by
  refine Fo.mk_ T 71 63 rfl rfl rfl rfl rfl (fun _ _ _ _ _ _ us hl => match us, hl with | [_, _, _], _ => rfl) fun f fd F => ok_pure 0 F sc_l_far rfl fun cdv A outer s H E I m ds Fv X hr h => ?_
  have hu := hu_of hr
  refine ⟨_, _, (pss_cons (ps_set (i := 3) sc_l_far.nd rfl (.inl rfl) (pe_disp1 (pe_ix (o_ixK K) (pv 0) pe_int (fun _ _ => rfl)) pe_int))
    (pss_cons (ps_for PassesOwn.never rfl (pi_range1 rfl (T.b 89 rfl) (pa_cons (pe_bi c_len (T.b 85 rfl) bb_len (pa_cons (pe_ix (o_ixK K) (pv 0) pe_int (fun _ _ => rfl)) pa_nil)) pa_nil)) (pg_name (i := 4) sc_l_far.nd rfl (.inl rfl))
    (pss_cons (ps_set (i := 5) sc_l_far.nd rfl (.inl rfl) (pe_bt (c_dict 0) (T.b 81 rfl) bb_dict (pa_cons (pv 3) pa_nil)))
    (pss_cons (ps_for PassesOwn.never rfl (pi_enum rfl (T.b 82 rfl) (pa_cons (pe_ix (o_ixK K) (pv 0) pe_int (fun _ _ => rfl)) pa_nil)) (pg_tup rfl (pgs_cons (pg_name (i := 6) sc_l_far.nd rfl (.inl rfl)) (pgs_cons (pg_name (i := 7) sc_l_far.nd rfl (.inl rfl)) pgs_nil)))
    (pss_one (ps_for PassesOwn.never rfl (pi_list (pe_slice (sl_anyK K) (pe_lst (pa_cons (pe_tup (pa_cons (pe_ix (o_ixK K) (pv 7) pe_int (fun _ _ => rfl)) (pa_cons (pe_ix (o_ixK K) (pv 7) pe_int (fun _ _ => rfl)) pa_nil))) (pa_cons (pe_tup (pa_cons (pe_ix (o_ixK K) (pv 7) pe_int (fun _ _ => rfl)) (pa_cons (pe_ix (o_ixK K) (pv 7) pe_int (fun _ _ => rfl)) pa_nil))) pa_nil))) po_none (po_some (pe_op o_add pe_int (pe_bt c_int (T.b 83 rfl) bb_int (pa_cons (pe_cmpR op_eq (pe_ix (o_ixK K) (pv 7) pe_int (fun _ _ => rfl)) pe_str (nomark _)) pa_nil)))))) (pg_tup rfl (pgs_cons (pg_name (i := 8) sc_l_far.nd rfl (.inl rfl)) (pgs_cons (pg_name (i := 9) sc_l_far.nd rfl (.inl rfl)) pgs_nil)))
    (pss_one (ps_if (PW.pt (pw_and (pt_cmpR (o_ninK K) (pv 6) (pv 2) (by rfl)) (pw_and1 (pt_cmp (pc_inM 0 hu (pv 8) (pv 3)))))) (pss_one (ps_if (PW.pt (pw_or (pt_cmp (pc_ninM 0 hu (pv 9) (pv 3))) (pw_or1 (pt_cmpR o_lt (pe_op o_add (pe_dgetM 0 (pe_dget hu (pv 3) (pv 8) (fun _ _ => rfl))) (pe_ix (o_ixK K) (pv 1) (pv 6) (fun _ _ => rfl))) (pe_dgetM 0 (pe_dget hu (pv 3) (pv 9) (fun _ _ => rfl))) (nomark _))))) (pss_one (as_dput 0 (ps_dput hu (pv 3) (pv 9) (pe_op o_add (pe_dgetM 0 (pe_dget hu (pv 3) (pv 8) (fun _ _ => rfl))) (pe_ix (o_ixK K) (pv 1) (pv 6) (fun _ _ => rfl))) rfl))) pss_nil)) pss_nil)))))
    (pss_cons (ps_if (pt_cmpR (o_eqDM 0 1 hr.units0) (pv 3) (pv 5) (nomark _)) (pss_frz 3 0 (pss_one (ps_ret (pv 3)))) pss_nil) (pss_fgt 1 pss_nil)))))
    (pss_frz 3 0 (pss_one (ps_ret (pv 3)))))), (by (try dsimp only [cxOf]); infer_instance), ?_⟩
  obtain ⟨w', ws, rfl, rfl, hw, hl, hr, h⟩ := h
  have hl14 := hw.tl
  have hp7 := hw.hi
  have sL : ∀ n, n ≤ 100 → n ≤ sizeLine := fun n hn => sl100 (by omega)
  have fin : ∀ E, FarOk w' E → WalkI w' ws E w'.places.length → Fv (dicD E) [] := fun E hE hWI => by
    obtain ⟨ks, hg⟩ := (reach_good w').mp hr
    obtain ⟨ks', e, hWK⟩ := isWay_K hw (goodW_isWay hg)
    obtain ⟨j, hj, _⟩ := hWI ks' _ (Nat.le_of_lt hWK.len) hWK.walk
    refine h E j hj fun ks2 h2 => ?_
    obtain ⟨j2, hj2, hle⟩ := hWI ks2 _ (Nat.le_of_lt h2.len) h2.walk
    rw [hj] at hj2
    cases hj2
    exact hle
  refine seq_mid (fun r m => ∃ a, J_fr w' ws a 0 r m) (fun R hR => ?_) ?_
  · walk_at "d"
    refine fun a => hR _ _ ⟨a, none, none, none, none, none, none, [(w'.first, .int 0)], rfl, rfl, ⟨fun x hx => ?_, by simp [keysD], fun p hp => ?_⟩, fun ks p hk hp => ?_⟩
    · obtain rfl : x = (w'.first, .int 0) := by simpa using hx
      exact ⟨0, rfl⟩
    · obtain rfl : p = w'.first := by simpa [keysD] using hp
      exact hw.first
    · cases ks with
      | nil =>
        cases hp
        exact ⟨0, by unfold dget; rw [if_pos rfl], Int.le_refl _⟩
      | cons k r => simp at hk
  rintro r m ⟨a, hJ⟩
  refine seq_mid (fun r m => J_fr w' ws a w'.places.length r m) (fun R hR => ?_) ?_
  · obtain ⟨o1, o2, o3, o4, o5, o6, E, rfl, rfl, hE, hWI⟩ := hJ
    refine for_of (rngD 0 w'.places.length) anyMu _ (fun G h => ?_) (fun i r m => J_fr w' ws a i r m) ⟨o1, o2, o3, o4, o5, o6, E, rfl, rfl, hE, hWI⟩ (fun _ _ _ _ => trivial) ?_ ?_
    · walk_at "d"
      exact ⟨by omega, by omega, h⟩
    · rintro i d r m hi ⟨o1, o2, o3, o4, o5, o6, E, rfl, rfl, hE, hWI⟩
      obtain ⟨hj, rfl⟩ := rngD_get hi
      show dSeq _ _ _ _ _
      refine seq_mid (fun r m => ∃ b, J_fi w' ws a b E 0 r m) (fun R hR => ?_) ?_
      · walk_at "d"
        exact fun b => hR _ _ ⟨b, _, _, _, _, _, E, rfl, rfl, hE, LeF.refl E, fun k t hk => absurd hk (Nat.not_lt_zero _)⟩
      rintro r m ⟨b, o1, o3, o4, o5, o6, E1, rfl, rfl, hE1, hle1, hrel1⟩
      refine seq_mid (fun r m => J_fi w' ws a b E w'.ties.length r m) (fun R hR => ?_) ?_
      · refine for_of (enumD (w'.ties.map tieD)) anyMu _ (fun G h => ?_) (fun i r m => J_fi w' ws a b E i r m) ⟨o1, o3, o4, o5, o6, E1, rfl, rfl, hE1, hle1, hrel1⟩ (fun _ _ _ _ => trivial) ?_ ?_
        · walk_at "d"
          exact h
        · rintro k d r m hk ⟨o1, o3, o4, o5, o6, E2, rfl, rfl, hE2, hle2, hrel2⟩
          obtain ⟨t, ht, rfl⟩ := enum_at hk
          have hto := hw.tie t (List.mem_of_getElem? ht)
          have hkl := (List.getElem?_eq_some_iff.mp ht).1
          have hwk : (ws.map D.int)[k]? = some (.int (ws.getD k 0)) := by
            rw [List.getElem?_map, List.getD_eq_getElem?_getD, List.getElem?_eq_getElem (by omega)]
            rfl
          simp only [dgTup, dgCons, dgName, dgNil]
          refine ⟨rfl, ?_⟩
          simp only [true_and]
          refine for_of ((dirs t).map fun x => .tup [.str x.1, .str x.2]) anyMu _ (fun G h => ?_) (fun i r m => J_fd w' ws a b E k t i r m) ⟨o1, o5, o6, E2, rfl, rfl, hE2, hle2, hrel2, fun x hx => by simp at hx⟩ (fun _ _ _ _ => trivial) ?_ ?_
          · walk_at "d"
            rw [bothW_eq, dirs_cut]
            exact ⟨sL _ (by decide), sL _ (by decide), sL _ (by decide), h⟩
          · rintro c d r m hc ⟨o1, o5, o6, E3, rfl, rfl, hE3, hle3, hrel3, hdir3⟩
            rw [List.getElem?_map] at hc
            cases e : (dirs t)[c]? with
            | none => rw [e] at hc; cases hc
            | some x =>
              rw [e] at hc
              cases hc
              obtain ⟨hlt, ex⟩ := List.getElem?_eq_some_iff.mp e
              have hx2 : x.2 ∈ w'.places := by
                have hm := List.mem_of_getElem? e
                unfold dirs at hm
                rcases List.mem_cons.mp hm with rfl | hm
                · exact hto.other
                · split at hm
                  · obtain rfl : x = (t.other, t.one) := by simpa using hm
                    exact hto.one
                  · cases hm
              have go : ∀ E4, FarOk w' E4 → LeF E4 E3 → Edge E E4 x.1 x.2 (ws.getD k 0) → J_fd w' ws a b E k t (c + 1) [some (webD w'), some (.lst (ws.map .int)), some (.lst []), some (.adr a), o1, some (.adr b), some (.int (k : Nat)), some (tieD t), some (.str x.1), some (.str x.2)] [(a, .d E4), (b, .d E)] := fun E4 g1 g2 g3 =>
                ⟨_, _, _, E4, rfl, rfl, g1, g2.trans hle3, hrel3.le g2, fun z hz => by
                  rw [List.take_succ_eq_append_getElem hlt, ex] at hz
                  rcases List.mem_append.mp hz with q | q
                  · exact (hdir3 z q).le g2
                  · obtain rfl : z = x := by simpa using q
                    exact g3⟩
              have hE7 : E3.length < sizeLine := Nat.lt_of_le_of_lt (hE3.len hw) (by decide)
              have e0 : inDs (.int (k : Nat)) [] = some false := rfl
              cases e1 : dget E3 x.1 with
              | none =>
                walk_at "d"
                refine ⟨rfl, ?_⟩
                rw [e0, e1]
                walk_at "d"
                refine go E3 hE3 (LeF.refl E3) fun i2 hi2 => ?_
                obtain ⟨j2, hj2, _⟩ := hle3 _ _ hi2
                rw [e1] at hj2
                cases hj2
              | some d1 =>
                obtain ⟨j, rfl⟩ := hE3.int.get e1
                have hej : ∀ i2, dget E x.1 = some (.int i2) → j ≤ i2 := fun i2 hi2 => by
                  obtain ⟨j2, hj2, hle⟩ := hle3 _ _ hi2
                  rw [e1] at hj2
                  cases hj2
                  exact hle
                have hput : (∀ i2, dget E3 x.2 = some (.int i2) → j + ws.getD k 0 ≤ i2) → J_fd w' ws a b E k t (c + 1) [some (webD w'), some (.lst (ws.map .int)), some (.lst []), some (.adr a), o1, some (.adr b), some (.int (k : Nat)), some (tieD t), some (.str x.1), some (.str x.2)] [(a, .d (dput E3 x.2 (.int (j + ws.getD k 0)))), (b, .d E)] := fun hh =>
                  go _ (hE3.put hx2 _) (LeF.put hh) fun i2 hi2 => ⟨_, by rw [dget_dput, if_pos rfl], by have := hej i2 hi2; omega⟩
                cases e2 : dget E3 x.2 with
                | none =>
                  walk_at "d"
                  refine ⟨rfl, ?_⟩
                  rw [e0, e1, e2]
                  walk_at "d"
                  rw [atN hwk]
                  walk_at "d"
                  exact ⟨hE7, hput fun i2 h => by rw [e2] at h; cases h⟩
                | some d2 =>
                  obtain ⟨l, rfl⟩ := hE3.int.get e2
                  walk_at "d"
                  refine ⟨rfl, ?_⟩
                  rw [e0, e1, e2]
                  walk_at "d"
                  rw [atN hwk]
                  walk_at "d"
                  rw [e2]
                  walk_at "d"
                  split
                  · rename_i hlt2
                    rw [e1]
                    walk_at "d"
                    have hlt2 := of_decide_eq_true hlt2
                    exact ⟨hE7, hput fun i2 h => by rw [e2] at h; cases h; omega⟩
                  · rename_i hlt2
                    have hlt2 := of_decide_eq_false (Bool.eq_false_iff.mpr hlt2)
                    exact go E3 hE3 (LeF.refl E3) fun i2 hi2 => ⟨l, e2, by have := hej i2 hi2; omega⟩
          · rintro r m ⟨o1, o5, o6, E3, rfl, rfl, hE3, hle3, hrel3, hdir3⟩
            rw [List.length_map, List.take_length] at hdir3
            refine ⟨_, _, _, _, _, E3, rfl, rfl, hE3, hle3, fun k2 t2 hk2 ht2 one other hb => ?_⟩
            rcases Nat.lt_succ_iff_lt_or_eq.mp hk2 with q | rfl
            · exact hrel3 k2 t2 q ht2 one other hb
            · rw [ht] at ht2
              cases ht2
              refine hdir3 (one, other) ?_
              unfold dirs
              unfold behT at hb
              split at hb
              · rename_i q
                cases hb
                rw [q]
                exact List.mem_cons_self
              · split at hb
                · rename_i q
                  cases hb
                  rw [if_pos q.2, q.1]
                  simp
                · cases hb
        · rintro r m hJ
          have e : (enumD (w'.ties.map tieD)).length = w'.ties.length := by simp [enumD]
          rw [e] at hJ
          exact hR _ _ hJ
      rintro r m ⟨o1, o3, o4, o5, o6, E2, rfl, rfl, hE2, hle2, hrel2⟩
      obtain ⟨c, hc, hcs⟩ := dsame_ok hE2.int hE.int hE2.nd
      walk_at "d"
      refine ⟨c, hc, ?_⟩
      cases c with
      | true => exact fin E2 hE2 (WalkI.stop hWI hle2 hrel2 (hcs rfl) _)
      | false => exact ⟨_, _, _, _, _, _, E2, rfl, rfl, hE2, hWI.next hle2 hrel2⟩
    · rintro r m hJ
      rw [rngD_len] at hJ
      exact hR _ _ hJ
  rintro r m ⟨o1, o2, o3, o4, o5, o6, E, rfl, rfl, hE, hWI⟩
  walk_at "d"
  exact fin E hE hWI
end FC
/-! THE LOGIC, 10: a call tried, its NoCases caught. -/
namespace FC
open PySem PySem.Spec L2
theorem takesNo {X : Cx} : L2.Takes X (fun _ _ _ _ => False) := fun _ _ x => by
  obtain ⟨_, _, _, _, _, _, _, _, _, _, _, _, _, _, _, _, z⟩ := x
  exact z.elim
/-- the suite: slot i := None -/
def tNone (i : Nat) : TS := tAsg (tC .non) (gName i)
def wTold (K : PySem.W.Frag) (i e : Nat) (D : Ends) : WX := wAs K (.ref (NC K)) e (fun _ _ _ => tNone i) (fun _ _ _ _ => False) D
def tTold (K : PySem.W.Frag) (n : Nat) (S : Spc) (i e : Nat) (ta : TA) : TS := fun D σ H => tAsg (tCallS (spD K (NC K) n S) (WE (wTold K i e D)) ta) (gName i) D σ H
def dTold (n : Nat) (S : Spc) (i e : Nat) (da : DA) : DS := fun F r m => da r m fun ds m1 => ds.length = n ∧ S ds [] (fun d m' => F.nx (r.set i (some d)) (m' ++ m1)) fun m' => F.nx ((r.set i (some .non)).set e none) (m' ++ m1)
class ExSelf (K : PySem.W.Frag) : Prop where
  ex : PySem.W.exmOne K (.ref (NC K)) (.ref (NC K)) = some true
section
variable {K : PySem.W.Frag} {o : Og}
theorem Sl.none {I : Hp} {r : Rho} {s : St} (h : Sl K I r s) (e : Nat) (x : Option V) (i : Nat) {d : D} {v : V} (hv : Rep K I d v) : Sl K I ((r.set i (some d)).set e none) (((s.set e x).set i (some v)).set e none) := by
  refine ⟨by simp [h.len], fun j d' q => ?_⟩
  by_cases hej : e = j
  · subst hej
    rw [List.getElem?_set] at q
    simp at q
  · rw [List.getElem?_set_ne hej] at q ⊢
    by_cases hij : i = j
    · subst hij
      have hl : i < r.length := by
        by_cases hh : i < r.length
        · exact hh
        · rw [List.getElem?_eq_none (by simp; omega)] at q
          cases q
      rw [List.getElem?_set_self hl] at q
      cases q
      exact ⟨v, by rw [List.getElem?_set_self (by rw [List.length_set, ← h.len]; exact hl)], hv⟩
    · rw [List.getElem?_set_ne hij] at q ⊢
      rw [List.getElem?_set_ne hej]
      exact h.at_ j d' q
instance {n : Nat} {S : Spc} {i e : Nat} {ta : TA} {da : DA} [ex : ExSelf K] [ia : LA K o ta da] : LS K o (tTold K n S i e ta) (dTold n S i e da) := ⟨fun {r m I H s F Q} w l h p => ia.go w l h fun vs ds I1 H1 m1 h1 w1 e1 r1 => by
  have w0 : Wo K o I1 H1 (m1.take 0 ++ m1.drop 0) := by rw [List.take_append_drop]; exact w1
  refine ⟨by rw [r1.length]; exact h1.1, I1, m1.take 0, ds, _, _, w1.w.take 0, r1, h1.2, fun v d I2 H2 m2 hf w2 t2 r2 => ?_, fun dd I2 H2 m2 hx w2 t2 => ?_⟩
  · have w3 := w0.call w2 t2
    exact p.nx _ _ I2 H2 _ hf w3 (e1.trans t2.i) ((l.mono (e1.trans t2.i)).set i r2)
  · have w3 := w0.call w2 t2
    refine ⟨true, ex.ex, fun _ a ha => ?_, fun q => nomatch q⟩
    exact p.nx _ _ I2 H2 _ hx w3 (e1.trans t2.i) ((l.mono (e1.trans t2.i)).none e _ i rfl)⟩
end
theorem Tx.exSelf {K : PySem.W.Frag} {mg : Str → Option Value} (T : Tx K mg) (i : Nat) (h : FC.fa[i]? = some (.exm "NoCases" "NoCases" true)) : ExSelf K := ⟨He.exm_ok (T.fa _ (List.mem_of_getElem? h))⟩
section
variable {X : Cx} {CX : CXT} {k : Nat} {x : Str} {ps : List Str} {C : Addr} {n : Nat} {S : Spc} {E : St → XK} {p pos : Pos} {e : Expr} {es : List Expr} {t : TA}
theorem pe_ownS (K : PySem.W.Frag) (G : Fo X.prog X.w K X.mg X.base CX k x ps (spD K C n S)) (hr : Room k X.A) (hx : ∀ σ, PassesAt CX X σ (E σ)) (ha : PA X (e :: es) t) (hK : X.K = K := by rfl) (hg : Gl X x := by rfl) (hdb : (x == ("__debug__" : Str)) = false := by decide) (he : starEach (e :: es) X.env = (false, eval e X.env) :: starEach es X.env := by rfl)
    (hpl : (backTo pos (starEach es X.env)).any (·.1) = false := by rfl) : PE X (.Call (.Name x p) (e :: es) [] pos) (tCallS (spD K C n S) E t) := by
  subst hK
  obtain ⟨f, fd, h1, h2, h3, h4⟩ := G.ex
  exact pe_callS h1 hr hg h2 h3 h4 hx ha hdb he hpl
theorem as_told (K : PySem.W.Frag) {st : Stmt} {i j : Nat} (h : PS X st (fun D σ H => tAsg (tCallS (spD K (NC K) n S) (WE (wAs K (.ref (NC K)) j (fun _ _ _ => tNone i) (fun _ _ _ _ => False) D)) t) (gName i) D σ H)) : PS X st (tTold K n S i j t) := h
end
end FC
/-! THE WALK, 19: told; the longest. -/
namespace FC
open PySem PySem.Spec L2
local macro_rules | `(tactic| walk_at "d") => `(tactic| try simp only [dVar, dC, dOp, dUn, dAdd, dSub, dMul, dMod, dDiv, dPow, dNeg, dCmp, dEq, dNe, dEqv, dIsN, dNotN, isNon, dIn, inD, dInM, dIx, ixDs, dIxM, dChain, dB, asB, dAnd, dOr, dNot, dAndV, dOrV, dNotV, dIf, dNil, dCons, dTup, dLst, dLstM, dDic0, dDicM, dDisp1,
  dCB, dLen, dLenM, dAbs, dMax2, dMin2, dInt, dBool, dStr, dList, dListN, dListM, dTuple, dSorted, dDicC, dIsi, tyD_non, tyD_bl, tyD_int, tyD_str, tyD_lst, tyD_tup, tyD_dic, dNoPart, asI, dPart, dSl, dRev, dApp, dPopI, dRem, dEqNil, dEqNilM, dGet, dDGetM, dDGet, dDInM, dDInA, dDPopM, dEqD0, dEqDM, dJoin, dNext, dSeq, dDrop, dRet, dIfS, dNever, dgName, dgNil, dgCons, dgTup, dAsg, dSubM, dDPutM, dPar, dAug, dFrz, frzD, dFgt,
  diLst, diTup, diLstM, diRng1, diRng2, diStr, diEnum, diZip, dYes, dCall, endsD, startD, wipeD, dom,
  isTy_0_0, isTy_0_1, isTy_0_2, isTy_0_3, isTy_0_4, isTy_1_0, isTy_1_1, isTy_1_2, isTy_1_3, isTy_1_4, isTy_2_0, isTy_2_1, isTy_2_2, isTy_2_3, isTy_2_4, isTy_3_0, isTy_3_1, isTy_3_2, isTy_3_3, isTy_3_4, isTy_4_0, isTy_4_1, isTy_4_2, isTy_4_3, isTy_4_4, isTy_5_0, isTy_5_1, isTy_5_2, isTy_5_3, isTy_5_4, isTy_6_0, isTy_6_1, isTy_6_2, isTy_6_3, isTy_6_4,
  Int.cast_ofNat_Int, decide_true, decide_false, Int.reduceEq, Int.reduceLT, Int.reduceLE, atI_0, atI_1, atI_2, atI_3, atI_4, List.length_map, List.map_cons, List.map_nil, List.length_cons, List.length_nil, Nat.reduceAdd, Nat.reduceSub, List.reduceReplicate, List.cons_append, List.nil_append, List.append_nil, List.getElem?_cons_zero, List.getElem?_cons_succ, List.getElem?_nil, List.set_cons_zero, List.set_cons_succ, List.take_zero, List.drop_zero, List.take_succ_cons, List.drop_succ_cons,
  List.eraseIdx_cons_zero, List.eraseIdx_cons_succ, true_and, and_true, eq_self, and_self, if_true, if_false, Bool.false_eq_true, reduceIte, Bool.not_true, Bool.not_false, forall_const, exists_eq_left, exists_eq_left', exists_eq_right, exists_eq_right', exists_and_left, exists_const, D.adr.injEq, D.str.injEq, D.int.injEq, D.lst.injEq, D.tup.injEq, D.bl.injEq, Option.some.injEq, Prod.mk.injEq, MO.l.injEq, MO.d.injEq, List.cons.injEq, Function.const_apply, dLock, lckE, dDGetK, dFld, dSetF, dMeth, dMake, dRaise, diKeys, dGet, dAddM, dTold, List.not_mem_nil, false_implies, implies_true, List.mem_singleton, forall_eq, Option.isSome_none, Option.isSome_some, lcRes, exists_eq, exists_eq', List.length_append, List.length_singleton])

abbrev S_l_told : Spc := fun ds m F X => ∃ (w : Web) (adds : List Rat) (purse : Rat) (d : D), ds = [webD w, .lst (adds.map fD), fD purse, d] ∧ m = [] ∧ WebOk w ∧ AddsOk w adds ∧ 0 ≤ purse ∧ Sz 20 purse ∧ vis d = true ∧
  (∀ q : Rat, 0 ≤ q → Sz 30 q → ClaimOk w adds purse q → F (fD q) []) ∧ (¬ Good w purse 15 d [] [] → F .non [])
theorem sc_l_told : FnScope ["_law_web_here", "_law_adds_here", "_law_purse_here", "_law_thing", "_law_found", "e"] ["_law_web_here", "_law_adds_here", "_law_purse_here", "_law_thing"] (defScope s_l_told) := ⟨rfl, rfl, rfl, by decide +kernel, rfl, by decide +kernel, by decide +kernel⟩
theorem ok_l_told {P : Program} {w : World} {K : PySem.W.Frag} {mg : Str → Option Value} {base : Heap} (T : Tx K mg) (G_claim_of_longer : Fo P w K mg base (L2.CX P w) 40 "claim_of_longer" ["web", "adds", "purse", "thing"] (spD K (NC K) 4 S_claim_of_longer)) : Fo P w K mg base CX0 41 "_law_told" ["_law_web_here", "_law_adds_here", "_law_purse_here", "_law_thing"] (spD K (NC K) 4 S_l_told) := by
  haveI := T.exSelf 115 rfl
  refine Fo.mk_ T 73 65 rfl rfl rfl rfl rfl (fun _ _ _ _ _ _ us hl => match us, hl with | [_, _, _, _], _ => rfl) fun f fd F => ok_pure 0 F sc_l_told rfl fun cdv A outer s H E I m ds Fv X hr h => ?_
  refine ⟨_, _, (pss_cons (ps_set (i := 4) sc_l_told.nd rfl (.inl rfl) pe_non)
    (pss_cons (as_told K (L2.ps_try_as (i := 5) (tb := fun W => tAsg (tCallS (spD K (NC K) 4 S_claim_of_longer) (WE W) _) (gName 4)) (ts := fun _ _ _ => tNone 4) (Wout := fun _ _ _ _ => False) rfl rfl sc_l_told.nd rfl rfl ⟨rfl, by decide, Or.inl (T.g 73 rfl)⟩ takesNo
      (fun W pn xe tk _ => pss_one (ps_set (i := 4) sc_l_told.nd rfl (.inl rfl) (by exact (pe_ownS K G_claim_of_longer (hr.mono (by decide)) (fun σ => passAt tk σ) (by exact (pa_cons (pv 0) (pa_cons (pv 1) (pa_cons (pv 2) (pa_cons (pv 3) pa_nil)))))))))
      (fun a oe cls d pn hz hf => pss_one (ps_set (i := 4) sc_l_told.nd rfl (.inl rfl) pe_non))))
    (pss_one (ps_ret (pv 4))))), (by (try dsimp only [cxOf]); infer_instance), ?_⟩
  obtain ⟨w', adds, purse, d, rfl, rfl, hw, ha, hp0, hp, hd, h1, h2⟩ := h
  walk_at "d"
  refine ⟨w', adds, purse, d, rfl, rfl, hw, ha, hp0, hp, hd, ?_, fun q a b c => ?_⟩
  · by_cases hG : Good w' purse 15 d [] []
    · exact .inl hG
    · exact .inr fun m' => h2 hG
  · exact h1 q a b c
end FC
/-! THE MATHEMATICS, 10: wholes lie no higher. -/
namespace FC
open PySem PySem.Spec L2
theorem den_mul (q : Rat) : q * ((q.den : Nat) : Rat) = ((q.num : Int) : Rat) := by
  have h : q = ((q.num : Int) : Rat) / ((q.den : Nat) : Rat) := by rw [← Rat.mkRat_eq_div, Rat.mkRat_self]
  have hd : ((q.den : Nat) : Rat) ≠ 0 := by
    have := (Rat.natCast_pos (a := q.den)).mpr q.den_pos
    intro z
    rw [z] at this
    exact absurd this (by decide)
  conv => lhs; arg 1; rw [h]
  exact Rat.div_mul_cancel hd
theorem whole_le {q : Rat} (hq : 0 ≤ q) (c : Nat) : ((wholeI q c : Int) : Rat) ≤ (c : Rat) * q := by
  have hd := (Rat.natCast_pos (a := q.den)).mpr q.den_pos
  refine Rat.le_of_mul_le_mul_right (c := ((q.den : Nat) : Rat)) ?_ hd
  rw [Rat.mul_assoc, den_mul]
  have e : wholeI q c * ((q.den : Nat) : Int) ≤ ((c : Nat) : Int) * q.num := by
    unfold wholeI
    rw [Int.mul_assoc, Int.mul_comm ((c : Nat) : Int)]
    refine Int.mul_le_mul_of_nonneg_left ?_ (num_nonneg hq)
    rw [← Int.natCast_mul]
    exact Int.ofNat_le.mpr (Nat.div_mul_le_self _ _)
  have h2 := Rat.intCast_le_intCast.mpr e
  rw [Rat.intCast_mul, Rat.intCast_mul] at h2
  exact h2
theorem sum_whole {c : Nat} {ws : List Int} {f : Nat → Rat} : ∀ ks : List Nat, (∀ k ∈ ks, 0 ≤ f k ∧ ws.getD k 0 = wholeI (f k) c) → ((sumW ws ks : Int) : Rat) ≤ (c : Rat) * sumF 0 (ks.map f)
  | [], _ => by
    show ((0 : Int) : Rat) ≤ (c : Rat) * 0
    rw [Rat.mul_zero]
    exact Rat.le_refl
  | k :: r, h => by
    obtain ⟨h1, h2⟩ := h k List.mem_cons_self
    have ih := sum_whole r fun j hj => h j (List.mem_cons_of_mem _ hj)
    have e : sumW ws (k :: r) = wholeI (f k) c + sumW ws r := by
      unfold sumW
      rw [List.map_cons, List.sum_cons, h2]
    rw [e, Rat.intCast_add, List.map_cons, sumF_cons, Rat.mul_add]
    have := whole_le h1 c
    grind
theorem mk_le {l : Int} {c : Nat} (hc : 0 < c) {q : Rat} (h : ((l : Int) : Rat) ≤ (c : Rat) * q) : mkRat l c ≤ q := by
  have hd := (Rat.natCast_pos (a := c)).mpr hc
  refine Rat.le_of_mul_le_mul_right (c := (c : Rat)) ?_ hd
  rw [Rat.mkRat_eq_div, Rat.div_mul_cancel (by intro z; rw [z] at hd; exact absurd hd (by decide)), Rat.mul_comm]
  exact h
end FC
/-! THE WALK, 20: the longest. -/
namespace FC
open PySem PySem.Spec L2
local macro_rules | `(tactic| walk_at "d") => `(tactic| try simp only [dVar, dC, dOp, dUn, dAdd, dSub, dMul, dMod, dDiv, dPow, dNeg, dCmp, dEq, dNe, dEqv, dIsN, dNotN, isNon, dIn, inD, dInM, dIx, ixDs, dIxM, dChain, dB, asB, dAnd, dOr, dNot, dAndV, dOrV, dNotV, dIf, dNil, dCons, dTup, dLst, dLstM, dDic0, dDicM, dDisp1,
  dCB, dLen, dLenM, dAbs, dMax2, dMin2, dInt, dBool, dStr, dList, dListN, dListM, dTuple, dSorted, dDicC, dIsi, tyD_non, tyD_bl, tyD_int, tyD_str, tyD_lst, tyD_tup, tyD_dic, dNoPart, asI, dPart, dSl, dRev, dApp, dPopI, dRem, dEqNil, dEqNilM, dGet, dDGetM, dDGet, dDInM, dDInA, dDPopM, dEqD0, dEqDM, dJoin, dNext, dSeq, dDrop, dRet, dIfS, dNever, dgName, dgNil, dgCons, dgTup, dAsg, dSubM, dDPutM, dPar, dAug, dFrz, frzD, dFgt,
  diLst, diTup, diLstM, diRng1, diRng2, diStr, diEnum, diZip, dYes, dCall, endsD, startD, wipeD, dom,
  isTy_0_0, isTy_0_1, isTy_0_2, isTy_0_3, isTy_0_4, isTy_1_0, isTy_1_1, isTy_1_2, isTy_1_3, isTy_1_4, isTy_2_0, isTy_2_1, isTy_2_2, isTy_2_3, isTy_2_4, isTy_3_0, isTy_3_1, isTy_3_2, isTy_3_3, isTy_3_4, isTy_4_0, isTy_4_1, isTy_4_2, isTy_4_3, isTy_4_4, isTy_5_0, isTy_5_1, isTy_5_2, isTy_5_3, isTy_5_4, isTy_6_0, isTy_6_1, isTy_6_2, isTy_6_3, isTy_6_4,
  Int.cast_ofNat_Int, decide_true, decide_false, Int.reduceEq, Int.reduceLT, Int.reduceLE, atI_0, atI_1, atI_2, atI_3, atI_4, List.length_map, List.map_cons, List.map_nil, List.length_cons, List.length_nil, Nat.reduceAdd, Nat.reduceSub, List.reduceReplicate, List.cons_append, List.nil_append, List.append_nil, List.getElem?_cons_zero, List.getElem?_cons_succ, List.getElem?_nil, List.set_cons_zero, List.set_cons_succ, List.take_zero, List.drop_zero, List.take_succ_cons, List.drop_succ_cons,
  List.eraseIdx_cons_zero, List.eraseIdx_cons_succ, true_and, and_true, eq_self, and_self, if_true, if_false, Bool.false_eq_true, reduceIte, Bool.not_true, Bool.not_false, forall_const, exists_eq_left, exists_eq_left', exists_eq_right, exists_eq_right', exists_and_left, exists_const, D.adr.injEq, D.str.injEq, D.int.injEq, D.lst.injEq, D.tup.injEq, D.bl.injEq, Option.some.injEq, Prod.mk.injEq, MO.l.injEq, MO.d.injEq, List.cons.injEq, Function.const_apply, dLock, lckE, dDGetK, dFld, dSetF, dMeth, dMake, dRaise, diKeys, dGet, dAddM, dTold, List.not_mem_nil, false_implies, implies_true, List.mem_singleton, forall_eq, Option.isSome_none, Option.isSome_some, lcRes, exists_eq, exists_eq', List.length_append, List.length_singleton])

theorem sumW_le {ws : List Int} {B : Nat} : ∀ ks : List Nat, (∀ k ∈ ks, ws.getD k 0 ≤ (B : Int)) → sumW ws ks ≤ ((ks.length * B : Nat) : Int)
  | [], _ => by
    rw [List.length_nil, Nat.zero_mul]
    exact Int.le_refl _
  | k :: r, h => by
    have ih := sumW_le r fun j hj => h j (List.mem_cons_of_mem _ hj)
    have h1 := h k List.mem_cons_self
    have e : sumW ws (k :: r) = ws.getD k 0 + sumW ws r := rfl
    rw [e, List.length_cons, Nat.add_mul, Nat.one_mul]
    omega
abbrev S_l_longest : Spc := fun ds m F X => ∃ (w : Web) (adds : List Rat) (purse : Rat) (c : Nat), ds = [webD w, .lst (adds.map fD), fD purse, .int (c : Nat)] ∧ m = [] ∧ WebOk w ∧ AddsOk w adds ∧ 0 ≤ purse ∧ Sz 20 purse ∧ 0 < c ∧ c < 2 ^ 400 ∧ Reach w w.last ∧
  ∀ l : Int, l.natAbs < 2 ^ 2000 → (∀ q : Rat, 0 ≤ q → ClaimOk w adds purse q → mkRat l c ≤ q) → F (.int l) []
def J_lo (w : Web) (adds : List Rat) (purse : Rat) (c : Nat) (r : Rho) (m : Mu) : Prop := ∃ (l : Int) (o1 o2 o3 o4 : Option D), r = [some (webD w), some (.lst (adds.map fD)), some (fD purse), some (.int (c : Nat)), some (.int l), o1, o2, o3, o4] ∧ m = [] ∧ 0 ≤ l ∧ l.natAbs < 2 ^ 1000 ∧ ∀ q : Rat, 0 ≤ q → ClaimOk w adds purse q → mkRat l c ≤ q
theorem sc_l_longest : FnScope ["_law_web_here", "_law_adds_here", "_law_purse_here", "_law_bottom", "_law_longest_here", "_law_chosen", "_law_lengths_here", "_law_one", "_law_found"] ["_law_web_here", "_law_adds_here", "_law_purse_here", "_law_bottom"] (defScope s_l_longest) := ⟨rfl, rfl, rfl, by decide +kernel, rfl, by decide +kernel, by decide +kernel⟩
theorem ok_l_longest {P : Program} {w : World} {K : PySem.W.Frag} {mg : Str → Option Value} {base : Heap} (T : Tx K mg) (G_l_takings : Fo P w K mg base CX0 3 "_law_takings" ["_law_web_here", "_law_purse_here"] (spD K (NC K) 2 S_l_takings)) (G_l_lengths : Fo P w K mg base CX0 3 "_law_lengths" ["_law_web_here", "_law_adds_here", "_law_chosen"] (spD K (NC K) 3 S_l_lengths)) (G_l_far : Fo P w K mg base CX0 1 "_law_far" ["_law_web_here", "_law_wholes_here", "_law_taken"] (spD K (NC K) 3 S_l_far)) : Fo P w K mg base CX0 4 "_law_longest" ["_law_web_here", "_law_adds_here", "_law_purse_here", "_law_bottom"] (spD K (NC K) 4 S_l_longest) := by
  refine Fo.mk_ T 74 66 rfl rfl rfl rfl rfl (fun _ _ _ _ _ _ us hl => match us, hl with | [_, _, _, _], _ => rfl) fun f fd F => ok_pure 0 F sc_l_longest rfl fun cdv A outer s H E I m ds Fv X hr h => ?_
  have hu := hu_of hr
  refine ⟨_, _, (pss_cons (ps_set (i := 4) sc_l_longest.nd rfl (.inl rfl) pe_int)
    (pss_cons (ps_for PassesOwn.never rfl (pi_list (pe_ownK K 0 G_l_takings (hr.mono (by decide)) pass0 (pa_cons (pv 0) (pa_cons (pv 2) pa_nil)))) (pg_name (i := 5) sc_l_longest.nd rfl (.inl rfl))
    (pss_cons (ps_set (i := 6) sc_l_longest.nd rfl (.inl rfl) (pe_ownK K 0 G_l_lengths (hr.mono (by decide)) pass0 (pa_cons (pv 0) (pa_cons (pv 1) (pa_cons (pv 5) pa_nil)))))
    (pss_cons (ps_set (i := 8) sc_l_longest.nd rfl (.inl rfl) (pe_dget hu (pe_ownK K 0 G_l_far (hr.mono (by decide)) pass0 (pa_cons (pv 0) (pa_cons (as_lc [7] (pe_lc (own := [("_law_one", 7)]) rfl sc_l_longest.nd (pi_list (pv 6)) (blkOk_by (own := [("_law_one", 7)]) (N := ["_law_web_here", "_law_adds_here", "_law_purse_here", "_law_bottom", "_law_longest_here", "_law_chosen", "_law_lengths_here", "_law_one", "_law_found"]) (sc := defScope s_l_longest) (by decide +kernel)) (fun _ _ _ _ _ => (pg_name (i := 7) sc_l_longest.nd rfl (.inl rfl))) (fun _ _ _ _ _ => pts_nil) (fun _ _ _ _ _ => (pe_op o_mul (pe_ix (o_ixK K) (pv 7) pe_int (fun _ _ => rfl)) (pe_op o_fdiv (pv 3) (pe_ix (o_ixK K) (pv 7) pe_int (fun _ _ => rfl))))))) (pa_cons (pe_lst pa_nil) pa_nil)))) (pe_ix (o_ixK K) (pv 0) pe_int (fun _ _ => rfl)) (fun _ _ => rfl)))
    (pss_one (ps_set (i := 4) sc_l_longest.nd rfl (.inl rfl) (pe_bi (c_max2 rfl) (T.b 87 rfl) bb_max (pa_cons (pv 4) (pa_cons (pv 8) pa_nil))))))))
    (pss_one (ps_ret (pv 4))))), (by (try dsimp only [cxOf]); infer_instance), ?_⟩
  obtain ⟨w', adds, purse, c, rfl, rfl, hw, ha, hp0, hp, hc0, hc, hr, h⟩ := h
  have s0 := sl100 (n := 0) (by decide)
  obtain ⟨ks0, hg0⟩ := (reach_good w').mp hr
  obtain ⟨ks1, _, hWK1⟩ := isWay_K hw (goodW_isWay hg0)
  refine seq_mid (fun r m => J_lo w' adds purse c r m) (fun R hR => ?_) ?_
  · walk_at "d"
    refine hR _ _ ⟨0, none, none, none, none, rfl, rfl, Int.le_refl _, by decide, fun q hq _ => mk_le hc0 ?_⟩
    have := Rat.mul_nonneg (Rat.le_of_lt ((Rat.natCast_pos (a := c)).mpr hc0)) hq
    exact this
  rintro r m hJ
  refine seq_mid (fun r m => J_lo w' adds purse c r m) (fun R hR => ?_) ?_
  · obtain ⟨l, o1, o2, o3, o4, rfl, rfl, hl0, hlb, hlq⟩ := hJ
    unfold dFor
    walk_at "d"
    refine ⟨w', purse, rfl, rfl, hw, hp, hp0, fun ls hls => ?_⟩
    walk_at "d"
    refine ⟨fun i r m => J_lo w' adds purse c r m, ⟨l, o1, o2, o3, o4, rfl, rfl, hl0, hlb, hlq⟩, fun _ _ _ _ => trivial, ?_, fun r m hJ => hR _ _ hJ⟩
    rintro i d r m hi ⟨l, o1, o2, o3, o4, rfl, rfl, hl0, hlb, hlq⟩
    rw [List.getElem?_map] at hi
    cases e : ls[i]? with
    | none => rw [e] at hi; cases hi
    | some S =>
      rw [e] at hi
      cases hi
      have hS := hls S (List.mem_of_getElem? e)
      have hSl : ∀ k ∈ S, k < w'.ties.length := fun k hk => (hS.fr k hk).lt
      walk_at "d"
      refine ⟨w', adds, S, rfl, rfl, hw, ha, hSl, hS.nd, ?_⟩
      walk_at "d"
      refine lc_map (lensL w' adds S) fD (fun q => .int (wholeI q c)) anyMu (fun G h => ?_) (fun _ => trivial) (by rw [lensL_len]; have := hw.tl; omega) ?_ ?_
      · walk_at "d"
        exact h
      · intro q hq t G E hG
        obtain ⟨k, hk, rfl⟩ := List.mem_map.mp hq
        have hqs := (addL_sz hw ha S (List.mem_range.mp hk)).1
        generalize addL w' adds S k = q at hqs hG
        have h1 : ((c : Int) / (q.den : Int)) = ((c / q.den : Nat) : Int) := by rw [Int.natCast_ediv]
        have h2 : c / q.den < 2 ^ 400 := Nat.lt_of_le_of_lt (Nat.div_le_self _ _) hc
        have h3 : CDivW (c : Int) (q.den : Int) := wide_div (by have := q.den_pos; omega) (b := 16) (by rw [Int.natAbs_natCast]; exact hqs.2) (by decide) (by decide)
        walk_at "d"
        rw [h1]
        exact ⟨h3, mulW (a := 512) (b := 400) hqs.1 (by rw [Int.natAbs_natCast]; exact h2) (by decide) (by decide) (by decide), hG⟩
      · walk_at "d"
        refine ⟨s0, w', (lensL w' adds S).map fun q => wholeI q c, by rw [List.map_map]; rfl, rfl, hw, by rw [List.length_map, lensL_len], hr, fun kvs f hf hfl => ?_⟩
        walk_at "d"
        rw [zip_keys, hf]
        walk_at "d"
        have hwd : ∀ k, k < w'.ties.length → ((lensL w' adds S).map fun q => wholeI q c).getD k 0 = wholeI (addL w' adds S k) c := fun k hk => by
          rw [List.getD_eq_getElem?_getD, List.getElem?_map, lensL_get hk]
          rfl
        refine ⟨max l f, _, _, _, _, rfl, rfl, by omega, ?_, fun q hq hcl => ?_⟩
        · have h1 := hfl ks1 hWK1
          have h2 := sumW_le (B := 2 ^ 912) ks1 fun k hk => by
            rw [hwd k (hWK1.lt k hk)]
            have := wholeI_bd (addL_sz hw ha S (hWK1.lt k hk)).1 hc
            omega
          have h3 : ks1.length ≤ 7 := by have := hWK1.len; have := hw.hi; omega
          have h4 : ((ks1.length * 2 ^ 912 : Nat) : Int) ≤ ((7 * 2 ^ 912 : Nat) : Int) := Int.ofNat_le.mpr (Nat.mul_le_mul_right _ h3)
          have h5 : 7 * 2 ^ 912 < 2 ^ 1000 := by decide +kernel
          omega
        · by_cases hlf : f ≤ l
          · rw [Int.max_eq_left hlf]
            exact hlq q hq hcl
          · rw [Int.max_eq_right (by omega)]
            obtain ⟨ks, hks, hle⟩ := hcl S hS
            have h1 := Rat.intCast_le_intCast.mpr (hfl ks hks)
            have h2 := sum_whole (c := c) (ws := (lensL w' adds S).map fun q => wholeI q c) (f := addL w' adds S) ks fun k hk => ⟨(addL_sz hw ha S (hks.lt k hk)).2, hwd k (hks.lt k hk)⟩
            refine Rat.le_trans (mk_le hc0 (Rat.le_trans h1 h2)) hle
  rintro r m ⟨l, o1, o2, o3, o4, rfl, rfl, hl0, hlb, hlq⟩
  walk_at "d"
  exact h l (Nat.lt_trans hlb (Nat.pow_lt_pow_right (by decide) (by decide))) hlq
end FC
/-! THE WALK, 21: the law. -/
namespace FC
open PySem PySem.Spec L2
local macro_rules | `(tactic| walk_at "d") => `(tactic| try simp only [dVar, dC, dOp, dUn, dAdd, dSub, dMul, dMod, dDiv, dPow, dNeg, dCmp, dEq, dNe, dEqv, dIsN, dNotN, isNon, dIn, inD, dInM, dIx, ixDs, dIxM, dChain, dB, asB, dAnd, dOr, dNot, dAndV, dOrV, dNotV, dIf, dNil, dCons, dTup, dLst, dLstM, dDic0, dDicM, dDisp1,
  dCB, dLen, dLenM, dAbs, dMax2, dMin2, dInt, dBool, dStr, dList, dListN, dListM, dTuple, dSorted, dDicC, dIsi, tyD_non, tyD_bl, tyD_int, tyD_str, tyD_lst, tyD_tup, tyD_dic, dNoPart, asI, dPart, dSl, dRev, dApp, dPopI, dRem, dEqNil, dEqNilM, dGet, dDGetM, dDGet, dDInM, dDInA, dDPopM, dEqD0, dEqDM, dJoin, dNext, dSeq, dDrop, dRet, dIfS, dNever, dgName, dgNil, dgCons, dgTup, dAsg, dSubM, dDPutM, dPar, dAug, dFrz, frzD, dFgt,
  diLst, diTup, diLstM, diRng1, diRng2, diStr, diEnum, diZip, dYes, dCall, endsD, startD, wipeD, dom,
  isTy_0_0, isTy_0_1, isTy_0_2, isTy_0_3, isTy_0_4, isTy_1_0, isTy_1_1, isTy_1_2, isTy_1_3, isTy_1_4, isTy_2_0, isTy_2_1, isTy_2_2, isTy_2_3, isTy_2_4, isTy_3_0, isTy_3_1, isTy_3_2, isTy_3_3, isTy_3_4, isTy_4_0, isTy_4_1, isTy_4_2, isTy_4_3, isTy_4_4, isTy_5_0, isTy_5_1, isTy_5_2, isTy_5_3, isTy_5_4, isTy_6_0, isTy_6_1, isTy_6_2, isTy_6_3, isTy_6_4,
  Int.cast_ofNat_Int, decide_true, decide_false, Int.reduceEq, Int.reduceLT, Int.reduceLE, atI_0, atI_1, atI_2, atI_3, atI_4, List.length_map, List.map_cons, List.map_nil, List.length_cons, List.length_nil, Nat.reduceAdd, Nat.reduceSub, List.reduceReplicate, List.cons_append, List.nil_append, List.append_nil, List.getElem?_cons_zero, List.getElem?_cons_succ, List.getElem?_nil, List.set_cons_zero, List.set_cons_succ, List.take_zero, List.drop_zero, List.take_succ_cons, List.drop_succ_cons,
  List.eraseIdx_cons_zero, List.eraseIdx_cons_succ, true_and, and_true, eq_self, and_self, if_true, if_false, Bool.false_eq_true, reduceIte, Bool.not_true, Bool.not_false, forall_const, exists_eq_left, exists_eq_left', exists_eq_right, exists_eq_right', exists_and_left, exists_const, D.adr.injEq, D.str.injEq, D.int.injEq, D.lst.injEq, D.tup.injEq, D.bl.injEq, Option.some.injEq, Prod.mk.injEq, MO.l.injEq, MO.d.injEq, List.cons.injEq, Function.const_apply, dLock, lckE, dDGetK, dFld, dSetF, dMeth, dMake, dRaise, diKeys, dGet, dAddM, dTold, List.not_mem_nil, false_implies, implies_true, List.mem_singleton, forall_eq, Option.isSome_none, Option.isSome_some, lcRes, exists_eq, exists_eq', List.length_append, List.length_singleton])

theorem ifs_true {c : DT} {t u : DS} {F : DEnds} {r : Rho} {m : Mu} (hc : ∀ K : Bool → Mu → Prop, K true m → c r m K) (h : t F r m) : dIfS c t u F r m := hc _ (by rw [if_pos rfl]; exact h)
/-- the bottoms of lengths and adds -/
def botL (w : Web) (adds : List Rat) : List Nat := w.ties.map (fun t => t.len.den) ++ adds.map (fun q => q.den)
theorem botL_ok {w : Web} {adds : List Rat} (hw : WebOk w) (ha : AddsOk w adds) : (botL w adds).length ≤ 40 ∧ ∀ b ∈ botL w adds, 0 < b ∧ b < 256 := by
  constructor
  · unfold botL
    rw [List.length_append, List.length_map, List.length_map, ha.len]
    have := hw.tl
    omega
  · intro b hb
    rcases List.mem_append.mp hb with q | q
    · obtain ⟨t, ht, rfl⟩ := List.mem_map.mp q
      exact ⟨t.len.den_pos, (hw.tie t ht).sz.2⟩
    · obtain ⟨x, hx, rfl⟩ := List.mem_map.mp q
      exact ⟨x.den_pos, (ha.ok x hx).2.2⟩
abbrev S_law : Spc := fun ds m F X => ∃ (ns : List Int), ds = [.scr ns] ∧ m = [] ∧ ns.length ≤ 63 ∧ F (.bl true) []
/-- the slots of law behind the web: o2 .. o15 -/
def J_l0 (ns : List Int) (w : Web) (r : Rho) (m : Mu) : Prop := ∃ (o2 o3 o4 o5 o6 o7 o8 o9 o10 o11 o12 o13 o14 o15 : Option D), r = [some (.scr ns), some (webD w), o2, o3, o4, o5, o6, o7, o8, o9, o10, o11, o12, o13, o14, o15]
def J_l3 (ns : List Int) (w : Web) (adds : List Rat) (purse : Rat) (tl gd : D) (r : Rho) (m : Mu) : Prop := ∃ (a : Addr) (y : MO) (m0 : Mu) (o2 o8 o9 o10 o11 o12 o13 o14 o15 : Option D), r = [some (.scr ns), some (webD w), o2, some (.adr a), some (.lst (adds.map fD)), some (fD purse), some tl, some gd, o8, o9, o10, o11, o12, o13, o14, o15] ∧ m = (a, y) :: m0 ∧ StOk y
theorem sc_law : FnScope ["_law_script", "_law_web_here", "_law_k", "_law_state", "_law_adds_here", "_law_purse_here", "_law_told_here", "_law_good", "_law_tie_here", "_law_one", "_law_some", "_law_bottom", "_law_longest_here", "_law_bent", "_law_thing", "_law_claim"] ["_law_script"] (defScope s_law) := ⟨rfl, rfl, rfl, by decide +kernel, rfl, by decide +kernel, by decide +kernel⟩
theorem ok_law {P : Program} {w : World} {K : PySem.W.Frag} {mg : Str → Option Value} {base : Heap} {f : Addr} {fd : FuncData} (T : Tx K mg) (F : FunD K d_law.name d_law.qual d_law.params d_law.body d_law.scope [] [] f fd) (G_l_web : Fo P w K mg base CX0 4 "_law_web" ["_law_script", "_law_most_places", "_law_most_ties"] (spD K (NC K) 3 S_l_web)) (G_l_begun : Fo P w K mg base CX0 1 "_law_begun" ["_law_script", "_law_k"] (spD K (NC K) 2 S_l_begun)) (G_l_adds : Fo P w K mg base CX0 3 "_law_adds" ["_law_state", "_law_web_here"] (spD K (NC K) 2 S_l_adds)) (G_l_purse : Fo P w K mg base CX0 3 "_law_purse" ["_law_state", "_law_web_here", "_law_most"] (spD K (NC K) 3 S_l_purse)) (G_best_longer : Fo P w K mg base CX0 40 "best_longer" ["web", "adds", "purse"] (spD K (NC K) 3 S_best_longer)) (G_l_paper : Fo P w K mg base CX0 (30 + 15) "_law_paper" ["_law_state", "_law_web_here", "_law_purse_here", "_law_taken", "_law_kept"] (spD K (NC K) 5 (S_l_paper 15))) (G_l_wholes : Fo P w K mg base CX0 2 "_law_wholes" ["_law_some"] (spD K (NC K) 1 S_l_wholes)) (G_l_longest : Fo P w K mg base CX0 4 "_law_longest" ["_law_web_here", "_law_adds_here", "_law_purse_here", "_law_bottom"] (spD K (NC K) 4 S_l_longest)) (G_l_spoilt : Fo P w K mg base CX0 (30 + 15) "_law_spoilt" ["_law_state", "_law_web_here", "_law_thing"] (spD K (NC K) 3 (S_l_spoilt 15))) (G_l_told : Fo P w K mg base CX0 41 "_law_told" ["_law_web_here", "_law_adds_here", "_law_purse_here", "_law_thing"] (spD K (NC K) 4 S_l_told)) (G_l_under : Fo P w K mg base CX0 1 "_law_under" ["_law_one", "_law_other"] (spD K (NC K) 2 S_l_under)) : FnOk P w K mg base CX0 51 f fd ["_law_script"] (spD K (NC K) 1 S_law) := by
  refine ok_pure 0 F sc_law rfl fun cdv A outer s H E I m ds Fv X hr h => ?_
  refine ⟨_, _, (pss_cons (ps_set (i := 1) sc_law.nd rfl (.inr rfl) (pe_ownK K 0 G_l_web (hr.mono (by decide)) pass0 (pa_cons (pv 0) (pa_cons pe_int (pa_cons pe_int pa_nil)))))
    (pss_cons (ps_for PassesOwn.never rfl (pi_range2 rfl (T.b 89 rfl) (pa_cons pe_int (pa_cons (pe_bi (c_max2 rfl) (T.b 87 rfl) bb_max (pa_cons pe_int (pa_cons (pe_bi (c_min2 rfl) (T.b 88 rfl) bb_min (pa_cons (pe_bi c_len (T.b 85 rfl) bb_len (pa_cons (pv 0) pa_nil)) (pa_cons pe_int pa_nil))) pa_nil))) pa_nil))) (pg_name (i := 2) sc_law.nd rfl (.inl rfl))
    (pss_cons (ps_set (i := 3) sc_law.nd rfl (.inr rfl) (pe_ownK K 0 G_l_begun (hr.mono (by decide)) pass0 (pa_cons (pv 0) (pa_cons (pv 2) pa_nil))))
    (pss_cons (ps_set (i := 4) sc_law.nd rfl (.inl rfl) (pe_ownK K 1 G_l_adds (hr.mono (by decide)) pass0 (pa_cons (pv 3) (pa_cons (pv 1) pa_nil))))
    (pss_cons (ps_set (i := 5) sc_law.nd rfl (.inl rfl) (pe_ownK K 1 G_l_purse (hr.mono (by decide)) pass0 (pa_cons (pv 3) (pa_cons (pv 1) (pa_cons pe_int pa_nil)))))
    (pss_cons (ps_set (i := 6) sc_law.nd rfl (.inl rfl) (pe_ownK K 0 G_best_longer (hr.mono (by decide)) pass0 (pa_cons (pv 1) (pa_cons (pv 4) (pa_cons (pv 5) pa_nil)))))
    (pss_cons (ps_set (i := 7) sc_law.nd rfl (.inl rfl) (pe_ownK K 1 G_l_paper (hr.mono (by omega)) pass0 (pa_cons (pv 3) (pa_cons (pv 1) (pa_cons (pv 5) (pa_cons (pe_lst pa_nil) (pa_cons (pe_lst pa_nil) pa_nil)))))))
    (pss_cons (ps_if (pt_cmpR op_ne (pe_cmpR o_is (pv 7) pe_non (nomark _)) (pe_cmpR op_eq (pe_ix (o_ixK K) (pv 6) pe_int (fun _ _ => rfl)) pe_str (nomark _)) (nomark _)) (pss_one (ps_ret pe_bl)) pss_nil)
    (pss_one (ps_if (pt_cmpR o_isnot (pv 7) pe_non (nomark _)) (pss_cons (ps_set (i := 10) sc_law.nd rfl (.inl rfl) (pe_op o_add (as_lc [8] (pe_lc (own := [("_law_tie_here", 8)]) rfl sc_law.nd (pi_list (pe_ix (o_ixK K) (pv 1) pe_int (fun _ _ => rfl))) (blkOk_by (own := [("_law_tie_here", 8)]) (N := ["_law_script", "_law_web_here", "_law_k", "_law_state", "_law_adds_here", "_law_purse_here", "_law_told_here", "_law_good", "_law_tie_here", "_law_one", "_law_some", "_law_bottom", "_law_longest_here", "_law_bent", "_law_thing", "_law_claim"]) (sc := defScope s_law) (by decide +kernel)) (fun _ _ _ _ _ => (pg_name (i := 8) sc_law.nd rfl (.inl rfl))) (fun _ _ _ _ _ => pts_nil) (fun _ _ _ _ _ => (pe_tup (pa_cons pe_int (pa_cons (pe_ix (o_ixK K) (pe_ix (o_ixK K) (pv 8) pe_int (fun _ _ => rfl)) pe_int (fun _ _ => rfl)) pa_nil)))))) (as_lc [9] (pe_lc (own := [("_law_one", 9)]) rfl sc_law.nd (pi_list (pv 4)) (blkOk_by (own := [("_law_one", 9)]) (N := ["_law_script", "_law_web_here", "_law_k", "_law_state", "_law_adds_here", "_law_purse_here", "_law_told_here", "_law_good", "_law_tie_here", "_law_one", "_law_some", "_law_bottom", "_law_longest_here", "_law_bent", "_law_thing", "_law_claim"]) (sc := defScope s_law) (by decide +kernel)) (fun _ _ _ _ _ => (pg_name (i := 9) sc_law.nd rfl (.inl rfl))) (fun _ _ _ _ _ => pts_nil) (fun _ _ _ _ _ => (pe_tup (pa_cons pe_int (pa_cons (pe_ix (o_ixK K) (pv 9) pe_int (fun _ _ => rfl)) pa_nil))))))))
    (pss_cons (ps_set (i := 11) sc_law.nd rfl (.inl rfl) (pe_ix (o_ixK K) (pe_ownK K 0 G_l_wholes (hr.mono (by decide)) pass0 (pa_cons (pe_op o_add (pe_lst (pa_cons (pe_tup (pa_cons pe_int (pa_cons pe_int pa_nil))) pa_nil)) (pv 10)) pa_nil)) pe_int (fun _ _ => rfl)))
    (pss_cons (ps_set (i := 12) sc_law.nd rfl (.inl rfl) (pe_ownK K 0 G_l_longest (hr.mono (by decide)) pass0 (pa_cons (pv 1) (pa_cons (pv 4) (pa_cons (pv 5) (pa_cons (pv 11) pa_nil))))))
    (pss_cons (as_setLc [9] (ps_setLc (i := 13) (own := [("_law_one", 9)]) rfl sc_law.nd rfl rfl (sw_true rfl rfl rfl (by decide +kernel)) (pi_tup (pe_tup (pa_cons (pv 7) (pa_cons (pe_ix (o_ixK K) (pv 6) pe_int (fun _ _ => rfl)) pa_nil)))) (blkOk_by (own := [("_law_one", 9)]) (N := ["_law_script", "_law_web_here", "_law_k", "_law_state", "_law_adds_here", "_law_purse_here", "_law_told_here", "_law_good", "_law_tie_here", "_law_one", "_law_some", "_law_bottom", "_law_longest_here", "_law_bent", "_law_thing", "_law_claim"]) (sc := defScope s_law) (by decide +kernel)) (fun _ _ _ _ _ => (pg_name (i := 9) sc_law.nd rfl (.inl rfl))) (fun _ _ _ _ _ => pts_nil) (fun _ _ _ _ _ => (pe_ownK K 1 G_l_spoilt (hr.mono (by omega)) pass0 (pa_cons (pv 3) (pa_cons (pv 1) (pa_cons (pv 9) pa_nil)))))))
    (pss_cons (ps_for PassesOwn.never rfl (pi_list (pe_op o_add (pe_lst (pa_cons (pv 7) (pa_cons (pe_ix (o_ixK K) (pv 6) pe_int (fun _ _ => rfl)) pa_nil))) (pv 13))) (pg_name (i := 14) sc_law.nd rfl (.inl rfl))
    (pss_cons (ps_set (i := 15) sc_law.nd rfl (.inl rfl) (pe_ownK K 0 G_l_told (hr.mono (by decide)) pass0 (pa_cons (pv 1) (pa_cons (pv 4) (pa_cons (pv 5) (pa_cons (pv 14) pa_nil))))))
    (pss_one (ps_if (PW.pt (pw_and (pt_cmpR o_isnot (pv 15) pe_non (nomark _)) (pw_and1 (pt_val (pe_ownK K 0 G_l_under (hr.mono (by decide)) pass0 (pa_cons (pv 15) (pa_cons (pe_tup (pa_cons (pv 12) (pa_cons (pv 11) pa_nil))) pa_nil))))))) (pss_one (ps_ret pe_bl)) pss_nil))))
    (pss_one (ps_if (pt_cmpR o_is (pe_ownK K 0 G_l_told (hr.mono (by decide)) pass0 (pa_cons (pv 1) (pa_cons (pv 4) (pa_cons (pv 5) (pa_cons (pv 7) pa_nil))))) pe_non (nomark _)) (pss_one (ps_ret pe_bl)) pss_nil))))))) pss_nil)))))))))
    (pss_one (ps_ret pe_bl)))), (by (try dsimp only [cxOf]); infer_instance), ?_⟩
  obtain ⟨ns, rfl, rfl, hn, h⟩ := h
  refine seq_mid (fun r m => ∃ w, WebOk w ∧ w.ties.length ≤ 8 ∧ J_l0 ns w r m) (fun R hR => ?_) ?_
  · walk_at "d"
    exact ⟨ns, rfl, rfl, hn, fun w hw h8 => hR _ _ ⟨w, hw, h8, _, _, _, _, _, _, _, _, _, _, _, _, _, _, rfl⟩⟩
  rintro r m ⟨w', hw, h8, hJ⟩
  refine seq_mid (fun r m => J_l0 ns w' r m) (fun R hR => ?_) ?_
  · obtain ⟨o2, o3, o4, o5, o6, o7, o8, o9, o10, o11, o12, o13, o14, o15, rfl⟩ := hJ
    obtain ⟨n, hmx, hn18⟩ : ∃ n : Nat, max (16 : Int) (min ((ns.length : Nat) : Int) 18) = ((15 + n : Nat) : Int) ∧ n ≤ 3 := ⟨(max 16 (min ns.length 18)) - 15, by omega, by omega⟩
    refine for_of (rngD 15 n) anyMu m (fun G h => ?_) (fun i r m => J_l0 ns w' r m) ⟨o2, o3, o4, o5, o6, o7, o8, o9, o10, o11, o12, o13, o14, o15, rfl⟩ (fun _ _ _ _ => trivial) ?_ (fun r m hJ => hR _ _ hJ)
    · walk_at "d"
      rw [hmx]
      refine ⟨⟨by decide, by decide, by omega, by omega⟩, ?_⟩
      rw [show (((15 + n : Nat) : Int) - 15).toNat = n by omega]
      exact h
    rintro i d r m hi ⟨o2, o3, o4, o5, o6, o7, o8, o9, o10, o11, o12, o13, o14, o15, rfl⟩
    obtain ⟨hj, rfl⟩ := rngD_get hi
    show dSeq _ _ _ _ _
    refine seq_mid (fun r m => ∃ (a : Addr) (y : MO) (m0 : Mu) (o4 o5 o6 o7 o8 o9 o10 o11 o12 o13 o14 o15 : Option D), r = [some (.scr ns), some (webD w'), some (.int (15 + (i : Nat))), some (.adr a), o4, o5, o6, o7, o8, o9, o10, o11, o12, o13, o14, o15] ∧ m = (a, y) :: m0 ∧ StOk y) (fun R hR => ?_) ?_
    · walk_at "d"
      refine ⟨ns, 15 + i, ?_, rfl, by omega, hn, fun a y hy => hR _ _ ⟨a, y, m, o4, o5, o6, o7, o8, o9, o10, o11, o12, o13, o14, o15, rfl, rfl, hy⟩⟩
      rw [Int.natCast_add]
      rfl
    rintro r m ⟨a, y, m0, o4, o5, o6, o7, o8, o9, o10, o11, o12, o13, o14, o15, rfl, rfl, hy⟩
    refine seq_mid (fun r m => ∃ (y : MO) (adds : List Rat), AddsOk w' adds ∧ r = [some (.scr ns), some (webD w'), some (.int (15 + (i : Nat))), some (.adr a), some (.lst (adds.map fD)), o5, o6, o7, o8, o9, o10, o11, o12, o13, o14, o15] ∧ m = (a, y) :: m0 ∧ StOk y) (fun R hR => ?_) ?_
    · walk_at "d"
      exact ⟨a, y, w', rfl, rfl, hy, hw, fun adds y1 ha hy1 => hR _ _ ⟨y1, adds, ha, rfl, rfl, hy1⟩⟩
    rintro r m ⟨y, adds, ha, rfl, rfl, hy⟩
    refine seq_mid (fun r m => ∃ (y : MO) (purse : Rat), 0 ≤ purse ∧ Sz 20 purse ∧ cnt (selq (freeW w')) 0 purse ≤ 3 ∧ r = [some (.scr ns), some (webD w'), some (.int (15 + (i : Nat))), some (.adr a), some (.lst (adds.map fD)), some (fD purse), o6, o7, o8, o9, o10, o11, o12, o13, o14, o15] ∧ m = (a, y) :: m0 ∧ StOk y) (fun R hR => ?_) ?_
    · walk_at "d"
      exact ⟨a, y, w', rfl, rfl, hy, hw, fun p y1 h1 h2 h3 hy1 => hR _ _ ⟨y1, p, h1, h2, h3, rfl, rfl, hy1⟩⟩
    rintro r m ⟨y, purse, hp0, hp, hc3, rfl, rfl, hy⟩
    by_cases hr : Reach w' w'.last
    · refine seq_mid (fun r m => ∃ (x1 x2 x3 t : D), TreeN 15 t ∧ r = [some (.scr ns), some (webD w'), some (.int (15 + (i : Nat))), some (.adr a), some (.lst (adds.map fD)), some (fD purse), some (.tup [.str "left", x1, x2, x3, t]), o7, o8, o9, o10, o11, o12, o13, o14, o15] ∧ m = (a, y) :: m0) (fun R hR => ?_) ?_
      · walk_at "d"
        exact ⟨w', adds, purse, rfl, rfl, hw, ha, hp0, hp, hc3, fun q => absurd hr q, fun _ x1 x2 x3 t ht => hR _ _ ⟨x1, x2, x3, t, ht, rfl, rfl⟩⟩
      rintro r m ⟨x1, x2, x3, t, ht, rfl, rfl⟩
      refine seq_mid (fun r m => ∃ (y : MO) (g : D), TreeN 15 g ∧ Good w' purse 15 g [] [] ∧ r = [some (.scr ns), some (webD w'), some (.int (15 + (i : Nat))), some (.adr a), some (.lst (adds.map fD)), some (fD purse), some (.tup [.str "left", x1, x2, x3, t]), some g, o8, o9, o10, o11, o12, o13, o14, o15] ∧ m = (a, y) :: m0 ∧ StOk y) (fun R hR => ?_) ?_
      · walk_at "d"
        have s0 := sl100 (n := 0) (by decide)
        exact ⟨s0, s0, a, y, w', purse, [], [], rfl, rfl, hy, hw, hp, List.nodup_nil, fun k hk => (nomatch hk), rfl, Nat.zero_le _, fun _ g y1 h1 h2 hy1 => hR _ _ ⟨y1, g, h2, h1, rfl, rfl, hy1⟩, fun q => absurd hr q⟩
      rintro r m ⟨y, g, hgt, hgd, rfl, rfl, hy⟩
      have hgn : g ≠ .non := fun q => by
        obtain ⟨ks, es, e, _⟩ := hgt
        rw [q] at e
        cases e
      have hgs : ∃ xs, g = .tup xs := by
        obtain ⟨ks, es, e, _⟩ := hgt
        exact ⟨_, e⟩
      obtain ⟨xs, rfl⟩ := hgs
      refine seq_mid (fun r m => r = [some (.scr ns), some (webD w'), some (.int (15 + (i : Nat))), some (.adr a), some (.lst (adds.map fD)), some (fD purse), some (.tup [.str "left", x1, x2, x3, t]), some (.tup xs), o8, o9, o10, o11, o12, o13, o14, o15] ∧ m = (a, y) :: m0) (fun R hR => ?_) ?_
      · walk_at "d"
        rw [show decide (Str.ofString "left" = Str.ofString "none") = false from by decide +kernel]
        walk_at "d"
        exact hR _ _ ⟨rfl, rfl⟩
      rintro r m ⟨rfl, rfl⟩
      have hl14 := hw.tl
      obtain ⟨hbl, hbo⟩ := botL_ok hw ha
      refine ifs_true (fun K hK => ?_) ?_
      · walk_at "d"
        exact hK
      refine seq_mid (fun r m => ∃ (o8 o9 : Option D), r = [some (.scr ns), some (webD w'), some (.int (15 + (i : Nat))), some (.adr a), some (.lst (adds.map fD)), some (fD purse), some (.tup [.str "left", x1, x2, x3, t]), some (.tup xs), o8, o9, some (.lst ((botL w' adds).map fun b => .tup [.int 1, .int (b : Nat)])), o11, o12, o13, o14, o15] ∧ m = (a, y) :: m0) (fun R hR => ?_) ?_
      · walk_at "d"
        refine lc_map w'.ties tieD (fun t => .tup [.int 1, .int (t.len.den : Nat)]) anyMu (fun G h => ?_) (fun _ => trivial) (by omega) ?_ ?_
        · walk_at "d"
          exact h
        · intro t ht z G E hG
          walk_at "d"
          exact ⟨sl100 (by decide), hG⟩
        · walk_at "d"
          refine lc_map adds fD (fun q => .tup [.int 1, .int (q.den : Nat)]) anyMu (fun G h => ?_) (fun _ => trivial) (by rw [ha.len]; omega) ?_ ?_
          · walk_at "d"
            exact h
          · intro q hq z G E hG
            walk_at "d"
            exact ⟨sl100 (by decide), hG⟩
          · walk_at "d"
            refine ⟨sl100 (by rw [ha.len]; omega), hR _ _ ⟨o8, o9, ?_, rfl⟩⟩
            unfold botL
            rw [List.map_append, List.map_map, List.map_map]
            rfl
      rintro r m ⟨o8, o9, rfl, rfl⟩
      refine seq_mid (fun r m => ∃ c : Nat, 0 < c ∧ c < 2 ^ 400 ∧ r = [some (.scr ns), some (webD w'), some (.int (15 + (i : Nat))), some (.adr a), some (.lst (adds.map fD)), some (fD purse), some (.tup [.str "left", x1, x2, x3, t]), some (.tup xs), o8, o9, some (.lst ((botL w' adds).map fun b => .tup [.int 1, .int (b : Nat)])), some (.int (c : Nat)), o12, o13, o14, o15] ∧ m = (a, y) :: m0) (fun R hR => ?_) ?_
      · walk_at "d"
        refine ⟨sl100 (by decide), sl100 (by decide), sl100 (by omega), botL w' adds, rfl, rfl, hbl, hbo, fun c rest h1 h2 => ?_⟩
        walk_at "d"
        exact hR _ _ ⟨c, h1, h2, rfl, rfl⟩
      rintro r m ⟨c, hc0, hc, rfl, rfl⟩
      refine seq_mid (fun r m => ∃ l : Int, l.natAbs < 2 ^ 2000 ∧ (∀ q : Rat, 0 ≤ q → ClaimOk w' adds purse q → mkRat l c ≤ q) ∧ r = [some (.scr ns), some (webD w'), some (.int (15 + (i : Nat))), some (.adr a), some (.lst (adds.map fD)), some (fD purse), some (.tup [.str "left", x1, x2, x3, t]), some (.tup xs), o8, o9, some (.lst ((botL w' adds).map fun b => .tup [.int 1, .int (b : Nat)])), some (.int (c : Nat)), some (.int l), o13, o14, o15] ∧ m = (a, y) :: m0) (fun R hR => ?_) ?_
      · walk_at "d"
        exact ⟨w', adds, purse, c, rfl, rfl, hw, ha, hp0, hp, hc0, hc, hr, fun l h1 h2 => hR _ _ ⟨l, h1, h2, rfl, rfl⟩⟩
      rintro r m ⟨l, hlb, hlq, rfl, rfl⟩
      have hvg : vis (.tup xs) = true := Tree_vis hgt
      have hvt : vis t = true := Tree_vis ht
      refine seq_mid (fun r m => ∃ (b1 b2 : D), vis b1 = true ∧ vis b2 = true ∧ r = [some (.scr ns), some (webD w'), some (.int (15 + (i : Nat))), some (.adr a), some (.lst (adds.map fD)), some (fD purse), some (.tup [.str "left", x1, x2, x3, t]), some (.tup xs), o8, o9, some (.lst ((botL w' adds).map fun b => .tup [.int 1, .int (b : Nat)])), some (.int (c : Nat)), some (.int l), some (.lst [b1, b2]), o14, o15]) (fun R hR => ?_) ?_
      · unfold dLc
        walk_at "d"
        refine ⟨sl100 (by decide), fun i acc m => ∃ (y : MO) (m0 : Mu), m = (a, y) :: m0 ∧ StOk y ∧ acc.length = i ∧ i ≤ 2 ∧ ∀ d ∈ acc, vis d = true, ⟨y, m0, rfl, hy, rfl, by decide, fun d hd => (nomatch hd)⟩, ?_, ?_, ?_⟩
        · rintro i acc m ⟨y, m0, rfl, h1, h2, h3, h4⟩
          exact ⟨Nat.lt_of_le_of_lt (m := 2) (by omega) (by decide), fun _ => trivial⟩
        · rintro i d acc m p hi ⟨y, m0, rfl, hy, h2, h3, h4⟩
          have hd : TreeN 15 d := by
            have hm := List.mem_of_getElem? hi
            simp only [List.mem_cons, List.not_mem_nil, or_false] at hm
            rcases hm with rfl | rfl
            · exact hgt
            · exact ht
          have hi2 : i < 2 := (List.getElem?_eq_some_iff.mp hi).1
          walk_at "d"
          refine ⟨a, y, w', d, rfl, rfl, hy, hw, hd, fun b y1 hb hy1 => ?_⟩
          refine ⟨(a, y1) :: m0, rfl, y1, m0, rfl, hy1, ?_, by omega, fun z hz => ?_⟩
          · omega
          · rcases List.mem_append.mp hz with q | q
            · exact h4 z q
            · obtain rfl : z = b := by simpa using q
              exact hb
        · rintro acc m ⟨y, m0, rfl, hy, h2, h3, h4⟩
          rcases acc with _ | ⟨b1, _ | ⟨b2, _ | ⟨b3, acc⟩⟩⟩
          · cases h2
          · cases h2
          · walk_at "d"
            exact hR _ _ ⟨b1, b2, h4 b1 (by simp), h4 b2 (by simp), rfl⟩
          · simp at h2
      rintro r m ⟨b1, b2, hb1, hb2, rfl⟩
      refine seq_mid (fun r m => ∃ (o14 o15 : Option D), r = [some (.scr ns), some (webD w'), some (.int (15 + (i : Nat))), some (.adr a), some (.lst (adds.map fD)), some (fD purse), some (.tup [.str "left", x1, x2, x3, t]), some (.tup xs), o8, o9, some (.lst ((botL w' adds).map fun b => .tup [.int 1, .int (b : Nat)])), some (.int (c : Nat)), some (.int l), some (.lst [b1, b2]), o14, o15]) (fun R hR => ?_) ?_
      · refine for_of [.tup xs, t, b1, b2] anyMu m (fun G h => ?_) (fun j r m => ∃ (o14 o15 : Option D), r = [some (.scr ns), some (webD w'), some (.int (15 + (i : Nat))), some (.adr a), some (.lst (adds.map fD)), some (fD purse), some (.tup [.str "left", x1, x2, x3, t]), some (.tup xs), o8, o9, some (.lst ((botL w' adds).map fun b => .tup [.int 1, .int (b : Nat)])), some (.int (c : Nat)), some (.int l), some (.lst [b1, b2]), o14, o15]) ⟨o14, o15, rfl⟩ (fun _ _ _ _ => trivial) ?_ (fun r m hJ => hR _ _ hJ)
        · walk_at "d"
          exact ⟨sl100 (by decide), sl100 (by decide), h⟩
        · rintro j d r m hi2 ⟨o14, o15, rfl⟩
          have hvd : vis d = true := by
            have hm := List.mem_of_getElem? hi2
            simp only [List.mem_cons, List.not_mem_nil, or_false] at hm
            rcases hm with rfl | rfl | rfl | rfl
            · exact hvg
            · exact hvt
            · exact hb1
            · exact hb2
          walk_at "d"
          refine ⟨w', adds, purse, d, rfl, rfl, hw, ha, hp0, hp, hvd, fun q h1 h2 h3 => ?_, fun _ => ?_⟩
          · walk_at "d"
            refine ⟨sl100 (by decide), q, l, c, rfl, hc0, Nat.lt_trans h2.1 (Nat.pow_lt_pow_right (by decide) (by decide)), Nat.lt_trans hlb (Nat.pow_lt_pow_right (by decide) (by decide)), Nat.lt_trans h2.2 (Nat.pow_lt_pow_right (by decide) (by decide)), Nat.lt_trans hc (Nat.pow_lt_pow_right (by decide) (by decide)), ?_⟩
            rw [decide_eq_false (Rat.not_lt.mpr (hlq q h1 h3))]
            walk_at "d"
          · walk_at "d"
      rintro r m ⟨o14, o15, rfl⟩
      walk_at "d"
      refine ⟨w', adds, purse, .tup xs, rfl, rfl, hw, ha, hp0, hp, hvg, fun q h1 h2 h3 => ?_, fun q => absurd hgd q⟩
      walk_at "d"
      exact ⟨_, _, _, _, _, _, _, _, _, _, _, _, _, _, rfl⟩
    · walk_at "d"
      refine ⟨w', adds, purse, rfl, rfl, hw, ha, hp0, hp, hc3, fun _ x => ?_, fun q => absurd q hr⟩
      have s0 := sl100 (n := 0) (by decide)
      walk_at "d"
      refine ⟨s0, s0, a, y, w', purse, [], [], rfl, rfl, hy, hw, hp, List.nodup_nil, fun k hk => (nomatch hk), rfl, Nat.zero_le _, fun q => absurd q hr, fun _ y1 hy1 => ?_⟩
      walk_at "d"
      exact ⟨_, _, _, _, _, _, _, _, _, _, _, _, _, _, rfl⟩
  rintro r m ⟨o2, o3, o4, o5, o6, o7, o8, o9, o10, o11, o12, o13, o14, o15, rfl⟩
  walk_at "d"
  exact h
end FC
/-! THE CHAIN: all defs keep their promises. -/
namespace FC
open PySem PySem.Spec L2
theorem free15 {w : Web} {T : List Nat} (hw : WebOk w) (nd : T.Nodup) (hf : ∀ k ∈ T, Free w k) (hl : T.length = 15) : False := by
  have := pigeon (m := List.range w.ties.length) nd fun k hk => List.mem_range.mpr (hf k hk).lt
  rw [List.length_range] at this
  have := hw.tl
  omega
theorem no_measures_in {K : PySem.W.Frag} {ds : List D} {m : Mu} {F : VP} {X : Mu → Prop} (h : (S_measures_in K 0) ds m F X) : False := by
  obtain ⟨a, w', adds, purse, d, ps, T', Kp, _, _, hw, _, _, _, _, nd, hf, hl, _⟩ := h
  exact free15 hw nd hf hl
theorem base_measures_in {P : Program} {w : World} {K : PySem.W.Frag} {mg : Str → Option Value} {base : Heap} (T : Tx K mg) : Fo P w K mg base (L2.CX P w) (20 + 0) "measures_in" ["web", "purse", "kind", "thing", "path", "taken", "kept"] (spD K (NC K) 7 (S_measures_in K 0)) := by
  refine Fo.mk_ T 24 23 rfl rfl rfl rfl rfl (fun _ _ _ _ _ _ us hl => match us, hl with | [_, _, _, _, _, _, _], _ => rfl) fun f fd F => ok_x 0 F sc_measures_in rfl fun cdv A outer s H E I m ds Fv X hr h _ => (no_measures_in h).elim
theorem no_LongSearch_go_on {K : PySem.W.Frag} {ds : List D} {m : Mu} {F : VP} {X : Mu → Prop} (h : (S_LongSearch_go_on K 0) ds m F X) : False := by
  obtain ⟨a, b, w', adds, purse, es, T', Kp, _, _, hw, _, _, _, nd, hf, hl, _⟩ := h
  exact free15 hw nd hf hl
theorem base_LongSearch_go_on {P : Program} {w : World} {K : PySem.W.Frag} {mg : Str → Option Value} {base : Heap} (T : Tx K mg) : FoM P w K mg base CX0 (20 + 0) "LongSearch" "go_on" ["self", "chosen", "kept"] (spD K (NC K) 3 (S_LongSearch_go_on K 0)) := by
  refine FoM.mk_ T 47 rfl rfl rfl rfl (fun _ _ _ _ _ _ us hl => match us, hl with | [_, _, _], _ => rfl) fun f fd F => ok_pure 0 F sc_LongSearch_go_on rfl fun cdv A outer s H E I m ds Fv X hr h => (no_LongSearch_go_on h).elim
theorem no_l_go {ds : List D} {m : Mu} {F : VP} {X : Mu → Prop} (h : (S_l_go 0) ds m F X) : False := by
  obtain ⟨a, y, w', here, seen, _, _, _, hw, nd, hs, hl, _⟩ := h
  have := pigeon nd hs
  have := hw.hi
  omega
theorem base_l_go {P : Program} {w : World} {K : PySem.W.Frag} {mg : Str → Option Value} {base : Heap} (T : Tx K mg) : Fo P w K mg base CX0 (10 + 0) "_law_go" ["_law_state", "_law_web_here", "_law_taken", "_law_here", "_law_seen"] (spD K (NC K) 5 (S_l_go 0)) := by
  refine Fo.mk_ T 62 54 rfl rfl rfl rfl rfl (fun _ _ _ _ _ _ us hl => match us, hl with | [_, _, _, _, _], _ => rfl) fun f fd F => ok_pure 0 F sc_l_go rfl fun cdv A outer s H E I m ds Fv X hr h => (no_l_go h).elim
theorem no_l_paper {ds : List D} {m : Mu} {F : VP} {X : Mu → Prop} (h : (S_l_paper 0) ds m F X) : False := by
  obtain ⟨a, y, w', purse, T', Kp, _, _, _, hw, _, nd, hf, hl, _⟩ := h
  exact free15 hw nd hf hl
theorem base_l_paper {P : Program} {w : World} {K : PySem.W.Frag} {mg : Str → Option Value} {base : Heap} (T : Tx K mg) : Fo P w K mg base CX0 (30 + 0) "_law_paper" ["_law_state", "_law_web_here", "_law_purse_here", "_law_taken", "_law_kept"] (spD K (NC K) 5 (S_l_paper 0)) := by
  refine Fo.mk_ T 64 56 rfl rfl rfl rfl rfl (fun _ _ _ _ _ _ us hl => match us, hl with | [_, _, _, _, _], _ => rfl) fun f fd F => ok_pure 0 F sc_l_paper rfl fun cdv A outer s H E I m ds Fv X hr h => (no_l_paper h).elim
theorem no_l_spoilt {ds : List D} {m : Mu} {F : VP} {X : Mu → Prop} (h : (S_l_spoilt 0) ds m F X) : False := by
  obtain ⟨a, y, w', t, _, _, _, _, ht, _⟩ := h
  exact ht
theorem base_l_spoilt {P : Program} {w : World} {K : PySem.W.Frag} {mg : Str → Option Value} {base : Heap} (T : Tx K mg) : Fo P w K mg base CX0 (30 + 0) "_law_spoilt" ["_law_state", "_law_web_here", "_law_thing"] (spD K (NC K) 3 (S_l_spoilt 0)) := by
  refine Fo.mk_ T 69 61 rfl rfl rfl rfl rfl (fun _ _ _ _ _ _ us hl => match us, hl with | [_, _, _], _ => rfl) fun f fd F => ok_pure 0 F sc_l_spoilt rfl fun cdv A outer s H E I m ds Fv X hr h => (no_l_spoilt h).elim
theorem law_ok {P : Program} {w : World} {K : PySem.W.Frag} {mg : Str → Option Value} {base : Heap} (T : Tx K mg) : ∀ {f fd}, FunD K d_law.name d_law.qual d_law.params d_law.body d_law.scope [] [] f fd → FnOk P w K mg base CX0 51 f fd ["_law_script"] (spD K (NC K) 1 S_law) := by
  intro f fd F
  have G_l_begun := ok_l_begun (P := P) (w := w) (base := base) T 
  have G_l_take := ok_l_take (P := P) (w := w) (base := base) T 
  have G_l_names := ok_l_names (P := P) (w := w) (base := base) T G_l_take
  have G_l_low := ok_l_low (P := P) (w := w) (base := base) T 
  have G_l_amount := ok_l_amount (P := P) (w := w) (base := base) T G_l_take G_l_low
  have G_l_tie := ok_l_tie (P := P) (w := w) (base := base) T G_l_take G_l_amount
  have G_l_web := ok_l_web (P := P) (w := w) (base := base) T G_l_begun G_l_names G_l_take G_l_tie
  have G_l_adds := ok_l_adds (P := P) (w := w) (base := base) T G_l_amount G_l_take
  have G_l_under := ok_l_under (P := P) (w := w) (base := base) T 
  have G_l_cheapest := ok_l_cheapest (P := P) (w := w) (base := base) T G_l_under
  have G_l_plus := ok_l_plus (P := P) (w := w) (base := base) T G_l_low
  have G_l_purse := ok_l_purse (P := P) (w := w) (base := base) T G_l_cheapest G_l_take G_l_plus G_l_low
  have G_is_name := ok_is_name (P := P) (w := w) (base := base) T 
  have G_look_at_places := ok_look_at_places (P := P) (w := w) (base := base) T G_is_name
  have G_is_whole := ok_is_whole (P := P) (w := w) (base := base) T 
  have G_divisor := ok_divisor (P := P) (w := w) (base := base) T 
  have G_is_ratio := ok_is_ratio (P := P) (w := w) (base := base) T G_is_whole G_divisor
  have G_is_worth := ok_is_worth (P := P) (w := w) (base := base) T G_is_ratio
  have G_is_length := ok_is_length (P := P) (w := w) (base := base) T G_is_ratio
  have G_is_tie := ok_is_tie (P := P) (w := w) (base := base) T G_is_name G_is_worth G_is_length
  have G_look_at_ties := ok_look_at_ties (P := P) (w := w) (base := base) T G_is_tie
  have G_look_at_web := ok_look_at_web (P := P) (w := w) (base := base) T G_look_at_places G_look_at_ties G_is_name
  have G_look_at_adds := ok_look_at_adds (P := P) (w := w) (base := base) T G_is_length
  have G_is_purse := ok_is_purse (P := P) (w := w) (base := base) T G_is_length
  have G_look_at_purse := ok_look_at_purse (P := P) (w := w) (base := base) T G_is_purse
  have G_is_less := ok_is_less (P := P) (w := w) (base := base) T 
  have G_lowest := ok_lowest (P := P) (w := w) (base := base) T G_divisor
  have G_plus := ok_plus (P := P) (w := w) (base := base) T G_lowest
  have G_at_once := ok_at_once (P := P) (w := w) (base := base) T G_is_less G_plus
  have G_look_at_size := ok_look_at_size (P := P) (w := w) (base := base) T G_at_once
  have G_nearest := ok_nearest (P := P) (w := w) (base := base) T 
  have G_behind := ok_behind (P := P) (w := w) (base := base) T 
  have G_reached := ok_reached (P := P) (w := w) (base := base) T G_nearest G_behind
  have G_side_in := ok_side_in (P := P) (w := w) (base := base) T G_reached
  have G_LongSearch_init := ok_LongSearch_init (P := P) (w := w) (base := base) T 
  have G_common_of := ok_common_of (P := P) (w := w) (base := base) T G_divisor
  have G_whole_of := ok_whole_of (P := P) (w := w) (base := base) T 
  have G_way_back := ok_way_back (P := P) (w := w) (base := base) T 
  have G_least_by := ok_least_by (P := P) (w := w) (base := base) T G_common_of G_reached G_whole_of G_lowest G_way_back
  have G_longer_lengths := ok_longer_lengths (P := P) (w := w) (base := base) T G_plus
  have G_sum_of := ok_sum_of (P := P) (w := w) (base := base) T G_plus
  have G_worth_in := ok_worth_in (P := P) (w := w) (base := base) T G_sum_of
  have G_fits := ok_fits (P := P) (w := w) (base := base) T G_is_less G_worth_in
  have G_askable := ok_askable (P := P) (w := w) (base := base) T G_fits
  have A_LongSearch_go_on : ∀ n, FoM P w K mg base CX0 (20 + n) "LongSearch" "go_on" ["self", "chosen", "kept"] (spD K (NC K) 3 (S_LongSearch_go_on K n)) := fun n => by
    induction n with
    | zero => exact base_LongSearch_go_on T
    | succ n ih => exact ok_LongSearch_go_on T G_least_by G_longer_lengths G_askable ih
  have G_LongSearch_go_on := A_LongSearch_go_on 15
  have G_is_longer := ok_is_longer (P := P) (w := w) (base := base) T G_is_less
  have G_best_longer := ok_best_longer (P := P) (w := w) (base := base) T G_look_at_web G_look_at_adds G_look_at_purse G_look_at_size G_side_in G_LongSearch_init G_LongSearch_go_on G_is_longer
  have G_l_steps := ok_l_steps (P := P) (w := w) (base := base) T 
  have A_l_go : ∀ n, Fo P w K mg base CX0 (10 + n) "_law_go" ["_law_state", "_law_web_here", "_law_taken", "_law_here", "_law_seen"] (spD K (NC K) 5 (S_l_go n)) := fun n => by
    induction n with
    | zero => exact base_l_go T
    | succ n ih => exact ok_l_go T G_l_steps G_l_take ih
  have G_l_go := A_l_go 7
  have G_l_worth := ok_l_worth (P := P) (w := w) (base := base) T G_l_plus
  have G_l_can := ok_l_can (P := P) (w := w) (base := base) T G_l_under G_l_worth
  have A_l_paper : ∀ n, Fo P w K mg base CX0 (30 + n) "_law_paper" ["_law_state", "_law_web_here", "_law_purse_here", "_law_taken", "_law_kept"] (spD K (NC K) 5 (S_l_paper n)) := fun n => by
    induction n with
    | zero => exact base_l_paper T
    | succ n ih => exact ok_l_paper T G_l_go G_l_can ih
  have G_l_paper := A_l_paper 15
  have G_l_wholes := ok_l_wholes (P := P) (w := w) (base := base) T G_l_low
  have G_l_takings := ok_l_takings (P := P) (w := w) (base := base) T G_l_plus G_l_under
  have G_l_lengths := ok_l_lengths (P := P) (w := w) (base := base) T G_l_plus
  have G_l_far := ok_l_far (P := P) (w := w) (base := base) T 
  have G_l_longest := ok_l_longest (P := P) (w := w) (base := base) T G_l_takings G_l_lengths G_l_far
  have G_l_other_way := ok_l_other_way (P := P) (w := w) (base := base) T G_l_take
  have G_l_other_cases := ok_l_other_cases (P := P) (w := w) (base := base) T G_l_take
  have A_l_spoilt : ∀ n, Fo P w K mg base CX0 (30 + n) "_law_spoilt" ["_law_state", "_law_web_here", "_law_thing"] (spD K (NC K) 3 (S_l_spoilt n)) := fun n => by
    induction n with
    | zero => exact base_l_spoilt T
    | succ n ih => exact ok_l_spoilt T G_l_take ih G_l_other_way G_l_other_cases
  have G_l_spoilt := A_l_spoilt 15
  have G_most_of := ok_most_of (P := P) (w := w) (base := base) T G_is_less
  have G_LongWays_word := ok_LongWays_word (P := P) (w := w) (base := base) T 
  have G_NoCases_init := ok_NoCases_init (P := P) (w := w) (base := base) T
  have G_is_tie_number := ok_is_tie_number (P := P) (w := w) (base := base) T G_is_whole
  have G_gone_along := ok_gone_along (P := P) (w := w) (base := base) T G_is_tie_number G_behind
  have G_wrong_at := ok_wrong_at (P := P) (w := w) (base := base) T G_gone_along
  have G_is_way := ok_is_way (P := P) (w := w) (base := base) T G_wrong_at
  have G_LongWays_is_one := ok_LongWays_is_one (P := P) (w := w) (base := base) T G_is_way
  have G_LongWays_ties_of := ok_LongWays_ties_of (P := P) (w := w) (base := base) T 
  have G_are_cases_of := ok_are_cases_of (P := P) (w := w) (base := base) T G_is_whole
  have G_LongWays_measure := ok_LongWays_measure (P := P) (w := w) (base := base) T G_longer_lengths G_sum_of
  have A_measures_in : ∀ n, Fo P w K mg base (L2.CX P w) (20 + n) "measures_in" ["web", "purse", "kind", "thing", "path", "taken", "kept"] (spD K (NC K) 7 (S_measures_in K n)) := fun n => by
    induction n with
    | zero => exact base_measures_in T
    | succ n ih => exact ok_measures_in T G_LongWays_word G_NoCases_init G_LongWays_is_one G_askable G_LongWays_ties_of G_are_cases_of G_LongWays_measure ih
  have G_measures_in := A_measures_in 15
  have G_LongWays_init := ok_LongWays_init (P := P) (w := w) (base := base) T 
  have G_claim_of_longer := ok_claim_of_longer (P := P) (w := w) (base := base) T G_look_at_web G_look_at_adds G_look_at_purse G_most_of G_measures_in G_LongWays_init
  have G_l_told := ok_l_told (P := P) (w := w) (base := base) T G_claim_of_longer
  have G_law := ok_law (P := P) (w := w) (base := base) T F G_l_web G_l_begun G_l_adds G_l_purse G_best_longer G_l_paper G_l_wholes G_l_longest G_l_spoilt G_l_told G_l_under
  exact G_law
end FC
open PySem PySem.W PySem.Calls PyProof.Rows
theorem PySem.Challenge.cw_farthestcut_k47_whole_no_lengthening_lea_holds : PySem.Challenge.rw_farthestcut_k47_whole_no_lengthening_lea.Holds := by
  w_on; o_law
  refine HandSHeadRun.head_any (r := OpenLaw.row PySem.Challenge.rw_farthestcut_k47_whole_no_lengthening_lea) (q := view (OpenLaw.row PySem.Challenge.rw_farthestcut_k47_whole_no_lengthening_lea).prog [97]) (H := FC.hk) (ob := FC.ob) (M := 8000) (loose := FC.names) (d := HandSHeadRun.topDef (OpenLaw.row PySem.Challenge.rw_farthestcut_k47_whole_no_lengthening_lea).prog 97) (kwd := []) FC.ob_eq
    (by kernel_rfl) (fun s => by kernel_rfl) FC.run (by kernel_rfl) (by kernel_rfl) (by kernel_rfl) (by rfl) (by first | assumption | decide +kernel) (by decide +kernel) ⟨rfl, rfl, rfl, rfl, rfl, by decide +kernel⟩ ?hw ?hc
  case hw => w_witness2
  case hc =>
    refine L2.walk_ofE (l := PySem.Challenge.rw_farthestcut_k47_whole_no_lengthening_lea) (n := 63) (k := 51) (x := "_law_script") (CX := L2.CX0) rfl (by decide) (by kernel_rfl) ⟨rfl, by decide, by decide⟩ ?F (fun _ _ _ _ z => z)
    intro w mg fa h Y G hmg0
    obtain ⟨K, KX, c⟩ := Y
    have hmg : mg ("law" : PySem.Str) = some (.ref fa) := by
      have e : (HandSHeadRun.topDef (OpenLaw.row PySem.Challenge.rw_farthestcut_k47_whole_no_lengthening_lea).prog 97).name = ("law" : PySem.Str) := by kernel_rfl
      rw [← e]
      exact hmg0
    have T := FC.tx KX G c
    obtain ⟨fd, hF⟩ := T.fn FC.d_law (List.mem_of_getElem? (i := 75) rfl)
    have e1 : FC.d_law.dvs K = [] := rfl
    have e2 : FC.d_law.kws K = [] := rfl
    rw [e1, e2] at hF
    have e3 : _root_.He.fAd K FC.d_law.at_ = fa := by
      have h1 := T.g (x := "law") 67 rfl
      rw [hmg] at h1
      exact (Value.ref.inj (Option.some.inj h1)).symm
    rw [e3] at hF
    refine ⟨K, fd, FC.spD K (FC.NC K) 1 FC.S_law, KX, ?_, ?_, fun base _ _ => FC.law_ok T hF⟩
    · exact fun s u => hF.bindsA (ps := ["_law_script"]) (fun _ _ _ _ _ _ us hl => match us, hl with | [_], _ => rfl) s [u] rfl
    · exact fun H a ns hl _ hS => ⟨rfl, H, [], [.scr ns], fun d _ => d = .bl true, fun _ => False, ⟨L2.Same.refl H, fun _ h => (nomatch h), List.nodup_nil⟩, ⟨_, _, rfl, ⟨a, rfl, hS⟩, rfl⟩, ⟨ns, rfl, rfl, hl, rfl⟩, fun v d I' H' m' hd _ _ hr => by cases hd; exact hr, fun _ _ _ _ h => h.elim⟩
