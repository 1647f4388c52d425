import PyProof.Rows.All
import Wide.All
import OpenK.AllK
import Wide.FinOn
import KE.KStateDown
import HandS.Base
import HandS.Call
import HandS.Ends
import HandS.More
import HandS.Words
import HandS.WordsExc
import HandS.Defaults
import HandS.Head0
import HandS.Head1
import HandS.Head2
import HandS.HeadEnd
import HandS.HeadHook1
import HandS.HeadHook2
import HandS.HeadHook3
import HandS.HeadHook4
import HandS.ExcInit
import HandS.Property
import HandS.ExcField
import HandS.ExcIs
import HandS.IsInst
import HandS.OwnEq
import PySem.Challenge.RW_crossfarers_k37_normal_forms
import HandS.ForMost
import HandS.ForExc
import HandS.Walk
import HandS.DictComp
import HandS.TupAny
import HandS.Deep
import HandS.Conv
import HandS.NoneIn
import HandS.Wide
import HandS.SortKw
import KE.KExcIs
import KE.SortData
import HandS.Style
set_option Elab.async false
set_option linter.all false
section
set_option maxRecDepth 100000
set_option maxHeartbeats 0
namespace K37
open PySem PySem.Spec PyProof.Rows L2

def top (i : Nat) : Stmt := PySem.Challenge.pw_crossfarers_k37_normal_forms.main.body.getD i (.Pass ⟨0, 0, 0, 0⟩)
abbrev s_is_whole : Stmt := top 20
abbrev s_is_tuple_of : Stmt := top 21
abbrev s_is_name : Stmt := top 22
abbrev s_is_day : Stmt := top 23
abbrev s_is_plan : Stmt := top 24
abbrev s_is_deed : Stmt := top 25
abbrev s_is_history : Stmt := top 26
abbrev s_is_name_pair : Stmt := top 28
abbrev s_check_name : Stmt := top 29
abbrev s_check_towns : Stmt := top 30
abbrev s_check_ways : Stmt := top 31
abbrev s_check_unlike : Stmt := top 32
abbrev s_ordered_pair : Stmt := top 33
abbrev s_checked_way : Stmt := top 34
abbrev s_near_towns : Stmt := top 35
abbrev s_check_plans : Stmt := top 37
abbrev s_check_steps : Stmt := top 38
abbrev s_known_plan : Stmt := top 39
abbrev s_reason_of : Stmt := top 42
abbrev s_plans_after : Stmt := top 43
abbrev s_refusal : Stmt := top 44
abbrev s_plans_along : Stmt := top 45
abbrev s_replay : Stmt := top 46
abbrev s_first_tokens : Stmt := top 48
abbrev s_arrival : Stmt := top 49
abbrev s_arriver : Stmt := top 50
abbrev s_swap_tokens : Stmt := top 51
abbrev s_thread_crossing : Stmt := top 52
abbrev s_check_threads : Stmt := top 53
abbrev s_threads_of : Stmt := top 54
abbrev s_history_of : Stmt := top 55
abbrev s_parts_of : Stmt := top 56
abbrev s_split_history : Stmt := top 57
abbrev s_late_first : Stmt := top 58
abbrev s_normal_form : Stmt := top 59
abbrev s_histories_alike : Stmt := top 60
abbrev s_L_mixed : Stmt := top 62
abbrev s_L_store : Stmt := top 63
abbrev s_L_take : Stmt := top 64
abbrev s_L_pick : Stmt := top 65
abbrev s_L_some : Stmt := top 66
abbrev s_L_word : Stmt := top 67
abbrev s_L_made : Stmt := top 68
abbrev s_L_deed_due : Stmt := top 69
abbrev s_L_exchanged : Stmt := top 70
abbrev s_L_fitting : Stmt := top 71
abbrev s_L_history : Stmt := top 72
abbrev s_L_replay : Stmt := top 73
abbrev s_L_crossings : Stmt := top 74
abbrev s_L_parts : Stmt := top 75
abbrev s_L_no_deed : Stmt := top 76
abbrev s_L_no_history : Stmt := top 77
abbrev s_L_tokens : Stmt := top 78
abbrev s_L_words : Stmt := top 79
abbrev s_L_plains : Stmt := top 80
abbrev s_L_alike : Stmt := top 81
abbrev s_L_strange : Stmt := top 82
abbrev s_L_near_deed : Stmt := top 83
abbrev s_L_near_history : Stmt := top 84
abbrev s_L_error : Stmt := top 85
abbrev s_L_refused : Stmt := top 86
abbrev s_L_pair_told : Stmt := top 87
abbrev s_L_holds : Stmt := top 88
abbrev s_law : Stmt := top 89
abbrev s_BadShape_init : Stmt := inClass (top 3) 0
abbrev s_StepRefused_init : Stmt := inClass (top 10) 0
abbrev s_Web_init : Stmt := inClass (top 36) 0
abbrev s_Web_eq : Stmt := inClass (top 36) 9
abbrev s_World_init : Stmt := inClass (top 40) 0
abbrev s_World_web : Stmt := inClass (top 40) 1
abbrev s_World_plans : Stmt := inClass (top 40) 3
abbrev s_World_rows : Stmt := inClass (top 40) 4
abbrev s_World_place : Stmt := inClass (top 40) 6
abbrev s_World_eq : Stmt := inClass (top 40) 13
def d_is_whole : He.DefD := ⟨("is_whole", none), "is_whole", "is_whole", defArgs s_is_whole, defBody s_is_whole, defScope s_is_whole, [], []⟩
def d_is_tuple_of : He.DefD := ⟨("is_tuple_of", none), "is_tuple_of", "is_tuple_of", defArgs s_is_tuple_of, defBody s_is_tuple_of, defScope s_is_tuple_of, [], []⟩
def d_is_name : He.DefD := ⟨("is_name", none), "is_name", "is_name", defArgs s_is_name, defBody s_is_name, defScope s_is_name, [], []⟩
def d_is_day : He.DefD := ⟨("is_day", none), "is_day", "is_day", defArgs s_is_day, defBody s_is_day, defScope s_is_day, [], []⟩
def d_is_plan : He.DefD := ⟨("is_plan", none), "is_plan", "is_plan", defArgs s_is_plan, defBody s_is_plan, defScope s_is_plan, [], []⟩
def d_is_deed : He.DefD := ⟨("is_deed", none), "is_deed", "is_deed", defArgs s_is_deed, defBody s_is_deed, defScope s_is_deed, [], []⟩
def d_is_history : He.DefD := ⟨("is_history", none), "is_history", "is_history", defArgs s_is_history, defBody s_is_history, defScope s_is_history, [], []⟩
def d_is_name_pair : He.DefD := ⟨("is_name_pair", none), "is_name_pair", "is_name_pair", defArgs s_is_name_pair, defBody s_is_name_pair, defScope s_is_name_pair, [], []⟩
def d_check_name : He.DefD := ⟨("check_name", none), "check_name", "check_name", defArgs s_check_name, defBody s_check_name, defScope s_check_name, [], []⟩
def d_check_towns : He.DefD := ⟨("check_towns", none), "check_towns", "check_towns", defArgs s_check_towns, defBody s_check_towns, defScope s_check_towns, [], []⟩
def d_check_ways : He.DefD := ⟨("check_ways", none), "check_ways", "check_ways", defArgs s_check_ways, defBody s_check_ways, defScope s_check_ways, [], []⟩
def d_check_unlike : He.DefD := ⟨("check_unlike", none), "check_unlike", "check_unlike", defArgs s_check_unlike, defBody s_check_unlike, defScope s_check_unlike, [], []⟩
def d_ordered_pair : He.DefD := ⟨("ordered_pair", none), "ordered_pair", "ordered_pair", defArgs s_ordered_pair, defBody s_ordered_pair, defScope s_ordered_pair, [], []⟩
def d_checked_way : He.DefD := ⟨("checked_way", none), "checked_way", "checked_way", defArgs s_checked_way, defBody s_checked_way, defScope s_checked_way, [], []⟩
def d_near_towns : He.DefD := ⟨("near_towns", none), "near_towns", "near_towns", defArgs s_near_towns, defBody s_near_towns, defScope s_near_towns, [], []⟩
def d_check_plans : He.DefD := ⟨("check_plans", none), "check_plans", "check_plans", defArgs s_check_plans, defBody s_check_plans, defScope s_check_plans, [], []⟩
def d_check_steps : He.DefD := ⟨("check_steps", none), "check_steps", "check_steps", defArgs s_check_steps, defBody s_check_steps, defScope s_check_steps, [], []⟩
def d_known_plan : He.DefD := ⟨("known_plan", none), "known_plan", "known_plan", defArgs s_known_plan, defBody s_known_plan, defScope s_known_plan, [], []⟩
def d_reason_of : He.DefD := ⟨("reason_of", none), "reason_of", "reason_of", defArgs s_reason_of, defBody s_reason_of, defScope s_reason_of, [], []⟩
def d_plans_after : He.DefD := ⟨("plans_after", none), "plans_after", "plans_after", defArgs s_plans_after, defBody s_plans_after, defScope s_plans_after, [], []⟩
def d_refusal : He.DefD := ⟨("refusal", none), "refusal", "refusal", defArgs s_refusal, defBody s_refusal, defScope s_refusal, [], []⟩
def d_plans_along : He.DefD := ⟨("plans_along", none), "plans_along", "plans_along", defArgs s_plans_along, defBody s_plans_along, defScope s_plans_along, [], []⟩
def d_replay : He.DefD := ⟨("replay", none), "replay", "replay", defArgs s_replay, defBody s_replay, defScope s_replay, [], []⟩
def d_first_tokens : He.DefD := ⟨("first_tokens", none), "first_tokens", "first_tokens", defArgs s_first_tokens, defBody s_first_tokens, defScope s_first_tokens, [], []⟩
def d_arrival : He.DefD := ⟨("arrival", none), "arrival", "arrival", defArgs s_arrival, defBody s_arrival, defScope s_arrival, [], []⟩
def d_arriver : He.DefD := ⟨("arriver", none), "arriver", "arriver", defArgs s_arriver, defBody s_arriver, defScope s_arriver, [], []⟩
def d_swap_tokens : He.DefD := ⟨("swap_tokens", none), "swap_tokens", "swap_tokens", defArgs s_swap_tokens, defBody s_swap_tokens, defScope s_swap_tokens, [], []⟩
def d_thread_crossing : He.DefD := ⟨("thread_crossing", none), "thread_crossing", "thread_crossing", defArgs s_thread_crossing, defBody s_thread_crossing, defScope s_thread_crossing, [], []⟩
def d_check_threads : He.DefD := ⟨("check_threads", none), "check_threads", "check_threads", defArgs s_check_threads, defBody s_check_threads, defScope s_check_threads, [], []⟩
def d_threads_of : He.DefD := ⟨("threads_of", none), "threads_of", "threads_of", defArgs s_threads_of, defBody s_threads_of, defScope s_threads_of, [], []⟩
def d_history_of : He.DefD := ⟨("history_of", none), "history_of", "history_of", defArgs s_history_of, defBody s_history_of, defScope s_history_of, [], []⟩
def d_parts_of : He.DefD := ⟨("parts_of", none), "parts_of", "parts_of", defArgs s_parts_of, defBody s_parts_of, defScope s_parts_of, [], []⟩
def d_split_history : He.DefD := ⟨("split_history", none), "split_history", "split_history", defArgs s_split_history, defBody s_split_history, defScope s_split_history, [], []⟩
def d_late_first : He.DefD := ⟨("late_first", none), "late_first", "late_first", defArgs s_late_first, defBody s_late_first, defScope s_late_first, [], []⟩
def d_normal_form : He.DefD := ⟨("normal_form", none), "normal_form", "normal_form", defArgs s_normal_form, defBody s_normal_form, defScope s_normal_form, [], []⟩
def d_histories_alike : He.DefD := ⟨("histories_alike", none), "histories_alike", "histories_alike", defArgs s_histories_alike, defBody s_histories_alike, defScope s_histories_alike, [], []⟩
def d_L_mixed : He.DefD := ⟨("_law_mixed", none), "_law_mixed", "_law_mixed", defArgs s_L_mixed, defBody s_L_mixed, defScope s_L_mixed, [], []⟩
def d_L_store : He.DefD := ⟨("_law_store", none), "_law_store", "_law_store", defArgs s_L_store, defBody s_L_store, defScope s_L_store, [], []⟩
def d_L_take : He.DefD := ⟨("_law_take", none), "_law_take", "_law_take", defArgs s_L_take, defBody s_L_take, defScope s_L_take, [], []⟩
def d_L_pick : He.DefD := ⟨("_law_pick", none), "_law_pick", "_law_pick", defArgs s_L_pick, defBody s_L_pick, defScope s_L_pick, [], []⟩
def d_L_some : He.DefD := ⟨("_law_some", none), "_law_some", "_law_some", defArgs s_L_some, defBody s_L_some, defScope s_L_some, [], []⟩
def d_L_word : He.DefD := ⟨("_law_word", none), "_law_word", "_law_word", defArgs s_L_word, defBody s_L_word, defScope s_L_word, [], []⟩
def d_L_made : He.DefD := ⟨("_law_made", none), "_law_made", "_law_made", defArgs s_L_made, defBody s_L_made, defScope s_L_made, [], []⟩
def d_L_deed_due : He.DefD := ⟨("_law_deed_due", none), "_law_deed_due", "_law_deed_due", defArgs s_L_deed_due, defBody s_L_deed_due, defScope s_L_deed_due, [], []⟩
def d_L_exchanged : He.DefD := ⟨("_law_exchanged", none), "_law_exchanged", "_law_exchanged", defArgs s_L_exchanged, defBody s_L_exchanged, defScope s_L_exchanged, [], []⟩
def d_L_fitting : He.DefD := ⟨("_law_fitting", none), "_law_fitting", "_law_fitting", defArgs s_L_fitting, defBody s_L_fitting, defScope s_L_fitting, [], []⟩
def d_L_history : He.DefD := ⟨("_law_history", none), "_law_history", "_law_history", defArgs s_L_history, defBody s_L_history, defScope s_L_history, [], []⟩
def d_L_replay : He.DefD := ⟨("_law_replay", none), "_law_replay", "_law_replay", defArgs s_L_replay, defBody s_L_replay, defScope s_L_replay, [], []⟩
def d_L_crossings : He.DefD := ⟨("_law_crossings", none), "_law_crossings", "_law_crossings", defArgs s_L_crossings, defBody s_L_crossings, defScope s_L_crossings, [], []⟩
def d_L_parts : He.DefD := ⟨("_law_parts", none), "_law_parts", "_law_parts", defArgs s_L_parts, defBody s_L_parts, defScope s_L_parts, [], []⟩
def d_L_no_deed : He.DefD := ⟨("_law_no_deed", none), "_law_no_deed", "_law_no_deed", defArgs s_L_no_deed, defBody s_L_no_deed, defScope s_L_no_deed, [], []⟩
def d_L_no_history : He.DefD := ⟨("_law_no_history", none), "_law_no_history", "_law_no_history", defArgs s_L_no_history, defBody s_L_no_history, defScope s_L_no_history, [], []⟩
def d_L_tokens : He.DefD := ⟨("_law_tokens", none), "_law_tokens", "_law_tokens", defArgs s_L_tokens, defBody s_L_tokens, defScope s_L_tokens, [], []⟩
def d_L_words : He.DefD := ⟨("_law_words", none), "_law_words", "_law_words", defArgs s_L_words, defBody s_L_words, defScope s_L_words, [], []⟩
def d_L_plains : He.DefD := ⟨("_law_plains", none), "_law_plains", "_law_plains", defArgs s_L_plains, defBody s_L_plains, defScope s_L_plains, [], []⟩
def d_L_alike : He.DefD := ⟨("_law_alike", none), "_law_alike", "_law_alike", defArgs s_L_alike, defBody s_L_alike, defScope s_L_alike, [], []⟩
def d_L_strange : He.DefD := ⟨("_law_strange", none), "_law_strange", "_law_strange", defArgs s_L_strange, defBody s_L_strange, defScope s_L_strange, [], []⟩
def d_L_near_deed : He.DefD := ⟨("_law_near_deed", none), "_law_near_deed", "_law_near_deed", defArgs s_L_near_deed, defBody s_L_near_deed, defScope s_L_near_deed, [], []⟩
def d_L_near_history : He.DefD := ⟨("_law_near_history", none), "_law_near_history", "_law_near_history", defArgs s_L_near_history, defBody s_L_near_history, defScope s_L_near_history, [], []⟩
def d_L_error : He.DefD := ⟨("_law_error", none), "_law_error", "_law_error", defArgs s_L_error, defBody s_L_error, defScope s_L_error, [], []⟩
def d_L_refused : He.DefD := ⟨("_law_refused", none), "_law_refused", "_law_refused", defArgs s_L_refused, defBody s_L_refused, defScope s_L_refused, [], []⟩
def d_L_pair_told : He.DefD := ⟨("_law_pair_told", none), "_law_pair_told", "_law_pair_told", defArgs s_L_pair_told, defBody s_L_pair_told, defScope s_L_pair_told, [], []⟩
def d_L_holds : He.DefD := ⟨("_law_holds", none), "_law_holds", "_law_holds", defArgs s_L_holds, defBody s_L_holds, defScope s_L_holds, [], []⟩
def d_law : He.DefD := ⟨("law", none), "law", "law", defArgs s_law, defBody s_law, defScope s_law, [], []⟩
def d_BadShape_init : He.DefD := ⟨("BadShape", some "__init__"), "__init__", "BadShape.__init__", defArgs s_BadShape_init, defBody s_BadShape_init, defScope s_BadShape_init, [], []⟩
def d_StepRefused_init : He.DefD := ⟨("StepRefused", some "__init__"), "__init__", "StepRefused.__init__", defArgs s_StepRefused_init, defBody s_StepRefused_init, defScope s_StepRefused_init, [], []⟩
def d_Web_init : He.DefD := ⟨("Web", some "__init__"), "__init__", "Web.__init__", defArgs s_Web_init, defBody s_Web_init, defScope s_Web_init, [.adr (He.dflAt ("Web", some "__init__") 0)], []⟩
def d_Web_eq : He.DefD := ⟨("Web", some "__eq__"), "__eq__", "Web.__eq__", defArgs s_Web_eq, defBody s_Web_eq, defScope s_Web_eq, [], []⟩
def d_World_init : He.DefD := ⟨("World", some "__init__"), "__init__", "World.__init__", defArgs s_World_init, defBody s_World_init, defScope s_World_init, [], []⟩
def d_World_place : He.DefD := ⟨("World", some "place"), "place", "World.place", defArgs s_World_place, defBody s_World_place, defScope s_World_place, [], []⟩
def d_World_eq : He.DefD := ⟨("World", some "__eq__"), "__eq__", "World.__eq__", defArgs s_World_eq, defBody s_World_eq, defScope s_World_eq, [], []⟩
def fn : List He.DefD := [d_is_whole, d_is_tuple_of, d_is_name, d_is_day, d_is_plan, d_is_deed, d_is_history, d_is_name_pair, d_check_name, d_check_towns, d_check_ways, d_check_unlike, d_ordered_pair, d_checked_way, d_near_towns, d_check_plans, d_check_steps, d_known_plan, d_reason_of, d_plans_after, d_refusal, d_plans_along, d_replay, d_first_tokens, d_arrival, d_arriver, d_swap_tokens, d_thread_crossing, d_check_threads, d_threads_of, d_history_of, d_parts_of, d_split_history, d_late_first, d_normal_form, d_histories_alike, d_L_mixed, d_L_store, d_L_take, d_L_pick, d_L_some, d_L_word, d_L_made, d_L_deed_due, d_L_exchanged, d_L_fitting, d_L_history, d_L_replay, d_L_crossings, d_L_parts, d_L_no_deed, d_L_no_history, d_L_tokens, d_L_words, d_L_plains, d_L_alike, d_L_strange, d_L_near_deed, d_L_near_history, d_L_error, d_L_refused, d_L_pair_told, d_L_holds, d_law, d_BadShape_init, d_StepRefused_init, d_Web_init, d_Web_eq, d_World_init, d_World_place, d_World_eq]
def fa : List He.Fa := [.glo "is_whole", .glo "is_tuple_of", .glo "is_name", .glo "is_day", .glo "is_plan", .glo "is_deed", .glo "is_history", .glo "is_name_pair", .glo "check_name", .glo "check_towns", .glo "check_ways", .glo "check_unlike", .glo "ordered_pair", .glo "checked_way", .glo "near_towns", .glo "check_plans", .glo "check_steps", .glo "known_plan", .glo "reason_of", .glo "plans_after", .glo "refusal", .glo "plans_along", .glo "replay", .glo "first_tokens", .glo "arrival", .glo "arriver", .glo "swap_tokens", .glo "thread_crossing", .glo "check_threads", .glo "threads_of", .glo "history_of", .glo "parts_of", .glo "split_history", .glo "late_first", .glo "normal_form", .glo "histories_alike", .glo "_law_mixed", .glo "_law_store", .glo "_law_take", .glo "_law_pick", .glo "_law_some", .glo "_law_word", .glo "_law_made", .glo "_law_deed_due", .glo "_law_exchanged", .glo "_law_fitting", .glo "_law_history", .glo "_law_replay", .glo "_law_crossings", .glo "_law_parts", .glo "_law_no_deed", .glo "_law_no_history", .glo "_law_tokens", .glo "_law_words", .glo "_law_plains", .glo "_law_alike", .glo "_law_strange", .glo "_law_near_deed", .glo "_law_near_history", .glo "_law_error", .glo "_law_refused", .glo "_law_pair_told", .glo "_law_holds", .glo "law", .glo "CrossError", .glo "BadShape", .glo "Repeated", .glo "UnknownTown", .glo "UnknownTraveller", .glo "SameTown", .glo "NoWay", .glo "UnlikeTowns", .glo "StepRefused", .glo "Web", .glo "World", .free "ValueError", .free "all", .free "bool", .free "dict", .free "enumerate", .free "int", .free "isinstance", .free "iter", .free "len", .free "list", .free "max", .free "min", .free "range", .free "sorted", .free "str", .free "tuple", .str "END" "-", .int "LAST_DAY" 6, .int "MOST_TOWNS" 8, .int "MOST_TRAVELLERS" 6, .int "MOST_DEEDS" 60, .int "LONGEST_NAME" 8, .str "LETTERS" "abcdefghijklmnopqrstuvwxyz", .str "LETTERS_AND_DIGITS" "abcdefghijklmnopqrstuvwxyz0123456789", .cls "Web", .cls "World", .mkr "Web", .mkr "World", .meth "World" "place", .noat "Web" "own_towns", .noat "Web" "own_ways", .noat "Web" "own_near", .noat "World" "own_web", .noat "World" "own_names", .noat "World" "own_rows", .noat "World" "own_plans"]
def names : List Str := (["_wall", "is_whole", "is_tuple_of", "is_name", "is_day", "is_plan", "is_deed", "is_history", "is_name_pair", "check_name", "check_towns", "check_ways", "check_unlike", "ordered_pair", "checked_way", "near_towns", "check_plans", "check_steps", "known_plan", "reason_of", "plans_after", "refusal", "plans_along", "replay", "first_tokens", "arrival", "arriver", "swap_tokens", "thread_crossing", "check_threads"] : List Str) ++ (["threads_of", "history_of", "parts_of", "split_history", "late_first", "normal_form", "histories_alike", "_law_mixed", "_law_store", "_law_take", "_law_pick", "_law_some", "_law_word", "_law_made", "_law_deed_due", "_law_exchanged", "_law_fitting", "_law_history", "_law_replay", "_law_crossings", "_law_parts", "_law_no_deed", "_law_no_history", "_law_tokens", "_law_words", "_law_plains", "_law_alike", "_law_strange", "_law_near_deed", "_law_near_history"] : List Str) ++ (["_law_error", "_law_refused", "_law_pair_told", "_law_holds", "CrossError", "BadShape", "Repeated", "UnknownTown", "UnknownTraveller", "SameTown", "NoWay", "UnlikeTowns", "StepRefused", "Web", "World", "END", "LAST_DAY", "MOST_TOWNS", "MOST_TRAVELLERS", "MOST_DEEDS", "LONGEST_NAME", "LETTERS", "LETTERS_AND_DIGITS"] : List Str)
def gets : List (Str × He.DefD) := [("web", ⟨("World", none), "web", "World.web", defArgs s_World_web, defBody s_World_web, defScope s_World_web, [], []⟩), ("plans", ⟨("World", none), "plans", "World.plans", defArgs s_World_plans, defBody s_World_plans, defScope s_World_plans, [], []⟩), ("rows", ⟨("World", none), "rows", "World.rows", defArgs s_World_rows, defBody s_World_rows, defScope s_World_rows, [], []⟩)]
abbrev R : PySem.W.OpenRow := PySem.W.OpenLaw.row PySem.Challenge.rw_crossfarers_k37_normal_forms
/-! ### which objects are looked at: the names of the module, what defs and classes hold -/
def rfs (g : Addr → Option Obj) (a : Addr) : List Addr := match g a with
  | some ⟨_, _, .func fd, _⟩ => He.refV fd.code ++ He.refV fd.defaults
  | some ⟨_, _, .cls cd, _⟩ => [cd.ns]
  | some ⟨_, _, .dict es _, _⟩ => es.toList.flatMap fun e => He.refV e.val
  | some ⟨_, _, .fields vs, _⟩ => (vs.toList.take 1).flatMap He.refV
  | some ⟨_, _, .seq its _, _⟩ => its.toList.flatMap He.refV
  | _ => []
def stp (g : Addr → Option Obj) (as : List Addr) : List Addr := as.flatMap fun a => rfs g a
def asA (g : Addr → Option Obj) : List Addr := mainGlobals :: (stp g [mainGlobals] ++ (stp g (stp g [mainGlobals]) ++ (stp g (stp g (stp g [mainGlobals])) ++ (stp g (stp g (stp g (stp g [mainGlobals]))) ++ stp g (stp g (stp g (stp g (stp g [mainGlobals]))))))))
/-- a def that stands at an address -/
def fnAt (K : PySem.W.Frag) (a : Addr) : He.FnW := match K.lookup a with
  | some ⟨_, _, .func fd, _⟩ => some (fd.name, fd.qualname, fd.params, fd.body, fd.scope, fd.globals, fd.closure, fd.builtins)
  | _ => none
/-- a property and its getter -/
def prAd (K : PySem.W.Frag) (C : Addr) (f : Str) : Addr := match PySem.W.findIn K (.ref C) f with
  | some (some (.ref p)) => p
  | _ => 0
def geAd (K : PySem.W.Frag) (C : Addr) (f : Str) : Addr := match PySem.W.recIn K (prAd K C f) "property" with
  | some (.ref g :: _) => g
  | _ => 0
def prOk (K : PySem.W.Frag) (C : Addr) (f q : Str) : Bool :=
  decide (PySem.W.findIn K (.ref C) f = some (some (.ref (prAd K C f)))) && (decide (PySem.W.specialIn K (.ref (prAd K C f)) "__get__" = some (some (.builtin "property.__get__"))) &&
  (decide (PySem.W.takesIn K (.ref (prAd K C f)) = some true) && ((match PySem.W.recIn K (prAd K C f) "property" with
    | some (.ref g :: _) => decide (g = geAd K C f)
    | _ => false) && (PySem.W.keepIn K (.ref (geAd K C f)) && (match K.lookup (geAd K C f) with
      | some ⟨_, _, .func fd, _⟩ => PySem.W.codeIn K fd.code q && (match fd.defaults with
        | .none => true
        | _ => false)
      | _ => false)))))
/-- an own error's class -/
def erOk (K : PySem.W.Frag) (C : Addr) : Bool := (match K.lookup C with
  | some ⟨.type t, _, .cls cd, sl⟩ => (match cd.mro, sl.toList with
    | .ref D :: bm, [_, _, _, _, some (.builtin n), _] => decide (t = "type") && (decide (D = C) && (decide (n = "ValueError.__new__") && (!cd.hasDel && (cd.hasDict && PySem.HandSPX.refsVE bm))))
    | _, _ => false)
  | _ => false) && (decide (PySem.W.findIn K (.ref C) "__setattr__" = some (some (.builtin "object.__setattr__"))) && (decide (PySem.W.subIn K (.ref C) (.type "BaseException") = some true) && (decide (PySem.W.typeIn K (.ref C) = some (.type "type")) &&
  (PySem.W.keepIn K (.ref C) && (L2.xfB K C && (decide (PySem.W.findIn K (.ref C) "__class__" = some (some (.builtin "object.__class__"))) && (decide (PySem.W.mroIn K C (.type "object") = some true) &&
  (decide (PySem.W.findIn K (.ref C) "__init__" = some (some (.ref (He.ma K C "__init__")))) && decide (PySem.W.typeIn K (.ref (He.ma K C "__init__")) = some (.type "function"))))))))))
/-- instances of an own class, told apart -/
def inOk (K : PySem.W.Frag) (C : Addr) : Bool := decide (PySem.W.findIn K (.ref C) "__class__" = some (some (.builtin "object.__class__"))) && (decide (PySem.W.mroIn K C (.type "object") = some true) &&
  (decide (PySem.W.findIn K (.ref C) "__eq__" = some (some (.ref (He.ma K C "__eq__")))) && (PySem.W.isFn K (.ref (He.ma K C "__eq__")) &&
  (decide (PySem.W.kitOne K (.ref C) (.ref C) = some true) && (decide (PySem.W.kitOne K (.ref C) (.type "list") = some false) && (decide (PySem.W.kitOne K (.ref C) (.type "tuple") = some false) && (decide (PySem.W.kitOne K (.ref C) (.type "bool") = some false) &&
  (decide (PySem.W.kitOne K (.ref C) (.type "int") = some false) && decide (PySem.W.kitOne K (.ref C) (.type "str") = some false)))))))))
def noOk (K : PySem.W.Frag) (x f : Str) : Bool := decide (PySem.W.findIn K (.ref (He.ga K x)) f = some none)
def kiOk (K : PySem.W.Frag) (x y : Str) (b : Bool) : Bool := decide (PySem.W.kitOne K (.ref (He.ga K x)) (.ref (He.ga K y)) = some b)
def ex (K : PySem.W.Frag) : Bool :=
  prOk K (He.ga K "World") "web" "World.web" && (prOk K (He.ga K "World") "plans" "World.plans" && (prOk K (He.ga K "World") "rows" "World.rows" &&
  (erOk K (He.ga K "BadShape") && (erOk K (He.ga K "StepRefused") && (inOk K (He.ga K "Web") && (inOk K (He.ga K "World") &&
  (noOk K "BadShape" "parameter" && (noOk K "StepRefused" "at" && (noOk K "StepRefused" "reason" &&
  (kiOk K "BadShape" "BadShape" true && (kiOk K "BadShape" "StepRefused" false && (kiOk K "BadShape" "UnlikeTowns" false &&
  (kiOk K "StepRefused" "BadShape" false && (kiOk K "StepRefused" "StepRefused" true && (kiOk K "StepRefused" "UnlikeTowns" false &&
  (decide (PySem.W.kitOne K (.ref (He.ga K "BadShape")) (.type "ValueError") = some true) && (decide (PySem.W.kitOne K (.ref (He.ga K "StepRefused")) (.type "ValueError") = some true) &&
  (decide (PySem.W.exmOne K (.ref (He.ga K "BadShape")) (.ref (He.ga K "CrossError")) = some true) && (decide (PySem.W.exmOne K (.ref (He.ga K "StepRefused")) (.ref (He.ga K "CrossError")) = some true) &&
  (decide (PySem.W.specialIn K (.builtin "object.__class__") "__get__" = some (some (.builtin "getset_descriptor.__get__"))) && decide (PySem.W.takesIn K (.builtin "object.__class__") = some true)))))))))))))))))))))
abbrev AlK : Type := He.AlD × (List He.FnW × Bool)
def obsK (g : Addr → Option Obj) (K : PySem.W.Frag) : AlK := (He.obsD fa fn K, gets.map fun q => fnAt K (geAd K (He.ga K "World") q.1), ex K)
def valK : AlK := (He.valD fn, gets.map fun q => q.2.val, true)
def SaysK (K : PySem.W.Frag) : Prop := obsK (fun _ => none) K = valK
def hk : PySem.W.Hook where
  α := AlK
  obs := fun s => obsK (fun _ => none) (He.frG s.heap.get? (asA s.heap.get?))
  val := fun _ => valK
  says := fun _ h => ∃ K : PySem.W.Frag, K.In h ∧ SaysK K
  of := fun _ _ e => ⟨_, He.frG_in, e⟩
  keeps := fun _ _ _ ⟨K, hK, c⟩ k => ⟨K, PySem.W.Frag.In.keeps hK k, c⟩
def ob (s : PySem.W.SharedT) : AlK := obsK (fun _ => none) (He.frG (HandSHeadRun.getT s) (asA (HandSHeadRun.getT s)))
theorem ob_eq (s : PySem.W.SharedT) : ob s = hk.obs s.abs := by
  have e : HandSHeadRun.getT s = s.abs.heap.get? := funext (HandSHeadRun.getT_eq s)
  unfold ob
  rw [e]
  rfl
theorem run (w : World) : HandSHeadRun.RunEq R (PySem.W.view R.prog [89]) hk ob 30000 names w := by
  intro os
  kernel_rfl
end K37
end
section
set_option maxRecDepth 100000
set_option maxHeartbeats 4000000
/-! Z0: heaps that grow (G: what is known for good, H: what is tracked), types of values, judgements of expressions by types. Own work over HandS. -/
namespace Z
open PySem PySem.Spec PyProof.Rows L2

/-! ### heaps -/
def isDct : HO → Bool
  | .dK _ => true
  | .dT _ => true
  | _ => false
def isTup : HO → Bool
  | .tup _ => true
  | _ => false
def Le (G H : Hp) : Prop := ∀ a o, G a = some o → H a = some o
theorem Le.rfl' (G : Hp) : Le G G := fun _ _ e => e
theorem Le.pre {G G' H : Hp} (s : Same G G') (l : Le G' H) : Le G H := fun a o e => l a o (s a o e)
theorem Le.post {G H H' : Hp} (l : Le G H) (s : ∀ a o, G a ≠ none → H a = some o → H' a = some o) : Le G H' := fun a o e => s a o (by rw [e]; exact fun z => by cases z) (l a o e)
theorem Le.at_ {G H : Hp} (l : Le G H) {a : Addr} {o : HO} (e : G a = some o) (_ : isDct o = isDct o) : H a = some o := l a o e
theorem Le.rd {G H : Hp} (l : Le G H) {a : Addr} {o : HO} (e : Rd G a o) : Rd H a o := by
  rcases e with e | ⟨ob, e⟩
  · exact .inl (l a o e)
  · exact .inr ⟨ob, l a _ e⟩
theorem ne_none {G : Hp} {a : Addr} {o : HO} (e : G a = some o) : G a ≠ none := by rw [e]; exact fun z => by cases z
theorem some_of {α : Type} {x : Option α} (h : x ≠ none) : ∃ o, x = some o := by
  cases x with
  | none => exact absurd rfl h
  | some o => exact ⟨o, rfl⟩

/-- what is there is no tuple -/
def NT (H : Hp) (a : Addr) : Prop := ∃ o, H a = some o ∧ isTup o = false
theorem NT.of {H : Hp} {a : Addr} {o : HO} (e : H a = some o) (n : isTup o = false) : NT H a := ⟨o, e, n⟩
theorem NT.ne {H : Hp} {a : Addr} (h : NT H a) : H a ≠ none := by obtain ⟨o, e, _⟩ := h; exact ne_none e

/-! ### the store's object -/
def StO (G H : Hp) (s : Addr) : Prop := G s = none ∧ ∃ (c : Addr) (cells : List Int) (i r k seed : Int), G c = some (.lst (cells.map V.int)) ∧
  H s = some (.lst [.ref c, .int i, .int r, .int k, .int seed]) ∧ 0 ≤ i
def StI : Option Addr → Hp → Hp → Prop
  | none, _, _ => True
  | some s, G, H => StO G H s

/-! ### the zone of a def's body: G0, H0 at its entry, B what it may change, sa the store that it holds -/
structure Zn where
  sa : Option Addr
  G0 : Hp
  H0 : Hp
  B : Addr → Prop
  hs : ∀ s, sa = some s → B s
structure Bg (z : Zn) (G H : Hp) : Prop where
  le : Le G H
  g0 : Same z.G0 G
  h0 : ∀ a o, ¬ z.B a → z.H0 a = some o → H a = some o
  al : ∀ a, z.H0 a ≠ none → H a ≠ none
  nt : ∀ a, NT z.H0 a → NT H a
  nw : ∀ a, NT z.H0 a → z.G0 a = none → G a = none
  st : StI z.sa G H
/-- from G, H to G', H': the store alone may have changed -/
structure Ext (sa : Option Addr) (G H G' H' : Hp) : Prop where
  g : Same G G'
  h : ∀ a o, sa ≠ some a → H a = some o → H' a = some o
  le : Le G' H'
  nw : ∀ a, NT H a → G a = none → G' a = none
  st : StI sa G' H'
theorem StI.tracked {G H : Hp} {a : Addr} (h : StI (some a) G H) : H a ≠ none := by
  obtain ⟨_, c, cells, i, r, k, seed, _, e, _⟩ := h
  exact ne_none e
theorem Ext.al {sa : Option Addr} {G H G' H' : Hp} (x : Ext sa G H G' H') {a : Addr} (n : H a ≠ none) : H' a ≠ none := by
  by_cases e : sa = some a
  · have st := x.st
    rw [e] at st
    exact st.tracked
  · obtain ⟨o, ho⟩ := some_of n
    exact ne_none (x.h a o e ho)
theorem Ext.nt {sa : Option Addr} {G H G' H' : Hp} (x : Ext sa G H G' H') {a : Addr} (n : NT H a) : NT H' a := by
  by_cases e : sa = some a
  · have st := x.st
    rw [e] at st
    obtain ⟨_, c, cells, i, r, k, seed, _, e, _⟩ := st
    exact ⟨_, e, rfl⟩
  · obtain ⟨o, ho, q⟩ := n
    exact ⟨o, x.h a o e ho, q⟩
theorem Ext.rfl' {sa : Option Addr} {G H : Hp} (l : Le G H) (s : StI sa G H) : Ext sa G H G H := ⟨fun _ _ e => e, fun _ _ _ e => e, l, fun _ _ n => n, s⟩
theorem Ext.trans {sa : Option Addr} {G H G1 H1 G2 H2 : Hp} (x : Ext sa G H G1 H1) (y : Ext sa G1 H1 G2 H2) : Ext sa G H G2 H2 :=
  ⟨x.g.trans y.g, fun a o n e => y.h a o n (x.h a o n e), y.le, fun a n e => y.nw a (x.nt n) (x.nw a n e), y.st⟩
theorem Bg.ext {z : Zn} {G H G' H' : Hp} (b : Bg z G H) (x : Ext z.sa G H G' H') : Bg z G' H' :=
  ⟨x.le, b.g0.trans x.g, fun a o n e => x.h a o (fun q => n (z.hs a q)) (b.h0 a o n e), fun a n => x.al (b.al a n), fun a n => x.nt (b.nt a n), fun a n e => x.nw a (b.nt a n) (b.nw a n e), x.st⟩
theorem Bg.rfl' {z : Zn} {G H : Hp} (b : Bg z G H) : Ext z.sa G H G H := Ext.rfl' b.le b.st
/-- the store stays what it is where nothing but new things came -/
theorem StI.keep {sa : Option Addr} {G H G' H' : Hp} (s : StI sa G H) (g : Same G G') (h : Same H H') (nw : ∀ a, NT H a → G a = none → G' a = none) : StI sa G' H' := by
  cases sa with
  | none => trivial
  | some a =>
    obtain ⟨n, c, cells, i, r, k, seed, e1, e2, e3⟩ := s
    exact ⟨nw a ⟨_, e2, rfl⟩ n, c, cells, i, r, k, seed, g _ _ e1, h _ _ e2, e3⟩
/-- a pure step -/
theorem Ext.pure {sa : Option Addr} {G H G' H' : Hp} (s : StI sa G H) (x : Ext none G H G' H') : Ext sa G H G' H' :=
  ⟨x.g, fun a o _ e => x.h a o (fun z => by cases z) e, x.le, x.nw, s.keep x.g (fun a o e => x.h a o (fun z => by cases z) e) x.nw⟩
/-- a new object, known for good -/
theorem Ext.new {sa : Option Addr} {G H : Hp} {p : Addr} {o : HO} (l : Le G H) (s : StI sa G H) (n : H p = none) : Ext sa G H (upd G p o) (upd H p o) := by
  have ng : G p = none := by
    cases e : G p with
    | none => rfl
    | some u => have h := l p u e; rw [n] at h; cases h
  have sg : Same G (upd G p o) := fun a u e => by rw [upd_ne (ne_of_none e ng)]; exact e
  have sh : Same H (upd H p o) := fun a u e => by rw [upd_ne (ne_of_none e n)]; exact e
  have nw : ∀ a, NT H a → G a = none → upd G p o a = none := fun a ha ga => by
    rw [upd_ne (fun e => ha.ne (by rw [e]; exact n))]
    exact ga
  refine ⟨sg, fun a u _ e => sh a u e, fun a u e => ?_, nw, s.keep sg sh nw⟩
  by_cases h : a = p
  · subst h
    rw [upd_same] at e ⊢
    exact e
  · rw [upd_ne h] at e ⊢
    exact l a u e
/-- a new object, tracked alone -/
theorem Ext.newH {sa : Option Addr} {G H : Hp} {p : Addr} {o : HO} (l : Le G H) (s : StI sa G H) (n : H p = none) : Ext sa G H G (upd H p o) := by
  have sh : Same H (upd H p o) := fun a u e => by rw [upd_ne (ne_of_none e n)]; exact e
  exact ⟨Same.refl G, fun a u _ e => sh a u e, l.post fun a u _ e => sh a u e, fun _ _ q => q, s.keep (Same.refl G) sh fun _ _ q => q⟩

/-! ### types -/
structure Ty where
  p : V → Hp → Prop
  mono : ∀ {v : V} {G G' : Hp}, Same G G' → p v G → p v G'
def Reps (G : Hp) (vs : List V) (Ts : List Ty) : Prop := Paired (fun (v : V) (T : Ty) => T.p v G) vs Ts
theorem Reps.mono {G G' : Hp} (s : Same G G') : ∀ {vs : List V} {Ts : List Ty}, Reps G vs Ts → Reps G' vs Ts
  | _, _, .nil => .nil
  | _, _, .cons h t => .cons (Ty.mono _ s h) (Reps.mono s t)
theorem Reps.at_ {G : Hp} : ∀ {vs : List V} {Ts : List Ty} {i : Nat} {T : Ty}, Reps G vs Ts → Ts[i]? = some T → ∃ v, vs[i]? = some v ∧ T.p v G
  | _, _, i, _, .nil, e => by simp at e
  | _, _, 0, T, .cons (a := a) h _, e => by
    simp at e
    subst e
    exact ⟨a, by simp, h⟩
  | _, _, i + 1, T, .cons _ t, e => by
    obtain ⟨v, h1, h2⟩ := Reps.at_ (i := i) (T := T) t (by simpa using e)
    exact ⟨v, by simpa using h1, h2⟩
theorem Reps.append {G : Hp} : ∀ {vs ws : List V} {Ts Us : List Ty}, Reps G vs Ts → Reps G ws Us → Reps G (vs ++ ws) (Ts ++ Us)
  | _, _, _, _, .nil, s => s
  | _, _, _, _, .cons r t, s => .cons r (Reps.append t s)
theorem Reps.drop {G : Hp} : ∀ {vs : List V} {Ts : List Ty} (n : Nat), Reps G vs Ts → Reps G (vs.drop n) (Ts.drop n)
  | _, _, 0, r => r
  | _, _, _ + 1, .nil => .nil
  | _, _, n + 1, .cons _ t => Reps.drop n t
theorem Reps.take {G : Hp} : ∀ {vs : List V} {Ts : List Ty} (n : Nat), Reps G vs Ts → Reps G (vs.take n) (Ts.take n)
  | _, _, 0, _ => .nil
  | _, _, _ + 1, .nil => .nil
  | _, _, n + 1, .cons r t => .cons r (Reps.take n t)
theorem Reps.set {G : Hp} {v : V} {T : Ty} (h : T.p v G) : ∀ {vs : List V} {Ts : List Ty} (n : Nat), Reps G vs Ts → Reps G (vs.set n v) (Ts.set n T)
  | _, _, _, .nil => .nil
  | _, _, 0, .cons _ t => .cons h t
  | _, _, n + 1, .cons r t => .cons r (Reps.set h n t)

/-! ### data -/
mutual
inductive Rp (G : Hp) : V → PyData → Prop
  | non : Rp G .non .none
  | bl (b : Bool) : Rp G (.bl b) (.bool b)
  | int (i : Int) : Rp G (.int i) (.int i)
  | str (x : Str) : Rp G (.str x) (.str x)
  | lst {a : Addr} {vs : List V} {ds : List PyData} : G a = some (.lst vs) → Rps G vs ds → Rp G (.ref a) (.list ds)
  | tup {a : Addr} {vs : List V} {ds : List PyData} : G a = some (.tup vs) → Rps G vs ds → Rp G (.ref a) (.tuple ds)
inductive Rps (G : Hp) : List V → List PyData → Prop
  | nil : Rps G [] []
  | cons {v : V} {vs : List V} {d : PyData} {ds : List PyData} : Rp G v d → Rps G vs ds → Rps G (v :: vs) (d :: ds)
end
mutual
theorem Rp.mono {G G' : Hp} (s : Same G G') : ∀ {v : V} {d : PyData}, Rp G v d → Rp G' v d
  | _, _, .non => .non
  | _, _, .bl b => .bl b
  | _, _, .int i => .int i
  | _, _, .str x => .str x
  | _, _, .lst e r => .lst (s _ _ e) (Rps.mono s r)
  | _, _, .tup e r => .tup (s _ _ e) (Rps.mono s r)
theorem Rps.mono {G G' : Hp} (s : Same G G') : ∀ {vs : List V} {ds : List PyData}, Rps G vs ds → Rps G' vs ds
  | _, _, .nil => .nil
  | _, _, .cons h t => .cons (Rp.mono s h) (Rps.mono s t)
end
def dat (d : PyData) : Ty := ⟨fun v G => Rp G v d, fun s h => Rp.mono s h⟩
theorem Rps.reps {G : Hp} : ∀ {vs : List V} {ds : List PyData}, Rps G vs ds → Reps G vs (ds.map dat)
  | _, _, .nil => .nil
  | _, _, .cons h t => .cons h (Rps.reps t)
theorem Reps.rps {G : Hp} : ∀ {vs : List V} {ds : List PyData}, Reps G vs (ds.map dat) → Rps G vs ds
  | [], [], _ => .nil
  | _ :: _, [], h => by cases h
  | [], _ :: _, h => by cases h
  | _ :: _, _ :: _, h => by cases h with | cons r t => exact .cons r (Reps.rps t)
mutual
theorem Rp.dp {K : PySem.W.Frag} {G H : Hp} (l : Le G H) : ∀ {v : V} {d : PyData}, Rp G v d → Dp K H v d
  | _, _, .non => .non
  | _, _, .bl b => .bl b
  | _, _, .int i => .int i
  | _, _, .str x => .str x
  | _, _, .lst e r => .lst (SqL.of (l.at_ e rfl)) (Rps.dp l r)
  | _, _, .tup e r => .tup (SqT.of (l.at_ e rfl)) (Rps.dp l r)
theorem Rps.dp {K : PySem.W.Frag} {G H : Hp} (l : Le G H) : ∀ {vs : List V} {ds : List PyData}, Rps G vs ds → DpAll K H vs ds
  | _, _, .nil => .nil
  | _, _, .cons h t => .cons (Rp.dp l h) (Rps.dp l t)
end
theorem Rp.int_of {G : Hp} {v : V} {i : Int} (h : Rp G v (.int i)) : v = .int i := by cases h; rfl
theorem Rp.str_of {G : Hp} {v : V} {x : Str} (h : Rp G v (.str x)) : v = .str x := by cases h; rfl
theorem Rp.bl_of {G : Hp} {v : V} {b : Bool} (h : Rp G v (.bool b)) : v = .bl b := by cases h; rfl
theorem Rp.non_of {G : Hp} {v : V} (h : Rp G v .none) : v = .non := by cases h; rfl
theorem Rp.lst_of {G : Hp} {v : V} {ds : List PyData} (h : Rp G v (.list ds)) : ∃ a vs, v = .ref a ∧ G a = some (.lst vs) ∧ Rps G vs ds := by
  cases h with | lst e r => exact ⟨_, _, rfl, e, r⟩
theorem Rp.tup_of {G : Hp} {v : V} {ds : List PyData} (h : Rp G v (.tuple ds)) : ∃ a vs, v = .ref a ∧ G a = some (.tup vs) ∧ Rps G vs ds := by
  cases h with | tup e r => exact ⟨_, _, rfl, e, r⟩

/-! ### further types -/
/-- some datum of a kind -/
def tV (P : PyData → Prop) : Ty := ⟨fun v G => ∃ d, P d ∧ Rp G v d, fun s h => let ⟨d, a, b⟩ := h; ⟨d, a, Rp.mono s b⟩⟩
def tEx {ι : Type} (P : ι → Prop) (F : ι → Ty) : Ty := ⟨fun v G => ∃ i, P i ∧ (F i).p v G, fun s h => let ⟨i, a, b⟩ := h; ⟨i, a, (F i).mono s b⟩⟩
def tRaw (u : V) : Ty := ⟨fun v _ => v = u, fun _ h => h⟩
def tAny : Ty := ⟨fun _ _ => True, fun _ h => h⟩
def tL (Ts : List Ty) : Ty := ⟨fun v G => ∃ a vs, v = .ref a ∧ G a = some (.lst vs) ∧ Reps G vs Ts, fun s h => let ⟨a, vs, e, f, r⟩ := h; ⟨a, vs, e, s _ _ f, Reps.mono s r⟩⟩
def tT (Ts : List Ty) : Ty := ⟨fun v G => ∃ a vs, v = .ref a ∧ G a = some (.tup vs) ∧ Reps G vs Ts, fun s h => let ⟨a, vs, e, f, r⟩ := h; ⟨a, vs, e, s _ _ f, Reps.mono s r⟩⟩
/-- the pairs of a dict -/
def Ents {κ : Type} (G : Hp) (kvs : List (κ × V)) (es : List (κ × Ty)) : Prop := Paired (fun (q : κ × V) (e : κ × Ty) => q.1 = e.1 ∧ e.2.p q.2 G) kvs es
theorem Ents.mono {κ : Type} {G G' : Hp} (s : Same G G') : ∀ {kvs : List (κ × V)} {es : List (κ × Ty)}, Ents G kvs es → Ents G' kvs es
  | _, _, .nil => .nil
  | _, _, .cons h t => .cons ⟨h.1, Ty.mono _ s h.2⟩ (Ents.mono s t)
def tDK (es : List (Key × Ty)) : Ty := ⟨fun v G => ∃ a kvs, v = .ref a ∧ G a = some (.dK kvs) ∧ Ents G kvs es, fun s h => let ⟨a, vs, e, f, r⟩ := h; ⟨a, vs, e, s _ _ f, Ents.mono s r⟩⟩
/-- a dict, a walk may hold it -/
def tDR (es : List (Key × Ty)) : Ty := ⟨fun v G => ∃ a kvs, v = .ref a ∧ Rd G a (.dK kvs) ∧ Ents G kvs es, fun s h => let ⟨a, vs, e, f, r⟩ := h; ⟨a, vs, e, Le.rd s f, Ents.mono s r⟩⟩
theorem tDK_rd {v : V} {G : Hp} {es : List (Key × Ty)} (h : (tDK es).p v G) : (tDR es).p v G := let ⟨a, vs, e, f, r⟩ := h; ⟨a, vs, e, .inl f, r⟩
def tDT (es : List (List Key × Ty)) : Ty := ⟨fun v G => ∃ a kvs, v = .ref a ∧ G a = some (.dT kvs) ∧ Ents G kvs es, fun s h => let ⟨a, vs, e, f, r⟩ := h; ⟨a, vs, e, s _ _ f, Ents.mono s r⟩⟩
/-- an instance: its class, what it holds -/
def tOb (C : Addr) (fs : List (Str × Ty)) : Ty := ⟨fun v G => ∃ a dx gs, v = .ref a ∧ G a = some (.ins C dx gs) ∧ Ents G gs fs, fun s h => let ⟨a, dx, vs, e, f, r⟩ := h; ⟨a, dx, vs, e, s _ _ f, Ents.mono s r⟩⟩
theorem dat_list {v : V} {G : Hp} {ds : List PyData} : (dat (.list ds)).p v G ↔ (tL (ds.map dat)).p v G :=
  ⟨fun h => let ⟨a, vs, e, f, r⟩ := Rp.lst_of h; ⟨a, vs, e, f, r.reps⟩, fun h => by
    obtain ⟨a, vs, rfl, f, r⟩ := h
    exact .lst f r.rps⟩
theorem dat_tuple {v : V} {G : Hp} {ds : List PyData} : (dat (.tuple ds)).p v G ↔ (tT (ds.map dat)).p v G :=
  ⟨fun h => let ⟨a, vs, e, f, r⟩ := Rp.tup_of h; ⟨a, vs, e, f, r.reps⟩, fun h => by
    obtain ⟨a, vs, rfl, f, r⟩ := h
    exact .tup f r.rps⟩

/-! ### slots -/
structure RepS (G : Hp) (σ : L2.St) (δ : List (Option Ty)) : Prop where
  len : σ.length = δ.length
  at_ : ∀ (i : Nat) (T : Ty), δ[i]? = some (some T) → ∃ v, σ[i]? = some (some v) ∧ T.p v G
theorem RepS.mono {G G' : Hp} {σ : L2.St} {δ : List (Option Ty)} (s : Same G G') (r : RepS G σ δ) : RepS G' σ δ :=
  ⟨r.len, fun i T e => let ⟨v, a, b⟩ := r.at_ i T e; ⟨v, a, T.mono s b⟩⟩
theorem RepS.set {G : Hp} {σ : L2.St} {δ : List (Option Ty)} {v : V} {T : Ty} (r : RepS G σ δ) (h : T.p v G) (j : Nat) : RepS G (σ.set j (some v)) (δ.set j (some T)) := by
  refine ⟨by rw [List.length_set, List.length_set]; exact r.len, fun i U e => ?_⟩
  by_cases q : j = i
  · subst q
    have hl : j < δ.length := by
      rcases Nat.lt_or_ge j δ.length with h | h
      · exact h
      · rw [List.getElem?_eq_none (by rw [List.length_set]; exact h)] at e
        cases e
    rw [List.getElem?_set_self hl] at e
    cases e
    exact ⟨v, by rw [List.getElem?_set_self (by rw [r.len]; exact hl)], h⟩
  · rw [List.getElem?_set_ne q] at e ⊢
    exact r.at_ i U e
theorem RepS.setN {G : Hp} {σ : L2.St} {δ : List (Option Ty)} {o : Option V} (r : RepS G σ δ) (j : Nat) : RepS G (σ.set j o) (δ.set j none) := by
  refine ⟨by rw [List.length_set, List.length_set]; exact r.len, fun i U e => ?_⟩
  by_cases q : j = i
  · subst q
    rcases Nat.lt_or_ge j δ.length with h | h
    · rw [List.getElem?_set_self h] at e
      cases e
    · rw [List.getElem?_eq_none (by rw [List.length_set]; exact h)] at e
      cases e
  · rw [List.getElem?_set_ne q] at e ⊢
    exact r.at_ i U e
/-- fewer slots known -/
def Wk (δ δ' : List (Option Ty)) : Prop := δ.length = δ'.length ∧ ∀ (i : Nat) (T : Ty), δ'[i]? = some (some T) → δ[i]? = some (some T)
theorem RepS.weak {G : Hp} {σ : L2.St} {δ δ' : List (Option Ty)} (r : RepS G σ δ) (w : Wk δ δ') : RepS G σ δ' := ⟨r.len.trans w.1, fun i T e => r.at_ i T (w.2 i T e)⟩
theorem Wk.rfl' (δ : List (Option Ty)) : Wk δ δ := ⟨rfl, fun _ _ e => e⟩
theorem Wk.nil : Wk [] [] := Wk.rfl' []
theorem Wk.cons {o : Option Ty} {δ δ' : List (Option Ty)} (w : Wk δ δ') : Wk (o :: δ) (o :: δ') := ⟨congrArg Nat.succ w.1, fun i T e => by
  cases i with
  | zero => exact e
  | succ i => exact w.2 i T e⟩
theorem Wk.no {o : Option Ty} {δ δ' : List (Option Ty)} (w : Wk δ δ') : Wk (o :: δ) (none :: δ') := ⟨congrArg Nat.succ w.1, fun i T e => by
  cases i with
  | zero => cases e
  | succ i => exact w.2 i T e⟩
def wipeT (δ : List (Option Ty)) : List Nat → List (Option Ty)
  | [] => δ
  | v :: vs => (wipeT δ vs).set v none
theorem RepS.wipe {G : Hp} {σ : L2.St} {δ : List (Option Ty)} (r : RepS G σ δ) : ∀ vs : List Nat, RepS G (wipe σ vs) (wipeT δ vs)
  | [] => r
  | v :: vs => (RepS.wipe r vs).setN v

/-! ### what is wanted of a piece of syntax: the weakest reading -/
section
variable {X : Cx}
def tW (X : Cx) (e : Expr) : TE := fun σ H Q => ∀ (pins : List (Addr × Obj)) (s : Shared), Inv X pins σ H s → wpAny (model X.prog X.w) X.A (eval e X.env) (EP X pins σ Q) X.xe s
def tWT (X : Cx) (e : Expr) : TT := fun σ H Q => ∀ (pins : List (Addr × Obj)) (s : Shared), Inv X pins σ H s → wpAny (model X.prog X.w) X.A (isTrue e X.env (eval e X.env)) (TP X pins σ Q) X.xe s
def tWW (X : Cx) (e : Expr) : TT := fun σ H Q => ∀ (whole : Sem Value) (pins : List (Addr × Obj)) (s : Shared), Inv X pins σ H s → wpAny (model X.prog X.w) X.A (isTrue e X.env whole) (TP X pins σ Q) X.xe s
def tWA (X : Cx) (es : List Expr) : TA := fun σ H Q => ∀ (pos : Pos) (pins : List (Addr × Obj)) (s : Shared), Inv X pins σ H s → wpAny (model X.prog X.w) X.A (spliced (backTo pos (starEach es X.env))) (AP X pins σ Q) X.xe s
def tWs (X : Cx) (sts : List Stmt) : TS := fun D σ H => ∀ (pins : List (Addr × Obj)) (s : Shared), Inv X pins σ H s → wpAny (model X.prog X.w) X.A (execs sts X.env) (SP X pins D) X.xe s
def tW1 (X : Cx) (st : Stmt) : TS := fun D σ H => ∀ (pins : List (Addr × Obj)) (s : Shared), Inv X pins σ H s → wpAny (model X.prog X.w) X.A (exec st X.env) (SP X pins D) X.xe s
theorem pe_w {e : Expr} : PE X e (tW X e) := ⟨fun pins s _ _ _ I h => h pins s I⟩
theorem pt_w {e : Expr} : PT X e (tWT X e) := ⟨fun pins s _ _ _ I h => h pins s I⟩
theorem pw_w {e : Expr} : PW X e (tWW X e) := ⟨fun whole pins s _ _ _ I h => h whole pins s I⟩
theorem pa_w {es : List Expr} : PA X es (tWA X es) := ⟨fun pos pins s _ _ _ I h => h pos pins s I⟩
theorem pss_w {sts : List Stmt} : PSs X sts (tWs X sts) := ⟨fun pins s _ _ _ I h => h pins s I⟩
theorem ps_w {st : Stmt} : PS X st (tW1 X st) := ⟨fun pins s _ _ _ I h => h pins s I⟩
theorem w_pe {e : Expr} {t : TE} (h : PE X e t) {σ : L2.St} {H : Hp} {Q : VK} (q : t σ H Q) : tW X e σ H Q := fun pins s I => h.run pins s σ H Q I q
theorem w_pt {e : Expr} {t : TT} (h : PT X e t) {σ : L2.St} {H : Hp} {Q : Bool → Hp → Prop} (q : t σ H Q) : tWT X e σ H Q := fun pins s I => h.run pins s σ H Q I q
theorem w_pw {e : Expr} {t : TT} (h : PW X e t) {σ : L2.St} {H : Hp} {Q : Bool → Hp → Prop} (q : t σ H Q) : tWW X e σ H Q := fun whole pins s I => h.run whole pins s σ H Q I q
theorem w_pa {es : List Expr} {t : TA} (h : PA X es t) {σ : L2.St} {H : Hp} {Q : List V → Hp → Prop} (q : t σ H Q) : tWA X es σ H Q := fun pos pins s I => h.run pos pins s σ H Q I q
theorem w_pss {sts : List Stmt} {t : TS} (h : PSs X sts t) {σ : L2.St} {H : Hp} {D : Ends} (q : t D σ H) : tWs X sts D σ H := fun pins s I => h.run pins s σ H D I q
theorem w_ps {st : Stmt} {t : TS} (h : PS X st t) {σ : L2.St} {H : Hp} {D : Ends} (q : t D σ H) : tW1 X st D σ H := fun pins s I => h.run pins s σ H D I q

/-! ### the judgements -/
/-- e gives a value of the type T -/
def EvD (X : Cx) (z : Zn) (δ : List (Option Ty)) (e : Expr) (T : Ty) : Prop := ∀ (G H : Hp) (σ : L2.St), Bg z G H → RepS G σ δ → ∀ Q : VK, (∀ v G' H', Ext z.sa G H G' H' → T.p v G' → Q v H') → tW X e σ H Q
/-- a test's answer is one of P -/
def EvB (X : Cx) (z : Zn) (δ : List (Option Ty)) (e : Expr) (P : Bool → Prop) : Prop := ∀ (G H : Hp) (σ : L2.St), Bg z G H → RepS G σ δ → ∀ Q : Bool → Hp → Prop, (∀ b G' H', Ext z.sa G H G' H' → P b → Q b H') → tWT X e σ H Q
def EvW (X : Cx) (z : Zn) (δ : List (Option Ty)) (e : Expr) (P : Bool → Prop) : Prop := ∀ (G H : Hp) (σ : L2.St), Bg z G H → RepS G σ δ → ∀ Q : Bool → Hp → Prop, (∀ b G' H', Ext z.sa G H G' H' → P b → Q b H') → tWW X e σ H Q
/-- arguments -/
def EvA (X : Cx) (z : Zn) (δ : List (Option Ty)) (es : List Expr) (Ts : List Ty) : Prop := ∀ (G H : Hp) (σ : L2.St), Bg z G H → RepS G σ δ → ∀ Q : List V → Hp → Prop, (∀ vs G' H', Ext z.sa G H G' H' → Reps G' vs Ts → Q vs H') → tWA X es σ H Q
variable {z : Zn} {δ : List (Option Ty)} {a b e : Expr} {es : List Expr} {pos : Pos}
theorem EvD.imp {T U : Ty} (h : EvD X z δ e T) (f : ∀ v G, T.p v G → U.p v G) : EvD X z δ e U := fun G H σ bg r Q q => h G H σ bg r Q fun v G' H' x t => q v G' H' x (f v G' t)
theorem EvB.imp {P R : Bool → Prop} (h : EvB X z δ e P) (f : ∀ b, P b → R b) : EvB X z δ e R := fun G H σ bg r Q q => h G H σ bg r Q fun v G' H' x t => q v G' H' x (f v t)
theorem ea_nil : EvA X z δ [] [] := fun G H σ bg _ Q q => w_pa pa_nil (q [] G H bg.rfl' .nil)
theorem ea_cons {T : Ty} {Ts : List Ty} (h : EvD X z δ e T) (hs : EvA X z δ es Ts) (hst : starEach (e :: es) X.env = (false, eval e X.env) :: starEach es X.env := by rfl) : EvA X z δ (e :: es) (T :: Ts) := fun G H σ bg r Q q =>
  w_pa (pa_cons pe_w pa_w hst) (h G H σ bg r _ fun v G1 H1 x t => hs G1 H1 σ (bg.ext x) (r.mono x.g) _ fun vs G2 H2 y ts => q _ G2 H2 (x.trans y) (.cons (T.mono y.g t) ts))
end
end Z
end
section
set_option maxRecDepth 100000
set_option maxHeartbeats 4000000
/-! Z1: rules of expressions, by types. -/
namespace Z
open PySem PySem.Spec PyProof.Rows L2

/-! ### a two-place operation, a call, a method, by types -/
def R2T (sa : Option Addr) (r : R2) (T U W : Ty) : Prop := ∀ (x y : V) (G H : Hp), Le G H → StI sa G H → T.p x G → U.p y G → ∀ Q : VK, (∀ v G' H', Ext sa G H G' H' → W.p v G' → Q v H') → r x y H Q
def RCT (sa : Option Addr) (r : List V → Hp → VK → Prop) (Ts : List Ty) (W : Ty) : Prop := ∀ (xs : List V) (G H : Hp), Le G H → StI sa G H → Reps G xs Ts → ∀ Q : VK, (∀ v G' H', Ext sa G H G' H' → W.p v G' → Q v H') → r xs H Q
theorem R2T.ex2 {ι : Type} {sa : Option Addr} {r : R2} {T W : Ty} {P : ι → Prop} {F : ι → Ty} (h : ∀ i, P i → R2T sa r T (F i) W) : R2T sa r T (tEx P F) W := fun x y G H l s t u Q q => by
  obtain ⟨i, p, u⟩ := u
  exact h i p x y G H l s t u Q q
theorem R2T.ex1 {ι : Type} {sa : Option Addr} {r : R2} {U W : Ty} {P : ι → Prop} {F : ι → Ty} (h : ∀ i, P i → R2T sa r (F i) U W) : R2T sa r (tEx P F) U W := fun x y G H l s t u Q q => by
  obtain ⟨i, p, t⟩ := t
  exact h i p x y G H l s t u Q q
theorem R2T.to {ι : Type} {sa : Option Addr} {r : R2} {T U : Ty} {P : ι → Prop} {F : ι → Ty} (i : ι) (p : P i) (h : R2T sa r T U (F i)) : R2T sa r T U (tEx P F) := fun x y G H l s t u Q q =>
  h x y G H l s t u Q fun v G' H' e w => q v G' H' e ⟨i, p, w⟩
/-- a value without a new object -/
theorem R2T.val {sa : Option Addr} {r : R2} {T U W : Ty} (h : ∀ (x y : V) (G H : Hp) (Q : VK), Le G H → T.p x G → U.p y G → (∀ v, W.p v G → Q v H) → r x y H Q) : R2T sa r T U W := fun x y G H l s t u Q q =>
  h x y G H Q l t u fun v w => q v G H (Ext.rfl' l s) w

section
variable {X : Cx} {z : Zn} {δ : List (Option Ty)} {a b c e : Expr} {es : List Expr} {pos : Pos} {k : Nat} {T U W : Ty}

/-! ### names, constants -/
theorem ev_var (i : Nat) {x : Str} (h : δ[i]? = some (some T) := by rfl) (hN : X.N[i]? = some x := by rfl) (hv : Vis X.env.scope x := by first | exact Or.inl rfl | exact Or.inr (Or.inl rfl) | exact Or.inr (Or.inr rfl))
    (hd : (x == ("__debug__" : Str)) = false := by decide) (hcd : (x == ("__classdict__" : Str)) = false := by decide) : EvD X z δ (.Name x pos) T := fun G H σ bg r Q q =>
  let ⟨v, e, t⟩ := r.at_ i T h
  w_pe (pe_var hN hv hd hcd) ⟨v, e, q v G H bg.rfl' t⟩
theorem ev_int {i : Int} {j} : EvD X z δ (.Constant (.int i) j pos) (dat (.int i)) := fun G H σ bg r Q q => w_pe pe_int (q _ G H bg.rfl' (.int i))
theorem ev_bl {i : Bool} {j} : EvD X z δ (.Constant (.bool i) j pos) (dat (.bool i)) := fun G H σ bg r Q q => w_pe pe_bl (q _ G H bg.rfl' (.bl i))
theorem ev_non {j} : EvD X z δ (.Constant .none j pos) (dat .none) := fun G H σ bg r Q q => w_pe pe_non (q _ G H bg.rfl' .non)
theorem ev_str {x : Str} {j} : EvD X z δ (.Constant (.str x) j pos) (dat (.str x)) := fun G H σ bg r Q q => w_pe pe_str (q _ G H bg.rfl' (.str x))
/-- a constant of the module -/
theorem ev_gint {x : Str} {i : Int} (hm : ∃ t, X.mg x = some (.int i t)) (hg : Gl X x := by rfl) (hd : (x == ("__debug__" : Str)) = false := by decide) : EvD X z δ (.Name x pos) (dat (.int i)) := fun G H σ bg r Q q => by
  obtain ⟨t, hm⟩ := hm
  exact w_pe (pe_glob (v := .int i) hg hm ⟨t, rfl⟩ hd) (q _ G H bg.rfl' (.int i))
theorem ev_gstr {x y : Str} (hm : ∃ t, X.mg x = some (.str y t)) (hg : Gl X x := by rfl) (hd : (x == ("__debug__" : Str)) = false := by decide) : EvD X z δ (.Name x pos) (dat (.str y)) := fun G H σ bg r Q q => by
  obtain ⟨t, hm⟩ := hm
  exact w_pe (pe_glob (v := .str y) hg hm ⟨t, rfl⟩ hd) (q _ G H bg.rfl' (.str y))
/-- a class of the module, of the built-ins -/
theorem ev_gref {x : Str} {C : Addr} (hm : X.mg x = some (.ref C)) (hg : Gl X x := by rfl) (hd : (x == ("__debug__" : Str)) = false := by decide) : EvD X z δ (.Name x pos) (tRaw (.ref C)) := fun G H σ bg r Q q =>
  w_pe (pe_glob (v := .ref C) hg hm rfl hd) (q _ G H bg.rfl' rfl)
theorem ev_ty {x : Str} {n : String} (hm : X.mg x = none) (hv : bootBuiltins x = some (.type n)) (hg : Gl X x := by rfl) (hn : x ≠ "__name__" := by decide) (hd : (x == ("__debug__" : Str)) = false := by decide) : EvD X z δ (.Name x pos) (tRaw (.ty n)) := fun G H σ bg r Q q =>
  w_pe (pe_bltn (v := .ty n) hg hm hv rfl hn hd) (q _ G H bg.rfl' rfl)

/-! ### operators, comparisons -/
theorem ev_op {op : Operator} {r : R2} (ho : OpR X (binaryOp op) r) (ht : R2T z.sa r T U W) (ha : EvD X z δ a T) (hb : EvD X z δ b U) : EvD X z δ (.BinOp a op b pos) W := fun G H σ bg rs Q q =>
  w_pe (pe_op ho pe_w pe_w) (ha G H σ bg rs _ fun x G1 H1 e1 t => hb G1 H1 σ (bg.ext e1) (rs.mono e1.g) _ fun y G2 H2 e2 u =>
    ht x y G2 H2 e2.le e2.st (T.mono e2.g t) u Q fun v G3 H3 e3 w => q v G3 H3 ((e1.trans e2).trans e3) w)
theorem ev_cmp {op : CmpOp} {r : R2} (ho : OpR X (compareOp op) r) (ht : R2T z.sa r T U W) (ha : EvD X z δ a T) (hb : EvD X z δ b U) (hm : behindInMarks op b = false := by first | exact nomark _ | rfl) : EvD X z δ (.Compare a [op] [b] pos) W := fun G H σ bg rs Q q =>
  w_pe (pe_cmpR ho pe_w pe_w hm) (ha G H σ bg rs _ fun x G1 H1 e1 t => hb G1 H1 σ (bg.ext e1) (rs.mono e1.g) _ fun y G2 H2 e2 u =>
    ht x y G2 H2 e2.le e2.st (T.mono e2.g t) u Q fun v G3 H3 e3 w => q v G3 H3 ((e1.trans e2).trans e3) w)
theorem ev_chain {op op' : CmpOp} {r r' : R2} {T3 : Ty} {p : Bool} {p' : Bool} (ho : OpR X (compareOp op) r) (ho' : OpR X (compareOp op') r') (ht : R2T z.sa r T U (dat (.bool p))) (ht' : p = true → R2T z.sa r' U T3 (dat (.bool p'))) (ha : EvD X z δ a T) (hb : EvD X z δ b U) (hc : EvD X z δ c T3)
    (hm : lastMarks [op, op'] [b, c] = false := by rfl) : EvD X z δ (.Compare a [op, op'] [b, c] pos) (dat (.bool (p && p'))) := fun G H σ bg rs Q q =>
  w_pe (pe_chain ho ho' pe_w pe_w pe_w hm) (ha G H σ bg rs _ fun x G1 H1 e1 t => hb G1 H1 σ (bg.ext e1) (rs.mono e1.g) _ fun y G2 H2 e2 u =>
    ht x y G2 H2 e2.le e2.st (T.mono e2.g t) u _ fun v G3 H3 e3 w => by
      have e13 := (e1.trans e2).trans e3
      refine ⟨p, w.bl_of, ?_⟩
      cases p with
      | false => exact iteF (q _ G3 H3 e13 (.bl false))
      | true => exact iteT (hc G3 H3 σ (bg.ext e13) (rs.mono e13.g) _ fun y2 G4 H4 e4 t4 => ht' rfl y y2 G4 H4 e4.le e4.st (U.mono (e3.trans e4).g u) t4 Q fun v5 G5 H5 e5 w5 => q v5 G5 H5 ((e13.trans e4).trans e5) w5))
/-- a value that is a bool, as a test -/
theorem eb_val {p : Bool} (h : EvD X z δ e (dat (.bool p))) (he : ∀ whole, isTrue e X.env whole = (do let v ← whole; standAt e.pos; holding [v] (truthy v)) := by intro _; rfl) : EvB X z δ e (fun c => c = p) := fun G H σ bg rs Q q =>
  w_pt (pt_val pe_w he) (h G H σ bg rs _ fun v G1 H1 e1 t => ⟨p, t.bl_of, q p G1 H1 e1 rfl⟩)
theorem eb_valE {P : Bool → Prop} (h : EvD X z δ e (tEx P fun c => dat (.bool c))) (he : ∀ whole, isTrue e X.env whole = (do let v ← whole; standAt e.pos; holding [v] (truthy v)) := by intro _; rfl) : EvB X z δ e P := fun G H σ bg rs Q q =>
  w_pt (pt_val pe_w he) (h G H σ bg rs _ fun v G1 H1 e1 t => by
    obtain ⟨c, hc, t⟩ := t
    exact ⟨c, t.bl_of, q c G1 H1 e1 hc⟩)
theorem eb_cmp {op : CmpOp} {r : R2} {p : Bool} (ho : OpR X (compareOp op) r) (ht : R2T z.sa r T U (dat (.bool p))) (ha : EvD X z δ a T) (hb : EvD X z δ b U) (hm : behindInMarks op b = false := by first | exact nomark _ | rfl) : EvB X z δ (.Compare a [op] [b] pos) (fun c => c = p) := fun G H σ bg rs Q q =>
  w_pt (pt_cmpR ho pe_w pe_w hm) (ha G H σ bg rs _ fun x G1 H1 e1 t => hb G1 H1 σ (bg.ext e1) (rs.mono e1.g) _ fun y G2 H2 e2 u =>
    ht x y G2 H2 e2.le e2.st (T.mono e2.g t) u _ fun v G3 H3 e3 w => ⟨p, w.bl_of, q p G3 H3 ((e1.trans e2).trans e3) rfl⟩)
theorem eb_cmpE {op : CmpOp} {r : R2} {P : Bool → Prop} (ho : OpR X (compareOp op) r) (ht : R2T z.sa r T U (tEx P fun c => dat (.bool c))) (ha : EvD X z δ a T) (hb : EvD X z δ b U) (hm : behindInMarks op b = false := by first | exact nomark _ | rfl) : EvB X z δ (.Compare a [op] [b] pos) P := fun G H σ bg rs Q q =>
  w_pt (pt_cmpR ho pe_w pe_w hm) (ha G H σ bg rs _ fun x G1 H1 e1 t => hb G1 H1 σ (bg.ext e1) (rs.mono e1.g) _ fun y G2 H2 e2 u =>
    ht x y G2 H2 e2.le e2.st (T.mono e2.g t) u _ fun v G3 H3 e3 w => by
      obtain ⟨c, hc, w⟩ := w
      exact ⟨c, w.bl_of, q c G3 H3 ((e1.trans e2).trans e3) hc⟩)

/-! ### and, or, not; if as an expression -/
theorem ev_one {op} (h : EvD X z δ a T) : EvD X z δ (.BoolOp op [a] pos) T := fun G H σ bg rs Q q => w_pe (pe_one pe_w) (h G H σ bg rs Q q)
theorem ev_and {rest : List Expr} {p q' : Bool} (ha : EvD X z δ a (dat (.bool p))) (hb : p = true → EvD X z δ (.BoolOp .And (b :: rest) pos) (dat (.bool q'))) : EvD X z δ (.BoolOp .And (a :: b :: rest) pos) (dat (.bool (p && q'))) := fun G H σ bg rs Q q =>
  w_pe (pe_and pe_w pe_w) (ha G H σ bg rs _ fun v G1 H1 e1 t => ⟨p, t.bl_of, by
    cases p with
    | false => exact iteF (q _ G1 H1 e1 (.bl false))
    | true => exact iteT (hb rfl G1 H1 σ (bg.ext e1) (rs.mono e1.g) _ fun v2 G2 H2 e2 t2 => q v2 G2 H2 (e1.trans e2) t2)⟩)
theorem ev_or {rest : List Expr} {p q' : Bool} (ha : EvD X z δ a (dat (.bool p))) (hb : p = false → EvD X z δ (.BoolOp .Or (b :: rest) pos) (dat (.bool q'))) : EvD X z δ (.BoolOp .Or (a :: b :: rest) pos) (dat (.bool (p || q'))) := fun G H σ bg rs Q q =>
  w_pe (pe_or pe_w pe_w) (ha G H σ bg rs _ fun v G1 H1 e1 t => ⟨p, t.bl_of, by
    cases p with
    | true => exact iteT (q _ G1 H1 e1 (.bl true))
    | false => exact iteF (hb rfl G1 H1 σ (bg.ext e1) (rs.mono e1.g) _ fun v2 G2 H2 e2 t2 => q v2 G2 H2 (e1.trans e2) t2)⟩)
theorem ev_not {p : Bool} (ha : EvD X z δ a (dat (.bool p))) : EvD X z δ (.UnaryOp .Not a pos) (dat (.bool (!p))) := fun G H σ bg rs Q q =>
  w_pe (pe_not pe_w) (ha G H σ bg rs _ fun v G1 H1 e1 t => ⟨p, t.bl_of, q _ G1 H1 e1 (.bl _)⟩)
theorem ev_ifT (hc : EvB X z δ c (fun b => b = true)) (ha : EvD X z δ a T) : EvD X z δ (.IfExp c a b pos) T := fun G H σ bg rs Q q =>
  w_pe (pe_ifExp pt_w pe_w pe_w) (hc G H σ bg rs _ fun d G1 H1 e1 hd => by
    subst hd
    exact iteT (ha G1 H1 σ (bg.ext e1) (rs.mono e1.g) _ fun v2 G2 H2 e2 t2 => q v2 G2 H2 (e1.trans e2) t2))
theorem ev_ifF (hc : EvB X z δ c (fun b => b = false)) (hb : EvD X z δ b T) : EvD X z δ (.IfExp c a b pos) T := fun G H σ bg rs Q q =>
  w_pe (pe_ifExp pt_w pe_w pe_w) (hc G H σ bg rs _ fun d G1 H1 e1 hd => by
    subst hd
    exact iteF (hb G1 H1 σ (bg.ext e1) (rs.mono e1.g) _ fun v2 G2 H2 e2 t2 => q v2 G2 H2 (e1.trans e2) t2))
theorem eb_not {P : Bool → Prop} (h : EvB X z δ a P) : EvB X z δ (.UnaryOp .Not a pos) (fun c => P (!c)) := fun G H σ bg rs Q q =>
  w_pt (pt_not pt_w) (h G H σ bg rs _ fun d G1 H1 e1 hd => q (!d) G1 H1 e1 (by show P (!(!d)); rw [Bool.not_not]; exact hd))
theorem eb_notV {p : Bool} (h : EvB X z δ a (fun c => c = p)) : EvB X z δ (.UnaryOp .Not a pos) (fun c => c = !p) := (eb_not h).imp fun b hb => by rw [← hb, Bool.not_not]
theorem ew_and1 {P : Bool → Prop} (h : EvB X z δ a P) : EvW X z δ (.BoolOp .And [a] pos) P := fun G H σ bg rs Q q => w_pw (pw_and1 pt_w) (h G H σ bg rs Q q)
theorem ew_or1 {P : Bool → Prop} (h : EvB X z δ a P) : EvW X z δ (.BoolOp .Or [a] pos) P := fun G H σ bg rs Q q => w_pw (pw_or1 pt_w) (h G H σ bg rs Q q)
theorem ew_and {rest : List Expr} {p q' : Bool} (ha : EvB X z δ a (fun c => c = p)) (hb : p = true → EvW X z δ (.BoolOp .And (b :: rest) pos) (fun c => c = q')) : EvW X z δ (.BoolOp .And (a :: b :: rest) pos) (fun c => c = (p && q')) := fun G H σ bg rs Q q =>
  w_pw (pw_and pt_w pw_w) (ha G H σ bg rs _ fun d G1 H1 e1 hd => by
    subst hd
    cases d with
    | false => exact iteF (q _ G1 H1 e1 rfl)
    | true => exact iteT (hb rfl G1 H1 σ (bg.ext e1) (rs.mono e1.g) _ fun v2 G2 H2 e2 t2 => q v2 G2 H2 (e1.trans e2) t2))
theorem ew_or {rest : List Expr} {p q' : Bool} (ha : EvB X z δ a (fun c => c = p)) (hb : p = false → EvW X z δ (.BoolOp .Or (b :: rest) pos) (fun c => c = q')) : EvW X z δ (.BoolOp .Or (a :: b :: rest) pos) (fun c => c = (p || q')) := fun G H σ bg rs Q q =>
  w_pw (pw_or pt_w pw_w) (ha G H σ bg rs _ fun d G1 H1 e1 hd => by
    subst hd
    cases d with
    | true => exact iteT (q _ G1 H1 e1 rfl)
    | false => exact iteF (hb rfl G1 H1 σ (bg.ext e1) (rs.mono e1.g) _ fun v2 G2 H2 e2 t2 => q v2 G2 H2 (e1.trans e2) t2))
/-- with the first known, the second any -/
theorem ew_andE {rest : List Expr} {P R : Bool → Prop} (ha : EvB X z δ a P) (h0 : P false → R false) (hb : P true → EvW X z δ (.BoolOp .And (b :: rest) pos) R) : EvW X z δ (.BoolOp .And (a :: b :: rest) pos) R := fun G H σ bg rs Q q =>
  w_pw (pw_and pt_w pw_w) (ha G H σ bg rs _ fun d G1 H1 e1 hd => by
    cases d with
    | false => exact iteF (q _ G1 H1 e1 (h0 hd))
    | true => exact iteT (hb hd G1 H1 σ (bg.ext e1) (rs.mono e1.g) _ fun v2 G2 H2 e2 t2 => q v2 G2 H2 (e1.trans e2) t2))
theorem EvW.eb {P : Bool → Prop} (h : EvW X z δ e P) : EvB X z δ e P := fun G H σ bg rs Q q => w_pt (PW.pt pw_w) (h G H σ bg rs Q q)

/-! ### displays -/
theorem ev_tup {x1} {Ts : List Ty} (h : EvA X z δ es Ts) (hl : Ts.length ≤ 1000) : EvD X z δ (.Tuple es x1 pos) (tT Ts) := fun G H σ bg rs Q q =>
  w_pe (pe_tup pa_w) (h G H σ bg rs _ fun vs G1 H1 e1 t => ⟨Nat.le_trans (by rw [Paired.length t]; exact hl) (Nat.le_of_lt (small1000 (Nat.le_refl _))), fun p hp =>
    have n := Ext.new (sa := z.sa) (o := .tup vs) e1.le e1.st hp
    q _ _ _ (e1.trans n) ⟨p, vs, rfl, upd_same, t.mono n.g⟩⟩)
theorem ev_lst {Ts : List Ty} (h : EvA X z δ es Ts) (hl : Ts.length ≤ 1000) : EvD X z δ (.List es pos) (tL Ts) := fun G H σ bg rs Q q =>
  w_pe (pe_lst pa_w) (h G H σ bg rs _ fun vs G1 H1 e1 t => ⟨Nat.le_trans (by rw [Paired.length t]; exact hl) (Nat.le_of_lt (small1000 (Nat.le_refl _))), fun p hp =>
    have n := Ext.new (sa := z.sa) (o := .lst vs) e1.le e1.st hp
    q _ _ _ (e1.trans n) ⟨p, vs, rfl, upd_same, t.mono n.g⟩⟩)
theorem ev_tupD {x1} {ds : List PyData} (h : EvA X z δ es (ds.map dat)) (hl : ds.length ≤ 1000) : EvD X z δ (.Tuple es x1 pos) (dat (.tuple ds)) := (ev_tup h (by rw [List.length_map]; exact hl)).imp fun _ _ => dat_tuple.mpr
theorem ev_lstD {ds : List PyData} (h : EvA X z δ es (ds.map dat)) (hl : ds.length ≤ 1000) : EvD X z δ (.List es pos) (dat (.list ds)) := (ev_lst h (by rw [List.length_map]; exact hl)).imp fun _ _ => dat_list.mpr
theorem EvD.toL {ds : List PyData} (h : EvD X z δ e (dat (.list ds))) : EvD X z δ e (tL (ds.map dat)) := h.imp fun _ _ => dat_list.mp
theorem EvD.toT {ds : List PyData} (h : EvD X z δ e (dat (.tuple ds))) : EvD X z δ e (tT (ds.map dat)) := h.imp fun _ _ => dat_tuple.mp
theorem EvD.ofL {ds : List PyData} (h : EvD X z δ e (tL (ds.map dat))) : EvD X z δ e (dat (.list ds)) := h.imp fun _ _ => dat_list.mpr
theorem EvD.ofT {ds : List PyData} (h : EvD X z δ e (tT (ds.map dat))) : EvD X z δ e (dat (.tuple ds)) := h.imp fun _ _ => dat_tuple.mpr

/-! ### subscripts, slices -/
theorem ev_ix {r : R2} (hr : IxR X r) (ht : R2T z.sa r T U W) (ha : EvD X z δ a T) (hb : EvD X z δ b U) (hs : PlainIx b := by exact fun _ _ => rfl) : EvD X z δ (.Subscript a b pos) W := fun G H σ bg rs Q q =>
  w_pe (pe_ix hr pe_w pe_w hs) (ha G H σ bg rs _ fun x G1 H1 e1 t => hb G1 H1 σ (bg.ext e1) (rs.mono e1.g) _ fun y G2 H2 e2 u =>
    ht x y G2 H2 e2.le e2.st (T.mono e2.g t) u Q fun v G3 H3 e3 w => q v G3 H3 ((e1.trans e2).trans e3) w)
theorem atI_map {α β : Type} {F : α → β → Prop} {xs : List α} {ys : List β} {i : Int} {y : β} (hl : xs.length = ys.length) (h : atI ys i = some y) (hp : ∀ (j : Nat) (y : β), ys[j]? = some y → ∃ x, xs[j]? = some x ∧ F x y) : ∃ x, atI xs i = some x ∧ F x y := by
  unfold atI at h ⊢
  rw [hl]
  cases e : ixN ys.length i with
  | none => rw [e] at h; cases h
  | some j =>
    rw [e] at h
    exact hp j y h
theorem r2_ixL {K : PySem.W.Frag} {sa : Option Addr} {Ts : List Ty} {i : Int} {T : Ty} (h : atI Ts i = some T) : R2T sa (rIxL K) (tL Ts) (dat (.int i)) T := R2T.val fun x y G H Q l t u q => by
  obtain ⟨a, vs, rfl, ea, r⟩ := t
  obtain ⟨v, hv, tv⟩ := atI_map (F := fun v (T : Ty) => T.p v G) (Paired.length r) h fun j y e => r.at_ e
  exact ⟨a, vs, i, v, rfl, Rp.int_of u, SqL.of (l.at_ ea rfl), hv, q v tv⟩
theorem r2_ixT {K : PySem.W.Frag} {sa : Option Addr} {Ts : List Ty} {i : Int} {T : Ty} (h : atI Ts i = some T) : R2T sa (rIxT K) (tT Ts) (dat (.int i)) T := R2T.val fun x y G H Q l t u q => by
  obtain ⟨a, vs, rfl, ea, r⟩ := t
  obtain ⟨v, hv, tv⟩ := atI_map (F := fun v (T : Ty) => T.p v G) (Paired.length r) h fun j y e => r.at_ e
  exact ⟨a, vs, i, v, rfl, Rp.int_of u, SqT.of (l.at_ ea rfl), hv, q v tv⟩
theorem r2_ixS {sa : Option Addr} {x : Str} {i : Int} {c : Nat} (hl : x.length ≤ 1000) (h : atI x.cps.toList i = some c) : R2T sa rIxS (dat (.str x)) (dat (.int i)) (dat (.str ⟨#[c]⟩)) := R2T.val fun u y G H Q l t w q =>
  ⟨x, i, c, Rp.str_of t, Rp.int_of w, Nat.le_of_lt (small1000 hl), h, q _ (.str _)⟩
theorem ev_ixL {Ts : List Ty} {i : Int} (h : atI Ts i = some T) (ha : EvD X z δ a (tL Ts)) (hb : EvD X z δ b (dat (.int i))) (hs : PlainIx b := by exact fun _ _ => rfl) : EvD X z δ (.Subscript a b pos) T := ev_ix ix_list (r2_ixL h) ha hb hs
theorem ev_ixT {Ts : List Ty} {i : Int} (h : atI Ts i = some T) (ha : EvD X z δ a (tT Ts)) (hb : EvD X z δ b (dat (.int i))) (hs : PlainIx b := by exact fun _ _ => rfl) : EvD X z δ (.Subscript a b pos) T := ev_ix ix_tup (r2_ixT h) ha hb hs
theorem ev_ixLd {ds : List PyData} {i : Int} {d : PyData} (h : atI ds i = some d) (ha : EvD X z δ a (dat (.list ds))) (hb : EvD X z δ b (dat (.int i))) (hs : PlainIx b := by exact fun _ _ => rfl) : EvD X z δ (.Subscript a b pos) (dat d) := by
  refine ev_ixL (Ts := ds.map dat) (i := i) ?_ ha.toL hb hs
  obtain ⟨y, e1, e2⟩ := atI_map (F := fun (y : Ty) d => y = dat d) (xs := ds.map dat) (ys := ds) (i := i) (y := d) (by rw [List.length_map]) h fun j y e => ⟨dat y, by rw [List.getElem?_map, e]; rfl, rfl⟩
  rw [e1, e2]
theorem ev_ixTd {ds : List PyData} {i : Int} {d : PyData} (h : atI ds i = some d) (ha : EvD X z δ a (dat (.tuple ds))) (hb : EvD X z δ b (dat (.int i))) (hs : PlainIx b := by exact fun _ _ => rfl) : EvD X z δ (.Subscript a b pos) (dat d) := by
  refine ev_ixT (Ts := ds.map dat) (i := i) ?_ ha.toT hb hs
  obtain ⟨y, e1, e2⟩ := atI_map (F := fun (y : Ty) d => y = dat d) (xs := ds.map dat) (ys := ds) (i := i) (y := d) (by rw [List.length_map]) h fun j y e => ⟨dat y, by rw [List.getElem?_map, e]; rfl, rfl⟩
  rw [e1, e2]
/-- a dict's value -/
def lookT {κ β : Type} [DecidableEq κ] (es : List (κ × β)) (k : κ) : Option β := (es.find? fun e => decide (e.1 = k)).map (·.2)
theorem Ents.look {κ : Type} [DecidableEq κ] {G : Hp} {k : κ} : ∀ {kvs : List (κ × V)} {es : List (κ × Ty)}, Ents G kvs es → (∀ T, lookT es k = some T → ∃ v, valV kvs k = some v ∧ T.p v G) ∧ (lookT es k = none → valV kvs k = none)
  | _, _, .nil => ⟨fun T h => (by cases h), fun _ => rfl⟩
  | _, _, .cons (a := q) (b := e) h t => by
    by_cases c : e.1 = k
    · have c' : q.1 = k := h.1.trans c
      refine ⟨fun T hT => ⟨q.2, valV_pos c', ?_⟩, fun n => ?_⟩
      · have : T = e.2 := by simpa [lookT, List.find?_cons, c] using hT.symm
        rw [this]
        exact h.2
      · simp [lookT, List.find?_cons, c] at n
    · have c' : ¬ q.1 = k := fun x => c (h.1.symm.trans x)
      have ih := Ents.look (k := k) t
      rw [valV_neg c']
      have e2 : ∀ l : List (κ × Ty), lookT (e :: l) k = lookT l k := fun l => by simp [lookT, List.find?_cons, c]
      rw [e2]
      exact ih
theorem ev_dget {es' : List (Key × Ty)} {kk : Key} (hu : X.A.units + 1 < cLine) (h : lookT es' kk = some T) (ha : EvD X z δ a (tDR es')) (hb : EvD X z δ b (tRaw (kV kk))) (hs : NoSl b := by exact fun _ _ => rfl) : EvD X z δ (.Subscript a b pos) T := fun G H σ bg rs Q q =>
  w_pe (pe_dget hu pe_w pe_w hs) (ha G H σ bg rs _ fun x G1 H1 e1 t => hb G1 H1 σ (bg.ext e1) (rs.mono e1.g) _ fun y G2 H2 e2 u => by
    obtain ⟨d, kvs, rfl, ed, r⟩ := (tDR es').mono e2.g t
    obtain ⟨v, hv, tv⟩ := (Ents.look (k := kk) r).1 T h
    exact ⟨d, v, rfl, .inl ⟨kvs, kk, e2.le.rd ed, u, hv.symm⟩, q v G2 H2 (e1.trans e2) tv⟩)
theorem ev_din {es' : List (Key × Ty)} {kk : Key} (hu : X.A.units + 1 < cLine) (ha : EvD X z δ a (tRaw (kV kk))) (hb : EvD X z δ b (tDR es')) (hm : behindInMarks .In b = false := by rfl) : EvD X z δ (.Compare a [.In] [b] pos) (dat (.bool (lookT es' kk).isSome)) := fun G H σ bg rs Q q =>
  w_pe (pe_cmp (pc_din hu pe_w pe_w) hm) (ha G H σ bg rs _ fun y G1 H1 e1 t => hb G1 H1 σ (bg.ext e1) (rs.mono e1.g) _ fun x G2 H2 e2 u => by
    obtain ⟨d, kvs, rfl, ed, r⟩ := u
    refine ⟨d, valV kvs kk, rfl, .inl ⟨kvs, kk, e2.le.rd ed, t, rfl⟩, q _ G2 H2 (e1.trans e2) ?_⟩
    have l := Ents.look (k := kk) r
    cases c : lookT es' kk with
    | none => rw [l.2 c]; exact .bl _
    | some T =>
      obtain ⟨v, hv, _⟩ := l.1 T c
      rw [hv]
      exact .bl _)
theorem ev_dnin {es' : List (Key × Ty)} {kk : Key} (hu : X.A.units + 1 < cLine) (ha : EvD X z δ a (tRaw (kV kk))) (hb : EvD X z δ b (tDR es')) (hm : behindInMarks .NotIn b = false := by rfl) : EvD X z δ (.Compare a [.NotIn] [b] pos) (dat (.bool (!(lookT es' kk).isSome))) := fun G H σ bg rs Q q =>
  w_pe (pe_cmp (pc_dnotin hu pe_w pe_w) hm) (ha G H σ bg rs _ fun y G1 H1 e1 t => hb G1 H1 σ (bg.ext e1) (rs.mono e1.g) _ fun x G2 H2 e2 u => by
    obtain ⟨d, kvs, rfl, ed, r⟩ := u
    refine ⟨d, valV kvs kk, rfl, .inl ⟨kvs, kk, e2.le.rd ed, t, rfl⟩, q _ G2 H2 (e1.trans e2) ?_⟩
    have l := Ents.look (k := kk) r
    cases c : lookT es' kk with
    | none => rw [l.2 c]; exact .bl _
    | some T =>
      obtain ⟨v, hv, _⟩ := l.1 T c
      rw [hv]
      exact .bl _)
theorem EvD.rd {es' : List (Key × Ty)} (h : EvD X z δ e (tDK es')) : EvD X z δ e (tDR es') := h.imp fun _ _ => tDK_rd
theorem EvD.rawS {x : Str} (h : EvD X z δ e (dat (.str x))) : EvD X z δ e (tRaw (kV (.inr x))) := h.imp fun _ _ t => Rp.str_of t
theorem EvD.rawI {i : Int} (h : EvD X z δ e (dat (.int i))) : EvD X z δ e (tRaw (.int i)) := h.imp fun _ _ t => Rp.int_of t
/-- slices -/
def cutG {α : Type} (xs : List α) (lo hi : Option Int) : List α := (xs.drop (HT.sIx xs.length 0 lo)).take (HT.sIx xs.length xs.length hi - HT.sIx xs.length 0 lo)
theorem Reps.cut {G : Hp} {vs : List V} {Ts : List Ty} (r : Reps G vs Ts) (lo hi : Option Int) : Reps G (cutV vs lo hi) (cutG Ts lo hi) := by
  unfold cutV cutG
  rw [Paired.length r]
  exact (r.drop _).take _
def EvO (X : Cx) (z : Zn) (δ : List (Option Ty)) (o : Option Expr) (i : Option Int) : Prop := ∃ t, PO X o t ∧ ∀ (G H : Hp) (σ : L2.St), Bg z G H → RepS G σ δ → ∀ Q : Option Int → Hp → Prop, (∀ G' H', Ext z.sa G H G' H' → Q i H') → t σ H Q
theorem eo_none : EvO X z δ none none := ⟨_, po_none, fun G H σ bg _ Q q => q G H bg.rfl'⟩
theorem eo_some {i : Int} (h : EvD X z δ e (dat (.int i))) : EvO X z δ (some e) (some i) := ⟨_, po_some pe_w, fun G H σ bg rs Q q => h G H σ bg rs _ fun v G1 H1 e1 t => ⟨i, Rp.int_of t, q G1 H1 e1⟩⟩
theorem ev_slL {Ts : List Ty} {lo hi : Option Expr} {i j : Option Int} {p2 : Pos} (ha : EvD X z δ a (tL Ts)) (hlo : EvO X z δ lo i) (hhi : EvO X z δ hi j) : EvD X z δ (.Subscript a (.Slice lo hi none p2) pos) (tL (cutG Ts i j)) := fun G H σ bg rs Q q => by
  obtain ⟨t1, p1, h1⟩ := hlo
  obtain ⟨t2, p2', h2⟩ := hhi
  refine w_pe (pe_slice sl_list pe_w p1 p2') (ha G H σ bg rs _ fun x G1 H1 e1 t => h1 G1 H1 σ (bg.ext e1) (rs.mono e1.g) _ fun G2 H2 e2 => h2 G2 H2 σ (bg.ext (e1.trans e2)) (rs.mono (e1.trans e2).g) _ fun G3 H3 e3 => ?_)
  obtain ⟨p, vs, rfl, ep, r⟩ := (tL Ts).mono (e2.trans e3).g t
  refine ⟨p, vs, rfl, SqL.of (e3.le.at_ ep rfl), fun u hu => ?_⟩
  have n := Ext.new (sa := z.sa) (o := .lst (cutV vs i j)) e3.le e3.st hu
  exact q _ _ _ (((e1.trans e2).trans e3).trans n) ⟨u, _, rfl, upd_same, (r.cut i j).mono n.g⟩
theorem ev_slT {Ts : List Ty} {lo hi : Option Expr} {i j : Option Int} {p2 : Pos} (ha : EvD X z δ a (tT Ts)) (hlo : EvO X z δ lo i) (hhi : EvO X z δ hi j) : EvD X z δ (.Subscript a (.Slice lo hi none p2) pos) (tT (cutG Ts i j)) := fun G H σ bg rs Q q => by
  obtain ⟨t1, p1, h1⟩ := hlo
  obtain ⟨t2, p2', h2⟩ := hhi
  refine w_pe (pe_slice sl_tupA pe_w p1 p2') (ha G H σ bg rs _ fun x G1 H1 e1 t => h1 G1 H1 σ (bg.ext e1) (rs.mono e1.g) _ fun G2 H2 e2 => h2 G2 H2 σ (bg.ext (e1.trans e2)) (rs.mono (e1.trans e2).g) _ fun G3 H3 e3 => ?_)
  obtain ⟨p, vs, rfl, ep, r⟩ := (tT Ts).mono (e2.trans e3).g t
  refine ⟨p, vs, rfl, SqT.of (e3.le.at_ ep rfl), fun hw => ?_, fun _ u hu => ?_⟩
  · refine q _ G3 H3 ((e1.trans e2).trans e3) ⟨p, vs, rfl, ep, ?_⟩
    have e : cutG Ts i j = Ts := by
      unfold cutG
      rw [← Paired.length r, hw.1, hw.2, List.drop_zero, Nat.sub_zero, Paired.length r, List.take_length]
    rw [e]
    exact r
  · have n := Ext.new (sa := z.sa) (o := .tup (cutV vs i j)) e3.le e3.st hu
    exact q _ _ _ (((e1.trans e2).trans e3).trans n) ⟨u, _, rfl, upd_same, (r.cut i j).mono n.g⟩
theorem ev_slS {x : Str} {lo hi : Option Expr} {i j : Option Int} {p2 : Pos} (hx : x.length ≤ 1000) (ha : EvD X z δ a (dat (.str x))) (hlo : EvO X z δ lo i) (hhi : EvO X z δ hi j) : EvD X z δ (.Subscript a (.Slice lo hi none p2) pos) (dat (.str (cutS x i j))) := fun G H σ bg rs Q q => by
  obtain ⟨t1, p1, h1⟩ := hlo
  obtain ⟨t2, p2', h2⟩ := hhi
  exact w_pe (pe_slice sl_str pe_w p1 p2') (ha G H σ bg rs _ fun v G1 H1 e1 t => h1 G1 H1 σ (bg.ext e1) (rs.mono e1.g) _ fun G2 H2 e2 => h2 G2 H2 σ (bg.ext (e1.trans e2)) (rs.mono (e1.trans e2).g) _ fun G3 H3 e3 =>
    ⟨x, Rp.str_of t, Nat.le_of_lt (small1000 hx), q _ G3 H3 ((e1.trans e2).trans e3) (.str _)⟩)

/-! ### operators by types -/
theorem r2_I {sa : Option Addr} {g : Int → Int → V} {i j : Int} {d : PyData} (hd : ∀ G, Rp G (g i j) d) : R2T sa (rI0 g) (dat (.int i)) (dat (.int j)) (dat d) := R2T.val fun x y G H Q l t u q => ⟨i, j, Rp.int_of t, Rp.int_of u, q _ (hd G)⟩
theorem r2_IC {sa : Option Addr} {C : Int → Int → Prop} {g : Int → Int → V} {i j : Int} {d : PyData} (hc : C i j) (hd : ∀ G, Rp G (g i j) d) : R2T sa (rI C g) (dat (.int i)) (dat (.int j)) (dat d) := R2T.val fun x y G H Q l t u q => ⟨i, j, Rp.int_of t, Rp.int_of u, hc, q _ (hd G)⟩
theorem ev_add {i j : Int} (ha : EvD X z δ a (dat (.int i))) (hb : EvD X z δ b (dat (.int j))) : EvD X z δ (.BinOp a .Add b pos) (dat (.int (i + j))) := ev_op op_add (r2_I fun _ => .int _) ha hb
theorem ev_sub {i j : Int} (ha : EvD X z δ a (dat (.int i))) (hb : EvD X z δ b (dat (.int j))) : EvD X z δ (.BinOp a .Sub b pos) (dat (.int (i - j))) := ev_op op_sub (r2_I fun _ => .int _) ha hb
theorem ev_mod {i j : Int} (h : 0 < j) (ha : EvD X z δ a (dat (.int i))) (hb : EvD X z δ b (dat (.int j))) : EvD X z δ (.BinOp a .Mod b pos) (dat (.int (i % j))) := ev_op op_mod (r2_IC h fun _ => .int _) ha hb
theorem ev_fdiv {i j : Int} (h : CDivW i j) (ha : EvD X z δ a (dat (.int i))) (hb : EvD X z δ b (dat (.int j))) : EvD X z δ (.BinOp a .FloorDiv b pos) (dat (.int (i / j))) := ev_op op_fdivW (r2_IC h fun _ => .int _) ha hb
theorem ev_mul {i j : Int} (h : CMul i j) (ha : EvD X z δ a (dat (.int i))) (hb : EvD X z δ b (dat (.int j))) : EvD X z δ (.BinOp a .Mult b pos) (dat (.int (i * j))) := ev_op op_mul (r2_IC h fun _ => .int _) ha hb
theorem ev_pow {i j : Int} (h : CPow i j) (ha : EvD X z δ a (dat (.int i))) (hb : EvD X z δ b (dat (.int j))) : EvD X z δ (.BinOp a .Pow b pos) (dat (.int (i ^ j.toNat))) := ev_op op_pow (r2_IC h fun _ => .int _) ha hb
theorem ev_addS {x y : Str} (h : x.length + y.length ≤ 1000) (ha : EvD X z δ a (dat (.str x))) (hb : EvD X z δ b (dat (.str y))) : EvD X z δ (.BinOp a .Add b pos) (dat (.str (x ++ y))) :=
  ev_op op_add_str (R2T.val fun u v G H Q l t w q => ⟨x, y, Rp.str_of t, Rp.str_of w, Nat.le_of_lt (small1000 h), q _ (.str _)⟩) ha hb
theorem r2_cat {sa : Option Addr} {Ts Us : List Ty} (h : Ts.length + Us.length ≤ 1000) : R2T sa rCat (tL Ts) (tL Us) (tL (Ts ++ Us)) := fun x y G H l s t u Q q => by
  obtain ⟨p, vs, rfl, ep, r⟩ := t
  obtain ⟨p', ws, rfl, ep', r'⟩ := u
  refine ⟨p, p', vs, ws, rfl, rfl, l.at_ ep rfl, l.at_ ep' rfl, ?_, fun c hc => ?_⟩
  · rw [Paired.length r, Paired.length r']
    exact Nat.le_of_lt (small1000 h)
  · have n := Ext.new (sa := sa) (o := .lst (vs ++ ws)) l s hc
    exact q _ _ _ n ⟨c, _, rfl, upd_same, (r.append r').mono n.g⟩
theorem ev_catL {Ts Us : List Ty} (h : Ts.length + Us.length ≤ 1000) (ha : EvD X z δ a (tL Ts)) (hb : EvD X z δ b (tL Us)) : EvD X z δ (.BinOp a .Add b pos) (tL (Ts ++ Us)) := ev_op op_cat (r2_cat h) ha hb
theorem ev_catLd {ds es' : List PyData} (h : ds.length + es'.length ≤ 1000) (ha : EvD X z δ a (dat (.list ds))) (hb : EvD X z δ b (dat (.list es'))) : EvD X z δ (.BinOp a .Add b pos) (dat (.list (ds ++ es'))) :=
  EvD.ofL (by rw [List.map_append]; exact ev_catL (by simpa using h) ha.toL hb.toL)
theorem ev_catT {Ts Us : List Ty} (h : Ts.length + Us.length ≤ 1000) (ha : EvD X z δ a (tT Ts)) (hb : EvD X z δ b (tT Us)) : EvD X z δ (.BinOp a .Add b pos) (tT (Ts ++ Us)) := ev_op op_catA (fun x y G H l s t u Q q => by
  obtain ⟨p, vs, rfl, ep, r⟩ := t
  obtain ⟨p', ws, rfl, ep', r'⟩ := u
  have hl := Paired.length r
  have hl' := Paired.length r'
  refine ⟨p, p', vs, ws, rfl, rfl, SqT.of (l.at_ ep rfl), SqT.of (l.at_ ep' rfl), ?_, fun e => ?_, fun _ e => ?_, fun _ _ c hc => ?_⟩
  · rw [hl, hl']
    exact Nat.le_of_lt (small1000 h)
  · subst e
    have : Ts = [] := List.eq_nil_of_length_eq_zero (by rw [← hl]; rfl)
    subst this
    exact q _ G H (Ext.rfl' l s) ⟨p', ws, rfl, ep', r'⟩
  · subst e
    have : Us = [] := List.eq_nil_of_length_eq_zero (by rw [← hl']; rfl)
    subst this
    rw [List.append_nil] at q
    exact q _ G H (Ext.rfl' l s) ⟨p, vs, rfl, ep, r⟩
  · have n := Ext.new (sa := z.sa) (o := .tup (vs ++ ws)) l s hc
    exact q _ _ _ n ⟨c, _, rfl, upd_same, (r.append r').mono n.g⟩) ha hb
theorem ev_catTd {ds es' : List PyData} (h : ds.length + es'.length ≤ 1000) (ha : EvD X z δ a (dat (.tuple ds))) (hb : EvD X z δ b (dat (.tuple es'))) : EvD X z δ (.BinOp a .Add b pos) (dat (.tuple (ds ++ es'))) :=
  EvD.ofT (by rw [List.map_append]; exact ev_catT (by simpa using h) ha.toT hb.toT)
theorem Reps.rep {G : Hp} {vs : List V} {Ts : List Ty} (r : Reps G vs Ts) : ∀ n : Nat, Reps G (List.replicate n vs).flatten (List.replicate n Ts).flatten
  | 0 => .nil
  | n + 1 => by
    rw [List.replicate_succ, List.replicate_succ, List.flatten_cons, List.flatten_cons]
    exact r.append (Reps.rep r n)
theorem ev_repL {Ts : List Ty} {n : Nat} (h : Ts.length * n ≤ 1000) (hn : n ≤ 1000) (ha : EvD X z δ a (tL Ts)) (hb : EvD X z δ b (dat (.int (n : Int)))) : EvD X z δ (.BinOp a .Mult b pos) (tL (List.replicate n Ts).flatten) := ev_op op_rep (fun x y G H l s t u Q q => by
  obtain ⟨p, vs, rfl, ep, r⟩ := t
  refine ⟨p, n, vs, rfl, Rp.int_of u, l.at_ ep rfl, by omega, by omega, ?_, fun c hc => ?_⟩
  · rw [Paired.length r, Int.toNat_natCast]
    exact Nat.le_of_lt (small1000 h)
  · rw [Int.toNat_natCast]
    have nn := Ext.new (sa := z.sa) (o := .lst (List.replicate n vs).flatten) l s hc
    exact q _ _ _ nn ⟨c, _, rfl, upd_same, (r.rep n).mono nn.g⟩) ha hb
theorem r2_eq {K : PySem.W.Frag} {sa : Option Addr} {d e : PyData} (hd : SeqAt.shaped d = true) (he : SeqAt.shaped e = true) : R2T sa (rEqD K) (dat d) (dat e) (dat (.bool (PyData.eqv d e))) := R2T.val fun x y G H Q l t u q => ⟨d, e, Rp.dp l t, Rp.dp l u, hd, he, q _ (.bl _)⟩
theorem r2_ne {K : PySem.W.Frag} {sa : Option Addr} {d e : PyData} (hd : SeqAt.shaped d = true) (he : SeqAt.shaped e = true) : R2T sa (rNeD K) (dat d) (dat e) (dat (.bool (!PyData.eqv d e))) := R2T.val fun x y G H Q l t u q => ⟨d, e, Rp.dp l t, Rp.dp l u, hd, he, q _ (.bl _)⟩
theorem hu64 {A : Around} (hr : Room k A) : A.units + 64 < cLine := by have := hr.un; omega
theorem hu1 {A : Around} (hr : Room k A) : A.units + 1 < cLine := by have := hr.un; omega
theorem hu65 {A : Around} (hr : Room k A) : A.units + 65 < cLine := by have := hr.un; omega
theorem ev_eq {d e' : PyData} (hr : Room k X.A) (hd : SeqAt.shaped d = true) (he : SeqAt.shaped e' = true) (ha : EvD X z δ a (dat d)) (hb : EvD X z δ b (dat e')) : EvD X z δ (.Compare a [.Eq] [b] pos) (dat (.bool (PyData.eqv d e'))) := ev_cmp (op_eqD (hu64 hr)) (r2_eq hd he) ha hb
theorem ev_ne {d e' : PyData} (hr : Room k X.A) (hd : SeqAt.shaped d = true) (he : SeqAt.shaped e' = true) (ha : EvD X z δ a (dat d)) (hb : EvD X z δ b (dat e')) : EvD X z δ (.Compare a [.NotEq] [b] pos) (dat (.bool (!PyData.eqv d e'))) := ev_cmp (op_neD (hu64 hr)) (r2_ne hd he) ha hb
theorem ev_eqI {i j : Int} (ha : EvD X z δ a (dat (.int i))) (hb : EvD X z δ b (dat (.int j))) : EvD X z δ (.Compare a [.Eq] [b] pos) (dat (.bool (decide (i = j)))) := ev_cmp op_eq (R2T.val fun x y G H Q l t u q => by
  rw [Rp.int_of t, Rp.int_of u]
  refine ⟨rfl, q _ ?_⟩
  have e : decide (V.int i = V.int j) = decide (i = j) := by
    by_cases h : i = j
    · subst h; simp
    · rw [decide_eq_false h, decide_eq_false fun z => h (V.int.inj z)]
  rw [e]
  exact .bl _) ha hb
theorem ev_eqS {i j : Str} (ha : EvD X z δ a (dat (.str i))) (hb : EvD X z δ b (dat (.str j))) : EvD X z δ (.Compare a [.Eq] [b] pos) (dat (.bool (decide (i = j)))) := ev_cmp op_eq (R2T.val fun x y G H Q l t u q => by
  rw [Rp.str_of t, Rp.str_of u]
  refine ⟨rfl, q _ ?_⟩
  have e : decide (V.str i = V.str j) = decide (i = j) := by
    by_cases h : i = j
    · subst h; simp
    · rw [decide_eq_false h, decide_eq_false fun z => h (V.str.inj z)]
  rw [e]
  exact .bl _) ha hb
theorem ev_neI {i j : Int} (ha : EvD X z δ a (dat (.int i))) (hb : EvD X z δ b (dat (.int j))) : EvD X z δ (.Compare a [.NotEq] [b] pos) (dat (.bool (!decide (i = j)))) := ev_cmp op_ne (R2T.val fun x y G H Q l t u q => by
  rw [Rp.int_of t, Rp.int_of u]
  refine ⟨rfl, q _ ?_⟩
  have e : decide (V.int i = V.int j) = decide (i = j) := by
    by_cases h : i = j
    · subst h; simp
    · rw [decide_eq_false h, decide_eq_false fun z => h (V.int.inj z)]
  rw [e]
  exact .bl _) ha hb
theorem ev_neS {i j : Str} (ha : EvD X z δ a (dat (.str i))) (hb : EvD X z δ b (dat (.str j))) : EvD X z δ (.Compare a [.NotEq] [b] pos) (dat (.bool (!decide (i = j)))) := ev_cmp op_ne (R2T.val fun x y G H Q l t u q => by
  rw [Rp.str_of t, Rp.str_of u]
  refine ⟨rfl, q _ ?_⟩
  have e : decide (V.str i = V.str j) = decide (i = j) := by
    by_cases h : i = j
    · subst h; simp
    · rw [decide_eq_false h, decide_eq_false fun z => h (V.str.inj z)]
  rw [e]
  exact .bl _) ha hb
theorem ev_neB {i j : Bool} (ha : EvD X z δ a (dat (.bool i))) (hb : EvD X z δ b (dat (.bool j))) : EvD X z δ (.Compare a [.NotEq] [b] pos) (dat (.bool (i != j))) := ev_cmp op_ne (R2T.val fun x y G H Q l t u q => by
  rw [Rp.bl_of t, Rp.bl_of u]
  refine ⟨rfl, q _ ?_⟩
  have e : (!decide (V.bl i = V.bl j)) = (i != j) := by cases i <;> cases j <;> rfl
  rw [e]
  exact .bl _) ha hb
theorem ev_eqB {i j : Bool} (ha : EvD X z δ a (dat (.bool i))) (hb : EvD X z δ b (dat (.bool j))) : EvD X z δ (.Compare a [.Eq] [b] pos) (dat (.bool (i == j))) := ev_cmp op_eq (R2T.val fun x y G H Q l t u q => by
  rw [Rp.bl_of t, Rp.bl_of u]
  refine ⟨rfl, q _ ?_⟩
  have e : decide (V.bl i = V.bl j) = (i == j) := by cases i <;> cases j <;> rfl
  rw [e]
  exact .bl _) ha hb
theorem ev_lt {i j : Int} (ha : EvD X z δ a (dat (.int i))) (hb : EvD X z δ b (dat (.int j))) : EvD X z δ (.Compare a [.Lt] [b] pos) (dat (.bool (decide (i < j)))) := ev_cmp op_lt (r2_I fun _ => .bl _) ha hb
theorem ev_le {i j : Int} (ha : EvD X z δ a (dat (.int i))) (hb : EvD X z δ b (dat (.int j))) : EvD X z δ (.Compare a [.LtE] [b] pos) (dat (.bool (decide (i ≤ j)))) := ev_cmp op_le (r2_I fun _ => .bl _) ha hb
theorem ev_gt {i j : Int} (ha : EvD X z δ a (dat (.int i))) (hb : EvD X z δ b (dat (.int j))) : EvD X z δ (.Compare a [.Gt] [b] pos) (dat (.bool (decide (j < i)))) := ev_cmp op_gt (r2_I fun _ => .bl _) ha hb
theorem ev_ge {i j : Int} (ha : EvD X z δ a (dat (.int i))) (hb : EvD X z δ b (dat (.int j))) : EvD X z δ (.Compare a [.GtE] [b] pos) (dat (.bool (decide (j ≤ i)))) := ev_cmp op_ge (r2_I fun _ => .bl _) ha hb
theorem ev_ltS {x y : Str} (ha : EvD X z δ a (dat (.str x))) (hb : EvD X z δ b (dat (.str y))) : EvD X z δ (.Compare a [.Lt] [b] pos) (dat (.bool (decide (x.cps.toList < y.cps.toList)))) :=
  ev_cmp op_lt_str (R2T.val fun u v G H Q l t w q => ⟨x, y, Rp.str_of t, Rp.str_of w, q _ (.bl _)⟩) ha hb
theorem ev_lele {i j l : Int} (ha : EvD X z δ a (dat (.int i))) (hb : EvD X z δ b (dat (.int j))) (hc : EvD X z δ c (dat (.int l))) (hm : lastMarks [.LtE, .LtE] [b, c] = false := by rfl) : EvD X z δ (.Compare a [.LtE, .LtE] [b, c] pos) (dat (.bool (decide (i ≤ j) && decide (j ≤ l)))) :=
  ev_chain op_le op_le (r2_I fun _ => .bl _) (fun _ => r2_I fun _ => .bl _) ha hb hc hm
theorem ev_ltlt {i j l : Int} (ha : EvD X z δ a (dat (.int i))) (hb : EvD X z δ b (dat (.int j))) (hc : EvD X z δ c (dat (.int l))) (hm : lastMarks [.Lt, .Lt] [b, c] = false := by rfl) : EvD X z δ (.Compare a [.Lt, .Lt] [b, c] pos) (dat (.bool (decide (i < j) && decide (j < l)))) :=
  ev_chain op_lt op_lt (r2_I fun _ => .bl _) (fun _ => r2_I fun _ => .bl _) ha hb hc hm
def isNon : PyData → Bool
  | .none => true
  | _ => false
theorem Rp.isNon {G : Hp} {v : V} {d : PyData} (h : Rp G v d) : decide (v = .non) = isNon d := by cases h <;> rfl
theorem ev_isN {j pos'} {d : PyData} (ha : EvD X z δ a (dat d)) : EvD X z δ (.Compare a [.Is] [.Constant .none j pos'] pos) (dat (.bool (isNon d))) :=
  ev_cmp op_isN (R2T.val (U := dat .none) fun x y G H Q l t u q => ⟨Rp.non_of u, q _ (by show Rp _ _ _; rw [Rp.isNon t]; exact .bl _)⟩) ha ev_non
theorem ev_notN {j pos'} {d : PyData} (ha : EvD X z δ a (dat d)) : EvD X z δ (.Compare a [.IsNot] [.Constant .none j pos'] pos) (dat (.bool (!isNon d))) :=
  ev_cmp op_notN (R2T.val (U := dat .none) fun x y G H Q l t u q => ⟨Rp.non_of u, q _ (by show Rp _ _ _; rw [Rp.isNon t]; exact .bl _)⟩) ha ev_non
theorem ev_neg {i : Int} (ha : EvD X z δ a (dat (.int i))) : EvD X z δ (.UnaryOp .USub a pos) (dat (.int (-i))) := fun G H σ bg rs Q q =>
  w_pe (pe_un un_neg pe_w) (ha G H σ bg rs _ fun v G1 H1 e1 t => ⟨i, Rp.int_of t, q _ G1 H1 e1 (.int _)⟩)
theorem ev_inS {c : Nat} {y : Str} (ha : EvD X z δ a (dat (.str ⟨#[c]⟩))) (hb : EvD X z δ b (dat (.str y))) (hm : behindInMarks .In b = false := by rfl) : EvD X z δ (.Compare a [.In] [b] pos) (dat (.bool (decide (c ∈ y.cps.toList)))) :=
  ev_cmp op_in_sign (R2T.val fun u v G H Q l t w q => ⟨c, y, Rp.str_of t, Rp.str_of w, q _ (.bl _)⟩) ha hb hm
theorem ev_inD {d : PyData} {ds : List PyData} (hr : Room k X.A) (hd : SeqAt.shaped d = true) (he : SeqAt.shaped (.list ds) = true) (ha : EvD X z δ a (dat d)) (hb : EvD X z δ b (dat (.list ds))) (hm : behindInMarks .In b = false := by rfl) : EvD X z δ (.Compare a [.In] [b] pos) (dat (.bool (ds.any fun y => PyData.eqv y d))) :=
  ev_cmp (op_inD (hu65 hr)) (R2T.val fun u v G H Q l t w q => ⟨d, ds, Rp.dp l t, Rp.dp l w, hd, he, q _ (.bl _)⟩) ha hb hm
theorem ev_ninD {d : PyData} {ds : List PyData} (hr : Room k X.A) (hd : SeqAt.shaped d = true) (he : SeqAt.shaped (.list ds) = true) (ha : EvD X z δ a (dat d)) (hb : EvD X z δ b (dat (.list ds))) (hm : behindInMarks .NotIn b = false := by rfl) : EvD X z δ (.Compare a [.NotIn] [b] pos) (dat (.bool (!ds.any fun y => PyData.eqv y d))) :=
  ev_cmp (op_notInD (hu65 hr)) (R2T.val fun u v G H Q l t w q => ⟨d, ds, Rp.dp l t, Rp.dp l w, hd, he, q _ (.bl _)⟩) ha hb hm

/-! ### what an object holds -/
theorem ev_fld {C : Addr} {fs : List (Str × Ty)} {f : Str} (cl : Cls X.K C) (n : NoAttr X.K C f) (h : lookT fs f = some T) (ha : EvD X z δ a (tOb C fs)) (hb : attributeBase a f X.env (eval a X.env) = eval a X.env := by rfl) : EvD X z δ (.Attribute a f pos) T := fun G H σ bg rs Q q =>
  w_pe (pe_fld pe_w hb) (ha G H σ bg rs _ fun v G1 H1 e1 t => by
    obtain ⟨p, dx, gs, rfl, ep, r⟩ := t
    obtain ⟨u, hu, tu⟩ := (Ents.look (k := f) r).1 T h
    refine ⟨p, C, dx, gs, u, rfl, e1.le.at_ ep rfl, cl, n, ?_, q u G1 H1 e1 tu⟩
    have key : ∀ l : List (Str × V), valV l f = some u → l.lookup f = some u := by
      intro l
      induction l with
      | nil => intro h; cases h
      | cons q l ih =>
        obtain ⟨g, w⟩ := q
        intro h
        by_cases c : g = f
        · subst c
          rw [valV_pos rfl] at h
          have e : w = u := Option.some.inj h
          simp [List.lookup, e]
        · rw [valV_neg c] at h
          have c' : (f == g) = false := by simpa using fun z => c z.symm
          simp [List.lookup, c', ih h]
    exact key gs hu)
end
end Z
end
section
set_option maxRecDepth 100000
set_option maxHeartbeats 4000000
/-! Z2: calls by promises over types; built-ins; what is walked; comprehensions. -/
namespace Z
open PySem PySem.Spec PyProof.Rows L2

/-! ### promises -/
structure Pr (ι : Type) where
  pre : ι → Prop
  args : ι → List Ty
  res : ι → Ty
/-- a def that makes new things only -/
def Pr.sp {ι : Type} (P : Pr ι) : Sp := fun vs H Q _ => ∃ (i : ι) (G : Hp), P.pre i ∧ Le G H ∧ Reps G vs (P.args i) ∧ ∀ v G' H', Ext none G H G' H' → (P.res i).p v G' → Q v H'
/-- a def whose first argument is the store -/
def Pr.spS {ι : Type} (P : Pr ι) : Sp := fun vs H Q _ => ∃ (i : ι) (G : Hp) (s : Addr) (ws : List V), vs = .ref s :: ws ∧ P.pre i ∧ Le G H ∧ StO G H s ∧ Reps G ws (P.args i) ∧
  ∀ v G' H', Ext (some s) G H G' H' → (P.res i).p v G' → Q v H'
/-- an own error: what it carries -/
inductive Er where
  | bad (p : Str)
  | step (at_ : Int) (r : Str)
def ErH (K : PySem.W.Frag) : Er → Value → Option Addr → Hp → Prop
  | .bad p, cls, d, H => cls = .ref (He.ga K "BadShape") ∧ ∃ dd, d = some dd ∧ H dd = some (.xd [(("parameter" : Str), .str p)])
  | .step n r, cls, d, H => cls = .ref (He.ga K "StepRefused") ∧ ∃ dd, d = some dd ∧ H dd = some (.xd [(("reason" : Str), .str r), (("at" : Str), .int n)])
/-- a def that may raise -/
structure PrX (ι : Type) where
  pre : ι → Prop
  args : ι → List Ty
  out : ι → Except Er Ty
def PrX.sp {ι : Type} (P : PrX ι) (K : PySem.W.Frag) : Sp := fun vs H Q E => ∃ (i : ι) (G : Hp), P.pre i ∧ Le G H ∧ Reps G vs (P.args i) ∧
  (∀ T, P.out i = .ok T → ∀ v G' H', Ext none G H G' H' → T.p v G' → Q v H') ∧ (∀ er, P.out i = .error er → ∀ cls d H', Same H H' → ErH K er cls d H' → E cls d H')
/-- a def of the module that may be called -/
structure Cb (CX : CXT) (P : Program) (w : World) (K : PySem.W.Frag) (mg : Str → Option Value) (base : Heap) (k : Nat) (x : Str) (ps : List Str) (sp : Sp) : Prop where
  ex : ∃ (f : Addr) (fd : FuncData), mg x = some (.ref f) ∧ PySem.W.keepIn K (.ref f) = true ∧ FnOk P w K mg base CX k f fd ps sp ∧ Binds K fd ps []

section
variable {X : Cx} {z : Zn} {δ : List (Option Ty)} {a b c e o : Expr} {es : List Expr} {p pos apos : Pos} {k n : Nat} {T U W : Ty} {Ts : List Ty} {x : Str} {ps : List Str} {ι : Type}

theorem ev_call {P : Pr ι} (c : Cb CX0 X.prog X.w X.K X.mg X.base n x ps P.sp) (hr : Room k X.A) (hk : n ≤ k) (ha : EvA X z δ (e :: es) Ts) (h : ∀ G vs, Reps G vs Ts → ∃ i, P.pre i ∧ Reps G vs (P.args i) ∧ ∀ v G', (P.res i).p v G' → W.p v G')
    (hg : Gl X x := by rfl) (hdb : (x == ("__debug__" : Str)) = false := by decide) (he : starEach (e :: es) X.env = (false, eval e X.env) :: starEach es X.env := by rfl) (hpl : (backTo pos (starEach es X.env)).any (·.1) = false := by rfl) :
    EvD X z δ (.Call (.Name x p) (e :: es) [] pos) W := fun G H σ bg rs Q q => by
  obtain ⟨f, fd, hm, hkp, F, hb⟩ := c.ex
  refine w_pe (pe_call F (hr.mono hk) hg hm hkp hb .nil pass0 pa_w hdb he hpl) (ha G H σ bg rs _ fun vs G1 H1 e1 ts => ?_)
  obtain ⟨i, hp, r, hw⟩ := h G1 vs ts
  show P.sp (vs ++ []) H1 Q E0
  rw [List.append_nil]
  exact ⟨i, G1, hp, e1.le, r, fun v G2 H2 e2 t => q v G2 H2 (e1.trans (Ext.pure e1.st e2)) (hw v G2 t)⟩
theorem ev_callD {P : Pr ι} (i : ι) (c : Cb CX0 X.prog X.w X.K X.mg X.base n x ps P.sp) (hr : Room k X.A) (hk : n ≤ k) (hp : P.pre i) (ha : EvA X z δ (e :: es) (P.args i))
    (hg : Gl X x := by rfl) (hdb : (x == ("__debug__" : Str)) = false := by decide) (he : starEach (e :: es) X.env = (false, eval e X.env) :: starEach es X.env := by rfl) (hpl : (backTo pos (starEach es X.env)).any (·.1) = false := by rfl) :
    EvD X z δ (.Call (.Name x p) (e :: es) [] pos) (P.res i) := ev_call c hr hk ha (fun G vs r => ⟨i, hp, r, fun _ _ t => t⟩) hg hdb he hpl
theorem ev_callS {P : Pr ι} {s : Addr} (hz : z.sa = some s) (c : Cb CX0 X.prog X.w X.K X.mg X.base n x ps P.spS) (hr : Room k X.A) (hk : n ≤ k) (ha : EvA X z δ (e :: es) (tRaw (.ref s) :: Ts)) (h : ∀ G vs, Reps G vs Ts → ∃ i, P.pre i ∧ Reps G vs (P.args i) ∧ ∀ v G', (P.res i).p v G' → W.p v G')
    (hg : Gl X x := by rfl) (hdb : (x == ("__debug__" : Str)) = false := by decide) (he : starEach (e :: es) X.env = (false, eval e X.env) :: starEach es X.env := by rfl) (hpl : (backTo pos (starEach es X.env)).any (·.1) = false := by rfl) :
    EvD X z δ (.Call (.Name x p) (e :: es) [] pos) W := fun G H σ bg rs Q q => by
  obtain ⟨f, fd, hm, hkp, F, hb⟩ := c.ex
  refine w_pe (pe_call F (hr.mono hk) hg hm hkp hb .nil pass0 pa_w hdb he hpl) (ha G H σ bg rs _ fun vs G1 H1 e1 ts => ?_)
  cases ts with
  | @cons v0 _ vr _ t0 ts =>
    obtain ⟨i, hp, r, hw⟩ := h G1 vr ts
    have t0 : v0 = .ref s := t0
    show P.spS ((v0 :: vr) ++ []) H1 Q E0
    rw [List.append_nil, t0]
    have st := e1.st
    rw [hz] at st
    refine ⟨i, G1, s, vr, rfl, hp, e1.le, st, r, fun v G2 H2 e2 t => q v G2 H2 (e1.trans ?_) (hw v G2 t)⟩
    rw [hz]
    exact e2
theorem ev_callSD {P : Pr ι} {s : Addr} (i : ι) (hz : z.sa = some s) (c : Cb CX0 X.prog X.w X.K X.mg X.base n x ps P.spS) (hr : Room k X.A) (hk : n ≤ k) (hp : P.pre i) (ha : EvA X z δ (e :: es) (tRaw (.ref s) :: P.args i))
    (hg : Gl X x := by rfl) (hdb : (x == ("__debug__" : Str)) = false := by decide) (he : starEach (e :: es) X.env = (false, eval e X.env) :: starEach es X.env := by rfl) (hpl : (backTo pos (starEach es X.env)).any (·.1) = false := by rfl) :
    EvD X z δ (.Call (.Name x p) (e :: es) [] pos) (P.res i) := ev_callS hz c hr hk ha (fun G vs r => ⟨i, hp, r, fun _ _ t => t⟩) hg hdb he hpl
/-- a call that may raise, within a def whose errors go to E -/
theorem ev_callX {P : PrX ι} {E : XK} (tk : Takes X fun cls d _ H => E cls d H) (hB : ∀ a, ¬ z.B a) (c : Cb (L2.CX X.prog X.w) X.prog X.w X.K X.mg X.base n x ps (P.sp X.K)) (hr : Room k X.A) (hk : n ≤ k) (ha : EvA X z δ (e :: es) Ts)
    (h : ∀ G vs, Reps G vs Ts → ∃ i, P.pre i ∧ Reps G vs (P.args i) ∧ (∀ T, P.out i = .ok T → ∀ v G', T.p v G' → W.p v G') ∧ ∀ er, P.out i = .error er → ∀ cls d H', Same z.H0 H' → ErH X.K er cls d H' → E cls d H')
    (hg : Gl X x := by rfl) (hdb : (x == ("__debug__" : Str)) = false := by decide) (he : starEach (e :: es) X.env = (false, eval e X.env) :: starEach es X.env := by rfl) (hpl : (backTo pos (starEach es X.env)).any (·.1) = false := by rfl) :
    EvD X z δ (.Call (.Name x p) (e :: es) [] pos) W := fun G H σ bg rs Q q => by
  obtain ⟨f, fd, hm, hkp, F, hb⟩ := c.ex
  refine w_pe (pe_call F (hr.mono hk) hg hm hkp hb .nil (passes_call tk fun _ _ _ _ h => h) pa_w hdb he hpl) (ha G H σ bg rs _ fun vs G1 H1 e1 ts => ?_)
  obtain ⟨i, hp, r, hw, hx⟩ := h G1 vs ts
  show P.sp X.K (vs ++ []) H1 Q E
  rw [List.append_nil]
  refine ⟨i, G1, hp, e1.le, r, fun T hT v G2 H2 e2 t => q v G2 H2 (e1.trans (Ext.pure e1.st e2)) (hw T hT v G2 t), fun er her cls d H' s eh => hx er her cls d H' (fun a o ea => s a o ?_) eh⟩
  exact (bg.ext e1).h0 a o (hB a) ea
theorem ev_callXD {P : PrX ι} {E : XK} (i : ι) (tk : Takes X fun cls d _ H => E cls d H) (hB : ∀ a, ¬ z.B a) (c : Cb (L2.CX X.prog X.w) X.prog X.w X.K X.mg X.base n x ps (P.sp X.K)) (hr : Room k X.A) (hk : n ≤ k) (hp : P.pre i) (ha : EvA X z δ (e :: es) (P.args i))
    (hw : ∀ T, P.out i = .ok T → ∀ v G', T.p v G' → W.p v G') (hx : ∀ er, P.out i = .error er → ∀ cls d H', Same z.H0 H' → ErH X.K er cls d H' → E cls d H')
    (hg : Gl X x := by rfl) (hdb : (x == ("__debug__" : Str)) = false := by decide) (he : starEach (e :: es) X.env = (false, eval e X.env) :: starEach es X.env := by rfl) (hpl : (backTo pos (starEach es X.env)).any (·.1) = false := by rfl) :
    EvD X z δ (.Call (.Name x p) (e :: es) [] pos) W := ev_callX tk hB c hr hk ha (fun G vs r => ⟨i, hp, r, hw, hx⟩) hg hdb he hpl
/-- a call that may raise in general but not here, within a def that lets nothing out -/
theorem ev_callX0 {P : PrX ι} (i : ι) (hxe : X.xe = fun _ _ => False) (c : Cb (L2.CX X.prog X.w) X.prog X.w X.K X.mg X.base n x ps (P.sp X.K)) (hr : Room k X.A) (hk : n ≤ k) (hp : P.pre i) (ha : EvA X z δ (e :: es) (P.args i)) (ho : P.out i = .ok W)
    (hg : Gl X x := by rfl) (hdb : (x == ("__debug__" : Str)) = false := by decide) (he : starEach (e :: es) X.env = (false, eval e X.env) :: starEach es X.env := by rfl) (hpl : (backTo pos (starEach es X.env)).any (·.1) = false := by rfl) :
    EvD X z δ (.Call (.Name x p) (e :: es) [] pos) W := fun G H σ bg rs Q q => by
  obtain ⟨f, fd, hm, hkp, F, hb⟩ := c.ex
  refine w_pe (pe_call F (hr.mono hk) hg hm hkp hb .nil passL pa_w hdb he hpl) (ha G H σ bg rs _ fun vs G1 H1 e1 r => ?_)
  show P.sp X.K (vs ++ []) H1 Q E0
  rw [List.append_nil]
  refine ⟨i, G1, hp, e1.le, r, fun T hT v G2 H2 e2 t => q v G2 H2 (e1.trans (Ext.pure e1.st e2)) ?_, fun er her => ?_⟩
  · rw [ho] at hT
    cases hT
    exact t
  · rw [ho] at her
    cases her

/-! ### methods, properties, instances made -/
structure Mb (P : Program) (w : World) (K : PySem.W.Frag) (mg : Str → Option Value) (base : Heap) (k : Nat) (C : Addr) (m : Str) (ps : List Str) (sp : Sp) : Prop where
  cl : Cls K C
  ex : ∃ (f : Addr) (fd : FuncData), Meth K C m f ∧ FnOk P w K mg base CX0 k f fd ps sp ∧ Binds K fd ps []
theorem ev_meth {P : Pr ι} {C : Addr} {m : Str} {fs : List (Str × Ty)} {pl : Sem Bool} (i : ι) (c : Mb X.prog X.w X.K X.mg X.base n C m ps P.sp) (hr : Room k X.A) (hk : n ≤ k) (hp : P.pre i) (hp0 : P.args i = tOb C fs :: Ts) (hn : lookT fs m = none) (ho : EvD X z δ o (tOb C fs)) (ha : EvA X z δ (e :: es) Ts)
    (hst : starEach (e :: es) X.env = (false, eval e X.env) :: starEach es X.env := by rfl) (hpl : (backTo pos (starEach es X.env)).any (·.1) = false := by rfl)
    (ht : eval (.Call (.Attribute o m apos) (e :: es) [] pos) X.env = (do
      let ov ← eval o X.env
      standAt apos.atName
      let (f, first) ← holding [ov] (getMethod ov m pl)
      callWith pos f first (backTo pos (starEach (e :: es) X.env)) (backToKw pos (keywordEach [] X.env))) := by rfl) :
    EvD X z δ (.Call (.Attribute o m apos) (e :: es) [] pos) (P.res i) := fun G H σ bg rs Q q => by
  obtain ⟨f, fd, hm, F, hb⟩ := c.ex
  refine w_pe (pe_meth pe_w c.cl hm F (hr.mono hk) hb .nil pass0 pa_w hst hpl ht) (ho G H σ bg rs _ fun v G1 H1 e1 t => ?_)
  obtain ⟨pp, dx, gs, rfl, ep, r⟩ := t
  have hl : gs.lookup m = none := by
    have q := (Ents.look (k := m) r).2 hn
    have key : ∀ l : List (Str × V), valV l m = none → l.lookup m = none := by
      intro l
      induction l with
      | nil => intro _; rfl
      | cons q l ih =>
        obtain ⟨g, w⟩ := q
        intro h
        by_cases c : g = m
        · rw [valV_pos c] at h
          cases h
        · rw [valV_neg c] at h
          have c' : (m == g) = false := by simpa using fun z => c z.symm
          simp [List.lookup, c', ih h]
    exact key gs q
  refine ⟨pp, dx, gs, rfl, e1.le.at_ ep rfl, hl, ha G1 H1 σ (bg.ext e1) (rs.mono e1.g) _ fun vs G2 H2 e2 ts => ?_⟩
  rw [List.append_nil]
  refine ⟨i, G2, hp, e2.le, ?_, fun v G3 H3 e3 t => q v G3 H3 ((e1.trans e2).trans (Ext.pure e2.st e3)) t⟩
  rw [hp0]
  exact .cons ((tOb C fs).mono e2.g ⟨pp, dx, gs, rfl, ep, r⟩) ts
structure Pb (P : Program) (w : World) (K : PySem.W.Frag) (mg : Str → Option Value) (base : Heap) (k : Nat) (C : Addr) (m : Str) (sp : Sp) : Prop where
  cl : Cls K C
  ex : ∃ (pr f : Addr) (fd : FuncData), PropOf K C m pr f ∧ FnOk P w K mg base CX0 k f fd ["self"] sp ∧ Binds K fd ["self"] []
theorem ev_prop {P : Pr ι} {C : Addr} {m : Str} {fs : List (Str × Ty)} (i : ι) (c : Pb X.prog X.w X.K X.mg X.base n C m P.sp) (hr : Room k X.A) (hk : n + 1 ≤ k) (hp : P.pre i) (hp0 : P.args i = [tOb C fs]) (ho : EvD X z δ o (tOb C fs))
    (hab : attributeBase o m X.env (eval o X.env) = eval o X.env := by rfl) : EvD X z δ (.Attribute o m pos) (P.res i) := fun G H σ bg rs Q q => by
  obtain ⟨pr, f, fd, hm, F, hb⟩ := c.ex
  refine w_pe (pe_prop pe_w c.cl hm F (hr.mono hk) hb .nil pass0 hab) (ho G H σ bg rs _ fun v G1 H1 e1 t => ?_)
  obtain ⟨pp, dx, gs, rfl, ep, r⟩ := t
  refine ⟨pp, dx, gs, rfl, e1.le.at_ ep rfl, i, G1, hp, e1.le, ?_, fun v G3 H3 e3 t => q v G3 H3 (e1.trans (Ext.pure e1.st e3)) t⟩
  rw [hp0]
  exact .cons ⟨pp, dx, gs, rfl, ep, r⟩ .nil
/-- what an __init__ makes of a new instance -/
structure PrI (ι : Type) where
  pre : ι → Prop
  args : ι → List Ty
  flds : ι → List (Str × Ty)
def PrI.sp {ι : Type} (P : PrI ι) (C : Addr) : Sp := fun vs H Q _ => ∃ (i : ι) (G : Hp) (x dx : Addr) (ws : List V), vs = .ref x :: ws ∧ P.pre i ∧ G x = none ∧ H x = some (.ins C dx []) ∧ Le G H ∧ Reps G ws (P.args i) ∧
  ∀ G' H' dx' gs, Same G G' → (∀ a o, a ≠ x → H a = some o → H' a = some o) → Le G' H' → (∀ a, NT H a → G a = none → G' a = none) → H' x = some (.ins C dx' gs) → Ents G' gs (P.flds i) → Q .non H'
structure Ib (P : Program) (w : World) (K : PySem.W.Frag) (mg : Str → Option Value) (base : Heap) (k : Nat) (x : Str) (C : Addr) (ps : List Str) (sp : Sp) : Prop where
  gC : mg x = some (.ref C)
  ex : ∃ (f : Addr) (fd : FuncData), Mk K C f ∧ FnOk P w K mg base CX0 k f fd ps sp ∧ Binds K fd ps []
theorem ev_make {P : PrI ι} {C : Addr} (i : ι) (c : Ib X.prog X.w X.K X.mg X.base n x C ps (P.sp C)) (hr : Room k X.A) (hk : n + 1 ≤ k) (hp : P.pre i) (ha : EvA X z δ (e :: es) (P.args i)) (hg : Gl X x := by rfl)
    (hdb : (x == ("__debug__" : Str)) = false := by decide) (he : starEach (e :: es) X.env = (false, eval e X.env) :: starEach es X.env := by rfl) (hpl : (backTo pos (starEach es X.env)).any (·.1) = false := by rfl) :
    EvD X z δ (.Call (.Name x p) (e :: es) [] pos) (tOb C (P.flds i)) := fun G H σ bg rs Q q => by
  obtain ⟨f, fd, hm, F, hb⟩ := c.ex
  refine w_pe (pe_make hm F (hr.mono hk) hg c.gC hb .nil pass0 pa_w hdb he hpl) (ha G H σ bg rs _ fun vs G1 H1 e1 r => ?_)
  intro o dx no nd ne
  have n1 := Ext.newH (sa := z.sa) (p := dx) (o := .own o) e1.le e1.st nd
  have no1 : upd H1 dx (.own o) o = none := by rw [upd_ne (Ne.symm ne)]; exact no
  have n2 := Ext.newH (sa := z.sa) (p := o) (o := .ins C dx []) n1.le n1.st no1
  have ng : G1 o = none := by
    cases h : G1 o with
    | none => rfl
    | some u => have h := e1.le o u h; rw [no] at h; cases h
  rw [List.append_nil]
  refine ⟨i, G1, o, dx, vs, rfl, hp, ng, upd_same, n2.le, r, fun G' H' dx' gs g h l nw hx en => ⟨rfl, ?_⟩⟩
  have n12 := n1.trans n2
  have ng' : G' o = none := nw o ⟨_, upd_same, rfl⟩ ng
  have sg : Same G' (upd G' o (.ins C dx' gs)) := fun a u ea => by rw [upd_ne (ne_of_none ea ng')]; exact ea
  have nwf : ∀ a, NT H1 a → G1 a = none → upd G' o (.ins C dx' gs) a = none := fun a ha' ga => by
    have hao : a ≠ o := fun z => ha'.ne (by rw [z]; exact no)
    rw [upd_ne hao]
    exact nw a (n12.nt ha') ga
  have hf : Same H1 H' := fun a u ea => h a u (ne_of_none ea no) (by rw [upd_ne (ne_of_none ea no), upd_ne (ne_of_none ea nd)]; exact ea)
  have lf : Le (upd G' o (.ins C dx' gs)) H' := fun a u ea => by
    by_cases c : a = o
    · subst c
      rw [upd_same] at ea
      cases ea
      exact hx
    · rw [upd_ne c] at ea
      exact l a u ea
  have x2 : Ext z.sa G1 H1 (upd G' o (.ins C dx' gs)) H' := ⟨g.trans sg, fun a u _ ea => hf a u ea, lf, nwf, e1.st.keep (g.trans sg) hf nwf⟩
  exact q _ _ _ (e1.trans x2) ⟨o, dx', gs, rfl, upd_same, en.mono sg⟩

/-! ### built-ins -/
theorem ev_cb {id : String} {r : List V → Hp → VK → Prop} (hc : CallR X (.builtin id) r) (hm : X.mg x = none) (hv : bootBuiltins x = some (.builtin id)) (ht : RCT z.sa r Ts W) (ha : EvA X z δ (e :: es) Ts) (hg : Gl X x := by rfl)
    (hn : x ≠ "__name__" := by decide) (hdb : (x == ("__debug__" : Str)) = false := by decide) (he : starEach (e :: es) X.env = (false, eval e X.env) :: starEach es X.env := by rfl) (hpl : (backTo pos (starEach es X.env)).any (·.1) = false := by rfl) :
    EvD X z δ (.Call (.Name x p) (e :: es) [] pos) W := fun G H σ bg rs Q q =>
  w_pe (pe_callB hc hg hm hv pa_w hn hdb he hpl) (ha G H σ bg rs _ fun vs G1 H1 e1 ts => ht vs G1 H1 e1.le e1.st ts Q fun v G2 H2 e2 w => q v G2 H2 (e1.trans e2) w)
theorem ev_ct {Tn : String} {r : List V → Hp → VK → Prop} (hc : CallR X (.type Tn) r) (hm : X.mg x = none) (hv : bootBuiltins x = some (.type Tn)) (ht : RCT z.sa r Ts W) (ha : EvA X z δ (e :: es) Ts) (hg : Gl X x := by rfl)
    (hn : x ≠ "__name__" := by decide) (hdb : (x == ("__debug__" : Str)) = false := by decide) (he : starEach (e :: es) X.env = (false, eval e X.env) :: starEach es X.env := by rfl) (hpl : (backTo pos (starEach es X.env)).any (·.1) = false := by rfl) :
    EvD X z δ (.Call (.Name x p) (e :: es) [] pos) W := fun G H σ bg rs Q q =>
  w_pe (pe_callTy hc hg hm hv pa_w hn hdb he hpl) (ha G H σ bg rs _ fun vs G1 H1 e1 ts => ht vs G1 H1 e1.le e1.st ts Q fun v G2 H2 e2 w => q v G2 H2 (e1.trans e2) w)
theorem reps1 {G : Hp} {vs : List V} (h : Reps G vs [T]) : ∃ v, vs = [v] ∧ T.p v G := by
  cases h with
  | cons t r => cases r; exact ⟨_, rfl, t⟩
theorem reps2 {G : Hp} {vs : List V} (h : Reps G vs [T, U]) : ∃ v w, vs = [v, w] ∧ T.p v G ∧ U.p w G := by
  cases h with
  | cons t r =>
    cases r with
    | cons u r => cases r; exact ⟨_, _, rfl, t, u⟩
theorem rct_val {sa : Option Addr} {r : List V → Hp → VK → Prop} (h : ∀ xs G H (Q : VK), Le G H → Reps G xs Ts → (∀ v, W.p v G → Q v H) → r xs H Q) : RCT sa r Ts W := fun xs G H l s t Q q => h xs G H Q l t fun v w => q v G H (Ext.rfl' l s) w
theorem ea1 (h : EvD X z δ a T) (he : starEach [a] X.env = (false, eval a X.env) :: starEach [] X.env := by rfl) : EvA X z δ [a] [T] := ea_cons h ea_nil he
theorem ea2 (h : EvD X z δ a T) (h2 : EvD X z δ b U) (he : starEach [a, b] X.env = (false, eval a X.env) :: starEach [b] X.env := by rfl) (he2 : starEach [b] X.env = (false, eval b X.env) :: starEach [] X.env := by rfl) : EvA X z δ [a, b] [T, U] := ea_cons h (ea1 h2 he2) he
theorem ev_lenL {Us : List Ty} (hm : X.mg "len" = none) (ha : EvD X z δ a (tL Us)) (hg : Gl X "len" := by rfl) (he : starEach [a] X.env = (false, eval a X.env) :: starEach [] X.env := by rfl) : EvD X z δ (.Call (.Name "len" p) [a] [] pos) (dat (.int (Us.length : Int))) :=
  ev_cb call_len_seq hm PySem.boot_len (rct_val fun xs G H Q l r q => by
    obtain ⟨v, rfl, d, vs, rfl, ed, rr⟩ := reps1 r
    refine ⟨d, vs, rfl, .inl (SqL.of (l.at_ ed rfl)), q _ ?_⟩
    rw [Paired.length rr]
    exact .int _) (ea1 ha he) hg (by decide) (by decide) he rfl
theorem ev_lenT {Us : List Ty} (hm : X.mg "len" = none) (ha : EvD X z δ a (tT Us)) (hg : Gl X "len" := by rfl) (he : starEach [a] X.env = (false, eval a X.env) :: starEach [] X.env := by rfl) : EvD X z δ (.Call (.Name "len" p) [a] [] pos) (dat (.int (Us.length : Int))) :=
  ev_cb call_len_seq hm PySem.boot_len (rct_val fun xs G H Q l r q => by
    obtain ⟨v, rfl, d, vs, rfl, ed, rr⟩ := reps1 r
    refine ⟨d, vs, rfl, .inr (SqT.of (l.at_ ed rfl)), q _ ?_⟩
    rw [Paired.length rr]
    exact .int _) (ea1 ha he) hg (by decide) (by decide) he rfl
theorem ev_lenLd {ds : List PyData} (hm : X.mg "len" = none) (ha : EvD X z δ a (dat (.list ds))) (hg : Gl X "len" := by rfl) (he : starEach [a] X.env = (false, eval a X.env) :: starEach [] X.env := by rfl) : EvD X z δ (.Call (.Name "len" p) [a] [] pos) (dat (.int (ds.length : Int))) := by
  have h := ev_lenL (p := p) (pos := pos) hm ha.toL hg he
  rw [List.length_map] at h
  exact h
theorem ev_lenTd {ds : List PyData} (hm : X.mg "len" = none) (ha : EvD X z δ a (dat (.tuple ds))) (hg : Gl X "len" := by rfl) (he : starEach [a] X.env = (false, eval a X.env) :: starEach [] X.env := by rfl) : EvD X z δ (.Call (.Name "len" p) [a] [] pos) (dat (.int (ds.length : Int))) := by
  have h := ev_lenT (p := p) (pos := pos) hm ha.toT hg he
  rw [List.length_map] at h
  exact h
theorem ev_lenS {y : Str} (hl : y.length ≤ 1000) (hm : X.mg "len" = none) (ha : EvD X z δ a (dat (.str y))) (hg : Gl X "len" := by rfl) (he : starEach [a] X.env = (false, eval a X.env) :: starEach [] X.env := by rfl) : EvD X z δ (.Call (.Name "len" p) [a] [] pos) (dat (.int (y.length : Int))) :=
  ev_cb call_len_str hm PySem.boot_len (rct_val fun xs G H Q l r q => by
    obtain ⟨v, rfl, t⟩ := reps1 r
    rw [Rp.str_of t]
    exact ⟨y, rfl, Nat.le_of_lt (small1000 hl), q _ (.int _)⟩) (ea1 ha he) hg (by decide) (by decide) he rfl
theorem call_lenR : CallR X (.builtin "len") (fun xs H Q => ∃ a kvs, xs = [V.ref a] ∧ Rd H a (.dK kvs) ∧ Q (.int kvs.length) H) := by
  intro pins s σ H xs us Q I r h
  obtain ⟨a, kvs, rfl, ha, q⟩ := h
  obtain ⟨u, rfl, ru⟩ := vals1 r
  cases ru
  exact d_len I ha fun t s' J => ⟨.int kvs.length, H, J, ⟨t, rfl⟩, q⟩
theorem Ents.length {κ : Type} {G : Hp} {kvs : List (κ × V)} {es : List (κ × Ty)} (h : Ents G kvs es) : kvs.length = es.length := Paired.length h
theorem ev_lenD {es' : List (Key × Ty)} (hm : X.mg "len" = none) (ha : EvD X z δ a (tDR es')) (hg : Gl X "len" := by rfl) (he : starEach [a] X.env = (false, eval a X.env) :: starEach [] X.env := by rfl) : EvD X z δ (.Call (.Name "len" p) [a] [] pos) (dat (.int (es'.length : Int))) :=
  ev_cb call_lenR hm PySem.boot_len (rct_val fun xs G H Q l r q => by
    obtain ⟨v, rfl, d, vs, rfl, ed, rr⟩ := reps1 r
    refine ⟨d, vs, rfl, l.rd ed, q _ ?_⟩
    rw [rr.length]
    exact .int _) (ea1 ha he) hg (by decide) (by decide) he rfl
theorem ev_max2 {i j : Int} (hc : X.calm = true) (hm : X.mg "max" = none) (ha : EvD X z δ a (dat (.int i))) (hb : EvD X z δ b (dat (.int j))) (hg : Gl X "max" := by rfl) (he : starEach [a, b] X.env = (false, eval a X.env) :: starEach [b] X.env := by rfl) (he2 : starEach [b] X.env = (false, eval b X.env) :: starEach [] X.env := by rfl)
    (hpl : (backTo pos (starEach [b] X.env)).any (·.1) = false := by rfl) : EvD X z δ (.Call (.Name "max" p) [a, b] [] pos) (dat (.int (if j > i then j else i))) :=
  ev_cb (call_max2 hc) hm (by decide +kernel) (rct_val fun xs G H Q l r q => by
    obtain ⟨v, w, rfl, t, u⟩ := reps2 r
    rw [Rp.int_of t, Rp.int_of u]
    exact ⟨i, j, rfl, q _ (.int _)⟩) (ea2 ha hb he he2) hg (by decide) (by decide) he hpl
theorem ev_min2 {i j : Int} (hc : X.calm = true) (hm : X.mg "min" = none) (ha : EvD X z δ a (dat (.int i))) (hb : EvD X z δ b (dat (.int j))) (hg : Gl X "min" := by rfl) (he : starEach [a, b] X.env = (false, eval a X.env) :: starEach [b] X.env := by rfl) (he2 : starEach [b] X.env = (false, eval b X.env) :: starEach [] X.env := by rfl)
    (hpl : (backTo pos (starEach [b] X.env)).any (·.1) = false := by rfl) : EvD X z δ (.Call (.Name "min" p) [a, b] [] pos) (dat (.int (if j < i then j else i))) :=
  ev_cb (call_min2 hc) hm (by decide +kernel) (rct_val fun xs G H Q l r q => by
    obtain ⟨v, w, rfl, t, u⟩ := reps2 r
    rw [Rp.int_of t, Rp.int_of u]
    exact ⟨i, j, rfl, q _ (.int _)⟩) (ea2 ha hb he he2) hg (by decide) (by decide) he hpl
theorem ev_intI {i : Int} (hm : X.mg "int" = none) (ha : EvD X z δ a (dat (.int i))) (hg : Gl X "int" := by rfl) (he : starEach [a] X.env = (false, eval a X.env) :: starEach [] X.env := by rfl) : EvD X z δ (.Call (.Name "int" p) [a] [] pos) (dat (.int i)) :=
  ev_ct call_int1 hm (by decide +kernel) (rct_val fun xs G H Q l r q => by
    obtain ⟨v, rfl, t⟩ := reps1 r
    rw [Rp.int_of t]
    exact .inl ⟨i, rfl, q _ (.int _)⟩) (ea1 ha he) hg (by decide) (by decide) he rfl
/-- list(a list, a tuple), tuple(a list) -/
theorem rct_new {sa : Option Addr} {r : List V → Hp → VK → Prop} (h : ∀ xs G H (Q : VK), Le G H → Reps G xs Ts → (∀ p o, H p = none → W.p (.ref p) (upd G p o) → Q (.ref p) (upd H p o)) → r xs H Q) : RCT sa r Ts W := fun xs G H l s t Q q =>
  h xs G H Q l t fun p o hp w => q _ _ _ (Ext.new l s hp) w
theorem same_new {G H : Hp} {p : Addr} {o : HO} (l : Le G H) (n : H p = none) : Same G (upd G p o) := (Ext.new (sa := none) l trivial n).g
theorem ev_listL {Us : List Ty} (hm : X.mg "list" = none) (ha : EvD X z δ a (tL Us)) (hg : Gl X "list" := by rfl) (he : starEach [a] X.env = (false, eval a X.env) :: starEach [] X.env := by rfl) : EvD X z δ (.Call (.Name "list" p) [a] [] pos) (tL Us) :=
  ev_ct call_list_of hm (by decide +kernel) (rct_new fun xs G H Q l r q => by
    obtain ⟨v, rfl, d, vs, rfl, ed, rr⟩ := reps1 r
    exact ⟨d, vs, rfl, .inl (SqL.of (l.at_ ed rfl)), fun c hc => q c _ hc ⟨c, _, rfl, upd_same, rr.mono (same_new l hc)⟩⟩) (ea1 ha he) hg (by decide) (by decide) he rfl
theorem ev_listT {Us : List Ty} (hm : X.mg "list" = none) (ha : EvD X z δ a (tT Us)) (hg : Gl X "list" := by rfl) (he : starEach [a] X.env = (false, eval a X.env) :: starEach [] X.env := by rfl) : EvD X z δ (.Call (.Name "list" p) [a] [] pos) (tL Us) :=
  ev_ct call_list_of hm (by decide +kernel) (rct_new fun xs G H Q l r q => by
    obtain ⟨v, rfl, d, vs, rfl, ed, rr⟩ := reps1 r
    exact ⟨d, vs, rfl, .inr (SqT.of (l.at_ ed rfl)), fun c hc => q c _ hc ⟨c, _, rfl, upd_same, rr.mono (same_new l hc)⟩⟩) (ea1 ha he) hg (by decide) (by decide) he rfl
theorem ev_tupL {Us : List Ty} (hm : X.mg "tuple" = none) (ha : EvD X z δ a (tL Us)) (hg : Gl X "tuple" := by rfl) (he : starEach [a] X.env = (false, eval a X.env) :: starEach [] X.env := by rfl) : EvD X z δ (.Call (.Name "tuple" p) [a] [] pos) (tT Us) :=
  ev_ct call_tuple_of hm (by decide +kernel) (rct_new fun xs G H Q l r q => by
    obtain ⟨v, rfl, d, vs, rfl, ed, rr⟩ := reps1 r
    exact ⟨d, vs, rfl, .inl ⟨SqL.of (l.at_ ed rfl), fun c hc => q c _ hc ⟨c, _, rfl, upd_same, rr.mono (same_new l hc)⟩⟩⟩) (ea1 ha he) hg (by decide) (by decide) he rfl
theorem ev_dictD {es' : List (Key × Ty)} (hm : X.mg "dict" = none) (ha : EvD X z δ a (tDR es')) (hg : Gl X "dict" := by rfl) (he : starEach [a] X.env = (false, eval a X.env) :: starEach [] X.env := by rfl) : EvD X z δ (.Call (.Name "dict" p) [a] [] pos) (tDK es') :=
  ev_ct call_dictD hm (by decide +kernel) (rct_new fun xs G H Q l r q => by
    obtain ⟨v, rfl, d, vs, rfl, ed, rr⟩ := reps1 r
    exact ⟨d, vs, rfl, l.rd ed, fun c hc => q c _ hc ⟨c, _, rfl, upd_same, rr.mono (same_new l hc)⟩⟩) (ea1 ha he) hg (by decide) (by decide) he rfl
theorem reps_bools {G : Hp} : ∀ {vs : List V} {bs : List Bool}, Reps G vs (bs.map fun b => dat (.bool b)) → vs = bs.map V.bl
  | [], [], _ => rfl
  | _ :: _, [], h => by cases h
  | [], _ :: _, h => by cases h
  | _ :: _, _ :: _, h => by cases h with | cons t r => rw [List.map_cons, ← reps_bools r, Rp.bl_of t]
theorem ev_all {bs : List Bool} (hc : X.calm = true) (hm : X.mg "all" = none) (ha : EvD X z δ a (tL (bs.map fun b => dat (.bool b)))) (hg : Gl X "all" := by rfl) (he : starEach [a] X.env = (false, eval a X.env) :: starEach [] X.env := by rfl) : EvD X z δ (.Call (.Name "all" p) [a] [] pos) (dat (.bool (bs.all id))) :=
  ev_cb (cr_all hc) hm (by decide +kernel) (rct_val fun xs G H Q l r q => by
    obtain ⟨v, rfl, d, vs, rfl, ed, rr⟩ := reps1 r
    have e := reps_bools rr
    subst e
    exact ⟨d, bs, rfl, SqL.of (l.at_ ed rfl), q _ (.bl _)⟩) (ea1 ha he) hg (by decide) (by decide) he rfl

/-! ### isinstance -/
def tyN : PyData → String
  | .none => "NoneType"
  | .bool _ => "bool"
  | .int _ => "int"
  | .str _ => "str"
  | .list _ => "list"
  | .tuple _ => "tuple"
  | .dict _ => "dict"
theorem Rp.ty {K : PySem.W.Frag} {G H : Hp} (l : Le G H) {v : V} {d : PyData} (h : Rp G v d) : TyX K H v (.type (tyN d)) := by
  cases h with
  | non => exact .base .non
  | bl b => exact .base (.bl b)
  | int i => exact .base (.int i)
  | str y => exact .base (.str y)
  | lst e r => exact .base (.lst (l.at_ e rfl))
  | tup e r => exact .base (.tup (l.at_ e rfl))
theorem ev_isi {d : PyData} {n : String} {r : Bool} (hm : X.mg "isinstance" = none) (hk : PySem.W.kitOne X.K (.type (tyN d)) (.type n) = some r) (ha : EvD X z δ a (dat d)) (hb : EvD X z δ b (tRaw (.ty n))) (hg : Gl X "isinstance" := by rfl) (he : starEach [a, b] X.env = (false, eval a X.env) :: starEach [b] X.env := by rfl) (he2 : starEach [b] X.env = (false, eval b X.env) :: starEach [] X.env := by rfl)
    (hpl : (backTo pos (starEach [b] X.env)).any (·.1) = false := by rfl) : EvD X z δ (.Call (.Name "isinstance" p) [a, b] [] pos) (dat (.bool r)) :=
  ev_cb call_isi hm (by decide +kernel) (rct_val fun xs G H Q l rr q => by
    obtain ⟨v, w, rfl, t, u⟩ := reps2 rr
    have u : w = .ty n := u
    subst u
    exact ⟨v, .ty n, _, _, r, rfl, .ty n, Rp.ty l t, hk, q _ (.bl _)⟩) (ea2 ha hb he he2) hg (by decide) (by decide) he hpl
/-- isinstance(x, (A, B)) -/
theorem ev_isi2 {d : PyData} {m n : String} {r : Bool} (hm : X.mg "isinstance" = none) (hk : PySem.W.kitAny X.K (.type (tyN d)) [.type m, .type n] = some r) (ha : EvD X z δ a (dat d)) (hb : EvD X z δ b (tT [tRaw (.ty m), tRaw (.ty n)])) (hg : Gl X "isinstance" := by rfl) (he : starEach [a, b] X.env = (false, eval a X.env) :: starEach [b] X.env := by rfl) (he2 : starEach [b] X.env = (false, eval b X.env) :: starEach [] X.env := by rfl)
    (hpl : (backTo pos (starEach [b] X.env)).any (·.1) = false := by rfl) : EvD X z δ (.Call (.Name "isinstance" p) [a, b] [] pos) (dat (.bool r)) :=
  ev_cb call_isiT hm (by decide +kernel) (rct_val fun xs G H Q l rr q => by
    obtain ⟨v, w, rfl, t, tp, cs, rfl, ed, uu⟩ := reps2 rr
    obtain ⟨c1, c2, rfl, h1, h2⟩ := reps2 uu
    have h1 : c1 = .ty m := h1
    have h2 : c2 = .ty n := h2
    subst h1 h2
    exact ⟨v, tp, _, _, [.type m, .type n], r, rfl, l.at_ ed rfl, .cons (.ty m) (.cons (.ty n) .nil), Rp.ty l t, hk, q _ (.bl _)⟩) (ea2 ha hb he he2) hg (by decide) (by decide) he hpl

/-! ### what is walked -/
def EvIw (X : Cx) (z : Zn) (δ : List (Option Ty)) (wi : TI) (n : Nat) (T : Nat → Ty) : Prop := ∀ (G H : Hp) (σ : L2.St), Bg z G H → RepS G σ δ → ∀ R : It → Hp → Prop,
  (∀ J G' H' (N : Hp → Prop) (Y : Nat → Hp → V → Hp → Prop), Ext z.sa G H G' H' → Walk J n N Y → (∀ G2 H2, Same G' G2 → Le G2 H2 → N H2) →
    (∀ i G2 H2 v H3, i < n → Same G' G2 → Le G2 H2 → StI z.sa G2 H2 → Y i H2 v H3 → ∃ G3, Ext z.sa G2 H2 G3 H3 ∧ (T i).p v G3) → R J H') → wi σ H R
def EvI (X : Cx) (z : Zn) (δ : List (Option Ty)) (tg it : Expr) (n : Nat) (T : Nat → Ty) : Prop := ∃ wi, PI X tg it wi ∧ EvIw X z δ wi n T
variable {tg it : Expr}
theorem ei_list {Us : List Ty} (ha : EvD X z δ it (tL Us)) : EvI X z δ tg it Us.length (fun i => Us.getD i tAny) := ⟨_, pi_list pe_w, fun G H σ bg rs R q => ha G H σ bg rs _ fun v G1 H1 e1 t => by
  obtain ⟨d, vs, rfl, ed, r⟩ := t
  have hl := Paired.length r
  refine ⟨d, rfl, ⟨vs, SqL.of (e1.le.at_ ed rfl)⟩, q (Itl X.K d) G1 H1 _ _ e1 (hl ▸ walk_list (K := X.K) (a := d) (xs := vs)) (fun G2 H2 s l => SqL.of (l.at_ (s _ _ ed) rfl)) fun i G2 H2 v H3 hi s l st y => ?_⟩
  obtain ⟨rfl, hv⟩ := y
  refine ⟨G2, Ext.rfl' l st, ?_⟩
  obtain ⟨w, hw, tw⟩ := r.at_ (i := i) (T := Us.getD i tAny) (by rw [List.getD_eq_getElem?_getD, List.getElem?_eq_getElem hi]; rfl)
  rw [hv] at hw
  cases hw
  exact (Us.getD i tAny).mono s tw⟩
theorem ei_tup {Us : List Ty} (ha : EvD X z δ it (tT Us)) : EvI X z δ tg it Us.length (fun i => Us.getD i tAny) := ⟨_, pi_tup pe_w, fun G H σ bg rs R q => ha G H σ bg rs _ fun v G1 H1 e1 t => by
  obtain ⟨d, vs, rfl, ed, r⟩ := t
  have hl := Paired.length r
  refine ⟨d, rfl, ⟨vs, SqT.of (e1.le.at_ ed rfl)⟩, q (Itt X.K d) G1 H1 _ _ e1 (hl ▸ walk_tup (K := X.K) (a := d) (xs := vs)) (fun G2 H2 s l => SqT.of (l.at_ (s _ _ ed) rfl)) fun i G2 H2 v H3 hi s l st y => ?_⟩
  obtain ⟨rfl, hv⟩ := y
  refine ⟨G2, Ext.rfl' l st, ?_⟩
  obtain ⟨w, hw, tw⟩ := r.at_ (i := i) (T := Us.getD i tAny) (by rw [List.getD_eq_getElem?_getD, List.getElem?_eq_getElem hi]; rfl)
  rw [hv] at hw
  cases hw
  exact (Us.getD i tAny).mono s tw⟩
theorem ei_range1 {m : Int} (hm : X.mg "range" = none) (hb : -(2 ^ 62) ≤ m ∧ m < 2 ^ 62) (ha : EvD X z δ a (dat (.int m))) (hg : Gl X "range" := by rfl) (hs : starEach [a] X.env = [(false, eval a X.env)] := by rfl) :
    EvI X z δ tg (.Call (.Name "range" p) [a] [] pos) m.toNat (fun i => dat (.int (i : Int))) := ⟨_, pi_range1 hg hm (pa_cons pe_w pa_nil hs) hs, fun G H σ bg rs R q => ha G H σ bg rs _ fun v G1 H1 e1 t => by
  refine ⟨m, by rw [Rp.int_of t], hb.1, hb.2, q (Itr 0 m.toNat) G1 H1 _ _ e1 walk_range (fun _ _ _ _ => trivial) fun i G2 H2 v H3 hi s l st y => ?_⟩
  obtain ⟨rfl, rfl⟩ := y
  refine ⟨G2, Ext.rfl' l st, ?_⟩
  show Rp G2 (.int ((0 : Int) + (i : Int))) _
  rw [Int.zero_add]
  exact .int _⟩
theorem ei_range2 {m l : Int} (hm : X.mg "range" = none) (hb : -(2 ^ 62) ≤ l ∧ l < 2 ^ 62 ∧ -(2 ^ 62) ≤ m ∧ m < 2 ^ 62) (ha : EvD X z δ a (dat (.int l))) (hb' : EvD X z δ b (dat (.int m))) (hg : Gl X "range" := by rfl) (hs : starEach [a, b] X.env = [(false, eval a X.env), (false, eval b X.env)] := by rfl) (hs1 : starEach [a, b] X.env = (false, eval a X.env) :: starEach [b] X.env := by rfl) (hs2 : starEach [b] X.env = (false, eval b X.env) :: starEach [] X.env := by rfl) (hs3 : starEach [b] X.env = [(false, eval b X.env)] := by rfl) :
    EvI X z δ tg (.Call (.Name "range" p) [a, b] [] pos) (m - l).toNat (fun i => dat (.int (l + (i : Int)))) := ⟨_, pi_range2 hg hm (pa_cons pe_w (pa_cons pe_w pa_nil hs2) hs1) hs hs3, fun G H σ bg rs R q => ha G H σ bg rs _ fun v G1 H1 e1 t => hb' G1 H1 σ (bg.ext e1) (rs.mono e1.g) _ fun v2 G2 H2 e2 t2 => by
  refine ⟨l, m, by rw [Rp.int_of t, Rp.int_of t2], hb, q (Itr l (m - l).toNat) G2 H2 _ _ (e1.trans e2) walk_range (fun _ _ _ _ => trivial) fun i G3 H3 v H4 hi s l' st y => ?_⟩
  obtain ⟨rfl, rfl⟩ := y
  exact ⟨G3, Ext.rfl' l' st, .int _⟩⟩
theorem ei_str {y : Str} (ha : EvD X z δ it (dat (.str y))) : EvI X z δ tg it y.cps.size (fun i => dat (.str ⟨#[y.cps.toList.getD i 0]⟩)) := ⟨_, pi_str pe_w, fun G H σ bg rs R q => ha G H σ bg rs _ fun v G1 H1 e1 t => by
  refine ⟨y, Rp.str_of t, q (Its y) G1 H1 _ _ e1 walk_str (fun _ _ _ _ => trivial) fun i G2 H2 v H3 hi s l st w => ?_⟩
  obtain ⟨rfl, c, hc, rfl⟩ := w
  refine ⟨G2, Ext.rfl' l st, ?_⟩
  have e : y.cps.toList.getD i 0 = c := by
    rw [List.getD_eq_getElem?_getD, Array.getElem?_toList, hc]
    rfl
  show Rp G2 (.str ⟨#[c]⟩) (.str ⟨#[y.cps.toList.getD i 0]⟩)
  rw [e]
  exact .str _⟩
theorem ei_enum {Us : List Ty} {tpos : Pos} {elts : List Expr} {kk : Nat} (hm : X.mg "enumerate" = none) (ha : EvD X z δ a (tL Us)) (hg : Gl X "enumerate" := by rfl) (hs : starEach [a] X.env = [(false, eval a X.env)] := by rfl) :
    EvI X z δ (.Tuple elts kk tpos) (.Call (.Name "enumerate" p) [a] [] pos) Us.length (fun i => tT [dat (.int (i : Int)), Us.getD i tAny]) := ⟨_, pi_enum hg hm (pa_cons pe_w pa_nil hs) hs, fun G H σ bg rs R q => ha G H σ bg rs _ fun v G1 H1 e1 t => by
  obtain ⟨d, vs, rfl, ed, r⟩ := t
  have hl := Paired.length r
  refine ⟨d, vs, rfl, SqL.of (e1.le.at_ ed rfl), q (Ite X.K d) G1 H1 _ _ e1 (hl ▸ walk_enum (K := X.K) (a := d) (xs := vs)) (fun G2 H2 s l => SqL.of (l.at_ (s _ _ ed) rfl)) fun i G2 H2 v H3 hi s l st y => ?_⟩
  obtain ⟨t, v1, v2, rfl, nt, rfl, h1, h2⟩ := y
  cases h1
  obtain ⟨w, hw, tw⟩ := r.at_ (i := i) (T := Us.getD i tAny) (by rw [List.getD_eq_getElem?_getD, List.getElem?_eq_getElem hi]; rfl)
  have h2 : vs[i]? = some v2 := h2
  rw [h2] at hw
  cases hw
  have n := Ext.new (sa := z.sa) (o := .tup [.int (i : Nat), v2]) l st nt
  exact ⟨_, n, t, _, rfl, upd_same, .cons (.int _) (.cons ((Us.getD i tAny).mono (s.trans n.g) tw) .nil)⟩⟩
end
end Z
end
section
set_option maxRecDepth 100000
set_option maxHeartbeats 4000000
/-! Z3: comprehensions; statements over slots by types and objects of one's own. -/
namespace Z
open PySem PySem.Spec PyProof.Rows L2

/-! ### wiped slots -/
theorem wipe_get (σ : L2.St) (i : Nat) : ∀ vs : List Nat, (wipe σ vs)[i]? = if i ∈ vs then (σ[i]?).map (fun _ => none) else σ[i]?
  | [] => by simp [wipe]
  | v :: vs => by
    have ih := wipe_get σ i vs
    show ((wipe σ vs).set v none)[i]? = _
    by_cases h : v = i
    · subst h
      rw [if_pos List.mem_cons_self]
      rcases Nat.lt_or_ge v σ.length with l | l
      · rw [List.getElem?_set_self (by rw [wipe_length]; exact l), List.getElem?_eq_getElem l]
        rfl
      · rw [List.getElem?_eq_none (by rw [List.length_set, wipe_length]; exact l), List.getElem?_eq_none l]
        rfl
    · rw [List.getElem?_set_ne h, ih]
      by_cases m : i ∈ vs
      · rw [if_pos m, if_pos (List.mem_cons_of_mem _ m)]
      · rw [if_neg m, if_neg (fun q => by rcases List.mem_cons.mp q with e | q; exact h e.symm; exact m q)]
theorem wipe_eq {σ σ' : L2.St} {vs : List Nat} (h : ∀ i, i ∉ vs → σ'[i]? = σ[i]?) (hl : σ'.length = σ.length) : wipe σ' vs = wipe σ vs := by
  refine List.ext_getElem? fun i => ?_
  rw [wipe_get, wipe_get]
  by_cases m : i ∈ vs
  · rw [if_pos m, if_pos m]
    rcases Nat.lt_or_ge i σ.length with l | l
    · rw [List.getElem?_eq_getElem l, List.getElem?_eq_getElem (by rw [hl]; exact l)]
      rfl
    · rw [List.getElem?_eq_none l, List.getElem?_eq_none (by rw [hl]; exact l)]
  · rw [if_neg m, if_neg m, h i m]
theorem wipe_wipe (σ : L2.St) (vs : List Nat) : wipe (wipe σ vs) vs = wipe σ vs := wipe_eq (fun i m => by rw [wipe_get, if_neg m]) (wipe_length σ vs)

/-! ### a thing in the making at D -/
structure ExtB (sa : Option Addr) (D : Addr) (G H G' H' : Hp) : Prop where
  g : Same G G'
  h : ∀ a o, a ≠ D → sa ≠ some a → H a = some o → H' a = some o
  le : Le G' H'
  nw : ∀ a, NT H a → G a = none → G' a = none
  st : StI sa G' H'
  nd : G' D = none
theorem no_sa {sa : Option Addr} {G H : Hp} {D : Addr} (st : StI sa G H) (n : H D = none) : sa ≠ some D := fun e => by
  rw [e] at st
  exact st.tracked n
theorem g_none {G H : Hp} {D : Addr} (l : Le G H) (n : H D = none) : G D = none := by
  cases h : G D with
  | none => rfl
  | some u => have h := l D u h; rw [n] at h; cases h
theorem ExtB.start {sa : Option Addr} {D : Addr} {G H : Hp} {o : HO} (l : Le G H) (st : StI sa G H) (n : H D = none) : ExtB sa D G H G (upd H D o) :=
  have x := Ext.newH (o := o) l st n
  ⟨x.g, fun a u ne ns e => x.h a u ns e, x.le, x.nw, x.st, g_none l n⟩
theorem ExtB.nt {sa : Option Addr} {D : Addr} {G H G1 H1 : Hp} (n : H D = none) (b : ExtB sa D G H G1 H1) {a : Addr} (ha : NT H a) : NT H1 a := by
  by_cases c : sa = some a
  · have st := b.st
    rw [c] at st
    obtain ⟨_, c, cells, i, r, k, seed, _, e, _⟩ := st
    exact ⟨_, e, rfl⟩
  · obtain ⟨o, ho, q⟩ := ha
    exact ⟨o, b.h a o (ne_of_none ho n) c ho, q⟩
theorem ExtB.next {sa : Option Addr} {D : Addr} {G H G1 H1 G2 H2 : Hp} (n : H D = none) (hd : NT H1 D) (b : ExtB sa D G H G1 H1) (x : Ext sa G1 H1 G2 H2) : ExtB sa D G H G2 H2 :=
  ⟨b.g.trans x.g, fun a o ne ns e => x.h a o ns (b.h a o ne ns e), x.le, fun a ha e => x.nw a (b.nt n ha) (b.nw a ha e), x.st, x.nw D hd b.nd⟩
theorem ExtB.put {sa : Option Addr} {D : Addr} {G H G1 H1 : Hp} {o : HO} (b : ExtB sa D G H G1 H1) (ns : sa ≠ some D) : ExtB sa D G H G1 (upd H1 D o) :=
  ⟨b.g, fun a u ne ns' e => by rw [upd_ne ne]; exact b.h a u ne ns' e, fun a u e => by
    have ne : a ≠ D := fun z => by rw [z, b.nd] at e; cases e
    rw [upd_ne ne]
    exact b.le a u e, b.nw, by
    have st := b.st
    cases sa with
    | none => trivial
    | some s =>
      obtain ⟨n, c, cells, i, r, k, seed, e1, e2, e3⟩ := st
      exact ⟨n, c, cells, i, r, k, seed, e1, by rw [upd_ne (fun z => ns (by rw [z]))]; exact e2, e3⟩, b.nd⟩
theorem ExtB.done {sa : Option Addr} {D : Addr} {G H G1 H1 : Hp} {o : HO} (n : H D = none) (ns : sa ≠ some D) (b : ExtB sa D G H G1 H1) (e : H1 D = some o) : Ext sa G H (upd G1 D o) H1 ∧ Same G1 (upd G1 D o) := by
  have sg : Same G1 (upd G1 D o) := fun a u q => by rw [upd_ne (ne_of_none q b.nd)]; exact q
  refine ⟨⟨b.g.trans sg, fun a u ns q => b.h a u (ne_of_none q n) ns q, fun a u q => ?_, fun a ha q => ?_, ?_⟩, sg⟩
  · by_cases c : a = D
    · subst c
      rw [upd_same] at q
      cases q
      exact e
    · rw [upd_ne c] at q
      exact b.le a u q
  · rw [upd_ne (fun z => ha.ne (by rw [z]; exact n))]
    exact b.nw a ha q
  · have st := b.st
    cases sa with
    | none => trivial
    | some s =>
      obtain ⟨ng, c, cells, i, r, k, seed, e1, e2, e3⟩ := st
      exact ⟨by rw [upd_ne (fun z => ns (by rw [z]))]; exact ng, c, cells, i, r, k, seed, sg _ _ e1, e2, e3⟩
theorem Bg.extB {z : Zn} {G H G' H' : Hp} {D : Addr} (b : Bg z G H) (n : H D = none) (x : ExtB z.sa D G H G' H') : Bg z G' H' :=
  ⟨x.le, b.g0.trans x.g, fun a o nb e => x.h a o (ne_of_none (b.h0 a o nb e) n) (fun q => nb (z.hs a q)) (b.h0 a o nb e), fun a ha => by
    have h1 := b.al a ha
    by_cases c : z.sa = some a
    · have st := x.st
      rw [c] at st
      exact st.tracked
    · obtain ⟨o, ho⟩ := some_of h1
      exact ne_none (x.h a o (fun q => h1 (by rw [q]; exact n)) c ho), fun a ha => x.nt n (b.nt a ha), fun a ha e => x.nw a (b.nt a ha) (b.nw a ha e), x.st⟩

/-! ### comprehensions -/
section
variable {X : Cx} {z : Zn} {δ : List (Option Ty)} {a b c e elt tg iter kx vx : Expr} {ifs : List Expr} {scope : Scope} {own : List (Str × Nat)} {pos : Pos} {n : Nat} {T : Nat → Ty}
def tWTs (X : Cx) (ifs : List Expr) : TT := fun σ H Q => ∀ (pins : List (Addr × Obj)) (s : Shared), Inv X pins σ H s →
  wpAny (model X.prog X.w) X.A (forIn ifs true fun c r => if r = true then do let ok ← isTrue c X.env (eval c X.env); pure (ForInStep.yield ok) else pure (ForInStep.yield r)) (TP X pins σ Q) X.xe s
theorem w_pts {X : Cx} {ifs : List Expr} {t : TT} (h : PTs X ifs t) {σ : L2.St} {H : Hp} {Q : Bool → Hp → Prop} (q : t σ H Q) : tWTs X ifs σ H Q := fun pins s I => h.run pins s σ H Q I q
/-- tests of a comprehension -/
def EvTs (X : Cx) (z : Zn) (δ : List (Option Ty)) (ifs : List Expr) (p : Bool) : Prop := ∀ (G H : Hp) (σ : L2.St), Bg z G H → RepS G σ δ → ∀ Q : Bool → Hp → Prop, (∀ G' H', Ext z.sa G H G' H' → Q p H') → tWTs X ifs σ H Q
theorem et_nil : EvTs X z δ [] true := fun G H σ bg rs Q q => w_pts pts_nil (q G H bg.rfl')
theorem et_one {p : Bool} (h : EvB X z δ c (fun b => b = p)) : EvTs X z δ [c] p := fun G H σ bg rs Q q => w_pts (pts_one pt_w) (h G H σ bg rs _ fun d G1 H1 e1 hd => by
  subst hd
  exact q G1 H1 e1)
/-- what a target does in a block -/
structure TgB (X : Cx) (scope : Scope) (vs : List Nat) (tg : Expr) (T : Ty) (δ δ' : List (Option Ty)) (g : TG) : Prop where
  pg : ∀ (s : Shared) (H : Hp) (C : Addr) (cl : List (Str × Addr)) (fp : List Addr), PG (X.blk s H scope (compEnvC scope cl C X.env) fp) tg g
  to : ∀ (G H : Hp) (σ : L2.St) (v : V), Le G H → RepS G σ δ → T.p v G → ∀ Q : L2.St → Hp → Prop, (∀ σ', RepS G σ' δ' → wipe σ' vs = wipe σ vs → Q σ' H) → g v σ H Q
theorem tb_name {vs : List Nat} {U : Ty} (j : Nat) (hj : j ∈ vs) (pg : ∀ (s : Shared) (H : Hp) (C : Addr) (cl : List (Str × Addr)) (fp : List Addr), PG (X.blk s H scope (compEnvC scope cl C X.env) fp) tg (gName j)) : TgB X scope vs tg U δ (δ.set j (some U)) (gName j) :=
  ⟨pg, fun G H σ v l r t Q q => q _ (r.set t j) (wipe_eq (fun i m => by rw [List.getElem?_set_ne (fun (e : j = i) => m (e ▸ hj))]) (by rw [List.length_set]))⟩
theorem tb_pair {vs : List Nat} {A B : Ty} {e1 e2 : Expr} {kk : Nat} {tpos : Pos} (i j : Nat) (hi : i ∈ vs) (hj : j ∈ vs)
    (pg : ∀ (s : Shared) (H : Hp) (C : Addr) (cl : List (Str × Addr)) (fp : List Addr), PG (X.blk s H scope (compEnvC scope cl C X.env) fp) (.Tuple [e1, e2] kk tpos) (gTup X.K 2 (gCons (gName i) (gCons (gName j) gNil)))) :
    TgB X scope vs (.Tuple [e1, e2] kk tpos) (tT [A, B]) δ ((δ.set i (some A)).set j (some B)) (gTup X.K 2 (gCons (gName i) (gCons (gName j) gNil))) :=
  ⟨pg, fun G H σ v l r t Q q => by
    obtain ⟨d, ws, rfl, ed, rr⟩ := t
    obtain ⟨v1, v2, rfl, t1, t2⟩ := reps2 rr
    exact ⟨d, _, rfl, SqT.of (l.at_ ed rfl), rfl, v1, _, rfl, v2, _, rfl, rfl, q _ ((r.set t1 i).set t2 j) (wipe_eq (fun m h => by
      rw [List.getElem?_set_ne (fun (e : j = m) => h (e ▸ hj)), List.getElem?_set_ne (fun (e : i = m) => h (e ▸ hi))]) (by rw [List.length_set, List.length_set]))⟩⟩
theorem range_keep {n : Nat} {keep : Nat → Bool} {β : Type} {U : Nat → β} : (((List.range (n + 1)).filter keep).map U) = (((List.range n).filter keep).map U) ++ (if keep n = true then [U n] else []) := by
  rw [List.range_succ, List.filter_append, List.map_append]
  congr 1
  by_cases h : keep n = true
  · simp [h]
  · simp [h]
theorem range_len {n : Nat} {keep : Nat → Bool} {β : Type} {U : Nat → β} : (((List.range n).filter keep).map U).length ≤ n := by
  rw [List.length_map]
  have h := List.length_filter_le keep (List.range n)
  rw [List.length_range] at h
  exact h
theorem tyes {σ : L2.St} {H : Hp} {A B : Hp → Prop} (h : A H) : tYes σ H fun b H3 => if b = true then A H3 else B H3 := (iteT h : if true = true then A H else B H)
/-- the readings of a block's parts, the same in every block -/
def uT (X : Cx) (scope : Scope) (ifs : List Expr) : TT := fun σ H' Q' => ∀ (s : Shared) (H : Hp) (C : Addr) (cl : List (Str × Addr)) (fp : List Addr), tWTs (X.blk s H scope (compEnvC scope cl C X.env) fp) ifs σ H' Q'
def uE (X : Cx) (scope : Scope) (e : Expr) : TE := fun σ H' Q' => ∀ (s : Shared) (H : Hp) (C : Addr) (cl : List (Str × Addr)) (fp : List Addr), tW (X.blk s H scope (compEnvC scope cl C X.env) fp) e σ H' Q'
theorem lc_c (δ1 : Nat → List (Option Ty)) (keep : Nat → Bool) (U : Nat → Ty) {g : TG} {wi : TI} (hwi : EvIw X z δ wi n T)
    (hg : ∀ i, i < n → TgB X scope (own.map (·.2)) tg (T i) (wipeT δ (own.map (·.2))) (δ1 i) g)
    (ht : ∀ i, i < n → ∀ (s : Shared) (H : Hp) (C : Addr) (cl : List (Str × Addr)) (fp : List Addr), EvTs (X.blk s H scope (compEnvC scope cl C X.env) fp) z (δ1 i) ifs (keep i))
    (he : ∀ i, i < n → keep i = true → ∀ (s : Shared) (H : Hp) (C : Addr) (cl : List (Str × Addr)) (fp : List Addr), EvD (X.blk s H scope (compEnvC scope cl C X.env) fp) z (δ1 i) elt (U i)) (hz : n ≤ 1000) {G H : Hp} {σ : L2.St} (bg : Bg z G H) (rs : RepS G σ δ) {Q : VK} (q : ∀ v G' H', Ext z.sa G H G' H' → (tL (((List.range n).filter keep).map U)).p v G' → Q v H') : tLc wi g (uT X scope ifs) (uE X scope elt) (own.map (·.2)) σ H Q := by
  refine hwi G H σ bg rs _ fun J G1 H1 N Y e1 wk hN1 hY => fun D hD => ?_
  have ns := no_sa e1.st hD
  refine lc_it wk (g := g) (tt := uT X scope ifs) (te := uE X scope elt) (vs := own.map (·.2)) (σ := σ) (D := D) (Qd := fun H9 => Q (.ref D) H9) (fun i H' => ∃ G' vs, ExtB z.sa D G1 H1 G' H' ∧ H' D = some (.lst vs) ∧ Reps G' vs (((List.range i).filter keep).map U)) ⟨G1, [], ExtB.start e1.le e1.st hD, upd_same, .nil⟩
    (fun i H' _ ⟨G', vs, x, _, _⟩ => hN1 G' H' x.g x.le) (fun i v H2 H3 hin ⟨G', vs, x, ed, r⟩ hy => ?_) fun H' ⟨G', vs, x, ed, r⟩ => ?_
  · obtain ⟨G3, x3, tv⟩ := hY i G' H2 v H3 hin x.g x.le x.st hy
    have b3 : ExtB z.sa D G1 H1 G3 H3 := x.next hD ⟨_, ed, rfl⟩ x3
    have ed3 : H3 D = some (.lst vs) := x3.h D _ ns ed
    have rs3 : RepS G3 (wipe σ (own.map (·.2))) (wipeT δ (own.map (·.2))) := (rs.mono (e1.g.trans b3.g)).wipe _
    refine (hg i hin).to G3 H3 _ v x3.le rs3 tv _ fun σ' r' w' => ⟨w'.trans (wipe_wipe _ _), fun s H0 C cl fp => ht i hin s H0 C cl fp G3 H3 σ' (bg.ext e1 |>.extB hD b3) r' _ fun G4 H4 x4 => ?_⟩
    have b4 := b3.next hD ⟨_, ed3, rfl⟩ x4
    have ed4 : H4 D = some (.lst vs) := x4.h D _ ns ed3
    cases hk : keep i with
    | false =>
      refine iteF ⟨G4, vs, b4, ed4, ?_⟩
      rw [range_keep, hk]
      simpa using r.mono (x3.g.trans x4.g)
    | true =>
      refine iteT fun s H0 C cl fp => he i hin hk s H0 C cl fp G4 H4 σ' (bg.ext e1 |>.extB hD b4) (r'.mono x4.g) _ fun y G5 H5 x5 ty => ?_
      have b5 := b4.next hD ⟨_, ed4, rfl⟩ x5
      have ed5 : H5 D = some (.lst vs) := x5.h D _ ns ed4
      refine ⟨vs, ed5, ?_, G5, vs ++ [y], b5.put ns, upd_same, ?_⟩
      · rw [Paired.length r]
        exact small1000 (Nat.le_trans range_len (Nat.le_trans (Nat.le_of_lt hin) hz))
      · rw [range_keep, hk]
        exact (r.mono ((x3.g.trans x4.g).trans x5.g)).append (.cons ty .nil)
  · obtain ⟨x9, sg⟩ := x.done hD ns ed
    exact q _ _ _ (e1.trans x9) ⟨D, vs, rfl, upd_same, r.mono sg⟩
theorem ev_lc (δ1 : Nat → List (Option Ty)) (keep : Nat → Bool) (U : Nat → Ty) {g : TG} (hc : X.calm = true) (hN : X.N.Nodup) (hi : EvI X z δ tg iter n T) (ok : BlkOk X.N X.env.scope scope own)
    (hg : ∀ i, i < n → TgB X scope (own.map (·.2)) tg (T i) (wipeT δ (own.map (·.2))) (δ1 i) g) (hg0 : ∀ (s : Shared) (H : Hp) (C : Addr) (cl : List (Str × Addr)) (fp : List Addr), PG (X.blk s H scope (compEnvC scope cl C X.env) fp) tg g)
    (ht : ∀ i, i < n → ∀ (s : Shared) (H : Hp) (C : Addr) (cl : List (Str × Addr)) (fp : List Addr), EvTs (X.blk s H scope (compEnvC scope cl C X.env) fp) z (δ1 i) ifs (keep i))
    (he : ∀ i, i < n → keep i = true → ∀ (s : Shared) (H : Hp) (C : Addr) (cl : List (Str × Addr)) (fp : List Addr), EvD (X.blk s H scope (compEnvC scope cl C X.env) fp) z (δ1 i) elt (U i)) (hz : n ≤ 1000)
    (hs : ∀ x, foldedSetIterable iter X.env x = pure x := by intro _; rfl) : EvD X z δ (.ListComp elt [⟨tg, iter, ifs, 0⟩] scope pos) (tL (((List.range n).filter keep).map U)) := fun G H σ bg rs Q q => by
  obtain ⟨wi, hpi, hwi⟩ := hi
  refine w_pe (pe_lc (own := own) (g := g) (tt := uT X scope ifs) (te := uE X scope elt) hc hN hpi ok hg0
    (fun s H C cl fp => ⟨fun pins s' σ' H' Q' I h => h s H C cl fp pins s' I⟩) (fun s H C cl fp => ⟨fun pins s' σ' H' Q' I h => h s H C cl fp pins s' I⟩) hs) ?_
  exact lc_c δ1 keep U hwi hg ht he hz bg rs q
theorem putK_snoc {κ : Type} [DecidableEq κ] {kvs : List (κ × V)} {k : κ} {v : V} (h : k ∉ kvs.map (·.1)) : putK kvs k v = kvs ++ [(k, v)] := putK_new v (by
  cases e : valV kvs k with
  | none => rfl
  | some w => exact absurd (valV_in e) h)
theorem Ents.keys {κ : Type} {G : Hp} : ∀ {kvs : List (κ × V)} {es : List (κ × Ty)}, Ents G kvs es → kvs.map (·.1) = es.map (·.1)
  | _, _, .nil => rfl
  | _, _, .cons h t => by rw [List.map_cons, List.map_cons, Ents.keys t, h.1]
theorem Ents.snoc {κ : Type} {G : Hp} {k : κ} {v : V} {U : Ty} : ∀ {kvs : List (κ × V)} {es : List (κ × Ty)}, Ents G kvs es → U.p v G → Ents G (kvs ++ [(k, v)]) (es ++ [(k, U)])
  | _, _, .nil, h => .cons ⟨rfl, h⟩ .nil
  | _, _, .cons q t, h => .cons q (Ents.snoc t h)
/-- a dict, the keys all different -/
theorem ev_dc (δ1 : Nat → List (Option Ty)) (ky : Nat → Key) (U : Nat → Ty) {g : TG} (hc : X.calm = true) (hN : X.N.Nodup) (hi : EvI X z δ tg iter n T) (ok : BlkOk X.N X.env.scope scope own)
    (hg : ∀ i, i < n → TgB X scope (own.map (·.2)) tg (T i) (wipeT δ (own.map (·.2))) (δ1 i) g) (hg0 : ∀ (s : Shared) (H : Hp) (C : Addr) (cl : List (Str × Addr)) (fp : List Addr), PG (X.blk s H scope (compEnvC scope cl C X.env) fp) tg g)
    (hk : ∀ i, i < n → ∀ (s : Shared) (H : Hp) (C : Addr) (cl : List (Str × Addr)) (fp : List Addr), EvD (X.blk s H scope (compEnvC scope cl C X.env) fp) z (δ1 i) kx (tRaw (kV (ky i))))
    (he : ∀ i, i < n → ∀ (s : Shared) (H : Hp) (C : Addr) (cl : List (Str × Addr)) (fp : List Addr), EvD (X.blk s H scope (compEnvC scope cl C X.env) fp) z (δ1 i) vx (U i)) (hz : n ≤ 1000) (hd : ((List.range n).map ky).Nodup)
    (hs : ∀ x, foldedSetIterable iter X.env x = pure x := by intro _; rfl) : EvD X z δ (.DictComp kx vx [⟨tg, iter, [], 0⟩] scope pos) (tDK ((List.range n).map fun i => (ky i, U i))) := fun G H σ bg rs Q q => by
  obtain ⟨wi, hpi, hwi⟩ := hi
  refine w_pe (pe_dc (own := own) (g := g) (tt := tYes) (tk := uE X scope kx) (tv := uE X scope vx) hc hN hpi ok hg0 (fun _ _ _ _ _ => pts_nil)
    (fun s H C cl fp => ⟨fun pins s' σ' H' Q' I h => h s H C cl fp pins s' I⟩) (fun s H C cl fp => ⟨fun pins s' σ' H' Q' I h => h s H C cl fp pins s' I⟩) hs) ?_
  refine hwi G H σ bg rs _ fun J G1 H1 N Y e1 wk hN1 hY => fun D hD => ?_
  have ns := no_sa e1.st hD
  have go : ∀ (i : Nat), i ≤ n → ∀ ky' : Nat → Key, ((List.range i).map fun j => (ky' j, U j)).map (·.1) = (List.range i).map ky' := fun i _ ky' => by rw [List.map_map]; rfl
  refine ⟨fun i m H' => m = n - i ∧ i ≤ n ∧ ∃ G' kvs, ExtB z.sa D G1 H1 G' H' ∧ H' D = some (.dK kvs) ∧ Ents G' kvs ((List.range i).map fun j => (ky j, U j)), ⟨n, by simp, Nat.zero_le _, G1, [], ExtB.start e1.le e1.st hD, upd_same, .nil⟩, ?_⟩
  rintro i m H2 ⟨rfl, hin, G', kvs, x, ed, r⟩
  have hN2 := hN1 G' H2 x.g x.le
  by_cases hlt : i < n
  · refine .inr ⟨wk.goes i H2 hlt hN2, fun H' => ∃ G' kvs, ExtB z.sa D G1 H1 G' H' ∧ H' D = some (.dK kvs) ∧ Ents G' kvs ((List.range (i + 1)).map fun j => (ky j, U j)), fun H' p' => ⟨n - (i + 1), by omega, rfl, hlt, p'⟩, fun v H3 hy => ?_⟩
    obtain ⟨G3, x3, tv⟩ := hY i G' H2 v H3 hlt x.g x.le x.st (wk.yields i H2 v H3 hlt hN2 hy)
    have b3 : ExtB z.sa D G1 H1 G3 H3 := x.next hD ⟨_, ed, rfl⟩ x3
    have ed3 : H3 D = some (.dK kvs) := x3.h D _ ns ed
    have rs3 : RepS G3 (wipe σ (own.map (·.2))) (wipeT δ (own.map (·.2))) := (rs.mono (e1.g.trans b3.g)).wipe _
    refine (hg i hlt).to G3 H3 _ v x3.le rs3 tv _ fun σ' r' w' => ⟨w'.trans (wipe_wipe _ _), ?_⟩
    refine tyes fun s H0 C cl fp => hk i hlt s H0 C cl fp G3 H3 σ' (bg.ext e1 |>.extB hD b3) r' _ fun y G4 H4 x4 ty => ?_
    have b4 := b3.next hD ⟨_, ed3, rfl⟩ x4
    have ed4 : H4 D = some (.dK kvs) := x4.h D _ ns ed3
    intro s H0 C cl fp
    refine he i hlt s H0 C cl fp G4 H4 σ' (bg.ext e1 |>.extB hD b4) (r'.mono x4.g) _ fun w G5 H5 x5 tw => ?_
    have b5 := b4.next hD ⟨_, ed4, rfl⟩ x5
    have ed5 : H5 D = some (.dK kvs) := x5.h D _ ns ed4
    have hkn : ky i ∉ kvs.map (·.1) := by
      rw [r.keys, go i (Nat.le_of_lt hlt)]
      intro m
      have h2 : ((List.range (i + 1)).map ky).Nodup := by
        have e : (List.range n).map ky = (List.range (i + 1)).map ky ++ ((List.range (n - (i + 1))).map fun j => ky (i + 1 + j)) := by
          have : n = (i + 1) + (n - (i + 1)) := by omega
          conv => lhs; rw [this, List.range_add, List.map_append, List.map_map]
          rfl
        rw [e] at hd
        exact (List.nodup_append.mp hd).1
      rw [List.range_succ, List.map_append] at h2
      exact (List.nodup_append.mp h2).2.2 _ m _ (by simp) rfl
    refine ⟨kvs, ky i, ty, ed5, ?_, G5, kvs ++ [(ky i, w)], ?_, ?_, ?_⟩
    · rw [r.length, List.length_map, List.length_range]
      exact small1000 (Nat.le_trans (Nat.le_of_lt hlt) hz)
    · exact b5.put ns
    · rw [upd_same, putK_snoc hkn]
    · rw [List.range_succ, List.map_append]
      exact (r.mono ((x3.g.trans x4.g).trans x5.g)).snoc tw
  · have e : i = n := by omega
    subst e
    obtain ⟨x9, sg⟩ := x.done hD ns ed
    exact .inl ⟨wk.stops H2 hN2, q _ _ _ (e1.trans x9) ⟨D, kvs, rfl, upd_same, r.mono sg⟩⟩
end
end Z
end
section
set_option maxRecDepth 100000
set_option maxHeartbeats 4000000
/-! Z4: statements: slots by types, objects of one's own (changed by no one else), a zone. -/
namespace Z
open PySem PySem.Spec PyProof.Rows L2

/-! ### objects of one's own -/
structure Cy where
  p : HO → Hp → Prop
  mono : ∀ {o : HO} {G G' : Hp}, Same G G' → p o G → p o G'
  nt : ∀ {o : HO} {G : Hp}, p o G → isTup o = false
def Cy.ty (C : Cy) : Ty := ⟨fun v G => ∃ a o, v = .ref a ∧ G a = some o ∧ C.p o G, fun s h => let ⟨a, o, e, f, c⟩ := h; ⟨a, o, e, s _ _ f, C.mono s c⟩⟩
def cL (Ts : List Ty) : Cy := ⟨fun o G => ∃ vs, o = .lst vs ∧ Reps G vs Ts, fun s h => let ⟨vs, e, r⟩ := h; ⟨vs, e, r.mono s⟩, fun h => by obtain ⟨vs, rfl, _⟩ := h; rfl⟩
def cDK (es : List (Key × Ty)) : Cy := ⟨fun o G => ∃ kvs, o = .dK kvs ∧ Ents G kvs es, fun s h => let ⟨vs, e, r⟩ := h; ⟨vs, e, r.mono s⟩, fun h => by obtain ⟨vs, rfl, _⟩ := h; rfl⟩
def cIn (C : Addr) (fs : List (Str × Ty)) : Cy := ⟨fun o G => ∃ dx gs, o = .ins C dx gs ∧ Ents G gs fs, fun s h => let ⟨dx, vs, e, r⟩ := h; ⟨dx, vs, e, r.mono s⟩, fun h => by obtain ⟨dx, vs, rfl, _⟩ := h; rfl⟩
/-- a list of n things of one type -/
def cAll (T : Ty) (n : Nat) : Cy := ⟨fun o G => ∃ vs, o = .lst vs ∧ vs.length = n ∧ ∀ v ∈ vs, T.p v G, fun s h => let ⟨vs, e, l, r⟩ := h; ⟨vs, e, l, fun v m => T.mono s (r v m)⟩, fun h => by obtain ⟨vs, rfl, _⟩ := h; rfl⟩
theorem cL_ty {Ts : List Ty} {v : V} {G : Hp} : (cL Ts).ty.p v G ↔ (tL Ts).p v G :=
  ⟨fun ⟨a, o, e, f, vs, q, r⟩ => ⟨a, vs, e, by rw [f, q], r⟩, fun ⟨a, vs, e, f, r⟩ => ⟨a, _, e, f, vs, rfl, r⟩⟩
theorem cDK_ty {es : List (Key × Ty)} {v : V} {G : Hp} : (cDK es).ty.p v G ↔ (tDK es).p v G :=
  ⟨fun ⟨a, o, e, f, vs, q, r⟩ => ⟨a, vs, e, by rw [f, q], r⟩, fun ⟨a, vs, e, f, r⟩ => ⟨a, _, e, f, vs, rfl, r⟩⟩
/-- the slot, the address if it must stay that one, what stands there -/
abbrev OwE := Nat × Option Addr × Cy
abbrev Own := List OwE
/-- new since the entry, or the caller's own that is handed in -/
structure OwB (z : Zn) (al : Option Addr) (a : Addr) : Prop where
  new : al = none → z.H0 a = none
  or_ : z.H0 a = none ∨ z.B a
def Ow (z : Zn) (G H : Hp) (σ : L2.St) : List Addr → Own → Prop
  | _, [] => True
  | av, (i, al, C) :: r => ∃ a o, σ[i]? = some (some (.ref a)) ∧ (∀ b, al = some b → a = b) ∧ a ∉ av ∧ G a = none ∧ z.sa ≠ some a ∧ OwB z al a ∧ H a = some o ∧ C.p o G ∧ Ow z G H σ (a :: av) r
theorem Ow.ext {z : Zn} {G H G' H' : Hp} {σ : L2.St} (x : Ext z.sa G H G' H') : ∀ {Ω : Own} {av : List Addr}, Ow z G H σ av Ω → Ow z G' H' σ av Ω
  | [], _, _ => trivial
  | (i, al, C) :: r, av, h => by
    obtain ⟨a, o, e, pa, n, g, s, b, f, c, t⟩ := h
    exact ⟨a, o, e, pa, n, x.nw a ⟨_, f, C.nt c⟩ g, s, b, x.h a o s f, C.mono x.g c, Ow.ext x t⟩
theorem Ow.slot {z : Zn} {G H : Hp} {σ σ' : L2.St} : ∀ {Ω : Own} {av : List Addr}, (∀ q ∈ Ω, σ'[q.1]? = σ[q.1]?) → Ow z G H σ av Ω → Ow z G H σ' av Ω
  | [], _, _, _ => trivial
  | (i, al, C) :: r, av, w, h => by
    obtain ⟨a, o, e, pa, n, g, s, b, f, c, t⟩ := h
    exact ⟨a, o, by rw [w (i, al, C) List.mem_cons_self]; exact e, pa, n, g, s, b, f, c, Ow.slot (fun q m => w q (List.mem_cons_of_mem _ m)) t⟩
theorem Ow.av {z : Zn} {G H : Hp} {σ : L2.St} : ∀ {Ω : Own} {av av' : List Addr}, (∀ a ∈ av', a ∈ av) → Ow z G H σ av Ω → Ow z G H σ av' Ω
  | [], _, _, _, _ => trivial
  | (i, al, C) :: r, av, av', w, h => by
    obtain ⟨a, o, e, pa, n, g, s, b, f, c, t⟩ := h
    exact ⟨a, o, e, pa, fun m => n (w a m), g, s, b, f, c, Ow.av (fun y m => by rcases List.mem_cons.mp m with q | q; exact q ▸ List.mem_cons_self; exact List.mem_cons_of_mem _ (w y q)) t⟩
theorem Ow.put {z : Zn} {G H : Hp} {σ : L2.St} {p : Addr} {o' : HO} : ∀ {Ω : Own} {av : List Addr}, p ∈ av → Ow z G H σ av Ω → Ow z G (upd H p o') σ av Ω
  | [], _, _, _ => trivial
  | (i, al, C) :: r, av, w, h => by
    obtain ⟨a, o, e, pa, n, g, s, b, f, c, t⟩ := h
    exact ⟨a, o, e, pa, n, g, s, b, by rw [upd_ne (fun (q : a = p) => n (q ▸ w))]; exact f, c, Ow.put (List.mem_cons_of_mem _ w) t⟩
theorem Ow.swap {z : Zn} {G H : Hp} {σ : L2.St} {q1 q2 : OwE} {r : Own} {av : List Addr} (h : Ow z G H σ av (q1 :: q2 :: r)) : Ow z G H σ av (q2 :: q1 :: r) := by
  obtain ⟨i, al, C⟩ := q1
  obtain ⟨j, al2, C2⟩ := q2
  obtain ⟨a, o, e, pa, n, g, s, b, f, c, a2, o2, e2, pa2, n2, g2, s2, b2, f2, c2, t⟩ := h
  refine ⟨a2, o2, e2, pa2, fun m => n2 (List.mem_cons_of_mem _ m), g2, s2, b2, f2, c2, a, o, e, pa, fun m => ?_, g, s, b, f, c, Ow.av (fun y m => ?_) t⟩
  · rcases List.mem_cons.mp m with q | q
    · exact n2 (q ▸ List.mem_cons_self)
    · exact n q
  · rcases List.mem_cons.mp m with q | q
    · exact q ▸ List.mem_cons_of_mem _ List.mem_cons_self
    · rcases List.mem_cons.mp q with q | q
      · exact q ▸ List.mem_cons_self
      · exact List.mem_cons_of_mem _ (List.mem_cons_of_mem _ q)
/-- an object that comes new: the others stay -/
theorem Ow.more {z : Zn} {G H : Hp} {σ : L2.St} {p : Addr} (n : H p = none) : ∀ {Ω : Own} {av : List Addr}, Ow z G H σ av Ω → Ow z G H σ (p :: av) Ω
  | [], _, _ => trivial
  | (i, al, C) :: r, av, h => by
    obtain ⟨a, o, e, pa, na, g, s, b, f, c, t⟩ := h
    refine ⟨a, o, e, pa, fun m => ?_, g, s, b, f, c, Ow.av (fun y m => ?_) (Ow.more n t)⟩
    · rcases List.mem_cons.mp m with q | q
      · rw [q, n] at f
        cases f
      · exact na q
    · rcases List.mem_cons.mp m with q | q
      · exact q ▸ List.mem_cons_of_mem _ List.mem_cons_self
      · rcases List.mem_cons.mp q with q | q
        · exact q ▸ List.mem_cons_self
        · exact List.mem_cons_of_mem _ (List.mem_cons_of_mem _ q)

structure Good (z : Zn) (G H : Hp) (σ : L2.St) (δ : List (Option Ty)) (Ω : Own) : Prop where
  bg : Bg z G H
  rs : RepS G σ δ
  ow : Ow z G H σ [] Ω
theorem Good.ext {z : Zn} {G H G' H' : Hp} {σ : L2.St} {δ : List (Option Ty)} {Ω : Own} (g : Good z G H σ δ Ω) (x : Ext z.sa G H G' H') : Good z G' H' σ δ Ω := ⟨g.bg.ext x, g.rs.mono x.g, g.ow.ext x⟩
theorem Good.swap {z : Zn} {G H : Hp} {σ : L2.St} {δ : List (Option Ty)} {q1 q2 : OwE} {r : Own} (g : Good z G H σ δ (q1 :: q2 :: r)) : Good z G H σ δ (q2 :: q1 :: r) := ⟨g.bg, g.rs, g.ow.swap⟩
theorem Good.weak {z : Zn} {G H : Hp} {σ : L2.St} {δ δ' : List (Option Ty)} {Ω : Own} (g : Good z G H σ δ Ω) (w : Wk δ δ') : Good z G H σ δ' Ω := ⟨g.bg, g.rs.weak w, g.ow⟩
theorem Good.drop {z : Zn} {G H : Hp} {σ : L2.St} {δ : List (Option Ty)} {q : OwE} {Ω : Own} (g : Good z G H σ δ (q :: Ω)) : Good z G H σ δ Ω := by
  obtain ⟨i, al, C⟩ := q
  obtain ⟨a, o, e, _, n, _, s, b, f, c, t⟩ := g.ow
  exact ⟨g.bg, g.rs, t.av fun _ m => nomatch m⟩

/-! ### types that lean on tuples alone -/
def Flat (T : Ty) : Prop := ∀ (v : V) (G G' : Hp), (∀ b vs, G b = some (.tup vs) → G' b = some (.tup vs)) → T.p v G → T.p v G'
mutual
def lf : PyData → Bool
  | .list _ => false
  | .dict _ => false
  | .tuple ds => lfs ds
  | .none => true
  | .bool _ => true
  | .int _ => true
  | .str _ => true
def lfs : List PyData → Bool
  | [] => true
  | d :: ds => lf d && lfs ds
end
mutual
theorem Rp.flat {G G' : Hp} (s : ∀ b vs, G b = some (.tup vs) → G' b = some (.tup vs)) : ∀ {v : V} {d : PyData}, lf d = true → Rp G v d → Rp G' v d
  | _, _, _, .non => .non
  | _, _, _, .bl b => .bl b
  | _, _, _, .int i => .int i
  | _, _, _, .str x => .str x
  | _, _, h, .lst e r => by simp [lf] at h
  | _, _, h, .tup e r => .tup (s _ _ e) (Rps.flat s (by simpa [lf] using h) r)
theorem Rps.flat {G G' : Hp} (s : ∀ b vs, G b = some (.tup vs) → G' b = some (.tup vs)) : ∀ {vs : List V} {ds : List PyData}, lfs ds = true → Rps G vs ds → Rps G' vs ds
  | _, _, _, .nil => .nil
  | _ :: _, d :: ds, h, .cons q t => by
    have h' : lf d = true ∧ lfs ds = true := by simpa [lfs] using h
    exact .cons (Rp.flat s h'.1 q) (Rps.flat s h'.2 t)
end
theorem flat_dat {d : PyData} (h : lf d = true) : Flat (dat d) := fun v G G' s t => Rp.flat s h t
theorem flat_ex {ι : Type} {P : ι → Prop} {F : ι → Ty} (h : ∀ i, P i → Flat (F i)) : Flat (tEx P F) := fun v G G' s ⟨i, p, t⟩ => ⟨i, p, h i p v G G' s t⟩
theorem flat_raw {u : V} : Flat (tRaw u) := fun _ _ _ _ t => t

/-! ### the head of one's own seen as a datum -/
def Zn.at_ (G H : Hp) : Zn := ⟨none, G, H, fun _ => False, fun _ e => nomatch e⟩
theorem view_up {z : Zn} {G H : Hp} {σ : L2.St} {δ : List (Option Ty)} {i : Nat} {al : Option Addr} {C : Cy} {Ω : Own} (g : Good z G H σ δ ((i, al, C) :: Ω)) :
    ∃ a o, Bg (Zn.at_ (upd G a o) H) (upd G a o) H ∧ RepS (upd G a o) σ (δ.set i (some C.ty)) ∧ H a = some o ∧ G a = none ∧
      C.p o G ∧ ∀ G' H', Ext none (upd G a o) H G' H' → ∃ G'', Ext z.sa G H G'' H' ∧ G' a = some o ∧ ∀ b u, b ≠ a → G' b = some u → G'' b = some u := by
  obtain ⟨a, o, e, _, _, ga, sa, b, f, c, t⟩ := g.ow
  have sg : Same G (upd G a o) := fun y u q => by rw [upd_ne (ne_of_none q ga)]; exact q
  have le : Le (upd G a o) H := fun y u q => by
    by_cases h : y = a
    · subst h
      rw [upd_same] at q
      cases q
      exact f
    · rw [upd_ne h] at q
      exact g.bg.le y u q
  refine ⟨a, o, ⟨le, Same.refl _, fun y u _ q => q, fun _ n => n, fun _ n => n, fun _ _ n => n, trivial⟩, ?_, f, ga, c, fun G' H' x => ⟨fun y => if y = a then none else G' y, ?_, x.g a o upd_same, fun y vs h q => ?_⟩⟩
  · have r := g.rs.mono sg
    refine ⟨by rw [List.length_set]; exact r.len, fun j T q => ?_⟩
    by_cases h : i = j
    · subst h
      have hl : i < δ.length := by
        rcases Nat.lt_or_ge i δ.length with h | h
        · exact h
        · rw [List.getElem?_eq_none (by rw [List.length_set]; exact h)] at q
          cases q
      rw [List.getElem?_set_self hl] at q
      cases q
      exact ⟨.ref a, e, a, o, rfl, upd_same, C.mono sg c⟩
    · rw [List.getElem?_set_ne h] at q
      exact r.at_ j T q
  · have na : ∀ y, G y ≠ none → y ≠ a := fun y n w => n (by rw [w]; exact ga)
    have g2 : Same G (fun y => if y = a then none else G' y) := fun y u q => by
      show (if y = a then none else G' y) = _
      rw [if_neg (na y (ne_none q))]
      exact x.g y u (sg y u q)
    have h2 : Same H H' := fun y u q => x.h y u (fun w => nomatch w) q
    have n2 : ∀ y, NT H y → G y = none → (fun y => if y = a then none else G' y) y = none := fun y n q => by
      show (if y = a then none else G' y) = _
      by_cases h : y = a
      · rw [if_pos h]
      · rw [if_neg h]
        exact x.nw y n (by rw [upd_ne h]; exact q)
    refine ⟨g2, fun y u _ q => h2 y u q, fun y u q => ?_, n2, g.bg.st.keep g2 h2 n2⟩
    have q : (if y = a then none else G' y) = some u := q
    by_cases h : y = a
    · rw [if_pos h] at q
      cases q
    · rw [if_neg h] at q
      exact x.le y u q
  · show (if y = a then none else G' y) = _
    rw [if_neg h]
    exact q

section
variable {X : Cx} {z : Zn} {δ δ' : List (Option Ty)} {Ω : Own} {a b c e o : Expr} {es : List Expr} {pos : Pos} {T U W : Ty} {C : Cy} {i j : Nat} {al : Option Addr}
/-- e gives a T in a good state -/
def EvG (X : Cx) (z : Zn) (δ : List (Option Ty)) (Ω : Own) (e : Expr) (T : Ty) : Prop := ∀ (G H : Hp) (σ : L2.St), Good z G H σ δ Ω → ∀ Q : VK, (∀ v G' H', Ext z.sa G H G' H' → T.p v G' → Q v H') → tW X e σ H Q
def EvGB (X : Cx) (z : Zn) (δ : List (Option Ty)) (Ω : Own) (e : Expr) (P : Bool → Prop) : Prop := ∀ (G H : Hp) (σ : L2.St), Good z G H σ δ Ω → ∀ Q : Bool → Hp → Prop, (∀ b G' H', Ext z.sa G H G' H' → P b → Q b H') → tWT X e σ H Q
theorem EvD.g (h : EvD X z δ e T) : EvG X z δ Ω e T := fun G H σ g => h G H σ g.bg g.rs
theorem EvB.g {P : Bool → Prop} (h : EvB X z δ e P) : EvGB X z δ Ω e P := fun G H σ g => h G H σ g.bg g.rs
theorem EvG.swap {q1 q2 : OwE} {r : Own} (h : EvG X z δ (q1 :: q2 :: r) e T) : EvG X z δ (q2 :: q1 :: r) e T := fun G H σ g => h G H σ g.swap
theorem EvG.drop {q : OwE} (h : EvG X z δ Ω e T) : EvG X z δ (q :: Ω) e T := fun G H σ g => h G H σ g.drop
theorem EvGB.swap {P : Bool → Prop} {q1 q2 : OwE} {r : Own} (h : EvGB X z δ (q1 :: q2 :: r) e P) : EvGB X z δ (q2 :: q1 :: r) e P := fun G H σ g => h G H σ g.swap
theorem EvGB.drop {P : Bool → Prop} {q : OwE} (h : EvGB X z δ Ω e P) : EvGB X z δ (q :: Ω) e P := fun G H σ g => h G H σ g.drop
/-- the head of one's own is read as a datum; what comes of it leans on tuples alone -/
theorem EvG.view (f : Flat T) (h : ∀ z', z'.sa = none → (∀ b, ¬ z'.B b) → EvD X z' (δ.set i (some C.ty)) e T) : EvG X z δ ((i, al, C) :: Ω) e T := fun G H σ g Q q => by
  obtain ⟨a, o, bg, rs, _, _, c, back⟩ := view_up g
  refine h _ rfl (fun _ q => q) _ H σ bg rs Q fun v G' H' x t => ?_
  obtain ⟨G'', x2, ha, tt⟩ := back G' H' x
  exact q v G'' H' x2 (f v G' G'' (fun b vs e => tt b _ (fun w => by
    rw [w, ha] at e
    have := C.nt c
    cases e
    cases this) e) t)
theorem EvGB.view {P : Bool → Prop} (h : ∀ z', z'.sa = none → (∀ b, ¬ z'.B b) → EvB X z' (δ.set i (some C.ty)) e P) : EvGB X z δ ((i, al, C) :: Ω) e P := fun G H σ g Q q => by
  obtain ⟨a, o, bg, rs, _, _, c, back⟩ := view_up g
  refine h _ rfl (fun _ q => q) _ H σ bg rs Q fun v G' H' x t => ?_
  obtain ⟨G'', x2, ha, tt⟩ := back G' H' x
  exact q v G'' H' x2 t
theorem EvG.imp (h : EvG X z δ Ω e T) (f : ∀ v G, T.p v G → U.p v G) : EvG X z δ Ω e U := fun G H σ g Q q => h G H σ g Q fun v G' H' x t => q v G' H' x (f v G' t)
/-- the head of one's own, an instance, is read; what comes of it leans on no instance -/
def isIns : HO → Bool
  | .ins _ _ _ => true
  | _ => false
def FlatI (T : Ty) : Prop := ∀ (v : V) (G G' : Hp), (∀ b u, isIns u = false → G b = some u → G' b = some u) → T.p v G → T.p v G'
theorem EvG.viewI (hC : ∀ o G, C.p o G → isIns o = true) (f : FlatI T) (h : ∀ z', z'.sa = none → (∀ b, ¬ z'.B b) → EvD X z' (δ.set i (some C.ty)) e T) : EvG X z δ ((i, al, C) :: Ω) e T := fun G H σ g Q q => by
  obtain ⟨a, o, bg, rs, _, _, c, back⟩ := view_up g
  refine h _ rfl (fun _ q => q) _ H σ bg rs Q fun v G' H' x t => ?_
  obtain ⟨G'', x2, ha, tt⟩ := back G' H' x
  exact q v G'' H' x2 (f v G' G'' (fun b u hu e => tt b u (fun w => by
    rw [w, ha] at e
    have := hC o G c
    cases e
    rw [hu] at this
    cases this) e) t)
/-- a tuple of parts, each in a good state -/
def EvGA (X : Cx) (z : Zn) (δ : List (Option Ty)) (Ω : Own) (es : List Expr) (Ts : List Ty) : Prop := ∀ (G H : Hp) (σ : L2.St), Good z G H σ δ Ω → ∀ Q : List V → Hp → Prop, (∀ vs G' H', Ext z.sa G H G' H' → Reps G' vs Ts → Q vs H') → tWA X es σ H Q
theorem ga_nil : EvGA X z δ Ω [] [] := fun G H σ g Q q => w_pa pa_nil (q [] G H g.bg.rfl' .nil)
theorem ga_cons {Ts : List Ty} (h : EvG X z δ Ω e T) (hs : EvGA X z δ Ω es Ts) (hst : starEach (e :: es) X.env = (false, eval e X.env) :: starEach es X.env := by rfl) : EvGA X z δ Ω (e :: es) (T :: Ts) := fun G H σ g Q q =>
  w_pa (pa_cons pe_w pa_w hst) (h G H σ g _ fun v G1 H1 x t => hs G1 H1 σ (g.ext x) _ fun vs G2 H2 y ts => q _ G2 H2 (x.trans y) (.cons (T.mono y.g t) ts))
theorem eg_tup {x1} {Ts : List Ty} (h : EvGA X z δ Ω es Ts) (hl : Ts.length ≤ 1000) : EvG X z δ Ω (.Tuple es x1 pos) (tT Ts) := fun G H σ g Q q =>
  w_pe (pe_tup pa_w) (h G H σ g _ fun vs G1 H1 e1 t => ⟨Nat.le_trans (by rw [Paired.length t]; exact hl) (Nat.le_of_lt (small1000 (Nat.le_refl _))), fun p hp =>
    have n := Ext.new (sa := z.sa) (o := .tup vs) e1.le e1.st hp
    q _ _ _ (e1.trans n) ⟨p, vs, rfl, upd_same, t.mono n.g⟩⟩)
/-- a new object of one's own -/
def EvF (X : Cx) (z : Zn) (δ : List (Option Ty)) (Ω : Own) (e : Expr) (C : Cy) : Prop := ∀ (G H : Hp) (σ : L2.St), Good z G H σ δ Ω → ∀ Q : VK,
  (∀ a o G' H', Ext z.sa G H G' H' → H a = none → G' a = none → H' a = some o → C.p o G' → Q (.ref a) H') → tW X e σ H Q
theorem ef_lst {Ts : List Ty} (h : EvGA X z δ Ω es Ts) (hl : Ts.length ≤ 1000) : EvF X z δ Ω (.List es pos) (cL Ts) := fun G H σ g Q q =>
  w_pe (pe_lst pa_w) (h G H σ g _ fun vs G1 H1 e1 t => ⟨Nat.le_trans (by rw [Paired.length t]; exact hl) (Nat.le_of_lt (small1000 (Nat.le_refl _))), fun p hp =>
    have n := Ext.newH (sa := z.sa) (o := .lst vs) e1.le e1.st hp
    q p _ G1 _ (e1.trans n) (by
      cases hh : H p with
      | none => rfl
      | some u => exact absurd hp (e1.al (ne_none hh))) (g_none e1.le hp) upd_same ⟨vs, rfl, t⟩⟩)
theorem ef_nil : EvF X z δ Ω (.List [] pos) (cL []) := ef_lst ga_nil (Nat.zero_le _)
theorem ef_dict : EvF X z δ Ω (.Dict [] [] pos) (cDK []) := fun G H σ g Q q => w_pe pe_dnewK fun p hp =>
  have n := Ext.newH (sa := z.sa) (o := .dK []) g.bg.le g.bg.st hp
  q p _ G _ n hp (g_none g.bg.le hp) upd_same ⟨[], rfl, .nil⟩
/-- dict(d) -/
theorem ef_dictD {es' : List (Key × Ty)} {p : Pos} (hm : X.mg "dict" = none) (ha : EvG X z δ Ω a (tDR es')) (hg : Gl X "dict" := by rfl) (he : starEach [a] X.env = (false, eval a X.env) :: starEach [] X.env := by rfl) : EvF X z δ Ω (.Call (.Name "dict" p) [a] [] pos) (cDK es') := fun G H σ g Q q =>
  w_pe (pe_callTy call_dictD hg hm (by decide +kernel) (pa_cons pe_w pa_nil he) (by decide) (by decide) he rfl) (ha G H σ g _ fun v G1 H1 e1 t => by
    obtain ⟨d, kvs, rfl, ed, rr⟩ := t
    refine ⟨d, kvs, rfl, e1.le.rd ed, fun p hp => ?_⟩
    have n := Ext.newH (sa := z.sa) (o := .dK kvs) e1.le e1.st hp
    exact q p _ G1 _ (e1.trans n) (by
      cases hh : H p with
      | none => rfl
      | some u => exact absurd hp (e1.al (ne_none hh))) (g_none e1.le hp) upd_same ⟨kvs, rfl, rr⟩)

/-! ### statements -/
structure Dn where
  nx : List (Option Ty) → Own → Prop
  rt : VK
  bk : List (Option Ty) → Own → Prop := fun _ _ => False
  ct : List (Option Ty) → Own → Prop := fun _ _ => False
/-- F: what must stay known -/
def low (z : Zn) (F : Hp) (D : Dn) : Ends := { nx := fun σ H => ∃ G δ Ω, Good z G H σ δ Ω ∧ Same F G ∧ D.nx δ Ω, rt := D.rt, bk := fun σ H => ∃ G δ Ω, Good z G H σ δ Ω ∧ Same F G ∧ D.bk δ Ω, ct := fun σ H => ∃ G δ Ω, Good z G H σ δ Ω ∧ Same F G ∧ D.ct δ Ω }
def SWs (X : Cx) (z : Zn) (sts : List Stmt) (D : Dn) (δ : List (Option Ty)) (Ω : Own) : Prop := ∀ (F G H : Hp) (σ : L2.St), Same F G → Good z G H σ δ Ω → tWs X sts (low z F D) σ H
variable {D : Dn} {rest sa sb body : List Stmt} {x : Str} {p' : Pos}
theorem sw_nil (h : D.nx δ Ω) : SWs X z [] D δ Ω := fun F G H σ sf g => w_pss pss_nil ⟨G, δ, Ω, g, sf, h⟩
theorem sw_weak (w : Wk δ δ') (h : SWs X z sa D δ' Ω) : SWs X z sa D δ Ω := fun F G H σ sf g => h F G H σ sf (g.weak w)
theorem sw_swap {q1 q2 : OwE} {r : Own} (h : SWs X z sa D δ (q2 :: q1 :: r)) : SWs X z sa D δ (q1 :: q2 :: r) := fun F G H σ sf g => h F G H σ sf g.swap
theorem sw_drop {q : OwE} (h : SWs X z sa D δ Ω) : SWs X z sa D δ (q :: Ω) := fun F G H σ sf g => h F G H σ sf g.drop
theorem RepS.put {G : Hp} {σ : L2.St} {δ : List (Option Ty)} {i : Nat} {v : V} {T : Ty} (r : RepS G σ δ) (e : σ[i]? = some (some v)) (t : T.p v G) : RepS G σ (δ.set i (some T)) := by
  refine ⟨by rw [List.length_set]; exact r.len, fun j U q => ?_⟩
  by_cases h : i = j
  · subst h
    have hl : i < δ.length := by
      rcases Nat.lt_or_ge i δ.length with h | h
      · exact h
      · rw [List.getElem?_eq_none (by rw [List.length_set]; exact h)] at q
        cases q
    rw [List.getElem?_set_self hl] at q
    cases q
    exact ⟨v, e, t⟩
  · rw [List.getElem?_set_ne h] at q
    exact r.at_ j U q
/-- a slot seen wider -/
theorem sw_sub (i : Nat) (hi : δ[i]? = some (some T) := by rfl) (f : ∀ v G, T.p v G → U.p v G) (h : SWs X z sa D (δ.set i (some U)) Ω) : SWs X z sa D δ Ω := fun F G H σ sf g => by
  obtain ⟨v, e, t⟩ := g.rs.at_ i T hi
  exact h F G H σ sf ⟨g.bg, g.rs.put e (f v G t), g.ow⟩
/-- one's own becomes known for good -/
theorem Good.freeze {G H : Hp} {σ : L2.St} (g : Good z G H σ δ ((i, none, C) :: Ω)) : ∃ a o, G a = none ∧ H a = some o ∧ Good z (upd G a o) H σ (δ.set i (some C.ty)) Ω := by
  obtain ⟨a, o, e, pa, _, ga, ns, b, f, c, t⟩ := g.ow
  have sg : Same G (upd G a o) := fun y u q => by rw [upd_ne (ne_of_none q ga)]; exact q
  have le : Le (upd G a o) H := fun y u q => by
    by_cases h : y = a
    · subst h
      rw [upd_same] at q
      cases q
      exact f
    · rw [upd_ne h] at q
      exact g.bg.le y u q
  have h0 : z.H0 a = none := b.new rfl
  refine ⟨a, o, ga, f, ⟨⟨le, g.bg.g0.trans sg, g.bg.h0, g.bg.al, g.bg.nt, fun y n q => ?_, ?_⟩, (g.rs.mono sg).put e ⟨a, o, rfl, upd_same, C.mono sg c⟩, ?_⟩⟩
  · rw [upd_ne (fun w => n.ne (by rw [w]; exact h0))]
    exact g.bg.nw y n q
  · have q := g.bg.st
    cases hs : z.sa with
    | none => trivial
    | some s =>
      rw [hs] at q
      obtain ⟨n, cc, cells, i', r, k, seed, e1, e2, e3⟩ := q
      exact ⟨by rw [upd_ne (fun w => ns (by rw [hs, w]))]; exact n, cc, cells, i', r, k, seed, sg _ _ e1, e2, e3⟩
  · have go : ∀ {Ω : Own} {av : List Addr}, a ∈ av → Ow z G H σ av Ω → Ow z (upd G a o) H σ av Ω := by
      intro Ω
      induction Ω with
      | nil => intro _ _ _; trivial
      | cons q r ih =>
        obtain ⟨i2, al2, C2⟩ := q
        intro av m h
        obtain ⟨a2, o2, e2, pa2, n2, g2, s2, b2, f2, c2, t2⟩ := h
        exact ⟨a2, o2, e2, pa2, n2, by rw [upd_ne (fun (w : a2 = a) => n2 (w ▸ m))]; exact g2, s2, b2, f2, C2.mono sg c2, ih (List.mem_cons_of_mem _ m) t2⟩
    exact (go List.mem_cons_self t).av fun _ m => nomatch m
theorem sw_freeze (h : SWs X z sa D (δ.set i (some C.ty)) Ω) : SWs X z sa D δ ((i, none, C) :: Ω) := fun F G H σ sf g => by
  obtain ⟨a, o, ga, ha, g'⟩ := g.freeze
  exact h F _ H σ (fun y u q => by rw [upd_ne (ne_of_none (sf y u q) ga)]; exact sf y u q) g'
/-- what one owns is written -/
theorem Good.write {G H : Hp} {σ : L2.St} (g : Good z G H σ δ ((i, al, C) :: Ω)) : ∃ a o, σ[i]? = some (some (.ref a)) ∧ H a = some o ∧ C.p o G ∧ G a = none ∧ z.sa ≠ some a ∧ OwB z al a ∧ (∀ b, al = some b → a = b) ∧ ∀ (o' : HO) (C' : Cy), C'.p o' G → Good z G (upd H a o') σ δ ((i, al, C') :: Ω) := by
  obtain ⟨a, o, e, pa, av, ga, ns, b, f, c, t⟩ := g.ow
  refine ⟨a, o, e, f, c, ga, ns, b, pa, fun o' C' c' => ⟨⟨fun y u q => ?_, g.bg.g0, fun y u nb q => ?_, fun y n => ?_, fun y n => ?_, g.bg.nw, ?_⟩, g.rs, ⟨a, o', e, pa, av, ga, ns, b, upd_same, c', t.put List.mem_cons_self⟩⟩⟩
  · rw [upd_ne (ne_of_none q ga)]
    exact g.bg.le y u q
  · have hy : y ≠ a := fun w => by
      rcases b.or_ with b | b
      · rw [w, b] at q
        cases q
      · exact nb (w ▸ b)
    rw [upd_ne hy]
    exact g.bg.h0 y u nb q
  · by_cases h : y = a
    · rw [h, upd_same]
      exact fun w => nomatch w
    · rw [upd_ne h]
      exact g.bg.al y n
  · by_cases h : y = a
    · exact ⟨o', by rw [h, upd_same], C'.nt c'⟩
    · obtain ⟨u, e, n⟩ := g.bg.nt y n
      exact ⟨u, by rw [upd_ne h]; exact e, n⟩
  · have q := g.bg.st
    cases hs : z.sa with
    | none => trivial
    | some s =>
      rw [hs] at q
      obtain ⟨n, cc, cells, i', r, k, seed, e1, e2, e3⟩ := q
      exact ⟨n, cc, cells, i', r, k, seed, e1, by rw [upd_ne (fun w => ns (by rw [hs, w]))]; exact e2, e3⟩
/-- x = e -/
theorem sw_set (i : Nat) (hN : X.N.Nodup) (he : EvG X z δ Ω e T) (k : SWs X z rest D (δ.set i (some T)) Ω) (ho : ∀ q ∈ Ω, i ≠ q.1 := by simp) (hi : X.N[i]? = some x := by rfl) (hx : Loc X.env.scope x := by first | exact Or.inl rfl | exact Or.inr rfl)
    (hs : swapsWith e (some (.Name x p')) pos.line X.env = pure false := by rfl) (hf : X.fn x = true ∨ X.env.scope.names.lookup x = some .local := by first | exact .inl rfl | exact .inr rfl) :
    SWs X z (.Assign [.Name x p'] e pos :: rest) D δ Ω := fun F G H σ sf g =>
  w_pss (pss_cons (ps_set hN hi hx pe_w hs hf) pss_w) (he G H σ g _ fun v G1 H1 x1 t => k F G1 H1 _ (sf.trans x1.g) ⟨g.bg.ext x1, (g.rs.mono x1.g).set t i, (g.ow.ext x1).slot fun q m => List.getElem?_set_ne (ho q m)⟩)
theorem sw_setE {ι : Type} {P : ι → Prop} {R : ι → Ty} (i : Nat) (hN : X.N.Nodup) (he : EvG X z δ Ω e (tEx P R)) (k : ∀ y, P y → SWs X z rest D (δ.set i (some (R y))) Ω) (ho : ∀ q ∈ Ω, i ≠ q.1 := by simp) (hi : X.N[i]? = some x := by rfl) (hx : Loc X.env.scope x := by first | exact Or.inl rfl | exact Or.inr rfl)
    (hs : swapsWith e (some (.Name x p')) pos.line X.env = pure false := by rfl) (hf : X.fn x = true ∨ X.env.scope.names.lookup x = some .local := by first | exact .inl rfl | exact .inr rfl) :
    SWs X z (.Assign [.Name x p'] e pos :: rest) D δ Ω := fun F G H σ sf g =>
  w_pss (pss_cons (ps_set hN hi hx pe_w hs hf) pss_w) (he G H σ g _ fun v G1 H1 x1 t => by
    obtain ⟨y, hy, t⟩ := t
    exact k y hy F G1 H1 _ (sf.trans x1.g) ⟨g.bg.ext x1, (g.rs.mono x1.g).set t i, (g.ow.ext x1).slot fun q m => List.getElem?_set_ne (ho q m)⟩)
/-- x = a new object -/
theorem sw_setO (i : Nat) (hN : X.N.Nodup) (he : EvF X z δ Ω e C) (k : SWs X z rest D (δ.set i none) ((i, none, C) :: Ω)) (hil : i < δ.length := by first | decide | exact Nat.le_of_ble_eq_true rfl) (ho : ∀ q ∈ Ω, i ≠ q.1 := by simp) (hi : X.N[i]? = some x := by rfl) (hx : Loc X.env.scope x := by first | exact Or.inl rfl | exact Or.inr rfl)
    (hs : swapsWith e (some (.Name x p')) pos.line X.env = pure false := by rfl) (hf : X.fn x = true ∨ X.env.scope.names.lookup x = some .local := by first | exact .inl rfl | exact .inr rfl) :
    SWs X z (.Assign [.Name x p'] e pos :: rest) D δ Ω := fun F G H σ sf g =>
  w_pss (pss_cons (ps_set hN hi hx pe_w hs hf) pss_w) (he G H σ g _ fun a o G1 H1 x1 na ga ha ca => by
    refine k F G1 H1 _ (sf.trans x1.g) ⟨g.bg.ext x1, (g.rs.mono x1.g).setN i, ⟨a, o, ?_, (fun _ w => nomatch w), (fun m => nomatch m), ga, no_sa g.bg.st na, (have z0 := ?_; ⟨fun _ => z0, .inl z0⟩), ha, ca, ?_⟩⟩
    · rw [List.getElem?_set_self (by rw [g.rs.len]; exact hil)]
    · cases h : z.H0 a with
      | none => rfl
      | some u => exact absurd na (g.bg.al a (ne_none h))
    · exact ((g.ow.more na).ext x1).slot fun q m => List.getElem?_set_ne (ho q m))
/-- targets -/
structure TgO (g : TG) (T : Ty) (δ δ' : List (Option Ty)) (J : List Nat) : Prop where
  to : ∀ (G H : Hp) (σ : L2.St) (v : V), Le G H → RepS G σ δ → T.p v G → ∀ Q : L2.St → Hp → Prop, (∀ σ', RepS G σ' δ' → (∀ m, m ∉ J → σ'[m]? = σ[m]?) → Q σ' H) → g v σ H Q
def g2 (K : PySem.W.Frag) (i j : Nat) : TG := gTup K 2 (gCons (gName i) (gCons (gName j) gNil))
def g3 (K : PySem.W.Frag) (i j l : Nat) : TG := gTup K 3 (gCons (gName i) (gCons (gName j) (gCons (gName l) gNil)))
def g3L (K : PySem.W.Frag) (i j l : Nat) : TG := gUnl K 3 (gCons (gName i) (gCons (gName j) (gCons (gName l) gNil)))
theorem tr_name (i : Nat) : TgO (gName i) T δ (δ.set i (some T)) [i] := ⟨fun G H σ v l r t Q q => q _ (r.set t i) fun m h => List.getElem?_set_ne (fun (w : i = m) => h (w ▸ List.mem_cons_self))⟩
theorem tr_tup2 {K : PySem.W.Frag} {A B : Ty} (i j : Nat) : TgO (g2 K i j) (tT [A, B]) δ ((δ.set i (some A)).set j (some B)) [i, j] := ⟨fun G H σ v l r t Q q => by
  obtain ⟨d, ws, rfl, ed, rr⟩ := t
  obtain ⟨v1, v2, rfl, t1, t2⟩ := reps2 rr
  exact ⟨d, _, rfl, SqT.of (l.at_ ed rfl), rfl, v1, _, rfl, v2, _, rfl, rfl, q _ ((r.set t1 i).set t2 j) fun m h => by
    rw [List.getElem?_set_ne (fun (w : j = m) => h (by rw [← w]; simp)), List.getElem?_set_ne (fun (w : i = m) => h (by rw [← w]; simp))]⟩⟩
theorem reps3 {G : Hp} {vs : List V} {A B C : Ty} (h : Reps G vs [A, B, C]) : ∃ u v w, vs = [u, v, w] ∧ A.p u G ∧ B.p v G ∧ C.p w G := by
  cases h with
  | cons t r =>
    obtain ⟨v, w, rfl, h1, h2⟩ := reps2 r
    exact ⟨_, v, w, rfl, t, h1, h2⟩
theorem tr_tup3 {K : PySem.W.Frag} {A B C3 : Ty} (i j l : Nat) : TgO (g3 K i j l) (tT [A, B, C3]) δ (((δ.set i (some A)).set j (some B)).set l (some C3)) [i, j, l] := ⟨fun G H σ v le r t Q q => by
  obtain ⟨d, ws, rfl, ed, rr⟩ := t
  obtain ⟨v1, v2, v3, rfl, t1, t2, t3⟩ := reps3 rr
  exact ⟨d, _, rfl, SqT.of (le.at_ ed rfl), rfl, v1, _, rfl, v2, _, rfl, v3, _, rfl, rfl, q _ (((r.set t1 i).set t2 j).set t3 l) fun m h => by
    rw [List.getElem?_set_ne (fun (w : l = m) => h (by rw [← w]; simp)), List.getElem?_set_ne (fun (w : j = m) => h (by rw [← w]; simp)), List.getElem?_set_ne (fun (w : i = m) => h (by rw [← w]; simp))]⟩⟩
theorem tr_lst3 {K : PySem.W.Frag} {A B C3 : Ty} (i j l : Nat) : TgO (g3L K i j l) (tL [A, B, C3]) δ (((δ.set i (some A)).set j (some B)).set l (some C3)) [i, j, l] := ⟨fun G H σ v le r t Q q => by
  obtain ⟨d, ws, rfl, ed, rr⟩ := t
  obtain ⟨v1, v2, v3, rfl, t1, t2, t3⟩ := reps3 rr
  exact ⟨d, _, rfl, SqL.of (le.at_ ed rfl), rfl, v1, _, rfl, v2, _, rfl, v3, _, rfl, rfl, q _ (((r.set t1 i).set t2 j).set t3 l) fun m h => by
    rw [List.getElem?_set_ne (fun (w : l = m) => h (by rw [← w]; simp)), List.getElem?_set_ne (fun (w : j = m) => h (by rw [← w]; simp)), List.getElem?_set_ne (fun (w : i = m) => h (by rw [← w]; simp))]⟩⟩
theorem sw_asg {tg : Expr} {g : TG} {J : List Nat} (he : EvG X z δ Ω e T) (pg : PG X tg g) (tr : TgO g T δ δ' J) (k : SWs X z rest D δ' Ω) (ho : ∀ q ∈ Ω, q.1 ∉ J := by simp) (hs : swapsWithSole [tg] e pos.line X.env = pure false := by rfl) (hw : swappedStores [tg] e X.env = pure none := by rfl)
    (h1 : (assignEach [tg] X.env).map (·.2) = [assign tg X.env] := by rfl) : SWs X z (.Assign [tg] e pos :: rest) D δ Ω := fun F G H σ sf g =>
  w_pss (pss_cons (ps_asg pe_w pg hs hw h1) pss_w) (he G H σ g _ fun v G1 H1 x1 t => tr.to G1 H1 σ v x1.le (g.rs.mono x1.g) t _ fun σ' r w => k F G1 H1 σ' (sf.trans x1.g) ⟨g.bg.ext x1, r, (g.ow.ext x1).slot fun q m => w q.1 (ho q m)⟩)
/-- a, b = x, y -/
theorem sw_par (i j : Nat) {y : Str} {px py pt pt2 : Pos} {kt k2} (hc : X.calm = true) (hN : X.N.Nodup) (hij : i ≠ j) (ha : EvGA X z δ Ω [a, b] [T, U]) (k : SWs X z rest D ((δ.set i (some T)).set j (some U)) Ω) (ho : ∀ q ∈ Ω, i ≠ q.1 ∧ j ≠ q.1 := by simp) (hi : X.N[i]? = some x := by rfl) (hj : X.N[j]? = some y := by rfl)
    (hx : X.env.scope.names.lookup x = some .local := by rfl) (hy : X.env.scope.names.lookup y = some .local := by rfl) (hw : swappedStores [.Tuple [.Name x px, .Name y py] kt pt] (.Tuple [a, b] k2 pt2) X.env = pure (some [x, y]) := by rfl)
    (hs : swapsWithSole [.Tuple [.Name x px, .Name y py] kt pt] (.Tuple [a, b] k2 pt2) pos.line X.env = pure false := by rfl) : SWs X z (.Assign [.Tuple [.Name x px, .Name y py] kt pt] (.Tuple [a, b] k2 pt2) pos :: rest) D δ Ω := fun F G H σ sf g =>
  w_pss (pss_cons (ps_par hc hN hi hj hij hx hy pa_w hw hs) pss_w) (ha G H σ g _ fun vs G1 H1 x1 ts => by
    obtain ⟨v, w, rfl, t, u⟩ := reps2 ts
    exact ⟨v, w, rfl, k F G1 H1 _ (sf.trans x1.g) ⟨g.bg.ext x1, ((g.rs.mono x1.g).set t i).set u j, (g.ow.ext x1).slot fun q m => by rw [List.getElem?_set_ne (ho q m).2, List.getElem?_set_ne (ho q m).1]⟩⟩)
theorem sw_expr (he : EvG X z δ Ω e T) (k : SWs X z rest D δ Ω) (hs : swapsWith e none pos.line X.env = pure false := by rfl) : SWs X z (.Expr e pos :: rest) D δ Ω := fun F G H σ sf g =>
  w_pss (pss_cons (ps_expr pe_w hs) pss_w) (he G H σ g _ fun v G1 H1 x1 t => k F G1 H1 σ (sf.trans x1.g) (g.ext x1))
theorem sw_ret (he : EvG X z δ Ω e T) (h : ∀ v G' H', Bg z G' H' → T.p v G' → D.rt v H') : SWs X z (.Return (some e) pos :: rest) D δ Ω := fun F G H σ sf g =>
  w_pss (pss_cons (u := tNever) (ps_ret pe_w) pss_never) (he G H σ g _ fun v G1 H1 x1 t => h v G1 H1 (g.bg.ext x1) t)
/-- one's own is handed back -/
theorem sw_retO (h : ∀ a o G' H', Bg z G' H' → (∀ b, al = some b → a = b) → OwB z al a → z.sa ≠ some a → G' a = none → H' a = some o → C.p o G' → D.rt (.ref a) H') (hN : X.N[i]? = some x := by rfl) (hv : Vis X.env.scope x := by first | exact Or.inl rfl | exact Or.inr (Or.inl rfl) | exact Or.inr (Or.inr rfl))
    (hd : (x == ("__debug__" : Str)) = false := by decide) (hcd : (x == ("__classdict__" : Str)) = false := by decide) : SWs X z (.Return (some (.Name x p')) pos :: rest) D δ ((i, al, C) :: Ω) := fun F G H σ sf g => by
  obtain ⟨a, o, e, pa, _, ga, ns, b, f, c, t⟩ := g.ow
  exact w_pss (pss_cons (u := tNever) (ps_ret (pe_var hN hv hd hcd)) pss_never) ⟨.ref a, e, h a o G H g.bg pa b ns ga f c⟩
/-- a new object is handed back -/
theorem sw_retF (he : EvF X z δ Ω e C) (h : ∀ a o G' H', Bg z G' H' → z.H0 a = none → G' a = none → H' a = some o → C.p o G' → D.rt (.ref a) H') : SWs X z (.Return (some e) pos :: rest) D δ Ω := fun F G H σ sf g =>
  w_pss (pss_cons (u := tNever) (ps_ret pe_w) pss_never) (he G H σ g _ fun a o G1 H1 x1 na ga ha ca => h a o G1 H1 (g.bg.ext x1) (by
    cases h : z.H0 a with
    | none => rfl
    | some u => exact absurd na (g.bg.al a (ne_none h))) ga ha ca)
theorem sw_if {P : Bool → Prop} (hc : EvGB X z δ Ω c P) (ht : P true → SWs X z sa { D with nx := fun δ' Ω' => SWs X z rest D δ' Ω' } δ Ω) (hf : P false → SWs X z sb { D with nx := fun δ' Ω' => SWs X z rest D δ' Ω' } δ Ω) : SWs X z (.If c sa sb pos :: rest) D δ Ω := fun F G H σ sf g => by
  have lw : ∀ σ' H', (low z F { D with nx := fun δ' Ω' => SWs X z rest D δ' Ω' }).nx σ' H' → tWs X rest (low z F D) σ' H' := fun σ' H' ⟨G2, δ2, Ω2, g2, s2, k⟩ => k F G2 H' σ' s2 g2
  refine w_pss (pss_cons (ps_if pt_w pss_w pss_w) pss_w) (hc G H σ g _ fun d G1 H1 x1 hd => ?_)
  have mono : ∀ (st : List Stmt), tWs X st (low z F { D with nx := fun δ' Ω' => SWs X z rest D δ' Ω' }) σ H1 → tWs X st { low z F D with nx := tWs X rest (low z F D) } σ H1 := fun st h pins s I => by
    refine wpAny_mono (h pins s I) (fun f s' q => ?_) fun _ _ q => q
    cases f with
    | next => obtain ⟨σ', H', I', q⟩ := q; exact ⟨σ', H', I', lw σ' H' q⟩
    | brk => exact q
    | cont => exact q
    | ret v => exact q
  cases d with
  | true => exact iteT (mono _ (ht hd F G1 H1 σ (sf.trans x1.g) (g.ext x1)))
  | false => exact iteF (mono _ (hf hd F G1 H1 σ (sf.trans x1.g) (g.ext x1)))
theorem sw_when {P : Bool → Prop} (hc : EvGB X z δ Ω c P) (ht : P true → SWs X z sa { D with nx := fun δ' Ω' => SWs X z rest D δ' Ω' } δ Ω) (hf : P false → SWs X z rest D δ Ω) : SWs X z (.If c sa [] pos :: rest) D δ Ω := sw_if hc ht fun p => sw_nil (hf p)
theorem sw_not (hc : EvGB X z δ Ω c (fun b => b = false)) (k : SWs X z rest D δ Ω) : SWs X z (.If c sa [] pos :: rest) D δ Ω := sw_when hc (fun h => nomatch h) fun _ => k
theorem sw_break (h : D.bk δ Ω) : SWs X z (.Break pos :: rest) D δ Ω := fun F G H σ sf g => w_pss (pss_cons (u := tNever) ps_break pss_never) ⟨G, δ, Ω, g, sf, h⟩
/-- other ends -/
theorem SWs.mono {D' : Dn} (h : SWs X z sa D δ Ω) (hn : ∀ δ Ω, D.nx δ Ω → D'.nx δ Ω) (hr : ∀ v H, D.rt v H → D'.rt v H) (hb : ∀ δ Ω, D.bk δ Ω → D'.bk δ Ω) (hc : ∀ δ Ω, D.ct δ Ω → D'.ct δ Ω) : SWs X z sa D' δ Ω := fun F G H σ sf g pins s I => by
  refine wpAny_mono (h F G H σ sf g pins s I) (fun f s' q => ?_) fun _ _ q => q
  cases f with
  | next => obtain ⟨σ', H', I', G', δ', Ω', a, b, c⟩ := q; exact ⟨σ', H', I', G', δ', Ω', a, b, hn _ _ c⟩
  | brk => obtain ⟨σ', H', I', G', δ', Ω', a, b, c⟩ := q; exact ⟨σ', H', I', G', δ', Ω', a, b, hb _ _ c⟩
  | cont => obtain ⟨σ', H', I', G', δ', Ω', a, b, c⟩ := q; exact ⟨σ', H', I', G', δ', Ω', a, b, hc _ _ c⟩
  | ret v => obtain ⟨y, σ', H', I', r, c⟩ := q; exact ⟨y, σ', H', I', r, hr _ _ c⟩
/-- a for: P by the turn -/
theorem sw_for {tg iter : Expr} {n : Nat} {Tt : Nat → Ty} {g : TG} (P : Nat → List (Option Ty) → Own → Prop) (hp : PassesOwn (model X.prog X.w) X.A X.env X.xe) (hc : X.calm = true) (hi : EvI X z δ tg iter n Tt) (pg : PG X tg g) (h0 : P 0 δ Ω)
    (step : ∀ i δ1 Ω1, i < n → P i δ1 Ω1 → ∃ δ2 J, TgO g (Tt i) δ1 δ2 J ∧ (∀ q ∈ Ω1, q.1 ∉ J) ∧ SWs X z body ⟨P (i + 1), D.rt, fun δ' Ω' => SWs X z rest D δ' Ω', P (i + 1)⟩ δ2 Ω1) (done : ∀ δ1 Ω1, P n δ1 Ω1 → SWs X z rest D δ1 Ω1)
    (hs : ∀ x, foldedSetIterable iter X.env x = pure x := by intro _; rfl) : SWs X z (.For tg iter body [] pos :: rest) D δ Ω := fun F G H σ sf g0 => by
  obtain ⟨wi, hpi, hwi⟩ := hi
  refine w_pss (pss_cons (ps_for hp hc hpi pg pss_w hs) pss_w) ?_
  refine hwi G H σ g0.bg g0.rs _ fun J G1 H1 N Y e1 wk hN1 hY => ?_
  refine for_it wk (fun i σ' H' => ∃ G' δ' Ω', Good z G' H' σ' δ' Ω' ∧ Same G1 G' ∧ P i δ' Ω') ⟨G1, δ, Ω, g0.ext e1, Same.refl _, h0⟩ (fun i σ' H' _ ⟨G', _, _, g', s', _⟩ => hN1 G' H' s' g'.bg.le) (fun i v σ2 H2 H3 hin ⟨G', δ', Ω', g', s', hP⟩ hy => ?_) fun σ2 H2 ⟨G', δ', Ω', g', s', hP⟩ => ?_
  · obtain ⟨G3, x3, tv⟩ := hY i G' H2 v H3 hin s' g'.bg.le g'.bg.st hy
    obtain ⟨δ2, J2, tr, ho, bd⟩ := step i δ' Ω' hin hP
    refine tr.to G3 H3 σ2 v x3.le (g'.rs.mono x3.g) tv _ fun σ3 r3 w3 => ?_
    have g3 : Good z G3 H3 σ3 δ2 Ω' := ⟨g'.bg.ext x3, r3, (g'.ow.ext x3).slot fun q m => w3 q.1 (ho q m)⟩
    intro pins s I
    refine wpAny_mono (bd G1 G3 H3 σ3 (s'.trans x3.g) g3 pins s I) (fun f s' q => ?_) fun _ _ q => q
    cases f with
    | next => exact q
    | cont => exact q
    | brk =>
      obtain ⟨σ', H', I', G4, δ4, Ω4, a, b, c⟩ := q
      exact ⟨σ', H', I', c F G4 H' σ' (sf.trans (e1.g.trans b)) a⟩
    | ret v => exact q
  · exact done δ' Ω' hP F G' H2 σ2 (sf.trans (e1.g.trans s')) g'
end
end Z
end
section
set_option maxRecDepth 100000
set_option maxHeartbeats 4000000
/-! Z5: built-ins that the layer lacks: sorted of alike data, of dicts with tuple keys; list of a text; isinstance of a caught error with a dict of its own. -/
namespace Z
open PySem PySem.Spec PyProof.Rows L2
open PySem.W (EachIs AllAlike Sortable dataLe)

section
variable {X : Cx} {β : Type}
theorem each_up {R : V → β → Prop} : ∀ {vs : List V} {us : List Value} {bs : List β}, Vals vs us → EachIs R vs bs → EachIs (fun u b => ∃ v, RelV v u ∧ R v b) us bs
  | _, _, _, .nil, .nil => .nil
  | _, _, _, .cons r rs, .cons h t => .cons ⟨_, r, h⟩ (each_up rs t)
theorem each_dn {R : V → β → Prop} : ∀ {us : List Value} {bs : List β}, EachIs (fun u b => ∃ v, RelV v u ∧ R v b) us bs → ∃ vs, Vals vs us ∧ EachIs R vs bs
  | _, _, .nil => ⟨[], .nil, .nil⟩
  | _, _, .cons ⟨v, r, h⟩ t => by
    obtain ⟨vs, a, b⟩ := each_dn t
    exact ⟨v :: vs, .cons r a, .cons h b⟩
theorem vals_len : ∀ {vs : List V} {us : List Value}, Vals vs us → vs.length = us.length
  | _, _, .nil => rfl
  | _, _, .cons _ t => by rw [List.length_cons, List.length_cons, vals_len t]
/-- sorted(xs), xs a list of alike data -/
def rSortU (K : PySem.W.Frag) (rev : Bool) : List V → Hp → VK → Prop := fun xs H Q => ∃ (β : Type) (a : Addr) (vs : List V) (bs : List β) (enc : β → PyData) (R : V → β → Prop), xs = [.ref a] ∧ SqL K H a vs ∧ EachIs R vs bs ∧ (∀ v b, R v b → Dp K H v (enc b)) ∧
  AllAlike (bs.map enc) ∧ Sortable (bs.map enc) ∧ (∀ b ∈ bs, (enc b).depth ≤ 8) ∧ ∀ p out, H p = none → EachIs R out (bs.mergeSort (dataLe rev enc)) → Q (.ref p) (upd H p (.lst out))
theorem call_sortedU (hu : X.A.units + 64 < cLine) : CallR X (.builtin "sorted") (rSortU X.K false) := by
  intro pins s σ H xs us Q I r h
  obtain ⟨β, a, vs, bs, enc, R, rfl, hs, hR, hd, hal, hso, hdp, q⟩ := h
  obtain ⟨its, rv, hl, hz⟩ := I.list hs
  rw [Vals.ref1 r]
  have hlen : bs.length = vs.length := hR.length.symm
  refine PySem.W.sorted_data (R := fun u b => ∃ v, RelV v u ∧ R v b) hl.isList (each_up rv hR) ((each_up rv hR).mono fun u b ⟨v, r1, r2⟩ => Dp.reads I _ _ _ (hd v b r2) r1) hal hso (by rw [hlen]; exact hz) (fun b m => by have := hdp b m; omega) fun out ho he => ?_
  obtain ⟨vs', rv', hR'⟩ := each_dn he
  obtain ⟨ep, he'⟩ := PyProof.Rows.sortedAll_at s.heap its out.toArray
  refine ⟨.ref _, upd H (s.heap.objs.size + 1) (.lst vs'), I.laid (t' := s.toks) (fun _ _ => PyProof.Rows.sortedAll_old) (Nat.le_succ _) ⟨?_, out, ep, rv', he'⟩, rfl, q _ _ (I.hok.fresh (Nat.le_succ _)) hR'⟩
  rw [vals_len rv', ho, hlen]
  exact hz
theorem call_sortedR {b : Bool} (hu : X.A.units + 64 < cLine) : CallRK X (.builtin "sorted") [Str.ofString "reverse"] (fun xs zs H Q => zs = [.bl b] ∧ rSortU X.K b xs H Q) := by
  intro pins s σ H xs zs us ws Q I r rz h
  obtain ⟨rfl, β, a, vs, bs, enc, R, rfl, hs, hR, hd, hal, hso, hdp, q⟩ := h
  obtain ⟨its, rv, hl, hz⟩ := I.list hs
  obtain rfl := Vals.ref1 r
  obtain ⟨w1, rfl, e1⟩ := vals1 rz
  obtain rfl : w1 = Value.bool b := e1
  have hlen : bs.length = vs.length := hR.length.symm
  refine PySem.W.sorted_rev_data (R := fun u b => ∃ v, RelV v u ∧ R v b) hl.isList (each_up rv hR) ((each_up rv hR).mono fun u b ⟨v, r1, r2⟩ => Dp.reads I _ _ _ (hd v b r2) r1) hal hso (by rw [hlen]; exact hz) (fun b m => by have := hdp b m; omega) fun out ho he => ?_
  obtain ⟨vs', rv', hR'⟩ := each_dn he
  obtain ⟨ep, he'⟩ := PyProof.Rows.sortedAll_at s.heap its out.toArray
  refine ⟨.ref _, upd H (s.heap.objs.size + 1) (.lst vs'), I.laid (t' := s.toks) (fun _ _ => PyProof.Rows.sortedAll_old) (Nat.le_succ _) ⟨?_, out, ep, rv', he'⟩, rfl, q _ _ (I.hok.fresh (Nat.le_succ _)) hR'⟩
  rw [vals_len rv', ho, hlen]
  exact hz
end

/-! ### sorted(d), the keys tuples -/
def keyD : L2.Key → PyData
  | .inl i => .int i
  | .inr x => .str x
theorem keyD_dp {K : PySem.W.Frag} {H : Hp} : ∀ ks : List L2.Key, DpAll K H (ks.map kV) (ks.map keyD)
  | [] => .nil
  | .inl i :: r => .cons (.int i) (keyD_dp r)
  | .inr x :: r => .cons (.str x) (keyD_dp r)
mutual
theorem reads_flat {h : Heap} : ∀ {d : PyData} {u : Value} {as : List Addr}, lf d = true → Reads h u d as → as = []
  | .none, _, _, _, r => by cases r; rfl
  | .bool _, _, _, _, r => by cases r; rfl
  | .int _, _, _, _, r => by cases r; rfl
  | .str _, _, _, _, r => by cases r; rfl
  | .list _, _, _, h, _ => by simp [lf] at h
  | .dict _, _, _, h, _ => by simp [lf] at h
  | .tuple ds, _, _, h, r => by
    cases r with
    | tuple _ _ _ q => exact reads_flats (by simpa [lf] using h) q
theorem reads_flats {h : Heap} : ∀ {ds : List PyData} {us : List Value} {as : List Addr}, lfs ds = true → ReadsAll h us ds as → as = []
  | [], _, _, _, r => by cases r; rfl
  | d :: ds, _, _, h, r => by
    have h' : lf d = true ∧ lfs ds = true := by simpa [lfs] using h
    cases r with
    | cons q1 q2 => rw [reads_flat h'.1 q1, reads_flats h'.2 q2]; rfl
end
theorem lfs_keys : ∀ ks : List L2.Key, lfs (ks.map keyD) = true
  | [] => rfl
  | .inl i :: r => by simp [lfs, lf, keyD, lfs_keys r]
  | .inr x :: r => by simp [lfs, lf, keyD, lfs_keys r]
section
variable {X : Cx}
theorem isKeys_each {β : Type} {H : Hp} {ky : β → List L2.Key} : ∀ {kvs : List (List L2.Key × V)} {as : List Addr} {bs : List β}, IsKeys H kvs as → kvs.map (·.1) = bs.map ky → EachIs (fun v b => ∃ a, v = .ref a ∧ H a = some (.tup ((ky b).map kV))) (as.map V.ref) bs
  | _, _, [], .nil, _ => .nil
  | _, _, _ :: _, .nil, e => by cases e
  | _, _, [], .cons _ _, e => by cases e
  | _, _, b :: bs, .cons (b := a) h t, e => by
    have e1 := (List.cons.inj e).1
    have e2 := (List.cons.inj e).2
    exact .cons ⟨a, rfl, by rw [← e1]; exact h⟩ (isKeys_each t e2)
theorem call_sortedDT (hc : X.calm = true) (hu : X.A.units + 64 < cLine) : CallR X (.builtin "sorted") (fun xs H Q => ∃ (β : Type) (d : Addr) (kvs : List (List L2.Key × V)) (bs : List β) (ky : β → List L2.Key), xs = [.ref d] ∧ Rd H d (.dT kvs) ∧ kvs.map (·.1) = bs.map ky ∧
    AllAlike (bs.map fun b => .tuple ((ky b).map keyD)) ∧ (∀ b ∈ bs, ky b ≠ []) ∧ (∀ b ∈ bs, (PyData.tuple ((ky b).map keyD)).depth ≤ 8) ∧
    ∀ p out, H p = none → EachIs (fun v b => ∃ a, v = .ref a ∧ H a = some (.tup ((ky b).map kV))) out (bs.mergeSort (dataLe false fun b => .tuple ((ky b).map keyD))) → Q (.ref p) (upd H p (.lst out))) := by
  intro pins s σ H xs us Q I r h
  obtain ⟨β, d, kvs, bs, ky, rfl, hd, hks, hal, hne, hdp, q⟩ := h
  obtain ⟨u, rfl, rx⟩ := r.one
  cases rx
  obtain ⟨z, hs, ks, pr, o, es, ep, ho, hx, hdt, he, hn⟩ := (show ObjOk X.prog X.w H s.heap d (.dT kvs) from hd.ok I.hok)
  have l1 : es.size = ks.length := size_of_entries he
  have l2 : kvs.length = ks.length := Paired.length pr
  have l3 : bs.length = kvs.length := by
    have e := congrArg List.length hks
    rw [List.length_map, List.length_map] at e
    exact e.symm
  refine Calls.call_function_entry PyProof.Rows.kind_sorted PyProof.Rows.plain_sorted PyProof.Rows.entry_sorted (PyProof.Rows.args_sorted1 _) ?_
  unfold Builtin.«sorted»
  refine wpAny_bind (m := checkCount "sorted" 1 1 _) (wpAny_pure ?_)
  refine wpAny_bind (PySem.W.kdu_collect (A := X.A.in1) (kdl_raw hs hx hdt) (I.ok.hd hc) ho (by omega) fun h' tk acc hk it => ?_)
  have ea : acc.toList = ks.map fun x => Value.ref x.2.1 := by
    have hl : acc.toList.length = ks.length := by rw [Array.length_toList, it.1]; exact l1
    apply List.ext_getElem?
    intro j
    rw [List.getElem?_map]
    cases hj : acc.toList[j]? with
    | none =>
      have h1 := List.getElem?_eq_none_iff.mp hj
      rw [List.getElem?_eq_none (by omega)]
      all_goals rfl
    | some v =>
      obtain ⟨en, hen, hv⟩ := it.2 j v (by rw [← Array.getElem?_toList]; exact hj)
      have qe := entry_at he j
      rw [hen] at qe
      cases hb : ks[j]? with
      | none =>
        rw [hb] at qe
        exact nomatch (show some en = none from qe)
      | some b =>
        rw [hb] at qe
        have e2 : en = entryOfKey (tupleKind (mixKind X.prog X.w)) b := Option.some.inj qe
        rw [hv, e2]
        all_goals rfl
  have hal' : acc.toList.length = ks.length := by rw [ea, List.length_map]
  have I1 : Inv X pins σ H { s with heap := h', toks := tk } := I.kept hk
  refine wpAny_bind (wpAny_newList ?_ (by rw [hal']; omega))
  have hoL : (h'.push (seqObj "list" acc.toList.toArray 0)).get? h'.objs.size = some (seqObj "list" acc.toList.toArray 0) := Heap.get?_push_size _ rfl
  show wpAny _ _ _ _ _ { s with heap := h'.push (seqObj "list" acc.toList.toArray 0), toks := tk }
  have eb : acc.toList = (ks.map fun x => x.2.1).map Value.ref := by rw [ea, List.map_map]; all_goals rfl
  have rv : Vals ((ks.map fun x => x.2.1).map V.ref) acc.toList := by rw [eb]; exact vals_refs _
  have hR := isKeys_each (isKeys_of pr) hks
  have hU := each_up rv hR
  have hRd : EachIs (fun u b => ∃ as, Reads (h'.push (seqObj "list" acc.toList.toArray 0)) u (.tuple ((ky b).map keyD)) as ∧ h'.objs.size ∉ as) acc.toList bs := by
    refine hU.mono fun u b ⟨v, r1, a, e, ha⟩ => ?_
    have hp : Dp X.K H v (.tuple ((ky b).map keyD)) := by
      rw [e]
      exact .tup (SqT.of ha) (keyD_dp _)
    obtain ⟨as, rr⟩ := Dp.reads I1 _ _ _ hp r1
    have e0 := reads_flat (by simp [lf, lfs_keys]) rr
    subst e0
    exact ⟨[], PyProof.Rows.Reads.keeps (fun _ _ e => Heap.get?_push_of_some _ e) rr, by simp⟩
  refine wpAny_bind (wpAny_holding (PySem.W.list_sort_data (A := X.A.in1) (enc := fun b => PyData.tuple ((ky b).map keyD)) (s := { s with heap := h'.push (seqObj "list" acc.toList.toArray 0), toks := tk }) hoL hU hRd hal (.inl fun d hd => ?_) (by omega) (fun b m => ?_) fun out hl he' => ?_))
  · obtain ⟨b, m, rfl⟩ := List.mem_map.mp hd
    cases e : ky b with
    | nil => exact absurd e (hne b m)
    | cons x r => exact ⟨keyD x, r.map keyD, rfl⟩
  · have := hdp b m
    show X.A.units + 1 + 1 + _ < cLine
    omega
  · obtain ⟨vs', rv', hR'⟩ := each_dn he'
    obtain ⟨e', hee⟩ := PyProof.Rows.sortedHeap_at (vs := acc.toList) (out := out.toArray) hoL
    refine wpAny_pure ⟨_, rfl, .ref h'.objs.size, upd H h'.objs.size (.lst vs'), I1.laid (t' := tk) (fun b u e => ?_) (Nat.le_refl _)
      (show ObjOk X.prog X.w _ _ _ (.lst vs') from ⟨by rw [vals_len rv', hl]; omega, out, e', rv', hee⟩), rfl, q _ _ (I1.hok.fresh (Nat.le_refl _)) hR'⟩
    have hb : b < h'.objs.size := Heap.lt_size e
    rw [PyProof.Rows.sortedHeap_old (Nat.ne_of_lt hb) (by rw [size_push']; exact Nat.lt_succ_of_lt hb)]
    exact Heap.get?_push_of_some _ e
end

/-! ### list(text) -/
section
variable {X : Cx}
def chS (c : Nat) : Str := ⟨#[c]⟩
theorem signs_vals : ∀ {cs : List Nat} {us : List Value}, us.length = cs.length → (∀ (j : Nat) (v : Value), us[j]? = some v → ∃ (c : Nat) (u : Tok), cs[j]? = some c ∧ v = Value.str (chS c) u) → Vals (cs.map fun c => V.str (chS c)) us
  | [], [], _, _ => .nil
  | [], _ :: _, h, _ => by simp at h
  | _ :: _, [], h, _ => by simp at h
  | c :: cs, w :: us, h, k => by
    obtain ⟨c', u, e1, e2⟩ := k 0 w rfl
    simp at e1
    subst e1
    refine .cons ⟨u, e2⟩ (signs_vals (by simpa using h) fun j v e => ?_)
    obtain ⟨c2, u2, e3, e4⟩ := k (j + 1) v (by simpa using e)
    exact ⟨c2, u2, by simpa using e3, e4⟩
theorem call_listS (hc : X.calm = true) : CallR X (.type "list") (fun xs H Q => ∃ y : Str, xs = [.str y] ∧ y.cps.size ≤ sizeLine ∧ ∀ p, H p = none → Q (.ref p) (upd H p (.lst (y.cps.toList.map fun c => V.str (chS c))))) := by
  intro pins s σ H xs us Q I r h
  obtain ⟨y, rfl, hz, q⟩ := h
  obtain ⟨u, rfl, rx⟩ := vals1 r
  obtain ⟨t, rfl⟩ := rx
  refine PySem.call_list_str (hn := hz) (I.ok.hd hc) y t fun h' tk acc c' hk hS' it => ?_
  have hv : Vals (y.cps.toList.map fun c => V.str (chS c)) acc.toList := signs_vals (by rw [Array.length_toList, Array.length_toList]; exact it.1) fun j v e => by
    obtain ⟨c, u, e1, e2⟩ := it.2 j v (by rw [← Array.getElem?_toList]; exact e)
    exact ⟨c, u, by rw [Array.getElem?_toList]; exact e1, e2⟩
  refine ⟨.ref s.heap.objs.size, _, I.laid (t' := tk) hk (Nat.le_refl _) (show ObjOk X.prog X.w _ _ _ (.lst (y.cps.toList.map fun c => V.str (chS c))) from ⟨?_, acc.toList, c', hv, by rw [Array.toArray_toList]; exact hS'⟩), rfl, q _ (I.hok.fresh (Nat.le_refl _))⟩
  rw [List.length_map, Array.length_toList]
  exact hz
end

/-! ### isinstance of the caught error, its dict its own -/
def rIsD (K : PySem.W.Frag) (D a : Addr) (d : Option Addr) : List V → Hp → VK → Prop := fun xs H Q => ∃ (c : V) (cv : Value) (b : Bool) (dd : Addr) (fs : List (Str × V)), xs = [.ref a, c] ∧ (∀ u, RelV c u → u = cv) ∧ PySem.W.kitOne K (.ref D) cv = some b ∧ d = some dd ∧ H dd = some (.xd fs) ∧ Q (.bl b) H
theorem call_isD {X : Cx} {a D : Addr} {d : Option Addr} {oe : Obj} {pn : List (Addr × Obj)} (C : ExcC X.K D) (hz : Zc (.ref D) d oe) (hf : ∃ vs, oe.data = .fields vs) : CallR (X.suite a ((a, oe) :: pn)) (.builtin "isinstance") (rIsD X.K D a d) := by
  intro pins s σ H xs us Q I r h
  obtain ⟨c, cv, b, dd, fs, rfl, hcv, e, rfl, ea, q⟩ := h
  obtain ⟨u, v, rfl, ru, rv⟩ := vals2 r
  obtain rfl : u = Value.ref a := ru
  obtain rfl := hcv _ rv
  obtain ⟨ha, _⟩ := I.pin (a, oe) (List.mem_append_left _ List.mem_cons_self)
  obtain ⟨vs, hd⟩ := hf
  have hx : ObjOk X.prog X.w H s.heap dd (.xd fs) := I.hok dd _ ea
  obtain ⟨mA, hns, _⟩ := hx
  obtain ⟨od, ho, _⟩ := lookIn_ns hns
  have J : PySem.W.InstAt s.heap a oe D (some od) := ⟨ha, hz.1, by unfold PySem.W.notCls; rw [hd] <;> rfl, by rw [hz.2]; exact ho⟩
  have hcl : (PySem.W.clsIn X.K D).isSome = true := by
    obtain ⟨cd, hc, _⟩ := PySem.W.any_some C.hd
    rw [hc]
    rfl
  exact PySem.W.kia_one (PySem.W.kitx_exc hcl C.hg C.hk C.hs C.ha C.hn C.ht C.hm) I.kIn J e (fun z => nomatch z) fun tk => ⟨.bl b, H, I.kept (t' := tk) fun _ _ z => z, rfl, q⟩
end Z
end
section
set_option maxRecDepth 100000
set_option maxHeartbeats 4000000
/-! Z6: statements that write what one owns; fresh results; sorted, list of texts. -/
namespace Z
open PySem PySem.Spec PyProof.Rows L2
open PySem.W (EachIs AllAlike Sortable dataLe)

/-! ### pairs put -/
def putT {κ : Type} [DecidableEq κ] (es : List (κ × Ty)) (k : κ) (T : Ty) : List (κ × Ty) :=
  if (es.any fun kv => decide (kv.1 = k)) = true then es.map (fun kv => if kv.1 = k then (kv.1, T) else kv) else es ++ [(k, T)]
theorem Ents.any {κ : Type} [DecidableEq κ] {G : Hp} {k : κ} : ∀ {kvs : List (κ × V)} {es : List (κ × Ty)}, Ents G kvs es → (kvs.any fun kv => decide (kv.1 = k)) = (es.any fun kv => decide (kv.1 = k))
  | _, _, .nil => rfl
  | _, _, .cons h t => by rw [List.any_cons, List.any_cons, Ents.any t, h.1]
theorem Ents.putAll {κ : Type} [DecidableEq κ] {G : Hp} {k : κ} {v : V} {T : Ty} (ht : T.p v G) : ∀ {kvs : List (κ × V)} {es : List (κ × Ty)}, Ents G kvs es → Ents G (kvs.map fun kv => if kv.1 = k then (kv.1, v) else kv) (es.map fun kv => if kv.1 = k then (kv.1, T) else kv)
  | _, _, .nil => .nil
  | _, _, .cons (a := a) (b := b) h t => by
    refine .cons ?_ (Ents.putAll ht t)
    show (if a.1 = k then (a.1, v) else a).1 = (if b.1 = k then (b.1, T) else b).1 ∧ (if b.1 = k then (b.1, T) else b).2.p (if a.1 = k then (a.1, v) else a).2 G
    by_cases q : b.1 = k
    · rw [if_pos q, if_pos (h.1.trans q)]
      exact ⟨h.1, ht⟩
    · rw [if_neg q, if_neg (fun z => q (h.1.symm.trans z))]
      exact h
theorem Ents.put {κ : Type} [DecidableEq κ] {G : Hp} {k : κ} {v : V} {T : Ty} (ht : T.p v G) {kvs : List (κ × V)} {es : List (κ × Ty)} (h : Ents G kvs es) : Ents G (putK kvs k v) (putT es k T) := by
  unfold putK putT
  rw [h.any]
  by_cases q : (es.any fun kv => decide (kv.1 = k)) = true
  · rw [if_pos q, if_pos q]
    exact h.putAll ht
  · rw [if_neg q, if_neg q]
    exact h.snoc ht
def putFT (f : Str) (T : Ty) : List (Str × Ty) → List (Str × Ty)
  | [] => [(f, T)]
  | (g, U) :: r => if g = f then (g, T) :: r else (g, U) :: putFT f T r
theorem Ents.putF {G : Hp} {f : Str} {v : V} {T : Ty} (ht : T.p v G) : ∀ {gs : List (Str × V)} {fs : List (Str × Ty)}, Ents G gs fs → Ents G (putF f v gs) (putFT f T fs)
  | _, _, .nil => .cons ⟨rfl, ht⟩ .nil
  | _, _, .cons (a := a) (b := b) h t => by
    obtain ⟨g, w⟩ := a
    obtain ⟨g', U⟩ := b
    have e : g = g' := h.1
    subst e
    show Ents G (if g = f then (g, v) :: _ else (g, w) :: _) (if g = f then (g, T) :: _ else (g, U) :: _)
    by_cases q : g = f
    · rw [if_pos q, if_pos q]
      exact .cons ⟨rfl, ht⟩ t
    · rw [if_neg q, if_neg q]
      exact .cons h (Ents.putF ht t)

section
variable {X : Cx} {z : Zn} {δ δ' : List (Option Ty)} {Ω : Own} {a b c e o value : Expr} {es : List Expr} {p p' pos cpos apos : Pos} {T U W : Ty} {Ts Us : List Ty} {C : Cy} {i j k n : Nat} {al : Option Addr} {D : Dn} {rest sa sb body : List Stmt} {x f : Str} {ι : Type}

/-! ### what one owns is written -/
theorem sw_app (he : EvG X z δ ((i, al, cL Ts) :: Ω) e T) (hl : Ts.length < 1000) (k : SWs X z rest D δ ((i, al, cL (Ts ++ [T])) :: Ω)) (hN : X.N[i]? = some x := by rfl) (hv : Vis X.env.scope x := by first | exact Or.inl rfl | exact Or.inr (Or.inl rfl) | exact Or.inr (Or.inr rfl))
    (hd : (x == ("__debug__" : Str)) = false := by decide) (hcd : (x == ("__classdict__" : Str)) = false := by decide)
    (hbase : attributeBase (.Name x p') "append" X.env (eval (.Name x p') X.env) = eval (.Name x p') X.env := by rfl)
    (hfew : ((backTo cpos (starEach [e] X.env)).all (fun x => !x.1) && (backToKw cpos (keywordEach [] X.env)).all (fun x => x.1.isSome) && decide ([e].length + ([] : List Keyword).length + (if ([] : List Keyword).isEmpty then 0 else 1) < 30)) = true := by rfl)
    (hline : (apos.endLine == cpos.line) = true := by rfl) (hs : starEach [e] X.env = (false, eval e X.env) :: starEach [] X.env := by rfl) (hpl : (backTo cpos (starEach [] X.env)).any (·.1) = false := by rfl)
    (hsw : swapsWith (.Call (.Attribute (.Name x p') "append" apos) [e] [] cpos) none pos.line X.env = pure false := by rfl) :
    SWs X z (.Expr (.Call (.Attribute (.Name x p') "append" apos) [e] [] cpos) pos :: rest) D δ ((i, al, cL Ts) :: Ω) := fun F G H σ sf g => by
  obtain ⟨a, o, es, ha, ⟨vs, rfl, r⟩, _⟩ := g.write
  refine w_pss (pss_cons (ps_expr (pe_bm PySem.F.plainAttrs_list PySem.F.slot_list_append PySem.F.type_list_append mt_append (pe_var hN hv hd hcd) (pa_cons pe_w pa_nil hs) hbase hfew hline hs hpl) hsw) pss_w) ?_
  refine ⟨.ref a, es, .inl ⟨rfl, _, SqL.of ha⟩, he G H σ g _ fun v G1 H1 x1 t => ?_⟩
  have g1 := g.ext x1
  obtain ⟨a', o', es', ha', ⟨vs', rfl, r'⟩, ga, ns, b, pa, wr⟩ := g1.write
  rw [es] at es'
  cases es'
  refine ⟨a, vs', v, rfl, rfl, ha', ?_, ?_⟩
  · rw [Paired.length r']
    exact small1000 (Nat.le_of_lt hl)
  · exact k F G1 _ σ (sf.trans x1.g) (wr (.lst (vs' ++ [v])) (cL (Ts ++ [T])) ⟨_, rfl, r'.append (.cons t .nil)⟩)
theorem sw_ext (he : EvG X z δ ((i, al, cL Ts) :: Ω) e (tL Us)) (hl : Ts.length + Us.length ≤ 1000) (k : SWs X z rest D δ ((i, al, cL (Ts ++ Us)) :: Ω)) (hN : X.N[i]? = some x := by rfl) (hv : Vis X.env.scope x := by first | exact Or.inl rfl | exact Or.inr (Or.inl rfl) | exact Or.inr (Or.inr rfl))
    (hd : (x == ("__debug__" : Str)) = false := by decide) (hcd : (x == ("__classdict__" : Str)) = false := by decide)
    (hbase : attributeBase (.Name x p') "extend" X.env (eval (.Name x p') X.env) = eval (.Name x p') X.env := by rfl)
    (hfew : ((backTo cpos (starEach [e] X.env)).all (fun x => !x.1) && (backToKw cpos (keywordEach [] X.env)).all (fun x => x.1.isSome) && decide ([e].length + ([] : List Keyword).length + (if ([] : List Keyword).isEmpty then 0 else 1) < 30)) = true := by rfl)
    (hline : (apos.endLine == cpos.line) = true := by rfl) (hs : starEach [e] X.env = (false, eval e X.env) :: starEach [] X.env := by rfl) (hpl : (backTo cpos (starEach [] X.env)).any (·.1) = false := by rfl)
    (hsw : swapsWith (.Call (.Attribute (.Name x p') "extend" apos) [e] [] cpos) none pos.line X.env = pure false := by rfl) :
    SWs X z (.Expr (.Call (.Attribute (.Name x p') "extend" apos) [e] [] cpos) pos :: rest) D δ ((i, al, cL Ts) :: Ω) := fun F G H σ sf g => by
  obtain ⟨a, o, es, ha, ⟨vs, rfl, r⟩, _⟩ := g.write
  refine w_pss (pss_cons (ps_expr (pe_bm PySem.F.plainAttrs_list PySem.F.slot_list_extend PySem.F.type_list_extend mt_extend (pe_var hN hv hd hcd) (pa_cons pe_w pa_nil hs) hbase hfew hline hs hpl) hsw) pss_w) ?_
  refine ⟨.ref a, es, .inl ⟨rfl, _, SqL.of ha⟩, he G H σ g _ fun v G1 H1 x1 t => ?_⟩
  have g1 := g.ext x1
  obtain ⟨a', o', es', ha', ⟨vs', rfl, r'⟩, ga, ns, b, pa, wr⟩ := g1.write
  rw [es] at es'
  cases es'
  obtain ⟨d, ws, rfl, ed, rr⟩ := t
  refine ⟨a, d, vs', ws, rfl, rfl, ha', x1.le d _ ed, ?_, ?_⟩
  · rw [Paired.length r', Paired.length rr]
    exact Nat.le_of_lt (small1000 hl)
  · exact k F G1 _ σ (sf.trans x1.g) (wr (.lst (vs' ++ ws)) (cL (Ts ++ Us)) ⟨_, rfl, r'.append rr⟩)
/-- d[k] = v -/
theorem sw_dput {es' : List (L2.Key × Ty)} {kk : L2.Key} (hu : X.A.units + 1 < cLine) (hv : EvG X z δ ((i, al, cDK es') :: Ω) value T) (hk : EvG X z δ ((i, al, cDK es') :: Ω) e (tRaw (kV kk))) (hl : es'.length < 1000) (k : SWs X z rest D δ ((i, al, cDK (putT es' kk T)) :: Ω))
    (hN : X.N[i]? = some x := by rfl) (hvis : Vis X.env.scope x := by first | exact Or.inl rfl | exact Or.inr (Or.inl rfl) | exact Or.inr (Or.inr rfl)) (hd : (x == ("__debug__" : Str)) = false := by decide) (hcd : (x == ("__classdict__" : Str)) = false := by decide)
    (hs : swapsWith value (some (.Subscript (.Name x p) e p')) pos.line X.env = pure false := by rfl) : SWs X z (.Assign [.Subscript (.Name x p) e p'] value pos :: rest) D δ ((i, al, cDK es') :: Ω) := fun F G H σ sf g => by
  refine w_pss (pss_cons (ps_dput hu (pe_var hN hvis hd hcd) pe_w pe_w hs) pss_w) (hv G H σ g _ fun v G1 H1 x1 t => ?_)
  have g1 := g.ext x1
  obtain ⟨a, o, es, ha, ⟨vs, rfl, r⟩, _⟩ := g1.write
  refine ⟨.ref a, es, hk G1 H1 σ g1 _ fun w G2 H2 x2 tw => ?_⟩
  have g2 := g1.ext x2
  obtain ⟨a', o', es2, ha', ⟨vs', rfl, r'⟩, ga, ns, b, pa, wr⟩ := g2.write
  rw [es] at es2
  cases es2
  have tw : w = kV kk := tw
  subst tw
  refine ⟨a, _, rfl, DPut.k ha' (by rw [r'.length]; exact small1000 (Nat.le_of_lt hl)), ?_⟩
  exact k F G2 _ σ (sf.trans (x1.g.trans x2.g)) (wr _ (cDK (putT es' kk T)) ⟨_, rfl, Ents.put (T.mono x2.g t) r'⟩)
/-- o.f = v -/
theorem sw_fld {Cc : Addr} {fs : List (Str × Ty)} (cl : Cls X.K Cc) (n : NoAttr X.K Cc f) (hv : EvG X z δ ((i, al, cIn Cc fs) :: Ω) value T) (hl : fs.length < 900) (k : SWs X z rest D δ ((i, al, cIn Cc (putFT f T fs)) :: Ω))
    (hN : X.N[i]? = some x := by rfl) (hvis : Vis X.env.scope x := by first | exact Or.inl rfl | exact Or.inr (Or.inl rfl) | exact Or.inr (Or.inr rfl)) (hd : (x == ("__debug__" : Str)) = false := by decide) (hcd : (x == ("__classdict__" : Str)) = false := by decide)
    (hs : swapsWith value (some (.Attribute (.Name x p) f p')) pos.line X.env = pure false := by rfl) : SWs X z (.Assign [.Attribute (.Name x p) f p'] value pos :: rest) D δ ((i, al, cIn Cc fs) :: Ω) := fun F G H σ sf g => by
  refine w_pss (pss_cons (ps_fld (pe_var hN hvis hd hcd) pe_w hs) pss_w) (hv G H σ g _ fun v G1 H1 x1 t => ?_)
  have g1 := g.ext x1
  obtain ⟨a, o, es, ha, ⟨dx, vs, rfl, r⟩, ga, ns, b, pa, wr⟩ := g1.write
  refine ⟨.ref a, es, a, Cc, dx, vs, rfl, ha, cl, n, ?_, ?_⟩
  · rw [r.length]
    omega
  · exact k F G1 _ σ (sf.trans x1.g) (wr _ (cIn Cc (putFT f T fs)) ⟨dx, _, rfl, r.putF t⟩)
theorem Reps.setN {G : Hp} {v : V} {T : Ty} {vs : List V} {Ts : List Ty} (r : Reps G vs Ts) (h : T.p v G) (n : Nat) : Reps G (vs.set n v) (Ts.set n T) := Reps.set h n r
/-- l[j] = v -/
theorem sw_lset {P : Int → Prop} (hv : EvG X z δ ((i, al, cL Ts) :: Ω) value T) (hk : EvG X z δ ((i, al, cL Ts) :: Ω) e (tEx P fun j => dat (.int j))) (k : ∀ j, P j → ∃ n, ixN Ts.length j = some n ∧ SWs X z rest D δ ((i, al, cL (Ts.set n T)) :: Ω))
    (hN : X.N[i]? = some x := by rfl) (hvis : Vis X.env.scope x := by first | exact Or.inl rfl | exact Or.inr (Or.inl rfl) | exact Or.inr (Or.inr rfl)) (hd : (x == ("__debug__" : Str)) = false := by decide) (hcd : (x == ("__classdict__" : Str)) = false := by decide)
    (hs : swapsWithSole [.Subscript (.Name x p) e p'] value pos.line X.env = pure false := by rfl) (hw : swappedStores [.Subscript (.Name x p) e p'] value X.env = pure none := by rfl) (h1 : (assignEach [.Subscript (.Name x p) e p'] X.env).map (·.2) = [assign (.Subscript (.Name x p) e p') X.env] := by rfl)
    (h2 : ∀ v, assign (.Subscript (.Name x p) e p') X.env v = (do
      let ov ← holding [v] (eval (.Name x p) X.env)
      let iv ← holding [v, ov] (eval e X.env)
      standAt p'
      holding [v, ov, iv] (setItem ov iv v)
      release [v, ov, iv] []) := by intro _; rfl) :
    SWs X z (.Assign [.Subscript (.Name x p) e p'] value pos :: rest) D δ ((i, al, cL Ts) :: Ω) := fun F G H σ sf g => by
  refine w_pss (pss_cons (ps_asg pe_w (pg_sub (pe_var hN hvis hd hcd) pe_w set_list h2) hs hw h1) pss_w) (hv G H σ g _ fun v G1 H1 x1 t => ?_)
  have g1 := g.ext x1
  obtain ⟨a, o, es, ha, ⟨vs, rfl, r⟩, _⟩ := g1.write
  refine ⟨.ref a, es, hk G1 H1 σ g1 _ fun w G2 H2 x2 ⟨j, hj, tw⟩ => ?_⟩
  have g2 := g1.ext x2
  obtain ⟨a', o', es2, ha', ⟨vs', rfl, r'⟩, ga, ns, b, pa, wr⟩ := g2.write
  rw [es] at es2
  cases es2
  rw [Rp.int_of tw]
  obtain ⟨n, hn, kk⟩ := k j hj
  refine ⟨a, vs', j, n, rfl, rfl, ha', by rw [Paired.length r']; exact hn, ?_⟩
  exact kk F G2 _ σ (sf.trans (x1.g.trans x2.g)) (wr _ (cL (Ts.set n T)) ⟨_, rfl, r'.setN (T.mono x2.g t) n⟩)

/-! ### a fresh object, known for good from now on -/
theorem Ext.keep {sa : Option Addr} {G H G1 H1 : Hp} {a : Addr} {o : HO} (x : Ext sa G H G1 H1) (na : H a = none) (ga : G1 a = none) (ha : H1 a = some o) (ns : sa ≠ some a) : Ext sa G H (upd G1 a o) H1 := by
  have sg : Same G1 (upd G1 a o) := fun y u q => by rw [upd_ne (ne_of_none q ga)]; exact q
  refine ⟨x.g.trans sg, x.h, fun y u q => ?_, fun y n q => ?_, ?_⟩
  · by_cases h : y = a
    · subst h
      rw [upd_same] at q
      cases q
      exact ha
    · rw [upd_ne h] at q
      exact x.le y u q
  · rw [upd_ne (fun w => n.ne (by rw [w]; exact na))]
    exact x.nw y n q
  · have st := x.st
    cases sa with
    | none => trivial
    | some s =>
      obtain ⟨n, c, cells, i, r, k, seed, e1, e2, e3⟩ := st
      exact ⟨by rw [upd_ne (fun w => ns (by rw [w]))]; exact n, c, cells, i, r, k, seed, sg _ _ e1, e2, e3⟩
theorem EvF.g (h : EvF X z δ Ω e C) : EvG X z δ Ω e C.ty := fun G H σ g Q q => h G H σ g Q fun a o G1 H1 x1 na ga ha ca =>
  have sg : Same G1 (upd G1 a o) := fun y u q => by rw [upd_ne (ne_of_none q ga)]; exact q
  q (.ref a) (upd G1 a o) H1 (x1.keep na ga ha (no_sa g.bg.st na)) ⟨a, o, rfl, upd_same, C.mono sg ca⟩
theorem EvG.d (h : EvG X z δ [] e T) : EvD X z δ e T := fun G H σ bg r Q q => h G H σ ⟨bg, r, trivial⟩ Q q
theorem EvF.imp {C' : Cy} (h : EvF X z δ Ω e C) (f : ∀ o G, C.p o G → C'.p o G) : EvF X z δ Ω e C' := fun G H σ g Q q => h G H σ g Q fun a o G1 H1 x1 na ga ha ca => q a o G1 H1 x1 na ga ha (f o G1 ca)

/-! ### promises of fresh results -/
end
structure PrF (ι : Type) where
  pre : ι → Prop
  args : ι → List Ty
  cy : ι → Cy
def PrF.sp {ι : Type} (P : PrF ι) : Sp := fun vs H Q _ => ∃ (i : ι) (G : Hp), P.pre i ∧ Le G H ∧ Reps G vs (P.args i) ∧ ∀ a o G' H', Ext none G H G' H' → H a = none → G' a = none → H' a = some o → (P.cy i).p o G' → Q (.ref a) H'
structure PrXF (ι : Type) where
  pre : ι → Prop
  args : ι → List Ty
  out : ι → Except Er Cy
def PrXF.sp {ι : Type} (P : PrXF ι) (K : PySem.W.Frag) : Sp := fun vs H Q E => ∃ (i : ι) (G : Hp), P.pre i ∧ Le G H ∧ Reps G vs (P.args i) ∧
  (∀ C, P.out i = .ok C → ∀ a o G' H', Ext none G H G' H' → H a = none → G' a = none → H' a = some o → C.p o G' → Q (.ref a) H') ∧ (∀ er, P.out i = .error er → ∀ cls d H', Same H H' → ErH K er cls d H' → E cls d H')
/-- a def that changes its first argument (a thing of the caller's own) -/
structure PrM (ι : Type) where
  pre : ι → Prop
  cin : ι → Cy
  args : ι → List Ty
  cout : ι → Cy
def PrM.sp {ι : Type} (P : PrM ι) : Sp := fun vs H Q _ => ∃ (i : ι) (G : Hp) (a : Addr) (o : HO) (ws : List V), vs = .ref a :: ws ∧ P.pre i ∧ G a = none ∧ H a = some o ∧ (P.cin i).p o G ∧ Le G H ∧ Reps G ws (P.args i) ∧
  ∀ o' G' H', Same G G' → (∀ b u, b ≠ a → H b = some u → H' b = some u) → Le G' H' → (∀ b, NT H b → G b = none → G' b = none) → H' a = some o' → (P.cout i).p o' G' → Q .non H'

section
variable {X : Cx} {z : Zn} {δ δ' : List (Option Ty)} {Ω : Own} {a b c e o value : Expr} {es : List Expr} {p p' pos cpos apos : Pos} {T U W : Ty} {Ts Us : List Ty} {C : Cy} {i j k n : Nat} {al : Option Addr} {D : Dn} {rest sa sb body : List Stmt} {x f : Str} {ι : Type} {ps : List Str}
theorem ef_call {P : PrF ι} (i : ι) (c : Cb CX0 X.prog X.w X.K X.mg X.base n x ps P.sp) (hr : Room k X.A) (hk : n ≤ k) (hp : P.pre i) (ha : EvGA X z δ Ω (e :: es) (P.args i))
    (hg : Gl X x := by rfl) (hdb : (x == ("__debug__" : Str)) = false := by decide) (he : starEach (e :: es) X.env = (false, eval e X.env) :: starEach es X.env := by rfl) (hpl : (backTo pos (starEach es X.env)).any (·.1) = false := by rfl) :
    EvF X z δ Ω (.Call (.Name x p) (e :: es) [] pos) (P.cy i) := fun G H σ g Q q => by
  obtain ⟨f, fd, hm, hkp, F, hb⟩ := c.ex
  refine w_pe (pe_call F (hr.mono hk) hg hm hkp hb .nil pass0 pa_w hdb he hpl) (ha G H σ g _ fun vs G1 H1 e1 ts => ?_)
  show P.sp (vs ++ []) H1 Q E0
  rw [List.append_nil]
  exact ⟨i, G1, hp, e1.le, ts, fun a o G2 H2 e2 na ga ha' ca => q a o G2 H2 (e1.trans (Ext.pure e1.st e2)) (by
    cases hh : H a with
    | none => rfl
    | some u => exact absurd na (e1.al (ne_none hh))) ga ha' ca⟩
theorem ef_callX {P : PrXF ι} {E : XK} (i : ι) (tk : Takes X fun cls d _ H => E cls d H) (hB : ∀ a, ¬ z.B a) (c : Cb (L2.CX X.prog X.w) X.prog X.w X.K X.mg X.base n x ps (P.sp X.K)) (hr : Room k X.A) (hk : n ≤ k) (hp : P.pre i) (ha : EvGA X z δ Ω (e :: es) (P.args i))
    (hw : ∀ C', P.out i = .ok C' → ∀ o G', C'.p o G' → C.p o G') (hx : ∀ er, P.out i = .error er → ∀ cls d H', Same z.H0 H' → ErH X.K er cls d H' → E cls d H')
    (hg : Gl X x := by rfl) (hdb : (x == ("__debug__" : Str)) = false := by decide) (he : starEach (e :: es) X.env = (false, eval e X.env) :: starEach es X.env := by rfl) (hpl : (backTo pos (starEach es X.env)).any (·.1) = false := by rfl) :
    EvF X z δ Ω (.Call (.Name x p) (e :: es) [] pos) C := fun G H σ g Q q => by
  obtain ⟨f, fd, hm, hkp, F, hb⟩ := c.ex
  refine w_pe (pe_call F (hr.mono hk) hg hm hkp hb .nil (passes_call tk fun _ _ _ _ h => h) pa_w hdb he hpl) (ha G H σ g _ fun vs G1 H1 e1 ts => ?_)
  show P.sp X.K (vs ++ []) H1 Q E
  rw [List.append_nil]
  refine ⟨i, G1, hp, e1.le, ts, fun C' hC a o G2 H2 e2 na ga ha' ca => q a o G2 H2 (e1.trans (Ext.pure e1.st e2)) (by
    cases hh : H a with
    | none => rfl
    | some u => exact absurd na (e1.al (ne_none hh))) ga ha' (hw C' hC o G2 ca), fun er her cls d H' s eh => hx er her cls d H' (fun a o ea => s a o ?_) eh⟩
  exact (g.bg.ext e1).h0 a o (hB a) ea
/-- may raise in general, not here -/
theorem ef_callX0 {P : PrXF ι} (i : ι) (hxe : X.xe = fun _ _ => False) (c : Cb (L2.CX X.prog X.w) X.prog X.w X.K X.mg X.base n x ps (P.sp X.K)) (hr : Room k X.A) (hk : n ≤ k) (hp : P.pre i) (ha : EvGA X z δ Ω (e :: es) (P.args i)) (ho : P.out i = .ok C)
    (hg : Gl X x := by rfl) (hdb : (x == ("__debug__" : Str)) = false := by decide) (he : starEach (e :: es) X.env = (false, eval e X.env) :: starEach es X.env := by rfl) (hpl : (backTo pos (starEach es X.env)).any (·.1) = false := by rfl) :
    EvF X z δ Ω (.Call (.Name x p) (e :: es) [] pos) C := fun G H σ g Q q => by
  obtain ⟨f, fd, hm, hkp, F, hb⟩ := c.ex
  refine w_pe (pe_call F (hr.mono hk) hg hm hkp hb .nil passL pa_w hdb he hpl) (ha G H σ g _ fun vs G1 H1 e1 ts => ?_)
  show P.sp X.K (vs ++ []) H1 Q E0
  rw [List.append_nil]
  refine ⟨i, G1, hp, e1.le, ts, fun C' hC a o G2 H2 e2 na ga ha' ca => q a o G2 H2 (e1.trans (Ext.pure e1.st e2)) (by
    cases hh : H a with
    | none => rfl
    | some u => exact absurd na (e1.al (ne_none hh))) ga ha' (by rw [ho] at hC; cases hC; exact ca), fun er her => ?_⟩
  rw [ho] at her
  cases her
/-- a call that changes what one owns -/
theorem sw_callM {P : PrM ι} {y : Str} (ii : ι) (c : Cb CX0 X.prog X.w X.K X.mg X.base n x ps P.sp) (hr : Room k X.A) (hk : n ≤ k) (hp : P.pre ii) (ha : EvGA X z δ ((i, al, P.cin ii) :: Ω) es (P.args ii)) (kk : SWs X z rest D δ ((i, al, P.cout ii) :: Ω))
    (hN : X.N[i]? = some y := by rfl) (hv : Vis X.env.scope y := by first | exact Or.inl rfl | exact Or.inr (Or.inl rfl) | exact Or.inr (Or.inr rfl)) (hd : (y == ("__debug__" : Str)) = false := by decide) (hcd : (y == ("__classdict__" : Str)) = false := by decide)
    (hg : Gl X x := by rfl) (hdb : (x == ("__debug__" : Str)) = false := by decide) (he : starEach (.Name y p' :: es) X.env = (false, eval (.Name y p') X.env) :: starEach es X.env := by rfl) (hpl : (backTo cpos (starEach es X.env)).any (·.1) = false := by rfl)
    (hsw : swapsWith (.Call (.Name x p) (.Name y p' :: es) [] cpos) none pos.line X.env = pure false := by rfl) :
    SWs X z (.Expr (.Call (.Name x p) (.Name y p' :: es) [] cpos) pos :: rest) D δ ((i, al, P.cin ii) :: Ω) := fun F G H σ sf g => by
  obtain ⟨f, fd, hm, hkp, FF, hb⟩ := c.ex
  obtain ⟨a, o, es', ha0, c0, _⟩ := g.write
  refine w_pss (pss_cons (ps_expr (pe_call FF (hr.mono hk) hg hm hkp hb .nil pass0 (pa_cons (pe_var hN hv hd hcd) pa_w he) hdb he hpl) hsw) pss_w) ?_
  refine ⟨.ref a, es', ha G H σ g _ fun vs G1 H1 x1 ts => ?_⟩
  show P.sp ((.ref a :: vs) ++ []) H1 _ E0
  rw [List.append_nil]
  have g1 := g.ext x1
  obtain ⟨a1, o1, e1, h1, c1, ga1, ns1, b1, pa1, wr1⟩ := g1.write
  rw [es'] at e1
  cases e1
  refine ⟨ii, G1, a, o1, vs, rfl, hp, ga1, h1, c1, x1.le, ts, fun o' G' H' sg sh le nw ho' co => ?_⟩
  refine kk F G' H' σ (sf.trans (x1.g.trans sg)) ?_
  have ga' : G' a = none := nw a ⟨o1, h1, (P.cin ii).nt c1⟩ ga1
  obtain ⟨_, _, e2, pa2, av2, ga2, ns2, b2, f2, c2, t2⟩ := g1.ow
  rw [es'] at e2
  cases e2
  have gow : ∀ {Ω : Own} {av : List Addr}, a ∈ av → Ow z G1 H1 σ av Ω → Ow z G' H' σ av Ω := by
    intro Ω
    induction Ω with
    | nil => intro _ _ _; trivial
    | cons q r ih =>
      obtain ⟨i3, al3, C3⟩ := q
      intro av m h
      obtain ⟨a3, o3, e3, pa3, n3, g3, s3, b3, f3, c3, t3⟩ := h
      exact ⟨a3, o3, e3, pa3, n3, nw a3 ⟨o3, f3, C3.nt c3⟩ g3, s3, b3, sh a3 o3 (fun w => n3 (w ▸ m)) f3, C3.mono sg c3, ih (List.mem_cons_of_mem _ m) t3⟩
  refine ⟨⟨le, g1.bg.g0.trans sg, fun y u nb q => sh y u (fun w => ?_) (g1.bg.h0 y u nb q), fun y n => ?_, fun y n => ?_, fun y n q => nw y (g1.bg.nt y n) (g1.bg.nw y n q), ?_⟩, g1.rs.mono sg, ⟨a, o', es', pa1, by simp, ga', ns1, b1, ho', co, gow List.mem_cons_self t2⟩⟩
  · rcases b1.or_ with b1 | b1
    · rw [w, b1] at q
      cases q
    · exact nb (w ▸ b1)
  · by_cases h : y = a
    · rw [h]
      exact ne_none ho'
    · obtain ⟨u, hu⟩ := some_of (g1.bg.al y n)
      exact ne_none (sh y u h hu)
  · by_cases h : y = a
    · exact ⟨o', by rw [h]; exact ho', (P.cout ii).nt co⟩
    · obtain ⟨u, hu, nn⟩ := g1.bg.nt y n
      exact ⟨u, sh y u h hu, nn⟩
  · have q := g1.bg.st
    cases hs : z.sa with
    | none => trivial
    | some s =>
      rw [hs] at q
      obtain ⟨n, cc, cells, i', r, k, seed, q1, q2, q3⟩ := q
      exact ⟨nw s ⟨_, q2, rfl⟩ n, cc, cells, i', r, k, seed, sg _ _ q1, sh s _ (fun w => ns1 (by rw [hs, w])) q2, q3⟩
end
end Z
end
section
set_option maxRecDepth 100000
set_option maxHeartbeats 4000000
/-! Z7: dicts walked: locked for the time. -/
namespace Z
open PySem PySem.Spec PyProof.Rows L2

/-! ### types that lean on lists and tuples alone -/
def isSq : HO → Bool
  | .lst _ => true
  | .tup _ => true
  | _ => false
def SqS (G G' : Hp) : Prop := ∀ b o, isSq o = true → G b = some o → G' b = some o
def FlatL (T : Ty) : Prop := ∀ (v : V) (G G' : Hp), SqS G G' → T.p v G → T.p v G'
mutual
theorem Rp.sq {G G' : Hp} (s : SqS G G') : ∀ {v : V} {d : PyData}, Rp G v d → Rp G' v d
  | _, _, .non => .non
  | _, _, .bl b => .bl b
  | _, _, .int i => .int i
  | _, _, .str x => .str x
  | _, _, .lst e r => .lst (s _ _ rfl e) (Rps.sq s r)
  | _, _, .tup e r => .tup (s _ _ rfl e) (Rps.sq s r)
theorem Rps.sq {G G' : Hp} (s : SqS G G') : ∀ {vs : List V} {ds : List PyData}, Rps G vs ds → Rps G' vs ds
  | _, _, .nil => .nil
  | _, _, .cons h t => .cons (Rp.sq s h) (Rps.sq s t)
end
theorem fl_dat {d : PyData} : FlatL (dat d) := fun v G G' s t => Rp.sq s t
theorem fl_raw {u : V} : FlatL (tRaw u) := fun _ _ _ _ t => t
theorem Reps.sq {G G' : Hp} (s : SqS G G') : ∀ {vs : List V} {Ts : List Ty}, (∀ T ∈ Ts, FlatL T) → Reps G vs Ts → Reps G' vs Ts
  | _, _, _, .nil => .nil
  | _, _, f, .cons h t => .cons (f _ List.mem_cons_self _ _ _ s h) (Reps.sq s (fun T m => f T (List.mem_cons_of_mem _ m)) t)
theorem fl_L {Ts : List Ty} (f : ∀ T ∈ Ts, FlatL T) : FlatL (tL Ts) := fun v G G' s ⟨a, vs, e, h, r⟩ => ⟨a, vs, e, s _ _ rfl h, r.sq s f⟩
theorem fl_T {Ts : List Ty} (f : ∀ T ∈ Ts, FlatL T) : FlatL (tT Ts) := fun v G G' s ⟨a, vs, e, h, r⟩ => ⟨a, vs, e, s _ _ rfl h, r.sq s f⟩
theorem Ents.sq {κ : Type} {G G' : Hp} (s : SqS G G') : ∀ {kvs : List (κ × V)} {es : List (κ × Ty)}, (∀ q ∈ es, FlatL q.2) → Ents G kvs es → Ents G' kvs es
  | _, _, _, .nil => .nil
  | _, _, f, .cons h t => .cons ⟨h.1, f _ List.mem_cons_self _ _ _ s h.2⟩ (Ents.sq s (fun q m => f q (List.mem_cons_of_mem _ m)) t)
theorem FlatL.i {T : Ty} (h : FlatL T) : FlatI T := fun v G G' s t => h v G G' (fun b o q e => s b o (by cases o <;> first | rfl | cases q) e) t
theorem fi_DK {es : List (L2.Key × Ty)} (f : ∀ q ∈ es, FlatL q.2) : FlatI (tDK es) := fun v G G' s ⟨a, kvs, e, h, r⟩ => ⟨a, kvs, e, s _ _ rfl h, r.sq (fun b o q e => s b o (by cases o <;> first | rfl | cases q) e) f⟩
theorem fi_T {Ts : List Ty} (f : ∀ T ∈ Ts, FlatL T) : FlatI (tT Ts) := (fl_T f).i
def FlatC (C : Cy) : Prop := ∀ (o : HO) (G G' : Hp), SqS G G' → C.p o G → C.p o G'
theorem fc_L {Ts : List Ty} (f : ∀ T ∈ Ts, FlatL T) : FlatC (cL Ts) := fun o G G' s ⟨vs, e, r⟩ => ⟨vs, e, r.sq s f⟩
theorem fc_DK {es : List (L2.Key × Ty)} (f : ∀ q ∈ es, FlatL q.2) : FlatC (cDK es) := fun o G G' s ⟨vs, e, r⟩ => ⟨vs, e, r.sq s f⟩

/-! ### locked -/
def tFz (d : Addr) (es : List (L2.Key × Ty)) : Ty := ⟨fun v G => v = .ref d ∧ ∃ od kvs, G d = some (.frz od (.dK kvs)) ∧ Ents G kvs es, fun s ⟨e, od, kvs, f, r⟩ => ⟨e, od, kvs, s _ _ f, r.mono s⟩⟩
theorem tFz_rd {d : Addr} {es : List (L2.Key × Ty)} {v : V} {G : Hp} (h : (tFz d es).p v G) : (tDR es).p v G := let ⟨e, od, kvs, f, r⟩ := h; ⟨d, kvs, e, .inr ⟨od, f⟩, r⟩
def Zn.lock (z : Zn) (G : Hp) (d : Addr) (o : HO) : Zn := ⟨z.sa, upd G d o, fun a => if a = d then (z.H0 d).map fun _ => o else z.H0 a, z.B, z.hs⟩
theorem sq_upd {G : Hp} {d : Addr} {o o' : HO} (e : G d = some o) (n : isSq o = false) : SqS G (upd G d o') := fun b u q f => by
  have h : b ≠ d := fun w => by
    rw [w, e] at f
    cases f
    rw [n] at q
    cases q
  rw [upd_ne h]
  exact f
def Oth (i : Nat) (δ : List (Option Ty)) : Prop := ∀ (j : Nat) (T : Ty), j ≠ i → δ[j]? = some (some T) → FlatL T
theorem RepS.sq {G G' : Hp} {σ : L2.St} {δ : List (Option Ty)} {i : Nat} {v : V} {U : Ty} (r : RepS G σ δ) (s : SqS G G') (h : Oth i δ) (e : σ[i]? = some (some v)) (t : U.p v G') : RepS G' σ (δ.set i (some U)) := by
  refine ⟨by rw [List.length_set]; exact r.len, fun j T q => ?_⟩
  by_cases c : i = j
  · subst c
    have hl : i < δ.length := by
      rcases Nat.lt_or_ge i δ.length with h | h
      · exact h
      · rw [List.getElem?_eq_none (by rw [List.length_set]; exact h)] at q
        cases q
    rw [List.getElem?_set_self hl] at q
    cases q
    exact ⟨v, e, t⟩
  · rw [List.getElem?_set_ne c] at q
    obtain ⟨w, a, b⟩ := r.at_ j T q
    exact ⟨w, a, h j T (Ne.symm c) q _ _ _ s b⟩
theorem Ow.sq {z z' : Zn} {G G' H H' : Hp} {σ : L2.St} {d : Addr} (hsa : z'.sa = z.sa) (s : SqS G G') (hn : ∀ b, b ≠ d → G b = none → G' b = none) (hh : ∀ b u, b ≠ d → H b = some u → H' b = some u) (h0 : ∀ b al, b ≠ d → OwB z al b → OwB z' al b) (hd : G d ≠ none) : ∀ {Ω : Own} {av : List Addr}, (∀ q ∈ Ω, FlatC q.2.2) → Ow z G H σ av Ω → Ow z' G' H' σ av Ω
  | [], _, _, _ => trivial
  | (i, al, C) :: r, av, f, h => by
    obtain ⟨a, o, e, pa, n, g, ns, b, k, c, t⟩ := h
    have had : a ≠ d := fun w => hd (w ▸ g)
    exact ⟨a, o, e, pa, n, hn a had g, by rw [hsa]; exact ns, h0 a al had b, hh a o had k, f _ List.mem_cons_self _ _ _ s c, Ow.sq hsa s hn hh h0 hd (fun q m => f q (List.mem_cons_of_mem _ m)) t⟩
theorem Bg.lock {z : Zn} {G H : Hp} {d : Addr} {kvs : List (L2.Key × V)} (b : Bg z G H) (e : G d = some (.dK kvs)) (od : Obj) : Bg (z.lock G d (.frz od (.dK kvs))) (upd G d (.frz od (.dK kvs))) (upd H d (.frz od (.dK kvs))) := by
  have hd : H d = some (.dK kvs) := b.le d _ e
  refine ⟨fun y u q => ?_, fun y u q => q, fun y u nb q => ?_, fun y n => ?_, fun y n => ?_, fun y n q => q, ?_⟩
  · by_cases h : y = d
    · rw [h, upd_same] at q ⊢
      exact q
    · rw [upd_ne h] at q ⊢
      exact b.le y u q
  · have q : (if y = d then (z.H0 d).map fun _ => HO.frz od (.dK kvs) else z.H0 y) = some u := q
    by_cases h : y = d
    · rw [if_pos h] at q
      rw [h, upd_same]
      cases h0 : z.H0 d with
      | none => rw [h0] at q; cases q
      | some w => rw [h0] at q; exact q
    · rw [if_neg h] at q
      rw [upd_ne h]
      exact b.h0 y u nb q
  · have n : (if y = d then (z.H0 d).map fun _ => HO.frz od (.dK kvs) else z.H0 y) ≠ none := n
    by_cases h : y = d
    · rw [h, upd_same]
      exact fun w => nomatch w
    · rw [if_neg h] at n
      rw [upd_ne h]
      exact b.al y n
  · by_cases h : y = d
    · exact ⟨_, by rw [h, upd_same], rfl⟩
    · obtain ⟨u, q, nn⟩ := n
      have q : (if y = d then (z.H0 d).map fun _ => HO.frz od (.dK kvs) else z.H0 y) = some u := q
      rw [if_neg h] at q
      obtain ⟨u2, q2, n2⟩ := b.nt y ⟨u, q, nn⟩
      exact ⟨u2, by rw [upd_ne h]; exact q2, n2⟩
  · have st := b.st
    show StI z.sa _ _
    cases hs : z.sa with
    | none => trivial
    | some s =>
      rw [hs] at st
      obtain ⟨n, c, cells, i, r, k, seed, e1, e2, e3⟩ := st
      have hsd : s ≠ d := fun w => by rw [w, e] at n; cases n
      have hcd : c ≠ d := fun w => by rw [w, e] at e1; cases e1
      exact ⟨by rw [upd_ne hsd]; exact n, c, cells, i, r, k, seed, by rw [upd_ne hcd]; exact e1, by rw [upd_ne hsd]; exact e2, e3⟩
/-- back to the open dict -/
theorem Bg.unlock {z : Zn} {G H G' H' : Hp} {d : Addr} {kvs : List (L2.Key × V)} {od : Obj} (b : Bg z G H) (e : G d = some (.dK kvs)) (b' : Bg (z.lock G d (.frz od (.dK kvs))) G' H') :
    G' d = some (.frz od (.dK kvs)) ∧ H' d = some (.frz od (.dK kvs)) ∧ Bg z (upd G' d (.dK kvs)) (upd H' d (.dK kvs)) ∧ Same G (upd G' d (.dK kvs)) := by
  have hd : H d = some (.dK kvs) := b.le d _ e
  have gd : G' d = some (.frz od (.dK kvs)) := b'.g0 d _ upd_same
  have sg : Same G (upd G' d (.dK kvs)) := fun y u q => by
    by_cases h : y = d
    · rw [h, e] at q
      rw [h, upd_same]
      exact q
    · rw [upd_ne h]
      exact b'.g0 y u (by show upd G d _ y = _; rw [upd_ne h]; exact q)
  refine ⟨gd, b'.le d _ gd, ⟨fun y u q => ?_, b.g0.trans sg, fun y u nb q => ?_, fun y n => ?_, fun y n => ?_, fun y n q => ?_, ?_⟩, sg⟩
  · by_cases h : y = d
    · rw [h, upd_same] at q ⊢
      exact q
    · rw [upd_ne h] at q ⊢
      exact b'.le y u q
  · by_cases h : y = d
    · have q2 := b.h0 y u nb q
      rw [h, hd] at q2
      rw [h, upd_same]
      exact q2
    · rw [upd_ne h]
      exact b'.h0 y u nb (by show (if y = d then _ else z.H0 y) = _; rw [if_neg h]; exact q)
  · by_cases h : y = d
    · rw [h, upd_same]
      exact fun w => nomatch w
    · rw [upd_ne h]
      exact b'.al y (by show (if y = d then _ else z.H0 y) ≠ _; rw [if_neg h]; exact n)
  · by_cases h : y = d
    · exact ⟨_, by rw [h, upd_same], rfl⟩
    · obtain ⟨u, q, nn⟩ := n
      obtain ⟨u2, q2, n2⟩ := b'.nt y ⟨u, (by show (if y = d then _ else z.H0 y) = _; rw [if_neg h]; exact q), nn⟩
      exact ⟨u2, by rw [upd_ne h]; exact q2, n2⟩
  · have gy := b.nw y n q
    have h : y ≠ d := fun w => by rw [w, e] at gy; cases gy
    rw [upd_ne h]
    obtain ⟨u, q0, nn⟩ := n
    exact b'.nw y ⟨u, (by show (if y = d then _ else z.H0 y) = _; rw [if_neg h]; exact q0), nn⟩ (by show upd G d _ y = _; rw [upd_ne h]; exact gy)
  · have st : StI z.sa G' H' := b'.st
    cases hs : z.sa with
    | none => trivial
    | some s =>
      rw [hs] at st
      obtain ⟨n, c, cells, i, r, k, seed, e1, e2, e3⟩ := st
      have hsd : s ≠ d := fun w => by rw [w, gd] at n; cases n
      have hcd : c ≠ d := fun w => by rw [w, gd] at e1; cases e1
      exact ⟨by rw [upd_ne hsd]; exact n, c, cells, i, r, k, seed, by rw [upd_ne hcd]; exact e1, by rw [upd_ne hsd]; exact e2, e3⟩
theorem zlock_h0 {z : Zn} {G : Hp} {d : Addr} {o : HO} {b : Addr} (h : b ≠ d) : (z.lock G d o).H0 b = z.H0 b := by
  show (if b = d then _ else z.H0 b) = _
  rw [if_neg h]
theorem Good.lock {z : Zn} {G H : Hp} {σ : L2.St} {δ : List (Option Ty)} {Ω : Own} {i : Nat} {es : List (L2.Key × Ty)} (g : Good z G H σ δ Ω) (hi : δ[i]? = some (some (tDK es))) (he : ∀ q ∈ es, FlatL q.2) (ho : Oth i δ) (hc : ∀ q ∈ Ω, FlatC q.2.2) :
    ∃ d kvs, G d = some (.dK kvs) ∧ Ents G kvs es ∧ ∀ od, Good (z.lock G d (.frz od (.dK kvs))) (upd G d (.frz od (.dK kvs))) (upd H d (.frz od (.dK kvs))) σ (δ.set i (some (tFz d es))) Ω := by
  obtain ⟨v, ev, d, kvs, rfl, ed, r⟩ := g.rs.at_ i _ hi
  refine ⟨d, kvs, ed, r, fun od => ⟨g.bg.lock ed od, ?_, ?_⟩⟩
  · have s : SqS G (upd G d (.frz od (.dK kvs))) := sq_upd ed rfl
    exact g.rs.sq s ho ev ⟨rfl, od, kvs, upd_same, r.sq s he⟩
  · exact Ow.sq (z := z) (z' := z.lock G d (.frz od (.dK kvs))) (d := d) rfl (sq_upd ed rfl) (fun b n q => by rw [upd_ne n]; exact q) (fun b u n q => by rw [upd_ne n]; exact q) (fun b al n q => ⟨fun e => by rw [zlock_h0 n]; exact q.new e, q.or_.imp (fun q => by rw [zlock_h0 n]; exact q) id⟩) (ne_none ed) hc g.ow
theorem Good.unlock {z : Zn} {G H G' H' : Hp} {σ' : L2.St} {δ' : List (Option Ty)} {Ω' : Own} {i : Nat} {es : List (L2.Key × Ty)} {d : Addr} {kvs : List (L2.Key × V)} {od : Obj} (b : Bg z G H) (e : G d = some (.dK kvs)) (r : Ents G kvs es)
    (g : Good (z.lock G d (.frz od (.dK kvs))) G' H' σ' δ' Ω') (hi : δ'[i]? = some (some (tFz d es))) (he : ∀ q ∈ es, FlatL q.2) (ho : Oth i δ') (hc : ∀ q ∈ Ω', FlatC q.2.2) :
    H' d = some (.frz od (.dK kvs)) ∧ Same G (upd G' d (.dK kvs)) ∧ Good z (upd G' d (.dK kvs)) (upd H' d (.dK kvs)) σ' (δ'.set i (some (tDK es))) Ω' := by
  obtain ⟨gd, hd, b2, sg⟩ := b.unlock e g.bg
  obtain ⟨v, ev, hv, _⟩ := g.rs.at_ i _ hi
  refine ⟨hd, sg, b2, ?_, ?_⟩
  · exact g.rs.sq (sq_upd gd rfl) ho ev ⟨d, kvs, hv, upd_same, r.mono sg⟩
  · exact Ow.sq (z := z.lock G d (.frz od (.dK kvs))) (z' := z) (d := d) rfl (sq_upd gd rfl) (fun b n q => by rw [upd_ne n]; exact q) (fun b u n q => by rw [upd_ne n]; exact q) (fun b al n q => ⟨fun e => by have := q.new e; rw [zlock_h0 n] at this; exact this, q.or_.imp (fun q => by rw [zlock_h0 n] at q; exact q) id⟩) (ne_none gd) hc g.ow

section
variable {X : Cx} {z : Zn} {δ δ' : List (Option Ty)} {Ω : Own} {a b c e o tg : Expr} {pos cpos apos : Pos} {T : Ty} {i : Nat} {D : Dn} {rest : List Stmt} {es : List (L2.Key × Ty)}
theorem ev_lock (i : Nat) (hi : δ[i]? = some (some (tDK es))) (he : ∀ q ∈ es, FlatL q.2) (ho : Oth i δ) (hT : FlatL T) (h : ∀ z' d, z'.sa = z.sa → EvD X z' (δ.set i (some (tFz d es))) e T) : EvD X z δ e T := fun G H σ bg rs Q q => by
  have g0 : Good z G H σ δ [] := ⟨bg, rs, trivial⟩
  obtain ⟨d, kvs, ed, r, lk⟩ := g0.lock hi he ho (fun q (m : q ∈ ([] : Own)) => by cases m)
  refine w_pe (pe_lock pe_w) ⟨d, .dK kvs, bg.le d _ ed, trivial, fun od => ?_⟩
  have lo := lk od
  refine h (z.lock G d (.frz od (.dK kvs))) d rfl _ _ σ lo.bg lo.rs _ fun v G' H' x t => ?_
  have b' := lo.bg.ext x
  obtain ⟨gd, hd, b2, sg⟩ := bg.unlock ed b'
  refine ⟨hd, q v (upd G' d (.dK kvs)) (upd H' d (.dK kvs)) ⟨sg, fun y u ns e2 => ?_, b2.le, fun y n e2 => ?_, b2.st⟩ (hT _ _ _ (sq_upd gd rfl) t)⟩
  · by_cases c : y = d
    · rw [c, bg.le d _ ed] at e2
      rw [c, upd_same]
      exact e2
    · rw [upd_ne c]
      exact x.h y u ns (by rw [upd_ne c]; exact e2)
  · have c : y ≠ d := fun w => by rw [w, ed] at e2; cases e2
    rw [upd_ne c]
    obtain ⟨u, hu, nn⟩ := n
    exact x.nw y ⟨u, by rw [upd_ne c]; exact hu, nn⟩ (by rw [upd_ne c]; exact e2)
/-- one statement -/
def S1 (X : Cx) (z : Zn) (st : Stmt) (D : Dn) (δ : List (Option Ty)) (Ω : Own) : Prop := ∀ (F G H : Hp) (σ : L2.St), Same F G → Good z G H σ δ Ω → tW1 X st (low z F D) σ H
theorem sw_of1 {st : Stmt} (h : S1 X z st { D with nx := fun δ' Ω' => SWs X z rest D δ' Ω' } δ Ω) : SWs X z (st :: rest) D δ Ω := fun F G H σ sf g => by
  refine w_pss (pss_cons ps_w pss_w) fun pins s I => ?_
  refine wpAny_mono (h F G H σ sf g pins s I) (fun f s' q => ?_) fun _ _ q => q
  cases f with
  | next => obtain ⟨σ', H', I', G2, δ2, Ω2, g2, s2, k⟩ := q; exact ⟨σ', H', I', k F G2 H' σ' s2 g2⟩
  | brk => exact q
  | cont => exact q
  | ret v => exact q
theorem s1_for {iter : Expr} {body : List Stmt} {n : Nat} {Tt : Nat → Ty} {g : TG} (P : Nat → List (Option Ty) → Own → Prop) (hp : PassesOwn (model X.prog X.w) X.A X.env X.xe) (hc : X.calm = true) (hi : EvI X z δ tg iter n Tt) (pg : PG X tg g) (h0 : P 0 δ Ω)
    (step : ∀ i δ1 Ω1, i < n → P i δ1 Ω1 → ∃ δ2 J, TgO g (Tt i) δ1 δ2 J ∧ (∀ q ∈ Ω1, q.1 ∉ J) ∧ SWs X z body ⟨P (i + 1), D.rt, D.nx, P (i + 1)⟩ δ2 Ω1) (done : ∀ δ1 Ω1, P n δ1 Ω1 → ∃ δ2, Wk δ1 δ2 ∧ D.nx δ2 Ω1)
    (hs : ∀ x, foldedSetIterable iter X.env x = pure x := by intro _; rfl) : S1 X z (.For tg iter body [] pos) D δ Ω := fun F G H σ sf g0 => by
  obtain ⟨wi, hpi, hwi⟩ := hi
  refine w_ps (ps_for hp hc hpi pg pss_w hs) ?_
  refine hwi G H σ g0.bg g0.rs _ fun J G1 H1 N Y e1 wk hN1 hY => ?_
  refine for_it wk (fun i σ' H' => ∃ G' δ' Ω', Good z G' H' σ' δ' Ω' ∧ Same G1 G' ∧ P i δ' Ω') ⟨G1, δ, Ω, g0.ext e1, Same.refl _, h0⟩ (fun i σ' H' _ ⟨G', _, _, g', s', _⟩ => hN1 G' H' s' g'.bg.le) (fun i v σ2 H2 H3 hin ⟨G', δ', Ω', g', s', hP⟩ hy => ?_) fun σ2 H2 ⟨G', δ', Ω', g', s', hP⟩ => ?_
  · obtain ⟨G3, x3, tv⟩ := hY i G' H2 v H3 hin s' g'.bg.le g'.bg.st hy
    obtain ⟨δ2, J2, tr, ho, bd⟩ := step i δ' Ω' hin hP
    refine tr.to G3 H3 σ2 v x3.le (g'.rs.mono x3.g) tv _ fun σ3 r3 w3 => ?_
    have g3 : Good z G3 H3 σ3 δ2 Ω' := ⟨g'.bg.ext x3, r3, (g'.ow.ext x3).slot fun q m => w3 q.1 (ho q m)⟩
    intro pins s I
    refine wpAny_mono (bd G1 G3 H3 σ3 (s'.trans x3.g) g3 pins s I) (fun f s' q => ?_) fun _ _ q => q
    cases f with
    | next => exact q
    | cont => exact q
    | brk =>
      obtain ⟨σ', H', I', G4, δ4, Ω4, a, b, c⟩ := q
      exact ⟨σ', H', I', G4, δ4, Ω4, a, sf.trans (e1.g.trans b), c⟩
    | ret v => exact q
  · obtain ⟨δ2, w2, k2⟩ := done δ' Ω' hP
    exact ⟨G', δ2, Ω', g'.weak w2, sf.trans (e1.g.trans s'), k2⟩
theorem sw_lock {st : Stmt} (i : Nat) (hi : δ[i]? = some (some (tDK es))) (he : ∀ q ∈ es, FlatL q.2) (ho : Oth i δ) (hc : ∀ q ∈ Ω, FlatC q.2.2)
    (h : ∀ z' d, z'.sa = z.sa → S1 X z' st { nx := fun δ' Ω' => δ'[i]? = some (some (tFz d es)) ∧ Oth i δ' ∧ (∀ q ∈ Ω', FlatC q.2.2) ∧ SWs X z rest D (δ'.set i (some (tDK es))) Ω', rt := fun _ _ => False } (δ.set i (some (tFz d es))) Ω) : SWs X z (st :: rest) D δ Ω := fun F G H σ sf g => by
  obtain ⟨d, kvs, ed, r, lk⟩ := g.lock hi he ho hc
  refine w_pss (pss_cons (ps_lock ps_w) pss_w) ⟨d, .dK kvs, g.bg.le d _ ed, trivial, fun od pins s I => ?_⟩
  refine wpAny_mono (h (z.lock G d (.frz od (.dK kvs))) d rfl _ _ _ σ (Same.refl _) (lk od) pins s I) (fun f s' q => ?_) fun _ _ q => q
  cases f with
  | next =>
    obtain ⟨σ', H', I', G2, δ2, Ω2, g2, s2, k1, k2, k3, k4⟩ := q
    obtain ⟨hd, sg, g3⟩ := Good.unlock g.bg ed r g2 k1 he k2 k3
    exact ⟨σ', H', I', hd, k4 F _ _ σ' (sf.trans sg) g3⟩
  | brk => obtain ⟨σ', H', I', G2, δ2, Ω2, g2, s2, k⟩ := q; exact k.elim
  | cont => obtain ⟨σ', H', I', G2, δ2, Ω2, g2, s2, k⟩ := q; exact k.elim
  | ret v => obtain ⟨y, σ', H', I', r, k⟩ := q; exact k.elim

/-! ### what is walked -/
theorem ei_keys {d : Addr} (ha : EvD X z δ e (tFz d es)) : EvI X z δ tg e es.length (fun i => tEx (fun kk => (es[i]?).map (·.1) = some kk) fun kk => tRaw (kV kk)) := ⟨_, pi_keys pe_w, fun G H σ bg rs R q => ha G H σ bg rs _ fun v G1 H1 e1 t => by
  obtain ⟨rfl, od, kvs, ed, r⟩ := t
  have hl := r.length
  refine ⟨d, od, rfl, .inl ⟨kvs, e1.le d _ ed, q (Itk d od kvs) G1 H1 _ _ e1 (hl ▸ walk_keys (d := d) (o := od) (kvs := kvs)) (fun G2 H2 s l => l d _ (s _ _ ed)) fun i G2 H2 v H3 hi s l st y => ?_⟩⟩
  obtain ⟨rfl, kk, w, hk, rfl⟩ := y
  refine ⟨G2, Ext.rfl' l st, kk, ?_, rfl⟩
  have e2 := congrArg (fun l : List L2.Key => l[i]?) r.keys
  simp only [List.getElem?_map] at e2
  rw [← e2, hk]
  rfl⟩
theorem ei_items {d : Addr} {elts : List Expr} {kk : Nat} {tpos : Pos} (ha : EvD X z δ e (tFz d es)) (hbase : attributeBase e "items" X.env (eval e X.env) = eval e X.env := by rfl) (hline : (apos.endLine == cpos.line) = true := by rfl) :
    EvI X z δ (.Tuple elts kk tpos) (.Call (.Attribute e "items" apos) [] [] cpos) es.length (fun i => tEx (fun q : L2.Key × Ty => es[i]? = some q) fun q => tT [tRaw (kV q.1), q.2]) := ⟨_, pi_items pe_w hbase hline, fun G H σ bg rs R q => ha G H σ bg rs _ fun v G1 H1 e1 t => by
  obtain ⟨rfl, od, kvs, ed, r⟩ := t
  have hl := r.length
  refine ⟨d, od, kvs, rfl, e1.le d _ ed, q (Iti d od kvs) G1 H1 _ _ e1 (hl ▸ walk_items (d := d) (o := od) (kvs := kvs)) (fun G2 H2 s l => l d _ (s _ _ ed)) fun i G2 H2 v H3 hi s l st y => ?_⟩
  obtain ⟨t, v1, v2, rfl, nt, rfl, h1, h2⟩ := y
  have n := Ext.new (sa := z.sa) (o := .tup [v1, v2]) l st nt
  have at_ : ∀ {kvs : List (L2.Key × V)} {es : List (L2.Key × Ty)} {i : Nat}, Ents G2 kvs es → kvs[i]?.map (fun kv => kV kv.1) = some v1 → kvs[i]?.map Prod.snd = some v2 → ∃ q, es[i]? = some q ∧ v1 = kV q.1 ∧ q.2.p v2 G2 := by
    intro kvs es
    induction kvs generalizing es with
    | nil => intro i _ a _; simp at a
    | cons p kvs ih =>
      intro i r a b
      cases r with
      | @cons _ q _ es hq t =>
        cases i with
        | zero =>
          simp at a b
          exact ⟨q, rfl, by rw [← a, hq.1], by rw [← b]; exact hq.2⟩
        | succ j =>
          obtain ⟨q', h1, h2, h3⟩ := ih (es := es) (i := j) t (by simpa using a) (by simpa using b)
          exact ⟨q', by simpa using h1, h2, h3⟩
  obtain ⟨q2, e2, rfl, t2⟩ := at_ (r.mono s) h1 h2
  exact ⟨_, n, q2, e2, t, _, rfl, upd_same, .cons rfl (.cons (q2.2.mono n.g t2) .nil)⟩⟩
end
end Z
end
section
set_option maxRecDepth 100000
set_option maxHeartbeats 4000000
/-! Z8: tests of two parts in a good state, a dict of one's own by a comprehension, sorted, list of a text. -/
namespace Z
open PySem PySem.Spec PyProof.Rows L2
open PySem.W (EachIs AllAlike Sortable dataLe)

/-! ### the order of names -/
def leS (a b : Str) : Bool := decide (a.cps.toList ≤ b.cps.toList)
theorem str_ext {a b : Str} (h : a.cps.toList = b.cps.toList) : a = b := by
  obtain ⟨x⟩ := a
  obtain ⟨y⟩ := b
  exact congrArg Str.mk (Array.toList_inj.mp h)
theorem leS_trans (a b c : Str) (h1 : leS a b = true) (h2 : leS b c = true) : leS a c = true := decide_eq_true (Std.le_trans (of_decide_eq_true h1) (of_decide_eq_true h2))
theorem leS_total (a b : Str) : (leS a b || leS b a) = true := by
  rcases Std.le_total (a := a.cps.toList) (b := b.cps.toList) with h | h
  · simp [leS, h]
  · simp [leS, h]
theorem leS_anti (a b : Str) (h1 : leS a b = true) (h2 : leS b a = true) : a = b := str_ext (Std.le_antisymm (of_decide_eq_true h1) (of_decide_eq_true h2))
def sortN (ks : List Str) : List Str := ks.mergeSort leS
theorem dataLe_leS : (dataLe false fun b : Str => PyData.str b) = leS := PySem.W.dataLe_str (fun b : Str => b)
theorem sortN_perm (ks : List Str) : (sortN ks).Perm ks := List.mergeSort_perm ks leS
theorem sortN_pair (ks : List Str) : (sortN ks).Pairwise (fun a b => leS a b = true) := List.pairwise_mergeSort leS_trans leS_total ks
theorem sortN_uniq {ks ys : List Str} (p : ys.Perm ks) (h : ys.Pairwise (fun a b => leS a b = true)) : ys = sortN ks :=
  List.Perm.eq_of_pairwise (le := fun a b => leS a b = true) (fun a b _ _ => leS_anti a b) h (sortN_pair ks) (p.trans (sortN_perm ks).symm)
theorem rising_pair : ∀ (p : Str) (l : List Str), risingS p l = true → (p :: l).Pairwise (fun a b => leS a b = true)
  | p, [], _ => List.pairwise_singleton ..
  | p, x :: r, h => by
    have h' : (!ltCps x.cps.toList p.cps.toList) = true ∧ risingS x r = true := by
      unfold risingS at h
      exact Bool.and_eq_true_iff.mp h
    have px : leS p x = true := by
      have q := h'.1
      rw [ltCps_eq] at q
      refine decide_eq_true ?_
      have q2 : ¬ (x.cps.toList < p.cps.toList) := by simpa using q
      exact List.not_lt.mp q2
    have ih := rising_pair x r h'.2
    refine List.pairwise_cons.mpr ⟨fun y m => ?_, ih⟩
    rcases List.mem_cons.mp m with e | m
    · rw [e]
      exact px
    · exact leS_trans p x y px ((List.pairwise_cons.mp ih).1 y m)
theorem sortedS_pair : ∀ {l : List Str}, sortedS l = true → l.Pairwise (fun a b => leS a b = true)
  | [], _ => .nil
  | x :: r, h => rising_pair x r h

section
variable {X : Cx} {z : Zn} {δ δ' : List (Option Ty)} {Ω : Own} {a b c e o value kx vx tg iter : Expr} {es : List Expr} {p p' pos cpos apos : Pos} {T U W : Ty} {Ts Us : List Ty} {C : Cy} {i j k n : Nat} {al : Option Addr} {D : Dn} {rest sa sb body : List Stmt} {x f : Str} {β : Type}
theorem egb_and {P R : Bool → Prop} (ha : EvGB X z δ Ω a P) (h0 : P false → R false) (hb : P true → EvGB X z δ Ω b R) : EvGB X z δ Ω (.BoolOp .And [a, b] pos) R := fun G H σ g Q q =>
  w_pt (PW.pt (pw_and pt_w (pw_and1 pt_w))) (ha G H σ g _ fun d G1 H1 x1 hd => by
    cases d with
    | true => exact hb hd G1 H1 σ (g.ext x1) _ fun d2 G2 H2 x2 h2 => q d2 G2 H2 (x1.trans x2) h2
    | false => exact q false G1 H1 x1 (h0 hd))
theorem EvG.imp2 (h : EvG X z δ Ω e T) (f : ∀ v G, T.p v G → U.p v G) : EvG X z δ Ω e U := fun G H σ g Q q => h G H σ g Q fun v G' H' x t => q v G' H' x (f v G' t)

/-! ### a dict of one's own, the keys all different -/
theorem ef_dc {scope : Scope} {own : List (Str × Nat)} {Tt : Nat → Ty} (δ1 : Nat → List (Option Ty)) (ky : Nat → L2.Key) (U : Nat → Ty) {g : TG} (hc : X.calm = true) (hN : X.N.Nodup) (hi : EvI X z δ tg iter n Tt) (ok : BlkOk X.N X.env.scope scope own)
    (hg : ∀ i, i < n → TgB X scope (own.map (·.2)) tg (Tt i) (wipeT δ (own.map (·.2))) (δ1 i) g) (hg0 : ∀ (s : Shared) (H : Hp) (C : Addr) (cl : List (Str × Addr)) (fp : List Addr), PG (X.blk s H scope (compEnvC scope cl C X.env) fp) tg g)
    (hk : ∀ i, i < n → ∀ (s : Shared) (H : Hp) (C : Addr) (cl : List (Str × Addr)) (fp : List Addr), EvD (X.blk s H scope (compEnvC scope cl C X.env) fp) z (δ1 i) kx (tRaw (kV (ky i))))
    (he : ∀ i, i < n → ∀ (s : Shared) (H : Hp) (C : Addr) (cl : List (Str × Addr)) (fp : List Addr), EvD (X.blk s H scope (compEnvC scope cl C X.env) fp) z (δ1 i) vx (U i)) (hz : n ≤ 1000) (hd : ((List.range n).map ky).Nodup)
    (hs : ∀ x, foldedSetIterable iter X.env x = pure x := by intro _; rfl) : EvF X z δ Ω (.DictComp kx vx [⟨tg, iter, [], 0⟩] scope pos) (cDK ((List.range n).map fun i => (ky i, U i))) := fun G H σ g0 Q q => by
  have bg := g0.bg
  have rs := g0.rs
  obtain ⟨wi, hpi, hwi⟩ := hi
  refine w_pe (pe_dc (own := own) (g := g) (tt := tYes) (tk := uE X scope kx) (tv := uE X scope vx) hc hN hpi ok hg0 (fun _ _ _ _ _ => pts_nil)
    (fun s H C cl fp => ⟨fun pins s' σ' H' Q' I h => h s H C cl fp pins s' I⟩) (fun s H C cl fp => ⟨fun pins s' σ' H' Q' I h => h s H C cl fp pins s' I⟩) hs) ?_
  refine hwi G H σ bg rs _ fun J G1 H1 N Y e1 wk hN1 hY => fun D hD => ?_
  have ns := no_sa e1.st hD
  have go : ∀ (i : Nat), i ≤ n → ∀ ky' : Nat → L2.Key, ((List.range i).map fun j => (ky' j, U j)).map (·.1) = (List.range i).map ky' := fun i _ ky' => by rw [List.map_map]; rfl
  refine ⟨fun i m H' => m = n - i ∧ i ≤ n ∧ ∃ G' kvs, ExtB z.sa D G1 H1 G' H' ∧ H' D = some (.dK kvs) ∧ Ents G' kvs ((List.range i).map fun j => (ky j, U j)), ⟨n, by simp, Nat.zero_le _, G1, [], ExtB.start e1.le e1.st hD, upd_same, .nil⟩, ?_⟩
  rintro i m H2 ⟨rfl, hin, G', kvs, x, ed, r⟩
  have hN2 := hN1 G' H2 x.g x.le
  by_cases hlt : i < n
  · refine .inr ⟨wk.goes i H2 hlt hN2, fun H' => ∃ G' kvs, ExtB z.sa D G1 H1 G' H' ∧ H' D = some (.dK kvs) ∧ Ents G' kvs ((List.range (i + 1)).map fun j => (ky j, U j)), fun H' p' => ⟨n - (i + 1), by omega, rfl, hlt, p'⟩, fun v H3 hy => ?_⟩
    obtain ⟨G3, x3, tv⟩ := hY i G' H2 v H3 hlt x.g x.le x.st (wk.yields i H2 v H3 hlt hN2 hy)
    have b3 : ExtB z.sa D G1 H1 G3 H3 := x.next hD ⟨_, ed, rfl⟩ x3
    have ed3 : H3 D = some (.dK kvs) := x3.h D _ ns ed
    have rs3 : RepS G3 (wipe σ (own.map (·.2))) (wipeT δ (own.map (·.2))) := (rs.mono (e1.g.trans b3.g)).wipe _
    refine (hg i hlt).to G3 H3 _ v x3.le rs3 tv _ fun σ' r' w' => ⟨w'.trans (wipe_wipe _ _), ?_⟩
    refine tyes fun s H0 C cl fp => hk i hlt s H0 C cl fp G3 H3 σ' (bg.ext e1 |>.extB hD b3) r' _ fun y G4 H4 x4 ty => ?_
    have b4 := b3.next hD ⟨_, ed3, rfl⟩ x4
    have ed4 : H4 D = some (.dK kvs) := x4.h D _ ns ed3
    intro s H0 C cl fp
    refine he i hlt s H0 C cl fp G4 H4 σ' (bg.ext e1 |>.extB hD b4) (r'.mono x4.g) _ fun w G5 H5 x5 tw => ?_
    have b5 := b4.next hD ⟨_, ed4, rfl⟩ x5
    have ed5 : H5 D = some (.dK kvs) := x5.h D _ ns ed4
    have hkn : ky i ∉ kvs.map (·.1) := by
      rw [r.keys, go i (Nat.le_of_lt hlt)]
      intro m
      have h2 : ((List.range (i + 1)).map ky).Nodup := by
        have e : (List.range n).map ky = (List.range (i + 1)).map ky ++ ((List.range (n - (i + 1))).map fun j => ky (i + 1 + j)) := by
          have : n = (i + 1) + (n - (i + 1)) := by omega
          conv => lhs; rw [this, List.range_add, List.map_append, List.map_map]
          rfl
        rw [e] at hd
        exact (List.nodup_append.mp hd).1
      rw [List.range_succ, List.map_append] at h2
      exact (List.nodup_append.mp h2).2.2 _ m _ (by simp) rfl
    refine ⟨kvs, ky i, ty, ed5, ?_, G5, kvs ++ [(ky i, w)], ?_, ?_, ?_⟩
    · rw [r.length, List.length_map, List.length_range]
      exact small1000 (Nat.le_trans (Nat.le_of_lt hlt) hz)
    · exact b5.put ns
    · rw [upd_same, putK_snoc hkn]
    · rw [List.range_succ, List.map_append]
      exact (r.mono ((x3.g.trans x4.g).trans x5.g)).snoc tw
  · have e : i = n := by omega
    subst e
    refine .inl ⟨wk.stops H2 hN2, ?_⟩
    have hD0 : H D = none := by
      cases hh : H D with
      | none => rfl
      | some u => exact absurd hD (e1.al (ne_none hh))
    refine q D (.dK kvs) G' H2 ⟨e1.g.trans x.g, fun a o ns' e2 => x.h a o (fun w => ?_) ns' (e1.h a o ns' e2), x.le, fun a n e2 => x.nw a (e1.nt n) (e1.nw a n e2), x.st⟩ hD0 x.nd ed ⟨kvs, rfl, r⟩
    rw [w, hD0] at e2
    cases e2

/-! ### sorted -/
theorem reps_each {G : Hp} {enc : β → PyData} : ∀ {vs : List V} {bs : List β}, Reps G vs (bs.map fun b => dat (enc b)) → EachIs (fun v b => Rp G v (enc b)) vs bs
  | [], [], _ => .nil
  | _ :: _, [], h => by cases h
  | [], _ :: _, h => by cases h
  | _ :: _, _ :: _, h => by cases h with | cons r t => exact .cons r (reps_each t)
theorem each_reps {G : Hp} {enc : β → PyData} : ∀ {vs : List V} {bs : List β}, EachIs (fun v b => Rp G v (enc b)) vs bs → Reps G vs (bs.map fun b => dat (enc b))
  | _, _, .nil => .nil
  | _, _, .cons r t => .cons r (each_reps t)
theorem ev_sort {enc : β → PyData} {bs : List β} (hr : Room k X.A) (hm : X.mg "sorted" = none) (hal : AllAlike (bs.map enc)) (hso : Sortable (bs.map enc)) (hdp : ∀ b ∈ bs, (enc b).depth ≤ 8) (ha : EvD X z δ a (tL (bs.map fun b => dat (enc b))))
    (hg : Gl X "sorted" := by rfl) (he : starEach [a] X.env = (false, eval a X.env) :: starEach [] X.env := by rfl) : EvD X z δ (.Call (.Name "sorted" p) [a] [] pos) (tL ((bs.mergeSort (dataLe false enc)).map fun b => dat (enc b))) :=
  ev_cb (call_sortedU (hu64 hr)) hm (by decide +kernel) (rct_new fun xs G H Q l r q => by
    obtain ⟨v, rfl, d, vs, rfl, ed, rr⟩ := reps1 r
    refine ⟨β, d, vs, bs, enc, _, rfl, SqL.of (l.at_ ed rfl), reps_each rr, fun v b h => Rp.dp l h, hal, hso, hdp, fun p out np hout => q p _ np ?_⟩
    exact ⟨p, out, rfl, upd_same, (each_reps hout).mono (same_new l np)⟩) (ea1 ha he) hg (by decide) (by decide) he rfl
theorem ev_sortS {ks : List Str} (hr : Room k X.A) (hm : X.mg "sorted" = none) (ha : EvD X z δ a (tL (ks.map fun b => dat (.str b)))) (hg : Gl X "sorted" := by rfl) (he : starEach [a] X.env = (false, eval a X.env) :: starEach [] X.env := by rfl) :
    EvD X z δ (.Call (.Name "sorted" p) [a] [] pos) (tL ((sortN ks).map fun b => dat (.str b))) := by
  have h := ev_sort (p := p) (pos := pos) (enc := fun b : Str => PyData.str b) (bs := ks) hr hm (PySem.W.AllAlike.of fun _ _ => by simp [PySem.W.alike]) (PySem.W.Sortable.others fun _ => ⟨(fun w => nomatch w), (fun _ w => nomatch w)⟩) (fun b _ => by simp [PyData.depth]) ha hg he
  rw [dataLe_leS] at h
  exact h
theorem ev_sortRev {ns : List Int} {kp kp2 : Pos} {jj} (hr : Room k X.A) (hm : X.mg "sorted" = none) (ha : EvD X z δ a (tL (ns.map fun b => dat (.int b)))) (hg : Gl X "sorted" := by rfl)
    (hkw : PK X [⟨some "reverse", .Constant (.bool true) jj kp, kp2⟩] (tCons (tC (.bl true)) tNil))
    (he : backTo pos (starEach [a] X.env) = (false, eval a X.env) :: backTo pos (starEach [] X.env) := by rfl) (he2 : starEach [a] X.env = (false, eval a X.env) :: starEach [] X.env := by rfl) (hpl : (backTo pos (starEach [a] X.env)).any (·.1) = false := by rfl)
    (hall : (backToKw pos (keywordEach [⟨some "reverse", .Constant (.bool true) jj kp, kp2⟩] X.env)).all (·.1.isSome) = true := by rfl) (hnone : (backToKw pos (keywordEach [⟨some "reverse", .Constant (.bool true) jj kp, kp2⟩] X.env)).any (·.1.isNone) = false := by rfl)
    (hks : (backToKw pos (keywordEach [⟨some "reverse", .Constant (.bool true) jj kp, kp2⟩] X.env)).filterMap (·.1) = [Str.ofString "reverse"] := by rfl) :
    EvD X z δ (.Call (.Name "sorted" p) [a] [⟨some "reverse", .Constant (.bool true) jj kp, kp2⟩] pos) (tL ((ns.mergeSort fun a b => decide (b ≤ a)).map fun b => dat (.int b))) := fun G H σ bg rs Q q => by
  refine w_pe (pe_callBK (call_sortedR (b := true) (hu64 hr)) hg hm (by decide +kernel) (pa_cons pe_w pa_nil he2) hkw (by decide) (by decide) he hpl hall hnone hks) (ha G H σ bg rs _ fun v G1 H1 e1 t => ?_)
  obtain ⟨d, vs, rfl, ed, rr⟩ := t
  refine ⟨rfl, Int, d, vs, ns, fun b => PyData.int b, _, rfl, SqL.of (e1.le.at_ ed rfl), reps_each rr, fun v b h => Rp.dp e1.le h, PySem.W.AllAlike.of fun _ _ => by simp [PySem.W.alike], PySem.W.Sortable.others fun _ => ⟨(fun w => nomatch w), (fun _ w => nomatch w)⟩, fun b _ => by simp [PyData.depth], fun p out np hout => ?_⟩
  have n := Ext.new (sa := z.sa) (o := .lst out) e1.le e1.st np
  rw [PySem.W.dataGe_int (fun b : Int => b)] at hout
  exact q _ _ _ (e1.trans n) ⟨p, out, rfl, upd_same, (each_reps hout).mono n.g⟩
/-- sorted(d), the keys texts -/
theorem ev_sortD {es' : List (L2.Key × Ty)} {ks : List Str} (hc : X.calm = true) (hm : X.mg "sorted" = none) (hk : es'.map (·.1) = ks.map Sum.inr) (hl : ks.length < 64) (ha : EvD X z δ a (tDR es')) (hg : Gl X "sorted" := by rfl) (he : starEach [a] X.env = (false, eval a X.env) :: starEach [] X.env := by rfl) :
    EvD X z δ (.Call (.Name "sorted" p) [a] [] pos) (tL ((sortN ks).map fun b => dat (.str b))) :=
  ev_cb (call_sortedD hc) hm (by decide +kernel) (rct_new fun xs G H Q l r q => by
    obtain ⟨v, rfl, d, vs, rfl, ed, rr⟩ := reps1 r
    refine ⟨d, vs, ks, rfl, l.rd ed, rr.keys.trans hk, hl, fun ys p hp hs np => q p _ np ?_⟩
    rw [← sortN_uniq hp (sortedS_pair hs)]
    refine ⟨p, ys.map V.str, rfl, upd_same, ?_⟩
    have go : ∀ {G : Hp} (ys : List Str), Reps G (ys.map V.str) (ys.map fun b => dat (.str b)) := by
      intro G ys
      induction ys with
      | nil => exact .nil
      | cons y r ih => exact .cons (.str y) ih
    exact go ys) (ea1 ha he) hg (by decide) (by decide) he rfl
theorem Ext.tup {sa : Option Addr} {G H : Hp} {a : Addr} {vs : List V} (l : Le G H) (s : StI sa G H) (e : H a = some (.tup vs)) : Ext sa G H (upd G a (.tup vs)) H := by
  have sg : Same G (upd G a (.tup vs)) := fun y u q => by
    by_cases h : y = a
    · have q2 := l y u q
      rw [h, e] at q2
      rw [h, upd_same]
      exact q2
    · rw [upd_ne h]
      exact q
  refine ⟨sg, fun y u _ q => q, fun y u q => ?_, fun y n q => ?_, ?_⟩
  · by_cases h : y = a
    · rw [h, upd_same] at q
      rw [h, e]
      exact q
    · rw [upd_ne h] at q
      exact l y u q
  · have h : y ≠ a := fun w => by
      obtain ⟨o, ho, hn⟩ := n
      rw [w, e] at ho
      cases ho
      cases hn
    rw [upd_ne h]
    exact q
  · cases sa with
    | none => trivial
    | some s' =>
      obtain ⟨n, c, cells, i, r, k, seed, e1, e2, e3⟩ := s
      exact ⟨by rw [upd_ne (fun w => by rw [w, e] at e2; cases e2)]; exact n, c, cells, i, r, k, seed, sg _ _ e1, e2, e3⟩
theorem keyD_rps {G : Hp} : ∀ ks : List L2.Key, Rps G (ks.map kV) (ks.map keyD)
  | [] => .nil
  | .inl i :: r => .cons (.int i) (keyD_rps r)
  | .inr x :: r => .cons (.str x) (keyD_rps r)
theorem keyD_of {G : Hp} : ∀ {ks : List L2.Key} {vs : List V}, Rps G vs (ks.map keyD) → vs = ks.map kV
  | [], _, h => by cases h; rfl
  | .inl i :: r, _, h => by
    cases h with
    | cons a t => rw [Rp.int_of a, keyD_of t]; rfl
  | .inr x :: r, _, h => by
    cases h with
    | cons a t => rw [Rp.str_of a, keyD_of t]; rfl
/-- the keys' tuples, found in the heap, are known from now on -/
theorem keys_known {sa : Option Addr} {ky : β → List L2.Key} : ∀ {out : List V} {bs : List β} {G H : Hp}, Le G H → StI sa G H → EachIs (fun v b => ∃ a, v = .ref a ∧ H a = some (.tup ((ky b).map kV))) out bs → ∃ G', Ext sa G H G' H ∧ Reps G' out (bs.map fun b => dat (.tuple ((ky b).map keyD)))
  | _, _, G, H, l, s, .nil => ⟨G, Ext.rfl' l s, .nil⟩
  | _, _, G, H, l, s, .cons ⟨a, e, ha⟩ t => by
    have x1 := Ext.tup l s ha
    obtain ⟨G', x2, r⟩ := keys_known (ky := ky) x1.le x1.st t
    exact ⟨G', x1.trans x2, .cons (by rw [e]; exact .tup (x2.g _ _ upd_same) (keyD_rps _)) r⟩
/-- sorted(d), the keys tuples -/
theorem ev_sortDT {es' : List (List L2.Key × Ty)} {bs : List β} {ky : β → List L2.Key} (hc : X.calm = true) (hr : Room k X.A) (hm : X.mg "sorted" = none) (hk : es'.map (·.1) = bs.map ky) (hal : AllAlike (bs.map fun b => .tuple ((ky b).map keyD))) (hne : ∀ b ∈ bs, ky b ≠ []) (hdp : ∀ b ∈ bs, (PyData.tuple ((ky b).map keyD)).depth ≤ 8)
    (ha : EvD X z δ a (tDT es')) (hg : Gl X "sorted" := by rfl) (he : starEach [a] X.env = (false, eval a X.env) :: starEach [] X.env := by rfl) :
    EvD X z δ (.Call (.Name "sorted" p) [a] [] pos) (tL ((bs.mergeSort (dataLe false fun b => .tuple ((ky b).map keyD))).map fun b => dat (.tuple ((ky b).map keyD)))) :=
  ev_cb (call_sortedDT hc (hu64 hr)) hm (by decide +kernel) (fun xs G H l st r Q q => by
    obtain ⟨v, rfl, d, vs, rfl, ed, rr⟩ := reps1 r
    refine ⟨β, d, vs, bs, ky, rfl, .inl (l d _ ed), rr.keys.trans hk, hal, hne, hdp, fun p out np hout => ?_⟩
    obtain ⟨G', x1, r2⟩ := keys_known l st hout
    have x2 := Ext.new (sa := z.sa) (p := p) (o := .lst out) x1.le x1.st np
    exact q (.ref p) _ _ (x1.trans x2) ⟨p, out, rfl, upd_same, r2.mono x2.g⟩) (ea1 ha he) hg (by decide) (by decide) he rfl
theorem ev_dgetT {es' : List (List L2.Key × Ty)} {kk : List L2.Key} (hu : X.A.units + 1 < cLine) (h : lookT es' kk = some T) (ha : EvD X z δ a (tDT es')) (hb : EvD X z δ b (dat (.tuple (kk.map keyD)))) (hs : NoSl b := by exact fun _ _ => rfl) : EvD X z δ (.Subscript a b pos) T := fun G H σ bg rs Q q => by
  refine w_pe (pe_dget hu pe_w pe_w hs) (ha G H σ bg rs _ fun x G1 H1 e1 t => hb G1 H1 σ (bg.ext e1) (rs.mono e1.g) _ fun y G2 H2 e2 u => ?_)
  obtain ⟨d, kvs, rfl, ed, r⟩ := t
  obtain ⟨q2, vs, rfl, eq, rr⟩ := Rp.tup_of u
  rw [keyD_of rr] at eq
  obtain ⟨v, hv, tv⟩ := (Ents.look (k := kk) (r.mono e2.g)).1 T h
  exact ⟨d, v, rfl, hv ▸ DGet.t (e2.le d _ (e2.g _ _ ed)) (e2.le _ _ eq), q v G2 H2 (e1.trans e2) tv⟩
theorem ev_listS {y : Str} (hc : X.calm = true) (hl : y.length ≤ 1000) (hm : X.mg "list" = none) (ha : EvD X z δ a (dat (.str y))) (hg : Gl X "list" := by rfl) (he : starEach [a] X.env = (false, eval a X.env) :: starEach [] X.env := by rfl) :
    EvD X z δ (.Call (.Name "list" p) [a] [] pos) (tL (y.cps.toList.map fun c => dat (.str (chS c)))) :=
  ev_ct (call_listS hc) hm (by decide +kernel) (rct_new fun xs G H Q l r q => by
    obtain ⟨v, rfl, t⟩ := reps1 r
    rw [Rp.str_of t]
    refine ⟨y, rfl, Nat.le_of_lt (small1000 hl), fun p np => q p _ np ⟨p, _, rfl, upd_same, ?_⟩⟩
    have go : ∀ {G : Hp} (cs : List Nat), Reps G (cs.map fun c => V.str (chS c)) (cs.map fun c => dat (.str (chS c))) := by
      intro G cs
      induction cs with
      | nil => exact .nil
      | cons y r ih => exact .cons (.str _) ih
    exact go _) (ea1 ha he) hg (by decide) (by decide) he rfl
/-- x = [..], x a local -/
theorem sw_setLc {scope : Scope} {own : List (Str × Nat)} {Tt : Nat → Ty} {elt : Expr} {ifs : List Expr} {py : Pos} (i : Nat) (δ1 : Nat → List (Option Ty)) (keep : Nat → Bool) (U : Nat → Ty) {g : TG} (hc : X.calm = true) (hN : X.N.Nodup) (hi : EvI X z δ tg iter n Tt) (ok : BlkOk X.N X.env.scope scope own)
    (hg : ∀ i, i < n → TgB X scope (own.map (·.2)) tg (Tt i) (wipeT δ (own.map (·.2))) (δ1 i) g) (hg0 : ∀ (s : Shared) (H : Hp) (C : Addr) (cl : List (Str × Addr)) (fp : List Addr), PG (X.blk s H scope (compEnvC scope cl C X.env) fp) tg g)
    (ht : ∀ i, i < n → ∀ (s : Shared) (H : Hp) (C : Addr) (cl : List (Str × Addr)) (fp : List Addr), EvTs (X.blk s H scope (compEnvC scope cl C X.env) fp) z (δ1 i) ifs (keep i))
    (he : ∀ i, i < n → keep i = true → ∀ (s : Shared) (H : Hp) (C : Addr) (cl : List (Str × Addr)) (fp : List Addr), EvD (X.blk s H scope (compEnvC scope cl C X.env) fp) z (δ1 i) elt (U i)) (hz : n ≤ 1000)
    (k : SWs X z rest D (δ.set i (some (tL (((List.range n).filter keep).map U)))) Ω) (ho : ∀ q ∈ Ω, i ≠ q.1 := by simp) (hy : X.N[i]? = some x := by rfl) (hyl : X.env.scope.names.lookup x = some .local := by rfl)
    (hsw : swapsWith (.ListComp elt [⟨tg, iter, ifs, 0⟩] scope p) (some (.Name x py)) pos.line X.env = pure true := by exact sw_true rfl rfl rfl (by decide +kernel)) (hs : ∀ x, foldedSetIterable iter X.env x = pure x := by intro _; rfl) :
    SWs X z (.Assign [.Name x py] (.ListComp elt [⟨tg, iter, ifs, 0⟩] scope p) pos :: rest) D δ Ω := fun F G H σ sf g0 => by
  obtain ⟨wi, hpi, hwi⟩ := hi
  refine w_pss (pss_cons (ps_setLc (own := own) (g := g) (tt := uT X scope ifs) (te := uE X scope elt) hc hN hy hyl hsw hpi ok hg0
    (fun s H C cl fp => ⟨fun pins s' σ' H' Q' I h => h s H C cl fp pins s' I⟩) (fun s H C cl fp => ⟨fun pins s' σ' H' Q' I h => h s H C cl fp pins s' I⟩) hs) pss_w) ?_
  exact lc_c δ1 keep U hwi hg ht he hz g0.bg g0.rs fun v G1 H1 x1 t => k F G1 H1 _ (sf.trans x1.g) ⟨g0.bg.ext x1, (g0.rs.mono x1.g).set t i, (g0.ow.ext x1).slot fun q m => List.getElem?_set_ne (ho q m)⟩
end
end Z
end
section
set_option maxRecDepth 100000
set_option maxHeartbeats 4000000
/-! Z9: from a body to its def's promise. -/
namespace Z
open PySem PySem.Spec PyProof.Rows L2

def slots (N : List Str) (Ts : List (Option Ty)) : List (Option Ty) := Ts ++ List.replicate (N.length - Ts.length) none
theorem reps_start {G : Hp} {N : List Str} {vs : List V} {Ts : List (Option Ty)} (hl : vs.length = Ts.length) (h : ∀ (i : Nat) (T : Ty), Ts[i]? = some (some T) → ∃ v, vs[i]? = some v ∧ T.p v G) : RepS G (L2.start N vs) (slots N Ts) := by
  unfold L2.start slots
  refine ⟨by rw [List.length_append, List.length_append, List.length_map, List.length_replicate, List.length_replicate, hl], fun i T e => ?_⟩
  by_cases c : i < Ts.length
  · rw [List.getElem?_append_left c] at e
    obtain ⟨v, e1, t⟩ := h i T e
    refine ⟨v, ?_, t⟩
    rw [List.getElem?_append_left (by rw [List.length_map, hl]; exact c), List.getElem?_map, e1]
    rfl
  · rw [List.getElem?_append_right (by omega)] at e
    rw [List.getElem?_replicate] at e
    split at e
    · cases e
    · cases e
theorem reps_startA {G : Hp} {N : List Str} {vs : List V} {Ts : List Ty} (r : Reps G vs Ts) : RepS G (L2.start N vs) (slots N (Ts.map some)) := by
  refine reps_start (by rw [List.length_map]; exact Paired.length r) fun i T e => ?_
  rw [List.getElem?_map] at e
  cases q : Ts[i]? with
  | none => rw [q] at e; cases e
  | some U =>
    rw [q] at e
    cases e
    exact r.at_ q
/-- a def of the module, no defaults -/
def Df (K : PySem.W.Frag) (mg : Str → Option Value) (x : Str) (pa : Arguments) (bd : List Stmt) (sc : Scope) : Prop := ∃ f fd, mg x = some (.ref f) ∧ FunD K x x pa bd sc [] [] f fd
def Bd (x qual : Str) (pa : Arguments) (bd : List Stmt) (sc : Scope) (ps : List Str) : Prop := ∀ (kV doc pm : Value) (an : Option Addr) (cdv ct : Value) (us : List Value), us.length = ps.length → bindArgs (PySem.W.fnOf x qual pa bd sc .none kV doc pm an cdv ct) ⟨us, []⟩ = pure (ps.zip us)
/-- the zone of a def that changes nothing of its callers' -/
def Pz (z : Zn) : Prop := z.sa = none ∧ ∀ a, ¬ z.B a
theorem Bg.out {z : Zn} (pz : Pz z) {G' H' : Hp} (b : Bg z G' H') : Ext none z.G0 z.H0 G' H' := ⟨b.g0, fun a o _ e => b.h0 a o (pz.2 a) e, b.le, b.nw, trivial⟩
def zP (G H : Hp) : Zn := ⟨none, G, H, fun _ => False, fun _ e => nomatch e⟩
theorem zP_p (G H : Hp) : Pz (zP G H) := ⟨rfl, fun _ h => h⟩
theorem zP_bg {G H : Hp} (l : Le G H) : Bg (zP G H) G H := ⟨l, Same.refl _, fun _ _ _ e => e, fun _ n => n, fun _ n => n, fun _ _ n => n, trivial⟩
/-- where a body ends -/
def rtT (z : Zn) (T : Ty) : VK := fun v H' => ∃ G', Bg z G' H' ∧ T.p v G'
def rtX (z : Zn) (o : Except Er Ty) : VK := fun v H' => ∃ G' T, o = .ok T ∧ Bg z G' H' ∧ T.p v G'
def rtF (z : Zn) (C : Cy) : VK := fun v H' => ∃ a o G', v = .ref a ∧ Bg z G' H' ∧ z.H0 a = none ∧ G' a = none ∧ H' a = some o ∧ C.p o G'
def rtXF (z : Zn) (o : Except Er Cy) : VK := fun v H' => ∃ C a u G', o = .ok C ∧ v = .ref a ∧ Bg z G' H' ∧ z.H0 a = none ∧ G' a = none ∧ H' a = some u ∧ C.p u G'
def dT (z : Zn) (T : Ty) : Dn := { nx := fun _ _ => ∀ G, T.p .non G, rt := rtT z T }
def dX (z : Zn) (o : Except Er Ty) : Dn := { nx := fun _ _ => ∀ G, ∃ T, o = .ok T ∧ T.p .non G, rt := rtX z o }
def dF (z : Zn) (C : Cy) : Dn := { nx := fun _ _ => False, rt := rtF z C }
def dXF (z : Zn) (o : Except Er Cy) : Dn := { nx := fun _ _ => False, rt := rtXF z o }
def dM (C : Cy) (a : Addr) : Dn := { nx := fun _ Ω => ∃ Ω', Ω = (0, some a, C) :: Ω', rt := fun _ _ => False }
/-- from low ends to the promise's -/
theorem low_out {X : Cx} {z : Zn} {sts : List Stmt} {D : Dn} {F : Hp} {σ : L2.St} {H : Hp} {Q : VK} (h : tWs X sts (low z F D) σ H) (hn : ∀ σ' H' G' δ Ω, Good z G' H' σ' δ Ω → D.nx δ Ω → Q .non H') (hr : ∀ v H', D.rt v H' → Q v H') (hb : ∀ δ Ω, ¬ D.bk δ Ω) (hc : ∀ δ Ω, ¬ D.ct δ Ω) :
    tWs X sts { nx := fun _ H' => Q .non H', rt := Q } σ H := fun pins s I => by
  refine wpAny_mono (h pins s I) (fun f s' q => ?_) fun _ _ q => q
  cases f with
  | next => obtain ⟨σ', H', I', G', δ', Ω', a, b, c⟩ := q; exact ⟨σ', H', I', hn σ' H' G' δ' Ω' a c⟩
  | brk => obtain ⟨σ', H', I', G', δ', Ω', a, b, c⟩ := q; exact absurd c (hb _ _)
  | cont => obtain ⟨σ', H', I', G', δ', Ω', a, b, c⟩ := q; exact absurd c (hc _ _)
  | ret v => obtain ⟨y, σ', H', I', r, c⟩ := q; exact ⟨y, σ', H', I', r, hr _ _ c⟩

section
variable {P : Program} {w : World} {K : PySem.W.Frag} {mg : Str → Option Value} {base : Heap} {x qual : Str} {pa : Arguments} {bd : List Stmt} {sc : Scope} {f : Addr} {fd : FuncData} {N ps : List Str} {k : Nat} {ι : Type} {dvs : List V} {kws : List (Str × V)}
theorem ok_pr {P0 : Pr ι} (F : FunD K x qual pa bd sc dvs kws f fd) (S : FnScope N ps sc) (len : ∀ i, (P0.args i).length = ps.length)
    (hb : ∀ (cdv : Value) (A : Around) (outer : List Env) (s : Shared) (H : Hp) (E : XK) (i : ι) (z : Zn), Room k (A.deeper (envOfC qual sc s.heap.objs.size f cdv)) → Pz z → P0.pre i → SWs ((cxOf CX0 P w K mg base N qual sc f cdv A outer s H E).nox) z bd (dT z (P0.res i)) (slots N ((P0.args i).map some)) []) :
    FnOk P w K mg base CX0 (k + 1) f fd ps P0.sp := by
  refine F.ok S (fun vs H Q E h => ?_) fun cdv A outer s H vs Q E hr h => ⟨_, PSs.nox pss_w, ?_⟩
  · obtain ⟨i, G, _, _, r, _⟩ := h
    rw [Paired.length r, len]
  · obtain ⟨i, G, hp, l, r, q⟩ := h
    refine low_out (hb cdv A outer s H E i (zP G H) hr (zP_p G H) hp G G H _ (Same.refl _) ⟨zP_bg l, reps_startA r, trivial⟩) (fun σ' H' G' δ Ω g hn => ?_) (fun v H' hr => ?_) (fun _ _ z => z) (fun _ _ z => z)
    · exact q .non G' H' (g.bg.out (zP_p G H)) (hn G')
    · obtain ⟨G', b, t⟩ := hr
      exact q v G' H' (b.out (zP_p G H)) t
theorem cb_pr {P0 : Pr ι} (hD : Df K mg x pa bd sc) (S : FnScope N ps sc) (B : Bd x x pa bd sc ps) (len : ∀ i, (P0.args i).length = ps.length)
    (hb : ∀ (f : Addr) (cdv : Value) (A : Around) (outer : List Env) (s : Shared) (H : Hp) (E : XK) (i : ι) (z : Zn), Room k (A.deeper (envOfC x sc s.heap.objs.size f cdv)) → Pz z → P0.pre i → SWs ((cxOf CX0 P w K mg base N x sc f cdv A outer s H E).nox) z bd (dT z (P0.res i)) (slots N ((P0.args i).map some)) []) :
    Cb CX0 P w K mg base (k + 1) x ps P0.sp := by
  obtain ⟨f, fd, hm, F⟩ := hD
  exact ⟨f, fd, hm, F.kp, ok_pr F S len (hb f), F.bindsN B⟩
/-- the first argument the store -/
theorem cb_prS {P0 : Pr ι} (hD : Df K mg x pa bd sc) (S : FnScope N ps sc) (B : Bd x x pa bd sc ps) (len : ∀ i, (P0.args i).length + 1 = ps.length)
    (hb : ∀ (f : Addr) (cdv : Value) (A : Around) (outer : List Env) (s : Shared) (H : Hp) (E : XK) (i : ι) (z : Zn) (st : Addr), Room k (A.deeper (envOfC x sc s.heap.objs.size f cdv)) → z.sa = some st → (∀ b, z.B b → z.sa = some b) → P0.pre i →
      SWs ((cxOf CX0 P w K mg base N x sc f cdv A outer s H E).nox) z bd (dT z (P0.res i)) (slots N (some (tRaw (.ref st)) :: (P0.args i).map some)) []) :
    Cb CX0 P w K mg base (k + 1) x ps P0.spS := by
  obtain ⟨f, fd, hm, F⟩ := hD
  refine ⟨f, fd, hm, F.kp, ?_, F.bindsN B⟩
  refine F.ok S (fun vs H Q E h => ?_) fun cdv A outer s H vs Q E hr h => ⟨_, PSs.nox pss_w, ?_⟩
  · obtain ⟨i, G, st, ws, rfl, _, _, _, r, _⟩ := h
    rw [List.length_cons, Paired.length r, len]
  · obtain ⟨i, G, st, ws, rfl, hp, l, hst, r, q⟩ := h
    have zz : ∃ z : Zn, z = ⟨some st, G, H, fun a => a = st, fun s e => by cases e; rfl⟩ := ⟨_, rfl⟩
    obtain ⟨z, hz⟩ := zz
    have hsa : z.sa = some st := by rw [hz]
    have hG : z.G0 = G := by rw [hz]
    have hH : z.H0 = H := by rw [hz]
    have hB : ∀ a, z.B a ↔ a = st := fun a => by rw [hz]
    have out : ∀ {G' H' : Hp}, Bg z G' H' → Ext (some st) G H G' H' := fun {G' H'} b => ⟨hG ▸ b.g0, fun a o n e => b.h0 a o (fun w => n (by rw [(hB a).mp w])) (by rw [hH]; exact e), b.le, fun a n e => b.nw a (by rw [hH]; exact n) (by rw [hG]; exact e), by have st := b.st; rw [hsa] at st; exact st⟩
    have rs : RepS G (L2.start N (.ref st :: ws)) (slots N (some (tRaw (.ref st)) :: (P0.args i).map some)) := reps_start (by rw [List.length_cons, List.length_cons, List.length_map, Paired.length r]) fun j T e => by
      cases j with
      | zero =>
        cases e
        exact ⟨_, rfl, rfl⟩
      | succ j =>
        simp only [List.getElem?_cons_succ, List.getElem?_map] at e
        cases q2 : (P0.args i)[j]? with
        | none => rw [q2] at e; cases e
        | some U =>
          rw [q2] at e
          cases e
          obtain ⟨v, e1, t⟩ := r.at_ q2
          exact ⟨v, by simpa using e1, t⟩
    have bg : Bg z G H := ⟨l, by rw [hG]; exact Same.refl _, fun a o _ e => by rw [hH] at e; exact e, fun a n => by rw [hH] at n; exact n, fun a n => by rw [hH] at n; exact n, fun a _ n => by rw [hG] at n; exact n, by rw [hsa]; exact hst⟩
    refine low_out (hb f cdv A outer s H E i z st hr hsa (fun b hb => by rw [hsa, (hB b).mp hb]) hp G G H _ (Same.refl _) ⟨bg, rs, trivial⟩) (fun σ' H' G' δ Ω g hn => ?_) (fun v H' hr => ?_) (fun _ _ z => z) (fun _ _ z => z)
    · exact q .non G' H' (out g.bg) (hn G')
    · obtain ⟨G', b, t⟩ := hr
      exact q v G' H' (out b) t
theorem cb_prF {P0 : PrF ι} (hD : Df K mg x pa bd sc) (S : FnScope N ps sc) (B : Bd x x pa bd sc ps) (len : ∀ i, (P0.args i).length = ps.length)
    (hb : ∀ (f : Addr) (cdv : Value) (A : Around) (outer : List Env) (s : Shared) (H : Hp) (E : XK) (i : ι) (z : Zn), Room k (A.deeper (envOfC x sc s.heap.objs.size f cdv)) → Pz z → P0.pre i → SWs ((cxOf CX0 P w K mg base N x sc f cdv A outer s H E).nox) z bd (dF z (P0.cy i)) (slots N ((P0.args i).map some)) []) :
    Cb CX0 P w K mg base (k + 1) x ps P0.sp := by
  obtain ⟨f, fd, hm, F⟩ := hD
  refine ⟨f, fd, hm, F.kp, ?_, F.bindsN B⟩
  refine F.ok S (fun vs H Q E h => ?_) fun cdv A outer s H vs Q E hr h => ⟨_, PSs.nox pss_w, ?_⟩
  · obtain ⟨i, G, _, _, r, _⟩ := h
    rw [Paired.length r, len]
  · obtain ⟨i, G, hp, l, r, q⟩ := h
    refine low_out (hb f cdv A outer s H E i (zP G H) hr (zP_p G H) hp G G H _ (Same.refl _) ⟨zP_bg l, reps_startA r, trivial⟩) (fun σ' H' G' δ Ω g hn => hn.elim) (fun v H' hr => ?_) (fun _ _ z => z) (fun _ _ z => z)
    obtain ⟨a, o, G', rfl, b, na, ga, ha, ca⟩ := hr
    exact q a o G' H' (b.out (zP_p G H)) na ga ha ca
/-- it may raise -/
theorem cb_prX {P0 : PrX ι} (hD : Df K mg x pa bd sc) (S : FnScope N ps sc) (B : Bd x x pa bd sc ps) (len : ∀ i, (P0.args i).length = ps.length)
    (hb : ∀ (f : Addr) (cdv : Value) (A : Around) (outer : List Env) (s : Shared) (H : Hp) (E : XK) (i : ι) (z : Zn), Room k (A.deeper (envOfC x sc s.heap.objs.size f cdv)) → Pz z → P0.pre i → (∀ er, P0.out i = .error er → ∀ cls d H', Same z.H0 H' → ErH K er cls d H' → E cls d H') →
      SWs (cxOf (L2.CX P w) P w K mg base N x sc f cdv A outer s H E) z bd (dX z (P0.out i)) (slots N ((P0.args i).map some)) []) :
    Cb (L2.CX P w) P w K mg base (k + 1) x ps (P0.sp K) := by
  obtain ⟨f, fd, hm, F⟩ := hD
  refine ⟨f, fd, hm, F.kp, ?_, F.bindsN B⟩
  refine F.ok S (fun vs H Q E h => ?_) fun cdv A outer s H vs Q E hr h => ⟨_, pss_w, ?_⟩
  · obtain ⟨i, G, _, _, r, _⟩ := h
    rw [Paired.length r, len]
  · obtain ⟨i, G, hp, l, r, q, qe⟩ := h
    refine low_out (hb f cdv A outer s H E i (zP G H) hr (zP_p G H) hp (fun er e cls d H' sm eh => qe er e cls d H' sm eh) G G H _ (Same.refl _) ⟨zP_bg l, reps_startA r, trivial⟩) (fun σ' H' G' δ Ω g hn => ?_) (fun v H' hr => ?_) (fun _ _ z => z) (fun _ _ z => z)
    · obtain ⟨T, e, t⟩ := hn G'
      exact q T e .non G' H' (g.bg.out (zP_p G H)) t
    · obtain ⟨G', T, e, b, t⟩ := hr
      exact q T e v G' H' (b.out (zP_p G H)) t
theorem cb_prXF {P0 : PrXF ι} (hD : Df K mg x pa bd sc) (S : FnScope N ps sc) (B : Bd x x pa bd sc ps) (len : ∀ i, (P0.args i).length = ps.length)
    (hb : ∀ (f : Addr) (cdv : Value) (A : Around) (outer : List Env) (s : Shared) (H : Hp) (E : XK) (i : ι) (z : Zn), Room k (A.deeper (envOfC x sc s.heap.objs.size f cdv)) → Pz z → P0.pre i → (∀ er, P0.out i = .error er → ∀ cls d H', Same z.H0 H' → ErH K er cls d H' → E cls d H') →
      SWs (cxOf (L2.CX P w) P w K mg base N x sc f cdv A outer s H E) z bd (dXF z (P0.out i)) (slots N ((P0.args i).map some)) []) :
    Cb (L2.CX P w) P w K mg base (k + 1) x ps (P0.sp K) := by
  obtain ⟨f, fd, hm, F⟩ := hD
  refine ⟨f, fd, hm, F.kp, ?_, F.bindsN B⟩
  refine F.ok S (fun vs H Q E h => ?_) fun cdv A outer s H vs Q E hr h => ⟨_, pss_w, ?_⟩
  · obtain ⟨i, G, _, _, r, _⟩ := h
    rw [Paired.length r, len]
  · obtain ⟨i, G, hp, l, r, q, qe⟩ := h
    refine low_out (hb f cdv A outer s H E i (zP G H) hr (zP_p G H) hp (fun er e cls d H' sm eh => qe er e cls d H' sm eh) G G H _ (Same.refl _) ⟨zP_bg l, reps_startA r, trivial⟩) (fun σ' H' G' δ Ω g hn => hn.elim) (fun v H' hr => ?_) (fun _ _ z => z) (fun _ _ z => z)
    obtain ⟨C, a, u, G', e, rfl, b, na, ga, ha, ca⟩ := hr
    exact q C e a u G' H' (b.out (zP_p G H)) na ga ha ca
/-- it changes its first argument, a thing of the caller's own -/
theorem cb_prM {P0 : PrM ι} (hD : Df K mg x pa bd sc) (S : FnScope N ps sc) (B : Bd x x pa bd sc ps) (len : ∀ i, (P0.args i).length + 1 = ps.length)
    (hb : ∀ (f : Addr) (cdv : Value) (A : Around) (outer : List Env) (s : Shared) (H : Hp) (E : XK) (i : ι) (z : Zn) (a : Addr), Room k (A.deeper (envOfC x sc s.heap.objs.size f cdv)) → z.sa = none → P0.pre i →
      SWs ((cxOf CX0 P w K mg base N x sc f cdv A outer s H E).nox) z bd (dM (P0.cout i) a) (slots N (none :: (P0.args i).map some)) [(0, some a, P0.cin i)]) :
    Cb CX0 P w K mg base (k + 1) x ps P0.sp := by
  obtain ⟨f, fd, hm, F⟩ := hD
  refine ⟨f, fd, hm, F.kp, ?_, F.bindsN B⟩
  refine F.ok S (fun vs H Q E h => ?_) fun cdv A outer s H vs Q E hr h => ⟨_, PSs.nox pss_w, ?_⟩
  · obtain ⟨i, G, a, o, ws, rfl, _, _, _, _, _, r, _⟩ := h
    rw [List.length_cons, Paired.length r, len]
  · obtain ⟨i, G, a, o, ws, rfl, hp, ga, ha, ca, l, r, q⟩ := h
    have rs : RepS G (L2.start N (.ref a :: ws)) (slots N (none :: (P0.args i).map some)) := reps_start (by rw [List.length_cons, List.length_cons, List.length_map, Paired.length r]) fun j T e => by
      cases j with
      | zero => cases e
      | succ j =>
        simp only [List.getElem?_cons_succ, List.getElem?_map] at e
        cases q2 : (P0.args i)[j]? with
        | none => rw [q2] at e; cases e
        | some U =>
          rw [q2] at e
          cases e
          obtain ⟨v, e1, t⟩ := r.at_ q2
          exact ⟨v, by simpa using e1, t⟩
    have bg : Bg ⟨none, G, H, fun b => b = a, fun _ e => nomatch e⟩ G H := ⟨l, Same.refl _, fun _ _ _ e => e, fun _ n => n, fun _ n => n, fun _ _ n => n, trivial⟩
    refine low_out (hb f cdv A outer s H E i _ a hr rfl hp G G H _ (Same.refl _) ⟨bg, rs, ⟨a, o, rfl, fun b e => by cases e; rfl, (fun m => nomatch m), ga, (fun e => nomatch e), ⟨(fun e => nomatch e), .inr rfl⟩, ha, ca, trivial⟩⟩) (fun σ' H' G' δ Ω g hn => ?_) (fun v H' hr => hr.elim) (fun _ _ z => z) (fun _ _ z => z)
    obtain ⟨Ω', rfl⟩ := hn
    obtain ⟨a', o', _, pa, _, ga', _, _, ha', ca', _⟩ := g.ow
    have e := pa a rfl
    subst e
    exact q o' G' H' g.bg.g0 (fun b u n e => g.bg.h0 b u n e) g.bg.le (fun b n e => g.bg.nw b n e) ha' ca'
/-- an __init__ -/
theorem ib_prI {P0 : PrI ι} {cx : Str} {C : Addr} (gC : mg cx = some (.ref C)) (m : Mk K C f) (F : FunD K x qual pa bd sc dvs kws f fd) (S : FnScope N ps sc) (B : Binds K fd ps []) (len : ∀ i, (P0.args i).length + 1 = ps.length)
    (hb : ∀ (cdv : Value) (A : Around) (outer : List Env) (s : Shared) (H : Hp) (E : XK) (i : ι) (z : Zn) (a : Addr), Room k (A.deeper (envOfC qual sc s.heap.objs.size f cdv)) → z.sa = none → P0.pre i →
      SWs ((cxOf CX0 P w K mg base N qual sc f cdv A outer s H E).nox) z bd (dM (cIn C (P0.flds i)) a) (slots N (none :: (P0.args i).map some)) [(0, some a, cIn C [])]) :
    Ib P w K mg base (k + 1) cx C ps (P0.sp C) := by
  refine ⟨gC, f, fd, m, ?_, B⟩
  refine F.ok S (fun vs H Q E h => ?_) fun cdv A outer s H vs Q E hr h => ⟨_, PSs.nox pss_w, ?_⟩
  · obtain ⟨i, G, a, dx, ws, rfl, _, _, _, _, r, _⟩ := h
    rw [List.length_cons, Paired.length r, len]
  · obtain ⟨i, G, a, dx, ws, rfl, hp, ga, ha, l, r, q⟩ := h
    have rs : RepS G (L2.start N (.ref a :: ws)) (slots N (none :: (P0.args i).map some)) := reps_start (by rw [List.length_cons, List.length_cons, List.length_map, Paired.length r]) fun j T e => by
      cases j with
      | zero => cases e
      | succ j =>
        simp only [List.getElem?_cons_succ, List.getElem?_map] at e
        cases q2 : (P0.args i)[j]? with
        | none => rw [q2] at e; cases e
        | some U =>
          rw [q2] at e
          cases e
          obtain ⟨v, e1, t⟩ := r.at_ q2
          exact ⟨v, by simpa using e1, t⟩
    have bg : Bg ⟨none, G, H, fun b => b = a, fun _ e => nomatch e⟩ G H := ⟨l, Same.refl _, fun _ _ _ e => e, fun _ n => n, fun _ n => n, fun _ _ n => n, trivial⟩
    refine low_out (hb cdv A outer s H E i _ a hr rfl hp G G H _ (Same.refl _) ⟨bg, rs, ⟨a, _, rfl, fun b e => by cases e; rfl, (fun m => nomatch m), ga, (fun e => nomatch e), ⟨(fun e => nomatch e), .inr rfl⟩, ha, ⟨dx, [], rfl, .nil⟩, trivial⟩⟩) (fun σ' H' G' δ Ω g hn => ?_) (fun v H' hr => hr.elim) (fun _ _ z => z) (fun _ _ z => z)
    obtain ⟨Ω', rfl⟩ := hn
    obtain ⟨a', o', _, pa, _, ga', _, _, ha', ⟨dx', gs, rfl, en⟩, _⟩ := g.ow
    have e := pa a rfl
    subst e
    exact q G' H' dx' gs g.bg.g0 (fun b u n e => g.bg.h0 b u n e) g.bg.le (fun b n e => g.bg.nw b n e) ha' en
end
end Z
end
section
set_option maxRecDepth 100000
set_option maxHeartbeats 4000000
/-! Z10: loops and comprehensions over lists of known things. -/
namespace Z
open PySem PySem.Spec PyProof.Rows L2

theorem nth_bang {α : Type} [Inhabited α] {xs : List α} {i : Nat} (h : i < xs.length) : xs[i]! ∈ xs := by
  rw [getElem!_pos xs i h]
  exact List.getElem_mem h
theorem map_getD {α : Type} [Inhabited α] {xs : List α} {F : α → Ty} {i : Nat} (h : i < xs.length) : (xs.map F).getD i tAny = F xs[i]! := by
  rw [List.getD_eq_getElem?_getD, List.getElem?_map, List.getElem?_eq_getElem h, getElem!_pos xs i h]
  rfl
theorem range_filter {α β : Type} [Inhabited α] (xs : List α) (p : α → Bool) (f : α → β) : ((List.range xs.length).filter fun i => p xs[i]!).map (fun i => f xs[i]!) = (xs.filter p).map f := by
  induction xs with
  | nil => rfl
  | cons x r ih =>
    rw [List.length_cons, List.range_succ_eq_map, List.filter_cons, List.filter_cons]
    have e : ∀ (l : List Nat), ((l.map Nat.succ).filter fun i => p (x :: r)[i]!).map (fun i => f (x :: r)[i]!) = (l.filter fun i => p r[i]!).map (fun i => f r[i]!) := fun l => by
      rw [List.filter_map, List.map_map]
      congr 1
    have z : (x :: r)[0]! = x := rfl
    rw [z]
    by_cases h : p x = true
    · rw [if_pos h, if_pos h, List.map_cons, List.map_cons, e, ih]
      rfl
    · rw [if_neg h, if_neg h, e, ih]
theorem range_map {α β : Type} [Inhabited α] (xs : List α) (f : α → β) : (List.range xs.length).map (fun i => f xs[i]!) = xs.map f := by
  have h := range_filter xs (fun _ => true) f
  rw [List.filter_eq_self.mpr (fun _ _ => rfl), List.filter_eq_self.mpr (fun _ _ => rfl)] at h
  exact h
theorem split_at {α : Type} [Inhabited α] {xs : List α} {i : Nat} (h : i < xs.length) : xs = xs.take i ++ xs[i]! :: xs.drop (i + 1) := by
  conv => lhs; rw [← List.take_append_drop i xs, List.drop_eq_getElem_cons h]
  rw [getElem!_pos xs i h]
theorem take_succ {α : Type} [Inhabited α] {xs : List α} {i : Nat} (h : i < xs.length) : xs.take (i + 1) = xs.take i ++ [xs[i]!] := by
  rw [getElem!_pos xs i h, ← List.take_append_getElem h]

section
variable {X : Cx} {z : Zn} {δ δ' : List (Option Ty)} {Ω : Own} {a b c e o value kx vx tg iter elt : Expr} {es ifs : List Expr} {p p' pos cpos apos py py2 tpos : Pos} {T U W : Ty} {Ts Us : List Ty} {C : Cy} {k n : Nat} {al : Option Addr} {D : Dn} {rest sa sb body : List Stmt} {x f y y2 : Str} {α : Type} [Inhabited α] {scope : Scope}
theorem ei_mono {T1 T2 : Nat → Ty} (h : EvI X z δ tg iter n T1) (f : ∀ i, i < n → ∀ v G, (T1 i).p v G → (T2 i).p v G) : EvI X z δ tg iter n T2 := by
  obtain ⟨wi, hp, hw⟩ := h
  refine ⟨wi, hp, fun G H σ bg rs R q => hw G H σ bg rs R fun J G' H' N Y e1 wk hN hY => q J G' H' N Y e1 wk hN fun i G2 H2 v H3 hi s l st y => ?_⟩
  obtain ⟨G3, x3, t⟩ := hY i G2 H2 v H3 hi s l st y
  exact ⟨G3, x3, f i hi v G3 t⟩
theorem ei_listA (xs : List α) (F : α → Ty) (ha : EvD X z δ iter (tL (xs.map F))) : EvI X z δ tg iter xs.length (fun i => F xs[i]!) := by
  have h := ei_list (tg := tg) ha
  rw [List.length_map] at h
  exact ei_mono h fun i hi v G t => by rw [map_getD hi] at t; exact t
theorem ei_tupA (xs : List α) (F : α → Ty) (ha : EvD X z δ iter (tT (xs.map F))) : EvI X z δ tg iter xs.length (fun i => F xs[i]!) := by
  have h := ei_tup (tg := tg) ha
  rw [List.length_map] at h
  exact ei_mono h fun i hi v G t => by rw [map_getD hi] at t; exact t
theorem ei_enumA {elts : List Expr} {kk : Nat} (xs : List α) (F : α → Ty) (hm : X.mg "enumerate" = none) (ha : EvD X z δ a (tL (xs.map F))) (hg : Gl X "enumerate" := by rfl) (hs : starEach [a] X.env = [(false, eval a X.env)] := by rfl) :
    EvI X z δ (.Tuple elts kk tpos) (.Call (.Name "enumerate" p) [a] [] pos) xs.length (fun i => tT [dat (.int (i : Int)), F xs[i]!]) := by
  have h := ei_enum (elts := elts) (kk := kk) (tpos := tpos) (p := p) (pos := pos) hm ha hg hs
  rw [List.length_map] at h
  exact ei_mono h fun i hi v G t => by rw [map_getD hi] at t; exact t
/-- a for over a list of known things: P by what is done -/
theorem sw_forA {g : TG} (xs : List α) (F : α → Ty) (P : List α → List (Option Ty) → Own → Prop) (hp : PassesOwn (model X.prog X.w) X.A X.env X.xe) (hc : X.calm = true) (hi : EvI X z δ tg iter xs.length (fun i => F xs[i]!)) (pg : PG X tg g) (h0 : P [] δ Ω)
    (step : ∀ ys x zs δ1 Ω1, xs = ys ++ x :: zs → P ys δ1 Ω1 → ∃ δ2 J, TgO g (F x) δ1 δ2 J ∧ (∀ q ∈ Ω1, q.1 ∉ J) ∧ SWs X z body ⟨P (ys ++ [x]), D.rt, fun δ' Ω' => SWs X z rest D δ' Ω', P (ys ++ [x])⟩ δ2 Ω1) (done : ∀ δ1 Ω1, P xs δ1 Ω1 → SWs X z rest D δ1 Ω1)
    (hs : ∀ x, foldedSetIterable iter X.env x = pure x := by intro _; rfl) : SWs X z (.For tg iter body [] pos :: rest) D δ Ω :=
  sw_for (fun i => P (xs.take i)) hp hc hi pg h0 (fun i δ1 Ω1 hlt h => by
    obtain ⟨δ2, J, a, b, c⟩ := step _ _ _ δ1 Ω1 (split_at hlt) h
    refine ⟨δ2, J, a, b, ?_⟩
    rw [take_succ hlt]
    exact c) (fun δ1 Ω1 h => done δ1 Ω1 (by rw [List.take_length] at h; exact h)) hs
theorem s1_forA {g : TG} (xs : List α) (F : α → Ty) (P : List α → List (Option Ty) → Own → Prop) (hp : PassesOwn (model X.prog X.w) X.A X.env X.xe) (hc : X.calm = true) (hi : EvI X z δ tg iter xs.length (fun i => F xs[i]!)) (pg : PG X tg g) (h0 : P [] δ Ω)
    (step : ∀ ys x zs δ1 Ω1, xs = ys ++ x :: zs → P ys δ1 Ω1 → ∃ δ2 J, TgO g (F x) δ1 δ2 J ∧ (∀ q ∈ Ω1, q.1 ∉ J) ∧ SWs X z body ⟨P (ys ++ [x]), D.rt, D.nx, P (ys ++ [x])⟩ δ2 Ω1) (done : ∀ δ1 Ω1, P xs δ1 Ω1 → ∃ δ2, Wk δ1 δ2 ∧ D.nx δ2 Ω1)
    (hs : ∀ x, foldedSetIterable iter X.env x = pure x := by intro _; rfl) : S1 X z (.For tg iter body [] pos) D δ Ω :=
  s1_for (fun i => P (xs.take i)) hp hc hi pg h0 (fun i δ1 Ω1 hlt h => by
    obtain ⟨δ2, J, a, b, c⟩ := step _ _ _ δ1 Ω1 (split_at hlt) h
    refine ⟨δ2, J, a, b, ?_⟩
    rw [take_succ hlt]
    exact c) (fun δ1 Ω1 h => done δ1 Ω1 (by rw [List.take_length] at h; exact h)) hs
/-- [f(x) for x in xs if p(x)] -/
theorem ev_lc1 (xs : List α) (F : α → Ty) (keep : α → Bool) (R : α → Ty) (j : Nat) (hc : X.calm = true) (hN : X.N.Nodup) (hi : EvI X z δ (.Name y py) iter xs.length (fun i => F xs[i]!)) (ok : BlkOk X.N X.env.scope scope [(y, j)])
    (pg : ∀ (s : Shared) (H : Hp) (C : Addr) (cl : List (Str × Addr)) (fp : List Addr), PG (X.blk s H scope (compEnvC scope cl C X.env) fp) (.Name y py) (gName j))
    (ht : ∀ x, x ∈ xs → ∀ (s : Shared) (H : Hp) (C : Addr) (cl : List (Str × Addr)) (fp : List Addr), EvTs (X.blk s H scope (compEnvC scope cl C X.env) fp) z ((δ.set j none).set j (some (F x))) ifs (keep x))
    (he : ∀ x, x ∈ xs → keep x = true → ∀ (s : Shared) (H : Hp) (C : Addr) (cl : List (Str × Addr)) (fp : List Addr), EvD (X.blk s H scope (compEnvC scope cl C X.env) fp) z ((δ.set j none).set j (some (F x))) elt (R x)) (hz : xs.length ≤ 1000)
    (hs : ∀ x, foldedSetIterable iter X.env x = pure x := by intro _; rfl) : EvD X z δ (.ListComp elt [⟨.Name y py, iter, ifs, 0⟩] scope pos) (tL ((xs.filter keep).map R)) := by
  rw [← range_filter xs keep R]
  exact ev_lc (own := [(y, j)]) (g := gName j) (fun i => (δ.set j none).set j (some (F xs[i]!))) (fun i => keep xs[i]!) (fun i => R xs[i]!) hc hN hi ok (fun i h => tb_name j List.mem_cons_self pg) pg (fun i h => ht _ (nth_bang h)) (fun i h k => he _ (nth_bang h) k) hz hs
theorem sw_setLc1 (xs : List α) (F : α → Ty) (keep : α → Bool) (R : α → Ty) (i j : Nat) (hc : X.calm = true) (hN : X.N.Nodup) (hi : EvI X z δ (.Name y py) iter xs.length (fun i => F xs[i]!)) (ok : BlkOk X.N X.env.scope scope [(y, j)])
    (pg : ∀ (s : Shared) (H : Hp) (C : Addr) (cl : List (Str × Addr)) (fp : List Addr), PG (X.blk s H scope (compEnvC scope cl C X.env) fp) (.Name y py) (gName j))
    (ht : ∀ x, x ∈ xs → ∀ (s : Shared) (H : Hp) (C : Addr) (cl : List (Str × Addr)) (fp : List Addr), EvTs (X.blk s H scope (compEnvC scope cl C X.env) fp) z ((δ.set j none).set j (some (F x))) ifs (keep x))
    (he : ∀ x, x ∈ xs → keep x = true → ∀ (s : Shared) (H : Hp) (C : Addr) (cl : List (Str × Addr)) (fp : List Addr), EvD (X.blk s H scope (compEnvC scope cl C X.env) fp) z ((δ.set j none).set j (some (F x))) elt (R x)) (hz : xs.length ≤ 1000)
    (kk : SWs X z rest D (δ.set i (some (tL ((xs.filter keep).map R)))) Ω) (ho : ∀ q ∈ Ω, i ≠ q.1 := by simp) (hy : X.N[i]? = some x := by rfl) (hyl : X.env.scope.names.lookup x = some .local := by rfl)
    (hsw : swapsWith (.ListComp elt [⟨.Name y py, iter, ifs, 0⟩] scope p) (some (.Name x py2)) pos.line X.env = pure true := by exact sw_true rfl rfl rfl (by decide +kernel)) (hs : ∀ x, foldedSetIterable iter X.env x = pure x := by intro _; rfl) :
    SWs X z (.Assign [.Name x py2] (.ListComp elt [⟨.Name y py, iter, ifs, 0⟩] scope p) pos :: rest) D δ Ω := by
  rw [← range_filter xs keep R] at kk
  exact sw_setLc (own := [(y, j)]) (g := gName j) i (fun i => (δ.set j none).set j (some (F xs[i]!))) (fun i => keep xs[i]!) (fun i => R xs[i]!) hc hN hi ok (fun i h => tb_name j List.mem_cons_self pg) pg (fun i h => ht _ (nth_bang h)) (fun i h k => he _ (nth_bang h) k) hz kk ho hy hyl hsw hs
/-- {k(x): f(x) for x in xs} -/
theorem ef_dc1 (xs : List α) (F : α → Ty) (ky : α → L2.Key) (R : α → Ty) (j : Nat) (hc : X.calm = true) (hN : X.N.Nodup) (hi : EvI X z δ (.Name y py) iter xs.length (fun i => F xs[i]!)) (ok : BlkOk X.N X.env.scope scope [(y, j)])
    (pg : ∀ (s : Shared) (H : Hp) (C : Addr) (cl : List (Str × Addr)) (fp : List Addr), PG (X.blk s H scope (compEnvC scope cl C X.env) fp) (.Name y py) (gName j))
    (hk : ∀ x, x ∈ xs → ∀ (s : Shared) (H : Hp) (C : Addr) (cl : List (Str × Addr)) (fp : List Addr), EvD (X.blk s H scope (compEnvC scope cl C X.env) fp) z ((δ.set j none).set j (some (F x))) kx (tRaw (kV (ky x))))
    (he : ∀ x, x ∈ xs → ∀ (s : Shared) (H : Hp) (C : Addr) (cl : List (Str × Addr)) (fp : List Addr), EvD (X.blk s H scope (compEnvC scope cl C X.env) fp) z ((δ.set j none).set j (some (F x))) vx (R x)) (hz : xs.length ≤ 1000) (hd : (xs.map ky).Nodup)
    (hs : ∀ x, foldedSetIterable iter X.env x = pure x := by intro _; rfl) : EvF X z δ Ω (.DictComp kx vx [⟨.Name y py, iter, [], 0⟩] scope pos) (cDK (xs.map fun x => (ky x, R x))) := by
  rw [← range_map xs fun x => (ky x, R x)]
  exact ef_dc (own := [(y, j)]) (g := gName j) (fun i => (δ.set j none).set j (some (F xs[i]!))) (fun i => ky xs[i]!) (fun i => R xs[i]!) hc hN hi ok (fun i h => tb_name j List.mem_cons_self pg) pg (fun i h => hk _ (nth_bang h)) (fun i h => he _ (nth_bang h)) hz (by rw [range_map]; exact hd) hs
/-- {k: f for a, b in xs} -/
theorem ef_dc2 {kk : Nat} (xs : List α) (A B : α → Ty) (ky : α → L2.Key) (R : α → Ty) (j l : Nat) (hc : X.calm = true) (hN : X.N.Nodup) (hi : EvI X z δ (.Tuple [.Name y py, .Name y2 py2] kk tpos) iter xs.length (fun i => tT [A xs[i]!, B xs[i]!])) (ok : BlkOk X.N X.env.scope scope [(y, j), (y2, l)])
    (pg : ∀ (s : Shared) (H : Hp) (C : Addr) (cl : List (Str × Addr)) (fp : List Addr), PG (X.blk s H scope (compEnvC scope cl C X.env) fp) (.Tuple [.Name y py, .Name y2 py2] kk tpos) (gTup X.K 2 (gCons (gName j) (gCons (gName l) gNil))))
    (hk : ∀ x, x ∈ xs → ∀ (s : Shared) (H : Hp) (C : Addr) (cl : List (Str × Addr)) (fp : List Addr), EvD (X.blk s H scope (compEnvC scope cl C X.env) fp) z ((((δ.set l none).set j none).set j (some (A x))).set l (some (B x))) kx (tRaw (kV (ky x))))
    (he : ∀ x, x ∈ xs → ∀ (s : Shared) (H : Hp) (C : Addr) (cl : List (Str × Addr)) (fp : List Addr), EvD (X.blk s H scope (compEnvC scope cl C X.env) fp) z ((((δ.set l none).set j none).set j (some (A x))).set l (some (B x))) vx (R x)) (hz : xs.length ≤ 1000) (hd : (xs.map ky).Nodup)
    (hs : ∀ x, foldedSetIterable iter X.env x = pure x := by intro _; rfl) : EvF X z δ Ω (.DictComp kx vx [⟨.Tuple [.Name y py, .Name y2 py2] kk tpos, iter, [], 0⟩] scope pos) (cDK (xs.map fun x => (ky x, R x))) := by
  rw [← range_map xs fun x => (ky x, R x)]
  exact ef_dc (own := [(y, j), (y2, l)]) (g := gTup X.K 2 (gCons (gName j) (gCons (gName l) gNil))) (fun i => (((δ.set l none).set j none).set j (some (A xs[i]!))).set l (some (B xs[i]!))) (fun i => ky xs[i]!) (fun i => R xs[i]!) hc hN hi ok (fun i h => tb_pair j l List.mem_cons_self (List.mem_cons_of_mem _ List.mem_cons_self) pg) pg (fun i h => hk _ (nth_bang h)) (fun i h => he _ (nth_bang h)) hz (by rw [range_map]; exact hd) hs
theorem ev_lc2 {kk : Nat} (xs : List α) (A B : α → Ty) (keep : α → Bool) (R : α → Ty) (j l : Nat) (hc : X.calm = true) (hN : X.N.Nodup) (hi : EvI X z δ (.Tuple [.Name y py, .Name y2 py2] kk tpos) iter xs.length (fun i => tT [A xs[i]!, B xs[i]!])) (ok : BlkOk X.N X.env.scope scope [(y, j), (y2, l)])
    (pg : ∀ (s : Shared) (H : Hp) (C : Addr) (cl : List (Str × Addr)) (fp : List Addr), PG (X.blk s H scope (compEnvC scope cl C X.env) fp) (.Tuple [.Name y py, .Name y2 py2] kk tpos) (gTup X.K 2 (gCons (gName j) (gCons (gName l) gNil))))
    (ht : ∀ x, x ∈ xs → ∀ (s : Shared) (H : Hp) (C : Addr) (cl : List (Str × Addr)) (fp : List Addr), EvTs (X.blk s H scope (compEnvC scope cl C X.env) fp) z ((((δ.set l none).set j none).set j (some (A x))).set l (some (B x))) ifs (keep x))
    (he : ∀ x, x ∈ xs → keep x = true → ∀ (s : Shared) (H : Hp) (C : Addr) (cl : List (Str × Addr)) (fp : List Addr), EvD (X.blk s H scope (compEnvC scope cl C X.env) fp) z ((((δ.set l none).set j none).set j (some (A x))).set l (some (B x))) elt (R x)) (hz : xs.length ≤ 1000)
    (hs : ∀ x, foldedSetIterable iter X.env x = pure x := by intro _; rfl) : EvD X z δ (.ListComp elt [⟨.Tuple [.Name y py, .Name y2 py2] kk tpos, iter, ifs, 0⟩] scope pos) (tL ((xs.filter keep).map R)) := by
  rw [← range_filter xs keep R]
  exact ev_lc (own := [(y, j), (y2, l)]) (g := gTup X.K 2 (gCons (gName j) (gCons (gName l) gNil))) (fun i => (((δ.set l none).set j none).set j (some (A xs[i]!))).set l (some (B xs[i]!))) (fun i => keep xs[i]!) (fun i => R xs[i]!) hc hN hi ok (fun i h => tb_pair j l List.mem_cons_self (List.mem_cons_of_mem _ List.mem_cons_self) pg) pg (fun i h => ht _ (nth_bang h)) (fun i h k => he _ (nth_bang h) k) hz hs
theorem map_all {β : Type} {xs : List α} {f : α → β} : ((xs.filter fun _ => true).map f) = xs.map f := by rw [List.filter_eq_self.mpr fun _ _ => rfl]
end
end Z
end
section
set_option maxRecDepth 100000
set_option maxHeartbeats 4000000
/-! Z11: comparisons as tests. -/
namespace Z
open PySem PySem.Spec PyProof.Rows L2
section
variable {X : Cx} {z : Zn} {δ : List (Option Ty)} {a b c e o : Expr} {es : List Expr} {pos : Pos} {T U W : Ty} {k : Nat}
theorem eb_chain {op op' : CmpOp} {r r' : R2} {T3 : Ty} {p : Bool} {p' : Bool} (ho : OpR X (compareOp op) r) (ho' : OpR X (compareOp op') r') (ht : R2T z.sa r T U (dat (.bool p))) (ht' : p = true → R2T z.sa r' U T3 (dat (.bool p'))) (ha : EvD X z δ a T) (hb : EvD X z δ b U) (hc : EvD X z δ c T3)
    (hm : lastMarks [op, op'] [b, c] = false := by rfl) : EvB X z δ (.Compare a [op, op'] [b, c] pos) (fun c0 => c0 = (p && p')) := fun G H σ bg rs Q q =>
  w_pt (pt_chain ho ho' pe_w pe_w pe_w hm) (ha G H σ bg rs _ fun x G1 H1 e1 t => hb G1 H1 σ (bg.ext e1) (rs.mono e1.g) _ fun y G2 H2 e2 u =>
    ht x y G2 H2 e2.le e2.st (T.mono e2.g t) u _ fun v G3 H3 e3 w => by
      have e13 := (e1.trans e2).trans e3
      refine ⟨p, w.bl_of, ?_⟩
      cases p with
      | false => exact iteF ⟨_, rfl, q _ G3 H3 e13 rfl⟩
      | true => exact iteT (hc G3 H3 σ (bg.ext e13) (rs.mono e13.g) _ fun y2 G4 H4 e4 t4 => ht' rfl y y2 G4 H4 e4.le e4.st (U.mono (e3.trans e4).g u) t4 _ fun v5 G5 H5 e5 w5 => ⟨_, w5.bl_of, q _ G5 H5 ((e13.trans e4).trans e5) rfl⟩))
theorem eb_eq {d e' : PyData} (hr : Room k X.A) (hd : SeqAt.shaped d = true) (he : SeqAt.shaped e' = true) (ha : EvD X z δ a (dat d)) (hb : EvD X z δ b (dat e')) : EvB X z δ (.Compare a [.Eq] [b] pos) (fun c0 => c0 = (PyData.eqv d e')) := eb_cmp (op_eqD (hu64 hr)) (r2_eq hd he) ha hb
theorem eb_ne {d e' : PyData} (hr : Room k X.A) (hd : SeqAt.shaped d = true) (he : SeqAt.shaped e' = true) (ha : EvD X z δ a (dat d)) (hb : EvD X z δ b (dat e')) : EvB X z δ (.Compare a [.NotEq] [b] pos) (fun c0 => c0 = (!PyData.eqv d e')) := eb_cmp (op_neD (hu64 hr)) (r2_ne hd he) ha hb
theorem eb_eqI {i j : Int} (ha : EvD X z δ a (dat (.int i))) (hb : EvD X z δ b (dat (.int j))) : EvB X z δ (.Compare a [.Eq] [b] pos) (fun c0 => c0 = (decide (i = j))) := eb_cmp op_eq (R2T.val fun x y G H Q l t u q => by
  rw [Rp.int_of t, Rp.int_of u]
  refine ⟨rfl, q _ ?_⟩
  have e : decide (V.int i = V.int j) = decide (i = j) := by
    by_cases h : i = j
    · subst h; simp
    · rw [decide_eq_false h, decide_eq_false fun z => h (V.int.inj z)]
  rw [e]
  exact .bl _) ha hb
theorem eb_eqS {i j : Str} (ha : EvD X z δ a (dat (.str i))) (hb : EvD X z δ b (dat (.str j))) : EvB X z δ (.Compare a [.Eq] [b] pos) (fun c0 => c0 = (decide (i = j))) := eb_cmp op_eq (R2T.val fun x y G H Q l t u q => by
  rw [Rp.str_of t, Rp.str_of u]
  refine ⟨rfl, q _ ?_⟩
  have e : decide (V.str i = V.str j) = decide (i = j) := by
    by_cases h : i = j
    · subst h; simp
    · rw [decide_eq_false h, decide_eq_false fun z => h (V.str.inj z)]
  rw [e]
  exact .bl _) ha hb
theorem eb_neI {i j : Int} (ha : EvD X z δ a (dat (.int i))) (hb : EvD X z δ b (dat (.int j))) : EvB X z δ (.Compare a [.NotEq] [b] pos) (fun c0 => c0 = (!decide (i = j))) := eb_cmp op_ne (R2T.val fun x y G H Q l t u q => by
  rw [Rp.int_of t, Rp.int_of u]
  refine ⟨rfl, q _ ?_⟩
  have e : decide (V.int i = V.int j) = decide (i = j) := by
    by_cases h : i = j
    · subst h; simp
    · rw [decide_eq_false h, decide_eq_false fun z => h (V.int.inj z)]
  rw [e]
  exact .bl _) ha hb
theorem eb_neS {i j : Str} (ha : EvD X z δ a (dat (.str i))) (hb : EvD X z δ b (dat (.str j))) : EvB X z δ (.Compare a [.NotEq] [b] pos) (fun c0 => c0 = (!decide (i = j))) := eb_cmp op_ne (R2T.val fun x y G H Q l t u q => by
  rw [Rp.str_of t, Rp.str_of u]
  refine ⟨rfl, q _ ?_⟩
  have e : decide (V.str i = V.str j) = decide (i = j) := by
    by_cases h : i = j
    · subst h; simp
    · rw [decide_eq_false h, decide_eq_false fun z => h (V.str.inj z)]
  rw [e]
  exact .bl _) ha hb
theorem eb_neB {i j : Bool} (ha : EvD X z δ a (dat (.bool i))) (hb : EvD X z δ b (dat (.bool j))) : EvB X z δ (.Compare a [.NotEq] [b] pos) (fun c0 => c0 = (i != j)) := eb_cmp op_ne (R2T.val fun x y G H Q l t u q => by
  rw [Rp.bl_of t, Rp.bl_of u]
  refine ⟨rfl, q _ ?_⟩
  have e : (!decide (V.bl i = V.bl j)) = (i != j) := by cases i <;> cases j <;> rfl
  rw [e]
  exact .bl _) ha hb
theorem eb_eqB {i j : Bool} (ha : EvD X z δ a (dat (.bool i))) (hb : EvD X z δ b (dat (.bool j))) : EvB X z δ (.Compare a [.Eq] [b] pos) (fun c0 => c0 = (i == j)) := eb_cmp op_eq (R2T.val fun x y G H Q l t u q => by
  rw [Rp.bl_of t, Rp.bl_of u]
  refine ⟨rfl, q _ ?_⟩
  have e : decide (V.bl i = V.bl j) = (i == j) := by cases i <;> cases j <;> rfl
  rw [e]
  exact .bl _) ha hb
theorem eb_lt {i j : Int} (ha : EvD X z δ a (dat (.int i))) (hb : EvD X z δ b (dat (.int j))) : EvB X z δ (.Compare a [.Lt] [b] pos) (fun c0 => c0 = (decide (i < j))) := eb_cmp op_lt (r2_I fun _ => .bl _) ha hb
theorem eb_le {i j : Int} (ha : EvD X z δ a (dat (.int i))) (hb : EvD X z δ b (dat (.int j))) : EvB X z δ (.Compare a [.LtE] [b] pos) (fun c0 => c0 = (decide (i ≤ j))) := eb_cmp op_le (r2_I fun _ => .bl _) ha hb
theorem eb_gt {i j : Int} (ha : EvD X z δ a (dat (.int i))) (hb : EvD X z δ b (dat (.int j))) : EvB X z δ (.Compare a [.Gt] [b] pos) (fun c0 => c0 = (decide (j < i))) := eb_cmp op_gt (r2_I fun _ => .bl _) ha hb
theorem eb_ge {i j : Int} (ha : EvD X z δ a (dat (.int i))) (hb : EvD X z δ b (dat (.int j))) : EvB X z δ (.Compare a [.GtE] [b] pos) (fun c0 => c0 = (decide (j ≤ i))) := eb_cmp op_ge (r2_I fun _ => .bl _) ha hb
theorem eb_ltS {x y : Str} (ha : EvD X z δ a (dat (.str x))) (hb : EvD X z δ b (dat (.str y))) : EvB X z δ (.Compare a [.Lt] [b] pos) (fun c0 => c0 = (decide (x.cps.toList < y.cps.toList))) :=
  eb_cmp op_lt_str (R2T.val fun u v G H Q l t w q => ⟨x, y, Rp.str_of t, Rp.str_of w, q _ (.bl _)⟩) ha hb
theorem eb_lele {i j l : Int} (ha : EvD X z δ a (dat (.int i))) (hb : EvD X z δ b (dat (.int j))) (hc : EvD X z δ c (dat (.int l))) (hm : lastMarks [.LtE, .LtE] [b, c] = false := by rfl) : EvB X z δ (.Compare a [.LtE, .LtE] [b, c] pos) (fun c0 => c0 = (decide (i ≤ j) && decide (j ≤ l))) :=
  eb_chain op_le op_le (r2_I fun _ => .bl _) (fun _ => r2_I fun _ => .bl _) ha hb hc hm
theorem eb_ltlt {i j l : Int} (ha : EvD X z δ a (dat (.int i))) (hb : EvD X z δ b (dat (.int j))) (hc : EvD X z δ c (dat (.int l))) (hm : lastMarks [.Lt, .Lt] [b, c] = false := by rfl) : EvB X z δ (.Compare a [.Lt, .Lt] [b, c] pos) (fun c0 => c0 = (decide (i < j) && decide (j < l))) :=
  eb_chain op_lt op_lt (r2_I fun _ => .bl _) (fun _ => r2_I fun _ => .bl _) ha hb hc hm
theorem eb_isN {j pos'} {d : PyData} (ha : EvD X z δ a (dat d)) : EvB X z δ (.Compare a [.Is] [.Constant .none j pos'] pos) (fun c0 => c0 = (isNon d)) :=
  eb_cmp op_isN (R2T.val (U := dat .none) fun x y G H Q l t u q => ⟨Rp.non_of u, q _ (by show Rp _ _ _; rw [Rp.isNon t]; exact .bl _)⟩) ha ev_non
theorem eb_notN {j pos'} {d : PyData} (ha : EvD X z δ a (dat d)) : EvB X z δ (.Compare a [.IsNot] [.Constant .none j pos'] pos) (fun c0 => c0 = (!isNon d)) :=
  eb_cmp op_notN (R2T.val (U := dat .none) fun x y G H Q l t u q => ⟨Rp.non_of u, q _ (by show Rp _ _ _; rw [Rp.isNon t]; exact .bl _)⟩) ha ev_non
theorem eb_inS {c : Nat} {y : Str} (ha : EvD X z δ a (dat (.str ⟨#[c]⟩))) (hb : EvD X z δ b (dat (.str y))) (hm : behindInMarks .In b = false := by rfl) : EvB X z δ (.Compare a [.In] [b] pos) (fun c0 => c0 = (decide (c ∈ y.cps.toList))) :=
  eb_cmp op_in_sign (R2T.val fun u v G H Q l t w q => ⟨c, y, Rp.str_of t, Rp.str_of w, q _ (.bl _)⟩) ha hb hm
theorem eb_inD {d : PyData} {ds : List PyData} (hr : Room k X.A) (hd : SeqAt.shaped d = true) (he : SeqAt.shaped (.list ds) = true) (ha : EvD X z δ a (dat d)) (hb : EvD X z δ b (dat (.list ds))) (hm : behindInMarks .In b = false := by rfl) : EvB X z δ (.Compare a [.In] [b] pos) (fun c0 => c0 = (ds.any fun y => PyData.eqv y d)) :=
  eb_cmp (op_inD (hu65 hr)) (R2T.val fun u v G H Q l t w q => ⟨d, ds, Rp.dp l t, Rp.dp l w, hd, he, q _ (.bl _)⟩) ha hb hm
theorem eb_ninD {d : PyData} {ds : List PyData} (hr : Room k X.A) (hd : SeqAt.shaped d = true) (he : SeqAt.shaped (.list ds) = true) (ha : EvD X z δ a (dat d)) (hb : EvD X z δ b (dat (.list ds))) (hm : behindInMarks .NotIn b = false := by rfl) : EvB X z δ (.Compare a [.NotIn] [b] pos) (fun c0 => c0 = (!ds.any fun y => PyData.eqv y d)) :=
  eb_cmp (op_notInD (hu65 hr)) (R2T.val fun u v G H Q l t w q => ⟨d, ds, Rp.dp l t, Rp.dp l w, hd, he, q _ (.bl _)⟩) ha hb hm
theorem eb_din {es' : List (Key × Ty)} {kk : Key} (hu : X.A.units + 1 < cLine) (ha : EvD X z δ a (tRaw (kV kk))) (hb : EvD X z δ b (tDR es')) (hm : behindInMarks .In b = false := by rfl) : EvB X z δ (.Compare a [.In] [b] pos) (fun c0 => c0 = (lookT es' kk).isSome) := fun G H σ bg rs Q q =>
  w_pt (pt_cmp (pc_din hu pe_w pe_w) hm) (ha G H σ bg rs _ fun y G1 H1 e1 t => hb G1 H1 σ (bg.ext e1) (rs.mono e1.g) _ fun x G2 H2 e2 u => by
    obtain ⟨d, kvs, rfl, ed, r⟩ := u
    refine ⟨d, valV kvs kk, rfl, .inl ⟨kvs, kk, e2.le.rd ed, t, rfl⟩, _, rfl, q _ G2 H2 (e1.trans e2) ?_⟩
    have l := Ents.look (k := kk) r
    cases c : lookT es' kk with
    | none => rw [l.2 c]; rfl
    | some T =>
      obtain ⟨v, hv, _⟩ := l.1 T c
      rw [hv]
      rfl)
theorem eb_dnin {es' : List (Key × Ty)} {kk : Key} (hu : X.A.units + 1 < cLine) (ha : EvD X z δ a (tRaw (kV kk))) (hb : EvD X z δ b (tDR es')) (hm : behindInMarks .NotIn b = false := by rfl) : EvB X z δ (.Compare a [.NotIn] [b] pos) (fun c0 => c0 = !(lookT es' kk).isSome) := fun G H σ bg rs Q q =>
  w_pt (pt_cmp (pc_dnotin hu pe_w pe_w) hm) (ha G H σ bg rs _ fun y G1 H1 e1 t => hb G1 H1 σ (bg.ext e1) (rs.mono e1.g) _ fun x G2 H2 e2 u => by
    obtain ⟨d, kvs, rfl, ed, r⟩ := u
    refine ⟨d, valV kvs kk, rfl, .inl ⟨kvs, kk, e2.le.rd ed, t, rfl⟩, _, rfl, q _ G2 H2 (e1.trans e2) ?_⟩
    have l := Ents.look (k := kk) r
    cases c : lookT es' kk with
    | none => rw [l.2 c]; rfl
    | some T =>
      obtain ⟨v, hv, _⟩ := l.1 T c
      rw [hv]
      rfl)

/-! ### names in a list, a tuple of names -/
theorem strs_of {G : Hp} : ∀ {ys : List Str} {vs : List V}, Rps G vs (ys.map PyData.str) → vs = ys.map V.str
  | [], _, h => by cases h; rfl
  | y :: r, _, h => by
    cases h with
    | cons a t => rw [Rp.str_of a, strs_of t]; rfl
theorem inV_strs (x : Str) : ∀ ys : List Str, inV (.str x) (ys.map V.str) = decide (x ∈ ys)
  | [] => by simp [inV]
  | y :: r => by
    have ih := inV_strs x r
    unfold inV at ih ⊢
    rw [List.map_cons, List.any_cons, ih]
    have e : eqV (.str y) (.str x) = (y == x) := rfl
    rw [e]
    by_cases h : y = x
    · subst h; simp
    · have h' : ¬ x = y := fun w => h w.symm
      simp [h, h']
theorem flat_strs : ∀ ys : List Str, (ys.map V.str).all flatV = true
  | [] => rfl
  | y :: r => by rw [List.map_cons, List.all_cons, flat_strs r]; rfl
theorem r2_inL {K : PySem.W.Frag} {sa : Option Addr} {neg : Bool} {x : Str} {ys : List Str} : R2T sa (rIn K neg) (dat (.str x)) (dat (.list (ys.map .str))) (dat (.bool (if neg then !decide (x ∈ ys) else decide (x ∈ ys)))) := R2T.val fun u v G H Q l t w q => by
  obtain ⟨a, vs, rfl, ea, r⟩ := Rp.lst_of w
  rw [strs_of r] at ea
  rw [Rp.str_of t]
  exact ⟨a, ys.map V.str, rfl, .inl (SqL.of (l _ _ ea)), rfl, flat_strs ys, q _ (by rw [inV_strs]; exact .bl _)⟩
theorem r2_inT {K : PySem.W.Frag} {sa : Option Addr} {neg : Bool} {x : Str} {ys : List Str} : R2T sa (rIn K neg) (dat (.str x)) (dat (.tuple (ys.map .str))) (dat (.bool (if neg then !decide (x ∈ ys) else decide (x ∈ ys)))) := R2T.val fun u v G H Q l t w q => by
  obtain ⟨a, vs, rfl, ea, r⟩ := Rp.tup_of w
  rw [strs_of r] at ea
  rw [Rp.str_of t]
  exact ⟨a, ys.map V.str, rfl, .inr (SqT.of (l _ _ ea)), rfl, flat_strs ys, q _ (by rw [inV_strs]; exact .bl _)⟩
theorem eb_inL {x : Str} {ys : List Str} (ha : EvD X z δ a (dat (.str x))) (hb : EvD X z δ b (dat (.list (ys.map .str)))) (hm : behindInMarks .In b = false := by rfl) : EvB X z δ (.Compare a [.In] [b] pos) (fun c0 => c0 = decide (x ∈ ys)) := eb_cmp op_in_seq r2_inL ha hb hm
theorem eb_ninL {x : Str} {ys : List Str} (ha : EvD X z δ a (dat (.str x))) (hb : EvD X z δ b (dat (.list (ys.map .str)))) (hm : behindInMarks .NotIn b = false := by rfl) : EvB X z δ (.Compare a [.NotIn] [b] pos) (fun c0 => c0 = !decide (x ∈ ys)) := eb_cmp op_notIn_seq r2_inL ha hb hm
theorem eb_ninT {x : Str} {ys : List Str} (ha : EvD X z δ a (dat (.str x))) (hb : EvD X z δ b (dat (.tuple (ys.map .str)))) (hm : behindInMarks .NotIn b = false := by rfl) : EvB X z δ (.Compare a [.NotIn] [b] pos) (fun c0 => c0 = !decide (x ∈ ys)) := eb_cmp op_notIn_seq r2_inT ha hb hm
end
end Z
end
section
set_option maxRecDepth 100000
set_option maxHeartbeats 4000000
/-! Z12: ends of bodies; a text's signs. -/
namespace Z
open PySem PySem.Spec PyProof.Rows L2
section
variable {X : Cx} {z : Zn} {δ δ' : List (Option Ty)} {Ω : Own} {a b c e o tg : Expr} {es : List Expr} {pos : Pos} {T U W : Ty} {C C' : Cy} {rest : List Stmt} {k : Nat}
variable {D : Dn}
theorem sw_retT (hD : D.rt = rtT z T) (he : EvG X z δ Ω e U) (f : U = T) : SWs X z (.Return (some e) pos :: rest) D δ Ω := sw_ret he fun v G' H' bg t => by
  rw [hD]
  exact ⟨G', bg, f ▸ t⟩
theorem sw_retX {q : Except Er Ty} (hD : D.rt = rtX z q) (he : EvG X z δ Ω e U) (f : q = .ok U) : SWs X z (.Return (some e) pos :: rest) D δ Ω := sw_ret he fun v G' H' bg t => by
  rw [hD]
  exact ⟨G', U, f, bg, t⟩
theorem sw_retFr (hD : D.rt = rtF z C') (he : EvF X z δ Ω e C) (f : C = C') : SWs X z (.Return (some e) pos :: rest) D δ Ω := sw_retF he fun a o G' H' bg na ga ha ca => by
  rw [hD]
  exact ⟨a, o, G', rfl, bg, na, ga, ha, f ▸ ca⟩
theorem sw_endT (h : T = dat .none) : SWs X z [] (dT z T) δ Ω := sw_nil fun G => by rw [h]; exact Rp.non
theorem ei_strA {y : Str} (ha : EvD X z δ a (dat (.str y))) : EvI X z δ tg a y.cps.toList.length (fun i => (fun c => dat (.str (chS c))) y.cps.toList[i]!) := by
  have h := ei_str (tg := tg) ha
  rw [← Array.length_toList] at h
  refine ei_mono h fun i hi v G t => ?_
  have e : y.cps.toList.getD i 0 = y.cps.toList[i]! := by
    rw [List.getD_eq_getElem?_getD, List.getElem?_eq_getElem hi, getElem!_pos y.cps.toList i hi]
    rfl
  rw [e] at t
  exact t
theorem at_zero {α : Type} [Inhabited α] {xs : List α} (h : 0 < xs.length) : atI xs 0 = some xs[0]! := by
  rw [getElem!_pos xs 0 h]
  unfold atI ixN
  rw [if_pos (Int.le_refl 0), if_pos (by omega)]
  exact List.getElem?_eq_getElem h
theorem at_nat {α : Type} [Inhabited α] {xs : List α} {n : Nat} (h : n < xs.length) : atI xs (n : Int) = some xs[n]! := by
  rw [getElem!_pos xs n h]
  unfold atI ixN
  rw [if_pos (by omega), if_pos (by omega)]
  show xs[((n : Int)).toNat]? = _
  rw [Int.toNat_natCast]
  exact List.getElem?_eq_getElem h
theorem at_neg1 {α : Type} {xs : List α} {x : α} (h : xs.getLast? = some x) : atI xs (-1) = some x := by
  have hl : 0 < xs.length := by
    cases xs with
    | nil => cases h
    | cons _ _ => simp
  unfold atI ixN
  rw [if_neg (by omega), if_pos (by omega)]
  show xs[(-1 + (xs.length : Int)).toNat]? = _
  rw [show (-1 + (xs.length : Int)).toNat = xs.length - 1 from by omega, ← List.getLast?_eq_getElem?]
  exact h
end
/-! ### isinstance by the type alone -/
section
variable {X : Cx} {z : Zn} {δ : List (Option Ty)} {a b c e : Expr} {p pos pos2 : Pos} {T : Ty} {r : Bool}
def TyT (K : PySem.W.Frag) (T : Ty) (t : Value) : Prop := ∀ (v : V) (G H : Hp), Le G H → T.p v G → TyX K H v t
theorem ty_dat {K : PySem.W.Frag} {d : PyData} : TyT K (dat d) (.type (tyN d)) := fun v G H l t => Rp.ty l t
theorem ty_dk {K : PySem.W.Frag} {es : List (L2.Key × Ty)} : TyT K (tDK es) (.type "dict") := fun v G H l ⟨a, kvs, e, f, _⟩ => by
  rw [e]
  exact .base (.dK (l a _ f))
theorem ty_ob {K : PySem.W.Frag} {C : Addr} {fs : List (Str × Ty)} (cl : Cls K C) (ha : PySem.W.findIn K (.ref C) "__class__" = some (some (.builtin "object.__class__"))) (hn : PySem.W.specialIn K (.builtin "object.__class__") "__get__" = some (some (.builtin "getset_descriptor.__get__"))) (htk : PySem.W.takesIn K (.builtin "object.__class__") = some true)
    (hm : PySem.W.mroIn K C (.type "object") = some true) : TyT K (tOb C fs) (.ref C) := fun v G H l ⟨a, dx, gs, e, f, _⟩ => by
  rw [e]
  exact .base (.ins (l a _ f) cl ha hn htk hm)
theorem ev_isiT {t u : Value} {cV : V} (hm : X.mg "isinstance" = none) (hT : TyT X.K T t) (hc : ClsV cV u) (hk : PySem.W.kitOne X.K t u = some r) (ha : EvD X z δ a T) (hb : EvD X z δ b (tRaw cV)) (hg : Gl X "isinstance" := by rfl) (he : starEach [a, b] X.env = (false, eval a X.env) :: starEach [b] X.env := by rfl) (he2 : starEach [b] X.env = (false, eval b X.env) :: starEach [] X.env := by rfl)
    (hpl : (backTo pos (starEach [b] X.env)).any (·.1) = false := by rfl) : EvD X z δ (.Call (.Name "isinstance" p) [a, b] [] pos) (dat (.bool r)) :=
  ev_cb call_isi hm (by decide +kernel) (rct_val fun xs G H Q l rr q => by
    obtain ⟨v, w, rfl, tv, tw⟩ := reps2 rr
    have tw : w = cV := tw
    subst tw
    exact ⟨v, w, t, u, r, rfl, hc, hT v G H l tv, hk, q _ (.bl _)⟩) (ea2 ha hb he he2) hg (by decide) (by decide) he hpl
theorem ev_isiT2 {t : Value} {m n : String} (hm : X.mg "isinstance" = none) (hT : TyT X.K T t) (hk : PySem.W.kitAny X.K t [.type m, .type n] = some r) (ha : EvD X z δ a T) (hb : EvD X z δ b (tT [tRaw (.ty m), tRaw (.ty n)])) (hg : Gl X "isinstance" := by rfl) (he : starEach [a, b] X.env = (false, eval a X.env) :: starEach [b] X.env := by rfl) (he2 : starEach [b] X.env = (false, eval b X.env) :: starEach [] X.env := by rfl)
    (hpl : (backTo pos (starEach [b] X.env)).any (·.1) = false := by rfl) : EvD X z δ (.Call (.Name "isinstance" p) [a, b] [] pos) (dat (.bool r)) :=
  ev_cb call_isiT hm (by decide +kernel) (rct_val fun xs G H Q l rr q => by
    obtain ⟨v, w, rfl, tv, tw⟩ := reps2 rr
    obtain ⟨tp, vs, rfl, et, rt⟩ := tw
    obtain ⟨c1, c2, rfl, t1, t2⟩ := reps2 rt
    have t1 : c1 = .ty m := t1
    have t2 : c2 = .ty n := t2
    subst t1 t2
    exact ⟨v, tp, _, t, _, r, rfl, l.at_ et rfl, .cons (.ty m) (.cons (.ty n) .nil), hT v G H l tv, hk, q _ (.bl _)⟩) (ea2 ha hb he he2) hg (by decide) (by decide) he hpl
end
instance inhPyData : Inhabited PyData := ⟨.none⟩
theorem slen (x : Str) : x.cps.toList.length = x.length := by
  show _ = x.cps.size
  rw [Array.length_toList]
end Z
end
section
set_option maxRecDepth 100000
set_option maxHeartbeats 4000000
/-! Z13: loops by states. -/
namespace Z
open PySem PySem.Spec PyProof.Rows L2
theorem Wk.trans {δ δ' δ'' : List (Option Ty)} (a : Wk δ δ') (b : Wk δ' δ'') : Wk δ δ'' := ⟨a.1.trans b.1, fun i T e => a.2 i T (b.2 i T e)⟩
theorem TgO.weak {g : TG} {T : Ty} {δ1 δ δ2 : List (Option Ty)} {J : List Nat} (h : TgO g T δ δ2 J) (w : Wk δ1 δ) : TgO g T δ1 δ2 J := ⟨fun G H σ v l r t Q q => h.to G H σ v l (r.weak w) t Q q⟩
section
variable {X : Cx} {z : Zn} {δ δ' : List (Option Ty)} {Ω : Own} {e tg iter : Expr} {pos : Pos} {D : Dn} {rest body : List Stmt} {α S : Type} [Inhabited α]
/-- what a turn ends in -/
def stD (D : Dn) (I : S → Prop) (δs : S → List (Option Ty)) (Ωs : S → Own) (bk : List (Option Ty) → Own → Prop) : Dn := ⟨fun δ Ω => ∃ s, I s ∧ Wk δ (δs s) ∧ Ω = Ωs s, D.rt, bk, fun δ Ω => ∃ s, I s ∧ Wk δ (δs s) ∧ Ω = Ωs s⟩
theorem sw_forS {g : TG} {J : List Nat} (xs : List α) (F : α → Ty) (I : List α → S → Prop) (δs : S → List (Option Ty)) (Ωs : S → Own) (δt : S → α → List (Option Ty)) (hp : PassesOwn (model X.prog X.w) X.A X.env X.xe) (hc : X.calm = true) (hi : EvI X z δ tg iter xs.length (fun i => F xs[i]!)) (pg : PG X tg g)
    (tr : ∀ s x, TgO g (F x) (δs s) (δt s x) J) (hJ : ∀ s, ∀ q ∈ Ωs s, q.1 ∉ J) (h0 : ∃ s, I [] s ∧ Wk δ (δs s) ∧ Ω = Ωs s)
    (step : ∀ ys x zs s, xs = ys ++ x :: zs → I ys s → SWs X z body (stD D (I (ys ++ [x])) δs Ωs fun δ' Ω' => SWs X z rest D δ' Ω') (δt s x) (Ωs s)) (done : ∀ s, I xs s → SWs X z rest D (δs s) (Ωs s))
    (hs : ∀ x, foldedSetIterable iter X.env x = pure x := by intro _; rfl) : SWs X z (.For tg iter body [] pos :: rest) D δ Ω :=
  sw_forA xs F (fun ys δ Ω => ∃ s, I ys s ∧ Wk δ (δs s) ∧ Ω = Ωs s) hp hc hi pg h0 (fun ys x zs δ1 Ω1 e ⟨s, hI, w, eo⟩ => ⟨δt s x, J, (tr s x).weak w, by rw [eo]; exact hJ s, by rw [eo]; exact step ys x zs s e hI⟩) (fun δ1 Ω1 ⟨s, hI, w, eo⟩ => by
    rw [eo]
    exact sw_weak w (done s hI)) hs
theorem s1_forS {g : TG} {J : List Nat} (xs : List α) (F : α → Ty) (I : List α → S → Prop) (δs : S → List (Option Ty)) (Ωs : S → Own) (δt : S → α → List (Option Ty)) (hp : PassesOwn (model X.prog X.w) X.A X.env X.xe) (hc : X.calm = true) (hi : EvI X z δ tg iter xs.length (fun i => F xs[i]!)) (pg : PG X tg g)
    (tr : ∀ s x, TgO g (F x) (δs s) (δt s x) J) (hJ : ∀ s, ∀ q ∈ Ωs s, q.1 ∉ J) (h0 : ∃ s, I [] s ∧ Wk δ (δs s) ∧ Ω = Ωs s)
    (step : ∀ ys x zs s, xs = ys ++ x :: zs → I ys s → SWs X z body (stD D (I (ys ++ [x])) δs Ωs D.nx) (δt s x) (Ωs s)) (done : ∀ s, I xs s → D.nx (δs s) (Ωs s))
    (hs : ∀ x, foldedSetIterable iter X.env x = pure x := by intro _; rfl) : S1 X z (.For tg iter body [] pos) D δ Ω :=
  s1_forA xs F (fun ys δ Ω => ∃ s, I ys s ∧ Wk δ (δs s) ∧ Ω = Ωs s) hp hc hi pg h0 (fun ys x zs δ1 Ω1 e ⟨s, hI, w, eo⟩ => ⟨δt s x, J, (tr s x).weak w, by rw [eo]; exact hJ s, by rw [eo]; exact step ys x zs s e hI⟩) (fun δ1 Ω1 ⟨s, hI, w, eo⟩ => by
    rw [eo]
    exact ⟨_, w, done s hI⟩) hs
/-- nothing changes but the target -/
theorem sw_for0 {g : TG} {J : List Nat} (xs : List α) (F : α → Ty) (δ0 : List (Option Ty)) (δt : α → List (Option Ty)) (hp : PassesOwn (model X.prog X.w) X.A X.env X.xe) (hc : X.calm = true) (hi : EvI X z δ tg iter xs.length (fun i => F xs[i]!)) (pg : PG X tg g)
    (tr : ∀ x, TgO g (F x) δ0 (δt x) J) (w0 : Wk δ δ0) (hJ : ∀ q ∈ Ω, q.1 ∉ J)
    (step : ∀ ys x zs, xs = ys ++ x :: zs → SWs X z body ⟨fun δ' Ω' => Wk δ' δ0 ∧ Ω' = Ω, D.rt, fun δ' Ω' => SWs X z rest D δ' Ω', fun δ' Ω' => Wk δ' δ0 ∧ Ω' = Ω⟩ (δt x) Ω) (done : SWs X z rest D δ0 Ω)
    (hs : ∀ x, foldedSetIterable iter X.env x = pure x := by intro _; rfl) : SWs X z (.For tg iter body [] pos :: rest) D δ Ω :=
  sw_forA xs F (fun _ δ' Ω' => Wk δ' δ0 ∧ Ω' = Ω) hp hc hi pg ⟨w0, rfl⟩ (fun ys x zs δ1 Ω1 e ⟨w, eo⟩ => ⟨δt x, J, (tr x).weak w, by rw [eo]; exact hJ, by rw [eo]; exact step ys x zs e⟩) (fun δ1 Ω1 ⟨w, eo⟩ => by
    rw [eo]
    exact sw_weak w done) hs
end

/-! ### dicts by names -/
theorem look_map {κ α : Type} [DecidableEq κ] {ky : α → κ} {F : α → Ty} {n : α} (inj : ∀ a b, ky a = ky b → a = b) [DecidableEq α] : ∀ (ks : List α), lookT (ks.map fun a => (ky a, F a)) (ky n) = if n ∈ ks then some (F n) else none
  | [] => rfl
  | a :: r => by
    have ih := look_map (F := F) (n := n) inj r
    unfold lookT at ih ⊢
    rw [List.map_cons, List.find?_cons]
    by_cases h : a = n
    · subst h
      simp
    · have h2 : ¬ ky a = ky n := fun w => h (inj _ _ w)
      have h3 : ¬ n = a := fun w => h w.symm
      rw [decide_eq_false h2]
      simp only [ih, List.mem_cons, h3, false_or]
theorem look_str {F : Str → Ty} {n : Str} (ks : List Str) : lookT (ks.map fun a => ((.inr a : L2.Key), F a)) (.inr n) = if n ∈ ks then some (F n) else none := look_map (ky := fun a : Str => (Sum.inr a : L2.Key)) (fun a b h => Sum.inr.inj h) ks
theorem put_map {F : Str → Ty} {x : Str} {T : Ty} (ks : List Str) (h : x ∈ ks) : putT (ks.map fun a => ((.inr a : L2.Key), F a)) (.inr x) T = ks.map fun a => ((.inr a : L2.Key), if a = x then T else F a) := by
  unfold putT
  have e : ((ks.map fun a => ((.inr a : L2.Key), F a)).any fun kv => decide (kv.1 = .inr x)) = true := by
    rw [List.any_eq_true]
    exact ⟨(.inr x, F x), List.mem_map.mpr ⟨x, h, rfl⟩, by simp⟩
  rw [if_pos e, List.map_map]
  refine List.map_congr_left fun a _ => ?_
  show (if (Sum.inr a : L2.Key) = .inr x then ((.inr a : L2.Key), T) else (.inr a, F a)) = _
  by_cases q : a = x
  · rw [if_pos (by rw [q]), if_pos q]
  · rw [if_neg (fun w => q (Sum.inr.inj w)), if_neg q]
theorem put_new {F : Str → Ty} {x : Str} {T : Ty} (ks : List Str) (h : x ∉ ks) : putT (ks.map fun a => ((.inr a : L2.Key), F a)) (.inr x) T = (ks.map fun a => ((.inr a : L2.Key), F a)) ++ [(.inr x, T)] := by
  unfold putT
  have e : ¬ ((ks.map fun a => ((.inr a : L2.Key), F a)).any fun kv => decide (kv.1 = .inr x)) = true := by
    rw [List.any_eq_true]
    rintro ⟨q, m, hq⟩
    obtain ⟨a, ha, rfl⟩ := List.mem_map.mp m
    have := of_decide_eq_true hq
    exact h (Sum.inr.inj this ▸ ha)
  rw [if_neg e]
end Z
end
section
set_option maxRecDepth 100000
set_option maxHeartbeats 4000000
/-! Z14: a dict of one's own whose values are lists of one's own. -/
namespace Z
open PySem PySem.Spec PyProof.Rows L2
section
variable {κ : Type} [DecidableEq κ] {z : Zn} {G H : Hp} {σ : L2.St} {δ : List (Option Ty)}
/-- one's own at a: unknown for good, new since the entry -/
structure Own1 (z : Zn) (G : Hp) (a : Addr) : Prop where
  g : G a = none
  h0 : z.H0 a = none
  ns : z.sa ≠ some a
def DeepE (z : Zn) (G H : Hp) (D : Addr) (q : κ × V) (e : κ × List Ty) : Prop := q.1 = e.1 ∧ ∃ l vs, q.2 = .ref l ∧ l ≠ D ∧ Own1 z G l ∧ H l = some (.lst vs) ∧ Reps G vs e.2
structure Deep (mk : List (κ × V) → HO) (z : Zn) (G H : Hp) (D : Addr) (kvs : List (κ × V)) (es : List (κ × List Ty)) : Prop where
  at_ : H D = some (mk kvs)
  nt : isTup (mk kvs) = false
  own : Own1 z G D
  en : Paired (DeepE z G H D) kvs es
  nd : (kvs.map (·.2)).Nodup
  nk : (es.map (·.1)).Nodup
theorem Own1.ext {G' H' : Hp} {a : Addr} (o : Own1 z G a) (x : Ext z.sa G H G' H') (n : NT H a) : Own1 z G' a := ⟨x.nw a n o.g, o.h0, o.ns⟩
theorem DeepE.ext {G' H' : Hp} {D : Addr} {q : κ × V} {e : κ × List Ty} (h : DeepE z G H D q e) (x : Ext z.sa G H G' H') : DeepE z G' H' D q e := by
  obtain ⟨a, l, vs, b, c, o, hl, r⟩ := h
  exact ⟨a, l, vs, b, c, o.ext x ⟨_, hl, rfl⟩, x.h l _ o.ns hl, r.mono x.g⟩
theorem Deep.ext {mk : List (κ × V) → HO} {G' H' : Hp} {D : Addr} {kvs : List (κ × V)} {es : List (κ × List Ty)} (d : Deep mk z G H D kvs es) (x : Ext z.sa G H G' H') : Deep mk z G' H' D kvs es :=
  ⟨x.h D _ d.own.ns d.at_, d.nt, d.own.ext x ⟨_, d.at_, d.nt⟩, L2.Paired.mapP d.en fun _ _ h => h.ext x, d.nd, d.nk⟩
theorem deep_get {D : Addr} {k : κ} {Ts : List Ty} : ∀ {kvs : List (κ × V)} {es : List (κ × List Ty)}, Paired (DeepE z G H D) kvs es → lookT es k = some Ts → ∃ l vs, valV kvs k = some (.ref l) ∧ l ≠ D ∧ Own1 z G l ∧ H l = some (.lst vs) ∧ Reps G vs Ts
  | _, _, .nil, h => by cases h
  | _, _, .cons (a := q) (b := e) (l₁ := kvs) (l₂ := es) h t, hl => by
    obtain ⟨a, l, vs, b, c, o, hh, r⟩ := h
    by_cases hk : e.1 = k
    · have : lookT (e :: es) k = some e.2 := by
        unfold lookT
        rw [List.find?_cons, decide_eq_true hk]
        rfl
      rw [this] at hl
      cases hl
      exact ⟨l, vs, by rw [valV_pos (a.trans hk), b], c, o, hh, r⟩
    · have : lookT (e :: es) k = lookT es k := by
        unfold lookT
        rw [List.find?_cons, decide_eq_false hk]
      rw [this] at hl
      obtain ⟨l2, vs2, h1, h2⟩ := deep_get t hl
      exact ⟨l2, vs2, by rw [valV_neg (fun w => hk (a.symm.trans w))]; exact h1, h2⟩
theorem deep_none {D : Addr} {k : κ} : ∀ {kvs : List (κ × V)} {es : List (κ × List Ty)}, Paired (DeepE z G H D) kvs es → lookT es k = none → valV kvs k = none
  | _, _, .nil, _ => rfl
  | _, _, .cons (a := q) (b := e) (l₁ := kvs) (l₂ := es) h t, hl => by
    by_cases hk : e.1 = k
    · have : lookT (e :: es) k = some e.2 := by
        unfold lookT
        rw [List.find?_cons, decide_eq_true hk]
        rfl
      rw [this] at hl
      cases hl
    · have : lookT (e :: es) k = lookT es k := by
        unfold lookT
        rw [List.find?_cons, decide_eq_false hk]
      rw [this] at hl
      rw [valV_neg (fun w => hk (h.1.symm.trans w))]
      exact deep_none t hl
def addAt (k : κ) (T : Ty) (es : List (κ × List Ty)) : List (κ × List Ty) := es.map fun e => if e.1 = k then (e.1, e.2 ++ [T]) else e
theorem addAt_keys {k : κ} {T : Ty} (es : List (κ × List Ty)) : (addAt k T es).map (·.1) = es.map (·.1) := by
  unfold addAt
  rw [List.map_map]
  refine List.map_congr_left fun e _ => ?_
  show (if e.1 = k then (e.1, e.2 ++ [T]) else e).1 = e.1
  by_cases h : e.1 = k
  · rw [if_pos h]
  · rw [if_neg h]
theorem nodup_inj {α β : Type} {f : α → β} : ∀ {xs : List α}, (xs.map f).Nodup → ∀ {a b : α}, a ∈ xs → b ∈ xs → f a = f b → a = b
  | [], _, _, _, h, _, _ => nomatch h
  | x :: r, nd, a, b, ha, hb, e => by
    rw [List.map_cons] at nd
    obtain ⟨n1, n2⟩ := List.nodup_cons.mp nd
    rcases List.mem_cons.mp ha with ha | ha
    · rcases List.mem_cons.mp hb with hb | hb
      · rw [ha, hb]
      · exact absurd (List.mem_map.mpr ⟨b, hb, by rw [← e, ha]⟩) n1
    · rcases List.mem_cons.mp hb with hb | hb
      · exact absurd (List.mem_map.mpr ⟨a, ha, by rw [e, hb]⟩) n1
      · exact nodup_inj n2 ha hb e
theorem valV_mem2 {k : κ} {v : V} : ∀ {kvs : List (κ × V)}, valV kvs k = some v → (k, v) ∈ kvs
  | [], h => by cases h
  | q :: r, h => by
    by_cases c : q.1 = k
    · rw [valV_pos c] at h
      cases h
      obtain ⟨a, b⟩ := q
      subst c
      exact List.mem_cons_self
    · rw [valV_neg c] at h
      exact List.mem_cons_of_mem _ (valV_mem2 h)
/-- a list of it grows -/
theorem Deep.app {mk : List (κ × V) → HO} {D l : Addr} {kvs : List (κ × V)} {es : List (κ × List Ty)} {k : κ} {v : V} {T : Ty} {vs : List V} (d : Deep mk z G H D kvs es) (hv : valV kvs k = some (.ref l)) (hl : H l = some (.lst vs)) (t : T.p v G) (hD : l ≠ D) :
    Deep mk z G (upd H l (.lst (vs ++ [v]))) D kvs (addAt k T es) := by
  have keys : kvs.map (·.1) = es.map (·.1) := by
    have go : ∀ {kvs : List (κ × V)} {es : List (κ × List Ty)}, Paired (DeepE z G H D) kvs es → kvs.map (·.1) = es.map (·.1) := by
      intro kvs es p
      induction p with
      | nil => rfl
      | cons h t ih => rw [List.map_cons, List.map_cons, ih, h.1]
    exact go d.en
  refine ⟨by rw [upd_ne (Ne.symm hD)]; exact d.at_, d.nt, d.own, ?_, d.nd, by rw [addAt_keys]; exact d.nk⟩
  have hm := valV_mem2 hv
  have nd := d.nd
  have nk : (kvs.map (·.1)).Nodup := by rw [keys]; exact d.nk
  have go : ∀ {kvs : List (κ × V)} {es : List (κ × List Ty)}, Paired (DeepE z G H D) kvs es → (∀ q ∈ kvs, q.1 = k ↔ q.2 = .ref l) → Paired (DeepE z G (upd H l (.lst (vs ++ [v]))) D) kvs (addAt k T es) := by
    intro kvs es p
    induction p with
    | nil => intro _; exact .nil
    | @cons q e _ _ h t' ih =>
      intro hq
      refine .cons ?_ (ih fun x m => hq x (List.mem_cons_of_mem _ m))
      obtain ⟨a, l2, vs2, b, c, o, hh, r⟩ := h
      show DeepE z G _ D q (if e.1 = k then (e.1, e.2 ++ [T]) else e)
      by_cases hk : e.1 = k
      · have e2 := (hq q List.mem_cons_self).mp (a.trans hk)
        rw [b] at e2
        cases e2
        rw [hl] at hh
        cases hh
        rw [if_pos hk]
        exact ⟨a, l, vs ++ [v], b, c, o, upd_same, r.append (.cons t .nil)⟩
      · have hne : l2 ≠ l := fun w => hk (a ▸ (hq q List.mem_cons_self).mpr (by rw [b, w]))
        rw [if_neg hk]
        exact ⟨a, l2, vs2, b, c, o, by rw [upd_ne hne]; exact hh, r⟩
  refine go d.en fun q m => ⟨fun w => ?_, fun w => ?_⟩
  · rw [nodup_inj nk m hm w]
  · rw [nodup_inj nd m hm w]
theorem deep_tracked {D : Addr} : ∀ {kvs : List (κ × V)} {es : List (κ × List Ty)}, Paired (DeepE z G H D) kvs es → ∀ q ∈ kvs, ∃ l vs, q.2 = .ref l ∧ H l = some (.lst vs)
  | _, _, .nil, _, m => nomatch m
  | _, _, .cons h t, q, m => by
    rcases List.mem_cons.mp m with w | m
    · obtain ⟨_, l, vs, b, _, _, hh, _⟩ := h
      exact ⟨l, vs, by rw [w]; exact b, hh⟩
    · exact deep_tracked t q m
theorem look_notin {k : κ} : ∀ {es : List (κ × List Ty)}, lookT es k = none → k ∉ es.map (·.1)
  | [], _, m => nomatch m
  | q :: r, h, m => by
    unfold lookT at h
    rw [List.find?_cons] at h
    by_cases c : q.1 = k
    · rw [decide_eq_true c] at h
      cases h
    · rw [decide_eq_false c] at h
      rcases List.mem_cons.mp (by simpa using m : k ∈ q.1 :: r.map (·.1)) with w | m
      · exact c w.symm
      · exact look_notin h m
/-- a new key and its list -/
theorem Deep.new {mk : List (κ × V) → HO} {D p : Addr} {kvs : List (κ × V)} {es : List (κ × List Ty)} {k : κ} {vs : List V} {Ts : List Ty} (d : Deep mk z G H D kvs es) (hk : k ∉ es.map (·.1)) (op : Own1 z G p) (hp : H p = some (.lst vs)) (r : Reps G vs Ts) (np : ∀ q ∈ kvs, q.2 ≠ .ref p) (hD : p ≠ D)
    (nt : isTup (mk (kvs ++ [(k, .ref p)])) = false) : Deep mk z G (upd H D (mk (kvs ++ [(k, .ref p)]))) D (kvs ++ [(k, .ref p)]) (es ++ [(k, Ts)]) := by
  refine ⟨upd_same, nt, d.own, ?_, ?_, ?_⟩
  · have go : ∀ {kvs' : List (κ × V)} {es : List (κ × List Ty)}, Paired (DeepE z G H D) kvs' es → Paired (DeepE z G (upd H D (mk (kvs ++ [(k, .ref p)]))) D) (kvs' ++ [(k, .ref p)]) (es ++ [(k, Ts)]) := by
      intro kvs' es q
      induction q with
      | nil => exact .cons ⟨rfl, p, vs, rfl, hD, op, by rw [upd_ne hD]; exact hp, r⟩ .nil
      | cons h t ih =>
        obtain ⟨a, l, vs2, b, c, o, hh, r2⟩ := h
        exact .cons ⟨a, l, vs2, b, c, o, by rw [upd_ne c]; exact hh, r2⟩ ih
    exact go d.en
  · rw [List.map_append]
    refine List.nodup_append.mpr ⟨d.nd, by simp, fun v m v2 m2 e => ?_⟩
    have e2 : v2 = .ref p := by simpa using m2
    obtain ⟨q, mq, hq⟩ := List.mem_map.mp m
    exact np q mq (by rw [hq, e, e2])
  · rw [List.map_append]
    refine List.nodup_append.mpr ⟨d.nk, by simp, fun v m v2 m2 e => ?_⟩
    have e2 : v2 = k := by simpa using m2
    exact hk (e2 ▸ e ▸ m)
/-- what no one knows is written -/
theorem Good.poke {a : Addr} {o' : HO} (g : Good z G H σ δ []) (ow : Own1 z G a) (n : isTup o' = false) : Good z G (upd H a o') σ δ [] := by
  refine ⟨⟨fun y u q => ?_, g.bg.g0, fun y u nb q => ?_, fun y n => ?_, fun y n => ?_, g.bg.nw, ?_⟩, g.rs, trivial⟩
  · rw [upd_ne (ne_of_none q ow.g)]
    exact g.bg.le y u q
  · rw [upd_ne (ne_of_none q ow.h0)]
    exact g.bg.h0 y u nb q
  · by_cases h : y = a
    · rw [h, upd_same]
      exact fun w => nomatch w
    · rw [upd_ne h]
      exact g.bg.al y n
  · by_cases h : y = a
    · exact ⟨o', by rw [h, upd_same], ‹isTup o' = false›⟩
    · obtain ⟨u, e, n⟩ := g.bg.nt y n
      exact ⟨u, by rw [upd_ne h]; exact e, n⟩
  · have q := g.bg.st
    cases hs : z.sa with
    | none => trivial
    | some s =>
      rw [hs] at q
      obtain ⟨n, cc, cells, i', r, k, seed, e1, e2, e3⟩ := q
      exact ⟨n, cc, cells, i', r, k, seed, e1, by rw [upd_ne (fun w => ow.ns (by rw [hs, w]))]; exact e2, e3⟩
/-- and is known from now on -/
theorem Good.know {a : Addr} {o : HO} (g : Good z G H σ δ []) (ow : Own1 z G a) (h : H a = some o) : Good z (upd G a o) H σ δ [] ∧ Same G (upd G a o) := by
  have sg : Same G (upd G a o) := fun y u q => by rw [upd_ne (ne_of_none q ow.g)]; exact q
  refine ⟨⟨⟨fun y u q => ?_, g.bg.g0.trans sg, g.bg.h0, g.bg.al, g.bg.nt, fun y n q => ?_, ?_⟩, g.rs.mono sg, trivial⟩, sg⟩
  · by_cases c : y = a
    · rw [c, upd_same] at q
      rw [c, h]
      exact q
    · rw [upd_ne c] at q
      exact g.bg.le y u q
  · rw [upd_ne (fun w => n.ne (by rw [w]; exact ow.h0))]
    exact g.bg.nw y n q
  · have q := g.bg.st
    cases hs : z.sa with
    | none => trivial
    | some s =>
      rw [hs] at q
      obtain ⟨n, cc, cells, i', r, k, seed, e1, e2, e3⟩ := q
      exact ⟨by rw [upd_ne (fun w => ow.ns (by rw [hs, w]))]; exact n, cc, cells, i', r, k, seed, sg _ _ e1, e2, e3⟩
theorem deep_know {D : Addr} : ∀ {kvs : List (κ × V)} {es : List (κ × List Ty)} {G : Hp}, Paired (DeepE z G H D) kvs es → (kvs.map (·.2)).Nodup → Own1 z G D → Good z G H σ δ [] → ∃ G', Good z G' H σ δ [] ∧ Same G G' ∧ Own1 z G' D ∧ Ents G' kvs (es.map fun e => (e.1, tL e.2))
  | [], [], G, .nil, _, oD, g => ⟨G, g, Same.refl _, oD, .nil⟩
  | q :: kvs, e :: es, G, .cons h t, nd, oD, g => by
    obtain ⟨a, l, vs, b, c, o, hh, r⟩ := h
    obtain ⟨g1, s1⟩ := g.know o hh
    rw [List.map_cons] at nd
    obtain ⟨n1, n2⟩ := List.nodup_cons.mp nd
    have t1 : Paired (DeepE z (upd G l (.lst vs)) H D) kvs es := by
      have go : ∀ {kvs : List (κ × V)} {es : List (κ × List Ty)}, Paired (DeepE z G H D) kvs es → (∀ x ∈ kvs, x.2 ≠ .ref l) → Paired (DeepE z (upd G l (.lst vs)) H D) kvs es := by
        intro kvs es p
        induction p with
        | nil => intro _; exact .nil
        | @cons x y _ _ h t ih =>
          intro hn
          obtain ⟨a, l2, vs2, b, c, o, hh, r⟩ := h
          have ne : l2 ≠ l := fun w => hn x List.mem_cons_self (by rw [b, w])
          exact .cons ⟨a, l2, vs2, b, c, ⟨by rw [upd_ne ne]; exact o.g, o.h0, o.ns⟩, hh, r.mono s1⟩ (ih fun y m => hn y (List.mem_cons_of_mem _ m))
      exact go t fun x m w => n1 (List.mem_map.mpr ⟨x, m, by rw [w, b]⟩)
    obtain ⟨G', g2, s2, o2, en⟩ := deep_know t1 n2 ⟨by rw [upd_ne (Ne.symm c)]; exact oD.g, oD.h0, oD.ns⟩ g1
    exact ⟨G', g2, s1.trans s2, o2, .cons ⟨a, l, vs, b, s2 _ _ upd_same, (r.mono s1).mono s2⟩ en⟩
theorem Deep.know {mk : List (κ × V) → HO} {D : Addr} {kvs : List (κ × V)} {es : List (κ × List Ty)} (d : Deep mk z G H D kvs es) (g : Good z G H σ δ []) : ∃ G', Good z G' H σ δ [] ∧ Same G G' ∧ G' D = some (mk kvs) ∧ Ents G' kvs (es.map fun e => (e.1, tL e.2)) := by
  obtain ⟨G1, g1, s1, o1, en⟩ := deep_know d.en d.nd d.own g
  obtain ⟨g2, s2⟩ := g1.know o1 d.at_
  exact ⟨_, g2, s1.trans s2, upd_same, en.mono s2⟩
end

section
variable {X : Cx} {z : Zn} {δ : List (Option Ty)} {a b c e e2 kx vx tg iter : Expr} {p p2 pos cpos apos py : Pos} {T U : Ty} {n : Nat} {x y : Str}
/-- {k: [..] for x in xs}: a dict of one's own, its lists too -/
theorem dc_deep {α : Type} [Inhabited α] {scope : Scope} (xs : List α) (F : α → Ty) (ky : α → L2.Key) (U : α → List Ty) (j : Nat) (hc : X.calm = true) (hN : X.N.Nodup) (hi : EvI X z δ (.Name y py) iter xs.length (fun i => F xs[i]!)) (ok : BlkOk X.N X.env.scope scope [(y, j)])
    (pg : ∀ (s : Shared) (H : Hp) (C : Addr) (cl : List (Str × Addr)) (fp : List Addr), PG (X.blk s H scope (compEnvC scope cl C X.env) fp) (.Name y py) (gName j))
    (hk : ∀ x, x ∈ xs → ∀ (s : Shared) (H : Hp) (C : Addr) (cl : List (Str × Addr)) (fp : List Addr), EvD (X.blk s H scope (compEnvC scope cl C X.env) fp) z ((δ.set j none).set j (some (F x))) kx (tRaw (kV (ky x))))
    (he : ∀ x, x ∈ xs → ∀ (s : Shared) (H : Hp) (C : Addr) (cl : List (Str × Addr)) (fp : List Addr), EvF (X.blk s H scope (compEnvC scope cl C X.env) fp) z ((δ.set j none).set j (some (F x))) [] vx (cL (U x))) (hz : xs.length ≤ 1000) (hd : (xs.map ky).Nodup)
    (hs : ∀ x, foldedSetIterable iter X.env x = pure x := by intro _; rfl) {G H : Hp} {σ : L2.St} (g0 : Good z G H σ δ []) {Q : VK} (q : ∀ D G' H' kvs, Ext z.sa G H G' H' → H D = none → Deep .dK z G' H' D kvs (xs.map fun x => (ky x, U x)) → Q (.ref D) H') :
    tW X (.DictComp kx vx [⟨.Name y py, iter, [], 0⟩] scope pos) σ H Q := by
  have bg := g0.bg
  have rs := g0.rs
  obtain ⟨wi, hpi, hwi⟩ := hi
  refine w_pe (pe_dc (own := [(y, j)]) (g := gName j) (tt := tYes) (tk := uE X scope kx) (tv := uE X scope vx) hc hN hpi ok pg (fun _ _ _ _ _ => pts_nil)
    (fun s H C cl fp => ⟨fun pins s' σ' H' Q' I h => h s H C cl fp pins s' I⟩) (fun s H C cl fp => ⟨fun pins s' σ' H' Q' I h => h s H C cl fp pins s' I⟩) hs) ?_
  refine hwi G H σ bg rs _ fun J G1 H1 N Y e1 wk hN1 hY => fun D hD => ?_
  have ns := no_sa e1.st hD
  have hD0 : H D = none := by
    cases hh : H D with
    | none => rfl
    | some u => exact absurd hD (e1.al (ne_none hh))
  have z0 : ∀ a, H a = none → z.H0 a = none := fun a ha => by
    cases hh : z.H0 a with
    | none => rfl
    | some u => exact absurd ha (bg.al a (ne_none hh))
  have hz1 : ∀ a, H1 a = none → z.H0 a = none := fun a ha => z0 a (by
    cases hh : H a with
    | none => rfl
    | some u => exact absurd ha (e1.al (ne_none hh)))
  have dstart : Deep .dK z G1 (upd H1 D (.dK [])) D [] [] := ⟨upd_same, rfl, ⟨g_none e1.le hD, z0 D hD0, ns⟩, .nil, List.nodup_nil, List.nodup_nil⟩
  refine ⟨fun i m H' => m = xs.length - i ∧ i ≤ xs.length ∧ ∃ G' kvs, ExtB z.sa D G1 H1 G' H' ∧ Deep .dK z G' H' D kvs ((xs.take i).map fun x => (ky x, U x)), ⟨xs.length, by simp, Nat.zero_le _, G1, [], ExtB.start e1.le e1.st hD, dstart⟩, ?_⟩
  rintro i m H2 ⟨rfl, hin, G', kvs, x, dp⟩
  have hN2 := hN1 G' H2 x.g x.le
  by_cases hlt : i < xs.length
  · refine .inr ⟨wk.goes i H2 hlt hN2, fun H' => ∃ G' kvs, ExtB z.sa D G1 H1 G' H' ∧ Deep .dK z G' H' D kvs ((xs.take (i + 1)).map fun x => (ky x, U x)), fun H' p' => ⟨xs.length - (i + 1), by omega, rfl, hlt, p'⟩, fun v H3 hy => ?_⟩
    have mi := nth_bang hlt
    obtain ⟨G3, x3, tv⟩ := hY i G' H2 v H3 hlt x.g x.le x.st (wk.yields i H2 v H3 hlt hN2 hy)
    have b3 : ExtB z.sa D G1 H1 G3 H3 := x.next hD ⟨_, dp.at_, rfl⟩ x3
    have d3 := dp.ext x3
    have rs3 : RepS G3 (wipe σ ([(y, j)].map (·.2))) (wipeT δ ([(y, j)].map (·.2))) := (rs.mono (e1.g.trans b3.g)).wipe _
    refine (tb_name (X := X) (scope := scope) (tg := .Name y py) (U := F xs[i]!) (δ := wipeT δ ([(y, j)].map (·.2))) j (by simp) pg).to G3 H3 _ v x3.le rs3 tv _ fun σ' r' w' => ⟨w'.trans (wipe_wipe _ _), ?_⟩
    refine tyes fun s H0 C cl fp => hk _ mi s H0 C cl fp G3 H3 σ' (bg.ext e1 |>.extB hD b3) r' _ fun y' G4 H4 x4 ty => ?_
    have b4 := b3.next hD ⟨_, d3.at_, rfl⟩ x4
    have d4 := d3.ext x4
    intro s H0 C cl fp
    refine he _ mi s H0 C cl fp G4 H4 σ' ⟨bg.ext e1 |>.extB hD b4, r'.mono x4.g, trivial⟩ _ fun w ow G5 H5 x5 na ga ha ca => ?_
    have b5 := b4.next hD ⟨_, d4.at_, rfl⟩ x5
    have d5 := d4.ext x5
    obtain ⟨vs, rfl, r⟩ := ca
    have hk1 : ky xs[i]! ∉ ((xs.take i).map fun x => (ky x, U x)).map (·.1) := by
      rw [List.map_map]
      intro m
      have e2 : xs.map ky = (xs.take i).map ky ++ ky xs[i]! :: (xs.drop (i + 1)).map ky := by
        conv => lhs; rw [split_at hlt]
        rw [List.map_append, List.map_cons]
      rw [e2] at hd
      exact (List.nodup_append.mp hd).2.2 _ m _ List.mem_cons_self rfl
    have hw0 : w ≠ D := fun h => by
      rw [h, d4.at_] at na
      cases na
    have hw1 : H1 w = none := by
      cases hh : H1 w with
      | none => rfl
      | some u =>
        have : NT H1 w ∨ ¬ NT H1 w := Classical.em _
        by_cases c : z.sa = some w
        · have st := b4.st
          rw [c] at st
          exact absurd na st.tracked
        · have := b4.h w u (fun h => by rw [h, hD] at hh; cases hh) c hh
          rw [na] at this
          cases this
    have op : Own1 z G5 w := ⟨ga, hz1 w hw1, no_sa b4.st na⟩
    have np : ∀ q ∈ kvs, q.2 ≠ .ref w := fun q m h => by
      obtain ⟨l, vs2, h1, h2⟩ := deep_tracked d4.en q m
      rw [h1] at h
      cases h
      rw [na] at h2
      cases h2
    have kn : ky xs[i]! ∉ kvs.map (·.1) := by
      have keys : ∀ {kvs : List (L2.Key × V)} {es : List (L2.Key × List Ty)}, Paired (DeepE z G5 H5 D) kvs es → kvs.map (·.1) = es.map (·.1) := by
        intro kvs es p
        induction p with
        | nil => rfl
        | cons h t ih => rw [List.map_cons, List.map_cons, ih, h.1]
      rw [keys d5.en]
      exact hk1
    refine ⟨kvs, ky xs[i]!, ty, d5.at_, ?_, G5, kvs ++ [(ky xs[i]!, .ref w)], b5.put ns, ?_⟩
    · have hl : kvs.length = i := by
        rw [Paired.length d5.en, List.length_map, List.length_take]
        omega
      rw [hl]
      exact small1000 (Nat.le_trans (Nat.le_of_lt hlt) hz)
    · rw [putK_snoc kn, take_succ hlt, List.map_append]
      exact d5.new hk1 op ha r np hw0 rfl
  · have e : i = xs.length := by omega
    subst e
    refine .inl ⟨wk.stops H2 hN2, ?_⟩
    rw [List.take_length] at dp
    refine q D G' H2 kvs ⟨e1.g.trans x.g, fun a o ns' e2 => x.h a o (fun w => ?_) ns' (e1.h a o ns' e2), x.le, fun a n e2 => x.nw a (e1.nt n) (e1.nw a n e2), x.st⟩ hD0 dp
    rw [w, hD0] at e2
    cases e2
/-- d[k].append(v) -/
theorem deep_app {κ : Type} [DecidableEq κ] {mk : List (κ × V) → HO} {kk : κ} {yt : Ty} {D : Addr} {i : Nat} {kvs : List (κ × V)} {es : List (κ × List Ty)} {Ts : List Ty} (hu : X.A.units + 1 < cLine) (get : ∀ (G H : Hp) (y : V), Le G H → H D = some (mk kvs) → yt.p y G → DGet H D y (valV kvs kk))
    (hi : δ[i]? = some (some (tRaw (.ref D)))) (hk : EvD X z δ e yt) (hv : EvD X z δ e2 T) (hl : lookT es kk = some Ts) (hz : Ts.length < 1000) (hN : X.N[i]? = some x := by rfl) (hvis : Vis X.env.scope x := by first | exact Or.inl rfl | exact Or.inr (Or.inl rfl) | exact Or.inr (Or.inr rfl))
    (hd : (x == ("__debug__" : Str)) = false := by decide) (hcd : (x == ("__classdict__" : Str)) = false := by decide) (hns : NoSl e := by exact fun _ _ => rfl)
    (hbase : attributeBase (.Subscript (.Name x p) e p2) "append" X.env (eval (.Subscript (.Name x p) e p2) X.env) = eval (.Subscript (.Name x p) e p2) X.env := by rfl)
    (hfew : ((backTo cpos (starEach [e2] X.env)).all (fun x => !x.1) && (backToKw cpos (keywordEach [] X.env)).all (fun x => x.1.isSome) && decide ([e2].length + ([] : List Keyword).length + (if ([] : List Keyword).isEmpty then 0 else 1) < 30)) = true := by rfl)
    (hline : (apos.endLine == cpos.line) = true := by rfl) (hs : starEach [e2] X.env = (false, eval e2 X.env) :: starEach [] X.env := by rfl) (hpl : (backTo cpos (starEach [] X.env)).any (·.1) = false := by rfl)
    (hsw : swapsWith (.Call (.Attribute (.Subscript (.Name x p) e p2) "append" apos) [e2] [] cpos) none pos.line X.env = pure false := by rfl)
    {G H : Hp} {σ : L2.St} (g : Good z G H σ δ []) (d : Deep mk z G H D kvs es) {Dn : Ends} (q : ∀ G' H', Good z G' H' σ δ [] → Same G G' → Deep mk z G' H' D kvs (addAt kk T es) → Dn.nx σ H') :
    tW1 X (.Expr (.Call (.Attribute (.Subscript (.Name x p) e p2) "append" apos) [e2] [] cpos) pos) Dn σ H := by
  obtain ⟨v0, ev, hv0⟩ := g.rs.at_ i _ hi
  have hv0 : v0 = .ref D := hv0
  subst hv0
  refine w_ps (ps_expr (pe_bm PySem.F.plainAttrs_list PySem.F.slot_list_append PySem.F.type_list_append mt_append (pe_dget hu (pe_var hN hvis hd hcd) pe_w hns) (pa_cons pe_w pa_nil hs) hbase hfew hline hs hpl) hsw) ?_
  refine ⟨.ref D, ev, hk G H σ g.bg g.rs _ fun y G1 H1 x1 ty => ?_⟩
  have g1 := g.ext x1
  have d1 := d.ext x1
  obtain ⟨l, vs, h1, h2, h3, h4, h5⟩ := deep_get d1.en hl
  refine ⟨D, .ref l, rfl, h1 ▸ get G1 H1 y x1.le d1.at_ ty, .inl ⟨rfl, _, SqL.of h4⟩, hv G1 H1 σ g1.bg g1.rs _ fun w G2 H2 x2 tw => ?_⟩
  have g2 := g1.ext x2
  have d2 := d1.ext x2
  have h4' := x2.h l _ h3.ns h4
  refine ⟨l, vs, w, rfl, rfl, h4', ?_, ?_⟩
  · rw [Paired.length h5]
    exact small1000 (Nat.le_of_lt hz)
  · exact q G2 _ (g2.poke (h3.ext x2 ⟨_, h4, rfl⟩) rfl) (x1.g.trans x2.g) (d2.app h1 h4' tw h2)
/-- a for that makes such a dict grow -/
theorem for_deep {κ α : Type} [DecidableEq κ] [Inhabited α] {mk : List (κ × V) → HO} {D : Addr} {δ0 : List (Option Ty)} {J : List Nat} {g : TG} {Dn : Dn} {body rest : List Stmt} {F0 : Hp} (xs : List α) (F : α → Ty) (es : List α → List (κ × List Ty)) (δt : α → List (Option Ty)) (hp : PassesOwn (model X.prog X.w) X.A X.env X.xe) (hc : X.calm = true)
    (hi : EvI X z δ0 tg iter xs.length (fun i => F xs[i]!)) (pg : PG X tg g) (tr : ∀ x, TgO g (F x) δ0 (δt x) J)
    (step : ∀ ys x zs G H σ kvs, xs = ys ++ x :: zs → Good z G H σ (δt x) [] → Deep mk z G H D kvs (es ys) → tWs X body { nx := fun σ' H' => ∃ G' kvs', Good z G' H' σ' δ0 [] ∧ Same G G' ∧ Deep mk z G' H' D kvs' (es (ys ++ [x])), rt := Dn.rt, bk := fun _ _ => False, ct := fun _ _ => False } σ H)
    (done : ∀ G H σ kvs, Same F0 G → Good z G H σ δ0 [] → Deep mk z G H D kvs (es xs) → tWs X rest (low z F0 Dn) σ H)
    (hs : ∀ x, foldedSetIterable iter X.env x = pure x := by intro _; rfl) {G H : Hp} {σ : L2.St} {kvs : List (κ × V)} (sf : Same F0 G) (g0 : Good z G H σ δ0 []) (d0 : Deep mk z G H D kvs (es [])) : tWs X (.For tg iter body [] pos :: rest) (low z F0 Dn) σ H := by
  obtain ⟨wi, hpi, hwi⟩ := hi
  refine w_pss (pss_cons (ps_for hp hc hpi pg pss_w hs) pss_w) ?_
  refine hwi G H σ g0.bg g0.rs _ fun Jt G1 H1 N Y e1 wk hN1 hY => ?_
  refine for_it wk (fun i σ' H' => ∃ G' kvs', Good z G' H' σ' δ0 [] ∧ Same G1 G' ∧ Deep mk z G' H' D kvs' (es (xs.take i))) ⟨G1, kvs, g0.ext e1, Same.refl _, d0.ext e1⟩ (fun i σ' H' _ ⟨G', _, g', s', _⟩ => hN1 G' H' s' g'.bg.le) (fun i v σ2 H2 H3 hin ⟨G', kvs', g', s', d'⟩ hy => ?_) fun σ2 H2 ⟨G', kvs', g', s', d'⟩ => ?_
  · obtain ⟨G3, x3, tv⟩ := hY i G' H2 v H3 hin s' g'.bg.le g'.bg.st hy
    refine (tr _).to G3 H3 σ2 v x3.le (g'.rs.mono x3.g) tv _ fun σ3 r3 w3 => ?_
    intro pins s I
    refine wpAny_mono (step _ _ _ G3 H3 σ3 kvs' (split_at hin) ⟨g'.bg.ext x3, r3, trivial⟩ (d'.ext x3) pins s I) (fun f s8 q => ?_) fun _ _ q => q
    cases f with
    | next =>
      obtain ⟨σ', H', I', G4, kvs4, a, b, c⟩ := q
      exact ⟨σ', H', I', G4, kvs4, a, s'.trans (x3.g.trans b), by rw [take_succ hin]; exact c⟩
    | brk => obtain ⟨σ', H', I', q⟩ := q; exact q.elim
    | cont => obtain ⟨σ', H', I', q⟩ := q; exact q.elim
    | ret v => exact q
  · rw [List.take_length] at d'
    exact done G' H2 σ2 kvs' (sf.trans (e1.g.trans s')) g' d'
theorem map_nodup {α β : Type} {f : α → β} (inj : ∀ a b, f a = f b → a = b) : ∀ {xs : List α}, xs.Nodup → (xs.map f).Nodup
  | [], _ => List.nodup_nil
  | x :: r, h => by
    obtain ⟨h1, h2⟩ := List.nodup_cons.mp h
    rw [List.map_cons]
    refine List.nodup_cons.mpr ⟨fun m => ?_, map_nodup inj h2⟩
    obtain ⟨y, my, e⟩ := List.mem_map.mp m
    exact h1 (inj _ _ e ▸ my)
end
end Z
end
section
set_option maxRecDepth 100000
set_option maxHeartbeats 4000000
/-! K37Txt: what the head says, by names. -/
namespace K37
open PySem PySem.Spec PyProof.Rows L2
open Z (Df)
structure Txt (K : PySem.W.Frag) (mg : Str → Option Value) : Prop where
  says : SaysK K
  at_ : ∃ h : Heap, K.In h ∧ h.Ns mainGlobals mg
theorem SaysK.d {K : PySem.W.Frag} (c : SaysK K) : He.SaysD fa fn K := congrArg (fun z : AlK => z.1) c
theorem SaysK.g {K : PySem.W.Frag} (c : SaysK K) : (gets.map fun q => fnAt K (geAd K (He.ga K "World") q.1)) = gets.map fun q => q.2.val := congrArg (fun z : AlK => z.2.1) c
theorem SaysK.e {K : PySem.W.Frag} (c : SaysK K) : ex K = true := congrArg (fun z : AlK => z.2.2) c
theorem and_l {a b : Bool} (h : (a && b) = true) : a = true := (Bool.and_eq_true_iff.mp h).1
theorem and_r {a b : Bool} (h : (a && b) = true) : b = true := (Bool.and_eq_true_iff.mp h).2
theorem er_in {t : String} {cd : ClassData} {C : Addr} {sl : List (Option Value)} (h : (match cd.mro, sl with
    | .ref D :: bm, [_, _, _, _, some (.builtin n), _] => decide (t = "type") && (decide (D = C) && (decide (n = "ValueError.__new__") && (!cd.hasDel && (cd.hasDict && PySem.HandSPX.refsVE bm))))
    | _, _ => false) = true) : ∃ bm k0 k1 k2 k3 k5, t = "type" ∧ cd.mro = .ref C :: bm ∧ sl = [k0, k1, k2, k3, some (.builtin "ValueError.__new__"), k5] ∧ cd.hasDel = false ∧ cd.hasDict = true ∧ PySem.HandSPX.refsVE bm = true := by
  split at h
  · rename_i x1 x2 D bm k0 k1 k2 k3 n k5 hm
    obtain ⟨a0, h⟩ := Bool.and_eq_true_iff.mp h
    obtain ⟨a1, h⟩ := Bool.and_eq_true_iff.mp h
    obtain ⟨a2, h⟩ := Bool.and_eq_true_iff.mp h
    obtain ⟨a3, h⟩ := Bool.and_eq_true_iff.mp h
    obtain ⟨a4, a5⟩ := Bool.and_eq_true_iff.mp h
    have a1 := of_decide_eq_true a1
    have a2 := of_decide_eq_true a2
    exact ⟨bm, k0, k1, k2, k3, k5, of_decide_eq_true a0, by rw [hm, a1], by rw [a2], by simpa using a3, a4, a5⟩
  · cases h
theorem er_ok {K : PySem.W.Frag} {C : Addr} (h : erOk K C = true) : OexC K C ∧ XfC K C ∧ PySem.W.findIn K (.ref C) "__class__" = some (some (.builtin "object.__class__")) ∧ PySem.W.mroIn K C (.type "object") = some true ∧
    PySem.W.findIn K (.ref C) "__init__" = some (some (.ref (He.ma K C "__init__"))) ∧ PySem.W.typeIn K (.ref (He.ma K C "__init__")) = some (.type "function") := by
  unfold erOk at h
  obtain ⟨h0, h⟩ := Bool.and_eq_true_iff.mp h
  obtain ⟨h1, h⟩ := Bool.and_eq_true_iff.mp h
  obtain ⟨h2, h⟩ := Bool.and_eq_true_iff.mp h
  obtain ⟨h3, h⟩ := Bool.and_eq_true_iff.mp h
  obtain ⟨h4, h⟩ := Bool.and_eq_true_iff.mp h
  obtain ⟨h5, h⟩ := Bool.and_eq_true_iff.mp h
  obtain ⟨h6, h⟩ := Bool.and_eq_true_iff.mp h
  obtain ⟨h7, h⟩ := Bool.and_eq_true_iff.mp h
  obtain ⟨h8, h9⟩ := Bool.and_eq_true_iff.mp h
  refine ⟨⟨?_, of_decide_eq_true h1, of_decide_eq_true h2, of_decide_eq_true h3, h4⟩, xfB_ok h5, of_decide_eq_true h6, of_decide_eq_true h7, of_decide_eq_true h8, of_decide_eq_true h9⟩
  cases e : K.lookup C with
  | none => rw [e] at h0; cases h0
  | some ob =>
    obtain ⟨oc, od, dt, osl⟩ := ob
    rw [e] at h0
    cases oc with
    | type t =>
      cases dt with
      | cls cd =>
        obtain ⟨sl⟩ := osl
        obtain ⟨bm, k0, k1, k2, k3, k5, a0, hm, a2, a3, a4, a5⟩ := er_in (t := t) (cd := cd) (C := C) (sl := sl) h0
        refine ⟨cd.name, cd.qualname, cd.ns, cd.bases, bm, cd.slotNames, cd.subclasses, cd.abstract, cd.collection, od, k0, k1, k2, k3, k5, ?_, a5⟩
        subst a0 a2
        rw [show cd = { name := cd.name, bases := cd.bases, mro := .ref C :: bm, ns := cd.ns, qualname := cd.qualname, hasDict := true, slotNames := cd.slotNames, subclasses := cd.subclasses, abstract := cd.abstract, collection := cd.collection, hasDel := false } from by rw [← hm, ← a3, ← a4]]
      | _ => cases h0
    | _ => cases h0
section
variable {K : PySem.W.Frag} {mg : Str → Option Value}
theorem Txt.glo (c : Txt K mg) (i : Nat) {x : Str} (h : fa[i]? = some (.glo x) := by rfl) : mg x = some (.ref (He.ga K x)) := by
  obtain ⟨h', X, G⟩ := c.at_
  exact He.glo_ok X G (c.says.d.fact i h)
theorem Txt.free (c : Txt K mg) (i : Nat) {x : Str} (h : fa[i]? = some (.free x) := by rfl) : mg x = none := by
  obtain ⟨h', X, G⟩ := c.at_
  exact He.free_ok X G (c.says.d.fact i h)
theorem Txt.int (c : Txt K mg) (i : Nat) {x : Str} {j : Int} (h : fa[i]? = some (.int x j) := by rfl) : ∃ t, mg x = some (.int j t) := by
  obtain ⟨h', X, G⟩ := c.at_
  exact He.int_ok X G (c.says.d.fact i h)
theorem Txt.str (c : Txt K mg) (i : Nat) {x y : Str} (h : fa[i]? = some (.str x y) := by rfl) : ∃ t, mg x = some (.str y t) := by
  obtain ⟨h', X, G⟩ := c.at_
  exact He.str_ok X G (c.says.d.fact i h)
theorem Txt.g_is_whole (c : Txt K mg) : mg "is_whole" = some (.ref (He.ga K "is_whole")) := c.glo 0
theorem Txt.g_is_tuple_of (c : Txt K mg) : mg "is_tuple_of" = some (.ref (He.ga K "is_tuple_of")) := c.glo 1
theorem Txt.g_is_name (c : Txt K mg) : mg "is_name" = some (.ref (He.ga K "is_name")) := c.glo 2
theorem Txt.g_is_day (c : Txt K mg) : mg "is_day" = some (.ref (He.ga K "is_day")) := c.glo 3
theorem Txt.g_is_plan (c : Txt K mg) : mg "is_plan" = some (.ref (He.ga K "is_plan")) := c.glo 4
theorem Txt.g_is_deed (c : Txt K mg) : mg "is_deed" = some (.ref (He.ga K "is_deed")) := c.glo 5
theorem Txt.g_is_history (c : Txt K mg) : mg "is_history" = some (.ref (He.ga K "is_history")) := c.glo 6
theorem Txt.g_is_name_pair (c : Txt K mg) : mg "is_name_pair" = some (.ref (He.ga K "is_name_pair")) := c.glo 7
theorem Txt.g_check_name (c : Txt K mg) : mg "check_name" = some (.ref (He.ga K "check_name")) := c.glo 8
theorem Txt.g_check_towns (c : Txt K mg) : mg "check_towns" = some (.ref (He.ga K "check_towns")) := c.glo 9
theorem Txt.g_check_ways (c : Txt K mg) : mg "check_ways" = some (.ref (He.ga K "check_ways")) := c.glo 10
theorem Txt.g_check_unlike (c : Txt K mg) : mg "check_unlike" = some (.ref (He.ga K "check_unlike")) := c.glo 11
theorem Txt.g_ordered_pair (c : Txt K mg) : mg "ordered_pair" = some (.ref (He.ga K "ordered_pair")) := c.glo 12
theorem Txt.g_checked_way (c : Txt K mg) : mg "checked_way" = some (.ref (He.ga K "checked_way")) := c.glo 13
theorem Txt.g_near_towns (c : Txt K mg) : mg "near_towns" = some (.ref (He.ga K "near_towns")) := c.glo 14
theorem Txt.g_check_plans (c : Txt K mg) : mg "check_plans" = some (.ref (He.ga K "check_plans")) := c.glo 15
theorem Txt.g_check_steps (c : Txt K mg) : mg "check_steps" = some (.ref (He.ga K "check_steps")) := c.glo 16
theorem Txt.g_known_plan (c : Txt K mg) : mg "known_plan" = some (.ref (He.ga K "known_plan")) := c.glo 17
theorem Txt.g_reason_of (c : Txt K mg) : mg "reason_of" = some (.ref (He.ga K "reason_of")) := c.glo 18
theorem Txt.g_plans_after (c : Txt K mg) : mg "plans_after" = some (.ref (He.ga K "plans_after")) := c.glo 19
theorem Txt.g_refusal (c : Txt K mg) : mg "refusal" = some (.ref (He.ga K "refusal")) := c.glo 20
theorem Txt.g_plans_along (c : Txt K mg) : mg "plans_along" = some (.ref (He.ga K "plans_along")) := c.glo 21
theorem Txt.g_replay (c : Txt K mg) : mg "replay" = some (.ref (He.ga K "replay")) := c.glo 22
theorem Txt.g_first_tokens (c : Txt K mg) : mg "first_tokens" = some (.ref (He.ga K "first_tokens")) := c.glo 23
theorem Txt.g_arrival (c : Txt K mg) : mg "arrival" = some (.ref (He.ga K "arrival")) := c.glo 24
theorem Txt.g_arriver (c : Txt K mg) : mg "arriver" = some (.ref (He.ga K "arriver")) := c.glo 25
theorem Txt.g_swap_tokens (c : Txt K mg) : mg "swap_tokens" = some (.ref (He.ga K "swap_tokens")) := c.glo 26
theorem Txt.g_thread_crossing (c : Txt K mg) : mg "thread_crossing" = some (.ref (He.ga K "thread_crossing")) := c.glo 27
theorem Txt.g_check_threads (c : Txt K mg) : mg "check_threads" = some (.ref (He.ga K "check_threads")) := c.glo 28
theorem Txt.g_threads_of (c : Txt K mg) : mg "threads_of" = some (.ref (He.ga K "threads_of")) := c.glo 29
theorem Txt.g_history_of (c : Txt K mg) : mg "history_of" = some (.ref (He.ga K "history_of")) := c.glo 30
theorem Txt.g_parts_of (c : Txt K mg) : mg "parts_of" = some (.ref (He.ga K "parts_of")) := c.glo 31
theorem Txt.g_split_history (c : Txt K mg) : mg "split_history" = some (.ref (He.ga K "split_history")) := c.glo 32
theorem Txt.g_late_first (c : Txt K mg) : mg "late_first" = some (.ref (He.ga K "late_first")) := c.glo 33
theorem Txt.g_normal_form (c : Txt K mg) : mg "normal_form" = some (.ref (He.ga K "normal_form")) := c.glo 34
theorem Txt.g_histories_alike (c : Txt K mg) : mg "histories_alike" = some (.ref (He.ga K "histories_alike")) := c.glo 35
theorem Txt.g_L_mixed (c : Txt K mg) : mg "_law_mixed" = some (.ref (He.ga K "_law_mixed")) := c.glo 36
theorem Txt.g_L_store (c : Txt K mg) : mg "_law_store" = some (.ref (He.ga K "_law_store")) := c.glo 37
theorem Txt.g_L_take (c : Txt K mg) : mg "_law_take" = some (.ref (He.ga K "_law_take")) := c.glo 38
theorem Txt.g_L_pick (c : Txt K mg) : mg "_law_pick" = some (.ref (He.ga K "_law_pick")) := c.glo 39
theorem Txt.g_L_some (c : Txt K mg) : mg "_law_some" = some (.ref (He.ga K "_law_some")) := c.glo 40
theorem Txt.g_L_word (c : Txt K mg) : mg "_law_word" = some (.ref (He.ga K "_law_word")) := c.glo 41
theorem Txt.g_L_made (c : Txt K mg) : mg "_law_made" = some (.ref (He.ga K "_law_made")) := c.glo 42
theorem Txt.g_L_deed_due (c : Txt K mg) : mg "_law_deed_due" = some (.ref (He.ga K "_law_deed_due")) := c.glo 43
theorem Txt.g_L_exchanged (c : Txt K mg) : mg "_law_exchanged" = some (.ref (He.ga K "_law_exchanged")) := c.glo 44
theorem Txt.g_L_fitting (c : Txt K mg) : mg "_law_fitting" = some (.ref (He.ga K "_law_fitting")) := c.glo 45
theorem Txt.g_L_history (c : Txt K mg) : mg "_law_history" = some (.ref (He.ga K "_law_history")) := c.glo 46
theorem Txt.g_L_replay (c : Txt K mg) : mg "_law_replay" = some (.ref (He.ga K "_law_replay")) := c.glo 47
theorem Txt.g_L_crossings (c : Txt K mg) : mg "_law_crossings" = some (.ref (He.ga K "_law_crossings")) := c.glo 48
theorem Txt.g_L_parts (c : Txt K mg) : mg "_law_parts" = some (.ref (He.ga K "_law_parts")) := c.glo 49
theorem Txt.g_L_no_deed (c : Txt K mg) : mg "_law_no_deed" = some (.ref (He.ga K "_law_no_deed")) := c.glo 50
theorem Txt.g_L_no_history (c : Txt K mg) : mg "_law_no_history" = some (.ref (He.ga K "_law_no_history")) := c.glo 51
theorem Txt.g_L_tokens (c : Txt K mg) : mg "_law_tokens" = some (.ref (He.ga K "_law_tokens")) := c.glo 52
theorem Txt.g_L_words (c : Txt K mg) : mg "_law_words" = some (.ref (He.ga K "_law_words")) := c.glo 53
theorem Txt.g_L_plains (c : Txt K mg) : mg "_law_plains" = some (.ref (He.ga K "_law_plains")) := c.glo 54
theorem Txt.g_L_alike (c : Txt K mg) : mg "_law_alike" = some (.ref (He.ga K "_law_alike")) := c.glo 55
theorem Txt.g_L_strange (c : Txt K mg) : mg "_law_strange" = some (.ref (He.ga K "_law_strange")) := c.glo 56
theorem Txt.g_L_near_deed (c : Txt K mg) : mg "_law_near_deed" = some (.ref (He.ga K "_law_near_deed")) := c.glo 57
theorem Txt.g_L_near_history (c : Txt K mg) : mg "_law_near_history" = some (.ref (He.ga K "_law_near_history")) := c.glo 58
theorem Txt.g_L_error (c : Txt K mg) : mg "_law_error" = some (.ref (He.ga K "_law_error")) := c.glo 59
theorem Txt.g_L_refused (c : Txt K mg) : mg "_law_refused" = some (.ref (He.ga K "_law_refused")) := c.glo 60
theorem Txt.g_L_pair_told (c : Txt K mg) : mg "_law_pair_told" = some (.ref (He.ga K "_law_pair_told")) := c.glo 61
theorem Txt.g_L_holds (c : Txt K mg) : mg "_law_holds" = some (.ref (He.ga K "_law_holds")) := c.glo 62
theorem Txt.g_law (c : Txt K mg) : mg "law" = some (.ref (He.ga K "law")) := c.glo 63
theorem Txt.g_CrossError (c : Txt K mg) : mg "CrossError" = some (.ref (He.ga K "CrossError")) := c.glo 64
theorem Txt.g_BadShape (c : Txt K mg) : mg "BadShape" = some (.ref (He.ga K "BadShape")) := c.glo 65
theorem Txt.g_Repeated (c : Txt K mg) : mg "Repeated" = some (.ref (He.ga K "Repeated")) := c.glo 66
theorem Txt.g_UnknownTown (c : Txt K mg) : mg "UnknownTown" = some (.ref (He.ga K "UnknownTown")) := c.glo 67
theorem Txt.g_UnknownTraveller (c : Txt K mg) : mg "UnknownTraveller" = some (.ref (He.ga K "UnknownTraveller")) := c.glo 68
theorem Txt.g_SameTown (c : Txt K mg) : mg "SameTown" = some (.ref (He.ga K "SameTown")) := c.glo 69
theorem Txt.g_NoWay (c : Txt K mg) : mg "NoWay" = some (.ref (He.ga K "NoWay")) := c.glo 70
theorem Txt.g_UnlikeTowns (c : Txt K mg) : mg "UnlikeTowns" = some (.ref (He.ga K "UnlikeTowns")) := c.glo 71
theorem Txt.g_StepRefused (c : Txt K mg) : mg "StepRefused" = some (.ref (He.ga K "StepRefused")) := c.glo 72
theorem Txt.g_Web (c : Txt K mg) : mg "Web" = some (.ref (He.ga K "Web")) := c.glo 73
theorem Txt.g_World (c : Txt K mg) : mg "World" = some (.ref (He.ga K "World")) := c.glo 74
theorem Txt.ValueError_ (c : Txt K mg) : mg "ValueError" = none := c.free 75
theorem Txt.all_ (c : Txt K mg) : mg "all" = none := c.free 76
theorem Txt.bool_ (c : Txt K mg) : mg "bool" = none := c.free 77
theorem Txt.dict_ (c : Txt K mg) : mg "dict" = none := c.free 78
theorem Txt.enumerate_ (c : Txt K mg) : mg "enumerate" = none := c.free 79
theorem Txt.int_ (c : Txt K mg) : mg "int" = none := c.free 80
theorem Txt.isinstance_ (c : Txt K mg) : mg "isinstance" = none := c.free 81
theorem Txt.iter_ (c : Txt K mg) : mg "iter" = none := c.free 82
theorem Txt.len_ (c : Txt K mg) : mg "len" = none := c.free 83
theorem Txt.list_ (c : Txt K mg) : mg "list" = none := c.free 84
theorem Txt.max_ (c : Txt K mg) : mg "max" = none := c.free 85
theorem Txt.min_ (c : Txt K mg) : mg "min" = none := c.free 86
theorem Txt.range_ (c : Txt K mg) : mg "range" = none := c.free 87
theorem Txt.sorted_ (c : Txt K mg) : mg "sorted" = none := c.free 88
theorem Txt.str_ (c : Txt K mg) : mg "str" = none := c.free 89
theorem Txt.tuple_ (c : Txt K mg) : mg "tuple" = none := c.free 90
theorem Txt.END (c : Txt K mg) : ∃ t, mg "END" = some (.str "-" t) := c.str 91
theorem Txt.LAST_DAY (c : Txt K mg) : ∃ t, mg "LAST_DAY" = some (.int 6 t) := c.int 92
theorem Txt.MOST_TOWNS (c : Txt K mg) : ∃ t, mg "MOST_TOWNS" = some (.int 8 t) := c.int 93
theorem Txt.MOST_TRAVELLERS (c : Txt K mg) : ∃ t, mg "MOST_TRAVELLERS" = some (.int 6 t) := c.int 94
theorem Txt.MOST_DEEDS (c : Txt K mg) : ∃ t, mg "MOST_DEEDS" = some (.int 60 t) := c.int 95
theorem Txt.LONGEST_NAME (c : Txt K mg) : ∃ t, mg "LONGEST_NAME" = some (.int 8 t) := c.int 96
theorem Txt.LETTERS (c : Txt K mg) : ∃ t, mg "LETTERS" = some (.str "abcdefghijklmnopqrstuvwxyz" t) := c.str 97
theorem Txt.LETTERS_AND_DIGITS (c : Txt K mg) : ∃ t, mg "LETTERS_AND_DIGITS" = some (.str "abcdefghijklmnopqrstuvwxyz0123456789" t) := c.str 98
theorem Txt.c_Web (c : Txt K mg) : Cls K (He.ga K "Web") := He.cls_ok (c.says.d.fact 99 rfl)
theorem Txt.c_World (c : Txt K mg) : Cls K (He.ga K "World") := He.cls_ok (c.says.d.fact 100 rfl)
theorem Txt.m_Web (c : Txt K mg) : Mk K (He.ga K "Web") (He.ma K (He.ga K "Web") "__init__") := He.mkr_ok (c.says.d.fact 101 rfl)
theorem Txt.m_World (c : Txt K mg) : Mk K (He.ga K "World") (He.ma K (He.ga K "World") "__init__") := He.mkr_ok (c.says.d.fact 102 rfl)
theorem Txt.me_World_place (c : Txt K mg) : Meth K (He.ga K "World") "place" (He.ma K (He.ga K "World") "place") := He.meth_ok (c.says.d.fact 103 rfl)
theorem Txt.n_Web_own_towns (c : Txt K mg) : NoAttr K (He.ga K "Web") "own_towns" := He.noat_ok (c.says.d.fact 104 rfl)
theorem Txt.n_Web_own_ways (c : Txt K mg) : NoAttr K (He.ga K "Web") "own_ways" := He.noat_ok (c.says.d.fact 105 rfl)
theorem Txt.n_Web_own_near (c : Txt K mg) : NoAttr K (He.ga K "Web") "own_near" := He.noat_ok (c.says.d.fact 106 rfl)
theorem Txt.n_World_own_web (c : Txt K mg) : NoAttr K (He.ga K "World") "own_web" := He.noat_ok (c.says.d.fact 107 rfl)
theorem Txt.n_World_own_names (c : Txt K mg) : NoAttr K (He.ga K "World") "own_names" := He.noat_ok (c.says.d.fact 108 rfl)
theorem Txt.n_World_own_rows (c : Txt K mg) : NoAttr K (He.ga K "World") "own_rows" := He.noat_ok (c.says.d.fact 109 rfl)
theorem Txt.n_World_own_plans (c : Txt K mg) : NoAttr K (He.ga K "World") "own_plans" := He.noat_ok (c.says.d.fact 110 rfl)
theorem Txt.f_is_whole (c : Txt K mg) : Df K mg "is_whole" (defArgs s_is_whole) (defBody s_is_whole) (defScope s_is_whole) := by
  obtain ⟨fd, F⟩ := c.says.d.def_ 0 (d := d_is_whole) rfl
  exact ⟨_, fd, c.glo 0, F⟩
theorem Txt.f_is_tuple_of (c : Txt K mg) : Df K mg "is_tuple_of" (defArgs s_is_tuple_of) (defBody s_is_tuple_of) (defScope s_is_tuple_of) := by
  obtain ⟨fd, F⟩ := c.says.d.def_ 1 (d := d_is_tuple_of) rfl
  exact ⟨_, fd, c.glo 1, F⟩
theorem Txt.f_is_name (c : Txt K mg) : Df K mg "is_name" (defArgs s_is_name) (defBody s_is_name) (defScope s_is_name) := by
  obtain ⟨fd, F⟩ := c.says.d.def_ 2 (d := d_is_name) rfl
  exact ⟨_, fd, c.glo 2, F⟩
theorem Txt.f_is_day (c : Txt K mg) : Df K mg "is_day" (defArgs s_is_day) (defBody s_is_day) (defScope s_is_day) := by
  obtain ⟨fd, F⟩ := c.says.d.def_ 3 (d := d_is_day) rfl
  exact ⟨_, fd, c.glo 3, F⟩
theorem Txt.f_is_plan (c : Txt K mg) : Df K mg "is_plan" (defArgs s_is_plan) (defBody s_is_plan) (defScope s_is_plan) := by
  obtain ⟨fd, F⟩ := c.says.d.def_ 4 (d := d_is_plan) rfl
  exact ⟨_, fd, c.glo 4, F⟩
theorem Txt.f_is_deed (c : Txt K mg) : Df K mg "is_deed" (defArgs s_is_deed) (defBody s_is_deed) (defScope s_is_deed) := by
  obtain ⟨fd, F⟩ := c.says.d.def_ 5 (d := d_is_deed) rfl
  exact ⟨_, fd, c.glo 5, F⟩
theorem Txt.f_is_history (c : Txt K mg) : Df K mg "is_history" (defArgs s_is_history) (defBody s_is_history) (defScope s_is_history) := by
  obtain ⟨fd, F⟩ := c.says.d.def_ 6 (d := d_is_history) rfl
  exact ⟨_, fd, c.glo 6, F⟩
theorem Txt.f_is_name_pair (c : Txt K mg) : Df K mg "is_name_pair" (defArgs s_is_name_pair) (defBody s_is_name_pair) (defScope s_is_name_pair) := by
  obtain ⟨fd, F⟩ := c.says.d.def_ 7 (d := d_is_name_pair) rfl
  exact ⟨_, fd, c.glo 7, F⟩
theorem Txt.f_check_name (c : Txt K mg) : Df K mg "check_name" (defArgs s_check_name) (defBody s_check_name) (defScope s_check_name) := by
  obtain ⟨fd, F⟩ := c.says.d.def_ 8 (d := d_check_name) rfl
  exact ⟨_, fd, c.glo 8, F⟩
theorem Txt.f_check_towns (c : Txt K mg) : Df K mg "check_towns" (defArgs s_check_towns) (defBody s_check_towns) (defScope s_check_towns) := by
  obtain ⟨fd, F⟩ := c.says.d.def_ 9 (d := d_check_towns) rfl
  exact ⟨_, fd, c.glo 9, F⟩
theorem Txt.f_check_ways (c : Txt K mg) : Df K mg "check_ways" (defArgs s_check_ways) (defBody s_check_ways) (defScope s_check_ways) := by
  obtain ⟨fd, F⟩ := c.says.d.def_ 10 (d := d_check_ways) rfl
  exact ⟨_, fd, c.glo 10, F⟩
theorem Txt.f_check_unlike (c : Txt K mg) : Df K mg "check_unlike" (defArgs s_check_unlike) (defBody s_check_unlike) (defScope s_check_unlike) := by
  obtain ⟨fd, F⟩ := c.says.d.def_ 11 (d := d_check_unlike) rfl
  exact ⟨_, fd, c.glo 11, F⟩
theorem Txt.f_ordered_pair (c : Txt K mg) : Df K mg "ordered_pair" (defArgs s_ordered_pair) (defBody s_ordered_pair) (defScope s_ordered_pair) := by
  obtain ⟨fd, F⟩ := c.says.d.def_ 12 (d := d_ordered_pair) rfl
  exact ⟨_, fd, c.glo 12, F⟩
theorem Txt.f_checked_way (c : Txt K mg) : Df K mg "checked_way" (defArgs s_checked_way) (defBody s_checked_way) (defScope s_checked_way) := by
  obtain ⟨fd, F⟩ := c.says.d.def_ 13 (d := d_checked_way) rfl
  exact ⟨_, fd, c.glo 13, F⟩
theorem Txt.f_near_towns (c : Txt K mg) : Df K mg "near_towns" (defArgs s_near_towns) (defBody s_near_towns) (defScope s_near_towns) := by
  obtain ⟨fd, F⟩ := c.says.d.def_ 14 (d := d_near_towns) rfl
  exact ⟨_, fd, c.glo 14, F⟩
theorem Txt.f_check_plans (c : Txt K mg) : Df K mg "check_plans" (defArgs s_check_plans) (defBody s_check_plans) (defScope s_check_plans) := by
  obtain ⟨fd, F⟩ := c.says.d.def_ 15 (d := d_check_plans) rfl
  exact ⟨_, fd, c.glo 15, F⟩
theorem Txt.f_check_steps (c : Txt K mg) : Df K mg "check_steps" (defArgs s_check_steps) (defBody s_check_steps) (defScope s_check_steps) := by
  obtain ⟨fd, F⟩ := c.says.d.def_ 16 (d := d_check_steps) rfl
  exact ⟨_, fd, c.glo 16, F⟩
theorem Txt.f_known_plan (c : Txt K mg) : Df K mg "known_plan" (defArgs s_known_plan) (defBody s_known_plan) (defScope s_known_plan) := by
  obtain ⟨fd, F⟩ := c.says.d.def_ 17 (d := d_known_plan) rfl
  exact ⟨_, fd, c.glo 17, F⟩
theorem Txt.f_reason_of (c : Txt K mg) : Df K mg "reason_of" (defArgs s_reason_of) (defBody s_reason_of) (defScope s_reason_of) := by
  obtain ⟨fd, F⟩ := c.says.d.def_ 18 (d := d_reason_of) rfl
  exact ⟨_, fd, c.glo 18, F⟩
theorem Txt.f_plans_after (c : Txt K mg) : Df K mg "plans_after" (defArgs s_plans_after) (defBody s_plans_after) (defScope s_plans_after) := by
  obtain ⟨fd, F⟩ := c.says.d.def_ 19 (d := d_plans_after) rfl
  exact ⟨_, fd, c.glo 19, F⟩
theorem Txt.f_refusal (c : Txt K mg) : Df K mg "refusal" (defArgs s_refusal) (defBody s_refusal) (defScope s_refusal) := by
  obtain ⟨fd, F⟩ := c.says.d.def_ 20 (d := d_refusal) rfl
  exact ⟨_, fd, c.glo 20, F⟩
theorem Txt.f_plans_along (c : Txt K mg) : Df K mg "plans_along" (defArgs s_plans_along) (defBody s_plans_along) (defScope s_plans_along) := by
  obtain ⟨fd, F⟩ := c.says.d.def_ 21 (d := d_plans_along) rfl
  exact ⟨_, fd, c.glo 21, F⟩
theorem Txt.f_replay (c : Txt K mg) : Df K mg "replay" (defArgs s_replay) (defBody s_replay) (defScope s_replay) := by
  obtain ⟨fd, F⟩ := c.says.d.def_ 22 (d := d_replay) rfl
  exact ⟨_, fd, c.glo 22, F⟩
theorem Txt.f_first_tokens (c : Txt K mg) : Df K mg "first_tokens" (defArgs s_first_tokens) (defBody s_first_tokens) (defScope s_first_tokens) := by
  obtain ⟨fd, F⟩ := c.says.d.def_ 23 (d := d_first_tokens) rfl
  exact ⟨_, fd, c.glo 23, F⟩
theorem Txt.f_arrival (c : Txt K mg) : Df K mg "arrival" (defArgs s_arrival) (defBody s_arrival) (defScope s_arrival) := by
  obtain ⟨fd, F⟩ := c.says.d.def_ 24 (d := d_arrival) rfl
  exact ⟨_, fd, c.glo 24, F⟩
theorem Txt.f_arriver (c : Txt K mg) : Df K mg "arriver" (defArgs s_arriver) (defBody s_arriver) (defScope s_arriver) := by
  obtain ⟨fd, F⟩ := c.says.d.def_ 25 (d := d_arriver) rfl
  exact ⟨_, fd, c.glo 25, F⟩
theorem Txt.f_swap_tokens (c : Txt K mg) : Df K mg "swap_tokens" (defArgs s_swap_tokens) (defBody s_swap_tokens) (defScope s_swap_tokens) := by
  obtain ⟨fd, F⟩ := c.says.d.def_ 26 (d := d_swap_tokens) rfl
  exact ⟨_, fd, c.glo 26, F⟩
theorem Txt.f_thread_crossing (c : Txt K mg) : Df K mg "thread_crossing" (defArgs s_thread_crossing) (defBody s_thread_crossing) (defScope s_thread_crossing) := by
  obtain ⟨fd, F⟩ := c.says.d.def_ 27 (d := d_thread_crossing) rfl
  exact ⟨_, fd, c.glo 27, F⟩
theorem Txt.f_check_threads (c : Txt K mg) : Df K mg "check_threads" (defArgs s_check_threads) (defBody s_check_threads) (defScope s_check_threads) := by
  obtain ⟨fd, F⟩ := c.says.d.def_ 28 (d := d_check_threads) rfl
  exact ⟨_, fd, c.glo 28, F⟩
theorem Txt.f_threads_of (c : Txt K mg) : Df K mg "threads_of" (defArgs s_threads_of) (defBody s_threads_of) (defScope s_threads_of) := by
  obtain ⟨fd, F⟩ := c.says.d.def_ 29 (d := d_threads_of) rfl
  exact ⟨_, fd, c.glo 29, F⟩
theorem Txt.f_history_of (c : Txt K mg) : Df K mg "history_of" (defArgs s_history_of) (defBody s_history_of) (defScope s_history_of) := by
  obtain ⟨fd, F⟩ := c.says.d.def_ 30 (d := d_history_of) rfl
  exact ⟨_, fd, c.glo 30, F⟩
theorem Txt.f_parts_of (c : Txt K mg) : Df K mg "parts_of" (defArgs s_parts_of) (defBody s_parts_of) (defScope s_parts_of) := by
  obtain ⟨fd, F⟩ := c.says.d.def_ 31 (d := d_parts_of) rfl
  exact ⟨_, fd, c.glo 31, F⟩
theorem Txt.f_split_history (c : Txt K mg) : Df K mg "split_history" (defArgs s_split_history) (defBody s_split_history) (defScope s_split_history) := by
  obtain ⟨fd, F⟩ := c.says.d.def_ 32 (d := d_split_history) rfl
  exact ⟨_, fd, c.glo 32, F⟩
theorem Txt.f_late_first (c : Txt K mg) : Df K mg "late_first" (defArgs s_late_first) (defBody s_late_first) (defScope s_late_first) := by
  obtain ⟨fd, F⟩ := c.says.d.def_ 33 (d := d_late_first) rfl
  exact ⟨_, fd, c.glo 33, F⟩
theorem Txt.f_normal_form (c : Txt K mg) : Df K mg "normal_form" (defArgs s_normal_form) (defBody s_normal_form) (defScope s_normal_form) := by
  obtain ⟨fd, F⟩ := c.says.d.def_ 34 (d := d_normal_form) rfl
  exact ⟨_, fd, c.glo 34, F⟩
theorem Txt.f_histories_alike (c : Txt K mg) : Df K mg "histories_alike" (defArgs s_histories_alike) (defBody s_histories_alike) (defScope s_histories_alike) := by
  obtain ⟨fd, F⟩ := c.says.d.def_ 35 (d := d_histories_alike) rfl
  exact ⟨_, fd, c.glo 35, F⟩
theorem Txt.f_L_mixed (c : Txt K mg) : Df K mg "_law_mixed" (defArgs s_L_mixed) (defBody s_L_mixed) (defScope s_L_mixed) := by
  obtain ⟨fd, F⟩ := c.says.d.def_ 36 (d := d_L_mixed) rfl
  exact ⟨_, fd, c.glo 36, F⟩
theorem Txt.f_L_store (c : Txt K mg) : Df K mg "_law_store" (defArgs s_L_store) (defBody s_L_store) (defScope s_L_store) := by
  obtain ⟨fd, F⟩ := c.says.d.def_ 37 (d := d_L_store) rfl
  exact ⟨_, fd, c.glo 37, F⟩
theorem Txt.f_L_take (c : Txt K mg) : Df K mg "_law_take" (defArgs s_L_take) (defBody s_L_take) (defScope s_L_take) := by
  obtain ⟨fd, F⟩ := c.says.d.def_ 38 (d := d_L_take) rfl
  exact ⟨_, fd, c.glo 38, F⟩
theorem Txt.f_L_pick (c : Txt K mg) : Df K mg "_law_pick" (defArgs s_L_pick) (defBody s_L_pick) (defScope s_L_pick) := by
  obtain ⟨fd, F⟩ := c.says.d.def_ 39 (d := d_L_pick) rfl
  exact ⟨_, fd, c.glo 39, F⟩
theorem Txt.f_L_some (c : Txt K mg) : Df K mg "_law_some" (defArgs s_L_some) (defBody s_L_some) (defScope s_L_some) := by
  obtain ⟨fd, F⟩ := c.says.d.def_ 40 (d := d_L_some) rfl
  exact ⟨_, fd, c.glo 40, F⟩
theorem Txt.f_L_word (c : Txt K mg) : Df K mg "_law_word" (defArgs s_L_word) (defBody s_L_word) (defScope s_L_word) := by
  obtain ⟨fd, F⟩ := c.says.d.def_ 41 (d := d_L_word) rfl
  exact ⟨_, fd, c.glo 41, F⟩
theorem Txt.f_L_made (c : Txt K mg) : Df K mg "_law_made" (defArgs s_L_made) (defBody s_L_made) (defScope s_L_made) := by
  obtain ⟨fd, F⟩ := c.says.d.def_ 42 (d := d_L_made) rfl
  exact ⟨_, fd, c.glo 42, F⟩
theorem Txt.f_L_deed_due (c : Txt K mg) : Df K mg "_law_deed_due" (defArgs s_L_deed_due) (defBody s_L_deed_due) (defScope s_L_deed_due) := by
  obtain ⟨fd, F⟩ := c.says.d.def_ 43 (d := d_L_deed_due) rfl
  exact ⟨_, fd, c.glo 43, F⟩
theorem Txt.f_L_exchanged (c : Txt K mg) : Df K mg "_law_exchanged" (defArgs s_L_exchanged) (defBody s_L_exchanged) (defScope s_L_exchanged) := by
  obtain ⟨fd, F⟩ := c.says.d.def_ 44 (d := d_L_exchanged) rfl
  exact ⟨_, fd, c.glo 44, F⟩
theorem Txt.f_L_fitting (c : Txt K mg) : Df K mg "_law_fitting" (defArgs s_L_fitting) (defBody s_L_fitting) (defScope s_L_fitting) := by
  obtain ⟨fd, F⟩ := c.says.d.def_ 45 (d := d_L_fitting) rfl
  exact ⟨_, fd, c.glo 45, F⟩
theorem Txt.f_L_history (c : Txt K mg) : Df K mg "_law_history" (defArgs s_L_history) (defBody s_L_history) (defScope s_L_history) := by
  obtain ⟨fd, F⟩ := c.says.d.def_ 46 (d := d_L_history) rfl
  exact ⟨_, fd, c.glo 46, F⟩
theorem Txt.f_L_replay (c : Txt K mg) : Df K mg "_law_replay" (defArgs s_L_replay) (defBody s_L_replay) (defScope s_L_replay) := by
  obtain ⟨fd, F⟩ := c.says.d.def_ 47 (d := d_L_replay) rfl
  exact ⟨_, fd, c.glo 47, F⟩
theorem Txt.f_L_crossings (c : Txt K mg) : Df K mg "_law_crossings" (defArgs s_L_crossings) (defBody s_L_crossings) (defScope s_L_crossings) := by
  obtain ⟨fd, F⟩ := c.says.d.def_ 48 (d := d_L_crossings) rfl
  exact ⟨_, fd, c.glo 48, F⟩
theorem Txt.f_L_parts (c : Txt K mg) : Df K mg "_law_parts" (defArgs s_L_parts) (defBody s_L_parts) (defScope s_L_parts) := by
  obtain ⟨fd, F⟩ := c.says.d.def_ 49 (d := d_L_parts) rfl
  exact ⟨_, fd, c.glo 49, F⟩
theorem Txt.f_L_no_deed (c : Txt K mg) : Df K mg "_law_no_deed" (defArgs s_L_no_deed) (defBody s_L_no_deed) (defScope s_L_no_deed) := by
  obtain ⟨fd, F⟩ := c.says.d.def_ 50 (d := d_L_no_deed) rfl
  exact ⟨_, fd, c.glo 50, F⟩
theorem Txt.f_L_no_history (c : Txt K mg) : Df K mg "_law_no_history" (defArgs s_L_no_history) (defBody s_L_no_history) (defScope s_L_no_history) := by
  obtain ⟨fd, F⟩ := c.says.d.def_ 51 (d := d_L_no_history) rfl
  exact ⟨_, fd, c.glo 51, F⟩
theorem Txt.f_L_tokens (c : Txt K mg) : Df K mg "_law_tokens" (defArgs s_L_tokens) (defBody s_L_tokens) (defScope s_L_tokens) := by
  obtain ⟨fd, F⟩ := c.says.d.def_ 52 (d := d_L_tokens) rfl
  exact ⟨_, fd, c.glo 52, F⟩
theorem Txt.f_L_words (c : Txt K mg) : Df K mg "_law_words" (defArgs s_L_words) (defBody s_L_words) (defScope s_L_words) := by
  obtain ⟨fd, F⟩ := c.says.d.def_ 53 (d := d_L_words) rfl
  exact ⟨_, fd, c.glo 53, F⟩
theorem Txt.f_L_plains (c : Txt K mg) : Df K mg "_law_plains" (defArgs s_L_plains) (defBody s_L_plains) (defScope s_L_plains) := by
  obtain ⟨fd, F⟩ := c.says.d.def_ 54 (d := d_L_plains) rfl
  exact ⟨_, fd, c.glo 54, F⟩
theorem Txt.f_L_alike (c : Txt K mg) : Df K mg "_law_alike" (defArgs s_L_alike) (defBody s_L_alike) (defScope s_L_alike) := by
  obtain ⟨fd, F⟩ := c.says.d.def_ 55 (d := d_L_alike) rfl
  exact ⟨_, fd, c.glo 55, F⟩
theorem Txt.f_L_strange (c : Txt K mg) : Df K mg "_law_strange" (defArgs s_L_strange) (defBody s_L_strange) (defScope s_L_strange) := by
  obtain ⟨fd, F⟩ := c.says.d.def_ 56 (d := d_L_strange) rfl
  exact ⟨_, fd, c.glo 56, F⟩
theorem Txt.f_L_near_deed (c : Txt K mg) : Df K mg "_law_near_deed" (defArgs s_L_near_deed) (defBody s_L_near_deed) (defScope s_L_near_deed) := by
  obtain ⟨fd, F⟩ := c.says.d.def_ 57 (d := d_L_near_deed) rfl
  exact ⟨_, fd, c.glo 57, F⟩
theorem Txt.f_L_near_history (c : Txt K mg) : Df K mg "_law_near_history" (defArgs s_L_near_history) (defBody s_L_near_history) (defScope s_L_near_history) := by
  obtain ⟨fd, F⟩ := c.says.d.def_ 58 (d := d_L_near_history) rfl
  exact ⟨_, fd, c.glo 58, F⟩
theorem Txt.f_L_error (c : Txt K mg) : Df K mg "_law_error" (defArgs s_L_error) (defBody s_L_error) (defScope s_L_error) := by
  obtain ⟨fd, F⟩ := c.says.d.def_ 59 (d := d_L_error) rfl
  exact ⟨_, fd, c.glo 59, F⟩
theorem Txt.f_L_refused (c : Txt K mg) : Df K mg "_law_refused" (defArgs s_L_refused) (defBody s_L_refused) (defScope s_L_refused) := by
  obtain ⟨fd, F⟩ := c.says.d.def_ 60 (d := d_L_refused) rfl
  exact ⟨_, fd, c.glo 60, F⟩
theorem Txt.f_L_pair_told (c : Txt K mg) : Df K mg "_law_pair_told" (defArgs s_L_pair_told) (defBody s_L_pair_told) (defScope s_L_pair_told) := by
  obtain ⟨fd, F⟩ := c.says.d.def_ 61 (d := d_L_pair_told) rfl
  exact ⟨_, fd, c.glo 61, F⟩
theorem Txt.f_L_holds (c : Txt K mg) : Df K mg "_law_holds" (defArgs s_L_holds) (defBody s_L_holds) (defScope s_L_holds) := by
  obtain ⟨fd, F⟩ := c.says.d.def_ 62 (d := d_L_holds) rfl
  exact ⟨_, fd, c.glo 62, F⟩
theorem Txt.f_law (c : Txt K mg) : Df K mg "law" (defArgs s_law) (defBody s_law) (defScope s_law) := by
  obtain ⟨fd, F⟩ := c.says.d.def_ 63 (d := d_law) rfl
  exact ⟨_, fd, c.glo 63, F⟩
theorem Txt.f_BadShape_init (c : Txt K mg) : ∃ fd, FunD K "__init__" "BadShape.__init__" (defArgs s_BadShape_init) (defBody s_BadShape_init) (defScope s_BadShape_init) (d_BadShape_init.dvs K) [] (He.ma K (He.ga K "BadShape") "__init__") fd := c.says.d.def_ 64 (d := d_BadShape_init) rfl
theorem Txt.f_StepRefused_init (c : Txt K mg) : ∃ fd, FunD K "__init__" "StepRefused.__init__" (defArgs s_StepRefused_init) (defBody s_StepRefused_init) (defScope s_StepRefused_init) (d_StepRefused_init.dvs K) [] (He.ma K (He.ga K "StepRefused") "__init__") fd := c.says.d.def_ 65 (d := d_StepRefused_init) rfl
theorem Txt.f_Web_init (c : Txt K mg) : ∃ fd, FunD K "__init__" "Web.__init__" (defArgs s_Web_init) (defBody s_Web_init) (defScope s_Web_init) (d_Web_init.dvs K) [] (He.ma K (He.ga K "Web") "__init__") fd := c.says.d.def_ 66 (d := d_Web_init) rfl
theorem Txt.f_Web_eq (c : Txt K mg) : ∃ fd, FunD K "__eq__" "Web.__eq__" (defArgs s_Web_eq) (defBody s_Web_eq) (defScope s_Web_eq) (d_Web_eq.dvs K) [] (He.ma K (He.ga K "Web") "__eq__") fd := c.says.d.def_ 67 (d := d_Web_eq) rfl
theorem Txt.f_World_init (c : Txt K mg) : ∃ fd, FunD K "__init__" "World.__init__" (defArgs s_World_init) (defBody s_World_init) (defScope s_World_init) (d_World_init.dvs K) [] (He.ma K (He.ga K "World") "__init__") fd := c.says.d.def_ 68 (d := d_World_init) rfl
theorem Txt.f_World_place (c : Txt K mg) : ∃ fd, FunD K "place" "World.place" (defArgs s_World_place) (defBody s_World_place) (defScope s_World_place) (d_World_place.dvs K) [] (He.ma K (He.ga K "World") "place") fd := c.says.d.def_ 69 (d := d_World_place) rfl
theorem Txt.f_World_eq (c : Txt K mg) : ∃ fd, FunD K "__eq__" "World.__eq__" (defArgs s_World_eq) (defBody s_World_eq) (defScope s_World_eq) (d_World_eq.dvs K) [] (He.ma K (He.ga K "World") "__eq__") fd := c.says.d.def_ 70 (d := d_World_eq) rfl
end
end K37
end
section
set_option maxRecDepth 100000
set_option maxHeartbeats 4000000
/-! K37Ex: the further facts that the head tells: properties, errors' classes, instances. -/
namespace K37
open PySem PySem.Spec PyProof.Rows L2
section
variable {K : PySem.W.Frag} {mg : Str → Option Value}
theorem none_of {v : Value} (h : (match v with
    | .none => true
    | _ => false) = true) : v = .none := by
  cases v <;> first | rfl | cases h
theorem pr_ok {C : Addr} {f q : Str} {d : He.DefD} (hd : d.dfl = []) (hk : d.kwd = []) (hq : d.qual = q) (h : prOk K C f q = true) (e : fnAt K (geAd K C f) = d.val) :
    PropOf K C f (prAd K C f) (geAd K C f) ∧ ∃ fd, FunD K d.name d.qual d.params d.body d.scope [] [] (geAd K C f) fd := by
  unfold prOk at h
  obtain ⟨h1, h⟩ := Bool.and_eq_true_iff.mp h
  obtain ⟨h2, h⟩ := Bool.and_eq_true_iff.mp h
  obtain ⟨h3, h⟩ := Bool.and_eq_true_iff.mp h
  obtain ⟨h4, h⟩ := Bool.and_eq_true_iff.mp h
  obtain ⟨h5, h6⟩ := Bool.and_eq_true_iff.mp h
  refine ⟨⟨of_decide_eq_true h1, of_decide_eq_true h2, of_decide_eq_true h3, ?_⟩, ?_⟩
  · split at h4
    · rename_i g rest hr
      rw [of_decide_eq_true h4] at hr
      exact ⟨rest, hr⟩
    · cases h4
  · unfold fnAt at e
    split at h6
    · rename_i oc od fd osl hl
      rw [hl] at e
      obtain ⟨h7, h8⟩ := Bool.and_eq_true_iff.mp h6
      obtain ⟨n1, n2, n3, n4, n5, n6, n7, n8, n9, n10, n11, n12, n13, n14, n15⟩ := fd
      have e2 : (some (n1, n2, n3, n4, n5, n6, n7, n15) : He.FnW) = some (d.name, d.qual, d.params, .stmts d.body, d.scope, mainGlobals, [], builtinsNs) := e
      simp only [Option.some.injEq, Prod.mk.injEq] at e2
      obtain ⟨b1, b2, b3, b4, b5, b6, b7, b8⟩ := e2
      have n8e : n8 = .none := none_of h8
      subst b1 b2 b3 b4 b5 b6 b7 b8 n8e
      exact ⟨_, ⟨oc, od, .none, n9, n10, n11, n12, n13, n14, osl, rfl, hl, by rw [hq]; exact h7, .inl ⟨rfl, rfl⟩, .inl rfl⟩, h5⟩
    · cases h6
theorem exs (c : SaysK K) : prOk K (He.ga K "World") "web" "World.web" = true ∧ prOk K (He.ga K "World") "plans" "World.plans" = true ∧ prOk K (He.ga K "World") "rows" "World.rows" = true ∧
    erOk K (He.ga K "BadShape") = true ∧ erOk K (He.ga K "StepRefused") = true ∧ inOk K (He.ga K "Web") = true ∧ inOk K (He.ga K "World") = true ∧
    noOk K "BadShape" "parameter" = true ∧ noOk K "StepRefused" "at" = true ∧ noOk K "StepRefused" "reason" = true ∧
    kiOk K "BadShape" "BadShape" true = true ∧ kiOk K "BadShape" "StepRefused" false = true ∧ kiOk K "BadShape" "UnlikeTowns" false = true ∧
    kiOk K "StepRefused" "BadShape" false = true ∧ kiOk K "StepRefused" "StepRefused" true = true ∧ kiOk K "StepRefused" "UnlikeTowns" false = true ∧
    PySem.W.kitOne K (.ref (He.ga K "BadShape")) (.type "ValueError") = some true ∧ PySem.W.kitOne K (.ref (He.ga K "StepRefused")) (.type "ValueError") = some true ∧
    PySem.W.exmOne K (.ref (He.ga K "BadShape")) (.ref (He.ga K "CrossError")) = some true ∧ PySem.W.exmOne K (.ref (He.ga K "StepRefused")) (.ref (He.ga K "CrossError")) = some true ∧
    PySem.W.specialIn K (.builtin "object.__class__") "__get__" = some (some (.builtin "getset_descriptor.__get__")) ∧ PySem.W.takesIn K (.builtin "object.__class__") = some true := by
  have h := c.e
  unfold ex at h
  obtain ⟨h1, h⟩ := Bool.and_eq_true_iff.mp h
  obtain ⟨h2, h⟩ := Bool.and_eq_true_iff.mp h
  obtain ⟨h3, h⟩ := Bool.and_eq_true_iff.mp h
  obtain ⟨h4, h⟩ := Bool.and_eq_true_iff.mp h
  obtain ⟨h5, h⟩ := Bool.and_eq_true_iff.mp h
  obtain ⟨h6, h⟩ := Bool.and_eq_true_iff.mp h
  obtain ⟨h7, h⟩ := Bool.and_eq_true_iff.mp h
  obtain ⟨h8, h⟩ := Bool.and_eq_true_iff.mp h
  obtain ⟨h9, h⟩ := Bool.and_eq_true_iff.mp h
  obtain ⟨h10, h⟩ := Bool.and_eq_true_iff.mp h
  obtain ⟨h11, h⟩ := Bool.and_eq_true_iff.mp h
  obtain ⟨h12, h⟩ := Bool.and_eq_true_iff.mp h
  obtain ⟨h13, h⟩ := Bool.and_eq_true_iff.mp h
  obtain ⟨h14, h⟩ := Bool.and_eq_true_iff.mp h
  obtain ⟨h15, h⟩ := Bool.and_eq_true_iff.mp h
  obtain ⟨h16, h⟩ := Bool.and_eq_true_iff.mp h
  obtain ⟨h17, h⟩ := Bool.and_eq_true_iff.mp h
  obtain ⟨h18, h⟩ := Bool.and_eq_true_iff.mp h
  obtain ⟨h19, h⟩ := Bool.and_eq_true_iff.mp h
  obtain ⟨h20, h⟩ := Bool.and_eq_true_iff.mp h
  obtain ⟨h21, h22⟩ := Bool.and_eq_true_iff.mp h
  exact ⟨h1, h2, h3, h4, h5, h6, h7, h8, h9, h10, h11, h12, h13, h14, h15, h16, of_decide_eq_true h17, of_decide_eq_true h18, of_decide_eq_true h19, of_decide_eq_true h20, of_decide_eq_true h21, of_decide_eq_true h22⟩
/-- a getter of World's -/
theorem get_at (c : SaysK K) (i : Nat) {q : Str × He.DefD} (h : gets[i]? = some q) : fnAt K (geAd K (He.ga K "World") q.1) = q.2.val := by
  have e := congrArg (fun l : List He.FnW => l[i]?) c.g
  simp only [List.getElem?_map, h] at e
  exact Option.some.inj e
theorem Txt.p_web (c : Txt K mg) : PropOf K (He.ga K "World") "web" (prAd K (He.ga K "World") "web") (geAd K (He.ga K "World") "web") ∧ ∃ fd, FunD K "web" "World.web" (defArgs s_World_web) (defBody s_World_web) (defScope s_World_web) [] [] (geAd K (He.ga K "World") "web") fd :=
  pr_ok (d := (gets.getD 0 ("", d_law)).2) rfl rfl rfl (exs c.says).1 (get_at c.says 0 rfl)
theorem Txt.p_plans (c : Txt K mg) : PropOf K (He.ga K "World") "plans" (prAd K (He.ga K "World") "plans") (geAd K (He.ga K "World") "plans") ∧ ∃ fd, FunD K "plans" "World.plans" (defArgs s_World_plans) (defBody s_World_plans) (defScope s_World_plans) [] [] (geAd K (He.ga K "World") "plans") fd :=
  pr_ok (d := (gets.getD 1 ("", d_law)).2) rfl rfl rfl (exs c.says).2.1 (get_at c.says 1 rfl)
theorem Txt.p_rows (c : Txt K mg) : PropOf K (He.ga K "World") "rows" (prAd K (He.ga K "World") "rows") (geAd K (He.ga K "World") "rows") ∧ ∃ fd, FunD K "rows" "World.rows" (defArgs s_World_rows) (defBody s_World_rows) (defScope s_World_rows) [] [] (geAd K (He.ga K "World") "rows") fd :=
  pr_ok (d := (gets.getD 2 ("", d_law)).2) rfl rfl rfl (exs c.says).2.2.1 (get_at c.says 2 rfl)
structure ErF (K : PySem.W.Frag) (C : Addr) : Prop where
  ox : OexC K C
  xf : XfC K C
  ec : ExcC K C
  ini : PySem.W.findIn K (.ref C) "__init__" = some (some (.ref (He.ma K C "__init__")))
  tyi : PySem.W.typeIn K (.ref (He.ma K C "__init__")) = some (.type "function")
  crs : PySem.W.exmOne K (.ref C) (.ref (He.ga K "CrossError")) = some true
  ve : PySem.W.kitOne K (.ref C) (.type "ValueError") = some true
theorem er_f {C : Addr} (h : erOk K C = true) (hc : PySem.W.exmOne K (.ref C) (.ref (He.ga K "CrossError")) = some true) (hv : PySem.W.kitOne K (.ref C) (.type "ValueError") = some true)
    (h1 : PySem.W.specialIn K (.builtin "object.__class__") "__get__" = some (some (.builtin "getset_descriptor.__get__"))) (h2 : PySem.W.takesIn K (.builtin "object.__class__") = some true) : ErF K C := by
  obtain ⟨ox, xf, a, b, i, t⟩ := er_ok h
  exact ⟨ox, xf, ⟨xf.ga, xf.gg, xf.exC, xf.hdC, a, h1, h2, b⟩, i, t, hc, hv⟩
theorem Txt.er_bad (c : Txt K mg) : ErF K (He.ga K "BadShape") := by
  obtain ⟨_, _, _, h4, _, _, _, _, _, _, _, _, _, _, _, _, h17, _, h19, _, h21, h22⟩ := exs c.says
  exact er_f h4 h19 h17 h21 h22
theorem Txt.er_step (c : Txt K mg) : ErF K (He.ga K "StepRefused") := by
  obtain ⟨_, _, _, _, h5, _, _, _, _, _, _, _, _, _, _, _, _, h18, _, h20, h21, h22⟩ := exs c.says
  exact er_f h5 h20 h18 h21 h22
theorem ki_of {x y : Str} {b : Bool} (h : kiOk K x y b = true) : PySem.W.kitOne K (.ref (He.ga K x)) (.ref (He.ga K y)) = some b := of_decide_eq_true h
theorem no_of {x f : Str} (h : noOk K x f = true) : PySem.W.findIn K (.ref (He.ga K x)) f = some none := of_decide_eq_true h
structure InF (K : PySem.W.Frag) (C : Addr) : Prop where
  cl : PySem.W.findIn K (.ref C) "__class__" = some (some (.builtin "object.__class__"))
  mr : PySem.W.mroIn K C (.type "object") = some true
  eq : PySem.W.findIn K (.ref C) "__eq__" = some (some (.ref (He.ma K C "__eq__")))
  fn : PySem.W.isFn K (.ref (He.ma K C "__eq__")) = true
  self : PySem.W.kitOne K (.ref C) (.ref C) = some true
  lst : PySem.W.kitOne K (.ref C) (.type "list") = some false
  tup : PySem.W.kitOne K (.ref C) (.type "tuple") = some false
  bol : PySem.W.kitOne K (.ref C) (.type "bool") = some false
  int : PySem.W.kitOne K (.ref C) (.type "int") = some false
  str : PySem.W.kitOne K (.ref C) (.type "str") = some false
theorem in_f {C : Addr} (h : inOk K C = true) : InF K C := by
  unfold inOk at h
  obtain ⟨h1, h⟩ := Bool.and_eq_true_iff.mp h
  obtain ⟨h2, h⟩ := Bool.and_eq_true_iff.mp h
  obtain ⟨h3, h⟩ := Bool.and_eq_true_iff.mp h
  obtain ⟨h4, h⟩ := Bool.and_eq_true_iff.mp h
  obtain ⟨h5, h⟩ := Bool.and_eq_true_iff.mp h
  obtain ⟨h6, h⟩ := Bool.and_eq_true_iff.mp h
  obtain ⟨h7, h⟩ := Bool.and_eq_true_iff.mp h
  obtain ⟨h8, h⟩ := Bool.and_eq_true_iff.mp h
  obtain ⟨h9, h10⟩ := Bool.and_eq_true_iff.mp h
  exact ⟨of_decide_eq_true h1, of_decide_eq_true h2, of_decide_eq_true h3, h4, of_decide_eq_true h5, of_decide_eq_true h6, of_decide_eq_true h7, of_decide_eq_true h8, of_decide_eq_true h9, of_decide_eq_true h10⟩
theorem Txt.in_Web (c : Txt K mg) : InF K (He.ga K "Web") := in_f (exs c.says).2.2.2.2.2.1
theorem Txt.in_World (c : Txt K mg) : InF K (He.ga K "World") := in_f (exs c.says).2.2.2.2.2.2.1
end
end K37
end
section
set_option maxRecDepth 100000
set_option maxHeartbeats 4000000
/-! K37Sc: each def's names (slots), scope, binding. -/
namespace K37
open PySem PySem.Spec PyProof.Rows L2
open Z
/-- 0 self 1 parameter -/
abbrev N_BadShape_init : List Str := ["self", "parameter"]
theorem nd_BadShape_init : N_BadShape_init.Nodup := by decide +kernel
theorem sc_BadShape_init : FnScope N_BadShape_init ["self", "parameter"] (defScope s_BadShape_init) := ⟨rfl, rfl, rfl, nd_BadShape_init, rfl, by decide +kernel, by decide +kernel⟩
theorem bd_BadShape_init : Bd "__init__" "BadShape.__init__" (defArgs s_BadShape_init) (defBody s_BadShape_init) (defScope s_BadShape_init) ["self", "parameter"] := fun _ _ _ _ _ _ us hl => match us, hl with | [_, _], _ => rfl
/-- 0 self 1 at 2 reason -/
abbrev N_StepRefused_init : List Str := ["self", "at", "reason"]
theorem nd_StepRefused_init : N_StepRefused_init.Nodup := by decide +kernel
theorem sc_StepRefused_init : FnScope N_StepRefused_init ["self", "at", "reason"] (defScope s_StepRefused_init) := ⟨rfl, rfl, rfl, nd_StepRefused_init, rfl, by decide +kernel, by decide +kernel⟩
theorem bd_StepRefused_init : Bd "__init__" "StepRefused.__init__" (defArgs s_StepRefused_init) (defBody s_StepRefused_init) (defScope s_StepRefused_init) ["self", "at", "reason"] := fun _ _ _ _ _ _ us hl => match us, hl with | [_, _, _], _ => rfl
/-- 0 value -/
abbrev N_is_whole : List Str := ["value"]
theorem nd_is_whole : N_is_whole.Nodup := by decide +kernel
theorem sc_is_whole : FnScope N_is_whole ["value"] (defScope s_is_whole) := ⟨rfl, rfl, rfl, nd_is_whole, rfl, by decide +kernel, by decide +kernel⟩
theorem bd_is_whole : Bd "is_whole" "is_whole" (defArgs s_is_whole) (defBody s_is_whole) (defScope s_is_whole) ["value"] := fun _ _ _ _ _ _ us hl => match us, hl with | [_], _ => rfl
/-- 0 value 1 parts -/
abbrev N_is_tuple_of : List Str := ["value", "parts"]
theorem nd_is_tuple_of : N_is_tuple_of.Nodup := by decide +kernel
theorem sc_is_tuple_of : FnScope N_is_tuple_of ["value", "parts"] (defScope s_is_tuple_of) := ⟨rfl, rfl, rfl, nd_is_tuple_of, rfl, by decide +kernel, by decide +kernel⟩
theorem bd_is_tuple_of : Bd "is_tuple_of" "is_tuple_of" (defArgs s_is_tuple_of) (defBody s_is_tuple_of) (defScope s_is_tuple_of) ["value", "parts"] := fun _ _ _ _ _ _ us hl => match us, hl with | [_, _], _ => rfl
/-- 0 value 1 sign -/
abbrev N_is_name : List Str := ["value", "sign"]
theorem nd_is_name : N_is_name.Nodup := by decide +kernel
theorem sc_is_name : FnScope N_is_name ["value"] (defScope s_is_name) := ⟨rfl, rfl, rfl, nd_is_name, rfl, by decide +kernel, by decide +kernel⟩
theorem bd_is_name : Bd "is_name" "is_name" (defArgs s_is_name) (defBody s_is_name) (defScope s_is_name) ["value"] := fun _ _ _ _ _ _ us hl => match us, hl with | [_], _ => rfl
/-- 0 value -/
abbrev N_is_day : List Str := ["value"]
theorem nd_is_day : N_is_day.Nodup := by decide +kernel
theorem sc_is_day : FnScope N_is_day ["value"] (defScope s_is_day) := ⟨rfl, rfl, rfl, nd_is_day, rfl, by decide +kernel, by decide +kernel⟩
theorem bd_is_day : Bd "is_day" "is_day" (defArgs s_is_day) (defBody s_is_day) (defScope s_is_day) ["value"] := fun _ _ _ _ _ _ us hl => match us, hl with | [_], _ => rfl
/-- 0 value 1 town -/
abbrev N_is_plan : List Str := ["value", "town"]
theorem nd_is_plan : N_is_plan.Nodup := by decide +kernel
theorem sc_is_plan : FnScope N_is_plan ["value"] (defScope s_is_plan) := ⟨rfl, rfl, rfl, nd_is_plan, rfl, by decide +kernel, by decide +kernel⟩
theorem bd_is_plan : Bd "is_plan" "is_plan" (defArgs s_is_plan) (defBody s_is_plan) (defScope s_is_plan) ["value"] := fun _ _ _ _ _ _ us hl => match us, hl with | [_], _ => rfl
/-- 0 value -/
abbrev N_is_deed : List Str := ["value"]
theorem nd_is_deed : N_is_deed.Nodup := by decide +kernel
theorem sc_is_deed : FnScope N_is_deed ["value"] (defScope s_is_deed) := ⟨rfl, rfl, rfl, nd_is_deed, rfl, by decide +kernel, by decide +kernel⟩
theorem bd_is_deed : Bd "is_deed" "is_deed" (defArgs s_is_deed) (defBody s_is_deed) (defScope s_is_deed) ["value"] := fun _ _ _ _ _ _ us hl => match us, hl with | [_], _ => rfl
/-- 0 value 1 deed -/
abbrev N_is_history : List Str := ["value", "deed"]
theorem nd_is_history : N_is_history.Nodup := by decide +kernel
theorem sc_is_history : FnScope N_is_history ["value"] (defScope s_is_history) := ⟨rfl, rfl, rfl, nd_is_history, rfl, by decide +kernel, by decide +kernel⟩
theorem bd_is_history : Bd "is_history" "is_history" (defArgs s_is_history) (defBody s_is_history) (defScope s_is_history) ["value"] := fun _ _ _ _ _ _ us hl => match us, hl with | [_], _ => rfl
/-- 0 value -/
abbrev N_is_name_pair : List Str := ["value"]
theorem nd_is_name_pair : N_is_name_pair.Nodup := by decide +kernel
theorem sc_is_name_pair : FnScope N_is_name_pair ["value"] (defScope s_is_name_pair) := ⟨rfl, rfl, rfl, nd_is_name_pair, rfl, by decide +kernel, by decide +kernel⟩
theorem bd_is_name_pair : Bd "is_name_pair" "is_name_pair" (defArgs s_is_name_pair) (defBody s_is_name_pair) (defScope s_is_name_pair) ["value"] := fun _ _ _ _ _ _ us hl => match us, hl with | [_], _ => rfl
/-- 0 value 1 parameter -/
abbrev N_check_name : List Str := ["value", "parameter"]
theorem nd_check_name : N_check_name.Nodup := by decide +kernel
theorem sc_check_name : FnScope N_check_name ["value", "parameter"] (defScope s_check_name) := ⟨rfl, rfl, rfl, nd_check_name, rfl, by decide +kernel, by decide +kernel⟩
theorem bd_check_name : Bd "check_name" "check_name" (defArgs s_check_name) (defBody s_check_name) (defScope s_check_name) ["value", "parameter"] := fun _ _ _ _ _ _ us hl => match us, hl with | [_, _], _ => rfl
/-- 0 towns 1 town -/
abbrev N_check_towns : List Str := ["towns", "town"]
theorem nd_check_towns : N_check_towns.Nodup := by decide +kernel
theorem sc_check_towns : FnScope N_check_towns ["towns"] (defScope s_check_towns) := ⟨rfl, rfl, rfl, nd_check_towns, rfl, by decide +kernel, by decide +kernel⟩
theorem bd_check_towns : Bd "check_towns" "check_towns" (defArgs s_check_towns) (defBody s_check_towns) (defScope s_check_towns) ["towns"] := fun _ _ _ _ _ _ us hl => match us, hl with | [_], _ => rfl
/-- 0 ways 1 way -/
abbrev N_check_ways : List Str := ["ways", "way"]
theorem nd_check_ways : N_check_ways.Nodup := by decide +kernel
theorem sc_check_ways : FnScope N_check_ways ["ways"] (defScope s_check_ways) := ⟨rfl, rfl, rfl, nd_check_ways, rfl, by decide +kernel, by decide +kernel⟩
theorem bd_check_ways : Bd "check_ways" "check_ways" (defArgs s_check_ways) (defBody s_check_ways) (defScope s_check_ways) ["ways"] := fun _ _ _ _ _ _ us hl => match us, hl with | [_], _ => rfl
/-- 0 towns 1 at 2 town -/
abbrev N_check_unlike : List Str := ["towns", "at", "town"]
theorem nd_check_unlike : N_check_unlike.Nodup := by decide +kernel
theorem sc_check_unlike : FnScope N_check_unlike ["towns"] (defScope s_check_unlike) := ⟨rfl, rfl, rfl, nd_check_unlike, rfl, by decide +kernel, by decide +kernel⟩
theorem bd_check_unlike : Bd "check_unlike" "check_unlike" (defArgs s_check_unlike) (defBody s_check_unlike) (defScope s_check_unlike) ["towns"] := fun _ _ _ _ _ _ us hl => match us, hl with | [_], _ => rfl
/-- 0 here 1 there -/
abbrev N_ordered_pair : List Str := ["here", "there"]
theorem nd_ordered_pair : N_ordered_pair.Nodup := by decide +kernel
theorem sc_ordered_pair : FnScope N_ordered_pair ["here", "there"] (defScope s_ordered_pair) := ⟨rfl, rfl, rfl, nd_ordered_pair, rfl, by decide +kernel, by decide +kernel⟩
theorem bd_ordered_pair : Bd "ordered_pair" "ordered_pair" (defArgs s_ordered_pair) (defBody s_ordered_pair) (defScope s_ordered_pair) ["here", "there"] := fun _ _ _ _ _ _ us hl => match us, hl with | [_, _], _ => rfl
/-- 0 towns 1 way 2 before 3 here 4 there 5 pair -/
abbrev N_checked_way : List Str := ["towns", "way", "before", "here", "there", "pair"]
theorem nd_checked_way : N_checked_way.Nodup := by decide +kernel
theorem sc_checked_way : FnScope N_checked_way ["towns", "way", "before"] (defScope s_checked_way) := ⟨rfl, rfl, rfl, nd_checked_way, rfl, by decide +kernel, by decide +kernel⟩
theorem bd_checked_way : Bd "checked_way" "checked_way" (defArgs s_checked_way) (defBody s_checked_way) (defScope s_checked_way) ["towns", "way", "before"] := fun _ _ _ _ _ _ us hl => match us, hl with | [_, _, _], _ => rfl
/-- 0 towns 1 pairs 2 near 3 here 4 there 5 town -/
abbrev N_near_towns : List Str := ["towns", "pairs", "near", "here", "there", "town"]
theorem nd_near_towns : N_near_towns.Nodup := by decide +kernel
theorem sc_near_towns : FnScope N_near_towns ["towns", "pairs"] (defScope s_near_towns) := ⟨rfl, rfl, rfl, nd_near_towns, rfl, by decide +kernel, by decide +kernel⟩
theorem bd_near_towns : Bd "near_towns" "near_towns" (defArgs s_near_towns) (defBody s_near_towns) (defScope s_near_towns) ["towns", "pairs"] := fun _ _ _ _ _ _ us hl => match us, hl with | [_, _], _ => rfl
/-- 0 self 1 towns 2 ways 3 pairs 4 way -/
abbrev N_Web_init : List Str := ["self", "towns", "ways", "pairs", "way"]
theorem nd_Web_init : N_Web_init.Nodup := by decide +kernel
theorem sc_Web_init : FnScope N_Web_init ["self", "towns", "ways"] (defScope s_Web_init) := ⟨rfl, rfl, rfl, nd_Web_init, rfl, by decide +kernel, by decide +kernel⟩
/-- 0 self 1 other -/
abbrev N_Web_eq : List Str := ["self", "other"]
theorem nd_Web_eq : N_Web_eq.Nodup := by decide +kernel
theorem sc_Web_eq : FnScope N_Web_eq ["self", "other"] (defScope s_Web_eq) := ⟨rfl, rfl, rfl, nd_Web_eq, rfl, by decide +kernel, by decide +kernel⟩
theorem bd_Web_eq : Bd "__eq__" "Web.__eq__" (defArgs s_Web_eq) (defBody s_Web_eq) (defScope s_Web_eq) ["self", "other"] := fun _ _ _ _ _ _ us hl => match us, hl with | [_, _], _ => rfl
/-- 0 plans 1 name 2 plan -/
abbrev N_check_plans : List Str := ["plans", "name", "plan"]
theorem nd_check_plans : N_check_plans.Nodup := by decide +kernel
theorem sc_check_plans : FnScope N_check_plans ["plans"] (defScope s_check_plans) := ⟨rfl, rfl, rfl, nd_check_plans, rfl, by decide +kernel, by decide +kernel⟩
theorem bd_check_plans : Bd "check_plans" "check_plans" (defArgs s_check_plans) (defBody s_check_plans) (defScope s_check_plans) ["plans"] := fun _ _ _ _ _ _ us hl => match us, hl with | [_], _ => rfl
/-- 0 web 1 plan 2 town 3 day 4 here 5 there -/
abbrev N_check_steps : List Str := ["web", "plan", "town", "day", "here", "there"]
theorem nd_check_steps : N_check_steps.Nodup := by decide +kernel
theorem sc_check_steps : FnScope N_check_steps ["web", "plan"] (defScope s_check_steps) := ⟨rfl, rfl, rfl, nd_check_steps, rfl, by decide +kernel, by decide +kernel⟩
theorem bd_check_steps : Bd "check_steps" "check_steps" (defArgs s_check_steps) (defBody s_check_steps) (defScope s_check_steps) ["web", "plan"] := fun _ _ _ _ _ _ us hl => match us, hl with | [_, _], _ => rfl
/-- 0 plans 1 name -/
abbrev N_known_plan : List Str := ["plans", "name"]
theorem nd_known_plan : N_known_plan.Nodup := by decide +kernel
theorem sc_known_plan : FnScope N_known_plan ["plans", "name"] (defScope s_known_plan) := ⟨rfl, rfl, rfl, nd_known_plan, rfl, by decide +kernel, by decide +kernel⟩
theorem bd_known_plan : Bd "known_plan" "known_plan" (defArgs s_known_plan) (defBody s_known_plan) (defScope s_known_plan) ["plans", "name"] := fun _ _ _ _ _ _ us hl => match us, hl with | [_, _], _ => rfl
/-- 0 self 1 web 2 plans 3 names 4 name -/
abbrev N_World_init : List Str := ["self", "web", "plans", "names", "name"]
theorem nd_World_init : N_World_init.Nodup := by decide +kernel
theorem sc_World_init : FnScope N_World_init ["self", "web", "plans"] (defScope s_World_init) := ⟨rfl, rfl, rfl, nd_World_init, rfl, by decide +kernel, by decide +kernel⟩
theorem bd_World_init : Bd "__init__" "World.__init__" (defArgs s_World_init) (defBody s_World_init) (defScope s_World_init) ["self", "web", "plans"] := fun _ _ _ _ _ _ us hl => match us, hl with | [_, _, _], _ => rfl
/-- 0 self -/
abbrev N_World_web : List Str := ["self"]
theorem nd_World_web : N_World_web.Nodup := by decide +kernel
theorem sc_World_web : FnScope N_World_web ["self"] (defScope s_World_web) := ⟨rfl, rfl, rfl, nd_World_web, rfl, by decide +kernel, by decide +kernel⟩
theorem bd_World_web : Bd "web" "World.web" (defArgs s_World_web) (defBody s_World_web) (defScope s_World_web) ["self"] := fun _ _ _ _ _ _ us hl => match us, hl with | [_], _ => rfl
/-- 0 self 1 name 2 plan -/
abbrev N_World_plans : List Str := ["self", "name", "plan"]
theorem nd_World_plans : N_World_plans.Nodup := by decide +kernel
theorem sc_World_plans : FnScope N_World_plans ["self"] (defScope s_World_plans) := ⟨rfl, rfl, rfl, nd_World_plans, rfl, by decide +kernel, by decide +kernel⟩
theorem bd_World_plans : Bd "plans" "World.plans" (defArgs s_World_plans) (defBody s_World_plans) (defScope s_World_plans) ["self"] := fun _ _ _ _ _ _ us hl => match us, hl with | [_], _ => rfl
/-- 0 self -/
abbrev N_World_rows : List Str := ["self"]
theorem nd_World_rows : N_World_rows.Nodup := by decide +kernel
theorem sc_World_rows : FnScope N_World_rows ["self"] (defScope s_World_rows) := ⟨rfl, rfl, rfl, nd_World_rows, rfl, by decide +kernel, by decide +kernel⟩
theorem bd_World_rows : Bd "rows" "World.rows" (defArgs s_World_rows) (defBody s_World_rows) (defScope s_World_rows) ["self"] := fun _ _ _ _ _ _ us hl => match us, hl with | [_], _ => rfl
/-- 0 self 1 name 2 day 3 plan -/
abbrev N_World_place : List Str := ["self", "name", "day", "plan"]
theorem nd_World_place : N_World_place.Nodup := by decide +kernel
theorem sc_World_place : FnScope N_World_place ["self", "name", "day"] (defScope s_World_place) := ⟨rfl, rfl, rfl, nd_World_place, rfl, by decide +kernel, by decide +kernel⟩
theorem bd_World_place : Bd "place" "World.place" (defArgs s_World_place) (defBody s_World_place) (defScope s_World_place) ["self", "name", "day"] := fun _ _ _ _ _ _ us hl => match us, hl with | [_, _, _], _ => rfl
/-- 0 self 1 other -/
abbrev N_World_eq : List Str := ["self", "other"]
theorem nd_World_eq : N_World_eq.Nodup := by decide +kernel
theorem sc_World_eq : FnScope N_World_eq ["self", "other"] (defScope s_World_eq) := ⟨rfl, rfl, rfl, nd_World_eq, rfl, by decide +kernel, by decide +kernel⟩
theorem bd_World_eq : Bd "__eq__" "World.__eq__" (defArgs s_World_eq) (defBody s_World_eq) (defScope s_World_eq) ["self", "other"] := fun _ _ _ _ _ _ us hl => match us, hl with | [_, _], _ => rfl
/-- 0 plans 1 deed 2 x 3 y 4 day 5 name 6 first 7 second -/
abbrev N_reason_of : List Str := ["plans", "deed", "x", "y", "day", "name", "first", "second"]
theorem nd_reason_of : N_reason_of.Nodup := by decide +kernel
theorem sc_reason_of : FnScope N_reason_of ["plans", "deed"] (defScope s_reason_of) := ⟨rfl, rfl, rfl, nd_reason_of, rfl, by decide +kernel, by decide +kernel⟩
theorem bd_reason_of : Bd "reason_of" "reason_of" (defArgs s_reason_of) (defBody s_reason_of) (defScope s_reason_of) ["plans", "deed"] := fun _ _ _ _ _ _ us hl => match us, hl with | [_, _], _ => rfl
/-- 0 plans 1 deed 2 x 3 y 4 day 5 after -/
abbrev N_plans_after : List Str := ["plans", "deed", "x", "y", "day", "after"]
theorem nd_plans_after : N_plans_after.Nodup := by decide +kernel
theorem sc_plans_after : FnScope N_plans_after ["plans", "deed"] (defScope s_plans_after) := ⟨rfl, rfl, rfl, nd_plans_after, rfl, by decide +kernel, by decide +kernel⟩
theorem bd_plans_after : Bd "plans_after" "plans_after" (defArgs s_plans_after) (defBody s_plans_after) (defScope s_plans_after) ["plans", "deed"] := fun _ _ _ _ _ _ us hl => match us, hl with | [_, _], _ => rfl
/-- 0 world 1 deed 2 reason -/
abbrev N_refusal : List Str := ["world", "deed", "reason"]
theorem nd_refusal : N_refusal.Nodup := by decide +kernel
theorem sc_refusal : FnScope N_refusal ["world", "deed"] (defScope s_refusal) := ⟨rfl, rfl, rfl, nd_refusal, rfl, by decide +kernel, by decide +kernel⟩
theorem bd_refusal : Bd "refusal" "refusal" (defArgs s_refusal) (defBody s_refusal) (defScope s_refusal) ["world", "deed"] := fun _ _ _ _ _ _ us hl => match us, hl with | [_, _], _ => rfl
/-- 0 world 1 history 2 plans 3 along 4 at 5 deed 6 reason -/
abbrev N_plans_along : List Str := ["world", "history", "plans", "along", "at", "deed", "reason"]
theorem nd_plans_along : N_plans_along.Nodup := by decide +kernel
theorem sc_plans_along : FnScope N_plans_along ["world", "history"] (defScope s_plans_along) := ⟨rfl, rfl, rfl, nd_plans_along, rfl, by decide +kernel, by decide +kernel⟩
theorem bd_plans_along : Bd "plans_along" "plans_along" (defArgs s_plans_along) (defBody s_plans_along) (defScope s_plans_along) ["world", "history"] := fun _ _ _ _ _ _ us hl => match us, hl with | [_, _], _ => rfl
/-- 0 world 1 history -/
abbrev N_replay : List Str := ["world", "history"]
theorem nd_replay : N_replay.Nodup := by decide +kernel
theorem sc_replay : FnScope N_replay ["world", "history"] (defScope s_replay) := ⟨rfl, rfl, rfl, nd_replay, rfl, by decide +kernel, by decide +kernel⟩
theorem bd_replay : Bd "replay" "replay" (defArgs s_replay) (defBody s_replay) (defScope s_replay) ["world", "history"] := fun _ _ _ _ _ _ us hl => match us, hl with | [_, _], _ => rfl
/-- 0 world 1 name 2 plan -/
abbrev N_first_tokens : List Str := ["world", "name", "plan"]
theorem nd_first_tokens : N_first_tokens.Nodup := by decide +kernel
theorem sc_first_tokens : FnScope N_first_tokens ["world"] (defScope s_first_tokens) := ⟨rfl, rfl, rfl, nd_first_tokens, rfl, by decide +kernel, by decide +kernel⟩
theorem bd_first_tokens : Bd "first_tokens" "first_tokens" (defArgs s_first_tokens) (defBody s_first_tokens) (defScope s_first_tokens) ["world"] := fun _ _ _ _ _ _ us hl => match us, hl with | [_], _ => rfl
/-- 0 carried 1 name 2 day -/
abbrev N_arrival : List Str := ["carried", "name", "day"]
theorem nd_arrival : N_arrival.Nodup := by decide +kernel
theorem sc_arrival : FnScope N_arrival ["carried", "name", "day"] (defScope s_arrival) := ⟨rfl, rfl, rfl, nd_arrival, rfl, by decide +kernel, by decide +kernel⟩
theorem bd_arrival : Bd "arrival" "arrival" (defArgs s_arrival) (defBody s_arrival) (defScope s_arrival) ["carried", "name", "day"] := fun _ _ _ _ _ _ us hl => match us, hl with | [_, _, _], _ => rfl
/-- 0 carried 1 token 2 day 3 found 4 name -/
abbrev N_arriver : List Str := ["carried", "token", "day", "found", "name"]
theorem nd_arriver : N_arriver.Nodup := by decide +kernel
theorem sc_arriver : FnScope N_arriver ["carried", "token", "day"] (defScope s_arriver) := ⟨rfl, rfl, rfl, nd_arriver, rfl, by decide +kernel, by decide +kernel⟩
theorem bd_arriver : Bd "arriver" "arriver" (defArgs s_arriver) (defBody s_arriver) (defScope s_arriver) ["carried", "token", "day"] := fun _ _ _ _ _ _ us hl => match us, hl with | [_, _, _], _ => rfl
/-- 0 carried 1 deed 2 x 3 y 4 day 5 first 6 second -/
abbrev N_swap_tokens : List Str := ["carried", "deed", "x", "y", "day", "first", "second"]
theorem nd_swap_tokens : N_swap_tokens.Nodup := by decide +kernel
theorem sc_swap_tokens : FnScope N_swap_tokens ["carried", "deed"] (defScope s_swap_tokens) := ⟨rfl, rfl, rfl, nd_swap_tokens, rfl, by decide +kernel, by decide +kernel⟩
theorem bd_swap_tokens : Bd "swap_tokens" "swap_tokens" (defArgs s_swap_tokens) (defBody s_swap_tokens) (defScope s_swap_tokens) ["carried", "deed"] := fun _ _ _ _ _ _ us hl => match us, hl with | [_, _], _ => rfl
/-- 0 world 1 thread -/
abbrev N_thread_crossing : List Str := ["world", "thread"]
theorem nd_thread_crossing : N_thread_crossing.Nodup := by decide +kernel
theorem sc_thread_crossing : FnScope N_thread_crossing ["world", "thread"] (defScope s_thread_crossing) := ⟨rfl, rfl, rfl, nd_thread_crossing, rfl, by decide +kernel, by decide +kernel⟩
theorem bd_thread_crossing : Bd "thread_crossing" "thread_crossing" (defArgs s_thread_crossing) (defBody s_thread_crossing) (defScope s_thread_crossing) ["world", "thread"] := fun _ _ _ _ _ _ us hl => match us, hl with | [_, _], _ => rfl
/-- 0 world 1 threads 2 at 3 thread 4 reason -/
abbrev N_check_threads : List Str := ["world", "threads", "at", "thread", "reason"]
theorem nd_check_threads : N_check_threads.Nodup := by decide +kernel
theorem sc_check_threads : FnScope N_check_threads ["world", "threads"] (defScope s_check_threads) := ⟨rfl, rfl, rfl, nd_check_threads, rfl, by decide +kernel, by decide +kernel⟩
theorem bd_check_threads : Bd "check_threads" "check_threads" (defArgs s_check_threads) (defBody s_check_threads) (defScope s_check_threads) ["world", "threads"] := fun _ _ _ _ _ _ us hl => match us, hl with | [_, _], _ => rfl
/-- 0 world 1 history 2 carried 3 threads 4 deed 5 x 6 y 7 day -/
abbrev N_threads_of : List Str := ["world", "history", "carried", "threads", "deed", "x", "y", "day"]
theorem nd_threads_of : N_threads_of.Nodup := by decide +kernel
theorem sc_threads_of : FnScope N_threads_of ["world", "history"] (defScope s_threads_of) := ⟨rfl, rfl, rfl, nd_threads_of, rfl, by decide +kernel, by decide +kernel⟩
theorem bd_threads_of : Bd "threads_of" "threads_of" (defArgs s_threads_of) (defBody s_threads_of) (defScope s_threads_of) ["world", "history"] := fun _ _ _ _ _ _ us hl => match us, hl with | [_, _], _ => rfl
/-- 0 world 1 threads 2 carried 3 history 4 p 5 q 6 day 7 deed -/
abbrev N_history_of : List Str := ["world", "threads", "carried", "history", "p", "q", "day", "deed"]
theorem nd_history_of : N_history_of.Nodup := by decide +kernel
theorem sc_history_of : FnScope N_history_of ["world", "threads"] (defScope s_history_of) := ⟨rfl, rfl, rfl, nd_history_of, rfl, by decide +kernel, by decide +kernel⟩
theorem bd_history_of : Bd "history_of" "history_of" (defArgs s_history_of) (defBody s_history_of) (defScope s_history_of) ["world", "threads"] := fun _ _ _ _ _ _ us hl => match us, hl with | [_, _], _ => rfl
/-- 0 world 1 threads 2 parts 3 thread 4 crossing -/
abbrev N_parts_of : List Str := ["world", "threads", "parts", "thread", "crossing"]
theorem nd_parts_of : N_parts_of.Nodup := by decide +kernel
theorem sc_parts_of : FnScope N_parts_of ["world", "threads"] (defScope s_parts_of) := ⟨rfl, rfl, rfl, nd_parts_of, rfl, by decide +kernel, by decide +kernel⟩
theorem bd_parts_of : Bd "parts_of" "parts_of" (defArgs s_parts_of) (defBody s_parts_of) (defScope s_parts_of) ["world", "threads"] := fun _ _ _ _ _ _ us hl => match us, hl with | [_, _], _ => rfl
/-- 0 world 1 history -/
abbrev N_split_history : List Str := ["world", "history"]
theorem nd_split_history : N_split_history.Nodup := by decide +kernel
theorem sc_split_history : FnScope N_split_history ["world", "history"] (defScope s_split_history) := ⟨rfl, rfl, rfl, nd_split_history, rfl, by decide +kernel, by decide +kernel⟩
theorem bd_split_history : Bd "split_history" "split_history" (defArgs s_split_history) (defBody s_split_history) (defScope s_split_history) ["world", "history"] := fun _ _ _ _ _ _ us hl => match us, hl with | [_, _], _ => rfl
/-- 0 parts 1 days 2 rows 3 at 4 day 5 crossing 6 value 7 part -/
abbrev N_late_first : List Str := ["parts", "days", "rows", "at", "day", "crossing", "value", "part"]
theorem nd_late_first : N_late_first.Nodup := by decide +kernel
theorem sc_late_first : FnScope N_late_first ["parts"] (defScope s_late_first) := ⟨rfl, rfl, rfl, nd_late_first, rfl, by decide +kernel, by decide +kernel⟩
theorem bd_late_first : Bd "late_first" "late_first" (defArgs s_late_first) (defBody s_late_first) (defScope s_late_first) ["parts"] := fun _ _ _ _ _ _ us hl => match us, hl with | [_], _ => rfl
/-- 0 world 1 history 2 deeds 3 crossing 4 threads -/
abbrev N_normal_form : List Str := ["world", "history", "deeds", "crossing", "threads"]
theorem nd_normal_form : N_normal_form.Nodup := by decide +kernel
theorem sc_normal_form : FnScope N_normal_form ["world", "history"] (defScope s_normal_form) := ⟨rfl, rfl, rfl, nd_normal_form, rfl, by decide +kernel, by decide +kernel⟩
theorem bd_normal_form : Bd "normal_form" "normal_form" (defArgs s_normal_form) (defBody s_normal_form) (defScope s_normal_form) ["world", "history"] := fun _ _ _ _ _ _ us hl => match us, hl with | [_, _], _ => rfl
/-- 0 world 1 first 2 second 3 parts -/
abbrev N_histories_alike : List Str := ["world", "first", "second", "parts"]
theorem nd_histories_alike : N_histories_alike.Nodup := by decide +kernel
theorem sc_histories_alike : FnScope N_histories_alike ["world", "first", "second"] (defScope s_histories_alike) := ⟨rfl, rfl, rfl, nd_histories_alike, rfl, by decide +kernel, by decide +kernel⟩
theorem bd_histories_alike : Bd "histories_alike" "histories_alike" (defArgs s_histories_alike) (defBody s_histories_alike) (defScope s_histories_alike) ["world", "first", "second"] := fun _ _ _ _ _ _ us hl => match us, hl with | [_, _, _], _ => rfl
/-- 0 cell 1 k 2 first 3 second -/
abbrev N_L_mixed : List Str := ["_law_cell", "_law_k", "_law_first", "_law_second"]
theorem nd_L_mixed : N_L_mixed.Nodup := by decide +kernel
theorem sc_L_mixed : FnScope N_L_mixed ["_law_cell", "_law_k"] (defScope s_L_mixed) := ⟨rfl, rfl, rfl, nd_L_mixed, rfl, by decide +kernel, by decide +kernel⟩
theorem bd_L_mixed : Bd "_law_mixed" "_law_mixed" (defArgs s_L_mixed) (defBody s_L_mixed) (defScope s_L_mixed) ["_law_cell", "_law_k"] := fun _ _ _ _ _ _ us hl => match us, hl with | [_, _], _ => rfl
/-- 0 script 1 cells 2 seed 3 cell -/
abbrev N_L_store : List Str := ["_law_script", "_law_cells", "_law_seed", "_law_cell"]
theorem nd_L_store : N_L_store.Nodup := by decide +kernel
theorem sc_L_store : FnScope N_L_store ["_law_script"] (defScope s_L_store) := ⟨rfl, rfl, rfl, nd_L_store, rfl, by decide +kernel, by decide +kernel⟩
theorem bd_L_store : Bd "_law_store" "_law_store" (defArgs s_L_store) (defBody s_L_store) (defScope s_L_store) ["_law_script"] := fun _ _ _ _ _ _ us hl => match us, hl with | [_], _ => rfl
/-- 0 store_here 1 many 2 base 3 cell 4 digit -/
abbrev N_L_take : List Str := ["_law_store_here", "_law_many", "_law_base", "_law_cell", "_law_digit"]
theorem nd_L_take : N_L_take.Nodup := by decide +kernel
theorem sc_L_take : FnScope N_L_take ["_law_store_here", "_law_many"] (defScope s_L_take) := ⟨rfl, rfl, rfl, nd_L_take, rfl, by decide +kernel, by decide +kernel⟩
theorem bd_L_take : Bd "_law_take" "_law_take" (defArgs s_L_take) (defBody s_L_take) (defScope s_L_take) ["_law_store_here", "_law_many"] := fun _ _ _ _ _ _ us hl => match us, hl with | [_, _], _ => rfl
/-- 0 store_here 1 row -/
abbrev N_L_pick : List Str := ["_law_store_here", "_law_row"]
theorem nd_L_pick : N_L_pick.Nodup := by decide +kernel
theorem sc_L_pick : FnScope N_L_pick ["_law_store_here", "_law_row"] (defScope s_L_pick) := ⟨rfl, rfl, rfl, nd_L_pick, rfl, by decide +kernel, by decide +kernel⟩
theorem bd_L_pick : Bd "_law_pick" "_law_pick" (defArgs s_L_pick) (defBody s_L_pick) (defScope s_L_pick) ["_law_store_here", "_law_row"] := fun _ _ _ _ _ _ us hl => match us, hl with | [_, _], _ => rfl
/-- 0 store_here 1 row 2 many 3 left 4 found 5 k 6 at -/
abbrev N_L_some : List Str := ["_law_store_here", "_law_row", "_law_many", "_law_left", "_law_found", "_law_k", "_law_at"]
theorem nd_L_some : N_L_some.Nodup := by decide +kernel
theorem sc_L_some : FnScope N_L_some ["_law_store_here", "_law_row", "_law_many"] (defScope s_L_some) := ⟨rfl, rfl, rfl, nd_L_some, rfl, by decide +kernel, by decide +kernel⟩
theorem bd_L_some : Bd "_law_some" "_law_some" (defArgs s_L_some) (defBody s_L_some) (defScope s_L_some) ["_law_store_here", "_law_row", "_law_many"] := fun _ _ _ _ _ _ us hl => match us, hl with | [_, _, _], _ => rfl
/-- 0 store_here 1 size 2 letters 3 signs 4 word_here 5 k -/
abbrev N_L_word : List Str := ["_law_store_here", "_law_size", "_law_letters", "_law_signs", "_law_word_here", "_law_k"]
theorem nd_L_word : N_L_word.Nodup := by decide +kernel
theorem sc_L_word : FnScope N_L_word ["_law_store_here", "_law_size"] (defScope s_L_word) := ⟨rfl, rfl, rfl, nd_L_word, rfl, by decide +kernel, by decide +kernel⟩
theorem bd_L_word : Bd "_law_word" "_law_word" (defArgs s_L_word) (defBody s_L_word) (defScope s_L_word) ["_law_store_here", "_law_size"] := fun _ _ _ _ _ _ us hl => match us, hl with | [_, _], _ => rfl
/-- 0 sketch -/
abbrev N_L_made : List Str := ["_law_sketch"]
theorem nd_L_made : N_L_made.Nodup := by decide +kernel
theorem sc_L_made : FnScope N_L_made ["_law_sketch"] (defScope s_L_made) := ⟨rfl, rfl, rfl, nd_L_made, rfl, by decide +kernel, by decide +kernel⟩
theorem bd_L_made : Bd "_law_made" "_law_made" (defArgs s_L_made) (defBody s_L_made) (defScope s_L_made) ["_law_sketch"] := fun _ _ _ _ _ _ us hl => match us, hl with | [_], _ => rfl
/-- 0 plans 1 deed 2 x 3 y 4 day 5 name -/
abbrev N_L_deed_due : List Str := ["_law_plans", "_law_deed", "_law_x", "_law_y", "_law_day", "_law_name"]
theorem nd_L_deed_due : N_L_deed_due.Nodup := by decide +kernel
theorem sc_L_deed_due : FnScope N_L_deed_due ["_law_plans", "_law_deed"] (defScope s_L_deed_due) := ⟨rfl, rfl, rfl, nd_L_deed_due, rfl, by decide +kernel, by decide +kernel⟩
theorem bd_L_deed_due : Bd "_law_deed_due" "_law_deed_due" (defArgs s_L_deed_due) (defBody s_L_deed_due) (defScope s_L_deed_due) ["_law_plans", "_law_deed"] := fun _ _ _ _ _ _ us hl => match us, hl with | [_, _], _ => rfl
/-- 0 plans 1 deed 2 x 3 y 4 day 5 after -/
abbrev N_L_exchanged : List Str := ["_law_plans", "_law_deed", "_law_x", "_law_y", "_law_day", "_law_after"]
theorem nd_L_exchanged : N_L_exchanged.Nodup := by decide +kernel
theorem sc_L_exchanged : FnScope N_L_exchanged ["_law_plans", "_law_deed"] (defScope s_L_exchanged) := ⟨rfl, rfl, rfl, nd_L_exchanged, rfl, by decide +kernel, by decide +kernel⟩
theorem bd_L_exchanged : Bd "_law_exchanged" "_law_exchanged" (defArgs s_L_exchanged) (defBody s_L_exchanged) (defScope s_L_exchanged) ["_law_plans", "_law_deed"] := fun _ _ _ _ _ _ us hl => match us, hl with | [_, _], _ => rfl
/-- 0 plans 1 names 2 found 3 day 4 i 5 j -/
abbrev N_L_fitting : List Str := ["_law_plans", "_law_names", "_law_found", "_law_day", "_law_i", "_law_j"]
theorem nd_L_fitting : N_L_fitting.Nodup := by decide +kernel
theorem sc_L_fitting : FnScope N_L_fitting ["_law_plans"] (defScope s_L_fitting) := ⟨rfl, rfl, rfl, nd_L_fitting, rfl, by decide +kernel, by decide +kernel⟩
theorem bd_L_fitting : Bd "_law_fitting" "_law_fitting" (defArgs s_L_fitting) (defBody s_L_fitting) (defScope s_L_fitting) ["_law_plans"] := fun _ _ _ _ _ _ us hl => match us, hl with | [_], _ => rfl
/-- 0 store_here 1 plans 2 many 3 now 4 found 5 k 6 fits 7 deed -/
abbrev N_L_history : List Str := ["_law_store_here", "_law_plans", "_law_many", "_law_now", "_law_found", "_law_k", "_law_fits", "_law_deed"]
theorem nd_L_history : N_L_history.Nodup := by decide +kernel
theorem sc_L_history : FnScope N_L_history ["_law_store_here", "_law_plans", "_law_many"] (defScope s_L_history) := ⟨rfl, rfl, rfl, nd_L_history, rfl, by decide +kernel, by decide +kernel⟩
theorem bd_L_history : Bd "_law_history" "_law_history" (defArgs s_L_history) (defBody s_L_history) (defScope s_L_history) ["_law_store_here", "_law_plans", "_law_many"] := fun _ _ _ _ _ _ us hl => match us, hl with | [_, _, _], _ => rfl
/-- 0 plans 1 history_here 2 rows 3 k 4 due -/
abbrev N_L_replay : List Str := ["_law_plans", "_law_history_here", "_law_rows", "_law_k", "_law_due"]
theorem nd_L_replay : N_L_replay.Nodup := by decide +kernel
theorem sc_L_replay : FnScope N_L_replay ["_law_plans", "_law_history_here"] (defScope s_L_replay) := ⟨rfl, rfl, rfl, nd_L_replay, rfl, by decide +kernel, by decide +kernel⟩
theorem bd_L_replay : Bd "_law_replay" "_law_replay" (defArgs s_L_replay) (defBody s_L_replay) (defScope s_L_replay) ["_law_plans", "_law_history_here"] := fun _ _ _ _ _ _ us hl => match us, hl with | [_, _], _ => rfl
/-- 0 plans 1 found 2 day 3 names 4 town 5 name -/
abbrev N_L_crossings : List Str := ["_law_plans", "_law_found", "_law_day", "_law_names", "_law_town", "_law_name"]
theorem nd_L_crossings : N_L_crossings.Nodup := by decide +kernel
theorem sc_L_crossings : FnScope N_L_crossings ["_law_plans"] (defScope s_L_crossings) := ⟨rfl, rfl, rfl, nd_L_crossings, rfl, by decide +kernel, by decide +kernel⟩
theorem bd_L_crossings : Bd "_law_crossings" "_law_crossings" (defArgs s_L_crossings) (defBody s_L_crossings) (defScope s_L_crossings) ["_law_plans"] := fun _ _ _ _ _ _ us hl => match us, hl with | [_], _ => rfl
/-- 0 plans 1 threads 2 found 3 crossing 4 names 5 row 6 deed -/
abbrev N_L_parts : List Str := ["_law_plans", "_law_threads", "_law_found", "_law_crossing", "_law_names", "_law_row", "_law_deed"]
theorem nd_L_parts : N_L_parts.Nodup := by decide +kernel
theorem sc_L_parts : FnScope N_L_parts ["_law_plans", "_law_threads"] (defScope s_L_parts) := ⟨rfl, rfl, rfl, nd_L_parts, rfl, by decide +kernel, by decide +kernel⟩
theorem bd_L_parts : Bd "_law_parts" "_law_parts" (defArgs s_L_parts) (defBody s_L_parts) (defScope s_L_parts) ["_law_plans", "_law_threads"] := fun _ _ _ _ _ _ us hl => match us, hl with | [_, _], _ => rfl
/-- 0 store_here 1 deed 2 x 3 y 4 day 5 row -/
abbrev N_L_no_deed : List Str := ["_law_store_here", "_law_deed", "_law_x", "_law_y", "_law_day", "_law_row"]
theorem nd_L_no_deed : N_L_no_deed.Nodup := by decide +kernel
theorem sc_L_no_deed : FnScope N_L_no_deed ["_law_store_here", "_law_deed"] (defScope s_L_no_deed) := ⟨rfl, rfl, rfl, nd_L_no_deed, rfl, by decide +kernel, by decide +kernel⟩
theorem bd_L_no_deed : Bd "_law_no_deed" "_law_no_deed" (defArgs s_L_no_deed) (defBody s_L_no_deed) (defScope s_L_no_deed) ["_law_store_here", "_law_deed"] := fun _ _ _ _ _ _ us hl => match us, hl with | [_, _], _ => rfl
/-- 0 store_here 1 row 2 deed 3 at 4 wrong 5 form -/
abbrev N_L_no_history : List Str := ["_law_store_here", "_law_row", "_law_deed", "_law_at", "_law_wrong", "_law_form"]
theorem nd_L_no_history : N_L_no_history.Nodup := by decide +kernel
theorem sc_L_no_history : FnScope N_L_no_history ["_law_store_here", "_law_row", "_law_deed"] (defScope s_L_no_history) := ⟨rfl, rfl, rfl, nd_L_no_history, rfl, by decide +kernel, by decide +kernel⟩
theorem bd_L_no_history : Bd "_law_no_history" "_law_no_history" (defArgs s_L_no_history) (defBody s_L_no_history) (defScope s_L_no_history) ["_law_store_here", "_law_row", "_law_deed"] := fun _ _ _ _ _ _ us hl => match us, hl with | [_, _, _], _ => rfl
/-- 0 plans 1 history_here 2 carried 3 name 4 found 5 x 6 y 7 day 8 rest 9 town -/
abbrev N_L_tokens : List Str := ["_law_plans", "_law_history_here", "_law_carried", "_law_name", "_law_found", "_law_x", "_law_y", "_law_day", "_law_rest", "_law_town"]
theorem nd_L_tokens : N_L_tokens.Nodup := by decide +kernel
theorem sc_L_tokens : FnScope N_L_tokens ["_law_plans", "_law_history_here"] (defScope s_L_tokens) := ⟨rfl, rfl, rfl, nd_L_tokens, rfl, by decide +kernel, by decide +kernel⟩
theorem bd_L_tokens : Bd "_law_tokens" "_law_tokens" (defArgs s_L_tokens) (defBody s_L_tokens) (defScope s_L_tokens) ["_law_plans", "_law_history_here"] := fun _ _ _ _ _ _ us hl => match us, hl with | [_, _], _ => rfl
/-- 0 store_here 1 many 2 word_here 3 size 4 letters 5 found 6 sign 7 k -/
abbrev N_L_words : List Str := ["_law_store_here", "_law_many", "_law_word_here", "_law_size", "_law_letters", "_law_found", "_law_sign", "_law_k"]
theorem nd_L_words : N_L_words.Nodup := by decide +kernel
theorem sc_L_words : FnScope N_L_words ["_law_store_here", "_law_many"] (defScope s_L_words) := ⟨rfl, rfl, rfl, nd_L_words, rfl, by decide +kernel, by decide +kernel⟩
theorem bd_L_words : Bd "_law_words" "_law_words" (defArgs s_L_words) (defBody s_L_words) (defScope s_L_words) ["_law_store_here", "_law_many"] := fun _ _ _ _ _ _ us hl => match us, hl with | [_, _], _ => rfl
/-- 0 store_here 1 places 2 names 3 chain 4 roads 5 i 6 j 7 plans 8 row 9 longest 10 name 11 at 12 k -/
abbrev N_L_plains : List Str := ["_law_store_here", "_law_places", "_law_names", "_law_chain", "_law_roads", "_law_i", "_law_j", "_law_plans", "_law_row", "_law_longest", "_law_name", "_law_at", "_law_k"]
theorem nd_L_plains : N_L_plains.Nodup := by decide +kernel
theorem sc_L_plains : FnScope N_L_plains ["_law_store_here"] (defScope s_L_plains) := ⟨rfl, rfl, rfl, nd_L_plains, rfl, by decide +kernel, by decide +kernel⟩
theorem bd_L_plains : Bd "_law_plains" "_law_plains" (defArgs s_L_plains) (defBody s_L_plains) (defScope s_L_plains) ["_law_store_here"] := fun _ _ _ _ _ _ us hl => match us, hl with | [_], _ => rfl
/-- 0 told 1 due 2 k 3 equal -/
abbrev N_L_alike : List Str := ["_law_told", "_law_due", "_law_k", "_law_equal"]
theorem nd_L_alike : N_L_alike.Nodup := by decide +kernel
theorem sc_L_alike : FnScope N_L_alike ["_law_told", "_law_due"] (defScope s_L_alike) := ⟨rfl, rfl, rfl, nd_L_alike, rfl, by decide +kernel, by decide +kernel⟩
theorem bd_L_alike : Bd "_law_alike" "_law_alike" (defArgs s_L_alike) (defBody s_L_alike) (defScope s_L_alike) ["_law_told", "_law_due"] := fun _ _ _ _ _ _ us hl => match us, hl with | [_, _], _ => rfl
/-- 0 store_here 1 names 2 stem 3 row 4 sign 5 word_here -/
abbrev N_L_strange : List Str := ["_law_store_here", "_law_names", "_law_stem", "_law_row", "_law_sign", "_law_word_here"]
theorem nd_L_strange : N_L_strange.Nodup := by decide +kernel
theorem sc_L_strange : FnScope N_L_strange ["_law_store_here", "_law_names"] (defScope s_L_strange) := ⟨rfl, rfl, rfl, nd_L_strange, rfl, by decide +kernel, by decide +kernel⟩
theorem bd_L_strange : Bd "_law_strange" "_law_strange" (defArgs s_L_strange) (defBody s_L_strange) (defScope s_L_strange) ["_law_store_here", "_law_names"] := fun _ _ _ _ _ _ us hl => match us, hl with | [_, _], _ => rfl
/-- 0 store_here 1 plans 2 names 3 fits 4 form 5 row -/
abbrev N_L_near_deed : List Str := ["_law_store_here", "_law_plans", "_law_names", "_law_fits", "_law_form", "_law_row"]
theorem nd_L_near_deed : N_L_near_deed.Nodup := by decide +kernel
theorem sc_L_near_deed : FnScope N_L_near_deed ["_law_store_here", "_law_plans"] (defScope s_L_near_deed) := ⟨rfl, rfl, rfl, nd_L_near_deed, rfl, by decide +kernel, by decide +kernel⟩
theorem bd_L_near_deed : Bd "_law_near_deed" "_law_near_deed" (defArgs s_L_near_deed) (defBody s_L_near_deed) (defScope s_L_near_deed) ["_law_store_here", "_law_plans"] := fun _ _ _ _ _ _ us hl => match us, hl with | [_, _], _ => rfl
/-- 0 store_here 1 plans 2 many 3 row 4 at 5 form -/
abbrev N_L_near_history : List Str := ["_law_store_here", "_law_plans", "_law_many", "_law_row", "_law_at", "_law_form"]
theorem nd_L_near_history : N_L_near_history.Nodup := by decide +kernel
theorem sc_L_near_history : FnScope N_L_near_history ["_law_store_here", "_law_plans", "_law_many"] (defScope s_L_near_history) := ⟨rfl, rfl, rfl, nd_L_near_history, rfl, by decide +kernel, by decide +kernel⟩
theorem bd_L_near_history : Bd "_law_near_history" "_law_near_history" (defArgs s_L_near_history) (defBody s_L_near_history) (defScope s_L_near_history) ["_law_store_here", "_law_plans", "_law_many"] := fun _ _ _ _ _ _ us hl => match us, hl with | [_, _, _], _ => rfl
/-- 0 world 1 first 2 second 3 form 4 found 5 e -/
abbrev N_L_error : List Str := ["_law_world", "_law_first", "_law_second", "_law_form", "_law_found", "e"]
theorem nd_L_error : N_L_error.Nodup := by decide +kernel
theorem sc_L_error : FnScope N_L_error ["_law_world", "_law_first", "_law_second", "_law_form"] (defScope s_L_error) := ⟨rfl, rfl, rfl, nd_L_error, rfl, by decide +kernel, by decide +kernel⟩
theorem bd_L_error : Bd "_law_error" "_law_error" (defArgs s_L_error) (defBody s_L_error) (defScope s_L_error) ["_law_world", "_law_first", "_law_second", "_law_form"] := fun _ _ _ _ _ _ us hl => match us, hl with | [_, _, _, _], _ => rfl
/-- 0 plans 1 history_here 2 rows 3 at 4 due -/
abbrev N_L_refused : List Str := ["_law_plans", "_law_history_here", "_law_rows", "_law_at", "_law_due"]
theorem nd_L_refused : N_L_refused.Nodup := by decide +kernel
theorem sc_L_refused : FnScope N_L_refused ["_law_plans", "_law_history_here"] (defScope s_L_refused) := ⟨rfl, rfl, rfl, nd_L_refused, rfl, by decide +kernel, by decide +kernel⟩
theorem bd_L_refused : Bd "_law_refused" "_law_refused" (defArgs s_L_refused) (defBody s_L_refused) (defScope s_L_refused) ["_law_plans", "_law_history_here"] := fun _ _ _ _ _ _ us hl => match us, hl with | [_, _], _ => rfl
/-- 0 sketch 1 first 2 second 3 plans 4 world 5 due 6 equal -/
abbrev N_L_pair_told : List Str := ["_law_sketch", "_law_first", "_law_second", "_law_plans", "_law_world", "_law_due", "_law_equal"]
theorem nd_L_pair_told : N_L_pair_told.Nodup := by decide +kernel
theorem sc_L_pair_told : FnScope N_L_pair_told ["_law_sketch", "_law_first", "_law_second"] (defScope s_L_pair_told) := ⟨rfl, rfl, rfl, nd_L_pair_told, rfl, by decide +kernel, by decide +kernel⟩
theorem bd_L_pair_told : Bd "_law_pair_told" "_law_pair_told" (defArgs s_L_pair_told) (defBody s_L_pair_told) (defScope s_L_pair_told) ["_law_sketch", "_law_first", "_law_second"] := fun _ _ _ _ _ _ us hl => match us, hl with | [_, _, _], _ => rfl
/-- 0 sketch 1 history_here 2 plans 3 world 4 handed 5 due 6 parts_here 7 normal 8 day 9 crossing 10 row 11 told -/
abbrev N_L_holds : List Str := ["_law_sketch", "_law_history_here", "_law_plans", "_law_world", "_law_handed", "_law_due", "_law_parts_here", "_law_normal", "_law_day", "_law_crossing", "_law_row", "_law_told"]
theorem nd_L_holds : N_L_holds.Nodup := by decide +kernel
theorem sc_L_holds : FnScope N_L_holds ["_law_sketch", "_law_history_here"] (defScope s_L_holds) := ⟨rfl, rfl, rfl, nd_L_holds, rfl, by decide +kernel, by decide +kernel⟩
theorem bd_L_holds : Bd "_law_holds" "_law_holds" (defArgs s_L_holds) (defBody s_L_holds) (defScope s_L_holds) ["_law_sketch", "_law_history_here"] := fun _ _ _ _ _ _ us hl => match us, hl with | [_, _], _ => rfl
/-- 0 script 1 store_here 2 sketch 3 plans 4 world 5 many 6 first 7 second 8 history_here 9 threads 10 crossing 11 row 12 at 13 turned 14 near 15 wrong 16 deed -/
abbrev N_law : List Str := ["_law_script", "_law_store_here", "_law_sketch", "_law_plans", "_law_world", "_law_many", "_law_first", "_law_second", "_law_history_here", "_law_threads", "_law_crossing", "_law_row", "_law_at", "_law_turned", "_law_near", "_law_wrong", "_law_deed"]
theorem nd_law : N_law.Nodup := by decide +kernel
theorem sc_law : FnScope N_law ["_law_script"] (defScope s_law) := ⟨rfl, rfl, rfl, nd_law, rfl, by decide +kernel, by decide +kernel⟩
theorem bd_law : Bd "law" "law" (defArgs s_law) (defBody s_law) (defScope s_law) ["_law_script"] := fun _ _ _ _ _ _ us hl => match us, hl with | [_], _ => rfl
end K37
end
section
set_option maxRecDepth 100000
set_option maxHeartbeats 4000000
/-! M0: what the program works on, in plain Lean. -/
namespace K37
open PySem PySem.Spec PyProof.Rows L2
open Z
abbrev Deed := Str × Str × Nat
abbrev Plans := Str → List Str
/-! ### as data -/
def eT (ts : List Str) : PyData := .tuple (ts.map .str)
def eL (ts : List Str) : PyData := .list (ts.map .str)
def eP (p : Str × Str) : PyData := .tuple [.str p.1, .str p.2]
def eD (t : Deed) : PyData := .tuple [.str t.1, .str t.2.1, .int (t.2.2 : Int)]
def eH (hs : List Deed) : PyData := .list (hs.map eD)
def eC (c : Nat × Str) : PyData := .tuple [.int (c.1 : Int), .str c.2]
def ePart (p : (Nat × Str) × List Deed) : PyData := .tuple [eC p.1, eH p.2]
def eParts (ps : List ((Nat × Str) × List Deed)) : PyData := .list (ps.map ePart)
/-! ### webs -/
def ltS (a b : Str) : Bool := decide (a.cps.toList < b.cps.toList)
def opair (p : Str × Str) : Str × Str := if ltS p.1 p.2 = true then (p.1, p.2) else (p.2, p.1)
def sortP (ps : List (Str × Str)) : List (Str × Str) := ps.mergeSort (PySem.W.dataLe false eP)
def nbrs (ps : List (Str × Str)) (t : Str) : List Str := ps.flatMap fun p => (if p.1 = t then [p.2] else []) ++ (if p.2 = t then [p.1] else [])
def near (rs : List (Str × Str)) (t : Str) : List Str := sortN (t :: nbrs (sortP (rs.map opair)) t)
/-! ### worlds as types -/
def tPl (ks : List Str) (pl : Plans) : Z.Ty := tDK (ks.map fun n => (.inr n, dat (eT (pl n))))
def fWeb (ts : List Str) (rs : List (Str × Str)) : List (Str × Z.Ty) := [("own_towns", dat (eT (sortN ts))), ("own_ways", dat (.tuple ((sortP (rs.map opair)).map eP))), ("own_near", tDK ((sortN ts).map fun t => (.inr t, dat (eT (near rs t)))))]
def tWeb (K : PySem.W.Frag) (ts : List Str) (rs : List (Str × Str)) : Z.Ty := tOb (He.ga K "Web") (fWeb ts rs)
def eRow (pl : Plans) (n : Str) : PyData := .tuple [.str n, eT (pl n)]
def fWorld (K : PySem.W.Frag) (ts : List Str) (rs : List (Str × Str)) (ks : List Str) (pl : Plans) : List (Str × Z.Ty) := [("own_web", tWeb K ts rs), ("own_names", dat (eT (sortN ks))), ("own_rows", dat (.tuple ((sortN ks).map (eRow pl)))), ("own_plans", tPl (sortN ks) pl)]
def tWorld (K : PySem.W.Frag) (ts : List Str) (rs : List (Str × Str)) (ks : List Str) (pl : Plans) : Z.Ty := tOb (He.ga K "World") (fWorld K ts rs ks pl)

/-! ### data that may be compared -/
mutual
def okD : PyData → Nat → Bool
  | .list ds, n + 1 => okDs ds n
  | .tuple ds, n + 1 => okDs ds n
  | .list _, 0 => false
  | .tuple _, 0 => false
  | .dict _, _ => false
  | .none, _ => true
  | .bool _, _ => false
  | .int _, _ => true
  | .str x, _ => PyData.strOk x
def okDs : List PyData → Nat → Bool
  | [], _ => true
  | d :: ds, n => okD d n && okDs ds n
end
mutual
theorem okD_lay : ∀ (d : PyData) (n : Nat), okD d n = true → d.canLay0 = true ∧ d.depth ≤ n
  | .none, n, _ => by simp [PyData.canLay0, PyData.depth]
  | .bool _, n, _ => by simp [PyData.canLay0, PyData.depth]
  | .int _, n, _ => by simp [PyData.canLay0, PyData.depth]
  | .str x, n, h => by
    have h : PyData.strOk x = true := h
    simp [PyData.canLay0, PyData.depth, h]
  | .dict _, n, h => by simp [okD] at h
  | .list ds, 0, h => by simp [okD] at h
  | .tuple ds, 0, h => by simp [okD] at h
  | .list ds, n + 1, h => by
    have q := okDs_lay ds n (by simpa [okD] using h)
    refine ⟨by simpa [PyData.canLay0] using q.1, ?_⟩
    show PyData.depth (.list ds) ≤ n + 1
    simp [PyData.depth]
    omega
  | .tuple ds, n + 1, h => by
    have q := okDs_lay ds n (by simpa [okD] using h)
    refine ⟨by simpa [PyData.canLay0] using q.1, ?_⟩
    simp [PyData.depth]
    omega
theorem okDs_lay : ∀ (ds : List PyData) (n : Nat), okDs ds n = true → PyData.canLayAll0 ds = true ∧ PyData.depthAll ds ≤ n
  | [], n, _ => by simp [PyData.canLayAll0, PyData.depthAll]
  | d :: ds, n, h => by
    have h' : okD d n = true ∧ okDs ds n = true := by simpa [okDs] using h
    have a := okD_lay d n h'.1
    have b := okDs_lay ds n h'.2
    refine ⟨by simp [PyData.canLayAll0, a.1, b.1], ?_⟩
    simp [PyData.depthAll]
    omega
end
theorem okD_shaped {d : PyData} {n : Nat} (h : okD d n = true) (hn : n ≤ 64) : SeqAt.shaped d = true := by
  obtain ⟨a, b⟩ := okD_lay d n h
  unfold SeqAt.shaped
  rw [a, decide_eq_true (by omega)]
  rfl
theorem okDs_map {α : Type} {f : α → PyData} {n : Nat} : ∀ (xs : List α), (∀ x ∈ xs, okD (f x) n = true) → okDs (xs.map f) n = true
  | [], _ => rfl
  | x :: r, h => by
    show (okD (f x) n && okDs (r.map f) n) = true
    rw [h x List.mem_cons_self, okDs_map r fun y m => h y (List.mem_cons_of_mem _ m)]
    rfl
mutual
theorem okD_eqv : ∀ (d e : PyData) (n m : Nat), okD d n = true → okD e m = true → (PyData.eqv d e = true ↔ d = e)
  | .none, e, n, m, _, h => by cases e <;> simp [PyData.eqv]
  | .bool _, e, n, m, h, _ => by simp [okD] at h
  | .int i, e, n, m, _, h => by cases e <;> simp_all [PyData.eqv, okD]
  | .str x, e, n, m, _, h => by cases e <;> simp_all [PyData.eqv]
  | .dict _, e, n, m, h, _ => by simp [okD] at h
  | .list ds, e, 0, m, h, _ => by simp [okD] at h
  | .tuple ds, e, 0, m, h, _ => by simp [okD] at h
  | .list ds, e, n + 1, m, h, h2 => by
    cases e with
    | list es =>
      cases m with
      | zero => simp [okD] at h2
      | succ m =>
        have q := okDs_eqv ds es n m (by simpa [okD] using h) (by simpa [okD] using h2)
        simp [PyData.eqv, q]
    | _ => simp [PyData.eqv]
  | .tuple ds, e, n + 1, m, h, h2 => by
    cases e with
    | tuple es =>
      cases m with
      | zero => simp [okD] at h2
      | succ m =>
        have q := okDs_eqv ds es n m (by simpa [okD] using h) (by simpa [okD] using h2)
        simp [PyData.eqv, q]
    | _ => simp [PyData.eqv]
theorem okDs_eqv : ∀ (ds es : List PyData) (n m : Nat), okDs ds n = true → okDs es m = true → (PyData.eqvAll ds es = true ↔ ds = es)
  | [], [], _, _, _, _ => by simp [PyData.eqvAll]
  | [], _ :: _, _, _, _, _ => by simp [PyData.eqvAll]
  | _ :: _, [], _, _, _, _ => by simp [PyData.eqvAll]
  | d :: ds, e :: es, n, m, h, h2 => by
    have h' : okD d n = true ∧ okDs ds n = true := by simpa [okDs] using h
    have h2' : okD e m = true ∧ okDs es m = true := by simpa [okDs] using h2
    have a := okD_eqv d e n m h'.1 h2'.1
    have b := okDs_eqv ds es n m h'.2 h2'.2
    simp [PyData.eqvAll, a, b]
end
theorem eqv_inj {α : Type} [DecidableEq α] {f : α → PyData} {n : Nat} (inj : ∀ a b, f a = f b → a = b) {a b : α} (oa : okD (f a) n = true) (ob : okD (f b) n = true) : PyData.eqv (f a) (f b) = decide (a = b) := by
  have h := okD_eqv (f a) (f b) n n oa ob
  by_cases e : a = b
  · rw [decide_eq_true e]
    exact h.mpr (by rw [e])
  · rw [decide_eq_false e]
    cases q : PyData.eqv (f a) (f b) with
    | false => rfl
    | true => exact absurd (inj _ _ (h.mp q)) e
theorem eqv_self {d : PyData} {n : Nat} (h : okD d n = true) : PyData.eqv d d = true := (okD_eqv d d n n h h).mpr rfl
/-! ### names -/
def LETd : List Nat := ("abcdefghijklmnopqrstuvwxyz" : Str).cps.toList
def LADd : List Nat := ("abcdefghijklmnopqrstuvwxyz0123456789" : Str).cps.toList
def nameB (x : Str) : Bool := (decide (1 ≤ x.length) && decide (x.length ≤ 8)) && (decide (x.cps.toList[0]! ∈ LETd) && x.cps.toList.all fun c => decide (c ∈ LADd))
theorem nameB_len {x : Str} (h : nameB x = true) : 1 ≤ x.length ∧ x.length ≤ 8 := by
  have h := (Bool.and_eq_true_iff.mp h).1
  obtain ⟨a, b⟩ := Bool.and_eq_true_iff.mp h
  exact ⟨of_decide_eq_true a, of_decide_eq_true b⟩
theorem LADd_ok : ∀ c ∈ LADd, c < 0x110000 := by decide +kernel
theorem nameB_ok {x : Str} (h : nameB x = true) : PyData.strOk x = true := by
  have h := (Bool.and_eq_true_iff.mp (Bool.and_eq_true_iff.mp h).2).2
  unfold PyData.strOk
  rw [← Array.all_toList]
  refine List.all_eq_true.mpr fun c m => decide_eq_true ?_
  exact LADd_ok c (of_decide_eq_true (List.all_eq_true.mp h c m))
mutual
theorem okD_up : ∀ (d : PyData) (n : Nat), okD d n = true → okD d (n + 1) = true
  | .none, _, _ => rfl
  | .bool _, n, h => by simp [okD] at h
  | .int _, _, _ => rfl
  | .str _, _, h => h
  | .dict _, _, h => by simp [okD] at h
  | .list _, 0, h => by simp [okD] at h
  | .tuple _, 0, h => by simp [okD] at h
  | .list ds, n + 1, h => okDs_up ds n h
  | .tuple ds, n + 1, h => okDs_up ds n h
theorem okDs_up : ∀ (ds : List PyData) (n : Nat), okDs ds n = true → okDs ds (n + 1) = true
  | [], _, _ => rfl
  | d :: ds, n, h => by
    have h' : okD d n = true ∧ okDs ds n = true := by simpa [okDs] using h
    show (okD d (n + 1) && okDs ds (n + 1)) = true
    rw [okD_up d n h'.1, okDs_up ds n h'.2]
    rfl
end
def DOk (t : Deed) : Prop := nameB t.1 = true ∧ nameB t.2.1 = true ∧ t.2.2 ≤ 6
theorem ok_eP {p : Str × Str} (h1 : nameB p.1 = true) (h2 : nameB p.2 = true) : okD (eP p) 1 = true := by
  show (PyData.strOk p.1 && (PyData.strOk p.2 && true)) = true
  rw [nameB_ok h1, nameB_ok h2]
  rfl
theorem ok_eD {t : Deed} (h : DOk t) : okD (eD t) 1 = true := by
  show (PyData.strOk t.1 && (PyData.strOk t.2.1 && (true && true))) = true
  rw [nameB_ok h.1, nameB_ok h.2.1]
  rfl
theorem ok_eC {c : Nat × Str} (h : nameB c.2 = true) : okD (eC c) 1 = true := by
  show (true && (PyData.strOk c.2 && true)) = true
  rw [nameB_ok h]
  rfl
theorem ok_eH {hs : List Deed} (h : ∀ t ∈ hs, DOk t) : okD (eH hs) 2 = true := okDs_map hs fun t m => ok_eD (h t m)
theorem ok_ePart {p : (Nat × Str) × List Deed} (h1 : nameB p.1.2 = true) (h2 : ∀ t ∈ p.2, DOk t) : okD (ePart p) 3 = true := by
  show (okD (eC p.1) 2 && (okD (eH p.2) 2 && true)) = true
  rw [okD_up _ _ (ok_eC h1), ok_eH h2]
  rfl
theorem ok_eParts {ps : List ((Nat × Str) × List Deed)} (h : ∀ p ∈ ps, nameB p.1.2 = true ∧ ∀ t ∈ p.2, DOk t) : okD (eParts ps) 4 = true := okDs_map ps fun p m => ok_ePart (h p m).1 (h p m).2
theorem eP_inj (a b : Str × Str) (h : eP a = eP b) : a = b := by
  simp [eP] at h
  exact Prod.ext h.1 h.2
theorem eD_inj (a b : Deed) (h : eD a = eD b) : a = b := by
  simp [eD] at h
  exact Prod.ext h.1 (Prod.ext h.2.1 (by have := h.2.2; omega))
theorem eC_inj (a b : Nat × Str) (h : eC a = eC b) : a = b := by
  simp [eC] at h
  exact Prod.ext (by have := h.1; omega) h.2
def POk (p : Str × Str) : Prop := nameB p.1 = true ∧ nameB p.2 = true
theorem any_pair {ps : List (Str × Str)} {p : Str × Str} (h : ∀ q ∈ ps, POk q) (hp : POk p) : ((ps.map eP).any fun y => PyData.eqv y (eP p)) = decide (p ∈ ps) := by
  induction ps with
  | nil => rfl
  | cons q r ih =>
    rw [List.map_cons, List.any_cons, ih fun x m => h x (List.mem_cons_of_mem _ m), eqv_inj eP_inj (ok_eP (h q List.mem_cons_self).1 (h q List.mem_cons_self).2) (ok_eP hp.1 hp.2)]
    by_cases h : q = p
    · subst h; simp
    · have h' : ¬ p = q := fun w => h w.symm
      simp [h, h']
end K37
end
section
set_option maxRecDepth 100000
set_option maxHeartbeats 4000000
/-! W1: shapes. -/
namespace K37
open PySem PySem.Spec PyProof.Rows L2
open Z

/-! ### what the shapes answer -/
def isInt : PyData → Bool
  | .int _ => true
  | _ => false
def isBool : PyData → Bool
  | .bool _ => true
  | _ => false
def isStr : PyData → Bool
  | .str _ => true
  | _ => false
def isTup_ : PyData → Bool
  | .tuple _ => true
  | _ => false
def isLst : PyData → Bool
  | .list _ => true
  | _ => false
def Small : PyData → Prop
  | .str x => x.length ≤ 1000
  | _ => True
section
variable {K : PySem.W.Frag}
theorem kit_int {d : PyData} (h : ∀ kvs, d ≠ .dict kvs) : PySem.W.kitOne K (.type (tyN d)) (.type "int") = some (isInt d || isBool d) := by
  cases d <;> first | rfl | exact absurd rfl (h _)
theorem kit_bool {d : PyData} (h : ∀ kvs, d ≠ .dict kvs) : PySem.W.kitOne K (.type (tyN d)) (.type "bool") = some (isBool d) := by
  cases d <;> first | rfl | exact absurd rfl (h _)
theorem kit_str {d : PyData} (h : ∀ kvs, d ≠ .dict kvs) : PySem.W.kitOne K (.type (tyN d)) (.type "str") = some (isStr d) := by
  cases d <;> first | rfl | exact absurd rfl (h _)
theorem kit_tup {d : PyData} (h : ∀ kvs, d ≠ .dict kvs) : PySem.W.kitOne K (.type (tyN d)) (.type "tuple") = some (isTup_ d) := by
  cases d <;> first | rfl | exact absurd rfl (h _)
theorem kit_lst {d : PyData} (h : ∀ kvs, d ≠ .dict kvs) : PySem.W.kitOne K (.type (tyN d)) (.type "list") = some (isLst d) := by
  cases d <;> first | rfl | exact absurd rfl (h _)
end
theorem nd_of {d : PyData} {G : Hp} {v : V} (h : Rp G v d) : ∀ kvs, d ≠ .dict kvs := by
  intro kvs e
  subst e
  cases h
section
variable {P : Program} {w : World} {K : PySem.W.Frag} {mg : Str → Option Value} {base : Heap}
def NoD (d : PyData) : Prop := ∀ kvs, d ≠ .dict kvs
def pIsWhole : Pr PyData := ⟨NoD, fun d => [dat d], fun d => dat (.bool (isInt d))⟩
theorem cb_is_whole (T : Txt K mg) : Cb CX0 P w K mg base 1 "is_whole" ["value"] pIsWhole.sp := by
  refine cb_pr T.f_is_whole sc_is_whole bd_is_whole (fun _ => rfl) fun f cdv A outer s H E d z hr pz hp => ?_
  refine sw_ret (EvD.g (ev_and (ev_isi T.isinstance_ (kit_int hp) (ev_var 0) (ev_ty T.int_ (by decide +kernel))) fun _ => ev_one (ev_not (ev_isi T.isinstance_ (kit_bool hp) (ev_var 0) (ev_ty T.bool_ (by decide +kernel)))))) fun v G' H' bg t => ⟨G', bg, ?_⟩
  have e : ((isInt d || isBool d) && !isBool d) = isInt d := by cases d <;> rfl
  rw [e] at t
  exact t

def isName : PyData → Bool
  | .str x => nameB x
  | _ => false
theorem name_len {x : Str} : (decide ((1 : Int) ≤ (x.length : Int)) && decide ((x.length : Int) ≤ 8)) = (decide (1 ≤ x.length) && decide (x.length ≤ 8)) := by
  congr 1 <;> exact decide_eq_decide.mpr (by omega)
def SmS (d : PyData) : Prop := NoD d ∧ ∀ x, d = .str x → x.length ≤ 1000
def pIsName : Pr PyData := ⟨SmS, fun d => [dat d], fun d => dat (.bool (isName d))⟩
theorem len_int {x : Str} : (x.cps.toList.length : Int) = (x.length : Int) := by
  show _ = ((x.cps.size : Nat) : Int)
  rw [Array.length_toList]
theorem cb_is_name (T : Txt K mg) : Cb CX0 P w K mg base 1 "is_name" ["value"] pIsName.sp := by
  refine cb_pr T.f_is_name sc_is_name bd_is_name (fun _ => rfl) fun f cdv A outer s H E d z hr pz hp => ?_
  have nd := nd_is_name
  by_cases hs : isStr d = true
  · obtain ⟨x, rfl⟩ : ∃ x, d = .str x := by cases d <;> first | exact ⟨_, rfl⟩ | cases hs
    have hx := hp.2 x rfl
    refine sw_when (EvB.g (EvW.eb (ew_or (eb_notV (eb_val (ev_isi T.isinstance_ (kit_str hp.1) (ev_var 0) (ev_ty T.str_ (by decide +kernel))))) fun h => ew_or1 (eb_notV (eb_lele ev_int (ev_lenS hx T.len_ (ev_var 0)) (ev_gint T.LONGEST_NAME)))))) (fun h => ?_) fun h => ?_
    · refine sw_retT rfl (EvD.g ev_bl) (congrArg (fun b => dat (.bool b)) ?_)
      have h : (decide ((1 : Int) ≤ (x.length : Int)) && decide ((x.length : Int) ≤ 8)) = false := by
        cases q : (decide ((1 : Int) ≤ (x.length : Int)) && decide ((x.length : Int) ≤ 8)) with
        | false => rfl
        | true => rw [q] at h; cases h
      rw [name_len] at h
      show false = (_ && _)
      rw [h]
      rfl
    · have h : (decide ((1 : Int) ≤ (x.length : Int)) && decide ((x.length : Int) ≤ 8)) = true := by
        cases q : (decide ((1 : Int) ≤ (x.length : Int)) && decide ((x.length : Int) ≤ 8)) with
        | true => rfl
        | false => rw [q] at h; cases h
      have hl : 0 < x.cps.toList.length := by
        have := of_decide_eq_true (Bool.and_eq_true_iff.mp h).1
        rw [slen]
        omega
      refine sw_retT rfl (EvD.g (ev_and (ev_inS (ev_ix ix_str (r2_ixS hx (at_zero hl)) (ev_var 0) ev_int) (ev_gstr T.LETTERS)) fun _ => ev_one (ev_all (bs := x.cps.toList.map fun c => decide (c ∈ LADd)) rfl T.all_ (by
        rw [List.map_map, ← map_all (xs := x.cps.toList)]
        exact ev_lc1 x.cps.toList (fun c => dat (.str (chS c))) (fun _ => true) _ 1 rfl nd (ei_strA (ev_var 0)) (blkOk_by (N := N_is_name) (sc := defScope s_is_name) (by decide +kernel)) (fun _ _ _ _ _ => pg_name nd rfl (Or.inl rfl)) (fun _ _ _ _ _ _ _ => et_nil)
          (fun c _ _ _ _ _ _ _ => ev_inS (ev_var 1) (ev_gstr T.LETTERS_AND_DIGITS)) (by rw [slen]; exact hx))))) (congrArg (fun b => dat (.bool b)) ?_)
      rw [name_len] at h
      show _ = (_ && _)
      rw [h, List.all_map]
      rfl
  · have hs' : isStr d = false := by simpa using hs
    refine sw_when (EvB.g (EvW.eb (ew_or (p := true) (q' := true) (eb_notV (p := false) (eb_val (ev_isi T.isinstance_ (by rw [kit_str hp.1, hs']) (ev_var 0) (ev_ty T.str_ (by decide +kernel))))) fun h => nomatch h))) (fun h => ?_) fun h => nomatch h
    refine sw_retT rfl (EvD.g ev_bl) (congrArg (fun b => dat (.bool b)) ?_)
    cases d <;> first | rfl | cases hs'

/-! ### the other shapes -/
def isTupN : PyData → Int → Bool
  | .tuple ds, n => decide ((ds.length : Int) = n)
  | _, _ => false
def pIsTup : Pr (PyData × Int) := ⟨fun i => NoD i.1, fun i => [dat i.1, dat (.int i.2)], fun i => dat (.bool (isTupN i.1 i.2))⟩
theorem cb_is_tuple_of (T : Txt K mg) : Cb CX0 P w K mg base 1 "is_tuple_of" ["value", "parts"] pIsTup.sp := by
  refine cb_pr T.f_is_tuple_of sc_is_tuple_of bd_is_tuple_of (fun _ => rfl) fun f cdv A outer s H E i z hr pz hp => ?_
  obtain ⟨d, n⟩ := i
  by_cases hs : isTup_ d = true
  · obtain ⟨ds, rfl⟩ : ∃ ds, d = .tuple ds := by cases d <;> first | exact ⟨_, rfl⟩ | cases hs
    exact sw_retT rfl (EvD.g (ev_and (ev_isi T.isinstance_ (kit_tup hp) (ev_var 0) (ev_ty T.tuple_ (by decide +kernel))) fun _ => ev_one (ev_eqI (ev_lenTd T.len_ (ev_var 0)) (ev_var 1)))) rfl
  · have hs' : isTup_ d = false := by simpa using hs
    refine sw_retT rfl (EvD.g (ev_and (p := false) (q' := true) (ev_isi T.isinstance_ (by rw [kit_tup hp, hs']) (ev_var 0) (ev_ty T.tuple_ (by decide +kernel))) fun h => nomatch h)) (congrArg (fun b => dat (.bool b)) ?_)
    cases d <;> first | rfl | cases hs'
def isDay : PyData → Bool
  | .int i => decide (0 ≤ i) && decide (i ≤ 6)
  | _ => false
def pIsDay : Pr PyData := ⟨NoD, fun d => [dat d], fun d => dat (.bool (isDay d))⟩
theorem cb_is_day (T : Txt K mg) : Cb CX0 P w K mg base 2 "is_day" ["value"] pIsDay.sp := by
  refine cb_pr T.f_is_day sc_is_day bd_is_day (fun _ => rfl) fun f cdv A outer s H E d z hr pz hp => ?_
  by_cases hs : isInt d = true
  · obtain ⟨i, rfl⟩ : ∃ i, d = .int i := by cases d <;> first | exact ⟨_, rfl⟩ | cases hs
    exact sw_retT rfl (EvD.g (ev_and (ev_callD (P := pIsWhole) (.int i) (cb_is_whole T) hr (Nat.le_refl 1) hp (ea1 (ev_var 0))) fun _ => ev_one (ev_lele ev_int (ev_var 0) (ev_gint T.LAST_DAY)))) rfl
  · have hs' : isInt d = false := by simpa using hs
    refine sw_retT rfl (EvD.g (ev_and (p := false) (q' := true) ((ev_callD (P := pIsWhole) d (cb_is_whole T) hr (Nat.le_refl 1) hp (ea1 (ev_var 0))).imp fun v G t => ?_) fun h => nomatch h)) (congrArg (fun b => dat (.bool b)) ?_)
    · have t : (dat (.bool (isInt d))).p v G := t
      rw [hs'] at t
      exact t
    · cases d <;> first | rfl | cases hs'
/-- an item of a deed -/
def SmD (d : PyData) : Prop := NoD d ∧ ∀ ds, d = .tuple ds → ∀ e ∈ ds, SmS e
def isDeed : PyData → Bool
  | .tuple [a, b, c] => isName a && (isName b && isDay c)
  | _ => false
def pIsDeed : Pr PyData := ⟨SmD, fun d => [dat d], fun d => dat (.bool (isDeed d))⟩
theorem cb_is_deed (T : Txt K mg) : Cb CX0 P w K mg base 3 "is_deed" ["value"] pIsDeed.sp := by
  refine cb_pr T.f_is_deed sc_is_deed bd_is_deed (fun _ => rfl) fun f cdv A outer s H E d z hr pz hp => ?_
  by_cases hs : isTupN d 3 = true
  · obtain ⟨a, b, c, rfl⟩ : ∃ a b c, d = .tuple [a, b, c] := by
      cases d with
      | tuple ds =>
        match ds, hs with
        | [a, b, c], _ => exact ⟨a, b, c, rfl⟩
        | [], h => simp [isTupN] at h
        | [_], h => simp [isTupN] at h
        | [_, _], h => simp [isTupN] at h
        | _ :: _ :: _ :: _ :: r, h =>
          simp [isTupN] at h
          omega
      | _ => cases hs
    have ha := hp.2 _ rfl a (by simp)
    have hb := hp.2 _ rfl b (by simp)
    have hc := hp.2 _ rfl c (by simp)
    refine sw_retT rfl (EvD.g (ev_and (ev_callD (P := pIsTup) (.tuple [a, b, c], 3) (cb_is_tuple_of T) hr (by decide) hp.1 (ea2 (ev_var 0) ev_int)) fun _ => ev_and (ev_callD (P := pIsName) a (cb_is_name T) hr (by decide) ha (ea1 (ev_ixTd (i := 0) rfl (ev_var 0) ev_int))) fun _ =>
      ev_and (ev_callD (P := pIsName) b (cb_is_name T) hr (by decide) hb (ea1 (ev_ixTd (i := 1) rfl (ev_var 0) ev_int))) fun _ => ev_one (ev_callD (P := pIsDay) c (cb_is_day T) hr (by decide) hc.1 (ea1 (ev_ixTd (i := 2) rfl (ev_var 0) ev_int))))) rfl
  · have hs' : isTupN d 3 = false := by simpa using hs
    refine sw_retT rfl (EvD.g (ev_and (p := false) (q' := true) ((ev_callD (P := pIsTup) (d, 3) (cb_is_tuple_of T) hr (by decide) hp.1 (ea2 (ev_var 0) ev_int)).imp fun v G t => ?_) fun h => nomatch h)) (congrArg (fun b => dat (.bool b)) ?_)
    · have t : (dat (.bool (isTupN d 3))).p v G := t
      rw [hs'] at t
      exact t
    · cases d with
      | tuple ds =>
        match ds, hs' with
        | [a, b, c], h => simp [isTupN] at h
        | [], _ => rfl
        | [_], _ => rfl
        | [_, _], _ => rfl
        | _ :: _ :: _ :: _ :: _, _ => rfl
      | _ => rfl
/-- a history's shape; none: the empty dict -/
def isHist : Option PyData → Bool
  | some (.list ds) => decide (ds.length ≤ 60) && ds.all isDeed
  | _ => false
def tHi : Option PyData → Z.Ty
  | some d => dat d
  | none => tDK []
def SmH : Option PyData → Prop
  | some d => NoD d ∧ ∀ ds, d = .list ds → ds.length ≤ 1000 ∧ ∀ e ∈ ds, SmD e
  | none => True
def pIsHist : Pr (Option PyData) := ⟨SmH, fun d => [tHi d], fun d => dat (.bool (isHist d))⟩
theorem cb_is_history (T : Txt K mg) : Cb CX0 P w K mg base 4 "is_history" ["value"] pIsHist.sp := by
  refine cb_pr T.f_is_history sc_is_history bd_is_history (fun _ => rfl) fun f cdv A outer s H E o z hr pz hp => ?_
  have no : ∀ (t : Value), TyT K (tHi o) t → PySem.W.kitOne K t (.type "list") = some false → isHist o = false →
      SWs ((cxOf CX0 P w K mg base N_is_history "is_history" (defScope s_is_history) f cdv A outer s H E).nox) z (defBody s_is_history) (dT z (dat (.bool (isHist o)))) (slots N_is_history (([tHi o] : List Ty).map some)) [] := fun t ht hk hh => by
    refine sw_when (EvB.g (EvW.eb (ew_or (p := true) (q' := true) (eb_notV (p := false) (eb_val (ev_isiT T.isinstance_ ht (.ty _) hk (ev_var 0) (ev_ty T.list_ (by decide +kernel))))) fun h => nomatch h))) (fun h => ?_) fun h => nomatch h
    exact sw_retT rfl (EvD.g ev_bl) (congrArg (fun b => dat (.bool b)) hh.symm)
  cases o with
  | none => exact no (.type "dict") ty_dk rfl rfl
  | some d =>
    by_cases hs : isLst d = true
    · obtain ⟨ds, rfl⟩ : ∃ ds, d = .list ds := by cases d <;> first | exact ⟨_, rfl⟩ | cases hs
      obtain ⟨hl, he⟩ := hp.2 ds rfl
      have e60 : decide ((60 : Int) < (ds.length : Int)) = !decide (ds.length ≤ 60) := by
        by_cases h : ds.length ≤ 60
        · rw [decide_eq_true h, decide_eq_false (by omega)]; rfl
        · rw [decide_eq_false h, decide_eq_true (by omega)]; rfl
      refine sw_when (EvB.g (EvW.eb (ew_or (p := false) (eb_notV (p := true) (eb_val (ev_isiT T.isinstance_ ty_dat (.ty _) (kit_lst hp.1) (ev_var 0) (ev_ty T.list_ (by decide +kernel))))) fun _ => ew_or1 (eb_gt (ev_lenLd T.len_ (ev_var 0)) (ev_gint T.MOST_DEEDS))))) (fun h => ?_) fun h => ?_
      · refine sw_retT rfl (EvD.g ev_bl) (congrArg (fun b => dat (.bool b)) ?_)
        rw [Bool.false_or, e60] at h
        show false = (decide (ds.length ≤ 60) && ds.all isDeed)
        cases q : decide (ds.length ≤ 60) with
        | false => rfl
        | true => rw [q] at h; cases h
      · rw [Bool.false_or, e60] at h
        have hq : decide (ds.length ≤ 60) = true := by
          cases q : decide (ds.length ≤ 60) with
          | true => rfl
          | false => rw [q] at h; cases h
        refine sw_retT rfl (EvD.g (ev_all (bs := ds.map isDeed) rfl T.all_ (by
          rw [List.map_map, ← map_all (xs := ds)]
          exact ev_lc1 ds dat (fun _ => true) _ 1 rfl nd_is_history (ei_listA ds dat (EvD.toL (ev_var 0))) (blkOk_by (N := N_is_history) (sc := defScope s_is_history) (by decide +kernel)) (fun _ _ _ _ _ => pg_name nd_is_history rfl (Or.inl rfl)) (fun _ _ _ _ _ _ _ => et_nil)
            (fun c m _ _ _ _ _ _ => ev_callD (P := pIsDeed) c (cb_is_deed T) hr (by decide) (he c m) (ea1 (ev_var 1))) hl))) (congrArg (fun b => dat (.bool b)) ?_)
        show _ = (decide (ds.length ≤ 60) && ds.all isDeed)
        rw [hq, List.all_map]
        rfl
    · have hs' : isLst d = false := by simpa using hs
      exact no _ ty_dat (by rw [kit_lst hp.1, hs']) (by cases d <;> first | rfl | cases hs')
end
end K37
end
section
set_option maxRecDepth 100000
set_option maxHeartbeats 4000000
/-! W2: webs and worlds, made of what is right. -/
namespace K37
open PySem PySem.Spec PyProof.Rows L2
open Z
theorem cut_take {α : Type} {xs : List α} {n : Nat} : cutG xs none (some (n : Int)) = xs.take n := by
  unfold cutG
  rw [HT.sIx_none, HT.sIx_nat, List.drop_zero, Nat.sub_zero]
  rcases Nat.le_total n xs.length with h | h
  · rw [Nat.min_eq_left h]
  · rw [Nat.min_eq_right h, List.take_length, List.take_of_length_le h]
theorem cut_drop {α : Type} {xs : List α} {n : Nat} : cutG xs (some (n : Int)) none = xs.drop n := by
  unfold cutG
  rw [HT.sIx_none, HT.sIx_nat]
  rcases Nat.le_total n xs.length with h | h
  · rw [Nat.min_eq_left h, ← List.length_drop, List.take_length]
  · rw [Nat.min_eq_right h, Nat.sub_self, List.take_zero, List.drop_of_length_le h]
theorem efDK {X : Cx} {z : Zn} {δ : List (Option Z.Ty)} {Ω : Own} {e : Expr} {es : List (L2.Key × Z.Ty)} (h : EvF X z δ Ω e (cDK es)) : EvG X z δ Ω e (tDK es) := EvG.imp (EvF.g h) fun _ _ => cDK_ty.mp
theorem efL {X : Cx} {z : Zn} {δ : List (Option Z.Ty)} {Ω : Own} {e : Expr} {es : List Z.Ty} (h : EvF X z δ Ω e (cL es)) : EvG X z δ Ω e (tL es) := EvG.imp (EvF.g h) fun _ _ => cL_ty.mp
section
variable {P : Program} {w : World} {K : PySem.W.Frag} {mg : Str → Option Value} {base : Heap}
def pCheckName : Pr (Str × Str) := ⟨fun i => nameB i.1 = true, fun i => [dat (.str i.1), dat (.str i.2)], fun _ => dat .none⟩
theorem smS_str {x : Str} (h : nameB x = true) : SmS (.str x) := ⟨(fun _ e => nomatch e), fun y e => by
    cases e
    have := (nameB_len h).2
    omega⟩
theorem isName_str {x : Str} (h : nameB x = true) : isName (.str x) = true := h
theorem cb_check_name (T : Txt K mg) : Cb CX0 P w K mg base 2 "check_name" ["value", "parameter"] pCheckName.sp := by
  refine cb_pr T.f_check_name sc_check_name bd_check_name (fun _ => rfl) fun f cdv A outer s H E i z hr pz hp => ?_
  refine sw_when (EvB.g (eb_notV (eb_val (ev_callD (P := pIsName) (.str i.1) (cb_is_name T) hr (by decide) (smS_str hp) (ea1 (ev_var 0)))))) (fun h => ?_) fun _ => sw_endT rfl
  rw [isName_str hp] at h
  cases h
def pCheckTowns : Pr (List Str) := ⟨fun ts => (1 ≤ ts.length ∧ ts.length ≤ 8) ∧ ∀ t ∈ ts, nameB t = true, fun ts => [dat (eL ts)], fun _ => dat .none⟩
theorem eL_toL {X : Cx} {z : Zn} {δ : List (Option Z.Ty)} {e : Expr} {ts : List Str} (h : EvD X z δ e (dat (eL ts))) : EvD X z δ e (tL (ts.map fun t => dat (.str t))) := by
  have := EvD.toL h
  rw [List.map_map] at this
  exact this
theorem eT_toT {X : Cx} {z : Zn} {δ : List (Option Z.Ty)} {e : Expr} {ts : List Str} (h : EvD X z δ e (dat (eT ts))) : EvD X z δ e (tT (ts.map fun t => dat (.str t))) := by
  have := EvD.toT h
  rw [List.map_map] at this
  exact this
theorem cb_check_towns (T : Txt K mg) : Cb CX0 P w K mg base 3 "check_towns" ["towns"] pCheckTowns.sp := by
  refine cb_pr T.f_check_towns sc_check_towns bd_check_towns (fun _ => rfl) fun f cdv A outer s H E ts z hr pz hp => ?_
  obtain ⟨⟨h1, h8⟩, hn⟩ := hp
  refine sw_when (EvB.g (eb_notV (p := true) (eb_val (ev_isiT2 (m := "list") (n := "tuple") T.isinstance_ ty_dat rfl (ev_var 0) (ev_tup (ea2 (ev_ty T.list_ (by decide +kernel)) (ev_ty T.tuple_ (by decide +kernel))) (by decide)))))) (fun h => nomatch h) fun _ => ?_
  refine sw_when (EvB.g (eb_notV (p := true) ((eb_lele ev_int (ev_lenLd T.len_ (ev_var 0)) (ev_gint T.MOST_TOWNS)).imp fun b h => ?_))) (fun h => nomatch h) fun _ => ?_
  · rw [h, List.length_map, decide_eq_true (by omega), decide_eq_true (by omega)]
    rfl
  · exact sw_for0 ts (fun t => dat (.str t)) (slots N_check_towns (([dat (eL ts)] : List Z.Ty).map some)) _ PassesOwn.never rfl (ei_listA ts _ (eL_toL (ev_var 0))) (pg_name nd_check_towns rfl (Or.inl rfl)) (fun x => tr_name 1) (Wk.rfl' _) (fun q m => nomatch m)
      (fun ys x zs e => sw_expr (EvD.g (ev_callD (P := pCheckName) (x, _) (cb_check_name T) hr (by decide) (hn x (by rw [e]; simp)) (ea2 (ev_var 1) ev_str))) (sw_nil ⟨by repeat (first | exact Wk.nil | apply Wk.cons | apply Wk.no), rfl⟩)) (sw_endT rfl)

def NoD2 {d : PyData} (h : isStr d = true ∨ isTup_ d = true ∨ isLst d = true) : NoD d := fun _ e => by
  subst e
  rcases h with h | h | h <;> cases h
def pIsPair : Pr (Str × Str) := ⟨POk, fun i => [dat (eP i)], fun _ => dat (.bool true)⟩
theorem cb_is_name_pair (T : Txt K mg) : Cb CX0 P w K mg base 2 "is_name_pair" ["value"] pIsPair.sp := by
  refine cb_pr T.f_is_name_pair sc_is_name_pair bd_is_name_pair (fun _ => rfl) fun f cdv A outer s H E i z hr pz hp => ?_
  obtain ⟨h1, h2⟩ := hp
  have nd : NoD (eP i) := NoD2 (.inr (.inl rfl))
  refine sw_when (P := fun b => b = false) (EvB.g (EvW.eb (ew_or (p := false) (q' := false) (eb_notV (p := true) (eb_val (ev_isi T.isinstance_ (kit_tup nd) (ev_var 0) (ev_ty T.tuple_ (by decide +kernel))))) fun _ => ew_or1 (EvB.imp (eb_neI (ev_lenTd (ds := [.str i.1, .str i.2]) T.len_ (ev_var 0)) ev_int) fun b h => h)))) (fun h => nomatch h) fun _ => ?_
  refine sw_retT rfl (EvD.g (ev_and (ev_callD (P := pIsName) (.str i.1) (cb_is_name T) hr (by decide) (smS_str h1) (ea1 (ev_ixTd (i := 0) rfl (ev_var 0) ev_int))) fun _ => ev_one (ev_callD (P := pIsName) (.str i.2) (cb_is_name T) hr (by decide) (smS_str h2) (ea1 (ev_ixTd (i := 1) rfl (ev_var 0) ev_int))))) (congrArg (fun b => dat (.bool b)) ?_)
  rw [isName_str h1, isName_str h2]
  rfl
def pCheckWays : Pr (List (Str × Str)) := ⟨fun rs => rs.length ≤ 1000 ∧ ∀ r ∈ rs, POk r, fun rs => [dat (.list (rs.map eP))], fun _ => dat .none⟩
theorem mapL {X : Cx} {z : Zn} {δ : List (Option Z.Ty)} {e : Expr} {α : Type} {f : α → PyData} {ts : List α} (h : EvD X z δ e (dat (.list (ts.map f)))) : EvD X z δ e (tL (ts.map fun t => dat (f t))) := by
  have := EvD.toL h
  rw [List.map_map] at this
  exact this
theorem mapT {X : Cx} {z : Zn} {δ : List (Option Z.Ty)} {e : Expr} {α : Type} {f : α → PyData} {ts : List α} (h : EvD X z δ e (dat (.tuple (ts.map f)))) : EvD X z δ e (tT (ts.map fun t => dat (f t))) := by
  have := EvD.toT h
  rw [List.map_map] at this
  exact this
theorem cb_check_ways (T : Txt K mg) : Cb CX0 P w K mg base 3 "check_ways" ["ways"] pCheckWays.sp := by
  refine cb_pr T.f_check_ways sc_check_ways bd_check_ways (fun _ => rfl) fun f cdv A outer s H E rs z hr pz hp => ?_
  obtain ⟨hl, hn⟩ := hp
  refine sw_when (EvB.g (eb_notV (p := true) (eb_val (ev_isiT2 (m := "list") (n := "tuple") T.isinstance_ ty_dat rfl (ev_var 0) (ev_tup (ea2 (ev_ty T.list_ (by decide +kernel)) (ev_ty T.tuple_ (by decide +kernel))) (by decide)))))) (fun h => nomatch h) fun _ => ?_
  exact sw_for0 rs (fun t => dat (eP t)) (slots N_check_ways (([dat (.list (rs.map eP))] : List Z.Ty).map some)) _ PassesOwn.never rfl (ei_listA rs _ (mapL (ev_var 0))) (pg_name nd_check_ways rfl (Or.inl rfl)) (fun x => tr_name 1) (Wk.rfl' _) (fun q m => nomatch m)
    (fun ys x zs e => sw_not (EvB.g (eb_notV (p := true) (eb_val (ev_callD (P := pIsPair) x (cb_is_name_pair T) hr (by decide) (hn x (by rw [e]; simp)) (ea1 (ev_var 1)))))) (sw_nil ⟨by repeat (first | exact Wk.nil | apply Wk.cons | apply Wk.no), rfl⟩)) (sw_endT rfl)
theorem bang_map {α : Type} [Inhabited α] [Inhabited β] {xs : List α} {f : α → β} {i : Nat} (h : i < xs.length) : (xs.map f)[i]! = f xs[i]! := by
  rw [getElem!_pos xs i h, getElem!_pos (xs.map f) i (by rw [List.length_map]; exact h), List.getElem_map]
theorem bang_range {n i : Nat} (h : i < n) : (List.range n)[i]! = i := by
  rw [getElem!_pos (List.range n) i (by rw [List.length_range]; exact h), List.getElem_range]
/-- by the turn's number -/
theorem ei_ix {X : Cx} {z : Zn} {δ : List (Option Z.Ty)} {tg it : Expr} {n : Nat} {F : Nat → Z.Ty} (h : EvI X z δ tg it n F) : EvI X z δ tg it (List.range n).length (fun i => F (List.range n)[i]!) := by
  rw [List.length_range]
  exact ei_mono h fun i hi v G t => by rw [bang_range hi]; exact t
theorem range_at {n i : Nat} {ys zs : List Nat} (h : List.range n = ys ++ i :: zs) : i < n ∧ ys = List.range i := by
  have h1 : i = ys.length := by
    have e := congrArg (fun l : List Nat => l[ys.length]?) h
    have hl : ys.length < n := by
      have := congrArg List.length h
      rw [List.length_range, List.length_append, List.length_cons] at this
      omega
    simp only [List.getElem?_range hl, List.getElem?_append_right (Nat.le_refl _), Nat.sub_self, List.getElem?_cons_zero] at e
    exact (Option.some.inj e).symm
  have hl : ys.length < n := by
    have := congrArg List.length h
    rw [List.length_range, List.length_append, List.length_cons] at this
    omega
  refine ⟨by omega, ?_⟩
  have e := congrArg (List.take ys.length) h
  rw [List.take_left', List.take_range, Nat.min_eq_left (by omega)] at e
  · rw [← e, h1]
  · rfl
def pCheckUnlike : Pr (List Str) := ⟨fun ts => ts.length ≤ 1000 ∧ ts.Nodup, fun ts => [dat (eL ts)], fun _ => dat .none⟩
theorem cb_check_unlike (T : Txt K mg) : Cb CX0 P w K mg base 1 "check_unlike" ["towns"] pCheckUnlike.sp := by
  refine cb_pr T.f_check_unlike sc_check_unlike bd_check_unlike (fun _ => rfl) fun f cdv A outer s H E ts z hr pz hp => ?_
  obtain ⟨hl, hn⟩ := hp
  refine sw_for0 (g := g2 K 1 2) (List.range ts.length) (fun i => tT [dat (.int (i : Int)), dat (.str ts[i]!)]) (slots N_check_unlike (([dat (eL ts)] : List Z.Ty).map some)) _ PassesOwn.never rfl (ei_ix (ei_enumA ts (fun t => dat (.str t)) T.enumerate_ (eL_toL (ev_var 0)))) ?_ (fun i => tr_tup2 1 2) (Wk.rfl' _) (fun q m => nomatch m)
    (fun ys i zs e => ?_) (sw_endT rfl)
  · exact pg_tup rfl (pgs_cons (pg_name nd_check_unlike rfl (Or.inl rfl)) (pgs_cons (pg_name nd_check_unlike rfl (Or.inl rfl)) pgs_nil))
  · refine sw_not (EvB.g (EvB.imp (eb_inL (x := ts[i]!) (ys := ts.take i) (ev_var 2) (EvD.imp (ev_slL (eL_toL (ev_var 0)) eo_none (eo_some (ev_var 1))) fun v G t => ?_)) fun b h => ?_)) (sw_nil ⟨by repeat (first | exact Wk.nil | apply Wk.cons | apply Wk.no), rfl⟩)
    · rw [cut_take, ← List.map_take] at t
      refine dat_list.mpr ?_
      rw [List.map_map]
      exact t
    · obtain ⟨hi, rfl⟩ := range_at e
      rw [h, decide_eq_false]
      intro m
      obtain ⟨j, hj, e2⟩ := List.getElem_of_mem m
      rw [List.length_take] at hj
      rw [List.getElem_take, getElem!_pos ts i hi] at e2
      exact List.pairwise_iff_getElem.mp hn j i (by omega) hi (by omega) e2

def pOrdered : Pr (Str × Str) := ⟨fun _ => True, fun i => [dat (.str i.1), dat (.str i.2)], fun i => dat (eP (opair i))⟩
theorem cb_ordered_pair (T : Txt K mg) : Cb CX0 P w K mg base 1 "ordered_pair" ["here", "there"] pOrdered.sp := by
  refine cb_pr T.f_ordered_pair sc_ordered_pair bd_ordered_pair (fun _ => rfl) fun f cdv A outer s H E i z hr pz hp => ?_
  by_cases h : ltS i.1 i.2 = true
  · refine sw_retT rfl (EvD.g (ev_ifT (EvB.imp (eb_ltS (ev_var 0) (ev_var 1)) fun b e => e.trans h) (ev_tupD (ds := [.str i.1, .str i.2]) (ea2 (ev_var 0) (ev_var 1)) (by show 2 ≤ 1000; decide)))) (congrArg dat ?_)
    unfold opair
    rw [if_pos h]
    rfl
  · have h' : ltS i.1 i.2 = false := by simpa using h
    refine sw_retT rfl (EvD.g (ev_ifF (EvB.imp (eb_ltS (ev_var 0) (ev_var 1)) fun b e => e.trans h') (ev_tupD (ds := [.str i.2, .str i.1]) (ea2 (ev_var 1) (ev_var 0)) (by show 2 ≤ 1000; decide)))) (congrArg dat ?_)
    unfold opair
    rw [if_neg h]
    rfl
theorem opair_ok {p : Str × Str} (h : POk p) : POk (opair p) := by
  unfold opair
  by_cases c : ltS p.1 p.2 = true
  · rw [if_pos c]; exact h
  · rw [if_neg c]; exact ⟨h.2, h.1⟩
/-- towns, the way, those before -/
def pWay : Pr (List Str × (Str × Str) × List (Str × Str)) := ⟨fun i => (POk i.2.1 ∧ ∀ q ∈ i.2.2, POk q) ∧ i.2.1.1 ∈ i.1 ∧ i.2.1.2 ∈ i.1 ∧ i.2.1.1 ≠ i.2.1.2 ∧ opair i.2.1 ∉ i.2.2, fun i => [dat (eL i.1), dat (eP i.2.1), dat (.list (i.2.2.map eP))], fun i => dat (eP (opair i.2.1))⟩
theorem cb_checked_way (T : Txt K mg) : Cb CX0 P w K mg base 2 "checked_way" ["towns", "way", "before"] pWay.sp := by
  refine cb_pr T.f_checked_way sc_checked_way bd_checked_way (fun _ => rfl) fun f cdv A outer s H E i z hr pz hp => ?_
  obtain ⟨ts, r, bs⟩ := i
  obtain ⟨⟨hr1, hb⟩, h1, h2, hne, hnb⟩ := hp
  refine sw_asg (g := g2 K 3 4) (EvD.g (EvD.toT (ds := [.str r.1, .str r.2]) (ev_var 1))) (pg_tup rfl (pgs_cons (pg_name nd_checked_way rfl (Or.inl rfl)) (pgs_cons (pg_name nd_checked_way rfl (Or.inl rfl)) pgs_nil))) (tr_tup2 3 4) ?_
  refine sw_not (EvB.g (EvB.imp (eb_ninL (ys := ts) (ev_var 3) (ev_var 0)) fun b e => by rw [e, decide_eq_true h1]; rfl)) ?_
  refine sw_not (EvB.g (EvB.imp (eb_ninL (ys := ts) (ev_var 4) (ev_var 0)) fun b e => by rw [e, decide_eq_true h2]; rfl)) ?_
  refine sw_not (EvB.g (EvB.imp (eb_eqS (ev_var 3) (ev_var 4)) fun b e => by rw [e, decide_eq_false hne])) ?_
  refine sw_set (T := dat (eP (opair r))) 5 nd_checked_way (EvD.g (ev_callD (P := pOrdered) r (cb_ordered_pair T) hr (by decide) trivial (ea2 (ev_var 3) (ev_var 4)))) ?_
  have okp := opair_ok hr1
  refine sw_not (EvB.g (EvB.imp (eb_inD hr (okD_shaped (ok_eP okp.1 okp.2) (by decide)) (okD_shaped (n := 2) (okDs_map (n := 1) bs fun q m => ok_eP (hb q m).1 (hb q m).2) (by decide)) (ev_var 5) (ev_var 2)) fun b e => by rw [e, any_pair hb okp, decide_eq_false hnb])) ?_
  exact sw_retT rfl (EvD.g (ev_var 5)) rfl
end
end K37
end
section
set_option maxRecDepth 100000
set_option maxHeartbeats 4000000
/-! W3: near_towns. -/
namespace K37
open PySem PySem.Spec PyProof.Rows L2
open Z
section
variable {P : Program} {w : World} {K : PySem.W.Frag} {mg : Str → Option Value} {base : Heap}
def nl (ts : List Str) (ps : List (Str × Str)) : List (L2.Key × List Z.Ty) := ts.map fun t => (.inr t, (t :: nbrs ps t).map fun s => dat (.str s))
theorem addAt_map {ts : List Str} {L : Str → List Z.Ty} {a : Str} {T : Z.Ty} : addAt (.inr a : L2.Key) T (ts.map fun t => (.inr t, L t)) = ts.map fun t => (.inr t, if t = a then L t ++ [T] else L t) := by
  unfold addAt
  rw [List.map_map]
  refine List.map_congr_left fun t _ => ?_
  show (if (Sum.inr t : L2.Key) = .inr a then ((.inr t : L2.Key), L t ++ [T]) else (.inr t, L t)) = _
  by_cases h : t = a
  · rw [if_pos (by rw [h]), if_pos h]
  · rw [if_neg (fun w => h (Sum.inr.inj w)), if_neg h]
theorem nl_snoc {ts : List Str} {ps : List (Str × Str)} {p : Str × Str} : addAt (.inr p.2 : L2.Key) (dat (.str p.1)) (addAt (.inr p.1 : L2.Key) (dat (.str p.2)) (nl ts ps)) = nl ts (ps ++ [p]) := by
  unfold nl
  rw [addAt_map, addAt_map]
  refine List.map_congr_left fun t _ => ?_
  congr 1
  have e : nbrs (ps ++ [p]) t = nbrs ps t ++ ((if p.1 = t then [p.2] else []) ++ (if p.2 = t then [p.1] else [])) := by
    unfold nbrs
    rw [List.flatMap_append, List.flatMap_cons, List.flatMap_nil, List.append_nil]
  rw [e]
  by_cases h1 : t = p.1
  · by_cases h2 : t = p.2
    · rw [if_pos h1, if_pos h2, if_pos h1.symm, if_pos h2.symm]
      simp
    · rw [if_pos h1, if_neg h2, if_pos h1.symm, if_neg (fun w => h2 w.symm)]
      simp
  · by_cases h2 : t = p.2
    · rw [if_neg h1, if_pos h2, if_neg (fun w => h1 w.symm), if_pos h2.symm]
      simp
    · rw [if_neg h1, if_neg h2, if_neg (fun w => h1 w.symm), if_neg (fun w => h2 w.symm)]
      simp
theorem look_strK {α : Type} {F : Str → α} {n : Str} : ∀ (ks : List Str), n ∈ ks → lookT (ks.map fun a => ((.inr a : L2.Key), F a)) (.inr n) = some (F n)
  | [], h => nomatch h
  | a :: r, h => by
    unfold lookT
    rw [List.map_cons, List.find?_cons]
    by_cases c : a = n
    · subst c
      simp
    · rw [decide_eq_false (fun w => c (Sum.inr.inj w))]
      exact look_strK r (by rcases List.mem_cons.mp h with w | w; exact absurd w.symm c; exact w)
theorem nbrs_len (ps : List (Str × Str)) (t : Str) : (nbrs ps t).length ≤ 2 * ps.length := by
  induction ps with
  | nil => exact Nat.le_refl _
  | cons p r ih =>
    have e : nbrs (p :: r) t = ((if p.1 = t then [p.2] else []) ++ (if p.2 = t then [p.1] else [])) ++ nbrs r t := rfl
    rw [e, List.length_append, List.length_append, List.length_cons]
    have h1 : (if p.1 = t then [p.2] else []).length ≤ 1 := by split <;> simp
    have h2 : (if p.2 = t then [p.1] else []).length ≤ 1 := by split <;> simp
    omega
def pNear : Pr (List Str × List (Str × Str)) := ⟨fun i => i.1.Nodup ∧ i.1.length ≤ 100 ∧ i.2.length ≤ 100 ∧ ∀ p ∈ i.2, p.1 ∈ i.1 ∧ p.2 ∈ i.1, fun i => [dat (eT i.1), dat (.tuple (i.2.map eP))], fun i => tDK (i.1.map fun t => (.inr t, dat (eT (sortN (t :: nbrs i.2 t)))))⟩
theorem cb_near_towns (T : Txt K mg) : Cb CX0 P w K mg base 1 "near_towns" ["towns", "pairs"] pNear.sp := by
  refine cb_pr T.f_near_towns sc_near_towns bd_near_towns (fun _ => rfl) fun f cdv A outer s H E i z hr pz hp => ?_
  obtain ⟨ts, ps⟩ := i
  obtain ⟨nd, hl1, hl2, hin⟩ := hp
  have hl1 : ts.length ≤ 100 := hl1
  have hl2 : ps.length ≤ 100 := hl2
  have hin : ∀ p ∈ ps, p.1 ∈ ts ∧ p.2 ∈ ts := hin
  have nd : ts.Nodup := nd
  intro F G H σ sf g
  refine w_pss (pss_cons (ps_set (i := 2) nd_near_towns rfl (Or.inr rfl) pe_w rfl (Or.inl rfl)) pss_w) ?_
  refine dc_deep ts (fun t => dat (.str t)) (fun t => .inr t) (fun t => [dat (.str t)]) 5 rfl nd_near_towns (ei_tupA ts _ (eT_toT (ev_var 0))) (blkOk_by (N := N_near_towns) (sc := defScope s_near_towns) (by decide +kernel)) (fun _ _ _ _ _ => pg_name nd_near_towns rfl (Or.inl rfl))
    (fun t m _ _ _ _ _ => EvD.rawS (ev_var 5)) (fun t m _ _ _ _ _ => ef_lst (ga_cons (EvD.g (ev_var 5)) ga_nil) (by show 1 ≤ 1000; decide)) (by omega) ?_ (fun _ => rfl) g fun D G1 H1 kvs x1 nD dp => ?_
  · exact map_nodup (fun a b h => Sum.inr.inj h) nd
  · have g1 : Good z G1 H1 (σ.set 2 (some (.ref D))) ((slots N_near_towns (([dat (eT ts), dat (.tuple (ps.map eP))] : List Z.Ty).map some)).set 2 (some (tRaw (.ref D)))) [] := ⟨g.bg.ext x1, (g.rs.mono x1.g).set rfl 2, trivial⟩
    have e0 : (ts.map fun t => ((.inr t : L2.Key), ([dat (.str t)] : List Z.Ty))) = nl ts [] := rfl
    rw [e0] at dp
    refine for_deep (mk := .dK) (g := g2 K 3 4) ps (fun p => tT [dat (.str p.1), dat (.str p.2)]) (nl ts) _ PassesOwn.never rfl (ei_mono (ei_tupA ps (fun p => dat (eP p)) (mapT (ev_var 1))) fun _ _ _ _ t => dat_tuple.mp t) (pg_tup rfl (pgs_cons (pg_name nd_near_towns rfl (Or.inl rfl)) (pgs_cons (pg_name nd_near_towns rfl (Or.inl rfl)) pgs_nil))) (fun p => tr_tup2 3 4)
      (fun ys p zs G2 H2 σ2 kvs2 e g2 d2 => ?_) (fun G2 H2 σ2 kvs2 s2 g2 d2 => ?_) (fun _ => rfl) (sf.trans x1.g) g1 dp
    · have hp : p.1 ∈ ts ∧ p.2 ∈ ts := hin p (by rw [e]; simp)
      have hy : ys.length ≤ ps.length := by rw [e, List.length_append]; omega
      have hu := hu1 hr
      refine w_pss (pss_cons ps_w (pss_cons ps_w pss_nil)) ?_
      refine deep_app (kk := (.inr p.1 : L2.Key)) (yt := tRaw (kV (.inr p.1))) (T := dat (.str p.2)) (i := 2) hu (fun G H y l h e => e ▸ DGet.k h) rfl (EvD.rawS (ev_var 3)) (ev_var 4) (look_strK ts hp.1) ?_ (g := g2) (d := d2) (q := fun G3 H3 g3 s3 d3 => ?_)
      · rw [List.length_map, List.length_cons]
        have := nbrs_len ys p.1
        omega
      · refine deep_app (kk := (.inr p.2 : L2.Key)) (yt := tRaw (kV (.inr p.2))) (T := dat (.str p.1)) (i := 2) hu (fun G H y l h e => e ▸ DGet.k h) rfl (EvD.rawS (ev_var 4)) (ev_var 3) (by rw [addAt_map]; exact look_strK ts hp.2) ?_ (g := g3) (d := d3) (q := fun G4 H4 g4 s4 d4 => ?_)
        · have := nbrs_len ys p.2
          split
          · rw [List.length_append, List.length_map, List.length_cons, List.length_singleton]
            omega
          · rw [List.length_map, List.length_cons]
            omega
        · have d4 : Deep .dK z G4 H4 D kvs2 (addAt (.inr p.2 : L2.Key) (dat (.str p.1)) (addAt (.inr p.1 : L2.Key) (dat (.str p.2)) (nl ts ys))) := d4
          rw [nl_snoc] at d4
          exact ⟨G4, kvs2, g4.weak (by repeat (first | exact Wk.nil | apply Wk.cons | apply Wk.no)), s3.trans s4, d4⟩
    · obtain ⟨G3, g3, s3, gD, en⟩ := d2.know g2
      obtain ⟨v0, ev, hv0⟩ := g2.rs.at_ 2 _ rfl
      have hv0 : v0 = .ref D := hv0
      subst hv0
      have g4 : Good z G3 H2 σ2 (((slots N_near_towns (([dat (eT ts), dat (.tuple (ps.map eP))] : List Z.Ty).map some)).set 2 (some (tRaw (.ref D)))).set 2 (some (tDK (ts.map fun t => (.inr t, tL ((t :: nbrs ps t).map fun s => dat (.str s))))))) [] := ⟨g3.bg, g3.rs.put ev ⟨D, kvs2, rfl, gD, by
        have := en
        unfold nl at this
        rw [List.map_map] at this
        exact this⟩, trivial⟩
      refine (id ?_ : SWs _ z _ _ _ []) F G3 H2 σ2 (s2.trans s3) g4
      refine sw_retT rfl (efDK (ef_dc1 ts (fun t => dat (.str t)) (fun t => .inr t) (fun t => dat (eT (sortN (t :: nbrs ps t)))) 5 rfl nd_near_towns (ei_tupA ts _ (eT_toT (ev_var 0))) (blkOk_by (N := N_near_towns) (sc := defScope s_near_towns) (by decide +kernel)) (fun _ _ _ _ _ => pg_name nd_near_towns rfl (Or.inl rfl))
        (fun t m _ _ _ _ _ => EvD.rawS (ev_var 5)) (fun t m _ _ _ _ _ => EvD.ofT (EvD.imp (ev_tupL T.tuple_ (ev_sortS hr T.sorted_ (ev_dget (kk := .inr t) (hu1 hr) (look_strK ts m) (EvD.rd (ev_var 2)) (EvD.rawS (ev_var 5))))) fun v G t => ?_)) (by omega) (map_nodup (fun a b h => Sum.inr.inj h) nd))) ?_
      · rw [List.map_map]
        exact t
      · rfl
end
end K37
end
section
set_option maxRecDepth 100000
set_option maxHeartbeats 4000000
/-! W4: Web and World made. -/
namespace K37
open PySem PySem.Spec PyProof.Rows L2
open Z
section
variable {P : Program} {w : World} {K : PySem.W.Frag} {mg : Str → Option Value} {base : Heap}
structure WebOk (ts : List Str) (rs : List (Str × Str)) : Prop where
  tl : 1 ≤ ts.length ∧ ts.length ≤ 8
  tn : ∀ t ∈ ts, nameB t = true
  td : ts.Nodup
  rl : rs.length ≤ 100
  rt : ∀ r ∈ rs, r.1 ∈ ts ∧ r.2 ∈ ts ∧ r.1 ≠ r.2
  rd : (rs.map opair).Nodup
theorem WebOk.pok {ts : List Str} {rs : List (Str × Str)} (h : WebOk ts rs) {r : Str × Str} (m : r ∈ rs) : POk r := ⟨h.tn _ (h.rt r m).1, h.tn _ (h.rt r m).2.1⟩
def pWebI : PrI (List Str × List (Str × Str)) := ⟨fun i => WebOk i.1 i.2, fun i => [dat (eL i.1), dat (.list (i.2.map eP))], fun i => fWeb i.1 i.2⟩
theorem eT_of {v : V} {G : Hp} {ts : List Str} (h : (tT (ts.map fun t => dat (.str t))).p v G) : (dat (eT ts)).p v G := by
  refine dat_tuple.mpr ?_
  rw [List.map_map]
  exact h
theorem eTf_of {α : Type} {f : α → PyData} {v : V} {G : Hp} {ts : List α} (h : (tT (ts.map fun t => dat (f t))).p v G) : (dat (.tuple (ts.map f))).p v G := by
  refine dat_tuple.mpr ?_
  rw [List.map_map]
  exact h
theorem eLf_of {α : Type} {f : α → PyData} {v : V} {G : Hp} {ts : List α} (h : (tL (ts.map fun t => dat (f t))).p v G) : (dat (.list (ts.map f))).p v G := by
  refine dat_list.mpr ?_
  rw [List.map_map]
  exact h
theorem cIn_ty {C : Addr} {fs : List (Str × Z.Ty)} {v : V} {G : Hp} (h : (cIn C fs).ty.p v G) : (tOb C fs).p v G := by
  obtain ⟨a, o, e, f, dx, gs, q, r⟩ := h
  exact ⟨a, dx, gs, e, by rw [f, q], r⟩
theorem depth_eP (p : Str × Str) : (eP p).depth ≤ 8 := by
  simp [eP, PyData.depth, PyData.depthAll]
theorem ib_Web (T : Txt K mg) : Ib P w K mg base 4 "Web" (He.ga K "Web") ["self", "towns", "ways"] (pWebI.sp (He.ga K "Web")) := by
  obtain ⟨fd, F⟩ := T.f_Web_init
  obtain ⟨ds, hv, hb⟩ := F.binds1 (ps := ["self", "towns", "ways"]) 3 1 (fun h => nomatch h) rfl (fun T kV doc pm an cdv ct us its h1 h2 => by
    match us, h1, its, h2 with
    | [a, b, c], _, [d], _ => exact ⟨_, rfl, rfl⟩)
  have hds : ds = [] := by
    have hv : Vals [] ds := hv
    cases hv
    rfl
  subst hds
  refine ib_prI T.g_Web T.m_Web F sc_Web_init hb (fun _ => rfl) fun cdv A outer s H E i z a hr hz hp => ?_
  obtain ⟨ts, rs⟩ := i
  have hp : WebOk ts rs := hp
  have hps : (sortP (rs.map opair)).length ≤ 100 := by
    unfold sortP
    rw [List.length_mergeSort, List.length_map]
    exact hp.rl
  refine sw_expr (EvD.g (ev_callD (P := pCheckTowns) ts (cb_check_towns T) hr (by decide) ⟨hp.tl, hp.tn⟩ (ea1 (ev_var 1)))) ?_
  refine sw_expr (EvD.g (ev_callD (P := pCheckWays) rs (cb_check_ways T) hr (by decide) ⟨Nat.le_trans hp.rl (by decide), fun r m => hp.pok m⟩ (ea1 (ev_var 2)))) ?_
  refine sw_expr (EvD.g (ev_callD (P := pCheckUnlike) ts (cb_check_unlike T) hr (by decide) ⟨Nat.le_trans hp.tl.2 (by decide), hp.td⟩ (ea1 (ev_var 1)))) ?_
  refine sw_setO 3 nd_Web_init ef_nil ?_
  refine sw_forS (S := List (Str × Str)) (J := [4]) (g := gName 4) rs (fun r => dat (eP r)) (fun ys s => s = ys.map opair) (fun _ => slots N_Web_init [none, some (dat (eL ts)), some (dat (.list (rs.map eP)))]) (fun s => [(3, none, cL (s.map fun p => dat (eP p))), (0, some a, cIn (He.ga K "Web") [])])
    (fun s r => (slots N_Web_init [none, some (dat (eL ts)), some (dat (.list (rs.map eP)))]).set 4 (some (dat (eP r)))) PassesOwn.never rfl (ei_listA rs _ (mapL (ev_var 2))) (pg_name nd_Web_init rfl (Or.inl rfl)) (fun s r => tr_name 4) (fun s q m => by
      rcases List.mem_cons.mp m with e | m
      · rw [e]; show (3 : Nat) ∉ [4]; decide
      · rw [List.mem_singleton.mp m]; show (0 : Nat) ∉ [4]; decide) ⟨[], rfl, by repeat (first | exact Wk.nil | apply Wk.cons | apply Wk.no), rfl⟩ (fun ys r zs s e hs => ?_) fun s hs => ?_
  · subst hs
    have hin : r ∈ rs := by rw [e]; simp
    have hlen : ys.length ≤ rs.length := by rw [e, List.length_append]; omega
    have hn : opair r ∉ ys.map opair := by
      have := hp.rd
      rw [e, List.map_append, List.map_cons] at this
      exact fun m => (List.nodup_append.mp this).2.2 _ m _ List.mem_cons_self rfl
    refine sw_app (T := dat (eP (opair r))) (EvG.view (flat_dat rfl) fun z' h1 h2 => ev_callD (P := pWay) (ts, r, ys.map opair) (cb_checked_way T) hr (by decide) ⟨⟨hp.pok hin, fun q m => ?_⟩, (hp.rt r hin).1, (hp.rt r hin).2.1, (hp.rt r hin).2.2, hn⟩ (ea_cons (ev_var 1) (ea2 (ev_var 4) (EvD.imp (ev_var 3) fun v G t => eLf_of (cL_ty.mp t))))) ?_ (sw_nil ⟨(ys ++ [r]).map opair, rfl, by repeat (first | exact Wk.nil | apply Wk.cons | apply Wk.no), ?_⟩)
    · obtain ⟨x, mx, rfl⟩ := List.mem_map.mp m
      exact opair_ok (hp.pok (by rw [e]; exact List.mem_append_left _ mx))
    · rw [List.length_map, List.length_map]
      have := hp.rl
      omega
    · show _ = [(3, none, cL (((ys ++ [r]).map opair).map fun p => dat (eP p))), _]
      rw [List.map_append, List.map_append]
      rfl
  · subst hs
    refine sw_freeze ?_
    refine sw_fld T.c_Web T.n_Web_own_towns (T := dat (eT (sortN ts))) (EvD.g (EvD.imp (ev_tupL T.tuple_ (ev_sortS hr T.sorted_ (eL_toL (ev_var 1)))) fun v G t => eT_of t)) (Nat.le_of_ble_eq_true rfl) ?_
    refine sw_fld T.c_Web T.n_Web_own_ways (T := dat (.tuple ((sortP (rs.map opair)).map eP))) (EvD.g (EvD.imp (ev_tupL T.tuple_ (ev_sort (enc := eP) hr T.sorted_ (PySem.W.AllAlike.of fun _ _ => by simp [eP, PySem.W.alike, PySem.W.alikeAll]) (PySem.W.Sortable.tuples fun p => ⟨_, _, rfl⟩) (fun p _ => depth_eP p) (EvD.imp (ev_var 3) fun v G t => cL_ty.mp t))) fun v G t => eTf_of t)) (Nat.le_of_ble_eq_true rfl) ?_
    refine sw_fld T.c_Web T.n_Web_own_near (T := tDK ((sortN ts).map fun t => (.inr t, dat (eT (near rs t))))) (EvG.viewI (fun o G h => by obtain ⟨dx, gs, e, _⟩ := h; rw [e]; rfl) (fi_DK fun q m => by obtain ⟨t, _, rfl⟩ := List.mem_map.mp m; exact fl_dat) fun z' h1 h2 => ?_) (Nat.le_of_ble_eq_true rfl) (sw_nil ⟨[], rfl⟩)
    have hsp : ∀ p ∈ sortP (rs.map opair), p.1 ∈ sortN ts ∧ p.2 ∈ sortN ts := fun p m => by
      have m2 : p ∈ rs.map opair := (List.mergeSort_perm _ _).mem_iff.mp m
      obtain ⟨r, mr, rfl⟩ := List.mem_map.mp m2
      have h3 := hp.rt r mr
      have q : ∀ t, t ∈ ts → t ∈ sortN ts := fun t mt => (sortN_perm ts).mem_iff.mpr mt
      unfold opair
      split
      · exact ⟨q _ h3.1, q _ h3.2.1⟩
      · exact ⟨q _ h3.2.1, q _ h3.1⟩
    exact ev_callD (P := pNear) (sortN ts, sortP (rs.map opair)) (cb_near_towns T) hr (by decide) ⟨(sortN_perm ts).nodup_iff.mpr hp.td, by rw [(sortN_perm ts).length_eq]; exact Nat.le_trans hp.tl.2 (by decide), hps, hsp⟩ (ea2 (ev_fld T.c_Web T.n_Web_own_towns rfl (EvD.imp (ev_var 0) fun _ _ => cIn_ty)) (ev_fld T.c_Web T.n_Web_own_ways rfl (EvD.imp (ev_var 0) fun _ _ => cIn_ty)))
end
end K37
end
section
set_option maxRecDepth 100000
set_option maxHeartbeats 4000000
/-! W5: worlds. -/
namespace K37
open PySem PySem.Spec PyProof.Rows L2
open Z
theorem ei_rangeA {X : Cx} {z : Zn} {δ : List (Option Z.Ty)} {tg a : Expr} {p pos : Pos} {m : Int} (n : Nat) (hn : m.toNat = n) (hm : X.mg "range" = none) (hb : -1000 ≤ m ∧ m ≤ 1000) (ha : EvD X z δ a (dat (.int m))) (hg : Gl X "range" := by rfl) (hs : starEach [a] X.env = [(false, eval a X.env)] := by rfl) :
    EvI X z δ tg (.Call (.Name "range" p) [a] [] pos) (List.range n).length (fun i => (fun (i : Nat) => dat (.int (i : Int))) (List.range n)[i]!) := by
  have h := ei_range1 (tg := tg) (p := p) (pos := pos) hm (m := m) ⟨by omega, by omega⟩ ha hg hs
  rw [hn] at h
  exact ei_ix h
section
variable {P : Program} {w : World} {K : PySem.W.Frag} {mg : Str → Option Value} {base : Heap}
structure PlOk (ts : List Str) : Prop where
  len : 1 ≤ ts.length ∧ ts.length ≤ 7
  nm : ∀ t ∈ ts, nameB t = true
def pIsPlan : Pr (List Str) := ⟨PlOk, fun ts => [dat (eT ts)], fun _ => dat (.bool true)⟩
theorem cb_is_plan (T : Txt K mg) : Cb CX0 P w K mg base 2 "is_plan" ["value"] pIsPlan.sp := by
  refine cb_pr T.f_is_plan sc_is_plan bd_is_plan (fun _ => rfl) fun f cdv A outer s H E ts z hr pz hp => ?_
  obtain ⟨⟨h1, h7⟩, hn⟩ := hp
  have nd : NoD (eT ts) := NoD2 (.inr (.inl rfl))
  refine sw_when (P := fun b => b = false) (EvB.g (EvW.eb (ew_or (p := false) (q' := false) (eb_notV (p := true) (eb_val (ev_isi T.isinstance_ (kit_tup nd) (ev_var 0) (ev_ty T.tuple_ (by decide +kernel))))) fun _ => ew_or1 (eb_notV (p := true) (EvB.imp (eb_lele ev_int (ev_lenTd (ds := ts.map PyData.str) T.len_ (ev_var 0)) (ev_add (ev_gint T.LAST_DAY) ev_int)) fun b h => ?_))))) (fun h => nomatch h) fun _ => ?_
  · rw [h, List.length_map, decide_eq_true (by omega), decide_eq_true (by omega)]
    rfl
  · refine sw_retT rfl (EvD.g (ev_all (bs := ts.map fun t => isName (.str t)) rfl T.all_ (by
      rw [List.map_map, ← map_all (xs := ts)]
      exact ev_lc1 ts (fun t => dat (.str t)) (fun _ => true) _ 1 rfl nd_is_plan (ei_tupA ts _ (eT_toT (ev_var 0))) (blkOk_by (N := N_is_plan) (sc := defScope s_is_plan) (by decide +kernel)) (fun _ _ _ _ _ => pg_name nd_is_plan rfl (Or.inl rfl)) (fun _ _ _ _ _ _ _ => et_nil)
        (fun t m _ _ _ _ _ _ => ev_callD (P := pIsName) (.str t) (cb_is_name T) hr (by decide) (smS_str (hn t m)) (ea1 (ev_var 1))) (by omega)))) (congrArg (fun b => dat (.bool b)) ?_)
    rw [List.all_map]
    exact List.all_eq_true.mpr fun t m => hn t m
structure KsOk (ks : List Str) (pl : Plans) : Prop where
  len : 1 ≤ ks.length ∧ ks.length ≤ 6
  nm : ∀ n ∈ ks, nameB n = true
  nd : ks.Nodup
  pl : ∀ n ∈ ks, PlOk (pl n)
def pCheckPlans : Pr (List Str × Plans) := ⟨fun i => KsOk i.1 i.2, fun i => [tPl i.1 i.2], fun _ => dat .none⟩
theorem ents_at {ks : List Str} {pl : Plans} {i : Nat} {q : L2.Key × Z.Ty} (h : (ks.map fun n => ((.inr n : L2.Key), dat (eT (pl n))))[i]? = some q) (hi : i < ks.length) : q = (.inr ks[i]!, dat (eT (pl ks[i]!))) := by
  rw [List.getElem?_map, List.getElem?_eq_getElem hi] at h
  rw [getElem!_pos ks i hi]
  exact (Option.some.inj h).symm
theorem cb_check_plans (T : Txt K mg) : Cb CX0 P w K mg base 3 "check_plans" ["plans"] pCheckPlans.sp := by
  refine cb_pr T.f_check_plans sc_check_plans bd_check_plans (fun _ => rfl) fun f cdv A outer s H E i z hr pz hp => ?_
  obtain ⟨ks, pl⟩ := i
  obtain ⟨⟨h1, h6⟩, hn, hd, hpl⟩ := hp
  have h1 : 1 ≤ ks.length := h1
  have h6 : ks.length ≤ 6 := h6
  refine sw_when (EvB.g (eb_notV (p := true) (eb_val (ev_isiT T.isinstance_ ty_dk (.ty "dict") rfl (ev_var 0) (ev_ty T.dict_ (by decide +kernel)))))) (fun h => nomatch h) fun _ => ?_
  refine sw_when (EvB.g (eb_notV (p := true) (EvB.imp (eb_lele ev_int (ev_lenD T.len_ (EvD.rd (ev_var 0))) (ev_gint T.MOST_TRAVELLERS)) fun b h => ?_))) (fun h => nomatch h) fun _ => ?_
  · rw [h, List.length_map, decide_eq_true (by omega), decide_eq_true (by omega)]
    rfl
  · refine sw_lock 0 rfl (fun q m => ?_) (fun j T' hj e => ?_) (fun q m => nomatch m) fun z' d hz => ?_
    · obtain ⟨n, _, rfl⟩ := List.mem_map.mp m
      exact fl_dat
    · match j, e with
      | 0, _ => exact absurd rfl hj
      | 1, e => cases e
      | 2, e => cases e
    · refine s1_forS (S := Unit) (g := g2 K 1 2) (J := [1, 2]) ks (fun n => tT [dat (.str n), dat (eT (pl n))]) (fun _ _ => True) (fun _ => slots N_check_plans [some (tFz d (ks.map fun n => (.inr n, dat (eT (pl n)))))]) (fun _ => []) (fun _ n => ((slots N_check_plans [some (tFz d (ks.map fun n => (.inr n, dat (eT (pl n)))))]).set 1 (some (dat (.str n)))).set 2 (some (dat (eT (pl n))))) PassesOwn.never rfl ?_
        (pg_tup rfl (pgs_cons (pg_name nd_check_plans rfl (Or.inl rfl)) (pgs_cons (pg_name nd_check_plans rfl (Or.inl rfl)) pgs_nil))) (fun _ n => tr_tup2 1 2) (fun _ q m => nomatch m) ⟨(), trivial, Wk.rfl' _, rfl⟩ (fun ys n zs _ e _ => ?_) fun _ _ => ⟨rfl, (fun j T' hj e => ?_), (fun q (m : q ∈ ([] : Own)) => nomatch m), ?_⟩
      · rw [show ks.length = (ks.map fun n => ((.inr n : L2.Key), dat (eT (pl n)))).length from (List.length_map _).symm]
        refine ei_mono (ei_items (ev_var 0)) fun i hi v G t => ?_
        rw [List.length_map] at hi
        obtain ⟨q, hq, t⟩ := t
        rw [ents_at hq hi] at t
        obtain ⟨a, vs, e, f, r⟩ := t
        obtain ⟨v1, v2, rfl, t1, t2⟩ := reps2 r
        have t1 : v1 = .str ks[i]! := t1
        exact ⟨a, _, e, f, .cons (by rw [t1]; exact .str _) (.cons t2 .nil)⟩
      · have hm : n ∈ ks := by rw [e]; simp
        refine sw_not (EvB.g (EvW.eb (ew_or (p := false) (q' := false) (eb_notV (p := true) (eb_val (EvD.imp (ev_callD (P := pIsName) (.str n) (cb_is_name T) hr (by decide) (smS_str (hn n hm)) (ea1 (ev_var 1))) fun v G t => ?_))) fun _ => ew_or1 (eb_notV (p := true) (eb_val (ev_callD (P := pIsPlan) (pl n) (cb_is_plan T) hr (by decide) (hpl n hm) (ea1 (ev_var 2)))))))) (sw_nil ⟨(), trivial, by repeat (first | exact Wk.nil | apply Wk.cons | apply Wk.no), rfl⟩)
        have t : (dat (.bool (isName (.str n)))).p v G := t
        rw [isName_str (hn n hm)] at t
        exact t
      · match j, e with
        | 0, _ => exact absurd rfl hj
        | 1, e => cases e
        | 2, e => cases e
      · exact sw_endT rfl

def StepsOk (rs : List (Str × Str)) (plan : List Str) : Prop := ∀ i, i + 1 < plan.length → plan[i + 1]! ∈ near rs plan[i]!
def pCheckSteps (K : PySem.W.Frag) : Pr (List Str × List (Str × Str) × List Str) := ⟨fun i => (i.2.2.length ≤ 7 ∧ ∀ t ∈ i.2.2, t ∈ i.1) ∧ StepsOk i.2.1 i.2.2, fun i => [tWeb K i.1 i.2.1, dat (eT i.2.2)], fun _ => dat .none⟩
theorem at_eT {X : Cx} {z : Zn} {δ : List (Option Z.Ty)} {a b : Expr} {pos : Pos} {ts : List Str} {n : Nat} (h : n < ts.length) (ha : EvD X z δ a (dat (eT ts))) (hb : EvD X z δ b (dat (.int (n : Int)))) (hs : PlainIx b := by exact fun _ _ => rfl) : EvD X z δ (.Subscript a b pos) (dat (.str ts[n]!)) := by
  have e : atI (ts.map PyData.str) (n : Int) = some (.str ts[n]!) := by
    rw [at_nat (by rw [List.length_map]; exact h), bang_map h]
  exact ev_ixTd e ha hb hs
theorem cb_check_steps (T : Txt K mg) : Cb CX0 P w K mg base 1 "check_steps" ["web", "plan"] (pCheckSteps K).sp := by
  refine cb_pr T.f_check_steps sc_check_steps bd_check_steps (fun _ => rfl) fun f cdv A outer s H E i z hr pz hp => ?_
  obtain ⟨ts, rs, plan⟩ := i
  obtain ⟨⟨hl, hin⟩, hst⟩ := hp
  have hl : plan.length ≤ 7 := hl
  have hin : ∀ t ∈ plan, t ∈ ts := hin
  have hst : StepsOk rs plan := hst
  have hs : ∀ t ∈ plan, t ∈ sortN ts := fun t m => (sortN_perm ts).mem_iff.mpr (hin t m)
  refine sw_for0 (J := [2]) (g := gName 2) plan (fun t => dat (.str t)) (slots N_check_steps [some (tWeb K ts rs), some (dat (eT plan))]) _ PassesOwn.never rfl (ei_tupA plan _ (eT_toT (ev_var 1))) (pg_name nd_check_steps rfl (Or.inl rfl)) (fun x => tr_name 2) (Wk.rfl' _) (fun q m => nomatch m)
    (fun ys t zs e => sw_not (EvB.g (EvB.imp (eb_dnin (kk := .inr t) (hu1 hr) (EvD.rawS (ev_var 2)) (EvD.rd (ev_fld T.c_Web T.n_Web_own_near rfl (ev_var 0)))) fun b h => ?_)) (sw_nil ⟨by repeat (first | exact Wk.nil | apply Wk.cons | apply Wk.no), rfl⟩)) ?_
  · rw [h, look_str, if_pos (hs t (by rw [e]; simp))]
    rfl
  refine sw_for0 (J := [3]) (g := gName 3) (List.range (plan.length - 1)) (fun i => dat (.int (i : Int))) (slots N_check_steps [some (tWeb K ts rs), some (dat (eT plan))]) _ PassesOwn.never rfl (ei_rangeA (plan.length - 1) ?_ T.range_ ?_ (ev_sub (ev_lenTd (ds := plan.map PyData.str) T.len_ (ev_var 1)) ev_int)) (pg_name nd_check_steps rfl (Or.inl rfl)) (fun x => tr_name 3) (Wk.rfl' _) (fun q m => nomatch m)
    (fun ys i zs e => ?_) (sw_endT rfl)
  · rw [List.length_map]
    omega
  · rw [List.length_map]
    omega
  · obtain ⟨hi, _⟩ := range_at e
    have hi1 : i < plan.length := by omega
    have hi2 : i + 1 < plan.length := by omega
    refine sw_set 4 nd_check_steps (EvD.g (at_eT hi1 (ev_var 1) (ev_var 3))) ?_
    refine sw_set 5 nd_check_steps (T := dat (.str plan[i + 1]!)) (EvD.g (at_eT hi2 (ev_var 1) (EvD.imp (ev_add (ev_var 3) ev_int) fun v G t => ?_))) ?_
    · have e2 : ((i : Int) + 1) = ((i + 1 : Nat) : Int) := by omega
      rw [e2] at t
      exact t
    · have m1 : plan[i]! ∈ sortN ts := hs _ (nth_bang hi1)
      exact sw_not (EvB.g (EvB.imp (eb_ninT (x := plan[i + 1]!) (ys := near rs plan[i]!) (ev_var 5) (ev_dget (kk := .inr plan[i]!) (hu1 hr) (look_strK (sortN ts) m1) (EvD.rd (ev_fld T.c_Web T.n_Web_own_near rfl (ev_var 0))) (EvD.rawS (ev_var 4)))) fun b h => by rw [h, decide_eq_true (hst i hi2)]; rfl)) (sw_nil ⟨by repeat (first | exact Wk.nil | apply Wk.cons | apply Wk.no), rfl⟩)
def pKnown : Pr (List Str × Plans × Str) := ⟨fun i => i.2.2 ∈ i.1, fun i => [tPl i.1 i.2.1, dat (.str i.2.2)], fun i => dat (eT (i.2.1 i.2.2))⟩
theorem cb_known_plan (T : Txt K mg) : Cb CX0 P w K mg base 1 "known_plan" ["plans", "name"] pKnown.sp := by
  refine cb_pr T.f_known_plan sc_known_plan bd_known_plan (fun _ => rfl) fun f cdv A outer s H E i z hr pz hp => ?_
  obtain ⟨ks, pl, n⟩ := i
  have hp : n ∈ ks := hp
  refine sw_not (EvB.g (EvB.imp (eb_dnin (kk := .inr n) (hu1 hr) (EvD.rawS (ev_var 1)) (EvD.rd (ev_var 0))) fun b h => ?_)) (sw_retT rfl (EvD.g (ev_dget (kk := .inr n) (hu1 hr) (look_strK ks hp) (EvD.rd (ev_var 0)) (EvD.rawS (ev_var 1)))) rfl)
  rw [h, look_str, if_pos hp]
  rfl
end
end K37
end
section
set_option maxRecDepth 100000
set_option maxHeartbeats 4000000
/-! W6: World made, read, compared. -/
namespace K37
open PySem PySem.Spec PyProof.Rows L2
open Z
section
variable {P : Program} {w : World} {K : PySem.W.Frag} {mg : Str → Option Value} {base : Heap}
structure WorldOk (ts : List Str) (rs : List (Str × Str)) (ks : List Str) (pl : Plans) : Prop where
  web : WebOk ts rs
  ok : KsOk ks pl
  inn : ∀ n ∈ ks, ∀ t ∈ pl n, t ∈ ts
  st : ∀ n ∈ ks, StepsOk rs (pl n)
abbrev WIx := List Str × List (Str × Str) × List Str × Plans
def pWorldI (K : PySem.W.Frag) : PrI WIx := ⟨fun i => WorldOk i.1 i.2.1 i.2.2.1 i.2.2.2, fun i => [tWeb K i.1 i.2.1, tPl i.2.2.1 i.2.2.2], fun i => fWorld K i.1 i.2.1 i.2.2.1 i.2.2.2⟩
theorem ev_sortPl {X : Cx} {z : Zn} {δ : List (Option Z.Ty)} {a : Expr} {p pos : Pos} {ks : List Str} {F : Str → Z.Ty} (hm : X.mg "sorted" = none) (hl : ks.length ≤ 6) (ha : EvD X z δ a (tDK (ks.map fun n => (.inr n, F n)))) (hc : X.calm = true := by rfl) (hg : Gl X "sorted" := by rfl) (he : starEach [a] X.env = (false, eval a X.env) :: starEach [] X.env := by rfl) :
    EvD X z δ (.Call (.Name "sorted" p) [a] [] pos) (tL ((sortN ks).map fun b => dat (.str b))) := ev_sortD (ks := ks) (es' := ks.map fun n => (.inr n, F n)) hc hm (by rw [List.map_map]; rfl) (by omega) (EvD.rd ha) hg he
theorem NoD_int (i : Int) : NoD (.int i) := fun _ h => nomatch h
theorem inr_inj (a b : Str) (h : (Sum.inr a : L2.Key) = .inr b) : a = b := Sum.inr.inj h
theorem ib_World (T : Txt K mg) : Ib P w K mg base 5 "World" (He.ga K "World") ["self", "web", "plans"] ((pWorldI K).sp (He.ga K "World")) := by
  obtain ⟨fd, F⟩ := T.f_World_init
  refine ib_prI T.g_World T.m_World F sc_World_init (F.bindsN bd_World_init) (fun _ => rfl) fun cdv A outer s H E i z a hr hz hp => ?_
  obtain ⟨ts, rs, ks, pl⟩ := i
  have hp : WorldOk ts rs ks pl := hp
  have hk6 : ks.length ≤ 6 := hp.ok.len.2
  have hsl : (sortN ks).length = ks.length := (sortN_perm ks).length_eq
  have hm : ∀ {n}, n ∈ sortN ks → n ∈ ks := fun m => (sortN_perm ks).mem_iff.mp m
  refine sw_expr (EvD.g (ev_callD (P := pCheckPlans) (ks, pl) (cb_check_plans T) hr (by decide) hp.ok (ea1 (ev_var 2)))) ?_
  refine sw_set 3 nd_World_init (T := tL ((sortN ks).map fun n => dat (.str n))) (EvD.g (ev_sortPl T.sorted_ hk6 (ev_var 2))) ?_
  refine sw_for0 (J := [4]) (g := gName 4) (sortN ks) (fun n => dat (.str n)) (slots N_World_init [none, some (tWeb K ts rs), some (tPl ks pl), some (tL ((sortN ks).map fun n => dat (.str n)))]) _ PassesOwn.never rfl (ei_listA (sortN ks) (fun n => dat (.str n)) (ev_var 3)) (pg_name nd_World_init rfl (Or.inl rfl)) (fun x => tr_name 4) (by repeat (first | exact Wk.nil | apply Wk.cons | apply Wk.no)) (fun q m => by rw [List.mem_singleton.mp m]; show (0 : Nat) ∉ [4]; decide)
    (fun ys n zs e => ?_) ?_
  · have mn : n ∈ ks := hm (by rw [e]; simp)
    exact sw_expr (EvD.g (ev_callD (P := pCheckSteps K) (ts, rs, pl n) (cb_check_steps T) hr (by decide) ⟨⟨(hp.ok.pl n mn).len.2, hp.inn n mn⟩, hp.st n mn⟩ (ea2 (ev_var 1) (ev_dget (kk := .inr n) (hu1 hr) (look_strK ks mn) (EvD.rd (ev_var 2)) (EvD.rawS (ev_var 4)))))) (sw_nil ⟨by repeat (first | exact Wk.nil | apply Wk.cons | apply Wk.no), rfl⟩)
  · refine sw_fld T.c_World T.n_World_own_web (EvD.g (ev_var 1)) (Nat.le_of_ble_eq_true rfl) ?_
    refine sw_fld T.c_World T.n_World_own_names (T := dat (eT (sortN ks))) (EvD.g (EvD.imp (ev_tupL T.tuple_ (ev_var 3)) fun v G t => eT_of t)) (Nat.le_of_ble_eq_true rfl) ?_
    refine sw_fld T.c_World T.n_World_own_rows (T := dat (.tuple ((sortN ks).map (eRow pl)))) (EvD.g (EvD.imp (ev_tupL (Us := (sortN ks).map fun n => dat (eRow pl n)) T.tuple_ (by
      rw [← map_all (xs := sortN ks) (f := fun n => dat (eRow pl n))]
      exact ev_lc1 (sortN ks) (fun n => dat (.str n)) (fun _ => true) _ 4 rfl nd_World_init (ei_listA (sortN ks) (fun n => dat (.str n)) (ev_var 3)) (blkOk_by (N := N_World_init) (sc := defScope s_World_init) (by decide +kernel)) (fun _ _ _ _ _ => pg_name nd_World_init rfl (Or.inl rfl)) (fun _ _ _ _ _ _ _ => et_nil)
        (fun n m _ _ _ _ _ _ => ev_tupD (ds := [.str n, eT (pl n)]) (ea2 (ev_var 4) (ev_dget (kk := .inr n) (hu1 hr) (look_strK ks (hm m)) (EvD.rd (ev_var 2)) (EvD.rawS (ev_var 4)))) (by show 2 ≤ 1000; decide)) (by omega))) fun v G t => eTf_of t)) (Nat.le_of_ble_eq_true rfl) ?_
    refine sw_fld T.c_World T.n_World_own_plans (T := tPl (sortN ks) pl) (efDK (ef_dc1 (sortN ks) (fun n => dat (.str n)) (fun n => .inr n) (fun n => dat (eT (pl n))) 4 rfl nd_World_init (ei_listA (sortN ks) (fun n => dat (.str n)) (ev_var 3)) (blkOk_by (N := N_World_init) (sc := defScope s_World_init) (by decide +kernel)) (fun _ _ _ _ _ => pg_name nd_World_init rfl (Or.inl rfl))
      (fun n m _ _ _ _ _ => EvD.rawS (ev_var 4)) (fun n m _ _ _ _ _ => ev_dget (kk := .inr n) (hu1 hr) (look_strK ks (hm m)) (EvD.rd (ev_var 2)) (EvD.rawS (ev_var 4))) (by omega) (map_nodup inr_inj ((sortN_perm ks).nodup_iff.mpr hp.ok.nd)))) (Nat.le_of_ble_eq_true rfl) (sw_nil ⟨[], rfl⟩)

/-! ### read -/
def tWo (K : PySem.W.Frag) (i : WIx) : Z.Ty := tWorld K i.1 i.2.1 i.2.2.1 i.2.2.2
def pGetWeb (K : PySem.W.Frag) : Pr WIx := ⟨fun _ => True, fun i => [tWo K i], fun i => tWeb K i.1 i.2.1⟩
def pGetRows (K : PySem.W.Frag) : Pr WIx := ⟨fun _ => True, fun i => [tWo K i], fun i => dat (.tuple ((sortN i.2.2.1).map (eRow i.2.2.2)))⟩
def pGetPlans (K : PySem.W.Frag) : Pr WIx := ⟨fun i => i.2.2.1.Nodup ∧ i.2.2.1.length ≤ 6, fun i => [tWo K i], fun i => tPl (sortN i.2.2.1) i.2.2.2⟩
theorem pb_web (T : Txt K mg) : Pb P w K mg base 1 (He.ga K "World") "web" (pGetWeb K).sp := by
  obtain ⟨pr, fd, F⟩ := T.p_web
  refine ⟨T.c_World, _, _, fd, pr, ok_pr F sc_World_web (fun _ => rfl) fun cdv A outer s H E i z hr pz hp => ?_, F.bindsN bd_World_web⟩
  exact sw_retT rfl (EvD.g (ev_fld T.c_World T.n_World_own_web rfl (ev_var 0))) rfl
theorem pb_rows (T : Txt K mg) : Pb P w K mg base 1 (He.ga K "World") "rows" (pGetRows K).sp := by
  obtain ⟨pr, fd, F⟩ := T.p_rows
  refine ⟨T.c_World, _, _, fd, pr, ok_pr F sc_World_rows (fun _ => rfl) fun cdv A outer s H E i z hr pz hp => ?_, F.bindsN bd_World_rows⟩
  exact sw_retT rfl (EvD.g (ev_fld T.c_World T.n_World_own_rows rfl (ev_var 0))) rfl
theorem pb_plans (T : Txt K mg) : Pb P w K mg base 1 (He.ga K "World") "plans" (pGetPlans K).sp := by
  obtain ⟨pr, fd, F⟩ := T.p_plans
  refine ⟨T.c_World, _, _, fd, pr, ok_pr F sc_World_plans (fun _ => rfl) fun cdv A outer s H E i z hr pz hp => ?_, F.bindsN bd_World_plans⟩
  obtain ⟨ts, rs, ks, pl⟩ := i
  obtain ⟨hn, hl⟩ := hp
  have hl : ks.length ≤ 6 := hl
  have hsl : (sortN ks).length = ks.length := (sortN_perm ks).length_eq
  exact sw_retT rfl (efDK (ef_dc2 (sortN ks) (fun n => dat (.str n)) (fun n => dat (eT (pl n))) (fun n => .inr n) (fun n => dat (eT (pl n))) 1 2 rfl nd_World_plans (ei_mono (ei_tupA (sortN ks) (fun n => dat (eRow pl n)) (mapT (ev_fld T.c_World T.n_World_own_rows rfl (ev_var 0)))) fun _ _ _ _ t => dat_tuple.mp t) (blkOk_by (N := N_World_plans) (sc := defScope s_World_plans) (by decide +kernel))
    (fun _ _ _ _ _ => pg_tup rfl (pgs_cons (pg_name nd_World_plans rfl (Or.inl rfl)) (pgs_cons (pg_name nd_World_plans rfl (Or.inl rfl)) pgs_nil))) (fun n m _ _ _ _ _ => EvD.rawS (ev_var 1)) (fun n m _ _ _ _ _ => ev_var 2) (by omega) (map_nodup inr_inj ((sortN_perm ks).nodup_iff.mpr hn)))) rfl
def pPlace (K : PySem.W.Frag) : Pr (WIx × Str × Nat) := ⟨fun i => (i.2.1 ∈ i.1.2.2.1 ∧ nameB i.2.1 = true) ∧ i.2.2 ≤ 6 ∧ i.2.2 < (i.1.2.2.2 i.2.1).length, fun i => [tWo K i.1, dat (.str i.2.1), dat (.int (i.2.2 : Int))], fun i => dat (.str (i.1.2.2.2 i.2.1)[i.2.2]!)⟩
theorem mb_place (T : Txt K mg) : Mb P w K mg base 3 (He.ga K "World") "place" ["self", "name", "day"] (pPlace K).sp := by
  obtain ⟨fd, F⟩ := T.f_World_place
  refine ⟨T.c_World, _, fd, T.me_World_place, ok_pr F sc_World_place (fun _ => rfl) fun cdv A outer s H E i z hr pz hp => ?_, F.bindsN bd_World_place⟩
  obtain ⟨⟨ts, rs, ks, pl⟩, n, d⟩ := i
  obtain ⟨⟨hn, hb⟩, h6, hd⟩ := hp
  have h6 : d ≤ 6 := h6
  have hd : d < (pl n).length := hd
  have hn : n ∈ ks := hn
  refine sw_expr (EvD.g (ev_callD (P := pCheckName) (n, "name") (cb_check_name T) hr (by decide) hb (ea2 (ev_var 1) ev_str))) ?_
  refine sw_not (EvB.g (eb_notV (p := true) (eb_val (EvD.imp (ev_callD (P := pIsDay) (.int (d : Int)) (cb_is_day T) hr (by decide) (NoD_int _) (ea1 (ev_var 2))) fun v G t => ?_)))) ?_
  · have e : isDay (.int (d : Int)) = true := by
      show (decide (0 ≤ (d : Int)) && decide ((d : Int) ≤ 6)) = true
      rw [decide_eq_true (by omega), decide_eq_true (by omega)]
      rfl
    have t : (dat (.bool (isDay (.int (d : Int))))).p v G := t
    rw [e] at t
    exact t
  · refine sw_set 3 nd_World_place (T := dat (eT (pl n))) (EvD.g (ev_callD (P := pKnown) (sortN ks, pl, n) (cb_known_plan T) hr (by decide) ((sortN_perm ks).mem_iff.mpr hn) (ea2 (ev_fld T.c_World T.n_World_own_plans rfl (ev_var 0)) (ev_var 1)))) ?_
    refine sw_retT rfl (EvD.g (ev_ifT (EvB.imp (eb_lt (ev_var 2) (ev_lenTd (ds := (pl n).map PyData.str) T.len_ (ev_var 3))) fun b h => ?_) (at_eT hd (ev_var 3) (ev_var 2)))) rfl
    rw [h, List.length_map]
    exact decide_eq_true (Int.ofNat_lt.mpr hd)

/-! ### compared -/
def RObj (C : Addr) (fs : List (Str × Z.Ty)) (a b : Addr) (H : Hp) : Prop := ∃ G, Le G H ∧ (tOb C fs).p (.ref a) G ∧ (tOb C fs).p (.ref b) G
theorem r2_own {sa : Option Addr} {C : Addr} {fs : List (Str × Z.Ty)} {R : Addr → Addr → Hp → Prop} (hR : ∀ a b H, RObj C fs a b H → R a b H) : R2T sa (rEqG (DIns C R)) (tOb C fs) (tOb C fs) (dat (.bool true)) := fun x y G H l st t u Q q => by
  obtain ⟨a, dx, gs, rfl, ea, ra⟩ := id t
  obtain ⟨b, dy, hs, rfl, eb, rb⟩ := id u
  refine ⟨⟨a, b, dx, dy, gs, hs, rfl, rfl, l a _ ea, l b _ eb, hR a b H ⟨G, l, t, u⟩⟩, fun H' x => q (.bl true) G H' ⟨Same.refl _, fun a o _ e => x a o e, fun a o e => x a o (l a o e), fun _ _ n => n, st.keep (Same.refl _) (fun a o e => x a o e) fun _ _ n => n⟩ (.bl true)⟩

theorem ty_web (T : Txt K mg) {fs : List (Str × Z.Ty)} : TyT K (tOb (He.ga K "Web") fs) (.ref (He.ga K "Web")) := ty_ob T.c_Web T.in_Web.cl (exs T.says).2.2.2.2.2.2.2.2.2.2.2.2.2.2.2.2.2.2.2.2.1 (exs T.says).2.2.2.2.2.2.2.2.2.2.2.2.2.2.2.2.2.2.2.2.2 T.in_Web.mr
theorem ty_world (T : Txt K mg) {fs : List (Str × Z.Ty)} : TyT K (tOb (He.ga K "World") fs) (.ref (He.ga K "World")) := ty_ob T.c_World T.in_World.cl (exs T.says).2.2.2.2.2.2.2.2.2.2.2.2.2.2.2.2.2.2.2.2.1 (exs T.says).2.2.2.2.2.2.2.2.2.2.2.2.2.2.2.2.2.2.2.2.2 T.in_World.mr
/-- two equal objects: what an own == promises -/
def pEq (C : Addr) (fs : List (Str × Z.Ty)) : Pr Unit := ⟨fun _ => True, fun _ => [tOb C fs, tOb C fs], fun _ => dat (.bool true)⟩
theorem spEq_of {k : Nat} {f : Addr} {fd : FuncData} {C : Addr} {fs : List (Str × Z.Ty)} (h : FnOk P w K mg base CX0 k f fd ["self", "other"] (pEq C fs).sp) : FnOk P w K mg base CX0 k f fd ["self", "other"] (spEq (RObj C fs)) :=
  h.imp fun vs H Q E ⟨a, b, e, ⟨G, l, t, u⟩, q⟩ => ⟨(), G, trivial, l, by rw [e]; exact .cons t (.cons u .nil), fun v G' H' x tv => by
    rw [Rp.bl_of tv]
    exact q H' fun a o e => x.h a o (fun w => nomatch w) e⟩
structure WebD (ts : List Str) (rs : List (Str × Str)) : Prop where
  ts : ∀ t ∈ ts, nameB t = true
  rs : ∀ r ∈ rs, POk r
theorem sortP_mem {ps : List (Str × Str)} {p : Str × Str} (m : p ∈ sortP ps) : p ∈ ps := (List.mergeSort_perm _ _).mem_iff.mp m
theorem ok_strs {ts : List Str} (h : ∀ t ∈ ts, nameB t = true) : okD (eT ts) 1 = true := okDs_map (n := 0) ts fun t m => nameB_ok (h t m)
theorem ok_Web_eq (T : Txt K mg) {ts : List Str} {rs : List (Str × Str)} (hd : WebD ts rs) : ∃ fd, FnOk P w K mg base CX0 1 (He.ma K (He.ga K "Web") "__eq__") fd ["self", "other"] (spEq (RObj (He.ga K "Web") (fWeb ts rs))) ∧ L2.Binds K fd ["self", "other"] [] := by
  obtain ⟨fd, F⟩ := T.f_Web_eq
  refine ⟨fd, spEq_of (ok_pr F sc_Web_eq (fun _ => rfl) fun cdv A outer s H E i z hr pz hp => ?_), F.bindsN bd_Web_eq⟩
  have h1 : okD (eT (sortN ts)) 1 = true := ok_strs fun t m => hd.ts t ((sortN_perm ts).mem_iff.mp m)
  have h2 : okD (.tuple ((sortP (rs.map opair)).map eP)) 2 = true := okDs_map (n := 1) _ fun p m => by
    have m2 := sortP_mem m
    obtain ⟨r, mr, rfl⟩ := List.mem_map.mp m2
    have := opair_ok (hd.rs r mr)
    exact ok_eP this.1 this.2
  refine sw_retT rfl (EvD.g (ev_and (ev_isiT T.isinstance_ (ty_web T) (.own _) T.in_Web.self (ev_var 1) (ev_gref T.g_Web)) fun _ => ev_and (ev_eq hr (okD_shaped h1 (by decide)) (okD_shaped h1 (by decide)) (ev_fld T.c_Web T.n_Web_own_towns rfl (ev_var 0)) (ev_fld T.c_Web T.n_Web_own_towns rfl (ev_var 1))) fun _ =>
    ev_one (ev_eq hr (okD_shaped h2 (by decide)) (okD_shaped h2 (by decide)) (ev_fld T.c_Web T.n_Web_own_ways rfl (ev_var 0)) (ev_fld T.c_Web T.n_Web_own_ways rfl (ev_var 1))))) (congrArg (fun b => dat (.bool b)) ?_)
  rw [eqv_self h1, eqv_self h2]
  rfl
theorem ev_eqWeb {X : Cx} {z : Zn} {δ : List (Option Z.Ty)} {a b : Expr} {pos : Pos} (T : Txt X.K X.mg) {ts : List Str} {rs : List (Str × Str)} {k : Nat} (hd : WebD ts rs) (hr : Room k X.A) (hk : 1 ≤ k) (ha : EvD X z δ a (tWeb X.K ts rs)) (hb : EvD X z δ b (tWeb X.K ts rs)) : EvD X z δ (.Compare a [.Eq] [b] pos) (dat (.bool true)) := by
  obtain ⟨fd, F, B⟩ := ok_Web_eq (P := X.prog) (w := X.w) (base := X.base) T hd
  exact ev_cmp (op_eqG (rcG_ins (E := E0) F T.in_Web.eq T.in_Web.fn B pass0) (hr.mono hk)) (r2_own fun a b H h => h) ha hb
theorem ok_rows {ks : List Str} {pl : Plans} (hk : ∀ n ∈ ks, nameB n = true) (hp : ∀ n ∈ ks, ∀ t ∈ pl n, nameB t = true) : okD (.tuple ((sortN ks).map (eRow pl))) 3 = true := okDs_map (n := 2) _ fun n m => by
  have mn := (sortN_perm ks).mem_iff.mp m
  show (PyData.strOk n && (okD (eT (pl n)) 1 && true)) = true
  rw [nameB_ok (hk n mn), ok_strs (hp n mn)]
  rfl
theorem WorldOk.webD {ts : List Str} {rs : List (Str × Str)} {ks : List Str} {pl : Plans} (h : WorldOk ts rs ks pl) : WebD ts rs := ⟨h.web.tn, fun r m => h.web.pok m⟩
theorem ok_World_eq (T : Txt K mg) {ts : List Str} {rs : List (Str × Str)} {ks : List Str} {pl : Plans} (h : WorldOk ts rs ks pl) : ∃ fd, FnOk P w K mg base CX0 2 (He.ma K (He.ga K "World") "__eq__") fd ["self", "other"] (spEq (RObj (He.ga K "World") (fWorld K ts rs ks pl))) ∧ L2.Binds K fd ["self", "other"] [] := by
  obtain ⟨fd, F⟩ := T.f_World_eq
  refine ⟨fd, spEq_of (ok_pr F sc_World_eq (fun _ => rfl) fun cdv A outer s H E i z hr pz hp => ?_), F.bindsN bd_World_eq⟩
  have h1 : okD (.tuple ((sortN ks).map (eRow pl))) 3 = true := ok_rows h.ok.nm fun n m t mt => (h.ok.pl n m).nm t mt
  refine sw_retT rfl (EvD.g (ev_and (ev_isiT T.isinstance_ (ty_world T) (.own _) T.in_World.self (ev_var 1) (ev_gref T.g_World)) fun _ => ev_and (ev_eqWeb T h.webD hr (by decide) (ev_fld T.c_World T.n_World_own_web rfl (ev_var 0)) (ev_fld T.c_World T.n_World_own_web rfl (ev_var 1))) fun _ =>
    ev_one (ev_eq hr (okD_shaped h1 (by decide)) (okD_shaped h1 (by decide)) (ev_fld T.c_World T.n_World_own_rows rfl (ev_var 0)) (ev_fld T.c_World T.n_World_own_rows rfl (ev_var 1))))) (congrArg (fun b => dat (.bool b)) ?_)
  rw [eqv_self h1]
  rfl
theorem ev_eqWorld {X : Cx} {z : Zn} {δ : List (Option Z.Ty)} {a b : Expr} {pos : Pos} (T : Txt X.K X.mg) {ts : List Str} {rs : List (Str × Str)} {ks : List Str} {pl : Plans} {k : Nat} (h : WorldOk ts rs ks pl) (hr : Room k X.A) (hk : 2 ≤ k) (ha : EvD X z δ a (tWorld X.K ts rs ks pl)) (hb : EvD X z δ b (tWorld X.K ts rs ks pl)) : EvD X z δ (.Compare a [.Eq] [b] pos) (dat (.bool true)) := by
  obtain ⟨fd, F, B⟩ := ok_World_eq (P := X.prog) (w := X.w) (base := X.base) T h
  exact ev_cmp (op_eqG (rcG_ins (E := E0) F T.in_World.eq T.in_World.fn B pass0) (hr.mono hk)) (r2_own fun a b H h => h) ha hb
end
end K37
end
section
set_option maxRecDepth 100000
set_option maxHeartbeats 4000000
/-! W7: own errors raised. -/
namespace K37
open PySem PySem.Spec PyProof.Rows L2
open Z
section
variable {P : Program} {w : World} {K : PySem.W.Frag} {mg : Str → Option Value} {base : Heap}
def spBadI (C : Addr) : Sp := fun vs H Q _ => ∃ (a : Addr) (x : V), vs = [.ref a, x] ∧ H a = some (exo a C none) ∧ ∀ dx, H dx = none → dx ≠ a → Q .non (upd (upd H dx (exd dx [("parameter", x)])) a (exo a C (some dx)))
def spStepI (C : Addr) : Sp := fun vs H Q _ => ∃ (a : Addr) (x y : V), vs = [.ref a, x, y] ∧ H a = some (exo a C none) ∧ ∀ dx, H dx = none → dx ≠ a → Q .non (upd (upd (upd H dx (exd dx [("at", x)])) a (exo a C (some dx))) dx (exd dx [("reason", y), ("at", x)]))
theorem ok_BadI (T : Txt K mg) : ∃ fd, FnOk P w K mg base CX0 1 (He.ma K (He.ga K "BadShape") "__init__") fd ["self", "parameter"] (spBadI (He.ga K "BadShape")) ∧ L2.Binds K fd ["self", "parameter"] [] := by
  obtain ⟨fd, F⟩ := T.f_BadShape_init
  obtain ⟨_, _, _, _, _, _, _, h8, _⟩ := exs T.says
  refine ⟨fd, F.ok sc_BadShape_init (fun vs H Q E h => ?_) (fun cdv A outer s H vs Q E hr h => ⟨_, PSs.nox (pss_one (ps_ost (pe_var (i := 0) rfl (Or.inl rfl)) (pe_var (i := 1) rfl (Or.inl rfl)))), ?_⟩), F.bindsN bd_BadShape_init⟩
  · obtain ⟨a, x, rfl, _⟩ := h
    rfl
  · obtain ⟨a, x, rfl, ha, q⟩ := h
    exact ⟨x, rfl, .ref a, rfl, a, He.ga K "BadShape", rfl, T.er_bad.ox, no_of h8, .inl ⟨ha, fun dx n ne => q dx n ne⟩⟩
theorem ok_StepI (T : Txt K mg) : ∃ fd, FnOk P w K mg base CX0 1 (He.ma K (He.ga K "StepRefused") "__init__") fd ["self", "at", "reason"] (spStepI (He.ga K "StepRefused")) ∧ L2.Binds K fd ["self", "at", "reason"] [] := by
  obtain ⟨fd, F⟩ := T.f_StepRefused_init
  obtain ⟨_, _, _, _, _, _, _, _, h9, h10, _⟩ := exs T.says
  refine ⟨fd, F.ok sc_StepRefused_init (fun vs H Q E h => ?_) (fun cdv A outer s H vs Q E hr h => ⟨_, PSs.nox (pss_cons (ps_ost (pe_var (i := 0) rfl (Or.inl rfl)) (pe_var (i := 1) rfl (Or.inl rfl))) (pss_one (ps_ost (pe_var (i := 0) rfl (Or.inl rfl)) (pe_var (i := 2) rfl (Or.inl rfl))))), ?_⟩), F.bindsN bd_StepRefused_init⟩
  · obtain ⟨a, x, y, rfl, _⟩ := h
    rfl
  · obtain ⟨a, x, y, rfl, ha, q⟩ := h
    refine ⟨x, rfl, .ref a, rfl, a, He.ga K "StepRefused", rfl, T.er_step.ox, no_of h9, .inl ⟨ha, fun dx n ne => ?_⟩⟩
    refine ⟨y, rfl, .ref a, rfl, a, He.ga K "StepRefused", rfl, T.er_step.ox, no_of h10, .inr ⟨dx, [("at", x)], upd_same, ?_, (by show 1 ≤ 900; decide), q dx n ne⟩⟩
    rw [upd_ne ne, upd_same]
end
section
variable {X : Cx} {z : Zn} {δ : List (Option Z.Ty)} {Ω : Own} {e e2 : Expr} {p pos pos2 : Pos} {D : Dn} {rest : List Stmt} {x r : Str} {k n : Nat} {E : XK}
theorem sw_raise_bad (T : Txt X.K X.mg) (hc : X.calm = true) (tk : L2.Takes X fun cls d _ H => E cls d H) (hr : Room k X.A) (hk : 2 ≤ k) (hB : ∀ a, ¬ z.B a) (ha : EvG X z δ Ω e (dat (.str x))) (hE : ∀ cls d H', Same z.H0 H' → ErH X.K (.bad x) cls d H' → E cls d H')
    (hg : Gl X "BadShape" := by rfl) (he : starEach [e] X.env = (false, eval e X.env) :: starEach [] X.env := by rfl) (hpl : (backTo pos (starEach [] X.env)).any (·.1) = false := by rfl) : SWs X z (.Raise (some (.Call (.Name "BadShape" p) [e] [] pos)) none pos2 :: rest) D δ Ω := fun F G H σ sf g => by
  obtain ⟨fd, F1, B1⟩ := ok_BadI (P := X.prog) (w := X.w) (base := X.base) T
  refine w_pss (pss_cons (u := tNever) (L2.ps_raise hc tk (pmk_oex T.er_bad.ox T.er_bad.ini T.er_bad.tyi F1 (hr.mono hk) B1 .nil (fun _ _ _ _ _ _ _ h => h.elim) hg T.g_BadShape (pa_cons pe_w pa_nil he) (by decide) he hpl)) pss_never) ?_
  refine ha G H σ g _ fun v G1 H1 x1 t => ⟨by show 1 ≤ 1000; decide, fun a na => ⟨a, v, rfl, upd_same, fun dx ndx ne => ⟨rfl, dx, [("parameter", v)], upd_same, by rw [upd_ne ne, upd_same], ?_, ?_⟩⟩⟩
  · rw [upd_ne ne] at ndx
    exact ndx
  · rw [upd_ne ne] at ndx
    refine hE _ _ _ (fun b o hb => ?_) ⟨rfl, dx, rfl, by rw [upd_same, Rp.str_of t]⟩
    have h1 := (g.bg.ext x1).h0 b o (hB b) hb
    have nb : b ≠ a := ne_of_none h1 na
    have nd : b ≠ dx := ne_of_none h1 ndx
    rw [upd_ne nd, del_ne nb, upd_ne nb, upd_ne nd, upd_ne nb]
    exact h1
theorem sw_raise_step {i : Int} (T : Txt X.K X.mg) (hc : X.calm = true) (tk : L2.Takes X fun cls d _ H => E cls d H) (hr : Room k X.A) (hk : 2 ≤ k) (hB : ∀ a, ¬ z.B a) (ha : EvG X z δ Ω e (dat (.int i))) (ha2 : EvG X z δ Ω e2 (dat (.str r))) (hE : ∀ cls d H', Same z.H0 H' → ErH X.K (.step i r) cls d H' → E cls d H')
    (hg : Gl X "StepRefused" := by rfl) (he : starEach [e, e2] X.env = (false, eval e X.env) :: starEach [e2] X.env := by rfl) (he2 : starEach [e2] X.env = (false, eval e2 X.env) :: starEach [] X.env := by rfl) (hpl : (backTo pos (starEach [e2] X.env)).any (·.1) = false := by rfl) : SWs X z (.Raise (some (.Call (.Name "StepRefused" p) [e, e2] [] pos)) none pos2 :: rest) D δ Ω := fun F G H σ sf g => by
  obtain ⟨fd, F1, B1⟩ := ok_StepI (P := X.prog) (w := X.w) (base := X.base) T
  refine w_pss (pss_cons (u := tNever) (L2.ps_raise hc tk (pmk_oex T.er_step.ox T.er_step.ini T.er_step.tyi F1 (hr.mono hk) B1 .nil (fun _ _ _ _ _ _ _ h => h.elim) hg T.g_StepRefused (pa_cons pe_w (pa_cons pe_w pa_nil he2) he) (by decide) he hpl)) pss_never) ?_
  refine ha G H σ g _ fun v G1 H1 x1 t => ha2 G1 H1 σ (g.ext x1) _ fun v2 G2 H2 x2 t2 => ⟨by show 2 ≤ 1000; decide, fun a na => ⟨a, v, v2, rfl, upd_same, fun dx ndx ne => ⟨rfl, dx, [("reason", v2), ("at", v)], ?_, upd_same, ?_, ?_⟩⟩⟩
  · rw [upd_ne (Ne.symm ne), upd_same]
  · rw [upd_ne ne] at ndx
    exact ndx
  · rw [upd_ne ne] at ndx
    refine hE _ _ _ (fun b o hb => ?_) ⟨rfl, dx, rfl, by rw [upd_same, Rp.int_of t, Rp.str_of t2]⟩
    have h1 := ((g.bg.ext x1).ext x2).h0 b o (hB b) hb
    have nb : b ≠ a := ne_of_none h1 na
    have nd : b ≠ dx := ne_of_none h1 ndx
    rw [upd_ne nd, del_ne nb, upd_ne nd, upd_ne nb, upd_ne nd, upd_ne nb]
    exact h1
end
end K37
end
section
set_option maxRecDepth 100000
set_option maxHeartbeats 4000000
/-! M1: deeds, in plain Lean. -/
namespace K37
open PySem PySem.Spec PyProof.Rows L2
open Z
/-! ### why a deed does not fit -/
inductive Why where
  | unk (n : Str)
  | same (x : Str)
  | over (n : Str) (d : Nat)
  | unlike (a b : Str)
def Why.nm : Why → Str
  | .unk _ => "UnknownTraveller"
  | .same _ => "SameTraveller"
  | .over _ _ => "PlanOver"
  | .unlike _ _ => "UnlikeTowns"
def Why.row : Why → List PyData
  | .unk n => [.str "UnknownTraveller", .str n]
  | .same x => [.str "SameTraveller", .str x]
  | .over n d => [.str "PlanOver", .str n, .int (d : Int)]
  | .unlike a b => [.str "UnlikeTowns", .str a, .str b]
def why (ks : List Str) (pl : Plans) (t : Deed) : Option Why :=
  if t.1 ∉ ks then some (.unk t.1) else if t.2.1 ∉ ks then some (.unk t.2.1) else if t.1 = t.2.1 then some (.same t.1) else
  if (pl t.1).length ≤ t.2.2 then some (.over t.1 t.2.2) else if (pl t.2.1).length ≤ t.2.2 then some (.over t.2.1 t.2.2) else
  if (pl t.1)[t.2.2]! ≠ (pl t.2.1)[t.2.2]! then some (.unlike (pl t.1)[t.2.2]! (pl t.2.1)[t.2.2]!) else none
structure Fits (ks : List Str) (pl : Plans) (t : Deed) : Prop where
  x : t.1 ∈ ks
  y : t.2.1 ∈ ks
  ne : t.1 ≠ t.2.1
  lx : t.2.2 < (pl t.1).length
  ly : t.2.2 < (pl t.2.1).length
  eq : (pl t.1)[t.2.2]! = (pl t.2.1)[t.2.2]!
theorem why_none {ks : List Str} {pl : Plans} {t : Deed} : why ks pl t = none ↔ Fits ks pl t := by
  unfold why
  constructor
  · intro h
    by_cases h1 : t.1 ∉ ks
    · rw [if_pos h1] at h; cases h
    rw [if_neg h1] at h
    by_cases h2 : t.2.1 ∉ ks
    · rw [if_pos h2] at h; cases h
    rw [if_neg h2] at h
    by_cases h3 : t.1 = t.2.1
    · rw [if_pos h3] at h; cases h
    rw [if_neg h3] at h
    by_cases h4 : (pl t.1).length ≤ t.2.2
    · rw [if_pos h4] at h; cases h
    rw [if_neg h4] at h
    by_cases h5 : (pl t.2.1).length ≤ t.2.2
    · rw [if_pos h5] at h; cases h
    rw [if_neg h5] at h
    by_cases h6 : (pl t.1)[t.2.2]! ≠ (pl t.2.1)[t.2.2]!
    · rw [if_pos h6] at h; cases h
    exact ⟨Classical.not_not.mp h1, Classical.not_not.mp h2, h3, by omega, by omega, Classical.not_not.mp h6⟩
  · intro h
    rw [if_neg (fun q => q h.x), if_neg (fun q => q h.y), if_neg h.ne, if_neg (by have := h.lx; omega), if_neg (by have := h.ly; omega), if_neg (fun q => q h.eq)]
/-! ### the exchange of the rests -/
def ex1 (pl : Plans) (t : Deed) : Plans := fun n =>
  if n = t.2.1 then (pl t.2.1).take (t.2.2 + 1) ++ (pl t.1).drop (t.2.2 + 1) else if n = t.1 then (pl t.1).take (t.2.2 + 1) ++ (pl t.2.1).drop (t.2.2 + 1) else pl n
def runP (pl : Plans) : List Deed → Plans
  | [] => pl
  | t :: r => runP (ex1 pl t) r
def stages (pl : Plans) : List Deed → List Plans
  | [] => [pl]
  | t :: r => pl :: stages (ex1 pl t) r
/-- the first deed that does not fit -/
def refused (ks : List Str) (pl : Plans) : List Deed → Nat → Option (Nat × Why)
  | [], _ => none
  | t :: r, i => match why ks pl t with
    | some w => some (i, w)
    | none => refused ks (ex1 pl t) r (i + 1)
theorem runP_app (pl : Plans) : ∀ (ys zs : List Deed), runP pl (ys ++ zs) = runP (runP pl ys) zs
  | [], _ => rfl
  | t :: r, zs => runP_app (ex1 pl t) r zs
theorem refused_app (ks : List Str) : ∀ (pl : Plans) (ys zs : List Deed) (i : Nat), refused ks pl ys i = none → refused ks pl (ys ++ zs) i = refused ks (runP pl ys) zs (i + ys.length)
  | pl, [], zs, i, _ => rfl
  | pl, t :: r, zs, i, h => by
    unfold refused at h
    have e : refused ks pl (t :: r ++ zs) i = match why ks pl t with
      | some w => some (i, w)
      | none => refused ks (ex1 pl t) (r ++ zs) (i + 1) := rfl
    rw [e]
    cases q : why ks pl t with
    | some w => rw [q] at h; cases h
    | none =>
      rw [q] at h
      show refused ks (ex1 pl t) (r ++ zs) (i + 1) = refused ks (runP (ex1 pl t) r) zs (i + (r.length + 1))
      rw [refused_app ks (ex1 pl t) r zs (i + 1) h]
      congr 1
      omega
theorem refused_cons {ks : List Str} {pl : Plans} {t : Deed} {r : List Deed} {i : Nat} (h : refused ks pl (t :: r) i = none) : Fits ks pl t ∧ refused ks (ex1 pl t) r (i + 1) = none := by
  unfold refused at h
  cases q : why ks pl t with
  | some w => rw [q] at h; cases h
  | none => rw [q] at h; exact ⟨why_none.mp q, h⟩
theorem refused_ix {ks : List Str} : ∀ {pl : Plans} {hs : List Deed} {i j : Nat}, refused ks pl hs i = none → refused ks pl hs j = none
  | _, [], _, _, _ => rfl
  | pl, t :: r, i, j, h => by
    obtain ⟨f, h⟩ := refused_cons h
    unfold refused
    rw [why_none.mpr f]
    exact refused_ix h
theorem stages_last (pl : Plans) : ∀ hs : List Deed, (stages pl hs).getLast? = some (runP pl hs)
  | [] => rfl
  | t :: r => by
    have ih := stages_last (ex1 pl t) r
    show (pl :: stages (ex1 pl t) r).getLast? = some (runP (ex1 pl t) r)
    cases h : stages (ex1 pl t) r with
    | nil => rw [h] at ih; cases ih
    | cons a b => rw [List.getLast?_cons_cons, ← h]; exact ih
theorem stages_snoc (pl : Plans) (t : Deed) : ∀ hs : List Deed, stages pl (hs ++ [t]) = stages pl hs ++ [runP pl (hs ++ [t])]
  | [] => rfl
  | u :: r => by
    show pl :: stages (ex1 pl u) (r ++ [t]) = pl :: stages (ex1 pl u) r ++ [runP (ex1 pl u) (r ++ [t])]
    rw [stages_snoc (ex1 pl u) t r]
    rfl
/-! ### a world stays one -/
theorem bang_app_l {α : Type} [Inhabited α] {xs ys : List α} {i : Nat} (h : i < xs.length) : (xs ++ ys)[i]! = xs[i]! := by
  rw [getElem!_pos (xs ++ ys) i (by rw [List.length_append]; omega), getElem!_pos xs i h, List.getElem_append_left h]
theorem bang_app_r {α : Type} [Inhabited α] {xs ys : List α} {i : Nat} (h : xs.length ≤ i) (h2 : i - xs.length < ys.length) : (xs ++ ys)[i]! = ys[i - xs.length]! := by
  rw [getElem!_pos (xs ++ ys) i (by rw [List.length_append]; omega), getElem!_pos ys (i - xs.length) h2, List.getElem_append_right h]
theorem bang_take {α : Type} [Inhabited α] {xs : List α} {n i : Nat} (h : i < n) (h2 : i < xs.length) : (xs.take n)[i]! = xs[i]! := by
  rw [getElem!_pos (xs.take n) i (by rw [List.length_take]; omega), getElem!_pos xs i h2, List.getElem_take]
theorem bang_drop {α : Type} [Inhabited α] {xs : List α} {n i : Nat} (h : n + i < xs.length) : (xs.drop n)[i]! = xs[n + i]! := by
  rw [getElem!_pos (xs.drop n) i (by rw [List.length_drop]; omega), getElem!_pos xs (n + i) h, List.getElem_drop]
/-- the head of one, the rest of another -/
def cross (xs ys : List Str) (d : Nat) : List Str := xs.take (d + 1) ++ ys.drop (d + 1)
theorem cross_len {xs ys : List Str} {d : Nat} (hx : d < xs.length) (hy : d < ys.length) : (cross xs ys d).length = ys.length := by
  unfold cross
  rw [List.length_append, List.length_take, List.length_drop]
  omega
theorem cross_at {xs ys : List Str} {d i : Nat} (hx : d < xs.length) (hi : i < ys.length) : (cross xs ys d)[i]! = if i ≤ d then xs[i]! else ys[i]! := by
  unfold cross
  by_cases h : i ≤ d
  · rw [if_pos h, bang_app_l (by rw [List.length_take]; omega), bang_take (by omega) (by omega)]
  · rw [if_neg h]
    have hl : (xs.take (d + 1)).length = d + 1 := by rw [List.length_take]; omega
    rw [bang_app_r (by omega) (by rw [hl, List.length_drop]; omega), hl, bang_drop (by omega)]
    congr 1
    omega
theorem cross_mem {xs ys : List Str} {d : Nat} {t : Str} (h : t ∈ cross xs ys d) : t ∈ xs ∨ t ∈ ys := by
  rcases List.mem_append.mp h with h | h
  · exact .inl (List.mem_of_mem_take h)
  · exact .inr (List.mem_of_mem_drop h)
theorem cross_steps {rs : List (Str × Str)} {xs ys : List Str} {d : Nat} (hx : d < xs.length) (hy : d < ys.length) (e : xs[d]! = ys[d]!) (sx : StepsOk rs xs) (sy : StepsOk rs ys) : StepsOk rs (cross xs ys d) := fun i hi => by
  rw [cross_len hx hy] at hi
  rw [cross_at hx (by omega), cross_at hx hi]
  by_cases h1 : i + 1 ≤ d
  · rw [if_pos h1, if_pos (by omega)]
    exact sx i (by omega)
  · rw [if_neg h1]
    by_cases h2 : i ≤ d
    · have : i = d := by omega
      subst this
      rw [if_pos (Nat.le_refl _), e]
      exact sy i hi
    · rw [if_neg h2]
      exact sy i hi
theorem ex1_of {ks : List Str} {pl : Plans} {t : Deed} (f : Fits ks pl t) (n : Str) : ex1 pl t n = if n = t.2.1 then cross (pl t.2.1) (pl t.1) t.2.2 else if n = t.1 then cross (pl t.1) (pl t.2.1) t.2.2 else pl n := rfl
theorem WorldOk.ex {ts : List Str} {rs : List (Str × Str)} {ks : List Str} {pl : Plans} {t : Deed} (h : WorldOk ts rs ks pl) (f : Fits ks pl t) : WorldOk ts rs ks (ex1 pl t) := by
  have hx := h.ok.pl _ f.x
  have hy := h.ok.pl _ f.y
  refine ⟨h.web, ⟨h.ok.len, h.ok.nm, h.ok.nd, fun n m => ?_⟩, fun n m s ms => ?_, fun n m => ?_⟩
  · rw [ex1_of f]
    split
    · refine ⟨by rw [cross_len f.ly f.lx]; exact hx.len, fun s ms => ?_⟩
      rcases cross_mem ms with q | q
      · exact hy.nm s q
      · exact hx.nm s q
    · split
      · refine ⟨by rw [cross_len f.lx f.ly]; exact hy.len, fun s ms => ?_⟩
        rcases cross_mem ms with q | q
        · exact hx.nm s q
        · exact hy.nm s q
      · exact h.ok.pl n m
  · rw [ex1_of f] at ms
    split at ms
    · rcases cross_mem ms with q | q
      · exact h.inn _ f.y s q
      · exact h.inn _ f.x s q
    · split at ms
      · rcases cross_mem ms with q | q
        · exact h.inn _ f.x s q
        · exact h.inn _ f.y s q
      · exact h.inn n m s ms
  · rw [ex1_of f]
    split
    · exact cross_steps f.ly f.lx f.eq.symm (h.st _ f.y) (h.st _ f.x)
    · split
      · exact cross_steps f.lx f.ly f.eq (h.st _ f.x) (h.st _ f.y)
      · exact h.st n m
theorem WorldOk.run {ts : List Str} {rs : List (Str × Str)} {ks : List Str} : ∀ {hs : List Deed} {pl : Plans} {i : Nat}, WorldOk ts rs ks pl → refused ks pl hs i = none → WorldOk ts rs ks (runP pl hs)
  | [], _, _, h, _ => h
  | t :: r, pl, i, h, q => by
    obtain ⟨f, q⟩ := refused_cons q
    show WorldOk ts rs ks (runP (ex1 pl t) r)
    exact WorldOk.run (h.ex f) q
end K37
end
section
set_option maxRecDepth 100000
set_option maxHeartbeats 4000000
/-! W8: deeds. -/
namespace K37
open PySem PySem.Spec PyProof.Rows L2
open Z
section
variable {P : Program} {w : World} {K : PySem.W.Frag} {mg : Str → Option Value} {base : Heap}
def eWhy : Option Why → PyData
  | none => .none
  | some w => .tuple w.row
theorem lenP {X : Cx} {z : Zn} {δ : List (Option Z.Ty)} {a : Expr} {p pos : Pos} {ts : List Str} (hm : X.mg "len" = none) (ha : EvD X z δ a (dat (eT ts))) (hg : Gl X "len" := by rfl) (he : starEach [a] X.env = (false, eval a X.env) :: starEach [] X.env := by rfl) : EvD X z δ (.Call (.Name "len" p) [a] [] pos) (dat (.int (ts.length : Int))) := by
  have h := ev_lenTd (p := p) (pos := pos) (ds := ts.map PyData.str) hm ha hg he
  rw [List.length_map] at h
  exact h
theorem getP {X : Cx} {z : Zn} {δ : List (Option Z.Ty)} {a b : Expr} {pos : Pos} {ks : List Str} {pl : Plans} {n : Str} (hu : X.A.units + 1 < cLine) (hn : n ∈ ks) (ha : EvD X z δ a (tPl ks pl)) (hb : EvD X z δ b (dat (.str n))) (hs : NoSl b := by exact fun _ _ => rfl) : EvD X z δ (.Subscript a b pos) (dat (eT (pl n))) := ev_dget (kk := .inr n) hu (look_strK ks hn) (EvD.rd ha) (EvD.rawS hb) hs
def pReason : Pr (List Str × Plans × Deed) := ⟨fun _ => True, fun i => [tPl i.1 i.2.1, dat (eD i.2.2)], fun i => dat (eWhy (why i.1 i.2.1 i.2.2))⟩
theorem asgD {X : Cx} {e : Expr} {t : Deed} {z : Zn} {δ : List (Option Z.Ty)} (h : EvD X z δ e (dat (eD t))) : EvD X z δ e (tT [dat (.str t.1), dat (.str t.2.1), dat (.int (t.2.2 : Int))]) := EvD.toT (ds := [.str t.1, .str t.2.1, .int (t.2.2 : Int)]) h
theorem cb_reason_of (T : Txt K mg) : Cb CX0 P w K mg base 1 "reason_of" ["plans", "deed"] pReason.sp := by
  refine cb_pr T.f_reason_of sc_reason_of bd_reason_of (fun _ => rfl) fun f cdv A outer s H E i z hr pz hp => ?_
  obtain ⟨ks, pl, t⟩ := i
  have hu := hu1 hr
  refine sw_asg (g := g3 K 2 3 4) (EvD.g (asgD (ev_var 1))) (pg_tup rfl (pgs_cons (pg_name nd_reason_of rfl (Or.inl rfl)) (pgs_cons (pg_name nd_reason_of rfl (Or.inl rfl)) (pgs_cons (pg_name nd_reason_of rfl (Or.inl rfl)) pgs_nil)))) (tr_tup3 2 3 4) ?_
  refine sw_forS (S := Unit) (J := [5]) (g := gName 5) [t.1, t.2.1] (fun n => dat (.str n)) (fun ys _ => ∀ n ∈ ys, n ∈ ks) (fun _ => slots N_reason_of [some (tPl ks pl), some (dat (eD t)), some (dat (.str t.1)), some (dat (.str t.2.1)), some (dat (.int (t.2.2 : Int)))]) (fun _ => [])
    (fun _ n => (slots N_reason_of [some (tPl ks pl), some (dat (eD t)), some (dat (.str t.1)), some (dat (.str t.2.1)), some (dat (.int (t.2.2 : Int)))]).set 5 (some (dat (.str n)))) PassesOwn.never rfl (ei_tupA [t.1, t.2.1] (fun n => dat (.str n)) (ev_tup (ea2 (ev_var 2) (ev_var 3)) (Nat.le_of_ble_eq_true rfl))) (pg_name nd_reason_of rfl (Or.inl rfl)) (fun _ n => tr_name 5) (fun _ q m => nomatch m) ⟨(), (fun _ m => nomatch m), Wk.rfl' _, rfl⟩ (fun ys n zs _ e hy => ?_) fun _ hall => ?_
  · refine sw_when (EvB.g (eb_dnin (kk := .inr n) hu (EvD.rawS (ev_var 5)) (EvD.rd (ev_var 0)))) (fun h => ?_) fun h => sw_nil ⟨(), fun m hm => ?_, by repeat (first | exact Wk.nil | apply Wk.cons | apply Wk.no), rfl⟩
    · rw [look_str] at h
      have hn : n ∉ ks := fun c => by rw [if_pos c] at h; cases h
      refine sw_retT rfl (EvD.g (ev_tupD (ds := [.str "UnknownTraveller", .str n]) (ea2 ev_str (ev_var 5)) (by show 2 ≤ 1000; decide))) (congrArg dat ?_)
      show _ = eWhy (why ks pl t)
      match ys, e with
      | [], e =>
        have e1 : t.1 = n := (List.cons.inj e).1
        unfold why
        rw [e1, if_pos hn]
        rfl
      | [a], e =>
        have e1 : t.1 = a := (List.cons.inj e).1
        have e2 : t.2.1 = n := (List.cons.inj (List.cons.inj e).2).1
        have ha : a ∈ ks := hy a (by simp)
        unfold why
        rw [e1, if_neg (fun q => q ha), e2, if_pos hn]
        rfl
      | _ :: _ :: _, e => simp at e
    · rcases List.mem_append.mp hm with hm | hm
      · exact hy m hm
      · rw [List.mem_singleton.mp hm]
        rw [look_str] at h
        by_cases c : n ∈ ks
        · exact c
        · rw [if_neg c] at h
          cases h
  · have hx : t.1 ∈ ks := hall _ (by simp)
    have hyk : t.2.1 ∈ ks := hall _ (by simp)
    refine sw_when (EvB.g (eb_eqS (ev_var 2) (ev_var 3))) (fun h => ?_) fun h => ?_
    · have e : t.1 = t.2.1 := of_decide_eq_true h.symm
      refine sw_retT rfl (EvD.g (ev_tupD (ds := [.str "SameTraveller", .str t.1]) (ea2 ev_str (ev_var 2)) (by show 2 ≤ 1000; decide))) (congrArg dat ?_)
      show _ = eWhy (why ks pl t)
      unfold why
      rw [if_neg (fun q => q hx), if_neg (fun q => q hyk), if_pos e]
      rfl
    · have e : ¬ t.1 = t.2.1 := of_decide_eq_false h.symm
      refine sw_forS (S := Unit) (J := [5]) (g := gName 5) [t.1, t.2.1] (fun n => dat (.str n)) (fun ys _ => ∀ n ∈ ys, t.2.2 < (pl n).length) (fun _ => slots N_reason_of [some (tPl ks pl), some (dat (eD t)), some (dat (.str t.1)), some (dat (.str t.2.1)), some (dat (.int (t.2.2 : Int)))]) (fun _ => [])
        (fun _ n => (slots N_reason_of [some (tPl ks pl), some (dat (eD t)), some (dat (.str t.1)), some (dat (.str t.2.1)), some (dat (.int (t.2.2 : Int)))]).set 5 (some (dat (.str n)))) PassesOwn.never rfl (ei_tupA [t.1, t.2.1] (fun n => dat (.str n)) (ev_tup (ea2 (ev_var 2) (ev_var 3)) (Nat.le_of_ble_eq_true rfl))) (pg_name nd_reason_of rfl (Or.inl rfl)) (fun _ n => tr_name 5) (fun _ q m => nomatch m) ⟨(), (fun _ m => nomatch m), Wk.rfl' _, rfl⟩ (fun ys n zs _ e2 hy => ?_) fun _ hl => ?_
      · have mn : n ∈ [t.1, t.2.1] := by rw [e2]; simp
        have hn : n ∈ ks := hall n mn
        refine sw_when (EvB.g (eb_ge (ev_var 4) (lenP T.len_ (getP hu hn (ev_var 0) (ev_var 5))))) (fun h => ?_) fun h => sw_nil ⟨(), fun m hm => ?_, by repeat (first | exact Wk.nil | apply Wk.cons | apply Wk.no), rfl⟩
        · have hle : (pl n).length ≤ t.2.2 := by
            have := of_decide_eq_true h.symm
            omega
          refine sw_retT rfl (EvD.g (ev_tupD (ds := [.str "PlanOver", .str n, .int (t.2.2 : Int)]) (ea_cons ev_str (ea2 (ev_var 5) (ev_var 4))) (by show 3 ≤ 1000; decide))) (congrArg dat ?_)
          show _ = eWhy (why ks pl t)
          unfold why
          rw [if_neg (fun q => q hx), if_neg (fun q => q hyk), if_neg e]
          match ys, e2 with
          | [], e2 =>
            have e1 : t.1 = n := (List.cons.inj e2).1
            rw [if_pos (by rw [e1]; exact hle), e1]
            rfl
          | [a], e2 =>
            have e1 : t.1 = a := (List.cons.inj e2).1
            have e3 : t.2.1 = n := (List.cons.inj (List.cons.inj e2).2).1
            have ha := hy a (by simp)
            rw [if_neg (by rw [e1]; omega), if_pos (by rw [e3]; exact hle), e3]
            rfl
          | _ :: _ :: _, e2 => simp at e2
        · rcases List.mem_append.mp hm with hm | hm
          · exact hy m hm
          · rw [List.mem_singleton.mp hm]
            have := of_decide_eq_false h.symm
            omega
      · have lx : t.2.2 < (pl t.1).length := hl _ (by simp)
        have ly : t.2.2 < (pl t.2.1).length := hl _ (by simp)
        refine sw_par 6 7 rfl nd_reason_of (by decide) (ga_cons (EvD.g (at_eT lx (getP hu hx (ev_var 0) (ev_var 2)) (ev_var 4))) (ga_cons (EvD.g (at_eT ly (getP hu hyk (ev_var 0) (ev_var 3)) (ev_var 4))) ga_nil)) ?_
        refine sw_when (EvB.g (eb_neS (ev_var 6) (ev_var 7))) (fun h => ?_) fun h => ?_
        · have ne : (pl t.1)[t.2.2]! ≠ (pl t.2.1)[t.2.2]! := by
            intro q
            rw [decide_eq_true q] at h
            cases h
          refine sw_retT rfl (EvD.g (ev_tupD (ds := [.str "UnlikeTowns", .str (pl t.1)[t.2.2]!, .str (pl t.2.1)[t.2.2]!]) (ea_cons ev_str (ea2 (ev_var 6) (ev_var 7))) (by show 3 ≤ 1000; decide))) (congrArg dat ?_)
          show _ = eWhy (why ks pl t)
          unfold why
          rw [if_neg (fun q => q hx), if_neg (fun q => q hyk), if_neg e, if_neg (by omega), if_neg (by omega), if_pos ne]
          rfl
        · have eq : (pl t.1)[t.2.2]! = (pl t.2.1)[t.2.2]! := by
            by_cases q : (pl t.1)[t.2.2]! = (pl t.2.1)[t.2.2]!
            · exact q
            · rw [decide_eq_false q] at h
              cases h
          refine sw_retT rfl (EvD.g ev_non) (congrArg dat ?_)
          show _ = eWhy (why ks pl t)
          rw [why_none.mpr ⟨hx, hyk, e, lx, ly, eq⟩]
          rfl

structure DPre (ks : List Str) (pl : Plans) (t : Deed) : Prop where
  fit : Fits ks pl t
  kl : ks.length ≤ 100
  lx : (pl t.1).length ≤ 100
  ly : (pl t.2.1).length ≤ 100
def pAfter : Pr (List Str × Plans × Deed) := ⟨fun i => DPre i.1 i.2.1 i.2.2, fun i => [tPl i.1 i.2.1, dat (eD i.2.2)], fun i => tPl i.1 (ex1 i.2.1 i.2.2)⟩
/-- xs[:d + 1] + ys[d + 1:] -/
theorem ev_cross {X : Cx} {z : Zn} {δ : List (Option Z.Ty)} {a b c1 c2 : Expr} {p1 p2 p3 p4 pos : Pos} {xs ys : List Str} {d : Nat} (hl : xs.length ≤ 100) (hl2 : ys.length ≤ 100) (ha : EvD X z δ a (dat (eT xs))) (hc1 : EvD X z δ c1 (dat (.int ((d : Int) + 1)))) (hb : EvD X z δ b (dat (eT ys))) (hc2 : EvD X z δ c2 (dat (.int ((d : Int) + 1)))) :
    EvD X z δ (.BinOp (.Subscript a (.Slice none (some c1) none p1) p2) .Add (.Subscript b (.Slice (some c2) none none p3) p4) pos) (dat (eT (cross xs ys d))) := by
  have e1 : ((d : Int) + 1) = ((d + 1 : Nat) : Int) := by omega
  rw [e1] at hc1 hc2
  have h1 := ev_slT (p2 := p1) (pos := p2) (eT_toT ha) eo_none (eo_some hc1)
  have h2 := ev_slT (p2 := p3) (pos := p4) (eT_toT hb) (eo_some hc2) eo_none
  rw [cut_take, ← List.map_take] at h1
  rw [cut_drop, ← List.map_drop] at h2
  refine EvD.imp (ev_catT ?_ h1 h2) fun v G t => ?_
  · rw [List.length_map, List.length_map, List.length_take, List.length_drop]
    omega
  · rw [← List.map_append] at t
    exact eT_of t
theorem put_pl {ks : List Str} {pl : Plans} {x : Str} {p : List Str} (h : x ∈ ks) : putT (ks.map fun n => ((.inr n : L2.Key), dat (eT (pl n)))) (.inr x) (dat (eT p)) = ks.map fun n => ((.inr n : L2.Key), dat (eT (if n = x then p else pl n))) := by
  rw [put_map ks h]
  refine List.map_congr_left fun n _ => ?_
  by_cases c : n = x
  · rw [if_pos c, if_pos c]
  · rw [if_neg c, if_neg c]
theorem cb_plans_after (T : Txt K mg) : Cb CX0 P w K mg base 1 "plans_after" ["plans", "deed"] pAfter.sp := by
  refine cb_pr T.f_plans_after sc_plans_after bd_plans_after (fun _ => rfl) fun f cdv A outer s H E i z hr pz hp => ?_
  obtain ⟨ks, pl, t⟩ := i
  obtain ⟨ft, hkl, hlx, hly⟩ := hp
  have ft : Fits ks pl t := ft
  have hkl : ks.length ≤ 100 := hkl
  have hlx : (pl t.1).length ≤ 100 := hlx
  have hly : (pl t.2.1).length ≤ 100 := hly
  have hu := hu1 hr
  refine sw_asg (g := g3 K 2 3 4) (EvD.g (asgD (ev_var 1))) (pg_tup rfl (pgs_cons (pg_name nd_plans_after rfl (Or.inl rfl)) (pgs_cons (pg_name nd_plans_after rfl (Or.inl rfl)) (pgs_cons (pg_name nd_plans_after rfl (Or.inl rfl)) pgs_nil)))) (tr_tup3 2 3 4) ?_
  refine sw_setO 5 nd_plans_after (C := cDK (ks.map fun n => (.inr n, dat (eT (pl n))))) (ef_dictD T.dict_ (EvD.g (EvD.rd (ev_var 0)))) ?_
  refine sw_dput (T := dat (eT (cross (pl t.1) (pl t.2.1) t.2.2))) (kk := .inr t.1) hu (EvG.drop (EvD.g (ev_cross hlx hly (getP hu ft.x (ev_var 0) (ev_var 2)) (ev_add (ev_var 4) ev_int) (getP hu ft.y (ev_var 0) (ev_var 3)) (ev_add (ev_var 4) ev_int)))) (EvG.drop (EvD.g (EvD.rawS (ev_var 2)))) (by rw [List.length_map]; omega) ?_
  rw [put_pl ft.x]
  refine sw_dput (T := dat (eT (cross (pl t.2.1) (pl t.1) t.2.2))) (kk := .inr t.2.1) hu (EvG.drop (EvD.g (ev_cross hly hlx (getP hu ft.y (ev_var 0) (ev_var 3)) (ev_add (ev_var 4) ev_int) (getP hu ft.x (ev_var 0) (ev_var 2)) (ev_add (ev_var 4) ev_int)))) (EvG.drop (EvD.g (EvD.rawS (ev_var 3)))) (by rw [List.length_map]; omega) ?_
  rw [put_pl (pl := fun n => if n = t.1 then cross (pl t.1) (pl t.2.1) t.2.2 else pl n) ft.y]
  refine sw_freeze ?_
  exact sw_retT rfl (EvD.g (EvD.imp (ev_var 5) fun v G h => cDK_ty.mp h)) rfl
end
end K37
end
section
set_option maxRecDepth 100000
set_option maxHeartbeats 4000000
/-! W9: refusal, plans_along, replay. -/
namespace K37
open PySem PySem.Spec PyProof.Rows L2
open Z
theorem smD_eD {t : Deed} (h : DOk t) : SmD (eD t) := ⟨(fun _ e => nomatch e), fun ds e x m => by
  cases e
  simp only [List.mem_cons, List.not_mem_nil, or_false] at m
  rcases m with rfl | rfl | rfl
  · exact smS_str h.1
  · exact smS_str h.2.1
  · exact ⟨(fun _ e => nomatch e), (fun _ e => nomatch e)⟩⟩
theorem isDeed_eD {t : Deed} (h : DOk t) : isDeed (eD t) = true := by
  show (isName (.str t.1) && (isName (.str t.2.1) && isDay (.int (t.2.2 : Int)))) = true
  have h6 := h.2.2
  have e : isDay (.int (t.2.2 : Int)) = true := by
    show (decide (0 ≤ (t.2.2 : Int)) && decide ((t.2.2 : Int) ≤ 6)) = true
    rw [decide_eq_true (by omega), decide_eq_true (by omega)]
    rfl
  rw [isName_str h.1, isName_str h.2.1, e]
  rfl
theorem smH_eH {hs : List Deed} (hl : hs.length ≤ 1000) (h : ∀ t ∈ hs, DOk t) : SmH (some (eH hs)) := ⟨(fun _ e => nomatch e), fun ds e => by
  cases e
  refine ⟨by rw [List.length_map]; exact hl, fun x m => ?_⟩
  obtain ⟨t, mt, rfl⟩ := List.mem_map.mp m
  exact smD_eD (h t mt)⟩
theorem isHist_eH {hs : List Deed} (hl : hs.length ≤ 60) (h : ∀ t ∈ hs, DOk t) : isHist (some (eH hs)) = true := by
  show (decide ((hs.map eD).length ≤ 60) && (hs.map eD).all isDeed) = true
  rw [List.length_map, decide_eq_true hl, List.all_map]
  exact List.all_eq_true.mpr fun t m => isDeed_eD (h t m)
theorem why_perm {ks ks' : List Str} (h : ∀ n, n ∈ ks ↔ n ∈ ks') (pl : Plans) (t : Deed) : why ks pl t = why ks' pl t := by
  unfold why
  simp only [h]
theorem refused_perm {ks ks' : List Str} (h : ∀ n, n ∈ ks ↔ n ∈ ks') : ∀ (hs : List Deed) (pl : Plans) (i : Nat), refused ks pl hs i = refused ks' pl hs i
  | [], _, _ => rfl
  | t :: r, pl, i => by
    unfold refused
    rw [why_perm h pl t, refused_perm h r]
theorem sortN_mem (ks : List Str) (n : Str) : n ∈ sortN ks ↔ n ∈ ks := (sortN_perm ks).mem_iff
theorem sortN_idem (ks : List Str) : sortN (sortN ks) = sortN ks := (sortN_uniq (ks := sortN ks) (List.Perm.refl _) (sortN_pair ks)).symm
theorem sortN_len (ks : List Str) : (sortN ks).length = ks.length := (sortN_perm ks).length_eq
theorem tWorld_sort {K : PySem.W.Frag} {ts : List Str} {rs : List (Str × Str)} {ks : List Str} {pl : Plans} : tWorld K ts rs (sortN ks) pl = tWorld K ts rs ks pl := by
  unfold tWorld fWorld
  rw [sortN_idem]
theorem WorldOk.sort {ts : List Str} {rs : List (Str × Str)} {ks : List Str} {pl : Plans} (h : WorldOk ts rs ks pl) : WorldOk ts rs (sortN ks) pl :=
  ⟨h.web, ⟨by rw [sortN_len]; exact h.ok.len, fun n m => h.ok.nm n ((sortN_mem ks n).mp m), (sortN_perm ks).nodup_iff.mpr h.ok.nd, fun n m => h.ok.pl n ((sortN_mem ks n).mp m)⟩, fun n m => h.inn n ((sortN_mem ks n).mp m), fun n m => h.st n ((sortN_mem ks n).mp m)⟩
abbrev WIx.ok (i : WIx) : Prop := WorldOk i.1 i.2.1 i.2.2.1 i.2.2.2
section
variable {P : Program} {w : World} {K : PySem.W.Frag} {mg : Str → Option Value} {base : Heap}
theorem ev_plans {X : Cx} {z : Zn} {δ : List (Option Z.Ty)} {o : Expr} {pos : Pos} {k : Nat} (T : Txt X.K X.mg) (i : WIx) (h : i.ok) (hr : Room k X.A) (hk : 2 ≤ k) (ho : EvD X z δ o (tWo X.K i)) (hab : attributeBase o "plans" X.env (eval o X.env) = eval o X.env := by rfl) : EvD X z δ (.Attribute o "plans" pos) (tPl (sortN i.2.2.1) i.2.2.2) :=
  ev_prop i (pb_plans T) hr hk ⟨h.ok.nd, h.ok.len.2⟩ rfl ho hab
theorem ev_web {X : Cx} {z : Zn} {δ : List (Option Z.Ty)} {o : Expr} {pos : Pos} {k : Nat} (T : Txt X.K X.mg) (i : WIx) (hr : Room k X.A) (hk : 2 ≤ k) (ho : EvD X z δ o (tWo X.K i)) (hab : attributeBase o "web" X.env (eval o X.env) = eval o X.env := by rfl) : EvD X z δ (.Attribute o "web" pos) (tWeb X.K i.1 i.2.1) :=
  ev_prop i (pb_web T) hr hk trivial rfl ho hab
theorem ev_rows {X : Cx} {z : Zn} {δ : List (Option Z.Ty)} {o : Expr} {pos : Pos} {k : Nat} (T : Txt X.K X.mg) (i : WIx) (hr : Room k X.A) (hk : 2 ≤ k) (ho : EvD X z δ o (tWo X.K i)) (hab : attributeBase o "rows" X.env (eval o X.env) = eval o X.env := by rfl) : EvD X z δ (.Attribute o "rows" pos) (dat (.tuple ((sortN i.2.2.1).map (eRow i.2.2.2)))) :=
  ev_prop i (pb_rows T) hr hk trivial rfl ho hab
/-- a deed that fits -/
def pRefusal (K : PySem.W.Frag) : Pr (WIx × Deed) := ⟨fun i => i.1.ok ∧ DOk i.2 ∧ Fits i.1.2.2.1 i.1.2.2.2 i.2, fun i => [tWo K i.1, dat (eD i.2)], fun _ => dat .none⟩
theorem cb_refusal (T : Txt K mg) : Cb CX0 P w K mg base 4 "refusal" ["world", "deed"] (pRefusal K).sp := by
  refine cb_pr T.f_refusal sc_refusal bd_refusal (fun _ => rfl) fun f cdv A outer s H E i z hr pz hp => ?_
  obtain ⟨wi, t⟩ := i
  obtain ⟨hw, hd, hf⟩ := hp
  have hw : wi.ok := hw
  have hd : DOk t := hd
  have hf : Fits wi.2.2.1 wi.2.2.2 t := hf
  refine sw_not (EvB.g (eb_notV (p := true) (eb_val (EvD.imp (ev_callD (P := pIsDeed) (eD t) (cb_is_deed T) hr (by decide) (smD_eD hd) (ea1 (ev_var 1))) fun v G q => ?_)))) ?_
  · have q : (dat (.bool (isDeed (eD t)))).p v G := q
    rw [isDeed_eD hd] at q
    exact q
  · refine sw_set 2 nd_refusal (T := dat .none) (EvD.g (EvD.imp (ev_callD (P := pReason) (sortN wi.2.2.1, wi.2.2.2, t) (cb_reason_of T) hr (by decide) trivial (ea2 (ev_plans T wi hw hr (by decide) (ev_var 0)) (ev_var 1))) fun v G q => ?_)) ?_
    · have q : (dat (eWhy (why (sortN wi.2.2.1) wi.2.2.2 t))).p v G := q
      rw [why_perm (sortN_mem _), why_none.mpr hf] at q
      exact q
    · refine sw_when (EvB.g (eb_isN (ev_var 2))) (fun h => sw_retT rfl (EvD.g ev_non) rfl) (fun h => by cases h)
def outW {α : Type} (o : Option (Nat × Why)) (a : α) : Except Er α := match o with
  | none => .ok a
  | some (i, w) => .error (.step (i : Int) w.nm)
def pAlong (K : PySem.W.Frag) : PrX (WIx × List Deed) := ⟨fun i => i.1.ok ∧ i.2.length ≤ 100, fun i => [tWo K i.1, dat (eH i.2)], fun i => outW (refused i.1.2.2.1 i.1.2.2.2 i.2 0) (tL ((stages i.1.2.2.2 i.2).map fun q => tPl (sortN i.1.2.2.1) q))⟩
theorem stages_len (pl : Plans) : ∀ hs : List Deed, (stages pl hs).length = hs.length + 1
  | [] => rfl
  | t :: r => by
    show (pl :: stages (ex1 pl t) r).length = _
    rw [List.length_cons, stages_len (ex1 pl t) r]
    rfl
theorem row_at (w : Why) : atI w.row 0 = some (.str w.nm) := by cases w <;> rfl
theorem eH_toL {X : Cx} {z : Zn} {δ : List (Option Z.Ty)} {e : Expr} {hs : List Deed} (h : EvD X z δ e (dat (eH hs))) : EvD X z δ e (tL (hs.map fun t => dat (eD t))) := mapL h
theorem cb_plans_along (T : Txt K mg) : Cb (L2.CX P w) P w K mg base 3 "plans_along" ["world", "history"] ((pAlong K).sp K) := by
  refine cb_prX T.f_plans_along sc_plans_along bd_plans_along (fun _ => rfl) fun f cdv A outer s H E i z hr pz hp hE => ?_
  obtain ⟨wi, hs⟩ := i
  obtain ⟨hw, hl⟩ := hp
  have hw : wi.ok := hw
  have hl : hs.length ≤ 100 := hl
  obtain ⟨ts, rs, ks, pl⟩ := wi
  have hw : WorldOk ts rs ks pl := hw
  have hsl := sortN_len ks
  have hk6 := hw.ok.len.2
  refine sw_set 2 nd_plans_along (T := tPl (sortN ks) pl) (EvD.g (ev_plans T (ts, rs, ks, pl) hw hr (by decide) (ev_var 0))) ?_
  refine sw_setO 3 nd_plans_along (C := cL [tPl (sortN ks) pl]) (ef_lst (ga_cons (EvD.g (ev_var 2)) ga_nil) (Nat.le_of_ble_eq_true rfl)) ?_
  refine sw_forS (S := List Deed) (J := [4, 5]) (g := g2 K 4 5) (List.range hs.length) (fun i => tT [dat (.int (i : Int)), dat (eD hs[i]!)]) (fun ys s => s = hs.take ys.length ∧ refused ks pl s 0 = none) (fun s => slots N_plans_along [some (tWo K (ts, rs, ks, pl)), some (dat (eH hs)), some (tPl (sortN ks) (runP pl s)), none]) (fun s => [(3, none, cL ((stages pl s).map fun q => tPl (sortN ks) q))])
    (fun s i => ((slots N_plans_along [some (tWo K (ts, rs, ks, pl)), some (dat (eH hs)), some (tPl (sortN ks) (runP pl s)), none]).set 4 (some (dat (.int (i : Int))))).set 5 (some (dat (eD hs[i]!)))) (L2.passes_of rfl) rfl (ei_ix (ei_enumA hs (fun t => dat (eD t)) T.enumerate_ (eH_toL (ev_var 1)))) (pg_tup rfl (pgs_cons (pg_name nd_plans_along rfl (Or.inl rfl)) (pgs_cons (pg_name nd_plans_along rfl (Or.inl rfl)) pgs_nil)))
    (fun s i => tr_tup2 4 5) (fun s q m => by rw [List.mem_singleton.mp m]; show (3 : Nat) ∉ [4, 5]; decide) ⟨[], ⟨rfl, rfl⟩, by repeat (first | exact Wk.nil | apply Wk.cons | apply Wk.no), rfl⟩ (fun ys i zs s e hs' => ?_) fun s hs' => ?_
  · obtain ⟨rfl, hrf⟩ := hs'
    obtain ⟨hi, hys⟩ := range_at e
    have hyl : ys.length = i := by rw [hys, List.length_range]
    rw [hyl] at hrf ⊢
    have hsp := split_at hi
    have hwi : WorldOk ts rs ks (runP pl (hs.take i)) := hw.run hrf
    have ett : hs.take (i + 1) = hs.take i ++ [hs[i]!] := take_succ hi
    have hlt : (hs.take i).length = i := by rw [List.length_take]; omega
    refine sw_set 6 nd_plans_along (T := dat (eWhy (why ks (runP pl (hs.take i)) hs[i]!))) (EvG.drop (EvD.g (EvD.imp (ev_callD (P := pReason) (sortN ks, runP pl (hs.take i), hs[i]!) (cb_reason_of T) hr (by decide) trivial (ea2 (ev_var 2) (ev_var 5))) fun v G q => ?_))) ?_
    · have q : (dat (eWhy (why (sortN ks) (runP pl (hs.take i)) hs[i]!))).p v G := q
      rw [why_perm (sortN_mem _)] at q
      exact q
    · refine sw_when (EvGB.drop (EvB.g (eb_notN (ev_var 6)))) (fun h => ?_) fun h => ?_
      · cases hq : why ks (runP pl (hs.take i)) hs[i]! with
        | none => rw [hq] at h; cases h
        | some ww =>
          have href : refused ks pl hs 0 = some (i, ww) := by
            conv => lhs; rw [hsp]
            rw [refused_app ks pl _ _ 0 hrf]
            unfold refused
            rw [hq, hlt]
            simp
          have hE' := hE (.step (i : Int) ww.nm) (by show outW (refused ks pl hs 0) _ = _; rw [href]; rfl)
          refine sw_raise_step T rfl (L2.takes_of rfl rfl rfl rfl) hr (by decide) pz.2 (EvG.drop (EvD.g (ev_var 4))) (EvG.drop (EvD.g (ev_ixTd (row_at ww) (EvD.imp (ev_var 6) fun v G q => ?_) ev_int))) hE'
          exact q
      · have hq : why ks (runP pl (hs.take i)) hs[i]! = none := by
          cases hq : why ks (runP pl (hs.take i)) hs[i]! with
          | none => rfl
          | some ww => rw [hq] at h; cases h
        have hf := why_none.mp hq
        have hf' : DPre (sortN ks) (runP pl (hs.take i)) hs[i]! := ⟨⟨(sortN_mem ks _).mpr hf.x, (sortN_mem ks _).mpr hf.y, hf.ne, hf.lx, hf.ly, hf.eq⟩, by rw [hsl]; omega, by have := (hwi.ok.pl _ hf.x).len; omega, by have := (hwi.ok.pl _ hf.y).len; omega⟩
        have hrn : runP pl (hs.take (i + 1)) = ex1 (runP pl (hs.take i)) hs[i]! := by rw [ett, runP_app]; rfl
        refine sw_set 2 nd_plans_along (T := tPl (sortN ks) (ex1 (runP pl (hs.take i)) hs[i]!)) (EvG.drop (EvD.g (ev_callD (P := pAfter) (sortN ks, runP pl (hs.take i), hs[i]!) (cb_plans_after T) hr (by decide) hf' (ea2 (ev_var 2) (ev_var 5))))) ?_
        refine sw_app (EvG.drop (EvD.g (ev_var 2))) (by rw [List.length_map, stages_len]; omega) ?_
        refine sw_nil ⟨hs.take (i + 1), ⟨by rw [List.length_append, hyl]; rfl, ?_⟩, ?_, ?_⟩
        · rw [ett, refused_app ks pl _ _ 0 hrf]
          unfold refused
          rw [hq]
          rfl
        · show Wk _ (slots N_plans_along [some (tWo K (ts, rs, ks, pl)), some (dat (eH hs)), some (tPl (sortN ks) (runP pl (hs.take (i + 1)))), none])
          rw [hrn]
          repeat (first | exact Wk.nil | apply Wk.cons | apply Wk.no)
        · show _ = [(3, none, cL ((stages pl (hs.take (i + 1))).map fun q => tPl (sortN ks) q))]
          rw [ett, stages_snoc, List.map_append, ← ett, hrn]
          rfl
  · obtain ⟨rfl, hrf⟩ := hs'
    rw [List.length_range, List.take_length] at hrf
    rw [List.length_range, List.take_length]
    refine sw_freeze ?_
    refine sw_retX rfl (EvD.g (EvD.imp (ev_var 3) fun v G h => cL_ty.mp h)) ?_
    show outW (refused ks pl hs 0) _ = _
    rw [hrf]
    rfl
end
end K37
end
section
set_option maxRecDepth 100000
set_option maxHeartbeats 4000000
/-! W10: replay. -/
namespace K37
open PySem PySem.Spec PyProof.Rows L2
open Z
section
variable {P : Program} {w : World} {K : PySem.W.Frag} {mg : Str → Option Value} {base : Heap}
/-- a history as the law hands it -/
structure HOk (hs : List Deed) : Prop where
  len : hs.length ≤ 60
  all : ∀ t ∈ hs, DOk t
theorem HOk.smH {hs : List Deed} (h : HOk hs) : SmH (some (eH hs)) := smH_eH (by have := h.len; omega) h.all
theorem HOk.is {hs : List Deed} (h : HOk hs) : isHist (some (eH hs)) = true := isHist_eH h.len h.all
theorem ev_hist {X : Cx} {z : Zn} {δ : List (Option Z.Ty)} {e : Expr} {p pos : Pos} {k : Nat} (T : Txt X.K X.mg) {o : Option PyData} (sm : SmH o) (hr : Room k X.A) (hk : 4 ≤ k) (ha : EvD X z δ e (tHi o)) (hg : Gl X "is_history" := by rfl) (he : starEach [e] X.env = (false, eval e X.env) :: starEach [] X.env := by rfl) (hpl : (backTo pos (starEach [] X.env)).any (·.1) = false := by rfl) : EvD X z δ (.Call (.Name "is_history" p) [e] [] pos) (dat (.bool (isHist o))) :=
  ev_callD (P := pIsHist) o (cb_is_history T) hr hk sm (ea1 (he := he) ha) hg (by decide) he hpl
theorem ev_histT {X : Cx} {z : Zn} {δ : List (Option Z.Ty)} {e : Expr} {p pos : Pos} {k : Nat} (T : Txt X.K X.mg) {hs : List Deed} (hh : HOk hs) (hr : Room k X.A) (hk : 4 ≤ k) (ha : EvD X z δ e (dat (eH hs))) (hg : Gl X "is_history" := by rfl) (he : starEach [e] X.env = (false, eval e X.env) :: starEach [] X.env := by rfl) (hpl : (backTo pos (starEach [] X.env)).any (·.1) = false := by rfl) : EvD X z δ (.Call (.Name "is_history" p) [e] [] pos) (dat (.bool true)) :=
  EvD.imp (ev_hist T hh.smH hr hk (EvD.imp ha fun v G q => q) hg he hpl) fun v G q => by
    rw [hh.is] at q
    exact q
/-- no value at all: what an expression that must raise gives -/
def tNo : Z.Ty := ⟨fun _ _ => False, fun _ h => h⟩
theorem ev_makeNo {X : Cx} {z : Zn} {δ : List (Option Z.Ty)} {e : Expr} {es : List Expr} {p pos : Pos} {k n : Nat} {ι : Type} {x : Str} {ps : List Str} {W : Z.Ty} {Ts : List Z.Ty} {P : PrI ι} {C : Addr} (c : Ib X.prog X.w X.K X.mg X.base n x C ps (P.sp C)) (hr : Room k X.A) (hk : n + 1 ≤ k) (ha : EvA X z δ (e :: es) Ts) (no : ∀ G vs, Reps G vs Ts → False) (hg : Gl X x := by rfl)
    (hdb : (x == ("__debug__" : Str)) = false := by decide) (he : starEach (e :: es) X.env = (false, eval e X.env) :: starEach es X.env := by rfl) (hpl : (backTo pos (starEach es X.env)).any (·.1) = false := by rfl) :
    EvD X z δ (.Call (.Name x p) (e :: es) [] pos) W := fun G H σ bg rs Q q => by
  obtain ⟨f, fd, hm, F, hb⟩ := c.ex
  exact w_pe (pe_make hm F (hr.mono hk) hg c.gC hb .nil pass0 pa_w hdb he hpl) (ha G H σ bg rs _ fun vs G1 H1 e1 r => (no _ _ r).elim)
theorem sw_retNo {X : Cx} {z : Zn} {δ : List (Option Z.Ty)} {Ω : List (Nat × Option Addr × Cy)} {D : Dn} {e : Expr} {pos : Pos} {rest : List Stmt} (he : EvG X z δ Ω e tNo) : SWs X z (.Return (some e) pos :: rest) D δ Ω := sw_ret he fun v G' H' bg t => t.elim
def pReplay (K : PySem.W.Frag) : PrX (WIx × List Deed) := ⟨fun i => i.1.ok ∧ HOk i.2, fun i => [tWo K i.1, dat (eH i.2)], fun i => outW (refused i.1.2.2.1 i.1.2.2.2 i.2 0) (tWo K (i.1.1, i.1.2.1, i.1.2.2.1, runP i.1.2.2.2 i.2))⟩
theorem cb_replay (T : Txt K mg) : Cb (L2.CX P w) P w K mg base 7 "replay" ["world", "history"] ((pReplay K).sp K) := by
  refine cb_prX T.f_replay sc_replay bd_replay (fun _ => rfl) fun f cdv A outer s H E i z hr pz hp hE => ?_
  obtain ⟨wi, hs⟩ := i
  obtain ⟨hw, hh⟩ := hp
  have hw : wi.ok := hw
  have hh : HOk hs := hh
  obtain ⟨ts, rs, ks, pl⟩ := wi
  have hw : WorldOk ts rs ks pl := hw
  refine sw_not (EvB.g (eb_notV (p := true) (eb_val (ev_histT T hh hr (by decide) (ev_var 1))))) ?_
  cases hq : refused ks pl hs 0 with
  | some iw =>
    obtain ⟨i, ww⟩ := iw
    refine sw_retNo (EvD.g (ev_makeNo (ib_World T) hr (by decide) (ea2 (ev_web T (ts, rs, ks, pl) hr (by decide) (ev_var 0)) (ev_ixL (T := tNo) (Ts := [tNo]) rfl (ev_callXD (P := pAlong K) ((ts, rs, ks, pl), hs) (L2.takes_of rfl rfl rfl rfl) pz.2 (cb_plans_along T) hr (by decide) ⟨hw, Nat.le_trans hh.len (by decide)⟩ (ea2 (ev_var 0) (ev_var 1)) (fun T h => ?_) (fun er h => ?_)) (ev_neg ev_int))) (fun G vs r => ?_)))
    · have h : outW (refused ks pl hs 0) _ = _ := h
      rw [hq] at h
      cases h
    · have h : outW (refused ks pl hs 0) _ = _ := h
      rw [hq] at h
      refine hE er ?_
      show outW (refused ks pl hs 0) _ = _
      rw [hq]
      cases h
      rfl
    · obtain ⟨v, w, e, q1, q2⟩ := reps2 r
      exact q2
  | none =>
    have hr2 : WorldOk ts rs (sortN ks) (runP pl hs) := (hw.run hq).sort
    refine sw_retX (U := tWo K (ts, rs, sortN ks, runP pl hs)) rfl (EvD.g (ev_make (ts, rs, sortN ks, runP pl hs) (ib_World T) hr (by decide) hr2 (ea2 (ev_web T (ts, rs, ks, pl) hr (by decide) (ev_var 0)) (ev_ixL (T := tPl (sortN ks) (runP pl hs)) (at_neg1 (by rw [List.getLast?_map, stages_last]; rfl)) (ev_callXD (P := pAlong K) ((ts, rs, ks, pl), hs) (L2.takes_of rfl rfl rfl rfl) pz.2 (cb_plans_along T) hr (by decide) ⟨hw, Nat.le_trans hh.len (by decide)⟩ (ea2 (ev_var 0) (ev_var 1)) (fun T h => ?_) (fun er h => ?_)) (ev_neg ev_int))))) ?_
    · have h : outW (refused ks pl hs 0) _ = _ := h
      rw [hq] at h
      cases h
      exact fun v G t => t
    · have h : outW (refused ks pl hs 0) _ = _ := h
      rw [hq] at h
      cases h
    · show outW (refused ks pl hs 0) _ = _
      rw [hq]
      show Except.ok (tWorld K ts rs ks (runP pl hs)) = .ok (tWorld K ts rs (sortN ks) (runP pl hs))
      rw [tWorld_sort]
end
end K37
end
section
set_option maxRecDepth 100000
set_option maxHeartbeats 4000000
/-! W11: tokens. -/
namespace Z
open PySem PySem.Spec PyProof.Rows L2
section
variable {X : Cx} {z : Zn} {δ δ' : List (Option Ty)} {Ω : Own} {a b c e o : Expr} {es : List Expr} {pos : Pos} {T U W : Ty} {C : Cy} {i j : Nat} {al : Option Addr}
/-- the head of one's own, a dict, is read; what comes of it leans on lists and tuples alone -/
theorem EvG.viewD (hC : ∀ o G, C.p o G → isSq o = false) (f : FlatL T) (h : ∀ z', z'.sa = none → (∀ b, ¬ z'.B b) → EvD X z' (δ.set i (some C.ty)) e T) : EvG X z δ ((i, al, C) :: Ω) e T := fun G H σ g Q q => by
  obtain ⟨a, o, bg, rs, _, _, c, back⟩ := view_up g
  refine h _ rfl (fun _ q => q) _ H σ bg rs Q fun v G' H' x t => ?_
  obtain ⟨G'', x2, ha, tt⟩ := back G' H' x
  exact q v G'' H' x2 (f v G' G'' (fun b u hu e => tt b u (fun w => by
    rw [w, ha] at e
    have := hC o G c
    cases e
    rw [hu] at this
    cases this) e) t)
theorem sq_DK {es : List (L2.Key × Ty)} (o : HO) (G : Hp) (h : (cDK es).p o G) : isSq o = false := by
  obtain ⟨kvs, e, _⟩ := h
  rw [e]
  rfl
/-- x = [..] as one statement -/
theorem s1_setLc1 {α : Type} [Inhabited α] {y x : Str} {py py2 p pos : Pos} {iter elt : Expr} {ifs : List Expr} {scope : Scope} {D : Dn} (xs : List α) (F : α → Ty) (keep : α → Bool) (R : α → Ty) (i j : Nat) (hc : X.calm = true) (hN : X.N.Nodup) (hi : EvI X z δ (.Name y py) iter xs.length (fun i => F xs[i]!)) (ok : BlkOk X.N X.env.scope scope [(y, j)])
    (pg : ∀ (s : Shared) (H : Hp) (C : Addr) (cl : List (Str × Addr)) (fp : List Addr), PG (X.blk s H scope (compEnvC scope cl C X.env) fp) (.Name y py) (gName j))
    (ht : ∀ x, x ∈ xs → ∀ (s : Shared) (H : Hp) (C : Addr) (cl : List (Str × Addr)) (fp : List Addr), EvTs (X.blk s H scope (compEnvC scope cl C X.env) fp) z ((δ.set j none).set j (some (F x))) ifs (keep x))
    (he : ∀ x, x ∈ xs → keep x = true → ∀ (s : Shared) (H : Hp) (C : Addr) (cl : List (Str × Addr)) (fp : List Addr), EvD (X.blk s H scope (compEnvC scope cl C X.env) fp) z ((δ.set j none).set j (some (F x))) elt (R x)) (hz : xs.length ≤ 1000)
    (kk : D.nx (δ.set i (some (tL ((xs.filter keep).map R)))) Ω) (ho : ∀ q ∈ Ω, i ≠ q.1 := by simp) (hy : X.N[i]? = some x := by rfl) (hyl : X.env.scope.names.lookup x = some .local := by rfl)
    (hsw : swapsWith (.ListComp elt [⟨.Name y py, iter, ifs, 0⟩] scope p) (some (.Name x py2)) pos.line X.env = pure true := by exact sw_true rfl rfl rfl (by decide +kernel)) (hs : ∀ x, foldedSetIterable iter X.env x = pure x := by intro _; rfl) :
    S1 X z (.Assign [.Name x py2] (.ListComp elt [⟨.Name y py, iter, ifs, 0⟩] scope p) pos) D δ Ω := fun F0 G H σ sf g0 => by
  obtain ⟨wi, hpi, hwi⟩ := hi
  rw [← range_filter xs keep R] at kk
  refine w_ps (ps_setLc (own := [(y, j)]) (g := gName j) (tt := uT X scope ifs) (te := uE X scope elt) hc hN hy hyl hsw hpi ok pg
    (fun s H C cl fp => ⟨fun pins s' σ' H' Q' I h => h s H C cl fp pins s' I⟩) (fun s H C cl fp => ⟨fun pins s' σ' H' Q' I h => h s H C cl fp pins s' I⟩) hs) ?_
  exact lc_c (fun i => (δ.set j none).set j (some (F xs[i]!))) (fun i => keep xs[i]!) (fun i => R xs[i]!) hwi (fun i h => tb_name j List.mem_cons_self pg) (fun i h => ht _ (nth_bang h)) (fun i h k => he _ (nth_bang h) k) hz g0.bg g0.rs fun v G1 H1 x1 t =>
    ⟨G1, _, Ω, ⟨g0.bg.ext x1, (g0.rs.mono x1.g).set t i, (g0.ow.ext x1).slot fun q m => List.getElem?_set_ne (ho q m)⟩, sf.trans x1.g, kk⟩
theorem ei_keysA {d : Addr} {tg : Expr} {ks : List Str} {F : Str → Ty} (ha : EvD X z δ e (tFz d (ks.map fun n => (.inr n, F n)))) : EvI X z δ tg e ks.length (fun i => (fun n => dat (.str n)) ks[i]!) := by
  have h := ei_keys (tg := tg) ha
  rw [List.length_map] at h
  refine ei_mono h fun i hi v G t => ?_
  obtain ⟨kk, e1, e2⟩ := t
  rw [List.getElem?_map, List.getElem?_eq_getElem hi] at e1
  have e1 : some (Sum.inr ks[i] : L2.Key) = some kk := e1
  cases e1
  have e2 : v = kV (.inr ks[i]) := e2
  rw [e2, getElem!_pos ks i hi]
  exact .str _
end
end Z
namespace K37
open PySem PySem.Spec PyProof.Rows L2
open Z
/-! ### tokens, in plain Lean -/
def cr0 (pl : Plans) : Plans := fun n => List.replicate (pl n).length n
def arr (cr : Plans) (n : Str) (d : Nat) : Str := if d = 0 then n else (cr n)[d - 1]!
def swp (cr : Plans) (t : Deed) : Plans := fun n => if n = t.2.1 then (cr t.2.1).take t.2.2 ++ (cr t.1).drop t.2.2 else if n = t.1 then (cr t.1).take t.2.2 ++ (cr t.2.1).drop t.2.2 else cr n
def thr (cr : Plans) : List Deed → List Deed
  | [] => []
  | t :: r => (arr cr t.1 t.2.2, arr cr t.2.1 t.2.2, t.2.2) :: thr (swp cr t) r
/-- those who come, on this day, with the token -/
def comers (ks : List Str) (cr : Plans) (p : Str) (d : Nat) : List Str := ks.filter fun n => decide (d < (cr n).length) && decide (arr cr n d = p)
def arvr (ks : List Str) (cr : Plans) (p : Str) (d : Nat) : Str := (comers ks cr p d)[0]!
/-- the carried lists as a type, as an own thing -/
def eCr (ks : List Str) (cr : Plans) : List (L2.Key × Z.Ty) := ks.map fun n => (.inr n, dat (eL (cr n)))
section
variable {P : Program} {w : World} {K : PySem.W.Frag} {mg : Str → Option Value} {base : Heap}
def pTokens (K : PySem.W.Frag) : PrF WIx := ⟨fun i => i.ok, fun i => [tWo K i], fun i => cDK (eCr (sortN i.2.2.1) (cr0 i.2.2.2))⟩
theorem cb_first_tokens (T : Txt K mg) : Cb CX0 P w K mg base 3 "first_tokens" ["world"] (pTokens K).sp := by
  refine cb_prF T.f_first_tokens sc_first_tokens bd_first_tokens (fun _ => rfl) fun f cdv A outer s H E i z hr pz hp => ?_
  obtain ⟨ts, rs, ks, pl⟩ := i
  have hw : WorldOk ts rs ks pl := hp
  have hk6 := hw.ok.len.2
  have hsl := sortN_len ks
  refine sw_retFr rfl (ef_dc2 (sortN ks) (fun n => dat (.str n)) (fun n => dat (eT (pl n))) (fun n => .inr n) (fun n => dat (eL (cr0 pl n))) 1 2 rfl nd_first_tokens (ei_mono (ei_tupA (sortN ks) (fun n => dat (eRow pl n)) (mapT (ev_rows T (ts, rs, ks, pl) hr (by decide) (ev_var 0)))) fun _ _ _ _ t => dat_tuple.mp t) (blkOk_by (N := N_first_tokens) (sc := defScope s_first_tokens) (by decide +kernel))
    (fun _ _ _ _ _ => pg_tup rfl (pgs_cons (pg_name nd_first_tokens rfl (Or.inl rfl)) (pgs_cons (pg_name nd_first_tokens rfl (Or.inl rfl)) pgs_nil))) (fun n m _ _ _ _ _ => EvD.rawS (ev_var 1)) (fun n m _ _ _ _ _ => ?_) (by omega) (map_nodup inr_inj ((sortN_perm ks).nodup_iff.mpr hw.ok.nd))) rfl
  refine EvD.imp (ev_repL (Ts := [dat (.str n)]) (n := (pl n).length) ?_ ?_ (ev_lst (ea1 (ev_var 1)) (by show 1 ≤ 1000; decide)) (lenP T.len_ (ev_var 2))) fun v G t => ?_
  · have := (hw.ok.pl n ((sortN_mem ks n).mp m)).len
    show 1 * (pl n).length ≤ 1000
    omega
  · have := (hw.ok.pl n ((sortN_mem ks n).mp m)).len
    omega
  · refine eLf_of (f := PyData.str) (ts := cr0 pl n) ?_
    rw [List.flatten_replicate_singleton] at t
    unfold cr0
    rw [List.map_replicate]
    exact t
/-! ### reading what is carried -/
theorem at_map {α β : Type} {f : α → β} {xs : List α} {i : Int} {a : α} (h : atI xs i = some a) : atI (xs.map f) i = some (f a) := by
  unfold atI at h ⊢
  rw [List.length_map]
  cases q : ixN xs.length i with
  | none => rw [q] at h; cases h
  | some n =>
    rw [q] at h
    have h : xs[n]? = some a := h
    show (xs.map f)[n]? = _
    rw [List.getElem?_map, h]
    rfl
theorem getCr {X : Cx} {z : Zn} {δ : List (Option Z.Ty)} {a b : Expr} {pos : Pos} {ks : List Str} {cr : Plans} {n : Str} (hu : X.A.units + 1 < cLine) (hn : n ∈ ks) (ha : EvD X z δ a (tDR (eCr ks cr))) (hb : EvD X z δ b (dat (.str n))) (hs : NoSl b := by exact fun _ _ => rfl) : EvD X z δ (.Subscript a b pos) (dat (eL (cr n))) := ev_dget (kk := .inr n) hu (look_strK ks hn) ha (EvD.rawS hb) hs
theorem at_eL {X : Cx} {z : Zn} {δ : List (Option Z.Ty)} {a b : Expr} {pos : Pos} {ts : List Str} {n : Nat} (h : n < ts.length) (ha : EvD X z δ a (dat (eL ts))) (hb : EvD X z δ b (dat (.int (n : Int)))) (hs : PlainIx b := by exact fun _ _ => rfl) : EvD X z δ (.Subscript a b pos) (dat (.str ts[n]!)) := by
  have e : atI (ts.map PyData.str) (n : Int) = some (.str ts[n]!) := by
    rw [at_nat (by rw [List.length_map]; exact h), bang_map h]
  exact ev_ixLd e ha hb hs
theorem lenEL {X : Cx} {z : Zn} {δ : List (Option Z.Ty)} {a : Expr} {p pos : Pos} {ts : List Str} (hm : X.mg "len" = none) (ha : EvD X z δ a (dat (eL ts))) (hg : Gl X "len" := by rfl) (he : starEach [a] X.env = (false, eval a X.env) :: starEach [] X.env := by rfl) : EvD X z δ (.Call (.Name "len" p) [a] [] pos) (dat (.int (ts.length : Int))) := by
  have h := ev_lenLd (p := p) (pos := pos) (ds := ts.map PyData.str) hm ha hg he
  rw [List.length_map] at h
  exact h
theorem ev_cutL {X : Cx} {z : Zn} {δ : List (Option Z.Ty)} {a b c1 c2 : Expr} {p1 p2 p3 p4 pos : Pos} {xs ys : List Str} {d : Nat} (hl : xs.length ≤ 100) (hl2 : ys.length ≤ 100) (ha : EvD X z δ a (dat (eL xs))) (hc1 : EvD X z δ c1 (dat (.int (d : Int)))) (hb : EvD X z δ b (dat (eL ys))) (hc2 : EvD X z δ c2 (dat (.int (d : Int)))) :
    EvD X z δ (.BinOp (.Subscript a (.Slice none (some c1) none p1) p2) .Add (.Subscript b (.Slice (some c2) none none p3) p4) pos) (dat (eL (xs.take d ++ ys.drop d))) := by
  have h1 := ev_slL (p2 := p1) (pos := p2) (eL_toL ha) eo_none (eo_some hc1)
  have h2 := ev_slL (p2 := p3) (pos := p4) (eL_toL hb) (eo_some hc2) eo_none
  rw [cut_take, ← List.map_take] at h1
  rw [cut_drop, ← List.map_drop] at h2
  refine EvD.imp (ev_catL ?_ h1 h2) fun v G t => ?_
  · rw [List.length_map, List.length_map, List.length_take, List.length_drop]
    omega
  · rw [← List.map_append] at t
    exact eLf_of (f := PyData.str) t
theorem put_cr {ks : List Str} {cr : Plans} {x : Str} {p : List Str} (h : x ∈ ks) : putT (eCr ks cr) (.inr x) (dat (eL p)) = eCr ks fun n => if n = x then p else cr n := by
  unfold eCr
  rw [put_map ks h]
  refine List.map_congr_left fun n _ => ?_
  show ((.inr n : L2.Key), _) = ((.inr n : L2.Key), dat (eL (if n = x then p else cr n)))
  by_cases c : n = x
  · rw [if_pos c, if_pos c]
  · rw [if_neg c, if_neg c]
def pArrival : Pr (List Str × Plans × Str × Nat) := ⟨fun i => i.2.2.1 ∈ i.1 ∧ i.2.2.2 ≤ (i.2.1 i.2.2.1).length, fun i => [tDR (eCr i.1 i.2.1), dat (.str i.2.2.1), dat (.int (i.2.2.2 : Int))], fun i => dat (.str (arr i.2.1 i.2.2.1 i.2.2.2))⟩
theorem cb_arrival (T : Txt K mg) : Cb CX0 P w K mg base 1 "arrival" ["carried", "name", "day"] pArrival.sp := by
  refine cb_pr T.f_arrival sc_arrival bd_arrival (fun _ => rfl) fun f cdv A outer s H E i z hr pz hp => ?_
  obtain ⟨ks, cr, n, d⟩ := i
  obtain ⟨hn, hd⟩ := hp
  have hn : n ∈ ks := hn
  have hd : d ≤ (cr n).length := hd
  refine sw_when (EvB.g (eb_eqI (i := (d : Int)) (j := 0) (ev_var 2) ev_int)) (fun h => ?_) fun h => ?_
  · have h0 : d = 0 := by have := of_decide_eq_true h.symm; omega
    refine sw_retT rfl (EvD.g (ev_var 1)) ?_
    show dat (.str n) = dat (.str (arr cr n d))
    unfold arr
    rw [if_pos h0]
  · have h0 : ¬ d = 0 := by have := of_decide_eq_false h.symm; omega
    refine sw_retT rfl (EvD.g (at_eL (ts := cr n) (n := d - 1) (by omega) (getCr (ks := ks) (hu1 hr) hn (ev_var 0) (ev_var 1)) (EvD.imp (ev_sub (ev_var 2) ev_int) fun v G t => ?_))) ?_
    · have e : (d : Int) - 1 = ((d - 1 : Nat) : Int) := by omega
      rw [e] at t
      exact t
    · show dat (.str _) = dat (.str (arr cr n d))
      unfold arr
      rw [if_neg h0]
def pArriver : Pr (List Str × Plans × Str × Nat) := ⟨fun i => i.1.length ≤ 100 ∧ comers i.1 i.2.1 i.2.2.1 i.2.2.2 ≠ [], fun i => [tDK (eCr i.1 i.2.1), dat (.str i.2.2.1), dat (.int (i.2.2.2 : Int))], fun i => dat (.str (arvr i.1 i.2.1 i.2.2.1 i.2.2.2))⟩
theorem cb_arriver (T : Txt K mg) : Cb CX0 P w K mg base 2 "arriver" ["carried", "token", "day"] pArriver.sp := by
  refine cb_pr T.f_arriver sc_arriver bd_arriver (fun _ => rfl) fun f cdv A outer s H E i z hr pz hp => ?_
  obtain ⟨ks, cr, p, d⟩ := i
  obtain ⟨hl, hne⟩ := hp
  have hl : ks.length ≤ 100 := hl
  have hne : comers ks cr p d ≠ [] := hne
  refine sw_lock (es := eCr ks cr) 0 rfl (fun q m => ?_) (fun j U hj e => ?_) (fun q m => nomatch m) fun z' d' hz => ?_
  · obtain ⟨n, mn, rfl⟩ := List.mem_map.mp m
    exact fl_dat
  · match j, hj, e with
    | 1, _, e => cases e; exact fl_dat
    | 2, _, e => cases e; exact fl_dat
    | 3, _, e => cases e
    | 4, _, e => cases e
    | j + 5, _, e => cases e
  · refine s1_setLc1 ks (fun n => dat (.str n)) (fun n => decide (d < (cr n).length) && decide (arr cr n d = p)) (fun n => dat (.str n)) 3 4 rfl nd_arriver (ei_keysA (F := fun n => dat (eL (cr n))) (ev_var 0)) (blkOk_by (N := N_arriver) (sc := defScope s_arriver) (by decide +kernel)) (fun _ _ _ _ _ => pg_name nd_arriver rfl (Or.inl rfl))
      (fun n m _ _ _ _ _ => et_one (EvW.eb (ew_and (p := decide (d < (cr n).length)) (EvB.imp (eb_gt (lenEL T.len_ (getCr (ks := ks) (hu1 hr) m (EvD.imp (ev_var 0) fun _ _ => tFz_rd) (ev_var 4))) (ev_var 2)) fun b h => ?_) fun h => ew_and1 (eb_eqS (ev_callD (P := pArrival) (ks, cr, n, d) (cb_arrival T) hr (by decide) ⟨m, Nat.le_of_lt (of_decide_eq_true h)⟩ (ea_cons (EvD.imp (ev_var 0) fun _ _ => tFz_rd) (ea2 (ev_var 4) (ev_var 2)))) (ev_var 1))))) (fun n m _ _ _ _ _ _ => ev_var 4) (by omega) ?_
    · rw [h]
      by_cases c : d < (cr n).length
      · rw [decide_eq_true c, decide_eq_true (Int.ofNat_lt.mpr c)]
      · rw [decide_eq_false c, decide_eq_false fun w => c (Int.ofNat_lt.mp w)]
    · refine ⟨rfl, fun j U hj e => ?_, (fun q m => nomatch m), ?_⟩
      · match j, hj, e with
        | 1, _, e => cases e; exact fl_dat
        | 2, _, e => cases e; exact fl_dat
        | 3, _, e =>
          cases e
          refine fl_L fun U m => ?_
          obtain ⟨n, mn, rfl⟩ := List.mem_map.mp m
          exact fl_dat
        | 4, _, e => cases e
        | j + 5, _, e => cases e
      · refine sw_retT rfl (EvD.g (ev_ixL (T := dat (.str (arvr ks cr p d))) ?_ (ev_var 3) ev_int)) rfl
        exact at_map (at_zero (List.length_pos_iff.mpr hne))
structure SPre (ks : List Str) (cr : Plans) (t : Deed) : Prop where
  x : t.1 ∈ ks
  y : t.2.1 ∈ ks
  lx : (cr t.1).length ≤ 100
  ly : (cr t.2.1).length ≤ 100
  kl : ks.length ≤ 100
def pSwap : PrM (List Str × Plans × Deed) := ⟨fun i => SPre i.1 i.2.1 i.2.2, fun i => cDK (eCr i.1 i.2.1), fun i => [dat (eD i.2.2)], fun i => cDK (eCr i.1 (swp i.2.1 i.2.2))⟩
theorem cb_swap_tokens (T : Txt K mg) : Cb CX0 P w K mg base 1 "swap_tokens" ["carried", "deed"] pSwap.sp := by
  refine cb_prM T.f_swap_tokens sc_swap_tokens bd_swap_tokens (fun _ => rfl) fun f cdv A outer s H E i z al hr pz hp => ?_
  obtain ⟨ks, cr, t⟩ := i
  obtain ⟨hx, hy, hlx, hly, hkl⟩ := hp
  have hx : t.1 ∈ ks := hx
  have hy : t.2.1 ∈ ks := hy
  have hlx : (cr t.1).length ≤ 100 := hlx
  have hly : (cr t.2.1).length ≤ 100 := hly
  have hkl : ks.length ≤ 100 := hkl
  have hu := hu1 hr
  refine sw_asg (g := g3 K 2 3 4) (EvG.drop (EvD.g (asgD (ev_var 1)))) (pg_tup rfl (pgs_cons (pg_name nd_swap_tokens rfl (Or.inl rfl)) (pgs_cons (pg_name nd_swap_tokens rfl (Or.inl rfl)) (pgs_cons (pg_name nd_swap_tokens rfl (Or.inl rfl)) pgs_nil)))) (tr_tup3 2 3 4) ?_
  refine sw_set 5 nd_swap_tokens (T := dat (eL ((cr t.1).take t.2.2 ++ (cr t.2.1).drop t.2.2))) (EvG.viewD sq_DK fl_dat fun z' h1 h2 => ev_cutL hlx hly (getCr (ks := ks) hu hx (EvD.imp (ev_var 0) fun _ _ h => tDK_rd (cDK_ty.mp h)) (ev_var 2)) (ev_var 4) (getCr (ks := ks) hu hy (EvD.imp (ev_var 0) fun _ _ h => tDK_rd (cDK_ty.mp h)) (ev_var 3)) (ev_var 4)) ?_
  refine sw_set 6 nd_swap_tokens (T := dat (eL ((cr t.2.1).take t.2.2 ++ (cr t.1).drop t.2.2))) (EvG.viewD sq_DK fl_dat fun z' h1 h2 => ev_cutL hly hlx (getCr (ks := ks) hu hy (EvD.imp (ev_var 0) fun _ _ h => tDK_rd (cDK_ty.mp h)) (ev_var 3)) (ev_var 4) (getCr (ks := ks) hu hx (EvD.imp (ev_var 0) fun _ _ h => tDK_rd (cDK_ty.mp h)) (ev_var 2)) (ev_var 4)) ?_
  refine sw_dput (kk := .inr t.1) hu (EvG.drop (EvD.g (ev_var 5))) (EvG.drop (EvD.g (EvD.rawS (ev_var 2)))) (by unfold eCr; rw [List.length_map]; omega) ?_
  rw [put_cr hx]
  refine sw_dput (kk := .inr t.2.1) hu (EvG.drop (EvD.g (ev_var 6))) (EvG.drop (EvD.g (EvD.rawS (ev_var 3)))) (by unfold eCr; rw [List.length_map]; omega) ?_
  rw [put_cr hy]
  exact sw_nil ⟨[], rfl⟩
def crs (pl : Plans) (u : Deed) : Nat × Str := (u.2.2, (pl u.1)[u.2.2]!)
def pCross (K : PySem.W.Frag) : Pr (WIx × Deed) := ⟨fun i => i.2.1 ∈ i.1.2.2.1 ∧ DOk i.2 ∧ i.2.2.2 < (i.1.2.2.2 i.2.1).length, fun i => [tWo K i.1, dat (eD i.2)], fun i => dat (eC (crs i.1.2.2.2 i.2))⟩
theorem at_eD0 {X : Cx} {z : Zn} {δ : List (Option Z.Ty)} {a : Expr} {p pos : Pos} {j} {t : Deed} (ha : EvD X z δ a (dat (eD t))) : EvD X z δ (.Subscript a (.Constant (.int 0) j p) pos) (dat (.str t.1)) := ev_ixTd (ds := [.str t.1, .str t.2.1, .int (t.2.2 : Int)]) rfl ha ev_int
theorem at_eD1 {X : Cx} {z : Zn} {δ : List (Option Z.Ty)} {a : Expr} {p pos : Pos} {j} {t : Deed} (ha : EvD X z δ a (dat (eD t))) : EvD X z δ (.Subscript a (.Constant (.int 1) j p) pos) (dat (.str t.2.1)) := ev_ixTd (ds := [.str t.1, .str t.2.1, .int (t.2.2 : Int)]) rfl ha ev_int
theorem at_eD2 {X : Cx} {z : Zn} {δ : List (Option Z.Ty)} {a : Expr} {p pos : Pos} {j} {t : Deed} (ha : EvD X z δ a (dat (eD t))) : EvD X z δ (.Subscript a (.Constant (.int 2) j p) pos) (dat (.int (t.2.2 : Int))) := ev_ixTd (ds := [.str t.1, .str t.2.1, .int (t.2.2 : Int)]) rfl ha ev_int
theorem cb_thread_crossing (T : Txt K mg) : Cb CX0 P w K mg base 4 "thread_crossing" ["world", "thread"] (pCross K).sp := by
  refine cb_pr T.f_thread_crossing sc_thread_crossing bd_thread_crossing (fun _ => rfl) fun f cdv A outer s H E i z hr pz hp => ?_
  obtain ⟨wi, t⟩ := i
  obtain ⟨hn, hd, hl⟩ := hp
  have hn : t.1 ∈ wi.2.2.1 := hn
  have hd : DOk t := hd
  have hl : t.2.2 < (wi.2.2.2 t.1).length := hl
  exact sw_retT rfl (EvD.g (ev_tupD (ds := [.int (t.2.2 : Int), .str (wi.2.2.2 t.1)[t.2.2]!]) (ea2 (at_eD2 (ev_var 1)) (ev_meth (P := pPlace K) (wi, t.1, t.2.2) (mb_place T) hr (by decide) ⟨⟨hn, hd.1⟩, hd.2.2, hl⟩ rfl rfl (ev_var 0) (ea2 (at_eD0 (ev_var 1)) (at_eD2 (ev_var 1))))) (by show 2 ≤ 1000; decide))) rfl
end
end K37
end
section
set_option maxRecDepth 100000
set_option maxHeartbeats 4000000
/-! M2: tokens, threads, parts and the normal form, in plain Lean. -/
namespace K37
open PySem PySem.Spec PyProof.Rows L2
open Z
/-! ### two names changed over -/
def sw (x y n : Str) : Str := if n = y then x else if n = x then y else n
theorem sw_inj {x y a b : Str} (h : sw x y a = sw x y b) : a = b := by
  unfold sw at h
  split at h <;> split at h <;> (try split at h) <;> (try split at h) <;> simp_all
theorem sw_map {f : Str → Str} (inj : ∀ a b, f a = f b → a = b) (x y n : Str) : f (sw x y n) = sw (f x) (f y) (f n) := by
  unfold sw
  by_cases h1 : n = y
  · rw [if_pos h1, if_pos (by rw [h1])]
  · rw [if_neg h1, if_neg fun e => h1 (inj _ _ e)]
    by_cases h2 : n = x
    · rw [if_pos h2, if_pos (by rw [h2])]
    · rw [if_neg h2, if_neg fun e => h2 (inj _ _ e)]
theorem sw_mem {ks : List Str} {x y n : Str} (hx : x ∈ ks) (hy : y ∈ ks) (hn : n ∈ ks) : sw x y n ∈ ks := by
  unfold sw
  split
  · exact hx
  · split
    · exact hy
    · exact hn
theorem sw_sw (x y n : Str) : sw x y (sw x y n) = n := by
  unfold sw
  by_cases h1 : n = y
  · subst h1
    rw [if_pos rfl]
    by_cases h2 : x = n
    · rw [if_pos h2, h2]
    · rw [if_neg h2, if_pos rfl]
  · rw [if_neg h1]
    by_cases h2 : n = x
    · subst h2
      rw [if_pos rfl, if_pos rfl]
    · rw [if_neg h2, if_neg h1, if_neg h2]
/-- whose token leaves for the day i -/
def sg : List Deed → Nat → Str → Str
  | [], _, n => n
  | t :: r, i, n => if t.2.2 < i then sw t.1 t.2.1 (sg r i n) else sg r i n
theorem sg_cons (t : Deed) (r : List Deed) (i : Nat) (n : Str) : sg (t :: r) i n = if t.2.2 < i then sw t.1 t.2.1 (sg r i n) else sg r i n := rfl
theorem sg_app : ∀ (a b : List Deed) (i : Nat) (n : Str), sg (a ++ b) i n = sg a i (sg b i n)
  | [], _, _, _ => rfl
  | t :: r, b, i, n => by
    show (if t.2.2 < i then sw t.1 t.2.1 (sg (r ++ b) i n) else sg (r ++ b) i n) = if t.2.2 < i then sw t.1 t.2.1 (sg r i (sg b i n)) else sg r i (sg b i n)
    rw [sg_app r b i n]
theorem sg_snoc (a : List Deed) (t : Deed) (i : Nat) (n : Str) : sg (a ++ [t]) i n = sg a i (if t.2.2 < i then sw t.1 t.2.1 n else n) := by
  rw [sg_app]
  rfl
theorem sg_inj : ∀ (h : List Deed) (i : Nat) (a b : Str), sg h i a = sg h i b → a = b
  | [], _, _, _, e => e
  | t :: r, i, a, b, e => by
    unfold sg at e
    by_cases q : t.2.2 < i
    · rw [if_pos q, if_pos q] at e
      exact sg_inj r i a b (sw_inj e)
    · rw [if_neg q, if_neg q] at e
      exact sg_inj r i a b e
theorem sg_mem {ks : List Str} : ∀ {h : List Deed} {i : Nat} {n : Str}, (∀ t ∈ h, t.1 ∈ ks ∧ t.2.1 ∈ ks) → n ∈ ks → sg h i n ∈ ks
  | [], _, _, _, m => m
  | t :: r, i, n, hh, m => by
    have q := sg_mem (h := r) (i := i) (fun u mu => hh u (List.mem_cons_of_mem _ mu)) m
    have ht := hh t List.mem_cons_self
    unfold sg
    split
    · exact sw_mem ht.1 ht.2 q
    · exact q
/-- someone's token it is -/
theorem sg_sur {ks : List Str} : ∀ {h : List Deed} {i : Nat} {p : Str}, (∀ t ∈ h, t.1 ∈ ks ∧ t.2.1 ∈ ks) → p ∈ ks → ∃ n, n ∈ ks ∧ sg h i n = p
  | [], _, p, _, m => ⟨p, m, rfl⟩
  | t :: r, i, p, hh, m => by
    have hh' : ∀ u ∈ r, u.1 ∈ ks ∧ u.2.1 ∈ ks := fun u mu => hh u (List.mem_cons_of_mem _ mu)
    have hp : ∃ q, q ∈ ks ∧ (if t.2.2 < i then sw t.1 t.2.1 q else q) = p := by
      by_cases c : t.2.2 < i
      · refine ⟨sw t.1 t.2.1 p, sw_mem (hh t List.mem_cons_self).1 (hh t List.mem_cons_self).2 m, ?_⟩
        rw [if_pos c, sw_sw]
      · exact ⟨p, m, if_neg c⟩
    obtain ⟨q, mq, e⟩ := hp
    obtain ⟨n, mn, en⟩ := sg_sur (i := i) hh' mq
    refine ⟨n, mn, ?_⟩
    unfold sg
    rw [en]
    exact e
theorem sg_low : ∀ {h : List Deed} {i : Nat} {n : Str}, (∀ t ∈ h, i ≤ t.2.2) → sg h i n = n
  | [], _, _, _ => rfl
  | t :: r, i, n, hh => by
    unfold sg
    rw [if_neg (by have := hh t List.mem_cons_self; omega)]
    exact sg_low fun u m => hh u (List.mem_cons_of_mem _ m)
/-! ### the run, day by day -/
theorem cross_get {xs ys : List Str} {d i : Nat} (h : d < xs.length) : (xs.take (d + 1) ++ ys.drop (d + 1))[i]? = if i ≤ d then xs[i]? else ys[i]? := by
  have hl : (xs.take (d + 1)).length = d + 1 := by rw [List.length_take]; omega
  by_cases c : i ≤ d
  · rw [if_pos c, List.getElem?_append_left (by omega), List.getElem?_take_of_lt (by omega)]
  · rw [if_neg c, List.getElem?_append_right (by omega), hl, List.getElem?_drop]
    congr 1
    omega
theorem ex1_get {pl : Plans} {t : Deed} (hx : t.2.2 < (pl t.1).length) (hy : t.2.2 < (pl t.2.1).length) (n : Str) (i : Nat) : (ex1 pl t n)[i]? = (pl (if t.2.2 < i then sw t.1 t.2.1 n else n))[i]? := by
  unfold ex1 sw
  by_cases h1 : n = t.2.1
  · subst h1
    rw [if_pos rfl, if_pos rfl, cross_get hy]
    by_cases c : i ≤ t.2.2
    · rw [if_pos c, if_neg (by omega)]
    · rw [if_neg c, if_pos (by omega)]
  · rw [if_neg h1, if_neg h1]
    by_cases h2 : n = t.1
    · subst h2
      rw [if_pos rfl, if_pos rfl, cross_get hx]
      by_cases c : i ≤ t.2.2
      · rw [if_pos c, if_neg (by omega)]
      · rw [if_neg c, if_pos (by omega)]
    · rw [if_neg h2, if_neg h2, ite_self]
theorem run_get {ks : List Str} : ∀ {h : List Deed} {pl : Plans} {k : Nat}, refused ks pl h k = none → ∀ (n : Str) (i : Nat), (runP pl h n)[i]? = (pl (sg h i n))[i]?
  | [], _, _, _, _, _ => rfl
  | t :: r, pl, k, q, n, i => by
    obtain ⟨f, q⟩ := refused_cons q
    show (runP (ex1 pl t) r n)[i]? = _
    rw [run_get q n i, ex1_get f.lx f.ly, sg_cons]
def swps (cr : Plans) : List Deed → Plans
  | [] => cr
  | t :: r => swps (swp cr t) r
theorem swps_app (cr : Plans) : ∀ (a b : List Deed), swps cr (a ++ b) = swps (swps cr a) b
  | [], _ => rfl
  | t :: r, b => swps_app (swp cr t) r b
theorem ex1_len {pl : Plans} {t : Deed} (hx : t.2.2 < (pl t.1).length) (hy : t.2.2 < (pl t.2.1).length) (n : Str) : (ex1 pl t n).length = (pl (sw t.1 t.2.1 n)).length := by
  unfold ex1 sw
  by_cases h1 : n = t.2.1
  · rw [if_pos h1, if_pos h1, List.length_append, List.length_take, List.length_drop]
    omega
  · rw [if_neg h1, if_neg h1]
    by_cases h2 : n = t.1
    · rw [if_pos h2, if_pos h2, List.length_append, List.length_take, List.length_drop]
      omega
    · rw [if_neg h2, if_neg h2]
theorem swp_len {cr : Plans} {t : Deed} (hx : t.2.2 < (cr t.1).length) (hy : t.2.2 < (cr t.2.1).length) (n : Str) : (swp cr t n).length = (cr (sw t.1 t.2.1 n)).length := by
  unfold swp sw
  by_cases h1 : n = t.2.1
  · rw [if_pos h1, if_pos h1, List.length_append, List.length_take, List.length_drop]
    omega
  · rw [if_neg h1, if_neg h1]
    by_cases h2 : n = t.1
    · rw [if_pos h2, if_pos h2, List.length_append, List.length_take, List.length_drop]
      omega
    · rw [if_neg h2, if_neg h2]
theorem swp_get {cr : Plans} {t : Deed} (hx : t.2.2 < (cr t.1).length) (hy : t.2.2 < (cr t.2.1).length) (n : Str) (i : Nat) : (n :: swp cr t n)[i]? = ((if t.2.2 < i then sw t.1 t.2.1 n else n) :: cr (if t.2.2 < i then sw t.1 t.2.1 n else n))[i]? := by
  cases i with
  | zero => simp
  | succ i =>
    rw [List.getElem?_cons_succ, List.getElem?_cons_succ]
    unfold swp sw
    have key : ∀ (xs ys : List Str), t.2.2 < xs.length → (xs.take t.2.2 ++ ys.drop t.2.2)[i]? = if i < t.2.2 then xs[i]? else ys[i]? := fun xs ys hl => by
      have hl : (xs.take t.2.2).length = t.2.2 := by rw [List.length_take]; omega
      by_cases c : i < t.2.2
      · rw [if_pos c, List.getElem?_append_left (by omega), List.getElem?_take_of_lt (by omega)]
      · rw [if_neg c, List.getElem?_append_right (by omega), hl, List.getElem?_drop]
        congr 1
        omega
    by_cases h1 : n = t.2.1
    · subst h1
      rw [if_pos rfl, if_pos rfl, key _ _ hy]
      by_cases c : i < t.2.2
      · rw [if_pos c, if_neg (by omega)]
      · rw [if_neg c, if_pos (by omega)]
    · rw [if_neg h1, if_neg h1]
      by_cases h2 : n = t.1
      · subst h2
        rw [if_pos rfl, if_pos rfl, key _ _ hx]
        by_cases c : i < t.2.2
        · rw [if_pos c, if_neg (by omega)]
        · rw [if_neg c, if_pos (by omega)]
      · rw [if_neg h2, if_neg h2, ite_self]
theorem swps_get {ks : List Str} : ∀ {h : List Deed} {pl cr : Plans} {k : Nat}, (∀ n, (cr n).length = (pl n).length) → refused ks pl h k = none → (∀ n, (swps cr h n).length = (runP pl h n).length) ∧ ∀ (n : Str) (i : Nat), (n :: swps cr h n)[i]? = (sg h i n :: cr (sg h i n))[i]?
  | [], _, _, _, hl, _ => ⟨hl, fun _ _ => rfl⟩
  | t :: r, pl, cr, k, hl, q => by
    obtain ⟨f, q⟩ := refused_cons q
    have lx : t.2.2 < (cr t.1).length := by rw [hl]; exact f.lx
    have ly : t.2.2 < (cr t.2.1).length := by rw [hl]; exact f.ly
    have ih := swps_get (h := r) (pl := ex1 pl t) (cr := swp cr t) (fun n => by rw [swp_len lx ly, ex1_len f.lx f.ly, hl]) q
    refine ⟨ih.1, fun n i => ?_⟩
    show (n :: swps (swp cr t) r n)[i]? = _
    rw [ih.2 n i, swp_get lx ly, sg_cons]
theorem cr0_len (pl : Plans) (n : Str) : (cr0 pl n).length = (pl n).length := List.length_replicate
theorem refused_mem {ks : List Str} : ∀ {h : List Deed} {pl : Plans} {k : Nat}, refused ks pl h k = none → ∀ t ∈ h, t.1 ∈ ks ∧ t.2.1 ∈ ks
  | [], _, _, _, _, m => nomatch m
  | t :: r, pl, k, q, u, m => by
    obtain ⟨f, q⟩ := refused_cons q
    rcases List.mem_cons.mp m with rfl | m
    · exact ⟨f.x, f.y⟩
    · exact refused_mem q u m
theorem len_get {xs : List Str} {i : Nat} : i < xs.length ↔ (xs[i]?).isSome = true := by simp
/-- the one who comes: his token is known -/
theorem arr_sg {ks : List Str} {pl : Plans} {h : List Deed} {k : Nat} (q : refused ks pl h k = none) {n : Str} {d : Nat} (hd : d < (runP pl h n).length) : arr (swps (cr0 pl) h) n d = sg h d n := by
  have g := (swps_get (cr := cr0 pl) (cr0_len pl) q).2 n d
  have e := run_get q n d
  have hs : d < (pl (sg h d n)).length := by
    rw [len_get, ← e, ← len_get]
    exact hd
  have hc : d < (swps (cr0 pl) h n).length := by rw [(swps_get (cr := cr0 pl) (cr0_len pl) q).1]; exact hd
  have r : (sg h d n :: cr0 pl (sg h d n))[d]? = some (sg h d n) := by
    cases d with
    | zero => rfl
    | succ d =>
      rw [List.getElem?_cons_succ]
      show (List.replicate _ _)[d]? = _
      rw [List.getElem?_replicate, if_pos (by omega)]
  rw [r] at g
  unfold arr
  cases d with
  | zero =>
    rw [if_pos rfl]
    exact Option.some.inj g
  | succ d =>
    rw [if_neg (by omega)]
    rw [List.getElem?_cons_succ] at g
    show (swps (cr0 pl) h n)[d]! = _
    rw [List.getElem!_eq_getElem?_getD, g]
    rfl
/-! ### threads -/
def th : List Deed → List Deed → List Deed
  | _, [] => []
  | pre, t :: r => (sg pre t.2.2 t.1, sg pre t.2.2 t.2.1, t.2.2) :: th (pre ++ [t]) r
theorem refused_two {ks : List Str} {pl : Plans} {pre : List Deed} {t : Deed} (q : refused ks pl pre 0 = none) (f : Fits ks (runP pl pre) t) : refused ks pl (pre ++ [t]) 0 = none := by
  rw [refused_app ks pl pre [t] 0 q]
  unfold refused
  rw [why_none.mpr f]
  rfl
theorem thr_th {ks : List Str} {pl : Plans} : ∀ {r pre : List Deed} {k : Nat}, refused ks pl pre 0 = none → refused ks (runP pl pre) r k = none → thr (swps (cr0 pl) pre) r = th pre r
  | [], _, _, _, _ => rfl
  | t :: r, pre, k, q, p => by
    obtain ⟨f, p⟩ := refused_cons p
    have q2 := refused_two q f
    show (arr (swps (cr0 pl) pre) t.1 t.2.2, arr (swps (cr0 pl) pre) t.2.1 t.2.2, t.2.2) :: thr (swp (swps (cr0 pl) pre) t) r = _
    rw [arr_sg q f.lx, arr_sg q f.ly]
    have e : swp (swps (cr0 pl) pre) t = swps (cr0 pl) (pre ++ [t]) := by rw [swps_app]; rfl
    have e2 : ex1 (runP pl pre) t = runP pl (pre ++ [t]) := by rw [runP_app]; rfl
    rw [e, thr_th q2 (by rw [← e2]; exact p)]
    rfl
theorem thr_th0 {ks : List Str} {pl : Plans} {h : List Deed} {k : Nat} (q : refused ks pl h k = none) : thr (cr0 pl) h = th [] h := thr_th (pre := []) rfl q
theorem fits_sg {ks : List Str} {pl : Plans} {pre : List Deed} {t : Deed} (q : refused ks pl pre 0 = none) (f : Fits ks (runP pl pre) t) : Fits ks pl (sg pre t.2.2 t.1, sg pre t.2.2 t.2.1, t.2.2) := by
  have hm := refused_mem q
  have ex := run_get q t.1 t.2.2
  have ey := run_get q t.2.1 t.2.2
  refine ⟨sg_mem hm f.x, sg_mem hm f.y, fun e => f.ne (sg_inj _ _ _ _ e), ?_, ?_, ?_⟩
  · show t.2.2 < (pl (sg pre t.2.2 t.1)).length
    rw [len_get, ← ex, ← len_get]
    exact f.lx
  · show t.2.2 < (pl (sg pre t.2.2 t.2.1)).length
    rw [len_get, ← ey, ← len_get]
    exact f.ly
  · show (pl (sg pre t.2.2 t.1))[t.2.2]! = (pl (sg pre t.2.2 t.2.1))[t.2.2]!
    have e := f.eq
    rw [List.getElem!_eq_getElem?_getD, List.getElem!_eq_getElem?_getD] at e ⊢
    rw [← ex, ← ey]
    exact e
theorem th_fits {ks : List Str} {pl : Plans} : ∀ {r pre : List Deed} {k : Nat}, refused ks pl pre 0 = none → refused ks (runP pl pre) r k = none → ∀ u ∈ th pre r, Fits ks pl u
  | [], _, _, _, _, _, m => nomatch m
  | t :: r, pre, k, q, p, u, m => by
    obtain ⟨f, p⟩ := refused_cons p
    rcases List.mem_cons.mp m with rfl | m
    · exact fits_sg q f
    · have e2 : ex1 (runP pl pre) t = runP pl (pre ++ [t]) := by rw [runP_app]; rfl
      exact th_fits (refused_two q f) (by rw [← e2]; exact p) u m
theorem th_len : ∀ (pre r : List Deed), (th pre r).length = r.length
  | _, [] => rfl
  | pre, t :: r => by
    show (th (pre ++ [t]) r).length + 1 = r.length + 1
    rw [th_len]
theorem th_snoc : ∀ (pre r : List Deed) (t : Deed), th pre (r ++ [t]) = th pre r ++ [(sg (pre ++ r) t.2.2 t.1, sg (pre ++ r) t.2.2 t.2.1, t.2.2)]
  | pre, [], t => by rw [List.append_nil]; rfl
  | pre, u :: r, t => by
    show _ :: th (pre ++ [u]) (r ++ [t]) = _ :: (th (pre ++ [u]) r ++ _)
    rw [th_snoc (pre ++ [u]) r t, List.append_assoc]
    rfl
/-! ### what the threads of one day do -/
def kp : List Deed → Nat → Str → Str
  | [], _, m => m
  | t :: r, d, m => if t.2.2 = d then sw t.1 t.2.1 (kp r d m) else kp r d m
theorem kp_snoc (t : Deed) (d : Nat) (m : Str) : ∀ a : List Deed, kp (a ++ [t]) d m = kp a d (if t.2.2 = d then sw t.1 t.2.1 m else m)
  | [] => rfl
  | u :: r => by
    show (if u.2.2 = d then sw u.1 u.2.1 (kp (r ++ [t]) d m) else kp (r ++ [t]) d m) = _
    rw [kp_snoc t d m r]
    rfl
theorem sg_kp : ∀ (n : Nat) (h : List Deed), h.length = n → ∀ (d : Nat) (m : Str), sg h (d + 1) m = kp (th [] h) d (sg h d m)
  | 0, [], _, _, _ => rfl
  | k + 1, h, hl, d, m => by
    obtain ⟨r, t, rfl⟩ : ∃ r t, h = r ++ [t] := ⟨h.dropLast, h.getLast (by intro e; rw [e] at hl; cases hl), (List.dropLast_concat_getLast _).symm⟩
    have hr : r.length = k := by rw [List.length_append] at hl; exact Nat.succ.inj hl
    have ih := sg_kp k r hr d
    rw [sg_snoc, sg_snoc, th_snoc, List.nil_append, kp_snoc]
    dsimp only
    by_cases c1 : t.2.2 < d
    · rw [if_pos (by omega), if_pos c1, if_neg (by omega), ih]
    · rw [if_neg c1]
      by_cases c2 : t.2.2 = d
      · subst c2
        rw [if_pos (by omega), if_pos rfl, ih, sw_map (f := sg r t.2.2) (sg_inj r t.2.2)]
      · rw [if_neg (by omega), if_neg c2, ih]
/-- where one is on the day -/
theorem kp_at {ks : List Str} {pl : Plans} (d : Nat) : ∀ {ts : List Deed}, (∀ u ∈ ts, Fits ks pl u) → ∀ m, (pl (kp ts d m))[d]? = (pl m)[d]?
  | [], _, _ => rfl
  | t :: r, hf, m => by
    have ih := kp_at d (ts := r) (fun u mu => hf u (List.mem_cons_of_mem _ mu)) m
    have f := hf t List.mem_cons_self
    unfold kp
    split
    · rename_i c
      subst c
      have e : (pl t.1)[t.2.2]? = (pl t.2.1)[t.2.2]? := by
        rw [List.getElem?_eq_getElem f.lx, List.getElem?_eq_getElem f.ly]
        have := f.eq
        rw [getElem!_pos (pl t.1) _ f.lx, getElem!_pos (pl t.2.1) _ f.ly] at this
        rw [this]
      rw [← ih]
      unfold sw
      by_cases h1 : kp r t.2.2 m = t.2.1
      · rw [if_pos h1, h1, e]
      · rw [if_neg h1]
        by_cases h2 : kp r t.2.2 m = t.1
        · rw [if_pos h2, h2, e]
        · rw [if_neg h2]
    · exact ih
theorem kp_filter {ks : List Str} {pl : Plans} (d : Nat) (m : Str) {c : Nat × Str} (hc : ∀ s, (pl m)[d]? = some s → c = (d, s)) : ∀ {ts : List Deed}, (∀ u ∈ ts, Fits ks pl u) → kp ts d m = kp (ts.filter fun u => decide (crs pl u = c)) d m
  | [], _ => rfl
  | t :: r, hf => by
    have hf' : ∀ u ∈ r, Fits ks pl u := fun u mu => hf u (List.mem_cons_of_mem _ mu)
    have ih := kp_filter d m hc hf'
    have f := hf t List.mem_cons_self
    by_cases q : crs pl t = c
    · have e : ((t :: r).filter fun u => decide (crs pl u = c)) = t :: r.filter fun u => decide (crs pl u = c) := List.filter_cons_of_pos (decide_eq_true q)
      rw [e]
      unfold kp
      rw [ih]
    · have e0 : ((t :: r).filter fun u => decide (crs pl u = c)) = r.filter fun u => decide (crs pl u = c) := List.filter_cons_of_neg (by rw [decide_eq_false q]; exact Bool.false_ne_true)
      rw [e0, ← ih]
      have e : kp (t :: r) d m = if t.2.2 = d then sw t.1 t.2.1 (kp r d m) else kp r d m := rfl
      rw [e]
      split
      · rename_i c1
        subst c1
        have hk := kp_at (ks := ks) (pl := pl) t.2.2 hf' m
        have n1 : kp r t.2.2 m ≠ t.1 := fun w => by
          rw [w, List.getElem?_eq_getElem f.lx] at hk
          refine q ?_
          rw [hc _ hk.symm]
          unfold crs
          rw [getElem!_pos (pl t.1) _ f.lx]
        have n2 : kp r t.2.2 m ≠ t.2.1 := fun w => by
          rw [w, List.getElem?_eq_getElem f.ly] at hk
          refine q ?_
          rw [hc _ hk.symm]
          unfold crs
          rw [f.eq, getElem!_pos (pl t.2.1) _ f.ly]
        unfold sw
        rw [if_neg n2, if_neg n1]
      · rfl
theorem kp_none {ks : List Str} {pl : Plans} (d : Nat) (m : Str) (hn : (pl m)[d]? = none) : ∀ {ts : List Deed}, (∀ u ∈ ts, Fits ks pl u) → kp ts d m = m
  | [], _ => rfl
  | t :: r, hf => by
    have hf' : ∀ u ∈ r, Fits ks pl u := fun u mu => hf u (List.mem_cons_of_mem _ mu)
    have ih := kp_none d m hn hf'
    have f := hf t List.mem_cons_self
    unfold kp
    rw [ih]
    split
    · rename_i c
      subst c
      unfold sw
      have n1 : ¬ m = t.2.1 := fun e => by rw [e, List.getElem?_eq_getElem f.ly] at hn; cases hn
      have n2 : ¬ m = t.1 := fun e => by rw [e, List.getElem?_eq_getElem f.lx] at hn; cases hn
      rw [if_neg n1, if_neg n2]
    · rfl
theorem kp_eq {ks : List Str} {pl : Plans} {ts us : List Deed} (ht : ∀ u ∈ ts, Fits ks pl u) (hu : ∀ u ∈ us, Fits ks pl u) (hc : ∀ c : Nat × Str, (ts.filter fun u => decide (crs pl u = c)) = us.filter fun u => decide (crs pl u = c)) (d : Nat) (m : Str) : kp ts d m = kp us d m := by
  cases h : (pl m)[d]? with
  | none => rw [kp_none d m h ht, kp_none d m h hu]
  | some s => rw [kp_filter d m (c := (d, s)) (fun s' e => by rw [h] at e; cases e; rfl) ht, kp_filter d m (c := (d, s)) (fun s' e => by rw [h] at e; cases e; rfl) hu, hc]
/-- the same threads per crossing: the same plans -/
theorem run_eq {ks : List Str} {pl : Plans} {h g : List Deed} {k l : Nat} (qh : refused ks pl h k = none) (qg : refused ks pl g l = none) (hc : ∀ c : Nat × Str, ((th [] h).filter fun u => decide (crs pl u = c)) = (th [] g).filter fun u => decide (crs pl u = c)) : runP pl h = runP pl g := by
  have e : ∀ i m, sg h i m = sg g i m := fun i => by
    induction i with
    | zero => intro m; rw [sg_low fun _ _ => Nat.zero_le _, sg_low fun _ _ => Nat.zero_le _]
    | succ i ih =>
      intro m
      rw [sg_kp _ h rfl, sg_kp _ g rfl, ih m]
      exact kp_eq (th_fits (pre := []) rfl qh) (th_fits (pre := []) rfl qg) hc i _
  funext n
  refine List.ext_getElem? fun i => ?_
  rw [run_get qh, run_get qg, e]
/-! ### crossings in order -/
abbrev Crs := Nat × Str
def leC (a b : Crs) : Bool := decide (a.1 < b.1) || (decide (a.1 = b.1) && leS a.2 b.2)
theorem leC_iff {a b : Crs} : leC a b = true ↔ a.1 < b.1 ∨ (a.1 = b.1 ∧ leS a.2 b.2 = true) := by
  unfold leC
  rw [Bool.or_eq_true_iff, Bool.and_eq_true_iff, decide_eq_true_iff, decide_eq_true_iff]
theorem leC_trans (a b c : Crs) (h1 : leC a b = true) (h2 : leC b c = true) : leC a c = true := by
  rw [leC_iff] at h1 h2 ⊢
  rcases h1 with h1 | ⟨h1, s1⟩ <;> rcases h2 with h2 | ⟨h2, s2⟩
  · exact .inl (by omega)
  · exact .inl (by omega)
  · exact .inl (by omega)
  · exact .inr ⟨by omega, leS_trans _ _ _ s1 s2⟩
theorem leC_total (a b : Crs) : (leC a b || leC b a) = true := by
  rw [Bool.or_eq_true_iff, leC_iff, leC_iff]
  have := leS_total a.2 b.2
  rw [Bool.or_eq_true_iff] at this
  rcases Nat.lt_trichotomy a.1 b.1 with h | h | h
  · exact .inl (.inl h)
  · rcases this with t | t
    · exact .inl (.inr ⟨h, t⟩)
    · exact .inr (.inr ⟨h.symm, t⟩)
  · exact .inr (.inl h)
theorem leC_anti (a b : Crs) (h1 : leC a b = true) (h2 : leC b a = true) : a = b := by
  rw [leC_iff] at h1 h2
  rcases h1 with h1 | ⟨h1, s1⟩ <;> rcases h2 with h2 | ⟨h2, s2⟩
  · omega
  · omega
  · omega
  · exact Prod.ext h1 (leS_anti _ _ s1 s2)
def sortC (cs : List Crs) : List Crs := cs.mergeSort leC
theorem sortC_perm (cs : List Crs) : (sortC cs).Perm cs := List.mergeSort_perm cs leC
theorem sortC_pair (cs : List Crs) : (sortC cs).Pairwise (fun a b => leC a b = true) := List.pairwise_mergeSort leC_trans leC_total cs
theorem pair_uniq {xs ys : List Crs} (hx : xs.Nodup) (hy : ys.Nodup) (px : xs.Pairwise (fun a b => leC a b = true)) (py : ys.Pairwise (fun a b => leC a b = true)) (h : ∀ c, c ∈ xs ↔ c ∈ ys) : xs = ys :=
  List.Perm.eq_of_pairwise (le := fun a b => leC a b = true) (fun a b _ _ => leC_anti a b) px py ((List.perm_ext_iff_of_nodup hx hy).mpr h)
/-- each once, in the order in which they come -/
def dk {α : Type} [BEq α] [LawfulBEq α] : List α → List α → List α
  | acc, [] => acc
  | acc, c :: r => dk (if c ∈ acc then acc else acc ++ [c]) r
theorem dk_snoc {α : Type} [BEq α] [LawfulBEq α] (c : α) : ∀ (cs acc : List α), dk acc (cs ++ [c]) = if c ∈ dk acc cs then dk acc cs else dk acc cs ++ [c]
  | [], _ => rfl
  | x :: r, acc => by
    show dk (if x ∈ acc then acc else acc ++ [x]) (r ++ [c]) = _
    rw [dk_snoc c r]
    rfl
theorem dk_mem {α : Type} [BEq α] [LawfulBEq α] {c : α} : ∀ {cs acc : List α}, c ∈ dk acc cs ↔ c ∈ acc ∨ c ∈ cs
  | [], _ => by simp [dk]
  | x :: r, acc => by
    have e : dk acc (x :: r) = dk (if x ∈ acc then acc else acc ++ [x]) r := rfl
    rw [e, dk_mem]
    by_cases h : x ∈ acc
    · rw [if_pos h, List.mem_cons]
      constructor
      · rintro (a | a)
        · exact .inl a
        · exact .inr (.inr a)
      · rintro (a | a | a)
        · exact .inl a
        · exact .inl (a ▸ h)
        · exact .inr a
    · rw [if_neg h, List.mem_append, List.mem_singleton, List.mem_cons]
      constructor
      · rintro ((a | a) | a)
        · exact .inl a
        · exact .inr (.inl a)
        · exact .inr (.inr a)
      · rintro (a | a | a)
        · exact .inl (.inl a)
        · exact .inl (.inr a)
        · exact .inr a
theorem dk_nodup {α : Type} [BEq α] [LawfulBEq α] : ∀ {cs acc : List α}, acc.Nodup → (dk acc cs).Nodup
  | [], _, h => h
  | x :: r, acc, h => by
    refine dk_nodup (cs := r) ?_
    by_cases q : x ∈ acc
    · rw [if_pos q]; exact h
    · rw [if_neg q]
      refine List.nodup_append.mpr ⟨h, List.nodup_cons.mpr ⟨(fun w => nomatch w), List.nodup_nil⟩, fun a ma b mb e => ?_⟩
      rw [List.mem_singleton.mp mb] at e
      exact q (e ▸ ma)
theorem dk_sub {α : Type} [BEq α] [LawfulBEq α] : ∀ (cs acc : List α), ∃ r, dk acc cs = acc ++ r ∧ r.Sublist cs
  | [], acc => ⟨[], (List.append_nil acc).symm, List.Sublist.refl _⟩
  | x :: t, acc => by
    have e : dk acc (x :: t) = dk (if x ∈ acc then acc else acc ++ [x]) t := rfl
    rw [e]
    by_cases q : x ∈ acc
    · rw [if_pos q]
      obtain ⟨r, h, s⟩ := dk_sub t acc
      exact ⟨r, h, s.cons x⟩
    · rw [if_neg q]
      obtain ⟨r, h, s⟩ := dk_sub t (acc ++ [x])
      exact ⟨x :: r, by rw [h, List.append_assoc]; rfl, s.cons_cons x⟩
/-! ### the parts -/
abbrev Part := Crs × List Deed
def ckeys (pl : Plans) (ts : List Deed) : List Crs := sortC (dk [] (ts.map (crs pl)))
def partOf (pl : Plans) (ts : List Deed) (c : Crs) : List Deed := ts.filter fun u => decide (crs pl u = c)
def parts (pl : Plans) (ts : List Deed) : List Part := (ckeys pl ts).map fun c => (c, partOf pl ts c)
theorem ckeys_mem {pl : Plans} {ts : List Deed} {c : Crs} : c ∈ ckeys pl ts ↔ ∃ u ∈ ts, crs pl u = c := by
  unfold ckeys
  rw [(sortC_perm _).mem_iff, dk_mem, List.mem_map]
  simp
theorem ckeys_nodup (pl : Plans) (ts : List Deed) : (ckeys pl ts).Nodup := (sortC_perm _).nodup_iff.mpr (dk_nodup List.nodup_nil)
theorem ckeys_uniq {pl : Plans} {ts : List Deed} {cs : List Crs} (hn : cs.Nodup) (hp : cs.Pairwise (fun a b => leC a b = true)) (h : ∀ c, c ∈ cs ↔ ∃ u ∈ ts, crs pl u = c) : cs = ckeys pl ts :=
  pair_uniq hn (ckeys_nodup pl ts) hp (sortC_pair _) fun c => by rw [h, ckeys_mem]
theorem partOf_nil {pl : Plans} {ts : List Deed} {c : Crs} : partOf pl ts c = [] ↔ c ∉ ckeys pl ts := by
  unfold partOf
  rw [List.filter_eq_nil_iff, ckeys_mem]
  simp
/-- the same threads per crossing: the same parts -/
theorem parts_eq {pl : Plans} {ts us : List Deed} (h : ∀ c, partOf pl ts c = partOf pl us c) : parts pl ts = parts pl us := by
  have e : ckeys pl ts = ckeys pl us := ckeys_uniq (ckeys_nodup _ _) (sortC_pair _) fun c => by
    rw [← ckeys_mem]
    have a := partOf_nil (pl := pl) (ts := ts) (c := c)
    have b := partOf_nil (pl := pl) (ts := us) (c := c)
    rw [h] at a
    by_cases q : c ∈ ckeys pl ts <;> by_cases q2 : c ∈ ckeys pl us <;> simp_all
  unfold parts
  rw [e]
  refine List.map_congr_left fun c _ => ?_
  rw [h]
/-! ### the normal form -/
def dayParts (ps : List Part) (d : Nat) : List Deed := ps.flatMap fun p => if p.1.1 = d then p.2 else []
def normP (ps : List Part) : List Nat → List Deed
  | [] => []
  | d :: r => dayParts ps d ++ normP ps r
def days7 : List Nat := [6, 5, 4, 3, 2, 1, 0]
def normal (pl : Plans) (ts : List Deed) : List Deed := normP (parts pl ts) days7
theorem filter_flatMap {α β : Type} (p : β → Bool) (f : α → List β) : ∀ xs : List α, (xs.flatMap f).filter p = xs.flatMap fun x => (f x).filter p
  | [] => rfl
  | x :: r => by rw [List.flatMap_cons, List.filter_append, filter_flatMap p f r, List.flatMap_cons]
theorem flatMap_nil {α β : Type} {f : α → List β} : ∀ {xs : List α}, (∀ x ∈ xs, f x = []) → xs.flatMap f = []
  | [], _ => rfl
  | x :: r, h => by rw [List.flatMap_cons, h x List.mem_cons_self, flatMap_nil fun y m => h y (List.mem_cons_of_mem _ m)]; rfl
theorem flatMap_one {α β : Type} {f : α → List β} {a : α} : ∀ {xs : List α}, xs.Nodup → a ∈ xs → (∀ x ∈ xs, x ≠ a → f x = []) → xs.flatMap f = f a
  | [], _, m, _ => nomatch m
  | x :: r, hn, m, h => by
    obtain ⟨h1, h2⟩ := List.nodup_cons.mp hn
    rw [List.flatMap_cons]
    by_cases q : x = a
    · subst q
      rw [flatMap_nil fun y my => h y (List.mem_cons_of_mem _ my) fun e => h1 (e ▸ my), List.append_nil]
    · rw [h x List.mem_cons_self q, List.nil_append]
      exact flatMap_one h2 (by rcases List.mem_cons.mp m with e | m; exact absurd e.symm q; exact m) fun y my => h y (List.mem_cons_of_mem _ my)
theorem part_filter (pl : Plans) (ts : List Deed) (a c : Crs) : (partOf pl ts a).filter (fun u => decide (crs pl u = c)) = if a = c then partOf pl ts c else [] := by
  unfold partOf
  rw [List.filter_filter]
  by_cases h : a = c
  · subst h
    rw [if_pos rfl]
    congr 1
    funext u
    simp
  · rw [if_neg h, List.filter_eq_nil_iff]
    intro u _
    simp only [Bool.and_eq_true, decide_eq_true_eq, not_and]
    intro e1 e2
    exact h (e2 ▸ e1)
theorem dayParts_filter (pl : Plans) (ts : List Deed) (d : Nat) (c : Crs) : (dayParts (parts pl ts) d).filter (fun u => decide (crs pl u = c)) = if c.1 = d then partOf pl ts c else [] := by
  unfold dayParts parts
  rw [List.flatMap_map, filter_flatMap]
  have e : ∀ a : Crs, (if a.1 = d then partOf pl ts a else []).filter (fun u => decide (crs pl u = c)) = if a.1 = d ∧ a = c then partOf pl ts c else [] := fun a => by
    by_cases h : a.1 = d
    · rw [if_pos h, part_filter]
      by_cases q : a = c
      · rw [if_pos q, if_pos ⟨h, q⟩]
      · rw [if_neg q, if_neg fun w => q w.2]
    · rw [if_neg h, if_neg fun w => h w.1]
      rfl
  simp only [e]
  by_cases hm : c ∈ ckeys pl ts
  · rw [flatMap_one (ckeys_nodup pl ts) hm fun x _ hne => if_neg fun w => hne w.2]
    by_cases h : c.1 = d
    · rw [if_pos ⟨h, rfl⟩, if_pos h]
    · rw [if_neg fun w => h w.1, if_neg h]
  · rw [flatMap_nil fun x mx => if_neg fun (w : x.1 = d ∧ x = c) => hm (w.2 ▸ mx), partOf_nil.mpr hm, ite_self]
theorem normP_filter (pl : Plans) (ts : List Deed) (c : Crs) : ∀ ds : List Nat, ds.Nodup → (normP (parts pl ts) ds).filter (fun u => decide (crs pl u = c)) = if c.1 ∈ ds then partOf pl ts c else []
  | [], _ => by simp [normP]
  | d :: r, hn => by
    obtain ⟨h1, h2⟩ := List.nodup_cons.mp hn
    show (dayParts (parts pl ts) d ++ normP (parts pl ts) r).filter _ = _
    rw [List.filter_append, dayParts_filter, normP_filter pl ts c r h2]
    by_cases q : c.1 = d
    · rw [if_pos q, if_neg (by rw [q]; exact h1), List.append_nil, if_pos (by rw [q]; exact List.mem_cons_self)]
    · rw [if_neg q, List.nil_append]
      by_cases q2 : c.1 ∈ r
      · rw [if_pos q2, if_pos (List.mem_cons_of_mem _ q2)]
      · rw [if_neg q2, if_neg fun w => by rcases List.mem_cons.mp w with w | w; exact q w; exact q2 w]
theorem days7_mem {d : Nat} : d ∈ days7 ↔ d ≤ 6 := by
  unfold days7
  simp only [List.mem_cons, List.not_mem_nil, or_false]
  omega
theorem normal_filter {pl : Plans} {ts : List Deed} (hd : ∀ u ∈ ts, u.2.2 ≤ 6) (c : Crs) : partOf pl (normal pl ts) c = partOf pl ts c := by
  show (normP (parts pl ts) days7).filter _ = _
  rw [normP_filter pl ts c days7 (by decide)]
  by_cases h : c.1 ∈ days7
  · rw [if_pos h]
  · rw [if_neg h]
    refine (partOf_nil.mpr fun w => ?_).symm
    obtain ⟨u, mu, e⟩ := ckeys_mem.mp w
    refine h (days7_mem.mpr ?_)
    rw [← e]
    exact hd u mu
theorem mem_partOf {pl : Plans} {ts : List Deed} {u : Deed} : u ∈ partOf pl ts (crs pl u) ↔ u ∈ ts := by
  unfold partOf
  simp
theorem normal_mem {pl : Plans} {ts : List Deed} (hd : ∀ u ∈ ts, u.2.2 ≤ 6) (u : Deed) : u ∈ normal pl ts ↔ u ∈ ts := by
  rw [← mem_partOf (pl := pl), normal_filter hd, mem_partOf]
theorem normal_perm {pl : Plans} {ts : List Deed} (hd : ∀ u ∈ ts, u.2.2 ≤ 6) : (normal pl ts).Perm ts := by
  refine List.perm_iff_count.mpr fun u => ?_
  have e : ∀ xs : List Deed, xs.count u = (partOf pl xs (crs pl u)).count u := fun xs => by
    unfold partOf
    rw [List.count_filter (by simp)]
  rw [e, e ts, normal_filter hd]
theorem dayParts_day {pl : Plans} {ts : List Deed} {d : Nat} {u : Deed} (h : u ∈ dayParts (parts pl ts) d) : u.2.2 = d := by
  unfold dayParts parts at h
  obtain ⟨p, mp, h⟩ := List.mem_flatMap.mp h
  obtain ⟨c, mc, rfl⟩ := List.mem_map.mp mp
  split at h
  · rename_i q
    have := of_decide_eq_true (List.mem_filter.mp h).2
    rw [← q]
    show u.2.2 = c.1
    rw [← this]
    rfl
  · cases h
theorem normP_day {pl : Plans} {ts : List Deed} {u : Deed} : ∀ {ds : List Nat}, u ∈ normP (parts pl ts) ds → u.2.2 ∈ ds
  | [], h => nomatch h
  | d :: r, h => by
    rcases List.mem_append.mp h with h | h
    · rw [dayParts_day h]; exact List.mem_cons_self
    · exact List.mem_cons_of_mem _ (normP_day h)
theorem normP_desc {pl : Plans} {ts : List Deed} : ∀ {ds : List Nat}, ds.Pairwise (fun a b => b ≤ a) → (normP (parts pl ts) ds).Pairwise fun u v => v.2.2 ≤ u.2.2
  | [], _ => List.Pairwise.nil
  | d :: r, h => by
    obtain ⟨h1, h2⟩ := List.pairwise_cons.mp h
    refine List.pairwise_append.mpr ⟨?_, normP_desc h2, fun u mu v mv => ?_⟩
    · refine List.Pairwise.imp_of_mem (R := fun _ _ => True) (fun {a b} ma mb _ => ?_) (List.pairwise_of_forall fun _ _ => trivial)
      rw [dayParts_day ma, dayParts_day mb]
      exact Nat.le_refl _
    · rw [dayParts_day mu]
      exact h1 _ (normP_day mv)
theorem normal_desc (pl : Plans) (ts : List Deed) : (normal pl ts).Pairwise fun u v => v.2.2 ≤ u.2.2 := normP_desc (by decide)
/-! ### as the program makes it -/
theorem normP_flat (ps : List Part) : ∀ ds : List Nat, normP ps ds = ds.flatMap (dayParts ps)
  | [] => rfl
  | d :: r => by
    show dayParts ps d ++ normP ps r = _
    rw [normP_flat ps r, List.flatMap_cons]
theorem flatMap_filter {α β : Type} {f : α → List β} {p : α → Bool} : ∀ {xs : List α}, (∀ x ∈ xs, p x = false → f x = []) → (xs.filter p).flatMap f = xs.flatMap f
  | [], _ => rfl
  | x :: r, h => by
    have ih := flatMap_filter (f := f) (p := p) (xs := r) fun y m => h y (List.mem_cons_of_mem _ m)
    cases q : p x with
    | true => rw [List.filter_cons_of_pos q, List.flatMap_cons, ih, List.flatMap_cons]
    | false => rw [List.filter_cons_of_neg (by rw [q]; exact Bool.false_ne_true), ih, List.flatMap_cons, h x List.mem_cons_self q, List.nil_append]
def fil (ps : List Part) (d : Nat) : List Part := ps.filter fun p => decide (p.1.1 = d)
theorem dayParts_fil (ps : List Part) (d : Nat) : dayParts ps d = (fil ps d).flatMap (·.2) := by
  unfold dayParts fil
  induction ps with
  | nil => rfl
  | cons p r ih =>
    rw [List.flatMap_cons, ih]
    by_cases h : p.1.1 = d
    · rw [if_pos h, List.filter_cons_of_pos (by rw [decide_eq_true h]), List.flatMap_cons]
    · rw [if_neg h, List.filter_cons_of_neg (by rw [decide_eq_false h]; exact Bool.false_ne_true), List.nil_append]
def dsOf (ps : List Part) : List Nat := (ps.map (·.1.1)).mergeSort fun a b => decide (b ≤ a)
theorem dsOf_pair (ps : List Part) : (dsOf ps).Pairwise fun a b => b ≤ a := by
  have h := List.pairwise_mergeSort (le := fun a b : Nat => decide (b ≤ a)) (fun a b c h1 h2 => by simp only [decide_eq_true_eq] at *; omega) (fun a b => by simp only [Bool.or_eq_true, decide_eq_true_eq]; omega) (ps.map (·.1.1))
  exact h.imp fun h => of_decide_eq_true h
theorem dsOf_mem {ps : List Part} {d : Nat} : d ∈ dsOf ps ↔ ∃ p ∈ ps, p.1.1 = d := by
  unfold dsOf
  rw [(List.mergeSort_perm _ _).mem_iff, List.mem_map]
theorem dsOf_len (ps : List Part) : (dsOf ps).length = ps.length := by
  unfold dsOf
  rw [(List.mergeSort_perm _ _).length_eq, List.length_map]
def lateP (ps : List Part) : List Part := (dk [] (dsOf ps)).flatMap (fil ps)
theorem late_normP {ps : List Part} (hd : ∀ p ∈ ps, p.1.1 ≤ 6) : (lateP ps).flatMap (·.2) = normP ps days7 := by
  have e : dk [] (dsOf ps) = days7.filter fun d => decide (d ∈ dsOf ps) := by
    obtain ⟨r, h1, h2⟩ := dk_sub (dsOf ps) []
    rw [List.nil_append] at h1
    have nd := dk_nodup (cs := dsOf ps) List.nodup_nil
    refine List.Perm.eq_of_pairwise (le := fun a b : Nat => b ≤ a) (fun a b _ _ h1 h2 => Nat.le_antisymm h2 h1) ?_ ?_ ((List.perm_ext_iff_of_nodup nd ?_).mpr fun d => ?_)
    · rw [h1]; exact (dsOf_pair ps).sublist h2
    · exact List.Pairwise.filter _ (by decide)
    · exact List.Pairwise.filter _ (by decide)
    · rw [dk_mem, List.mem_filter, decide_eq_true_iff, days7_mem]
      constructor
      · rintro (h | h)
        · cases h
        · obtain ⟨p, mp, e⟩ := dsOf_mem.mp h
          exact ⟨e ▸ hd p mp, h⟩
      · rintro ⟨_, h⟩
        exact .inr h
  unfold lateP
  rw [e, List.flatMap_assoc, normP_flat]
  have e2 : (fun d => (fil ps d).flatMap fun x => x.2) = dayParts ps := funext fun d => (dayParts_fil ps d).symm
  rw [e2]
  refine flatMap_filter fun d _ h => ?_
  have h := of_decide_eq_false h
  rw [dayParts_fil]
  have e3 : fil ps d = [] := List.filter_eq_nil_iff.mpr fun p mp => by
    rw [decide_eq_true_iff]
    exact fun w => h (dsOf_mem.mpr ⟨p, mp, w⟩)
  rw [e3]
  rfl
/-- the day is new where it differs from the one before -/
theorem desc_new {ds : List Nat} (h : ds.Pairwise fun a b => b ≤ a) {i : Nat} (hi : i < ds.length) : (ds[i]! ∉ ds.take i) ↔ (i = 0 ∨ ds[i - 1]! ≠ ds[i]!) := by
  rw [getElem!_pos ds i hi]
  by_cases h0 : i = 0
  · subst h0
    simp
  · rw [getElem!_pos ds (i - 1) (by omega)]
    constructor
    · intro hn
      refine .inr fun e => hn ?_
      rw [← e]
      have : (ds.take i)[i - 1]'(by rw [List.length_take]; omega) = ds[i - 1] := List.getElem_take
      rw [← this]
      exact List.getElem_mem _
    · rintro (h1 | h1) hm
      · exact h0 h1
      · obtain ⟨j, hj, ej⟩ := List.mem_iff_getElem.mp hm
        rw [List.getElem_take] at ej
        have hj' : j < i := by rw [List.length_take] at hj; omega
        have a1 : ds[i] ≤ ds[i - 1] := List.pairwise_iff_getElem.mp h (i - 1) i (by omega) hi (by omega)
        by_cases c : j = i - 1
        · subst c
          exact h1 ej
        · have a2 : ds[i - 1] ≤ ds[j] := List.pairwise_iff_getElem.mp h j (i - 1) (by omega) (by omega) (by omega)
          rw [ej] at a2
          exact h1 (Nat.le_antisymm a2 a1)
theorem late_step {ps : List Part} {ds : List Nat} (h : ds.Pairwise fun a b => b ≤ a) {i : Nat} (hi : i < ds.length) : (dk [] (ds.take (i + 1))).flatMap (fil ps) = (dk [] (ds.take i)).flatMap (fil ps) ++ if i = 0 ∨ ds[i - 1]! ≠ ds[i]! then fil ps ds[i]! else [] := by
  rw [take_succ hi, dk_snoc]
  have e : ds[i]! ∈ dk [] (ds.take i) ↔ ¬ (i = 0 ∨ ds[i - 1]! ≠ ds[i]!) := by
    rw [← desc_new h hi, dk_mem]
    simp
  by_cases c : i = 0 ∨ ds[i - 1]! ≠ ds[i]!
  · rw [if_pos c, if_neg fun w => e.mp w c, List.flatMap_append]
    simp
  · rw [if_neg c, if_pos (e.mpr c), List.append_nil]
theorem flat_len {α β : Type} {f : α → List β} {b : Nat} : ∀ {xs : List α}, (∀ x ∈ xs, (f x).length ≤ b) → (xs.flatMap f).length ≤ xs.length * b
  | [], _ => by simp
  | x :: r, h => by
    have ih := flat_len (xs := r) fun y m => h y (List.mem_cons_of_mem _ m)
    rw [List.flatMap_cons, List.length_append, List.length_cons, Nat.succ_mul]
    have := h x List.mem_cons_self
    omega
theorem dk_days {ds : List Nat} (h : ∀ d ∈ ds, d ≤ 6) : (dk [] ds).length ≤ 7 := by
  have nd := dk_nodup (cs := ds) List.nodup_nil
  have sub : ∀ d ∈ dk [] ds, d ∈ days7 := fun d m => days7_mem.mpr (by
    rcases dk_mem.mp m with m | m
    · cases m
    · exact h d m)
  have e : (dk [] ds).Perm (days7.filter fun d => decide (d ∈ dk [] ds)) := (List.perm_ext_iff_of_nodup nd (List.Pairwise.filter _ (by decide))).mpr fun d => by
    rw [List.mem_filter, decide_eq_true_iff]
    exact ⟨fun m => ⟨sub d m, m⟩, fun m => m.2⟩
  rw [e.length_eq]
  exact List.length_filter_le _ _
/-! ### what comes late day first runs as its own threads -/
theorem late_runs {ks : List Str} {pl : Plans} : ∀ {r pre : List Deed} {k : Nat}, refused ks pl pre 0 = none → (∀ u ∈ r, Fits ks pl u) → (pre ++ r).Pairwise (fun u v => v.2.2 ≤ u.2.2) → refused ks (runP pl pre) r k = none ∧ th pre r = r
  | [], _, _, _, _, _ => ⟨rfl, rfl⟩
  | t :: r, pre, k, q, hf, hp => by
    have lo : ∀ u ∈ pre, t.2.2 ≤ u.2.2 := fun u mu => (List.pairwise_append.mp hp).2.2 u mu t List.mem_cons_self
    have f := hf t List.mem_cons_self
    have e : ∀ n, (runP pl pre n)[t.2.2]? = (pl n)[t.2.2]? := fun n => by rw [run_get q, sg_low lo]
    have f2 : Fits ks (runP pl pre) t := by
      refine ⟨f.x, f.y, f.ne, ?_, ?_, ?_⟩
      · rw [len_get, e, ← len_get]; exact f.lx
      · rw [len_get, e, ← len_get]; exact f.ly
      · rw [List.getElem!_eq_getElem?_getD, List.getElem!_eq_getElem?_getD, e, e, ← List.getElem!_eq_getElem?_getD, ← List.getElem!_eq_getElem?_getD]
        exact f.eq
    have q2 := refused_two q f2
    have e2 : ex1 (runP pl pre) t = runP pl (pre ++ [t]) := by rw [runP_app]; rfl
    have ih := late_runs (r := r) (pre := pre ++ [t]) (k := k + 1) q2 (fun u mu => hf u (List.mem_cons_of_mem _ mu)) (by rw [List.append_assoc]; exact hp)
    constructor
    · unfold refused
      rw [why_none.mpr f2]
      show refused ks (ex1 (runP pl pre) t) r (k + 1) = none
      rw [e2]
      exact ih.1
    · show (sg pre t.2.2 t.1, sg pre t.2.2 t.2.1, t.2.2) :: th (pre ++ [t]) r = t :: r
      rw [ih.2, sg_low lo, sg_low lo]
/-- what the law asks of the normal form -/
structure Norm (ks : List Str) (pl : Plans) (h : List Deed) : Prop where
  runs : refused ks pl (normal pl (thr (cr0 pl) h)) 0 = none
  thrs : thr (cr0 pl) (normal pl (thr (cr0 pl) h)) = normal pl (thr (cr0 pl) h)
  pts : parts pl (normal pl (thr (cr0 pl) h)) = parts pl (thr (cr0 pl) h)
  nrm : normal pl (normal pl (thr (cr0 pl) h)) = normal pl (thr (cr0 pl) h)
  fin : runP pl (normal pl (thr (cr0 pl) h)) = runP pl h
  len : (normal pl (thr (cr0 pl) h)).length = h.length
  mem : ∀ u, u ∈ normal pl (thr (cr0 pl) h) ↔ u ∈ thr (cr0 pl) h
theorem th_day : ∀ {r pre : List Deed}, (∀ t ∈ r, t.2.2 ≤ 6) → ∀ u ∈ th pre r, u.2.2 ≤ 6
  | [], _, _, _, m => nomatch m
  | t :: r, pre, h, u, m => by
    rcases List.mem_cons.mp m with rfl | m
    · exact h t List.mem_cons_self
    · exact th_day (fun v mv => h v (List.mem_cons_of_mem _ mv)) u m
theorem norm_of {ks : List Str} {pl : Plans} {h : List Deed} {k : Nat} (q : refused ks pl h k = none) (hd : ∀ t ∈ h, t.2.2 ≤ 6) : Norm ks pl h := by
  have et : thr (cr0 pl) h = th [] h := thr_th0 q
  have q0 : refused ks pl h 0 = none := refused_ix q
  have hf := th_fits (pre := []) rfl q0
  have dd : ∀ u ∈ thr (cr0 pl) h, u.2.2 ≤ 6 := by rw [et]; exact th_day hd
  have nm := normal_mem (pl := pl) dd
  have lr := late_runs (ks := ks) (pl := pl) (r := normal pl (thr (cr0 pl) h)) (pre := []) (k := 0) rfl (fun u mu => hf u (by rw [← et]; exact (nm u).mp mu)) (normal_desc pl _)
  have l1 : refused ks pl (normal pl (thr (cr0 pl) h)) 0 = none := lr.1
  have e2 : thr (cr0 pl) (normal pl (thr (cr0 pl) h)) = normal pl (thr (cr0 pl) h) := by rw [thr_th0 l1]; exact lr.2
  have pe : parts pl (normal pl (thr (cr0 pl) h)) = parts pl (thr (cr0 pl) h) := parts_eq fun c => normal_filter dd c
  refine ⟨l1, e2, pe, ?_, ?_, ?_, nm⟩
  · show normP (parts pl (normal pl (thr (cr0 pl) h))) days7 = _
    rw [pe]
    rfl
  · refine run_eq l1 q0 fun c => ?_
    rw [lr.2, ← et]
    exact normal_filter dd c
  · rw [(normal_perm dd).length_eq, et, th_len]
/-! ### from threads back to a history -/
def hist (ks : List Str) (cr : Plans) : List Deed → List Deed
  | [] => []
  | u :: r => (arvr ks cr u.1 u.2.2, arvr ks cr u.2.1 u.2.2, u.2.2) :: hist ks (swp cr (arvr ks cr u.1 u.2.2, arvr ks cr u.2.1 u.2.2, u.2.2)) r
/-- he comes, and his token is the one asked -/
theorem comer {ks : List Str} {pl : Plans} {h : List Deed} (q : refused ks pl h 0 = none) {p : Str} {d : Nat} (hp : p ∈ ks) (hd : d < (pl p).length) :
    comers ks (swps (cr0 pl) h) p d ≠ [] ∧ arvr ks (swps (cr0 pl) h) p d ∈ ks ∧ d < (runP pl h (arvr ks (swps (cr0 pl) h) p d)).length ∧ sg h d (arvr ks (swps (cr0 pl) h) p d) = p := by
  have hm := refused_mem q
  have hl := (swps_get (cr := cr0 pl) (cr0_len pl) q).1
  obtain ⟨n, mn, en⟩ := sg_sur (i := d) hm hp
  have hn : d < (runP pl h n).length := by
    rw [len_get, run_get q, en, ← len_get]
    exact hd
  have hin : n ∈ comers ks (swps (cr0 pl) h) p d := by
    refine List.mem_filter.mpr ⟨mn, ?_⟩
    rw [arr_sg q hn, hl, decide_eq_true hn, decide_eq_true en]
    rfl
  have hne : comers ks (swps (cr0 pl) h) p d ≠ [] := fun e => by rw [e] at hin; cases hin
  have h0 : 0 < (comers ks (swps (cr0 pl) h) p d).length := List.length_pos_iff.mpr hne
  have hz : arvr ks (swps (cr0 pl) h) p d ∈ comers ks (swps (cr0 pl) h) p d := by
    unfold arvr
    rw [getElem!_pos (comers ks (swps (cr0 pl) h) p d) 0 h0]
    exact List.getElem_mem h0
  obtain ⟨a, b⟩ := List.mem_filter.mp hz
  obtain ⟨b1, b2⟩ := Bool.and_eq_true_iff.mp b
  have b1 := of_decide_eq_true b1
  rw [hl] at b1
  have b2 := of_decide_eq_true b2
  rw [arr_sg q b1] at b2
  exact ⟨hne, a, b1, b2⟩
theorem hist_fits {ks : List Str} {pl : Plans} {h : List Deed} (q : refused ks pl h 0 = none) {u : Deed} (f : Fits ks pl u) : Fits ks (runP pl h) (arvr ks (swps (cr0 pl) h) u.1 u.2.2, arvr ks (swps (cr0 pl) h) u.2.1 u.2.2, u.2.2) := by
  obtain ⟨_, ax, lx, sx⟩ := comer q f.x f.lx
  obtain ⟨_, ay, ly, sy⟩ := comer q f.y f.ly
  refine ⟨ax, ay, fun e => ?_, lx, ly, ?_⟩
  · have e : arvr ks (swps (cr0 pl) h) u.1 u.2.2 = arvr ks (swps (cr0 pl) h) u.2.1 u.2.2 := e
    refine f.ne ?_
    rw [← sx, ← sy, e]
  · have e := f.eq
    rw [List.getElem!_eq_getElem?_getD, List.getElem!_eq_getElem?_getD] at e ⊢
    rw [run_get q, run_get q]
    dsimp only
    rw [sx, sy]
    exact e
end K37
end
section
set_option maxRecDepth 100000
set_option maxHeartbeats 4000000
/-! W12: threads_of, history_of. -/
namespace K37
open PySem PySem.Spec PyProof.Rows L2
open Z
theorem refused_split {ks : List Str} : ∀ {ys zs : List Deed} {t : Deed} {pl : Plans} {k : Nat}, refused ks pl (ys ++ t :: zs) k = none → refused ks pl ys 0 = none ∧ Fits ks (runP pl ys) t
  | [], zs, t, pl, k, h => ⟨rfl, (refused_cons h).1⟩
  | y :: ys, zs, t, pl, k, h => by
    obtain ⟨f, h⟩ := refused_cons h
    obtain ⟨a, b⟩ := refused_split (ys := ys) h
    refine ⟨?_, b⟩
    unfold refused
    rw [why_none.mpr f]
    exact refused_ix a
theorem thr_snoc (t : Deed) : ∀ (ys : List Deed) (cr : Plans), thr cr (ys ++ [t]) = thr cr ys ++ [(arr (swps cr ys) t.1 t.2.2, arr (swps cr ys) t.2.1 t.2.2, t.2.2)]
  | [], _ => rfl
  | y :: ys, cr => by
    show _ :: thr (swp cr y) (ys ++ [t]) = _ :: (thr (swp cr y) ys ++ _)
    rw [thr_snoc t ys]
    rfl
theorem thr_len : ∀ (ys : List Deed) (cr : Plans), (thr cr ys).length = ys.length
  | [], _ => rfl
  | y :: ys, cr => congrArg Nat.succ (thr_len ys _)
section
variable {P : Program} {w : World} {K : PySem.W.Frag} {mg : Str → Option Value} {base : Heap}
section
variable {X : Cx} {z : Zn} {δ : List (Option Z.Ty)} {Ω : Own} {e : Expr} {p' pos : Pos} {D : Dn} {rest : List Stmt} {i : Nat} {C : Cy} {x : Str}
theorem sw_exprNo (he : EvG X z δ Ω e tNo) (hs : swapsWith e none pos.line X.env = pure false := by rfl) : SWs X z (.Expr e pos :: rest) D δ Ω := fun F G H σ sf g =>
  w_pss (pss_cons (ps_expr pe_w hs) pss_w) (he G H σ g _ fun v G1 H1 x1 t => t.elim)
theorem sw_retOX {q : Except Er Cy} (hD : D.rt = rtXF z q) (h : q = .ok C) (hN : X.N[i]? = some x := by rfl) (hv : Vis X.env.scope x := by first | exact Or.inl rfl | exact Or.inr (Or.inl rfl) | exact Or.inr (Or.inr rfl))
    (hd : (x == ("__debug__" : Str)) = false := by decide) (hcd : (x == ("__classdict__" : Str)) = false := by decide) : SWs X z (.Return (some (.Name x p')) pos :: rest) D δ ((i, none, C) :: Ω) :=
  sw_retO (fun a o G' H' bg _ ow ns ga ha ca => by rw [hD]; exact ⟨C, a, o, G', h, rfl, bg, ow.new rfl, ga, ha, ca⟩) hN hv hd hcd
theorem sw_retOF {C' : Cy} (hD : D.rt = rtF z C') (h : C = C') (hN : X.N[i]? = some x := by rfl) (hv : Vis X.env.scope x := by first | exact Or.inl rfl | exact Or.inr (Or.inl rfl) | exact Or.inr (Or.inr rfl))
    (hd : (x == ("__debug__" : Str)) = false := by decide) (hcd : (x == ("__classdict__" : Str)) = false := by decide) : SWs X z (.Return (some (.Name x p')) pos :: rest) D δ ((i, none, C) :: Ω) :=
  sw_retO (fun a o G' H' bg _ ow ns ga ha ca => by rw [hD]; exact ⟨a, o, G', rfl, bg, ow.new rfl, ga, ha, h ▸ ca⟩) hN hv hd hcd
end
/-- what is handed in as a history: a good one, or a wrong value -/
inductive Hin where
  | good (hs : List Deed)
  | bad (o : Option PyData)
def Hin.ty : Hin → Z.Ty
  | .good hs => dat (eH hs)
  | .bad o => tHi o
def Hin.pre : Hin → Prop
  | .good hs => HOk hs
  | .bad o => SmH o ∧ isHist o = false
def Hin.out {α : Type} (i : WIx) (m : Str) : Hin → (List Deed → α) → Except Er α
  | .good hs, f => outW (refused i.2.2.1 i.2.2.2 hs 0) (f hs)
  | .bad _, _ => .error (.bad m)
theorem hin_ty (h : Hin) : ∃ o, h.ty = tHi o ∧ (h.pre → SmH o) := by
  cases h with
  | good hs => exact ⟨some (eH hs), rfl, fun q => HOk.smH q⟩
  | bad o => exact ⟨o, rfl, fun q => q.1⟩
/-- the carried lists on the way -/
structure Way (ts : List Str) (rs : List (Str × Str)) (ks : List Str) (pl : Plans) (ys : List Deed) (t : Deed) : Prop where
  fit : Fits ks (runP pl ys) t
  run : refused ks pl ys 0 = none
  lx : t.2.2 < (swps (cr0 pl) ys t.1).length
  ly : t.2.2 < (swps (cr0 pl) ys t.2.1).length
  sp : SPre (sortN ks) (swps (cr0 pl) ys) t
theorem way_of {ts : List Str} {rs : List (Str × Str)} {ks : List Str} {pl : Plans} (hw : WorldOk ts rs ks pl) {ys : List Deed} {t : Deed} (h1 : refused ks pl ys 0 = none) (f : Fits ks (runP pl ys) t) : Way ts rs ks pl ys t := by
  have hl := (swps_get (cr := cr0 pl) (cr0_len pl) h1).1
  have hwi := hw.run h1
  have hk6 := hw.ok.len.2
  refine ⟨f, h1, by rw [hl]; exact f.lx, by rw [hl]; exact f.ly, (sortN_mem ks _).mpr f.x, (sortN_mem ks _).mpr f.y, ?_, ?_, by rw [sortN_len]; omega⟩
  · rw [hl]; have := (hwi.ok.pl _ f.x).len; omega
  · rw [hl]; have := (hwi.ok.pl _ f.y).len; omega
def cH (hs : List Deed) : Cy := cL (hs.map fun t => dat (eD t))
def pThreads (K : PySem.W.Frag) : PrXF (WIx × Hin) := ⟨fun i => i.1.ok ∧ i.2.pre, fun i => [tWo K i.1, i.2.ty], fun i => i.2.out i.1 "history" fun hs => cH (thr (cr0 i.1.2.2.2) hs)⟩
theorem cb_threads_of (T : Txt K mg) : Cb (L2.CX P w) P w K mg base 8 "threads_of" ["world", "history"] ((pThreads K).sp K) := by
  refine cb_prXF T.f_threads_of sc_threads_of bd_threads_of (fun _ => rfl) fun f cdv A outer s H E i z hr pz hp hE => ?_
  obtain ⟨wi, hi⟩ := i
  obtain ⟨hw, hh⟩ := hp
  have hw : wi.ok := hw
  have hh : hi.pre := hh
  cases hi with
  | bad o =>
    have hh : SmH o ∧ isHist o = false := hh
    refine sw_when (EvB.g (eb_notV (p := isHist o) (eb_val (ev_hist T hh.1 hr (by decide) (ev_var 1))))) (fun h => ?_) fun h => ?_
    · exact sw_raise_bad T rfl (L2.takes_of rfl rfl rfl rfl) hr (by decide) pz.2 (EvD.g ev_str) (hE _ rfl)
    · rw [hh.2] at h
      cases h
  | good hs =>
    have hh : HOk hs := hh
    obtain ⟨ts, rs, ks, pl⟩ := wi
    have hw : WorldOk ts rs ks pl := hw
    have hk6 := hw.ok.len.2
    refine sw_not (EvB.g (eb_notV (p := true) (eb_val (ev_histT T hh hr (by decide) (ev_var 1))))) ?_
    cases hq : refused ks pl hs 0 with
    | some iw =>
      refine sw_exprNo (EvD.g (ev_callXD (P := pReplay K) ((ts, rs, ks, pl), hs) (L2.takes_of rfl rfl rfl rfl) pz.2 (cb_replay T) hr (by decide) ⟨hw, hh⟩ (ea2 (ev_var 0) (ev_var 1)) (fun T h => ?_) (fun er h => ?_)))
      · have h : outW (refused ks pl hs 0) _ = _ := h
        rw [hq] at h
        cases h
      · have h : outW (refused ks pl hs 0) _ = _ := h
        rw [hq] at h
        refine hE er ?_
        show outW (refused ks pl hs 0) _ = _
        rw [hq]
        cases h
        rfl
    | none =>
      refine sw_expr (T := tAny) (EvD.g (ev_callXD (P := pReplay K) ((ts, rs, ks, pl), hs) (L2.takes_of rfl rfl rfl rfl) pz.2 (cb_replay T) hr (by decide) ⟨hw, hh⟩ (ea2 (ev_var 0) (ev_var 1)) (fun T h => ?_) (fun er h => ?_))) ?_
      · exact fun v G t => trivial
      · have h : outW (refused ks pl hs 0) _ = _ := h
        rw [hq] at h
        cases h
      refine sw_setO 2 nd_threads_of (ef_call (P := pTokens K) (ts, rs, ks, pl) (cb_first_tokens T) hr (by decide) hw (ga_cons (EvD.g (ev_var 0)) ga_nil)) ?_
      refine sw_setO 3 nd_threads_of ef_nil ?_
      refine sw_forS (S := List Deed) (J := [4]) (g := gName 4) hs (fun t => dat (eD t)) (fun ys s => s = ys) (fun s => slots N_threads_of [some (tWo K (ts, rs, ks, pl)), some (dat (eH hs)), none, none]) (fun s => [(3, none, cH (thr (cr0 pl) s)), (2, none, cDK (eCr (sortN ks) (swps (cr0 pl) s)))])
        (fun s t => (slots N_threads_of [some (tWo K (ts, rs, ks, pl)), some (dat (eH hs)), none, none]).set 4 (some (dat (eD t)))) (L2.passes_of rfl) rfl (ei_listA hs (fun t => dat (eD t)) (eH_toL (ev_var 1))) (pg_name nd_threads_of rfl (Or.inl rfl))
        (fun s t => tr_name 4) (fun s q m => ?_) ⟨[], rfl, by repeat (first | exact Wk.nil | apply Wk.cons | apply Wk.no), rfl⟩ (fun ys t zs s e hs' => ?_) fun s hs' => ?_
      · simp only [List.mem_cons, List.not_mem_nil, or_false] at m
        rcases m with rfl | rfl
        · show (3 : Nat) ∉ [4]; decide
        · show (2 : Nat) ∉ [4]; decide
      · subst hs'
        rw [e] at hq
        obtain ⟨h1, h2⟩ := refused_split hq
        have wy := way_of hw h1 h2
        refine sw_asg (g := g3 K 5 6 7) (EvG.drop (EvG.drop (EvD.g (asgD (ev_var 4))))) (pg_tup rfl (pgs_cons (pg_name nd_threads_of rfl (Or.inl rfl)) (pgs_cons (pg_name nd_threads_of rfl (Or.inl rfl)) (pgs_cons (pg_name nd_threads_of rfl (Or.inl rfl)) pgs_nil)))) (tr_tup3 5 6 7) ?_
        refine sw_app (T := dat (eD (arr (swps (cr0 pl) s) t.1 t.2.2, arr (swps (cr0 pl) s) t.2.1 t.2.2, t.2.2))) (EvG.swap (EvG.viewD sq_DK fl_dat fun z' h1 h2 => ev_tupD (ds := [.str (arr (swps (cr0 pl) s) t.1 t.2.2), .str (arr (swps (cr0 pl) s) t.2.1 t.2.2), .int (t.2.2 : Int)]) (ea_cons
          (ev_callD (P := pArrival) (sortN ks, swps (cr0 pl) s, t.1, t.2.2) (cb_arrival T) hr (by decide) ⟨wy.sp.x, Nat.le_of_lt wy.lx⟩ (ea_cons (EvD.imp (ev_var 2) fun _ _ h => tDK_rd (cDK_ty.mp h)) (ea2 (ev_var 5) (ev_var 7))))
          (ea2 (ev_callD (P := pArrival) (sortN ks, swps (cr0 pl) s, t.2.1, t.2.2) (cb_arrival T) hr (by decide) ⟨wy.sp.y, Nat.le_of_lt wy.ly⟩ (ea_cons (EvD.imp (ev_var 2) fun _ _ h => tDK_rd (cDK_ty.mp h)) (ea2 (ev_var 6) (ev_var 7)))) (ev_var 7))) (by show 3 ≤ 1000; decide))) ?_ ?_
        · rw [List.length_map, thr_len]
          have := hh.len
          rw [e, List.length_append, List.length_cons] at this
          omega
        · refine sw_swap (sw_callM (P := pSwap) (sortN ks, swps (cr0 pl) s, t) (cb_swap_tokens T) hr (by decide) wy.sp (ga_cons (EvG.drop (EvG.drop (EvD.g (ev_var 4)))) ga_nil) ?_)
          refine sw_swap (sw_nil ⟨s ++ [t], rfl, by repeat (first | exact Wk.nil | apply Wk.cons | apply Wk.no), ?_⟩)
          show _ = [(3, none, cH (thr (cr0 pl) (s ++ [t]))), (2, none, cDK (eCr (sortN ks) (swps (cr0 pl) (s ++ [t]))))]
          rw [thr_snoc, swps_app]
          unfold cH
          rw [List.map_append]
          rfl
      · subst hs'
        refine sw_retOX rfl ?_
        show outW (refused ks pl s 0) _ = _
        rw [hq]
        rfl
end
end K37
end
section
set_option maxRecDepth 100000
set_option maxHeartbeats 4000000
/-! W13: history_of. -/
namespace K37
open PySem PySem.Spec PyProof.Rows L2
open Z
theorem hist_snoc (ks : List Str) (u : Deed) : ∀ (us : List Deed) (cr : Plans), hist ks cr (us ++ [u]) = hist ks cr us ++ [(arvr ks (swps cr (hist ks cr us)) u.1 u.2.2, arvr ks (swps cr (hist ks cr us)) u.2.1 u.2.2, u.2.2)]
  | [], _ => rfl
  | y :: us, cr => by
    show _ :: hist ks _ (us ++ [u]) = _ :: (hist ks _ us ++ _)
    rw [hist_snoc ks u us]
    rfl
theorem hist_len (ks : List Str) : ∀ (us : List Deed) (cr : Plans), (hist ks cr us).length = us.length
  | [], _ => rfl
  | y :: us, cr => congrArg Nat.succ (hist_len ks us _)
theorem Fits.perm {ks ks' : List Str} {pl : Plans} {t : Deed} (h : ∀ n, n ∈ ks ↔ n ∈ ks') (f : Fits ks pl t) : Fits ks' pl t := ⟨(h _).mp f.x, (h _).mp f.y, f.ne, f.lx, f.ly, f.eq⟩
theorem hist_runs {ks : List Str} {pl : Plans} : ∀ (n : Nat) (us : List Deed), us.length = n → (∀ u ∈ us, Fits ks pl u) → refused ks pl (hist ks (cr0 pl) us) 0 = none
  | 0, [], _, _ => rfl
  | n + 1, us, hl, hf => by
    obtain ⟨r, t, rfl⟩ : ∃ r t, us = r ++ [t] := ⟨us.dropLast, us.getLast (by intro e; rw [e] at hl; cases hl), (List.dropLast_concat_getLast _).symm⟩
    have hr : r.length = n := by rw [List.length_append] at hl; exact Nat.succ.inj hl
    have ih := hist_runs n r hr fun u m => hf u (List.mem_append_left _ m)
    rw [hist_snoc]
    exact refused_two ih (hist_fits ih (hf t (List.mem_append_right _ List.mem_cons_self)))
section
variable {P : Program} {w : World} {K : PySem.W.Frag} {mg : Str → Option Value} {base : Heap}
structure ThrOk (i : WIx) (us : List Deed) : Prop where
  ok : i.ok
  h : HOk us
  fit : ∀ u ∈ us, Fits i.2.2.1 i.2.2.2 u
def pCheckT (K : PySem.W.Frag) : Pr (WIx × List Deed) := ⟨fun i => ThrOk i.1 i.2, fun i => [tWo K i.1, dat (eH i.2)], fun _ => dat .none⟩
theorem cb_check_threads (T : Txt K mg) : Cb CX0 P w K mg base 5 "check_threads" ["world", "threads"] (pCheckT K).sp := by
  refine cb_pr T.f_check_threads sc_check_threads bd_check_threads (fun _ => rfl) fun f cdv A outer s H E i z hr pz hp => ?_
  obtain ⟨wi, us⟩ := i
  obtain ⟨hw, hh, hf⟩ := hp
  have hw : wi.ok := hw
  have hh : HOk us := hh
  have hf : ∀ u ∈ us, Fits wi.2.2.1 wi.2.2.2 u := hf
  refine sw_not (EvB.g (eb_notV (p := true) (eb_val (ev_histT T hh hr (by decide) (ev_var 1))))) ?_
  refine sw_for0 (J := [2, 3]) (g := g2 K 2 3) (List.range us.length) (fun i => tT [dat (.int (i : Int)), dat (eD us[i]!)]) (slots N_check_threads [some (tWo K wi), some (dat (eH us))]) _ PassesOwn.never rfl (ei_ix (ei_enumA us (fun t => dat (eD t)) T.enumerate_ (eH_toL (ev_var 1)))) (pg_tup rfl (pgs_cons (pg_name nd_check_threads rfl (Or.inl rfl)) (pgs_cons (pg_name nd_check_threads rfl (Or.inl rfl)) pgs_nil)))
    (fun i => tr_tup2 2 3) (by repeat (first | exact Wk.nil | apply Wk.cons | apply Wk.no)) (fun q m => nomatch m) (fun ys i zs e => ?_) ?_
  · obtain ⟨hi, hys⟩ := range_at e
    have hm : us[i]! ∈ us := nth_bang hi
    refine sw_set 4 nd_check_threads (T := dat .none) (EvD.g (ev_callD (P := pRefusal K) (wi, us[i]!) (cb_refusal T) hr (by decide) ⟨hw, hh.all _ hm, hf _ hm⟩ (ea2 (ev_var 0) (ev_var 3)))) ?_
    refine sw_when (EvB.g (eb_notN (ev_var 4))) (fun h => by cases h) fun h => ?_
    exact sw_nil ⟨by repeat (first | exact Wk.nil | apply Wk.cons | apply Wk.no), rfl⟩
  · exact sw_endT rfl
def pHistory (K : PySem.W.Frag) : PrF (WIx × List Deed) := ⟨fun i => ThrOk i.1 i.2, fun i => [tWo K i.1, dat (eH i.2)], fun i => cH (hist (sortN i.1.2.2.1) (cr0 i.1.2.2.2) i.2)⟩
theorem cb_history_of (T : Txt K mg) : Cb CX0 P w K mg base 6 "history_of" ["world", "threads"] (pHistory K).sp := by
  refine cb_prF T.f_history_of sc_history_of bd_history_of (fun _ => rfl) fun f cdv A outer s H E i z hr pz hp => ?_
  obtain ⟨⟨ts, rs, ks, pl⟩, us⟩ := i
  have hto : ThrOk (ts, rs, ks, pl) us := hp
  obtain ⟨hw, hh, hf⟩ := hp
  have hw : WorldOk ts rs ks pl := hw
  have hh : HOk us := hh
  have hf : ∀ u ∈ us, Fits (sortN ks) pl u := fun u m => (hf u m).perm fun n => (sortN_mem ks n).symm
  have hk6 := hw.ok.len.2
  have hsl := sortN_len ks
  refine sw_expr (EvD.g (ev_callD (P := pCheckT K) ((ts, rs, ks, pl), us) (cb_check_threads T) hr (by decide) hto (ea2 (ev_var 0) (ev_var 1)))) ?_
  refine sw_setO 2 nd_history_of (ef_call (P := pTokens K) (ts, rs, ks, pl) (cb_first_tokens T) hr (by decide) hw (ga_cons (EvD.g (ev_var 0)) ga_nil)) ?_
  refine sw_setO 3 nd_history_of ef_nil ?_
  refine sw_forS (S := List Deed) (J := [4, 5, 6]) (g := g3 K 4 5 6) us (fun t => tT [dat (.str t.1), dat (.str t.2.1), dat (.int (t.2.2 : Int))]) (fun ys s => s = hist (sortN ks) (cr0 pl) ys) (fun s => slots N_history_of [some (tWo K (ts, rs, ks, pl)), some (dat (eH us)), none, none]) (fun s => [(3, none, cH s), (2, none, cDK (eCr (sortN ks) (swps (cr0 pl) s)))])
    (fun s t => (((slots N_history_of [some (tWo K (ts, rs, ks, pl)), some (dat (eH us)), none, none]).set 4 (some (dat (.str t.1)))).set 5 (some (dat (.str t.2.1)))).set 6 (some (dat (.int (t.2.2 : Int))))) PassesOwn.never rfl (ei_mono (ei_listA us (fun t => dat (eD t)) (eH_toL (ev_var 1))) fun _ _ _ _ t => dat_tuple.mp t)
    (pg_tup rfl (pgs_cons (pg_name nd_history_of rfl (Or.inl rfl)) (pgs_cons (pg_name nd_history_of rfl (Or.inl rfl)) (pgs_cons (pg_name nd_history_of rfl (Or.inl rfl)) pgs_nil))))
    (fun s t => tr_tup3 4 5 6) (fun s q m => ?_) ⟨[], rfl, by repeat (first | exact Wk.nil | apply Wk.cons | apply Wk.no), rfl⟩ (fun ys t zs s e hs' => ?_) fun s hs' => ?_
  · simp only [List.mem_cons, List.not_mem_nil, or_false] at m
    rcases m with rfl | rfl
    · show (3 : Nat) ∉ [4, 5, 6]; decide
    · show (2 : Nat) ∉ [4, 5, 6]; decide
  · have hy : ∀ u ∈ ys, Fits (sortN ks) pl u := fun u m => hf u (by rw [e]; exact List.mem_append_left _ m)
    have ht : Fits (sortN ks) pl t := hf t (by rw [e]; exact List.mem_append_right _ List.mem_cons_self)
    have hrun := hist_runs (ks := sortN ks) (pl := pl) _ ys rfl hy
    rw [← hs'] at hrun
    have cx := comer hrun ht.x ht.lx
    have cy := comer hrun ht.y ht.ly
    have f2 := hist_fits hrun ht
    have wy := way_of hw.sort hrun f2
    have sp := wy.sp
    rw [sortN_idem] at sp
    refine sw_set 7 nd_history_of (T := dat (eD (arvr (sortN ks) (swps (cr0 pl) s) t.1 t.2.2, arvr (sortN ks) (swps (cr0 pl) s) t.2.1 t.2.2, t.2.2))) (EvG.swap (EvG.viewD sq_DK fl_dat fun z' h1 h2 => ev_tupD (ds := [.str (arvr (sortN ks) (swps (cr0 pl) s) t.1 t.2.2), .str (arvr (sortN ks) (swps (cr0 pl) s) t.2.1 t.2.2), .int (t.2.2 : Int)]) (ea_cons
      (ev_callD (P := pArriver) (sortN ks, swps (cr0 pl) s, t.1, t.2.2) (cb_arriver T) hr (by decide) ⟨by show (sortN ks).length ≤ 100; omega, cx.1⟩ (ea_cons (EvD.imp (ev_var 2) fun _ _ h => cDK_ty.mp h) (ea2 (ev_var 4) (ev_var 6))))
      (ea2 (ev_callD (P := pArriver) (sortN ks, swps (cr0 pl) s, t.2.1, t.2.2) (cb_arriver T) hr (by decide) ⟨by show (sortN ks).length ≤ 100; omega, cy.1⟩ (ea_cons (EvD.imp (ev_var 2) fun _ _ h => cDK_ty.mp h) (ea2 (ev_var 5) (ev_var 6)))) (ev_var 6))) (by show 3 ≤ 1000; decide))) ?_
    refine sw_app (EvG.drop (EvG.drop (EvD.g (ev_var 7)))) ?_ ?_
    · rw [List.length_map, hs', hist_len]
      have := hh.len
      rw [e, List.length_append, List.length_cons] at this
      omega
    · refine sw_swap (sw_callM (P := pSwap) (sortN ks, swps (cr0 pl) s, (arvr (sortN ks) (swps (cr0 pl) s) t.1 t.2.2, arvr (sortN ks) (swps (cr0 pl) s) t.2.1 t.2.2, t.2.2)) (cb_swap_tokens T) hr (by decide) sp (ga_cons (EvG.drop (EvG.drop (EvD.g (ev_var 7)))) ga_nil) ?_)
      refine sw_swap (sw_nil ⟨hist (sortN ks) (cr0 pl) (ys ++ [t]), rfl, by repeat (first | exact Wk.nil | apply Wk.cons | apply Wk.no), ?_⟩)
      rw [hist_snoc, ← hs']
      refine Eq.trans ?_ (show [(3, none, cH _), (2, none, cDK (eCr (sortN ks) (swps (cr0 pl) (s ++ [_]))))] = _ from rfl)
      rw [swps_app]
      unfold cH
      rw [List.map_append]
      rfl
  · exact sw_retOF rfl (by rw [hs']; rfl)
end
end K37
end
section
set_option maxRecDepth 100000
set_option maxHeartbeats 4000000
/-! W14: parts_of. -/
namespace Z
open PySem PySem.Spec PyProof.Rows L2
section
variable {X : Cx} {z : Zn} {δ : List (Option Ty)} {e : Expr} {p p' p0 lp cp ip pos : Pos} {x : Str}
theorem deep_keys {κ : Type} {G H : Hp} {D : Addr} : ∀ {kvs : List (κ × V)} {es : List (κ × List Ty)}, Paired (DeepE z G H D) kvs es → kvs.map (·.1) = es.map (·.1)
  | _, _, .nil => rfl
  | _, _, .cons h t => by rw [List.map_cons, List.map_cons, deep_keys t, h.1]
/-- the key's tuple, known -/
theorem tup_at {G H : Hp} {v : V} {kk : List L2.Key} (l : Le G H) (t : (dat (.tuple (kk.map keyD))).p v G) : ∃ b, v = .ref b ∧ H b = some (.tup (kk.map kV)) := by
  obtain ⟨b, vs, rfl, eq, rr⟩ := Rp.tup_of t
  rw [keyD_of rr] at eq
  exact ⟨b, rfl, l _ _ eq⟩
theorem get_t {kvs : List (List L2.Key × V)} {kk : List L2.Key} {D : Addr} : ∀ (G H : Hp) (y : V), Le G H → H D = some (.dT kvs) → (dat (.tuple (kk.map keyD))).p y G → DGet H D y (valV kvs kk) := fun G H y l h t => by
  obtain ⟨b, rfl, hb⟩ := tup_at l t
  exact DGet.t h hb
theorem w1_set {T : Ty} (i : Nat) (hN : X.N.Nodup) (he : EvD X z δ e T) {G H : Hp} {σ : L2.St} (g : Good z G H σ δ []) {Dn : Ends} (k : ∀ v G' H', Ext z.sa G H G' H' → Good z G' H' (σ.set i (some v)) (δ.set i (some T)) [] → Dn.nx (σ.set i (some v)) H')
    (hi : X.N[i]? = some x := by rfl) (hx : Loc X.env.scope x := by first | exact Or.inl rfl | exact Or.inr rfl) (hs : swapsWith e (some (.Name x p')) pos.line X.env = pure false := by rfl) (hf : X.fn x = true ∨ X.env.scope.names.lookup x = some .local := by first | exact .inl rfl | exact .inr rfl | assumption) :
    tW1 X (.Assign [.Name x p'] e pos) Dn σ H :=
  w_ps (ps_set (i := i) hN hi hx pe_w hs hf) (he G H σ g.bg g.rs _ fun v G1 H1 x1 t => k v G1 H1 x1 ⟨g.bg.ext x1, (g.rs.mono x1.g).set t i, trivial⟩)
/-- d[k] = [], the key a new tuple -/
theorem deep_put1 {kk : List L2.Key} {D : Addr} {i : Nat} {kvs : List (List L2.Key × V)} {es : List (List L2.Key × List Ty)} (hu : X.A.units + 1 < cLine) (hi : δ[i]? = some (some (tRaw (.ref D)))) (hk : EvD X z δ e (dat (.tuple (kk.map keyD)))) (hn : kk ∉ es.map (·.1)) (hz : es.length < 1000)
    (hN : X.N[i]? = some x := by rfl) (hvis : Vis X.env.scope x := by first | exact Or.inl rfl | exact Or.inr (Or.inl rfl) | exact Or.inr (Or.inr rfl)) (hd : (x == ("__debug__" : Str)) = false := by decide) (hcd : (x == ("__classdict__" : Str)) = false := by decide)
    (hs : swapsWith (.List [] lp) (some (.Subscript (.Name x p) e p')) pos.line X.env = pure false := by rfl)
    {G H : Hp} {σ : L2.St} (g : Good z G H σ δ []) (d : Deep .dT z G H D kvs es) {Dn : Ends} (q : ∀ G' H' kvs', Good z G' H' σ δ [] → Same G G' → Deep .dT z G' H' D kvs' (es ++ [(kk, [])]) → Dn.nx σ H') :
    tW1 X (.Assign [.Subscript (.Name x p) e p'] (.List [] lp) pos) Dn σ H := by
  obtain ⟨v0, ev, hv0⟩ := g.rs.at_ i _ hi
  have hv0 : v0 = .ref D := hv0
  subst hv0
  refine w_ps (ps_dput hu (pe_var hN hvis hd hcd) pe_w pe_w hs) (ef_nil G H σ g _ fun w o G1 H1 x1 na ga ha ca => ?_)
  obtain ⟨vs, rfl, r⟩ := ca
  have g1 := g.ext x1
  have d1 := d.ext x1
  refine ⟨.ref D, ev, hk G1 H1 σ g1.bg g1.rs _ fun y G2 H2 x2 ty => ?_⟩
  have g2 := g1.ext x2
  have d2 := d1.ext x2
  obtain ⟨b, rfl, hb⟩ := tup_at x2.le ty
  have z0 : z.H0 w = none := by
    cases hh : z.H0 w with
    | none => rfl
    | some u => exact absurd na (g.bg.al w (ne_none hh))
  have nsw := no_sa g.bg.st na
  have op : Own1 z G2 w := ⟨x2.nw w ⟨_, ha, rfl⟩ ga, z0, nsw⟩
  have hw0 : w ≠ D := fun h => by
    rw [h, d.at_] at na
    cases na
  have np : ∀ q ∈ kvs, q.2 ≠ .ref w := fun q m h => by
    obtain ⟨l, vs2, h1, h2⟩ := deep_tracked d.en q m
    rw [h1] at h
    cases h
    rw [na] at h2
    cases h2
  have kn : kk ∉ kvs.map (·.1) := by
    rw [deep_keys d.en]
    exact hn
  refine ⟨D, _, rfl, DPut.t d2.at_ hb ?_, ?_⟩
  · rw [Paired.length d.en]
    exact small1000 (Nat.le_of_lt hz)
  · rw [putK_snoc kn]
    exact q G2 _ _ (g2.poke d2.own rfl) (x1.g.trans x2.g) (d2.new hn op (x2.h w _ nsw ha) (r.mono x2.g) np hw0 rfl)
/-- if k not in d: d[k] = [] -/
theorem deep_ensure {e2 : Expr} {kk : List L2.Key} {D : Addr} {i : Nat} {kvs : List (List L2.Key × V)} {es : List (List L2.Key × List Ty)} (hu : X.A.units + 1 < cLine) (hi : δ[i]? = some (some (tRaw (.ref D)))) (hk : EvD X z δ e (dat (.tuple (kk.map keyD)))) (hk2 : EvD X z δ e2 (dat (.tuple (kk.map keyD)))) (hz : es.length < 1000)
    (hN : X.N[i]? = some x := by rfl) (hvis : Vis X.env.scope x := by first | exact Or.inl rfl | exact Or.inr (Or.inl rfl) | exact Or.inr (Or.inr rfl)) (hd : (x == ("__debug__" : Str)) = false := by decide) (hcd : (x == ("__classdict__" : Str)) = false := by decide)
    (hs : swapsWith (.List [] lp) (some (.Subscript (.Name x p) e2 p')) pos.line X.env = pure false := by rfl) (hm : behindInMarks .NotIn (.Name x p0) = false := by rfl)
    {G H : Hp} {σ : L2.St} (g : Good z G H σ δ []) (d : Deep .dT z G H D kvs es) {Dn : Ends} (q : ∀ G' H' kvs' es', Good z G' H' σ δ [] → Same G G' → (kk ∈ es.map (·.1) ∧ es' = es ∨ kk ∉ es.map (·.1) ∧ es' = es ++ [(kk, [])]) → Deep .dT z G' H' D kvs' es' → Dn.nx σ H') :
    tW1 X (.If (.Compare e [.NotIn] [.Name x p0] cp) [.Assign [.Subscript (.Name x p) e2 p'] (.List [] lp) pos] [] ip) Dn σ H := by
  obtain ⟨v0, ev, hv0⟩ := g.rs.at_ i _ hi
  have hv0 : v0 = .ref D := hv0
  subst hv0
  refine w_ps (ps_if (pt_cmp (pc_dnotin hu pe_w (pe_var hN hvis hd hcd)) hm) pss_w pss_w) (hk G H σ g.bg g.rs _ fun y G1 H1 x1 ty => ⟨.ref D, ev, D, valV kvs kk, rfl, get_t G1 H1 y x1.le (d.ext x1).at_ ty, _, rfl, ?_⟩)
  have g1 := g.ext x1
  have d1 := d.ext x1
  have nn : (valV kvs kk).isSome = true ↔ kk ∈ es.map (·.1) := by
    rw [← deep_keys d.en]
    have key : ∀ l : List (List L2.Key × V), (valV l kk).isSome = true ↔ kk ∈ l.map (·.1) := by
      intro l
      induction l with
      | nil => exact ⟨fun h => (by cases h), fun h => (by cases h)⟩
      | cons a l ih =>
        obtain ⟨b, v⟩ := a
        by_cases c : b = kk
        · rw [valV_pos c]
          subst c
          simp
        · rw [valV_neg c, ih]
          have c' : ¬ kk = b := fun h => c h.symm
          simp [c']
    exact key kvs
  cases c : (valV kvs kk).isSome with
  | true => exact iteF (w_pss pss_nil (q G1 H1 kvs es g1 x1.g (.inl ⟨nn.mp c, rfl⟩) d1))
  | false =>
    have cn : kk ∉ es.map (·.1) := fun h => by rw [nn.mpr h] at c; cases c
    exact iteT (w_pss (pss_cons ps_w pss_nil) (deep_put1 hu hi hk2 cn hz hN hvis hd hcd hs g1 d1 fun G' H' kvs' g' s' d' => q G' H' kvs' _ g' (x1.g.trans s') (.inr ⟨cn, rfl⟩) d'))
end
end Z
namespace K37
open PySem PySem.Spec PyProof.Rows L2
open Z
def kyC (c : Crs) : List L2.Key := [.inl (c.1 : Int), .inr c.2]
theorem kyC_inj (a b : Crs) (h : kyC a = kyC b) : a = b := by
  simp [kyC] at h
  exact Prod.ext (by have := h.1; omega) h.2
theorem dataLe_leC : (PySem.W.dataLe false fun c : Crs => PyData.tuple ((kyC c).map keyD)) = leC := by
  funext p q
  show (!PySem.W.dataLt (.tuple [.int (q.1 : Int), .str q.2]) (.tuple [.int (p.1 : Int), .str p.2])) = leC p q
  rw [PySem.W.dataLt_pair (by simp [PySem.W.alike]) (by simp [PySem.W.alike]), PySem.W.dataLt_int, PySem.W.dataLt_str]
  simp only [PyData.eqv, beq_iff_eq]
  unfold leC leS
  by_cases h1 : p.1 = q.1
  · rw [if_pos (by omega), decide_eq_true h1, decide_eq_false (show ¬ p.1 < q.1 by omega)]
    by_cases h2 : q.2 = p.2
    · rw [if_pos h2, h2]
      simp
    · rw [if_neg h2, PySem.W.not_lt_str]
      simp
  · rw [if_neg (by omega), decide_eq_false h1]
    by_cases h2 : p.1 < q.1
    · have h3 : ¬ (q.1 : Int) < (p.1 : Int) := by omega
      simp [h2, h3]
    · have h3 : (q.1 : Int) < (p.1 : Int) := by omega
      simp [h2, h3]
def pes (pl : Plans) (ks : List Crs) (ys : List Deed) : List (List L2.Key × List Z.Ty) := ks.map fun c => (kyC c, (partOf pl ys c).map fun t => dat (eD t))
theorem look_cK {α κ ι : Type} [DecidableEq κ] {ky : ι → κ} (inj : ∀ a b, ky a = ky b → a = b) {F : ι → α} {n : ι} : ∀ (ks : List ι), n ∈ ks → lookT (ks.map fun a => (ky a, F a)) (ky n) = some (F n)
  | [], h => nomatch h
  | a :: r, h => by
    unfold lookT
    rw [List.map_cons, List.find?_cons]
    by_cases c : ky a = ky n
    · have e := inj _ _ c
      subst e
      simp
    · have ne : a ≠ n := fun w => c (by rw [w])
      rw [decide_eq_false c]
      exact look_cK inj r (by rcases List.mem_cons.mp h with w | m; exact absurd w.symm ne; exact m)
theorem pes_keys (pl : Plans) (ks : List Crs) (ys : List Deed) : (pes pl ks ys).map (·.1) = ks.map kyC := by
  unfold pes
  rw [List.map_map]
  rfl
theorem pes_ensure (pl : Plans) (ys : List Deed) (c : Crs) {es' : List (List L2.Key × List Z.Ty)} (h : kyC c ∈ (pes pl (dk [] (ys.map (crs pl))) ys).map (·.1) ∧ es' = pes pl (dk [] (ys.map (crs pl))) ys ∨ kyC c ∉ (pes pl (dk [] (ys.map (crs pl))) ys).map (·.1) ∧ es' = pes pl (dk [] (ys.map (crs pl))) ys ++ [(kyC c, [])]) : es' = pes pl (if c ∈ dk [] (ys.map (crs pl)) then dk [] (ys.map (crs pl)) else dk [] (ys.map (crs pl)) ++ [c]) ys := by
  rw [pes_keys] at h
  have e : kyC c ∈ (dk [] (ys.map (crs pl))).map kyC ↔ c ∈ dk [] (ys.map (crs pl)) := ⟨fun h => by
    obtain ⟨a, ma, ea⟩ := List.mem_map.mp h
    exact kyC_inj _ _ ea ▸ ma, fun h => List.mem_map.mpr ⟨c, h, rfl⟩⟩
  rcases h with ⟨h, rfl⟩ | ⟨h, rfl⟩
  · rw [if_pos (e.mp h)]
  · have h : c ∉ dk [] (ys.map (crs pl)) := fun w => h (e.mpr w)
    rw [if_neg h]
    unfold pes
    rw [List.map_append]
    have en : partOf pl ys c = [] := partOf_nil.mpr fun w => by
      obtain ⟨u, mu, eu⟩ := ckeys_mem.mp w
      exact h (dk_mem.mpr (.inr (List.mem_map.mpr ⟨u, mu, eu⟩)))
    rw [List.map_cons, en]
    rfl
theorem pes_add (pl : Plans) (ys : List Deed) (u : Deed) (ks : List Crs) : addAt (kyC (crs pl u)) (dat (eD u)) (pes pl ks ys) = pes pl ks (ys ++ [u]) := by
  unfold addAt pes
  rw [List.map_map]
  refine List.map_congr_left fun c _ => ?_
  show (if kyC c = kyC (crs pl u) then (kyC c, (partOf pl ys c).map (fun t => dat (eD t)) ++ [dat (eD u)]) else (kyC c, (partOf pl ys c).map fun t => dat (eD t))) = (kyC c, (partOf pl (ys ++ [u]) c).map fun t => dat (eD t))
  have e : partOf pl (ys ++ [u]) c = partOf pl ys c ++ if crs pl u = c then [u] else [] := by
    unfold partOf
    rw [List.filter_append]
    congr 1
    by_cases h : crs pl u = c
    · rw [if_pos h, List.filter_cons_of_pos (by rw [decide_eq_true h]), List.filter_nil]
    · rw [if_neg h, List.filter_cons_of_neg (by rw [decide_eq_false h]; exact Bool.false_ne_true), List.filter_nil]
  rw [e]
  by_cases h : crs pl u = c
  · subst h
    rw [if_pos rfl, if_pos rfl, List.map_append]
    rfl
  · rw [if_neg fun w => h (kyC_inj _ _ w).symm, if_neg h, List.append_nil]
theorem dk_len : ∀ (cs acc : List Crs), (dk acc cs).length ≤ acc.length + cs.length
  | [], _ => Nat.le_refl _
  | c :: r, acc => by
    have h := dk_len r (if c ∈ acc then acc else acc ++ [c])
    have e : dk acc (c :: r) = dk (if c ∈ acc then acc else acc ++ [c]) r := rfl
    rw [e, List.length_cons]
    by_cases q : c ∈ acc
    · rw [if_pos q] at h ⊢; omega
    · rw [if_neg q] at h ⊢
      rw [List.length_append, List.length_singleton] at h
      omega
section
variable {P : Program} {w : World} {K : PySem.W.Frag} {mg : Str → Option Value} {base : Heap}
def pParts (K : PySem.W.Frag) : Pr (WIx × List Deed) := ⟨fun i => ThrOk i.1 i.2, fun i => [tWo K i.1, dat (eH i.2)], fun i => dat (eParts (parts i.1.2.2.2 i.2))⟩
theorem cb_parts_of (T : Txt K mg) : Cb CX0 P w K mg base 5 "parts_of" ["world", "threads"] (pParts K).sp := by
  refine cb_pr T.f_parts_of sc_parts_of bd_parts_of (fun _ => rfl) fun f cdv A outer s H E i z hr pz hp => ?_
  obtain ⟨wi, us⟩ := i
  obtain ⟨hw, hh, hf⟩ := hp
  have hw : wi.ok := hw
  have hh : HOk us := hh
  have hf : ∀ u ∈ us, Fits wi.2.2.1 wi.2.2.2 u := hf
  have hl6 := hh.len
  have hu := hu1 hr
  intro F G H σ sf g
  refine w_pss (pss_cons (ps_set (i := 2) nd_parts_of rfl (Or.inr rfl) pe_dnewT rfl (Or.inl rfl)) pss_w) fun D hD => ?_
  have n := Ext.newH (sa := z.sa) (o := .dT []) g.bg.le g.bg.st hD
  have z0 : z.H0 D = none := by
    cases hh : z.H0 D with
    | none => rfl
    | some u => exact absurd hD (g.bg.al D (ne_none hh))
  have dp : Deep .dT z G (upd H D (.dT [])) D [] (pes wi.2.2.2 (dk [] (([] : List Deed).map (crs wi.2.2.2))) []) := ⟨upd_same, rfl, ⟨g_none g.bg.le hD, z0, no_sa g.bg.st hD⟩, .nil, List.nodup_nil, List.nodup_nil⟩
  have g1 : Good z G (upd H D (.dT [])) (σ.set 2 (some (.ref D))) ((slots N_parts_of [some (tWo K wi), some (dat (eH us))]).set 2 (some (tRaw (.ref D)))) [] := ⟨g.bg.ext n, (g.rs.mono n.g).set rfl 2, trivial⟩
  refine for_deep (mk := .dT) (g := gName 3) (J := [3]) us (fun t => dat (eD t)) (fun ys => pes wi.2.2.2 (dk [] (ys.map (crs wi.2.2.2))) ys) _ PassesOwn.never rfl (ei_listA us (fun t => dat (eD t)) (eH_toL (ev_var 1))) (pg_name nd_parts_of rfl (Or.inl rfl)) (fun t => tr_name 3)
    (fun ys u zs G2 H2 σ2 kvs2 e g2 d2 => ?_) (fun G2 H2 σ2 kvs2 s2 g2 d2 => ?_) (fun _ => rfl) sf g1 dp
  · have mu : u ∈ us := by rw [e]; simp
    have fu := hf u mu
    have hy : ys.length < us.length := by rw [e, List.length_append, List.length_cons]; omega
    have hdl := dk_len (ys.map (crs wi.2.2.2)) []
    rw [List.length_map, List.length_nil] at hdl
    refine w_pss (pss_cons ps_w (pss_cons ps_w (pss_cons ps_w pss_nil))) ?_
    refine w1_set 4 nd_parts_of (ev_callD (P := pCross K) (wi, u) (cb_thread_crossing T) hr (by decide) ⟨fu.x, hh.all u mu, fu.lx⟩ (ea2 (ev_var 0) (ev_var 3))) g2 fun v G3 H3 x3 g3 => ?_
    have d3 := d2.ext x3
    refine deep_ensure (kk := kyC (crs wi.2.2.2 u)) (i := 2) hu rfl (ev_var 4) (ev_var 4) ?_ (g := g3) (d := d3) (q := fun G4 H4 kvs4 es4 g4 s4 he4 d4 => ?_)
    · unfold pes
      rw [List.length_map]
      omega
    · rw [pes_ensure _ _ _ he4] at d4
      refine deep_app (mk := .dT) (kk := kyC (crs wi.2.2.2 u)) (yt := dat (eC (crs wi.2.2.2 u))) (T := dat (eD u)) (i := 2) (Ts := (partOf wi.2.2.2 ys (crs wi.2.2.2 u)).map fun t => dat (eD t)) hu (get_t (kk := kyC (crs wi.2.2.2 u))) rfl (ev_var 4) (ev_var 3) (look_cK kyC_inj _ ?_) ?_ (g := g4) (d := d4) (q := fun G5 H5 g5 s5 d5 => ?_)
      · by_cases c : crs wi.2.2.2 u ∈ dk [] (ys.map (crs wi.2.2.2))
        · rw [if_pos c]; exact c
        · rw [if_neg c]; simp
      · rw [List.length_map]
        have := List.length_filter_le (fun x => decide (crs wi.2.2.2 x = crs wi.2.2.2 u)) ys
        unfold partOf
        omega
      · rw [pes_add] at d5
        refine ⟨G5, kvs4, g5.weak (by repeat (first | exact Wk.nil | apply Wk.cons | apply Wk.no)), x3.g.trans (s4.trans s5), ?_⟩
        rw [List.map_append, List.map_cons, List.map_nil, dk_snoc]
        exact d5
  · obtain ⟨G3, g3, s3, gD, en⟩ := d2.know g2
    obtain ⟨v0, ev, hv0⟩ := g2.rs.at_ 2 _ rfl
    have hv0 : v0 = .ref D := hv0
    subst hv0
    have g4 : Good z G3 H2 σ2 (((slots N_parts_of [some (tWo K wi), some (dat (eH us))]).set 2 (some (tRaw (.ref D)))).set 2 (some (tDT ((dk [] (us.map (crs wi.2.2.2))).map fun c => (kyC c, tL ((partOf wi.2.2.2 us c).map fun t => dat (eD t))))))) [] := ⟨g3.bg, g3.rs.put ev ⟨D, kvs2, rfl, gD, by
      have := en
      unfold pes at this
      rw [List.map_map] at this
      exact this⟩, trivial⟩
    refine (id ?_ : SWs _ z _ _ _ []) F G3 H2 σ2 (s2.trans s3) g4
    have hkl : (dk [] (us.map (crs wi.2.2.2))).length ≤ 60 := by
      have := dk_len (us.map (crs wi.2.2.2)) []
      rw [List.length_map, List.length_nil] at this
      omega
    refine sw_retT rfl (EvD.g (EvD.imp (ev_lc1 (ckeys wi.2.2.2 us) (fun c => dat (eC c)) (fun _ => true) (fun c => dat (ePart (c, partOf wi.2.2.2 us c))) 4 rfl nd_parts_of (ei_listA (ckeys wi.2.2.2 us) (fun c => dat (eC c)) (EvD.imp (ev_sortDT (ky := kyC) (bs := dk [] (us.map (crs wi.2.2.2))) rfl hr T.sorted_ ?_ ?_ ?_ ?_ (ev_var 2)) fun v G t => ?_)) (blkOk_by (N := N_parts_of) (sc := defScope s_parts_of) (by decide +kernel)) (fun _ _ _ _ _ => pg_name nd_parts_of rfl (Or.inl rfl)) (fun c m _ _ _ _ _ => et_nil)
      (fun c m _ _ _ _ _ _ => ev_tupD (ds := [eC c, eH (partOf wi.2.2.2 us c)]) (ea2 (ev_var 4) (EvD.imp (ev_dgetT (kk := kyC c) hu (look_cK (F := fun c => tL ((partOf wi.2.2.2 us c).map fun t => dat (eD t))) kyC_inj _ ?_) (ev_var 2) (ev_var 4)) fun v G t => eLf_of t)) (by show 2 ≤ 1000; decide)) ?_) fun v G t => ?_)) rfl
    · rw [List.map_map]
      rfl
    · exact PySem.W.AllAlike.of fun _ _ => by simp [kyC, keyD, PySem.W.alike, PySem.W.alikeAll]
    · exact fun b _ h => by cases h
    · intro b _
      show PyData.depth (.tuple [.int _, .str _]) ≤ 8
      simp [PyData.depth, PyData.depthAll]
    · rw [dataLe_leC] at t
      exact t
    · exact (sortC_perm _).mem_iff.mp m
    · unfold ckeys
      rw [(sortC_perm _).length_eq]
      omega
    · rw [map_all] at t
      show (dat (eParts (parts wi.2.2.2 us))).p v G
      unfold eParts parts
      rw [List.map_map]
      exact eLf_of (f := fun c => ePart (c, partOf wi.2.2.2 us c)) t
end
end K37
end
section
set_option maxRecDepth 100000
set_option maxHeartbeats 4000000
/-! W15: split_history, late_first, normal_form, histories_alike. -/
namespace K37
open PySem PySem.Spec PyProof.Rows L2
open Z
theorem thrOk {i : WIx} (hw : i.ok) {hs : List Deed} (hh : HOk hs) (hq : refused i.2.2.1 i.2.2.2 hs 0 = none) : ThrOk i (thr (cr0 i.2.2.2) hs) := by
  have hf : ∀ u ∈ thr (cr0 i.2.2.2) hs, Fits i.2.2.1 i.2.2.2 u := by
    rw [thr_th0 hq]
    exact th_fits (pre := []) rfl hq
  have hd : ∀ u ∈ thr (cr0 i.2.2.2) hs, u.2.2 ≤ 6 := by
    rw [thr_th0 hq]
    exact th_day fun t m => (hh.all t m).2.2
  exact ⟨hw, ⟨by rw [thr_len]; exact hh.len, fun u m => ⟨hw.ok.nm _ (hf u m).x, hw.ok.nm _ (hf u m).y, hd u m⟩⟩, hf⟩
def prts (i : WIx) (hs : List Deed) : List Part := parts i.2.2.2 (thr (cr0 i.2.2.2) hs)
theorem parts_mem {pl : Plans} {us : List Deed} {p : Part} (m : p ∈ parts pl us) : (∃ u ∈ us, crs pl u = p.1) ∧ p.2 = partOf pl us p.1 := by
  unfold parts at m
  obtain ⟨c, mc, rfl⟩ := List.mem_map.mp m
  exact ⟨ckeys_mem.mp mc, rfl⟩
structure PtOk (p : Part) : Prop where
  nm : nameB p.1.2 = true
  day : p.1.1 ≤ 6
  all : ∀ t ∈ p.2, DOk t
  len : p.2.length ≤ 60
theorem ThrOk.pt {i : WIx} {us : List Deed} (h : ThrOk i us) {p : Part} (m : p ∈ parts i.2.2.2 us) : PtOk p := by
  obtain ⟨⟨u, mu, eu⟩, e2⟩ := parts_mem m
  have f := h.fit u mu
  have sub : ∀ t ∈ p.2, t ∈ us := fun t mt => by rw [e2] at mt; exact (List.mem_filter.mp mt).1
  refine ⟨?_, ?_, fun t mt => h.h.all t (sub t mt), ?_⟩
  · rw [← eu]
    show nameB (i.2.2.2 u.1)[u.2.2]! = true
    exact (h.ok.ok.pl _ f.x).nm _ (nth_bang f.lx)
  · rw [← eu]
    exact (h.h.all u mu).2.2
  · rw [e2]
    exact Nat.le_trans (List.length_filter_le _ _) h.h.len
theorem parts_len {pl : Plans} {us : List Deed} : (parts pl us).length ≤ us.length := by
  unfold parts ckeys
  rw [List.length_map, (sortC_perm _).length_eq]
  have := dk_len (us.map (crs pl)) []
  rw [List.length_map, List.length_nil] at this
  omega
structure PsOk (ps : List Part) : Prop where
  len : ps.length ≤ 60
  all : ∀ p ∈ ps, PtOk p
theorem ThrOk.ps {i : WIx} {us : List Deed} (h : ThrOk i us) : PsOk (parts i.2.2.2 us) := ⟨Nat.le_trans parts_len h.h.len, fun p m => h.pt m⟩
theorem PsOk.ok {ps : List Part} (h : PsOk ps) : okD (eParts ps) 4 = true := ok_eParts fun p m => ⟨(h.all p m).nm, (h.all p m).all⟩
theorem eH_inj (a b : List Deed) (h : eH a = eH b) : a = b := by
  unfold eH at h
  injection h with h
  exact List.map_inj_right (f := eD) (fun {x y} => eD_inj x y) |>.mp h
theorem ePart_inj (a b : Part) (h : ePart a = ePart b) : a = b := by
  unfold ePart at h
  injection h with h
  injection h with h1 h
  injection h with h2 h
  exact Prod.ext (eC_inj _ _ h1) (eH_inj _ _ h2)
theorem eParts_inj (a b : List Part) (h : eParts a = eParts b) : a = b := by
  unfold eParts at h
  injection h with h
  exact List.map_inj_right (f := ePart) (fun {x y} => ePart_inj x y) |>.mp h
section
variable {P : Program} {w : World} {K : PySem.W.Frag} {mg : Str → Option Value} {base : Heap}
section
variable {X : Cx} {z : Zn} {δ : List (Option Z.Ty)} {Ω : Own} {e tg iter : Expr} {es : List Expr} {p pos : Pos} {D : Dn} {rest body : List Stmt} {k n : Nat} {ι : Type} {x : Str} {ps : List Str}
theorem ev_callNo {W : Z.Ty} {Ts : List Z.Ty} {P : Pr ι} (c : Cb CX0 X.prog X.w X.K X.mg X.base n x ps P.sp) (hr : Room k X.A) (hk : n ≤ k) (ha : EvA X z δ (e :: es) Ts) (no : ∀ G vs, Reps G vs Ts → False) (hg : Gl X x := by rfl)
    (hdb : (x == ("__debug__" : Str)) = false := by decide) (he : starEach (e :: es) X.env = (false, eval e X.env) :: starEach es X.env := by rfl) (hpl : (backTo pos (starEach es X.env)).any (·.1) = false := by rfl) :
    EvD X z δ (.Call (.Name x p) (e :: es) [] pos) W := fun G H σ bg rs Q q => by
  obtain ⟨f, fd, hm, hkp, F, hb⟩ := c.ex
  exact w_pe (pe_call F (hr.mono hk) hg hm hkp hb .nil pass0 pa_w hdb he hpl) (ha G H σ bg rs _ fun vs G1 H1 e1 r => (no _ _ r).elim)
theorem sw_forNo {g : TG} (hp : PassesOwn (model X.prog X.w) X.A X.env X.xe) (hc : X.calm = true) (ha : EvG X z δ Ω iter tNo) (pg : PG X tg g) (hs : ∀ x, foldedSetIterable iter X.env x = pure x := by intro _; rfl) : SWs X z (.For tg iter body [] pos :: rest) D δ Ω := fun F G H σ sf g0 =>
  w_pss (pss_cons (ps_for hp hc (pi_list pe_w) pg pss_w hs) pss_w) (ha G H σ g0 _ fun v G1 H1 x1 t => t.elim)
/-- no thing at all -/
def cNo : Cy := ⟨fun _ _ => False, fun _ h => h, fun h => h.elim⟩
theorem cNo_ty {v : V} {G : Hp} (h : (cNo.ty).p v G) : False := let ⟨_, _, _, _, c⟩ := h; c
end
def pSplit (K : PySem.W.Frag) : PrX (WIx × Hin) := ⟨fun i => i.1.ok ∧ i.2.pre, fun i => [tWo K i.1, i.2.ty], fun i => i.2.out i.1 "history" fun hs => dat (eParts (prts i.1 hs))⟩
theorem cb_split_history (T : Txt K mg) : Cb (L2.CX P w) P w K mg base 9 "split_history" ["world", "history"] ((pSplit K).sp K) := by
  refine cb_prX T.f_split_history sc_split_history bd_split_history (fun _ => rfl) fun f cdv A outer s H E i z hr pz hp hE => ?_
  obtain ⟨wi, hi⟩ := i
  have hp' : wi.ok ∧ hi.pre := hp
  cases hq : hi.out wi "history" (fun hs => cH (thr (cr0 wi.2.2.2) hs)) with
  | error er =>
    have hout : hi.out wi "history" (fun hs => dat (eParts (prts wi hs))) = .error er := by
      cases hi with
      | bad o => cases hq; rfl
      | good hs =>
        have hq : outW (refused wi.2.2.1 wi.2.2.2 hs 0) _ = _ := hq
        show outW (refused wi.2.2.1 wi.2.2.2 hs 0) _ = _
        cases c : refused wi.2.2.1 wi.2.2.2 hs 0 with
        | none => rw [c] at hq; cases hq
        | some iw => rw [c] at hq; cases hq; rfl
    refine sw_retNo (EvD.g (ev_callNo (P := pParts K) (cb_parts_of T) hr (by decide) (ea2 (T := tWo K wi) (U := cNo.ty) (ev_var 0) (EvG.d (EvF.g (ef_callX (P := pThreads K) (wi, hi) (L2.takes_of rfl rfl rfl rfl) pz.2 (cb_threads_of T) hr (by decide) hp' (ga_cons (EvD.g (ev_var 0)) (ga_cons (EvD.g (ev_var 1)) ga_nil)) (fun C' h => ?_) fun er' h => ?_)))) fun G vs r => ?_))
    · have h : hi.out wi "history" _ = _ := h
      rw [hq] at h
      cases h
    · have h : hi.out wi "history" _ = _ := h
      rw [hq] at h
      cases h
      exact hE er hout
    · obtain ⟨v, w, e, q1, q2⟩ := reps2 r
      exact cNo_ty q2
  | ok C =>
    cases hi with
    | bad o => cases hq
    | good hs =>
      have hq : outW (refused wi.2.2.1 wi.2.2.2 hs 0) _ = _ := hq
      cases c : refused wi.2.2.1 wi.2.2.2 hs 0 with
      | some iw => rw [c] at hq; cases hq
      | none =>
        rw [c] at hq
        cases hq
        have to := thrOk hp'.1 (hs := hs) hp'.2 c
        refine sw_retX rfl (EvD.g (ev_callD (P := pParts K) (wi, thr (cr0 wi.2.2.2) hs) (cb_parts_of T) hr (by decide) to (ea2 (ev_var 0) (EvD.imp (EvG.d (efL (ef_callX (P := pThreads K) (wi, .good hs) (L2.takes_of rfl rfl rfl rfl) pz.2 (cb_threads_of T) hr (by decide) hp' (ga_cons (EvD.g (ev_var 0)) (ga_cons (EvD.g (ev_var 1)) ga_nil)) (fun C' h => ?_) fun er' h => ?_))) fun v G t => eLf_of t)))) ?_
        · have h : outW (refused wi.2.2.1 wi.2.2.2 hs 0) _ = _ := h
          rw [c] at h
          cases h
          exact fun o G t => t
        · have h : outW (refused wi.2.2.1 wi.2.2.2 hs 0) _ = _ := h
          rw [c] at h
          cases h
        · show outW (refused wi.2.2.1 wi.2.2.2 hs 0) _ = _
          rw [c]
          rfl
def pLate : Pr (List Part) := ⟨fun i => PsOk i, fun i => [dat (eParts i)], fun i => dat (eParts (lateP i))⟩
theorem ds_ints (ps : List Part) : (ps.map fun p => (p.1.1 : Int)).mergeSort (fun a b => decide (b ≤ a)) = (dsOf ps).map fun d : Nat => (d : Int) := by
  unfold dsOf
  rw [List.map_mergeSort (s := fun a b : Int => decide (b ≤ a)) (fun a _ b _ => by simp), List.map_map]
  rfl
theorem ev_partT {X : Cx} {z : Zn} {δ : List (Option Z.Ty)} {e : Expr} {p : Part} (h : EvD X z δ e (dat (ePart p))) : EvD X z δ e (tT [dat (eC p.1), dat (eH p.2)]) := EvD.toT (ds := [eC p.1, eH p.2]) h
theorem at_eC0 {X : Cx} {z : Zn} {δ : List (Option Z.Ty)} {a : Expr} {p pos : Pos} {j} {c : Crs} (ha : EvD X z δ a (dat (eC c))) : EvD X z δ (.Subscript a (.Constant (.int 0) j p) pos) (dat (.int (c.1 : Int))) := ev_ixTd (ds := [.int (c.1 : Int), .str c.2]) rfl ha ev_int
theorem at_eP0 {X : Cx} {z : Zn} {δ : List (Option Z.Ty)} {a : Expr} {p pos : Pos} {j} {c : Part} (ha : EvD X z δ a (dat (ePart c))) : EvD X z δ (.Subscript a (.Constant (.int 0) j p) pos) (dat (eC c.1)) := ev_ixTd (ds := [eC c.1, eH c.2]) rfl ha ev_int
theorem fil_len (ps : List Part) (d : Nat) : (fil ps d).length ≤ ps.length := List.length_filter_le _ _
theorem cb_late_first (T : Txt K mg) : Cb CX0 P w K mg base 1 "late_first" ["parts"] pLate.sp := by
  refine cb_pr T.f_late_first sc_late_first bd_late_first (fun _ => rfl) fun f cdv A outer s H E ps z hr pz hp => ?_
  have hp : PsOk ps := hp
  have hl := hp.len
  have h6 : ∀ d ∈ dsOf ps, d ≤ 6 := fun d m => by
    obtain ⟨p, mp, e⟩ := dsOf_mem.mp m
    rw [← e]
    exact (hp.all p mp).day
  refine sw_set 1 nd_late_first (T := tL ((dsOf ps).map fun d : Nat => dat (.int (d : Int)))) (EvD.g (EvD.imp (ev_sortRev (ns := ps.map fun p => (p.1.1 : Int)) hr T.sorted_ (EvD.imp (ev_lc2 ps (fun p => dat (eC p.1)) (fun p => dat (eH p.2)) (fun _ => true) (fun p => dat (.int (p.1.1 : Int))) 5 6 rfl nd_late_first (ei_mono (ei_listA ps (fun p => dat (ePart p)) (mapL (ev_var 0))) fun _ _ _ _ t => dat_tuple.mp t) (blkOk_by (N := N_late_first) (sc := defScope s_late_first) (by decide +kernel))
    (fun _ _ _ _ _ => pg_tup rfl (pgs_cons (pg_name nd_late_first rfl (Or.inl rfl)) (pgs_cons (pg_name nd_late_first rfl (Or.inl rfl)) pgs_nil))) (fun p m _ _ _ _ _ => et_nil) (fun p m _ _ _ _ _ _ => at_eC0 (ev_var 5)) (by omega)) fun v G t => ?_) (hkw := pk_cons pe_bl pk_nil)) fun v G t => ?_)) ?_
  · rw [map_all] at t
    rw [List.map_map]
    exact t
  · rw [ds_ints, List.map_map] at t
    exact t
  refine sw_setO 2 nd_late_first ef_nil ?_
  refine sw_forS (S := Nat) (J := [3, 4]) (g := g2 K 3 4) (List.range (dsOf ps).length) (fun i => tT [dat (.int (i : Int)), dat (.int ((dsOf ps)[i]! : Int))]) (fun ys i => i = ys.length ∧ i ≤ (dsOf ps).length) (fun _ => slots N_late_first [some (dat (eParts ps)), some (tL ((dsOf ps).map fun d : Nat => dat (.int (d : Int)))), none]) (fun i => [(2, none, cL (((dk [] ((dsOf ps).take i)).flatMap (fil ps)).map fun p => dat (ePart p)))])
    (fun _ i => ((slots N_late_first [some (dat (eParts ps)), some (tL ((dsOf ps).map fun d : Nat => dat (.int (d : Int)))), none]).set 3 (some (dat (.int (i : Int))))).set 4 (some (dat (.int ((dsOf ps)[i]! : Int))))) PassesOwn.never rfl (ei_ix (ei_enumA (dsOf ps) (fun d : Nat => dat (.int (d : Int))) T.enumerate_ (ev_var 1))) (pg_tup rfl (pgs_cons (pg_name nd_late_first rfl (Or.inl rfl)) (pgs_cons (pg_name nd_late_first rfl (Or.inr rfl)) pgs_nil)))
    (fun _ i => tr_tup2 3 4) (fun _ q m => by rw [List.mem_singleton.mp m]; show (2 : Nat) ∉ [3, 4]; decide) ⟨0, ⟨rfl, Nat.zero_le _⟩, by repeat (first | exact Wk.nil | apply Wk.cons | apply Wk.no), rfl⟩ (fun ys i zs s e hs' => ?_) fun s hs' => ?_
  · obtain ⟨hi, hys⟩ := range_at e
    have hs1 : s = i := by rw [hs'.1, hys, List.length_range]
    subst hs1
    have st := late_step (ps := ps) (dsOf_pair ps) hi
    have fin : ∀ rows : List Part, rows = (dk [] ((dsOf ps).take (s + 1))).flatMap (fil ps) → ∃ s' : Nat, (s' = (ys ++ [s]).length ∧ s' ≤ (dsOf ps).length) ∧ [((2 : Nat), (none : Option Addr), cL (rows.map fun p => dat (ePart p)))] = [(2, none, cL (((dk [] ((dsOf ps).take s')).flatMap (fil ps)).map fun p => dat (ePart p)))] := fun rows er => ⟨s + 1, ⟨by rw [List.length_append, ← hs'.1]; rfl, hi⟩, by rw [er]⟩
    refine sw_when (P := fun b => b = (decide (s = 0) || !decide ((dsOf ps)[s - 1]! = (dsOf ps)[s]!))) (EvGB.drop (EvB.g (EvW.eb (ew_or (EvB.imp (eb_eqI (i := (s : Int)) (j := 0) (ev_var 3) ev_int) fun b h => ?_) fun h0 => ew_or1 (EvB.imp (eb_neI (ev_ixL (T := dat (.int ((dsOf ps)[s - 1]! : Int))) (i := ((s - 1 : Nat) : Int)) (at_map (f := fun d : Nat => dat (.int (d : Int))) (xs := dsOf ps) (at_nat (n := s - 1) (by omega))) (ev_var 1) (EvD.imp (ev_sub (ev_var 3) ev_int) fun v G t => ?_)) (ev_var 4)) fun b h => ?_))))) (fun h => ?_) fun h => ?_
    · rw [h]
      by_cases c : s = 0
      · rw [decide_eq_true c, decide_eq_true (by omega)]
      · rw [decide_eq_false c, decide_eq_false (by omega)]
    · have h0 := of_decide_eq_false h0
      rw [show (s : Int) - 1 = ((s - 1 : Nat) : Int) from by omega] at t
      exact t
    · rw [h]
      by_cases c : (dsOf ps)[s - 1]! = (dsOf ps)[s]!
      · rw [decide_eq_true c, decide_eq_true (by rw [c])]
      · rw [decide_eq_false c, decide_eq_false (by omega)]
    · have hc : s = 0 ∨ (dsOf ps)[s - 1]! ≠ (dsOf ps)[s]! := by
        rcases Bool.or_eq_true_iff.mp h.symm with h | h
        · exact .inl (of_decide_eq_true h)
        · refine .inr fun w => ?_
          rw [decide_eq_true w] at h
          cases h
      rw [if_pos hc] at st
      refine sw_ext (Us := (fil ps (dsOf ps)[s]!).map fun p => dat (ePart p)) (EvG.drop (EvD.g (ev_lc1 ps (fun p => dat (ePart p)) (fun p => decide (p.1.1 = (dsOf ps)[s]!)) (fun p => dat (ePart p)) 7 rfl nd_late_first (ei_listA ps (fun p => dat (ePart p)) (mapL (ev_var 0))) (blkOk_by (N := N_late_first) (sc := defScope s_late_first) (by decide +kernel)) (fun _ _ _ _ _ => pg_name nd_late_first rfl (Or.inl rfl))
        (fun p m _ _ _ _ _ => et_one (EvB.imp (eb_eqI (at_eC0 (at_eP0 (ev_var 7))) (ev_var 4)) fun b h => ?_)) (fun p m _ _ _ _ _ _ => ev_var 7) (by omega)))) ?_ ?_
      · rw [h]
        by_cases c : p.1.1 = (dsOf ps)[s]!
        · rw [decide_eq_true c, decide_eq_true (by rw [c])]
        · rw [decide_eq_false c, decide_eq_false (by omega)]
      · rw [List.length_map, List.length_map]
        have a := flat_len (f := fil ps) (b := 60) (xs := dk [] ((dsOf ps).take s)) fun d _ => Nat.le_trans (fil_len ps d) hl
        have b := dk_days (ds := (dsOf ps).take s) fun d m => h6 d (List.mem_of_mem_take m)
        have c := fil_len ps (dsOf ps)[s]!
        have d : (dk [] ((dsOf ps).take s)).length * 60 ≤ 7 * 60 := Nat.mul_le_mul_right _ b
        omega
      · obtain ⟨s', hs2, eo⟩ := fin _ st.symm
        refine sw_nil (sw_nil ⟨s', hs2, by repeat (first | exact Wk.nil | apply Wk.cons | apply Wk.no), ?_⟩)
        refine Eq.trans ?_ eo
        rw [List.map_append]
    · have hc : ¬ (s = 0 ∨ (dsOf ps)[s - 1]! ≠ (dsOf ps)[s]!) := by
        rintro (w | w)
        · rw [decide_eq_true w] at h
          cases h
        · rw [decide_eq_false w, Bool.not_false, Bool.or_true] at h
          cases h
      rw [if_neg hc, List.append_nil] at st
      obtain ⟨s', hs2, eo⟩ := fin _ st.symm
      exact sw_nil ⟨s', hs2, by repeat (first | exact Wk.nil | apply Wk.cons | apply Wk.no), eo⟩
  · obtain ⟨e1, _⟩ := hs'
    rw [List.length_range] at e1
    subst e1
    rw [List.take_length]
    refine sw_freeze ?_
    exact sw_retT rfl (EvD.g (EvD.imp (ev_var 2) fun v G h => eLf_of (cL_ty.mp h))) rfl
/-- the normal form of a history -/
def nform (i : WIx) (hs : List Deed) : List Deed := normal i.2.2.2 (thr (cr0 i.2.2.2) hs)
theorem nform_late {i : WIx} {hs : List Deed} (h : PsOk (prts i hs)) : (lateP (prts i hs)).flatMap (·.2) = nform i hs := late_normP fun p m => (h.all p m).day
theorem lateP_mem {ps : List Part} {p : Part} (m : p ∈ lateP ps) : p ∈ ps := by
  unfold lateP at m
  obtain ⟨d, _, m⟩ := List.mem_flatMap.mp m
  exact (List.mem_filter.mp m).1
def pNormal (K : PySem.W.Frag) : PrXF (WIx × Hin) := ⟨fun i => i.1.ok ∧ i.2.pre, fun i => [tWo K i.1, i.2.ty], fun i => i.2.out i.1 "history" fun hs => cH (nform i.1 hs)⟩
theorem nform_len {i : WIx} {hs : List Deed} (to : ThrOk i (thr (cr0 i.2.2.2) hs)) : (nform i hs).length = hs.length := by
  unfold nform
  rw [(normal_perm fun u m => (to.h.all u m).2.2).length_eq, thr_len]
theorem cb_normal_form (T : Txt K mg) : Cb (L2.CX P w) P w K mg base 10 "normal_form" ["world", "history"] ((pNormal K).sp K) := by
  refine cb_prXF T.f_normal_form sc_normal_form bd_normal_form (fun _ => rfl) fun f cdv A outer s H E i z hr pz hp hE => ?_
  obtain ⟨wi, hi⟩ := i
  have hp' : wi.ok ∧ hi.pre := hp
  refine sw_setO 2 nd_normal_form ef_nil ?_
  cases hq : hi.out wi "history" (fun hs => dat (eParts (prts wi hs))) with
  | error er =>
    have hout : hi.out wi "history" (fun hs => cH (nform wi hs)) = .error er := by
      cases hi with
      | bad o => cases hq; rfl
      | good hs =>
        have hq : outW (refused wi.2.2.1 wi.2.2.2 hs 0) _ = _ := hq
        show outW (refused wi.2.2.1 wi.2.2.2 hs 0) _ = _
        cases c : refused wi.2.2.1 wi.2.2.2 hs 0 with
        | none => rw [c] at hq; cases hq
        | some iw => rw [c] at hq; cases hq; rfl
    refine sw_forNo (g := g2 K 3 4) (L2.passes_of rfl) rfl (EvG.drop (EvD.g (ev_callNo (P := pLate) (cb_late_first T) hr (by decide) (ea1 (T := tNo) (ev_callXD (P := pSplit K) (wi, hi) (L2.takes_of rfl rfl rfl rfl) pz.2 (cb_split_history T) hr (by decide) hp' (ea2 (ev_var 0) (ev_var 1)) (fun T h => ?_) (fun er' h => ?_))) fun G vs r => ?_))) (pg_tup rfl (pgs_cons (pg_name nd_normal_form rfl (Or.inl rfl)) (pgs_cons (pg_name nd_normal_form rfl (Or.inl rfl)) pgs_nil)))
    · have h : hi.out wi "history" _ = _ := h
      rw [hq] at h
      cases h
    · have h : hi.out wi "history" _ = _ := h
      rw [hq] at h
      cases h
      exact hE er hout
    · obtain ⟨v, e, q⟩ := reps1 r
      exact q
  | ok C =>
    cases hi with
    | bad o => cases hq
    | good hs =>
      have hq : outW (refused wi.2.2.1 wi.2.2.2 hs 0) _ = _ := hq
      cases c : refused wi.2.2.1 wi.2.2.2 hs 0 with
      | some iw => rw [c] at hq; cases hq
      | none =>
        have hh : HOk hs := hp'.2
        have to := thrOk hp'.1 (hs := hs) hp'.2 c
        have hps : PsOk (prts wi hs) := to.ps
        have hnl := nform_len to
        refine sw_forS (S := List Deed) (J := [3, 4]) (g := g2 K 3 4) (lateP (prts wi hs)) (fun p => tT [dat (eC p.1), dat (eH p.2)]) (fun ys s => s = ys.flatMap (·.2)) (fun _ => slots N_normal_form [some (tWo K wi), some (dat (eH hs)), none]) (fun s => [(2, none, cH s)])
          (fun _ p => ((slots N_normal_form [some (tWo K wi), some (dat (eH hs)), none]).set 3 (some (dat (eC p.1)))).set 4 (some (dat (eH p.2)))) (L2.passes_of rfl) rfl (ei_mono (ei_listA (lateP (prts wi hs)) (fun p => dat (ePart p)) (mapL (EvD.imp (ev_callD (P := pLate) (prts wi hs) (cb_late_first T) hr (by decide) hps (ea1 (ev_callXD (P := pSplit K) (wi, .good hs) (L2.takes_of rfl rfl rfl rfl) pz.2 (cb_split_history T) hr (by decide) hp' (ea2 (ev_var 0) (ev_var 1)) (fun T h => ?_) (fun er' h => ?_)))) fun v G t => t))) fun _ _ _ _ t => dat_tuple.mp t)
          (pg_tup rfl (pgs_cons (pg_name nd_normal_form rfl (Or.inl rfl)) (pgs_cons (pg_name nd_normal_form rfl (Or.inl rfl)) pgs_nil))) (fun _ p => tr_tup2 3 4) (fun _ q m => by rw [List.mem_singleton.mp m]; show (2 : Nat) ∉ [3, 4]; decide) ⟨[], rfl, by repeat (first | exact Wk.nil | apply Wk.cons | apply Wk.no), rfl⟩ (fun ys p zs s e hs' => ?_) fun s hs' => ?_
        · have h : outW (refused wi.2.2.1 wi.2.2.2 hs 0) _ = _ := h
          rw [c] at h
          cases h
          exact fun v G t => t
        · have h : outW (refused wi.2.2.1 wi.2.2.2 hs 0) _ = _ := h
          rw [c] at h
          cases h
        · subst hs'
          have hb : (ys.flatMap (·.2)).length + p.2.length ≤ 60 := by
            have e2 := nform_late hps
            rw [e, List.flatMap_append, List.flatMap_cons] at e2
            have := congrArg List.length e2
            rw [List.length_append, List.length_append, hnl] at this
            have := hh.len
            omega
          refine sw_ext (Us := p.2.map fun t => dat (eD t)) (EvG.drop (EvD.g (eH_toL (ev_var 4)))) (by rw [List.length_map, List.length_map]; omega) ?_
          refine sw_nil ⟨(ys ++ [p]).flatMap (·.2), rfl, by repeat (first | exact Wk.nil | apply Wk.cons | apply Wk.no), ?_⟩
          show _ = [((2 : Nat), (none : Option Addr), cL (((ys ++ [p]).flatMap (·.2)).map fun t => dat (eD t)))]
          rw [List.flatMap_append, List.map_append]
          simp [cH]
        · subst hs'
          rw [nform_late hps]
          refine sw_retOX rfl ?_
          show outW (refused wi.2.2.1 wi.2.2.2 hs 0) _ = _
          rw [c]
          rfl
def outTwo (i : WIx) (a b : List Deed) : Except Er Z.Ty := match refused i.2.2.1 i.2.2.2 a 0 with
  | some (k, w) => .error (.step (k : Int) w.nm)
  | none => outW (refused i.2.2.1 i.2.2.2 b 0) (dat (.bool (decide (prts i a = prts i b))))
def pAlike (K : PySem.W.Frag) : PrX (WIx × List Deed × List Deed) := ⟨fun i => i.1.ok ∧ HOk i.2.1 ∧ HOk i.2.2, fun i => [tWo K i.1, dat (eH i.2.1), dat (eH i.2.2)], fun i => outTwo i.1 i.2.1 i.2.2⟩
theorem cb_histories_alike (T : Txt K mg) : Cb (L2.CX P w) P w K mg base 10 "histories_alike" ["world", "first", "second"] ((pAlike K).sp K) := by
  refine cb_prX T.f_histories_alike sc_histories_alike bd_histories_alike (fun _ => rfl) fun f cdv A outer s H E i z hr pz hp hE => ?_
  obtain ⟨wi, a, b⟩ := i
  obtain ⟨hw, ha, hb⟩ := hp
  have hw : wi.ok := hw
  have ha : HOk a := ha
  have hb : HOk b := hb
  refine sw_not (EvB.g (eb_notV (p := true) (eb_val (ev_histT T ha hr (by decide) (ev_var 1))))) ?_
  refine sw_not (EvB.g (eb_notV (p := true) (eb_val (ev_histT T hb hr (by decide) (ev_var 2))))) ?_
  cases ca : refused wi.2.2.1 wi.2.2.2 a 0 with
  | some iw =>
    refine sw_set 3 nd_histories_alike (T := tNo) (EvD.g (ev_callXD (P := pSplit K) (wi, .good a) (L2.takes_of rfl rfl rfl rfl) pz.2 (cb_split_history T) hr (by decide) ⟨hw, ha⟩ (ea2 (ev_var 0) (ev_var 1)) (fun T h => ?_) (fun er' h => ?_))) (fun F G H σ sf g => ?_)
    · have h : outW (refused wi.2.2.1 wi.2.2.2 a 0) _ = _ := h
      rw [ca] at h
      cases h
    · have h : outW (refused wi.2.2.1 wi.2.2.2 a 0) _ = _ := h
      rw [ca] at h
      refine hE er' ?_
      show outTwo wi a b = _
      unfold outTwo
      rw [ca]
      cases h
      rfl
    · obtain ⟨v, ev, q⟩ := g.rs.at_ 3 _ rfl
      exact q.elim
  | none =>
    have toa := thrOk hw ha ca
    refine sw_set 3 nd_histories_alike (T := dat (eParts (prts wi a))) (EvD.g (ev_callXD (P := pSplit K) (wi, .good a) (L2.takes_of rfl rfl rfl rfl) pz.2 (cb_split_history T) hr (by decide) ⟨hw, ha⟩ (ea2 (ev_var 0) (ev_var 1)) (fun T h => ?_) (fun er' h => ?_))) ?_
    · have h : outW (refused wi.2.2.1 wi.2.2.2 a 0) _ = _ := h
      rw [ca] at h
      cases h
      exact fun v G t => t
    · have h : outW (refused wi.2.2.1 wi.2.2.2 a 0) _ = _ := h
      rw [ca] at h
      cases h
    · cases cb : refused wi.2.2.1 wi.2.2.2 b 0 with
      | some iw =>
        refine sw_retNo (EvD.g (ev_cmp (U := tNo) (op_eqD (hu64 hr)) (fun x y G H l st t u Q q => False.elim u) (ev_var 3) (ev_callXD (W := tNo) (P := pSplit K) (wi, .good b) (L2.takes_of rfl rfl rfl rfl) pz.2 (cb_split_history T) hr (by decide) ⟨hw, hb⟩ (ea2 (ev_var 0) (ev_var 2)) (fun T h => ?_) (fun er' h => ?_))))
        · have h : outW (refused wi.2.2.1 wi.2.2.2 b 0) _ = _ := h
          rw [cb] at h
          cases h
        · have h : outW (refused wi.2.2.1 wi.2.2.2 b 0) _ = _ := h
          rw [cb] at h
          refine hE er' ?_
          show outTwo wi a b = _
          unfold outTwo
          rw [ca, cb]
          cases h
          rfl
      | none =>
        have tob := thrOk hw hb cb
        have oa : okD (eParts (prts wi a)) 4 = true := toa.ps.ok
        have ob : okD (eParts (prts wi b)) 4 = true := tob.ps.ok
        refine sw_retX rfl (EvD.g (ev_eq hr (okD_shaped oa (by decide)) (okD_shaped ob (by decide)) (ev_var 3) (ev_callXD (P := pSplit K) (wi, .good b) (L2.takes_of rfl rfl rfl rfl) pz.2 (cb_split_history T) hr (by decide) ⟨hw, hb⟩ (ea2 (ev_var 0) (ev_var 2)) (fun T h => ?_) (fun er' h => ?_)))) ?_
        · have h : outW (refused wi.2.2.1 wi.2.2.2 b 0) _ = _ := h
          rw [cb] at h
          cases h
          exact fun v G t => t
        · have h : outW (refused wi.2.2.1 wi.2.2.2 b 0) _ = _ := h
          rw [cb] at h
          cases h
        · show outTwo wi a b = _
          unfold outTwo
          rw [ca, cb]
          show Except.ok _ = Except.ok _
          rw [eqv_inj eParts_inj oa ob]
end
end K37
end
section
set_option maxRecDepth 100000
set_option maxHeartbeats 4000000
/-! W16: the law's store. -/
namespace Z
open PySem PySem.Spec PyProof.Rows L2
def cellT (cells : List Int) : Ty := tL (cells.map fun c => dat (.int c))
def stTs (cells : List Int) (i r k seed : Int) : List Ty := [cellT cells, dat (.int i), dat (.int r), dat (.int k), dat (.int seed)]
theorem sto_of {G H : Hp} {s : Addr} {o : HO} {cells : List Int} {i r k seed : Int} (hi : 0 ≤ i) (g : G s = none) (h : H s = some o) (c : (cL (stTs cells i r k seed)).p o G) : StO G H s := by
  obtain ⟨vs, rfl, q⟩ := c
  cases q with
  | @cons v0 _ v1 _ t0 q =>
  cases q with
  | @cons v1 _ v2 _ t1 q =>
  cases q with
  | @cons v2 _ v3 _ t2 q =>
  cases q with
  | @cons v3 _ v4 _ t3 q =>
  cases q with
  | @cons v4 _ v5 _ t4 q =>
  cases q
  obtain ⟨a, ws, rfl, e, w⟩ := t0
  have ew : ws = cells.map V.int := by
    clear h e
    induction cells generalizing ws with
    | nil => cases w; rfl
    | cons c r ih =>
      cases w with
      | cons a t => rw [Rp.int_of a, ih _ t]; rfl
  rw [ew] at e
  rw [Rp.int_of t1, Rp.int_of t2, Rp.int_of t3, Rp.int_of t4] at h
  exact ⟨g, a, cells, i, r, k, seed, e, h, hi⟩
theorem cell_reps {G : Hp} : ∀ cells : List Int, Reps G (cells.map V.int) (cells.map fun c => dat (.int c))
  | [] => .nil
  | c :: r => .cons (.int c) (cell_reps r)
theorem sto_to {G H : Hp} {s : Addr} (h : StO G H s) : ∃ (cells : List Int) (i r k seed : Int) (o : HO), 0 ≤ i ∧ G s = none ∧ H s = some o ∧ (cL (stTs cells i r k seed)).p o G := by
  obtain ⟨g, c, cells, i, r, k, seed, e, h, hi⟩ := h
  exact ⟨cells, i, r, k, seed, _, hi, g, h, _, rfl, .cons ⟨c, _, rfl, e, cell_reps cells⟩ (.cons (.int i) (.cons (.int r) (.cons (.int k) (.cons (.int seed) .nil))))⟩
def dSt (z : Zn) (st : Addr) (T : Ty) : Dn := { nx := fun _ _ => False, rt := fun v H' => ∃ G', Bg z G' H' ∧ T.p v G' ∧ StO G' H' st }
section
variable {P : Program} {w : World} {K : PySem.W.Frag} {mg : Str → Option Value} {base : Heap} {ι : Type} {N ps : List Str} {k : Nat} {x : Str} {pa : Arguments} {bd : List Stmt} {sc : Scope}
/-- it changes the store itself -/
theorem cb_prSO {P0 : Pr ι} (hD : Df K mg x pa bd sc) (S : FnScope N ps sc) (B : Bd x x pa bd sc ps) (len : ∀ i, (P0.args i).length + 1 = ps.length)
    (hb : ∀ (f : Addr) (cdv : Value) (A : Around) (outer : List Env) (s : Shared) (H : Hp) (E : XK) (i : ι) (z : Zn) (st : Addr) (cells : List Int) (iv r k2 seed : Int), 0 ≤ iv → Room k (A.deeper (envOfC x sc s.heap.objs.size f cdv)) → z.sa = none → P0.pre i →
      SWs ((cxOf CX0 P w K mg base N x sc f cdv A outer s H E).nox) z bd (dSt z st (P0.res i)) (slots N (none :: (P0.args i).map some)) [(0, some st, cL (stTs cells iv r k2 seed))]) :
    Cb CX0 P w K mg base (k + 1) x ps P0.spS := by
  obtain ⟨f, fd, hm, F⟩ := hD
  refine ⟨f, fd, hm, F.kp, ?_, F.bindsN B⟩
  refine F.ok S (fun vs H Q E h => ?_) fun cdv A outer s H vs Q E hr h => ⟨_, PSs.nox pss_w, ?_⟩
  · obtain ⟨i, G, st, ws, rfl, _, _, _, r, _⟩ := h
    rw [List.length_cons, Paired.length r, len]
  · obtain ⟨i, G, st, ws, rfl, hp, l, hst, r, q⟩ := h
    obtain ⟨cells, iv, r0, k2, seed, o, hiv, ga, ha, ca⟩ := sto_to hst
    have rs : RepS G (L2.start N (.ref st :: ws)) (slots N (none :: (P0.args i).map some)) := reps_start (by rw [List.length_cons, List.length_cons, List.length_map, Paired.length r]) fun j T e => by
      cases j with
      | zero => cases e
      | succ j =>
        simp only [List.getElem?_cons_succ, List.getElem?_map] at e
        cases q2 : (P0.args i)[j]? with
        | none => rw [q2] at e; cases e
        | some U =>
          rw [q2] at e
          cases e
          obtain ⟨v, e1, t⟩ := r.at_ q2
          exact ⟨v, by simpa using e1, t⟩
    have bg : Bg ⟨none, G, H, fun b => b = st, fun _ e => nomatch e⟩ G H := ⟨l, Same.refl _, fun _ _ _ e => e, fun _ n => n, fun _ n => n, fun _ _ n => n, trivial⟩
    refine low_out (hb f cdv A outer s H E i _ st cells iv r0 k2 seed hiv hr rfl hp G G H _ (Same.refl _) ⟨bg, rs, ⟨st, o, rfl, fun b e => by cases e; rfl, (fun m => nomatch m), ga, (fun e => nomatch e), ⟨(fun e => nomatch e), .inr rfl⟩, ha, ca, trivial⟩⟩) (fun σ' H' G' δ Ω g hn => hn.elim) (fun v H' hr => ?_) (fun _ _ z => z) (fun _ _ z => z)
    obtain ⟨G', b, t, so⟩ := hr
    exact q v G' H' ⟨b.g0, fun a u n e => b.h0 a u (fun w => n (congrArg some w.symm)) e, b.le, fun a n e => b.nw a n e, so⟩ t
end
section
variable {X : Cx} {z : Zn} {δ : List (Option Ty)} {Ω : Own} {a b e : Expr} {p pos : Pos} {T : Ty} {Ts : List Ty} {st : Addr} {rest : List Stmt} {D : Dn}
theorem sw_retSt {cells : List Int} {i r k seed : Int} (hi : 0 ≤ i) (hD : D.rt = (dSt z st T).rt) (he : EvG X z δ ((0, some st, cL (stTs cells i r k seed)) :: Ω) e T) : SWs X z (.Return (some e) pos :: rest) D δ ((0, some st, cL (stTs cells i r k seed)) :: Ω) := fun F G H σ sf g =>
  w_pss (pss_cons (u := tNever) (ps_ret pe_w) pss_never) (he G H σ g _ fun v G1 H1 x1 t => by
    have g1 := g.ext x1
    obtain ⟨a, o, _, pa, _, ga, _, _, ha, ca, _⟩ := g1.ow
    have e := pa st rfl
    subst e
    show D.rt v H1
    rw [hD]
    exact ⟨G1, g1.bg, t, sto_of hi ga ha ca⟩)
/-- a list's item at a place that is in it -/
theorem ev_ixE {n : Nat} (hn : n = Ts.length) (ha : EvD X z δ a (tL Ts)) (hb : EvD X z δ b (tEx (fun j : Nat => j < n) fun j => dat (.int (j : Int)))) (hs : PlainIx b := by exact fun _ _ => rfl) : EvD X z δ (.Subscript a b pos) (tEx (fun j : Nat => j < n) fun j => Ts.getD j tAny) :=
  ev_ix ix_list (R2T.ex2 fun j hj => R2T.to j hj (r2_ixL (by
    unfold atI ixN
    rw [if_pos (by omega), if_pos (by omega)]
    show Ts[(j : Int).toNat]? = _
    rw [Int.toNat_natCast, List.getD_eq_getElem?_getD, List.getElem?_eq_getElem (by omega)]
    rfl))) ha hb hs
end
end Z
namespace K37
open PySem PySem.Spec PyProof.Rows L2
open Z
def mix1 (c k : Int) : Int := (c * 48271 + k * 69621 + 1) % 2147483647
def mix2 (c k : Int) : Int := (mix1 c k * mix1 c k + k * 40692 + 7) % 2147483399
def mixZ (c k : Int) : Int := (mix2 c k * mix2 c k + mix1 c k) % 2147483629
/-- a whole number below -/
def tBelow (n : Nat) : Z.Ty := tEx (fun j : Nat => j < n) fun j => dat (.int (j : Int))
theorem tBelow_of {n : Nat} {v : V} {G : Hp} {x : Int} (hn : 0 < n) (h : (dat (.int (x % (n : Int)))).p v G) : (tBelow n).p v G := by
  have h1 := Int.emod_nonneg x (b := (n : Int)) (by omega)
  have h2 := Int.emod_lt_of_pos x (b := (n : Int)) (by omega)
  refine ⟨(x % (n : Int)).toNat, by omega, ?_⟩
  show (dat (.int (((x % (n : Int)).toNat : Nat) : Int))).p v G
  rw [Int.toNat_of_nonneg h1]
  exact h
section
variable {P : Program} {w : World} {K : PySem.W.Frag} {mg : Str → Option Value} {base : Heap}
def pMixed : Pr (Int × Int) := ⟨fun _ => True, fun i => [dat (.int i.1), dat (.int i.2)], fun i => dat (.int (mixZ i.1 i.2))⟩
theorem cb_L_mixed (T : Txt K mg) : Cb CX0 P w K mg base 1 "_law_mixed" ["_law_cell", "_law_k"] pMixed.sp := by
  refine cb_pr T.f_L_mixed sc_L_mixed bd_L_mixed (fun _ => rfl) fun f cdv A outer s H E i z hr pz hp => ?_
  obtain ⟨c, k⟩ := i
  show SWs _ z _ (dT z (dat (.int (mixZ c k)))) _ _
  have b1 : 0 ≤ mix1 c k ∧ mix1 c k < 2147483647 := ⟨Int.emod_nonneg _ (by decide), Int.emod_lt_of_pos _ (by decide)⟩
  have b2 : 0 ≤ mix2 c k ∧ mix2 c k < 2147483399 := ⟨Int.emod_nonneg _ (by decide), Int.emod_lt_of_pos _ (by decide)⟩
  refine sw_set 2 nd_L_mixed (T := dat (.int (mix1 c k))) (EvD.g (ev_mod (by decide) (ev_intI T.int_ (ev_add (ev_add (ev_mul (.inr ⟨by decide, by decide⟩) (ev_intI T.int_ (ev_var 0)) ev_int) (ev_mul (.inr ⟨by decide, by decide⟩) (ev_var 1) ev_int)) ev_int)) ev_int)) ?_
  refine sw_set 3 nd_L_mixed (T := dat (.int (mix2 c k))) (EvD.g (ev_mod (by decide) (ev_intI T.int_ (ev_add (ev_add (ev_mul (.inr ⟨by omega, by omega⟩) (ev_var 2) (ev_var 2)) (ev_mul (.inr ⟨by decide, by decide⟩) (ev_var 1) ev_int)) ev_int)) ev_int)) ?_
  exact sw_retT rfl (EvD.g (ev_mod (by decide) (ev_intI T.int_ (ev_add (ev_mul (i := mix2 c k) (j := mix2 c k) (.inr ⟨by omega, by omega⟩) (ev_var 3) (ev_var 3)) (ev_var 2))) ev_int)) rfl
def pTake : Pr Nat := ⟨fun n => n ≤ 1000, fun n => [dat (.int (n : Int))], fun n => tBelow (max 1 n)⟩
theorem cb_L_take (T : Txt K mg) : Cb CX0 P w K mg base 2 "_law_take" ["_law_store_here", "_law_many"] pTake.spS := by
  refine cb_prSO T.f_L_take sc_L_take bd_L_take (fun _ => rfl) fun f cdv A outer s H E n z st cells iv r k seed hiv hr hz hp => ?_
  have hn : n ≤ 1000 := hp
  have hm : (if (n : Int) > 1 then (n : Int) else 1) = ((max 1 n : Nat) : Int) := by split <;> omega
  have hpos : 0 < max 1 n := by omega
  have lst : ∀ {z' : Zn} {cells : List Int} {iv r k seed : Int} {δ : List (Option Z.Ty)} {X : Cx} {pos : Pos} (h : δ[0]? = some (some (cL (stTs cells iv r k seed)).ty)) (hN : X.N[0]? = some ("_law_store_here" : Str)) (hv : Vis X.env.scope ("_law_store_here" : Str)), EvD X z' δ (.Name ("_law_store_here" : Str) pos) (tL (stTs cells iv r k seed)) := fun h hN hv => EvD.imp (ev_var 0 h hN hv) fun v G t => cL_ty.mp t
  have key : ∀ (iv r : Int), 0 ≤ iv → SWs ((cxOf CX0 P w K mg base N_L_take "_law_take" (defScope s_L_take) f cdv A outer s H E).nox) z ((defBody s_L_take).drop 3) (dSt z st (tBelow (max 1 n))) (slots N_L_take [none, some (dat (.int (n : Int))), some (dat (.int ((max 1 n : Nat) : Int)))]) [(0, some st, cL (stTs cells iv r (k + 1) seed))] := fun iv r hiv => by
    refine sw_when (P := fun _ => True) (EvGB.view fun z' h1 h2 => EvB.imp (eb_eqI (ev_ixL rfl (lst rfl rfl (Or.inl rfl)) ev_int) ev_int) fun _ _ => trivial) (fun _ => ?_) fun _ => ?_
    · refine sw_retSt hiv rfl (EvG.imp (EvG.view (T := dat (.int (mixZ seed (k + 1) % ((max 1 n : Nat) : Int)))) (flat_dat rfl) fun z' h1 h2 => ev_mod (by omega) (ev_intI T.int_ (ev_callD (P := pMixed) (seed, k + 1) (cb_L_mixed T) hr (by decide) trivial (ea2 (ev_ixL rfl (lst rfl rfl (Or.inl rfl)) ev_int) (ev_ixL rfl (lst rfl rfl (Or.inl rfl)) ev_int)))) (ev_var 2)) fun v G t => tBelow_of hpos t)
    · refine sw_setE 4 nd_L_take (P := fun j : Nat => j < max 1 n) (R := fun j => dat (.int (j : Int))) (EvG.imp (EvG.view (T := dat (.int (r % ((max 1 n : Nat) : Int)))) (flat_dat rfl) fun z' h1 h2 => ev_mod (by omega) (ev_intI T.int_ (ev_ixL rfl (lst rfl rfl (Or.inl rfl)) ev_int)) (ev_var 2)) fun v G t => tBelow_of hpos t) fun j hj => ?_
      refine sw_lset (P := fun j => j = 2) (T := dat (.int (r / ((max 1 n : Nat) : Int)))) (EvG.view (flat_dat rfl) fun z' h1 h2 => ev_fdiv ⟨by omega, ?_⟩ (ev_intI T.int_ (ev_ixL rfl (lst rfl rfl (Or.inl rfl)) ev_int)) (ev_var 2)) (EvG.drop (EvD.g (EvD.imp ev_int fun v G t => ⟨2, rfl, t⟩))) (fun j2 hj2 => ⟨2, by rw [hj2]; rfl, ?_⟩)
      · have h10 : ((max 1 n : Nat) : Int).natAbs ≤ 1000 := by omega
        have := Nat.log2_lt (n := ((max 1 n : Nat) : Int).natAbs) (k := 10) (by omega)
        omega
      · show SWs _ z _ _ _ [(0, some st, cL (stTs cells iv (r / ((max 1 n : Nat) : Int)) (k + 1) seed))]
        exact sw_retSt hiv rfl (EvG.drop (EvD.g (EvD.imp (ev_var 4) fun v G t => ⟨j, hj, t⟩)))
  refine sw_set 2 nd_L_take (T := dat (.int ((max 1 n : Nat) : Int))) (EvG.drop (EvD.g (EvD.imp (ev_max2 rfl T.max_ ev_int (ev_var 1)) fun v G t => by rw [hm] at t; exact t))) ?_
  refine sw_lset (P := fun j => j = 3) (T := dat (.int (k + 1))) (EvG.view (flat_dat rfl) fun z' h1 h2 => ev_add (ev_ixL rfl (lst rfl rfl (Or.inl rfl)) ev_int) ev_int) (EvG.drop (EvD.g (EvD.imp ev_int fun v G t => ⟨3, rfl, t⟩))) (fun j hj => ⟨3, by rw [hj]; rfl, ?_⟩)
  show SWs _ z _ _ _ [(0, some st, cL (stTs cells iv r (k + 1) seed))]
  refine sw_when (P := fun b => b = true → r = 0 ∧ iv < (cells.length : Int)) (EvGB.view fun z' h1 h2 => EvB.imp (EvW.eb (ew_and (eb_eqI (ev_ixL rfl (lst rfl rfl (Or.inl rfl)) ev_int) ev_int) fun h => ew_and1 (eb_lt (ev_ixL rfl (lst rfl rfl (Or.inl rfl)) ev_int) (ev_lenL (Us := cells.map fun c => dat (.int c)) T.len_ (ev_ixL rfl (lst rfl rfl (Or.inl rfl)) ev_int))))) fun b h => ?_) (fun h => ?_) fun h => ?_
  · intro hb
    rw [hb] at h
    have h := Bool.and_eq_true_iff.mp h.symm
    refine ⟨of_decide_eq_true h.1, ?_⟩
    have := of_decide_eq_true h.2
    rw [List.length_map] at this
    exact this
  · obtain ⟨hr0, hlt⟩ := h rfl
    have hix : iv.toNat < cells.length := by omega
    refine sw_set 3 nd_L_take (T := dat (.int cells[iv.toNat]!)) (EvG.view (flat_dat rfl) fun z' h1 h2 => ev_intI T.int_ (ev_ixL (T := dat (.int cells[iv.toNat]!)) (Ts := cells.map fun c => dat (.int c)) (i := iv) ?_ (ev_ixL rfl (lst rfl rfl (Or.inl rfl)) ev_int) (ev_ixL rfl (lst rfl rfl (Or.inl rfl)) ev_int))) ?_
    · have e := at_map (f := fun c => dat (.int c)) (at_nat hix)
      rw [Int.toNat_of_nonneg hiv] at e
      exact e
    · refine sw_lset (P := fun j => j = 1) (T := dat (.int (iv + 1))) (EvG.view (flat_dat rfl) fun z' h1 h2 => ev_add (ev_ixL rfl (lst rfl rfl (Or.inl rfl)) ev_int) ev_int) (EvG.drop (EvD.g (EvD.imp ev_int fun v G t => ⟨1, rfl, t⟩))) (fun j hj => ⟨1, by rw [hj]; rfl, ?_⟩)
      show SWs _ z _ _ _ [(0, some st, cL (stTs cells (iv + 1) r (k + 1) seed))]
      refine sw_when (P := fun _ => True) (EvGB.drop (EvB.g (EvB.imp (eb_lt (ev_var 3) (ev_pow ⟨by decide, by decide, by decide⟩ ev_int ev_int)) fun _ _ => trivial))) (fun _ => ?_) fun _ => ?_
      · refine sw_retSt (by omega) rfl (EvG.imp (EvG.view (T := dat (.int (mixZ cells[iv.toNat]! (k + 1) % ((max 1 n : Nat) : Int)))) (flat_dat rfl) fun z' h1 h2 => ev_mod (by omega) (ev_intI T.int_ (ev_callD (P := pMixed) (cells[iv.toNat]!, k + 1) (cb_L_mixed T) hr (by decide) trivial (ea2 (ev_var 3) (ev_ixL rfl (lst rfl rfl (Or.inl rfl)) ev_int)))) (ev_var 2)) fun v G t => tBelow_of hpos t)
      · refine sw_lset (P := fun j => j = 2) (T := dat (.int cells[iv.toNat]!)) (EvG.drop (EvD.g (ev_var 3))) (EvG.drop (EvD.g (EvD.imp ev_int fun v G t => ⟨2, rfl, t⟩))) (fun j hj => ⟨2, by rw [hj]; rfl, ?_⟩)
        exact sw_nil (sw_weak (by repeat (first | exact Wk.nil | apply Wk.cons | apply Wk.no)) (key (iv + 1) cells[iv.toNat]! (by omega)))
  · exact key iv r hiv
end
end K37
end
section
set_option maxRecDepth 100000
set_option maxHeartbeats 4000000
/-! W17: store, pick, some, word. -/
namespace K37
open PySem PySem.Spec PyProof.Rows L2
open Z
section
variable {P : Program} {w : World} {K : PySem.W.Frag} {mg : Str → Option Value} {base : Heap}
section
variable {X : Cx} {z : Zn} {δ : List (Option Z.Ty)} {Ω : Own} {a b e : Expr} {p pos : Pos} {T : Z.Ty} {st : Addr} {k : Nat}
/-- a number taken from the store -/
theorem ev_take {n : Nat} (T : Txt X.K X.mg) (hz : z.sa = some st) (hr : Room k X.A) (hk : 2 ≤ k) (hn : n ≤ 1000) (h0 : 0 < n) (ha : EvD X z δ a (tRaw (.ref st))) (hb : EvD X z δ b (dat (.int (n : Int)))) (hg : Gl X "_law_take" := by rfl)
    (he : starEach [a, b] X.env = (false, eval a X.env) :: starEach [b] X.env := by rfl) (he2 : starEach [b] X.env = (false, eval b X.env) :: starEach [] X.env := by rfl) (hpl : (backTo pos (starEach [b] X.env)).any (·.1) = false := by rfl) : EvD X z δ (.Call (.Name "_law_take" p) [a, b] [] pos) (tBelow n) :=
  EvD.imp (ev_callSD (P := pTake) n hz (cb_L_take T) hr hk hn (ea2 ha hb he he2) hg (by decide) he hpl) fun v G t => by
    have e : max 1 n = n := by omega
    have t : (tBelow (max 1 n)).p v G := t
    rw [e] at t
    exact t
theorem ev_ixSE {x : Str} (hl : x.length ≤ 1000) {n : Nat} (hn : n = x.cps.toList.length) (ha : EvD X z δ a (dat (.str x))) (hb : EvD X z δ b (tBelow n)) (hs : PlainIx b := by exact fun _ _ => rfl) : EvD X z δ (.Subscript a b pos) (tEx (fun c : Nat => c ∈ x.cps.toList) fun c => dat (.str (chS c))) :=
  ev_ix ix_str (R2T.ex2 fun j hj => R2T.to (x.cps.toList[j]!) (nth_bang (by omega)) (r2_ixS hl (at_nat (by omega)))) ha hb hs
theorem ev_addSE {ι : Type} {Q : ι → Prop} {F : ι → Str} {x : Str} (h : ∀ c, Q c → x.length + (F c).length ≤ 1000) (ha : EvD X z δ a (dat (.str x))) (hb : EvD X z δ b (tEx Q fun c => dat (.str (F c)))) : EvD X z δ (.BinOp a .Add b pos) (tEx Q fun c => dat (.str (x ++ F c))) :=
  ev_op op_add_str (R2T.ex2 fun c hc => R2T.to c hc (R2T.val fun u v G H q l t w qq => ⟨x, F c, Rp.str_of t, Rp.str_of w, Nat.le_of_lt (small1000 (h c hc)), qq _ (.str _)⟩)) ha hb
end
section
variable {X : Cx} {z : Zn} {δ : List (Option Z.Ty)} {a c : Expr} {p pos : Pos} {ds : List PyData} {m : Nat}
theorem ev_headL (ha : EvD X z δ a (dat (.list ds))) (hc : EvD X z δ c (dat (.int (m : Int)))) : EvD X z δ (.Subscript a (.Slice none (some c) none p) pos) (dat (.list (ds.take m))) := by
  have h := ev_slL (p2 := p) (pos := pos) (EvD.toL ha) eo_none (eo_some hc)
  rw [cut_take, ← List.map_take] at h
  exact EvD.imp h fun v G t => dat_list.mpr t
theorem ev_tailL {i : Int} (hi : i = ((m : Nat) : Int)) (ha : EvD X z δ a (dat (.list ds))) (hc : EvD X z δ c (dat (.int i))) : EvD X z δ (.Subscript a (.Slice (some c) none none p) pos) (dat (.list (ds.drop m))) := by
  rw [hi] at hc
  have h := ev_slL (p2 := p) (pos := pos) (EvD.toL ha) (eo_some hc) eo_none
  rw [cut_drop, ← List.map_drop] at h
  exact EvD.imp h fun v G t => dat_list.mpr t
end
def seedZ (cells : List Int) (n : Int) : Int := cells.foldl (fun s c => mixZ (c + s) n) 0
def pStore : PrF (List Int) := ⟨fun c => c.length ≤ 1000, fun c => [cellT c], fun c => cL (stTs c 0 0 0 (seedZ c (c.length : Int)))⟩
theorem cb_L_store (T : Txt K mg) : Cb CX0 P w K mg base 2 "_law_store" ["_law_script"] pStore.sp := by
  refine cb_prF T.f_L_store sc_L_store bd_L_store (fun _ => rfl) fun f cdv A outer s H E cells z hr pz hp => ?_
  have hl : cells.length ≤ 1000 := hp
  refine sw_setLc1 cells (fun c => dat (.int c)) (fun _ => true) (fun c => dat (.int c)) 1 3 rfl nd_L_store (ei_listA cells (fun c => dat (.int c)) (ev_var 0)) (blkOk_by (N := N_L_store) (sc := defScope s_L_store) (by decide +kernel)) (fun _ _ _ _ _ => pg_name nd_L_store rfl (Or.inl rfl)) (fun c m _ _ _ _ _ => et_nil)
    (fun c m _ _ _ _ _ _ => ev_intI T.int_ (ev_var 3)) hl ?_
  rw [map_all]
  refine sw_set 2 nd_L_store (T := dat (.int 0)) (EvD.g ev_int) ?_
  refine sw_forS (S := Int) (J := [3]) (g := gName 3) cells (fun c => dat (.int c)) (fun ys s => s = seedZ ys (cells.length : Int)) (fun s => slots N_L_store [some (cellT cells), some (cellT cells), some (dat (.int s))]) (fun _ => []) (fun s c => (slots N_L_store [some (cellT cells), some (cellT cells), some (dat (.int s))]).set 3 (some (dat (.int c)))) PassesOwn.never rfl (ei_listA cells (fun c => dat (.int c)) (ev_var 1)) (pg_name nd_L_store rfl (Or.inl rfl))
    (fun s c => tr_name 3) (fun _ q m => nomatch m) ⟨0, rfl, by repeat (first | exact Wk.nil | apply Wk.cons | apply Wk.no), rfl⟩ (fun ys c zs s e hs => ?_) fun s hs => ?_
  · refine sw_set 2 nd_L_store (T := dat (.int (mixZ (c + s) (cells.length : Int)))) (EvD.g (ev_callD (P := pMixed) (c + s, (cells.length : Int)) (cb_L_mixed T) hr (by decide) trivial (ea2 (ev_add (ev_intI T.int_ (ev_var 3)) (ev_var 2)) (EvD.imp (ev_lenL (Us := cells.map fun c => dat (.int c)) T.len_ (ev_var 1)) fun v G t => by rw [List.length_map] at t; exact t)))) ?_
    refine sw_nil ⟨mixZ (c + s) (cells.length : Int), ?_, by repeat (first | exact Wk.nil | apply Wk.cons | apply Wk.no), rfl⟩
    rw [hs]
    unfold seedZ
    rw [List.foldl_append]
    rfl
  · rw [hs]
    exact sw_retFr rfl (ef_lst (ga_cons (EvD.g (ev_var 1)) (ga_cons (EvD.g ev_int) (ga_cons (EvD.g ev_int) (ga_cons (EvD.g ev_int) (ga_cons (EvD.g (ev_var 2)) ga_nil))))) (by show 5 ≤ 1000; decide)) rfl
def pPick : Pr (List Z.Ty) := ⟨fun Ts => 0 < Ts.length ∧ Ts.length ≤ 1000, fun Ts => [tL Ts], fun Ts => tEx (fun j : Nat => j < Ts.length) fun j => Ts.getD j tAny⟩
theorem cb_L_pick (T : Txt K mg) : Cb CX0 P w K mg base 3 "_law_pick" ["_law_store_here", "_law_row"] pPick.spS := by
  refine cb_prS T.f_L_pick sc_L_pick bd_L_pick (fun _ => rfl) fun f cdv A outer s H E Ts z st hr hz hB hp => ?_
  obtain ⟨h0, hl⟩ := hp
  have h0 : 0 < Ts.length := h0
  have hl : Ts.length ≤ 1000 := hl
  refine sw_not (EvB.g (EvB.imp (eb_eqI (ev_lenL (Us := Ts) T.len_ (ev_var 1)) ev_int) fun b h => ?_)) ?_
  · rw [h, decide_eq_false (by omega)]
  · exact sw_retT rfl (EvD.g (ev_ixE rfl (ev_var 1) (ev_take T hz hr (by decide) hl h0 (ev_var 0) (ev_lenL (Us := Ts) T.len_ (ev_var 1))))) rfl
/-- what is picked from a list of data -/
theorem ev_pick {α : Type} [Inhabited α] {X : Cx} {z : Zn} {δ : List (Option Z.Ty)} {a b : Expr} {p pos : Pos} {st : Addr} {k : Nat} (T : Txt X.K X.mg) (xs : List α) (F : α → Z.Ty) (hz : z.sa = some st) (hr : Room k X.A) (hk : 3 ≤ k) (h0 : 0 < xs.length) (hn : xs.length ≤ 1000) (ha : EvD X z δ a (tRaw (.ref st))) (hb : EvD X z δ b (tL (xs.map F))) (hg : Gl X "_law_pick" := by rfl)
    (he : starEach [a, b] X.env = (false, eval a X.env) :: starEach [b] X.env := by rfl) (he2 : starEach [b] X.env = (false, eval b X.env) :: starEach [] X.env := by rfl) (hpl : (backTo pos (starEach [b] X.env)).any (·.1) = false := by rfl) : EvD X z δ (.Call (.Name "_law_pick" p) [a, b] [] pos) (tEx (fun x => x ∈ xs) F) :=
  EvD.imp (ev_callSD (P := pPick) (xs.map F) hz (cb_L_pick T) hr hk ⟨by rw [List.length_map]; exact h0, by rw [List.length_map]; exact hn⟩ (ea2 ha hb he he2) hg (by decide) he hpl) fun v G ⟨j, hj, t⟩ => by
    rw [List.length_map] at hj
    refine ⟨xs[j]!, nth_bang hj, ?_⟩
    have e := map_getD (xs := xs) (F := F) hj
    have t : ((xs.map F).getD j tAny).p v G := t
    rw [e] at t
    exact t
/-- what _law_some draws from: a text or a list -/
inductive SomeIn where
  | txt (s : Str)
  | lst (ds : List PyData)
def SomeIn.items : SomeIn → List PyData
  | .txt s => s.cps.toList.map fun c => .str (chS c)
  | .lst ds => ds
def SomeIn.ty : SomeIn → Z.Ty
  | .txt s => dat (.str s)
  | .lst ds => dat (.list ds)
def pSome : Pr (SomeIn × Nat) := ⟨fun i => i.1.items.length ≤ 500 ∧ i.2 ≤ 500, fun i => [i.1.ty, dat (.int (i.2 : Int))], fun i => tEx (fun xs : List PyData => (∃ r, (xs ++ r).Perm i.1.items) ∧ xs.length = min i.2 i.1.items.length) fun xs => dat (.list xs)⟩
theorem perm_pick {xs l : List PyData} {items : List PyData} {j : Nat} (hj : j < l.length) (h : (xs ++ l).Perm items) : ((xs ++ [l[j]!]) ++ (l.take j ++ l.drop (j + 1))).Perm items := by
  refine List.Perm.trans ?_ h
  have e := split_at hj
  rw [List.append_assoc]
  refine List.Perm.append_left xs ?_
  conv => rhs; rw [e]
  exact (List.perm_middle (l₁ := l.take j) (l₂ := l.drop (j + 1))).symm
theorem ev_lenSI {X : Cx} {z : Zn} {δ : List (Option Z.Ty)} {a : Expr} {p pos : Pos} {si : SomeIn} (hl : si.items.length ≤ 500) (hm : X.mg "len" = none) (ha : EvD X z δ a si.ty) (hg : Gl X "len" := by rfl) (he : starEach [a] X.env = (false, eval a X.env) :: starEach [] X.env := by rfl) : EvD X z δ (.Call (.Name "len" p) [a] [] pos) (dat (.int (si.items.length : Int))) := by
  cases si with
  | txt s =>
    have e : s.length = (SomeIn.txt s).items.length := by
      show _ = (s.cps.toList.map fun c => PyData.str (chS c)).length
      rw [List.length_map, slen]
    have h := ev_lenS (p := p) (pos := pos) (y := s) (by omega) hm ha hg he
    rw [e] at h
    exact h
  | lst ds => exact ev_lenLd (ds := ds) hm ha hg he
theorem ev_listSI {X : Cx} {z : Zn} {δ : List (Option Z.Ty)} {a : Expr} {p pos : Pos} {si : SomeIn} (hc : X.calm = true) (hl : si.items.length ≤ 500) (hm : X.mg "list" = none) (ha : EvD X z δ a si.ty) (hg : Gl X "list" := by rfl) (he : starEach [a] X.env = (false, eval a X.env) :: starEach [] X.env := by rfl) : EvD X z δ (.Call (.Name "list" p) [a] [] pos) (dat (.list si.items)) := by
  cases si with
  | txt s =>
    have e : s.length = (SomeIn.txt s).items.length := by
      show _ = (s.cps.toList.map fun c => PyData.str (chS c)).length
      rw [List.length_map, slen]
    have h := ev_listS (p := p) (pos := pos) (y := s) hc (by omega) hm ha hg he
    exact EvD.imp h fun v G t => eLf_of (f := fun c => PyData.str (chS c)) t
  | lst ds => exact EvD.imp (ev_listL hm (EvD.toL ha) hg he) fun v G t => dat_list.mpr t
theorem cb_L_some (T : Txt K mg) : Cb CX0 P w K mg base 3 "_law_some" ["_law_store_here", "_law_row", "_law_many"] pSome.spS := by
  refine cb_prS T.f_L_some sc_L_some bd_L_some (fun _ => rfl) fun f cdv A outer s H E i z st hr hz hB hp => ?_
  obtain ⟨si, n⟩ := i
  obtain ⟨hl, hn⟩ := hp
  have hl : si.items.length ≤ 500 := hl
  have hn : n ≤ 500 := hn
  refine sw_set 3 nd_L_some (T := dat (.list si.items)) (EvD.g (ev_listSI rfl hl T.list_ (ev_var 1))) ?_
  refine sw_setO 4 nd_L_some ef_nil ?_
  refine sw_forS (S := List PyData × List PyData) (J := [5]) (g := gName 5) (List.range (min n si.items.length)) (fun j => dat (.int (j : Int))) (fun ys s => (s.2 ++ s.1).Perm si.items ∧ s.2.length = ys.length) (fun s => slots N_L_some [some (tRaw (.ref st)), some si.ty, some (dat (.int (n : Int))), some (dat (.list s.1)), none]) (fun s => [(4, none, cL (s.2.map fun d => dat d))])
    (fun s j => (slots N_L_some [some (tRaw (.ref st)), some si.ty, some (dat (.int (n : Int))), some (dat (.list s.1)), none]).set 5 (some (dat (.int (j : Int))))) PassesOwn.never rfl (ei_rangeA (m := ((min n si.items.length : Nat) : Int)) (min n si.items.length) (by omega) T.range_ (by omega) (EvD.imp (ev_min2 rfl T.min_ (ev_var 2) (ev_lenSI hl T.len_ (ev_var 1))) fun v G t => ?_)) (pg_name nd_L_some rfl (Or.inl rfl))
    (fun s j => tr_name 5) (fun s q m => by rw [List.mem_singleton.mp m]; show (4 : Nat) ∉ [5]; decide) ⟨(si.items, []), ⟨List.Perm.refl _, rfl⟩, by repeat (first | exact Wk.nil | apply Wk.cons | apply Wk.no), rfl⟩ (fun ys j zs s e hs => ?_) fun s hs => ?_
  · have e : (if (si.items.length : Int) < (n : Int) then (si.items.length : Int) else (n : Int)) = ((min n si.items.length : Nat) : Int) := by split <;> omega
    have t : (dat (.int (if (si.items.length : Int) < (n : Int) then (si.items.length : Int) else (n : Int)))).p v G := t
    rw [e] at t
    exact t
  · obtain ⟨left, found⟩ := s
    obtain ⟨hp1, hl1⟩ := hs
    have hp1 : (found ++ left).Perm si.items := hp1
    have hl1 : found.length = ys.length := hl1
    obtain ⟨hj, hys⟩ := range_at e
    have hyl : ys.length = j := by rw [hys, List.length_range]
    have hll : found.length + left.length = si.items.length := by rw [← List.length_append]; exact hp1.length_eq
    have h0 : 0 < left.length := by omega
    refine sw_setE 6 nd_L_some (P := fun j : Nat => j < left.length) (R := fun j => dat (.int (j : Int))) (EvG.drop (EvD.g (ev_take T hz hr (by decide) (by omega) h0 (ev_var 0) (ev_lenLd T.len_ (ev_var 3))))) fun m hm => ?_
    refine sw_app (T := dat left[m]!) (EvG.drop (EvD.g (ev_ixLd (at_nat hm) (ev_var 3) (ev_var 6)))) (by rw [List.length_map]; omega) ?_
    refine sw_set 3 nd_L_some (T := dat (.list (left.take m ++ left.drop (m + 1)))) (EvG.drop (EvD.g ?_)) ?_
    · exact ev_catLd (by rw [List.length_take, List.length_drop]; omega) (ev_headL (ev_var 3) (ev_var 6)) (ev_tailL (m := m + 1) (i := (m : Int) + 1) (by omega) (ev_var 3) (ev_add (ev_var 6) ev_int))
    · refine sw_nil ⟨(left.take m ++ left.drop (m + 1), found ++ [left[m]!]), ⟨perm_pick hm hp1, ?_⟩, by repeat (first | exact Wk.nil | apply Wk.cons | apply Wk.no), ?_⟩
      · show (found ++ [left[m]!]).length = _
        rw [List.length_append, List.length_append, hl1]
        rfl
      · show _ = [((4 : Nat), (none : Option Addr), cL ((found ++ [left[m]!]).map fun d => dat d))]
        rw [List.map_append]
        rfl
  · obtain ⟨left, found⟩ := s
    obtain ⟨hp1, hl1⟩ := hs
    have hl1 : found.length = _ := hl1
    rw [List.length_range] at hl1
    refine sw_freeze ?_
    exact sw_retT (U := pSome.res (si, n)) rfl (EvD.g (EvD.imp (ev_var 4) fun v G h => ⟨found, ⟨⟨left, hp1⟩, hl1⟩, dat_list.mpr (cL_ty.mp h)⟩)) rfl
/-! ### words -/
/-- a word of n signs on its way -/
structure Wd (x : Str) (n : Nat) : Prop where
  len : x.cps.toList.length = n
  hd : x.cps.toList[0]! ∈ LETd
  all : ∀ c ∈ x.cps.toList, c ∈ LADd
theorem Wd.nm {x : Str} {n : Nat} (h : Wd x n) (h1 : 1 ≤ n) (h8 : n ≤ 8) : nameB x = true := by
  unfold nameB
  rw [← slen, h.len, decide_eq_true h1, decide_eq_true h8, decide_eq_true h.hd]
  exact List.all_eq_true.mpr fun c m => decide_eq_true (h.all c m)
theorem LET_LAD : ∀ c ∈ LETd, c ∈ LADd := by decide +kernel
theorem Wd.one {c : Nat} (h : c ∈ LETd) : Wd (chS c) 1 := ⟨rfl, h, fun d m => by
  have m : d ∈ [c] := m
  rw [List.mem_singleton.mp m]
  exact LET_LAD c h⟩
theorem app_cps (x y : Str) : (x ++ y).cps.toList = x.cps.toList ++ y.cps.toList := Array.toList_append
theorem Wd.snoc {x : Str} {n : Nat} (h : Wd x n) (h1 : 1 ≤ n) {c : Nat} (hc : c ∈ LADd) : Wd (x ++ chS c) (n + 1) := by
  have e : (x ++ chS c).cps.toList = x.cps.toList ++ [c] := app_cps x (chS c)
  refine ⟨by rw [e, List.length_append, h.len]; rfl, ?_, fun d m => ?_⟩
  · rw [e, bang_app_l (by rw [h.len]; exact h1)]
    exact h.hd
  · rw [e] at m
    rcases List.mem_append.mp m with m | m
    · exact h.all d m
    · rw [List.mem_singleton.mp m]
      exact hc
def pWord : Pr Unit := ⟨fun _ => True, fun _ => [dat (.int 8)], fun _ => tEx (fun x : Str => Wd x 8) fun x => dat (.str x)⟩
theorem cb_L_word (T : Txt K mg) : Cb CX0 P w K mg base 3 "_law_word" ["_law_store_here", "_law_size"] pWord.spS := by
  refine cb_prS T.f_L_word sc_L_word bd_L_word (fun _ => rfl) fun f cdv A outer s H E i z st hr hz hB hp => ?_
  refine sw_set 2 nd_L_word (T := dat (.str "abcdefghijklmnopqrstuvwxyz")) (EvD.g ev_str) ?_
  refine sw_set 3 nd_L_word (T := dat (.str "abcdefghijklmnopqrstuvwxyz0123456789")) (EvD.g (ev_addS (x := "abcdefghijklmnopqrstuvwxyz") (y := "0123456789") (by decide +kernel) (ev_var 2) ev_str)) ?_
  refine sw_setE 4 nd_L_word (P := fun c : Nat => c ∈ ("abcdefghijklmnopqrstuvwxyz" : Str).cps.toList) (R := fun c => dat (.str (chS c))) (EvD.g (ev_ixSE (n := 26) (by decide +kernel) (by decide +kernel) (ev_var 2) (ev_take (n := 26) T hz hr (by decide) (by decide) (by decide) (ev_var 0) ev_int))) fun c hc => ?_
  refine sw_forS (S := Str) (J := [5]) (g := gName 5) (List.range 7) (fun j => dat (.int (j : Int))) (fun ys x => Wd x (1 + ys.length)) (fun x => slots N_L_word [some (tRaw (.ref st)), some (dat (.int 8)), some (dat (.str "abcdefghijklmnopqrstuvwxyz")), some (dat (.str "abcdefghijklmnopqrstuvwxyz0123456789")), some (dat (.str x))]) (fun _ => [])
    (fun x j => (slots N_L_word [some (tRaw (.ref st)), some (dat (.int 8)), some (dat (.str "abcdefghijklmnopqrstuvwxyz")), some (dat (.str "abcdefghijklmnopqrstuvwxyz0123456789")), some (dat (.str x))]).set 5 (some (dat (.int (j : Int))))) PassesOwn.never rfl (ei_rangeA (m := 7) 7 rfl T.range_ (by decide) (ev_min2 (i := 7) (j := 8 - 1) rfl T.min_ ev_int (ev_sub (ev_var 1) ev_int))) (pg_name nd_L_word rfl (Or.inl rfl))
    (fun x j => tr_name 5) (fun _ q m => nomatch m) ⟨chS c, Wd.one hc, by repeat (first | exact Wk.nil | apply Wk.cons | apply Wk.no), rfl⟩ (fun ys j zs x e hx => ?_) fun x hx => ?_
  · have hx : Wd x (1 + ys.length) := hx
    obtain ⟨hj, hys⟩ := range_at e
    have hyl : ys.length = j := by rw [hys, List.length_range]
    refine sw_setE 4 nd_L_word (P := fun c : Nat => c ∈ ("abcdefghijklmnopqrstuvwxyz0123456789" : Str).cps.toList) (R := fun c => dat (.str (x ++ chS c))) (EvD.g (ev_addSE (fun c _ => ?_) (ev_var 4) (ev_ixSE (n := 36) (by decide +kernel) (by decide +kernel) (ev_var 3) (ev_take (n := 36) T hz hr (by decide) (by decide) (by decide) (ev_var 0) ev_int)))) fun c hc => ?_
    · rw [← slen, ← slen, hx.len]
      show 1 + ys.length + 1 ≤ 1000
      omega
    · refine sw_nil ⟨x ++ chS c, ?_, by repeat (first | exact Wk.nil | apply Wk.cons | apply Wk.no), rfl⟩
      have := hx.snoc (by omega) hc
      rw [List.length_append]
      exact this
  · have hx : Wd x (1 + 7) := hx
    exact sw_retT (U := pWord.res i) rfl (EvD.g (EvD.imp (ev_var 4) fun v G t => ⟨x, hx, t⟩)) rfl
end
end K37
end
section
set_option maxRecDepth 100000
set_option maxHeartbeats 4000000
/-! W18: words. -/
namespace Z
open PySem PySem.Spec PyProof.Rows L2
section
variable {X : Cx} {z : Zn} {δ δ' : List (Option Ty)} {Ω : Own} {a b c e tg iter : Expr} {p p' pos cpos apos : Pos} {T U : Ty} {Ts : List Ty} {i n : Nat} {al : Option Addr} {D : Dn} {rest body : List Stmt} {x : Str} {ι α S : Type} {P : ι → Prop}
theorem sw_appE {R : ι → Ty} (he : EvG X z δ ((i, al, cL Ts) :: Ω) e (tEx P R)) (hl : Ts.length < 1000) (k : ∀ y, P y → SWs X z rest D δ ((i, al, cL (Ts ++ [R y])) :: Ω)) (hN : X.N[i]? = some x := by rfl) (hv : Vis X.env.scope x := by first | exact Or.inl rfl | exact Or.inr (Or.inl rfl) | exact Or.inr (Or.inr rfl))
    (hd : (x == ("__debug__" : Str)) = false := by decide) (hcd : (x == ("__classdict__" : Str)) = false := by decide)
    (hbase : attributeBase (.Name x p') "append" X.env (eval (.Name x p') X.env) = eval (.Name x p') X.env := by rfl)
    (hfew : ((backTo cpos (starEach [e] X.env)).all (fun x => !x.1) && (backToKw cpos (keywordEach [] X.env)).all (fun x => x.1.isSome) && decide ([e].length + ([] : List Keyword).length + (if ([] : List Keyword).isEmpty then 0 else 1) < 30)) = true := by rfl)
    (hline : (apos.endLine == cpos.line) = true := by rfl) (hs : starEach [e] X.env = (false, eval e X.env) :: starEach [] X.env := by rfl) (hpl : (backTo cpos (starEach [] X.env)).any (·.1) = false := by rfl)
    (hsw : swapsWith (.Call (.Attribute (.Name x p') "append" apos) [e] [] cpos) none pos.line X.env = pure false := by rfl) :
    SWs X z (.Expr (.Call (.Attribute (.Name x p') "append" apos) [e] [] cpos) pos :: rest) D δ ((i, al, cL Ts) :: Ω) := fun F G H σ sf g => by
  obtain ⟨a, o, es, ha, ⟨vs, rfl, r⟩, _⟩ := g.write
  refine w_pss (pss_cons (ps_expr (pe_bm PySem.F.plainAttrs_list PySem.F.slot_list_append PySem.F.type_list_append mt_append (pe_var hN hv hd hcd) (pa_cons pe_w pa_nil hs) hbase hfew hline hs hpl) hsw) pss_w) ?_
  refine ⟨.ref a, es, .inl ⟨rfl, _, SqL.of ha⟩, he G H σ g _ fun v G1 H1 x1 t => ?_⟩
  obtain ⟨y, hy, t⟩ := t
  have g1 := g.ext x1
  obtain ⟨a', o', es', ha', ⟨vs', rfl, r'⟩, ga, ns, b, pa, wr⟩ := g1.write
  rw [es] at es'
  cases es'
  refine ⟨a, vs', v, rfl, rfl, ha', ?_, ?_⟩
  · rw [Paired.length r']
    exact small1000 (Nat.le_of_lt hl)
  · exact k y hy F G1 _ σ (sf.trans x1.g) (wr (.lst (vs' ++ [v])) (cL (Ts ++ [R y])) ⟨_, rfl, r'.append (.cons t .nil)⟩)
/-- what is walked is one of many -/
def EvIX (X : Cx) (z : Zn) (δ : List (Option Ty)) (tg it : Expr) (P : ι → Prop) (n : ι → Nat) (T : ι → Nat → Ty) : Prop := ∃ wi, PI X tg it wi ∧ ∀ (G H : Hp) (σ : L2.St), Bg z G H → RepS G σ δ → ∀ R : It → Hp → Prop,
  (∀ y, P y → ∀ J G' H' (N : Hp → Prop) (Y : Nat → Hp → V → Hp → Prop), Ext z.sa G H G' H' → Walk J (n y) N Y → (∀ G2 H2, Same G' G2 → Le G2 H2 → N H2) →
    (∀ i G2 H2 v H3, i < n y → Same G' G2 → Le G2 H2 → StI z.sa G2 H2 → Y i H2 v H3 → ∃ G3, Ext z.sa G2 H2 G3 H3 ∧ (T y i).p v G3) → R J H') → wi σ H R
theorem eix_list [Inhabited α] {xs : ι → List α} {F : α → Ty} (ha : EvD X z δ iter (tEx P fun y => tL ((xs y).map F))) : EvIX X z δ tg iter P (fun y => (xs y).length) fun y i => F (xs y)[i]! := ⟨_, pi_list pe_w, fun G H σ bg rs R q => ha G H σ bg rs _ fun v G1 H1 e1 t => by
  obtain ⟨y, hy, d, vs, rfl, ed, r⟩ := t
  have hl := Paired.length r
  rw [List.length_map] at hl
  refine ⟨d, rfl, ⟨vs, SqL.of (e1.le.at_ ed rfl)⟩, q y hy (Itl X.K d) G1 H1 _ _ e1 (hl ▸ walk_list (K := X.K) (a := d) (xs := vs)) (fun G2 H2 s l => SqL.of (l.at_ (s _ _ ed) rfl)) fun i G2 H2 v H3 hi s l st yy => ?_⟩
  obtain ⟨rfl, hv⟩ := yy
  refine ⟨G2, Ext.rfl' l st, ?_⟩
  obtain ⟨w, hw, tw⟩ := r.at_ (i := i) (T := F (xs y)[i]!) (by rw [List.getElem?_map, List.getElem?_eq_getElem hi, getElem!_pos (xs y) i hi]; rfl)
  rw [hv] at hw
  cases hw
  exact (F (xs y)[i]!).mono s tw⟩
theorem sw_forX {n : ι → Nat} {Tt : ι → Nat → Ty} {g : TG} (Q : ι → Nat → List (Option Ty) → Own → Prop) (hp : PassesOwn (model X.prog X.w) X.A X.env X.xe) (hc : X.calm = true) (hi : EvIX X z δ tg iter P n Tt) (pg : PG X tg g) (h0 : ∀ y, P y → Q y 0 δ Ω)
    (step : ∀ y, P y → ∀ i δ1 Ω1, i < n y → Q y i δ1 Ω1 → ∃ δ2 J, TgO g (Tt y i) δ1 δ2 J ∧ (∀ q ∈ Ω1, q.1 ∉ J) ∧ SWs X z body ⟨Q y (i + 1), D.rt, fun δ' Ω' => SWs X z rest D δ' Ω', Q y (i + 1)⟩ δ2 Ω1) (done : ∀ y, P y → ∀ δ1 Ω1, Q y (n y) δ1 Ω1 → SWs X z rest D δ1 Ω1)
    (hs : ∀ x, foldedSetIterable iter X.env x = pure x := by intro _; rfl) : SWs X z (.For tg iter body [] pos :: rest) D δ Ω := fun F G H σ sf g0 => by
  obtain ⟨wi, hpi, hwi⟩ := hi
  refine w_pss (pss_cons (ps_for hp hc hpi pg pss_w hs) pss_w) ?_
  refine hwi G H σ g0.bg g0.rs _ fun y hy J G1 H1 N Y e1 wk hN1 hY => ?_
  refine for_it wk (fun i σ' H' => ∃ G' δ' Ω', Good z G' H' σ' δ' Ω' ∧ Same G1 G' ∧ Q y i δ' Ω') ⟨G1, δ, Ω, g0.ext e1, Same.refl _, h0 y hy⟩ (fun i σ' H' _ ⟨G', _, _, g', s', _⟩ => hN1 G' H' s' g'.bg.le) (fun i v σ2 H2 H3 hin ⟨G', δ', Ω', g', s', hP⟩ hyy => ?_) fun σ2 H2 ⟨G', δ', Ω', g', s', hP⟩ => ?_
  · obtain ⟨G3, x3, tv⟩ := hY i G' H2 v H3 hin s' g'.bg.le g'.bg.st hyy
    obtain ⟨δ2, J2, tr, ho, bd⟩ := step y hy i δ' Ω' hin hP
    refine tr.to G3 H3 σ2 v x3.le (g'.rs.mono x3.g) tv _ fun σ3 r3 w3 => ?_
    have g3 : Good z G3 H3 σ3 δ2 Ω' := ⟨g'.bg.ext x3, r3, (g'.ow.ext x3).slot fun q m => w3 q.1 (ho q m)⟩
    intro pins s I
    refine wpAny_mono (bd G1 G3 H3 σ3 (s'.trans x3.g) g3 pins s I) (fun f s' q => ?_) fun _ _ q => q
    cases f with
    | next => exact q
    | cont => exact q
    | brk =>
      obtain ⟨σ', H', I', G4, δ4, Ω4, a, b, c⟩ := q
      exact ⟨σ', H', I', c F G4 H' σ' (sf.trans (e1.g.trans b)) a⟩
    | ret v => exact q
  · exact done y hy δ' Ω' hP F G' H2 σ2 (sf.trans (e1.g.trans s')) g'
theorem sw_forSX [Inhabited α] {g : TG} {J : List Nat} (xs : ι → List α) (F : α → Ty) (I : ι → List α → S → Prop) (δs : S → List (Option Ty)) (Ωs : S → Own) (δt : S → α → List (Option Ty)) (hp : PassesOwn (model X.prog X.w) X.A X.env X.xe) (hc : X.calm = true) (hi : EvIX X z δ tg iter P (fun y => (xs y).length) fun y i => F (xs y)[i]!) (pg : PG X tg g)
    (tr : ∀ s x, TgO g (F x) (δs s) (δt s x) J) (hJ : ∀ s, ∀ q ∈ Ωs s, q.1 ∉ J) (h0 : ∀ y, P y → ∃ s, I y [] s ∧ Wk δ (δs s) ∧ Ω = Ωs s)
    (step : ∀ y, P y → ∀ ys x zs s, xs y = ys ++ x :: zs → I y ys s → SWs X z body (stD D (I y (ys ++ [x])) δs Ωs fun δ' Ω' => SWs X z rest D δ' Ω') (δt s x) (Ωs s)) (done : ∀ y, P y → ∀ s, I y (xs y) s → SWs X z rest D (δs s) (Ωs s))
    (hs : ∀ x, foldedSetIterable iter X.env x = pure x := by intro _; rfl) : SWs X z (.For tg iter body [] pos :: rest) D δ Ω :=
  sw_forX (fun y i δ Ω => ∃ s, I y ((xs y).take i) s ∧ Wk δ (δs s) ∧ Ω = Ωs s) hp hc hi pg h0 (fun y hy i δ1 Ω1 hlt ⟨s, hI, w, eo⟩ => ⟨δt s (xs y)[i]!, J, (tr s _).weak w, by rw [eo]; exact hJ s, by
    rw [eo, take_succ hlt]
    exact step y hy _ _ _ s (split_at hlt) hI⟩) (fun y hy δ1 Ω1 ⟨s, hI, w, eo⟩ => by
    rw [List.take_length] at hI
    rw [eo]
    exact sw_weak w (done y hy s hI)) hs
end
end Z
namespace K37
open PySem PySem.Spec PyProof.Rows L2
open Z
def takeS (x : Str) (m : Nat) : Str := ⟨(x.cps.toList.take m).toArray⟩
theorem takeS_cps (x : Str) (m : Nat) : (takeS x m).cps.toList = x.cps.toList.take m := rfl
theorem takeS_len (x : Str) (m : Nat) : (takeS x m).length ≤ x.length := by
  rw [← slen, ← slen, takeS_cps, List.length_take]
  omega
theorem cutS_take (x : Str) (m : Nat) : cutS x none (some (m : Int)) = takeS x m := by
  unfold cutS takeS
  rw [HT.sIx_none, HT.sIx_nat, List.drop_zero, Nat.sub_zero]
  rcases Nat.le_total m x.length with h | h
  · rw [Nat.min_eq_left h]
  · rw [Nat.min_eq_right h, List.take_of_length_le (by rw [slen]; exact Nat.le_refl _), List.take_of_length_le (by rw [slen]; exact h)]
section
variable {X : Cx} {z : Zn} {δ : List (Option Z.Ty)} {a c : Expr} {p pos : Pos} {x : Str} {m n : Nat} {ι : Type} {P : ι → Prop} {F : ι → Str}
theorem ev_headS {i : Int} (hi : i = (m : Int)) (hx : x.length ≤ 1000) (ha : EvD X z δ a (dat (.str x))) (hc : EvD X z δ c (dat (.int i))) : EvD X z δ (.Subscript a (.Slice none (some c) none p) pos) (dat (.str (takeS x m))) := by
  rw [hi] at hc
  have h := ev_slS (p2 := p) (pos := pos) hx ha eo_none (eo_some hc)
  rw [cutS_take] at h
  exact h
theorem ev_headSE (hx : ∀ y, P y → (F y).length ≤ 1000) (ha : EvD X z δ a (tEx P fun y => dat (.str (F y)))) (hc : EvD X z δ c (tBelow n)) : EvD X z δ (.Subscript a (.Slice none (some c) none p) pos) (tEx (fun q : Str => ∃ y j, P y ∧ j < n ∧ q = takeS (F y) j) fun q => dat (.str q)) := fun G H σ bg rs Q q =>
  w_pe (pe_slice sl_str pe_w po_none (po_some pe_w)) (ha G H σ bg rs _ fun v G1 H1 e1 ⟨y, hy, t⟩ => hc G1 H1 σ (bg.ext e1) (rs.mono e1.g) _ fun u G2 H2 e2 ⟨j, hj, t2⟩ => ⟨(j : Int), Rp.int_of t2, F y, Rp.str_of t, Nat.le_of_lt (small1000 (hx y hy)), by
    rw [cutS_take]
    exact q _ G2 H2 (e1.trans e2) ⟨_, ⟨y, j, hy, hj, rfl⟩, .str _⟩⟩)
theorem ev_headSEx (hx : ∀ y, P y → (F y).length ≤ 1000) (ha : EvD X z δ a (tEx P fun y => dat (.str (F y)))) (hc : EvD X z δ c (dat (.int (m : Int)))) : EvD X z δ (.Subscript a (.Slice none (some c) none p) pos) (tEx P fun y => dat (.str (takeS (F y) m))) := fun G H σ bg rs Q q =>
  w_pe (pe_slice sl_str pe_w po_none (po_some pe_w)) (ha G H σ bg rs _ fun v G1 H1 e1 ⟨y, hy, t⟩ => hc G1 H1 σ (bg.ext e1) (rs.mono e1.g) _ fun u G2 H2 e2 t2 => ⟨(m : Int), Rp.int_of t2, F y, Rp.str_of t, Nat.le_of_lt (small1000 (hx y hy)), by
    rw [cutS_take]
    exact q _ G2 H2 (e1.trans e2) ⟨y, hy, .str _⟩⟩)
end
theorem perm_codes {α β : Type} [Inhabited α] {f : α → β} (inj : ∀ a b, f a = f b → a = b) {xs r : List β} {L : List α} (h : (xs ++ r).Perm (L.map f)) : ∃ cs rs : List α, xs = cs.map f ∧ r = rs.map f ∧ (cs ++ rs).Perm L := by
  classical
  let g : β → α := fun d => if h : ∃ a, f a = d then h.choose else default
  have hg : ∀ a, g (f a) = a := fun a => by
    have h : ∃ b, f b = f a := ⟨a, rfl⟩
    show (if h : ∃ b, f b = f a then h.choose else default) = a
    rw [dif_pos h]
    exact inj _ _ h.choose_spec
  have back : ∀ l : List β, (∀ d ∈ l, ∃ a, f a = d) → l = (l.map g).map f := fun l => by
    induction l with
    | nil => intro _; rfl
    | cons d l ih =>
      intro hl
      rw [List.map_cons, List.map_cons, ← ih fun e m => hl e (List.mem_cons_of_mem _ m)]
      obtain ⟨a, e⟩ := hl d List.mem_cons_self
      rw [← e, hg]
  have im : ∀ d ∈ xs ++ r, ∃ a, f a = d := fun d m => by
    obtain ⟨a, _, e⟩ := List.mem_map.mp (h.mem_iff.mp m)
    exact ⟨a, e⟩
  refine ⟨xs.map g, r.map g, back xs fun d m => im d (List.mem_append_left _ m), back r fun d m => im d (List.mem_append_right _ m), ?_⟩
  have h2 := h.map g
  rw [List.map_append, List.map_map] at h2
  have e : L.map (g ∘ f) = L := by
    conv => rhs; rw [← List.map_id L]
    exact List.map_congr_left fun a _ => hg a
  rw [e] at h2
  exact h2
/-- names drawn -/
structure NmOk (ns : List Str) (n : Nat) : Prop where
  len : ns.length = n
  nd : ns.Nodup
  nm : ∀ x ∈ ns, nameB x = true
theorem Wd.head {x : Str} (h : Wd x 8) {m : Nat} (h1 : 1 ≤ m) (h8 : m ≤ 8) : Wd (takeS x m) m := by
  refine ⟨by rw [takeS_cps, List.length_take, h.len]; omega, ?_, fun c mc => ?_⟩
  · rw [takeS_cps, bang_take (by omega) (by rw [h.len]; omega)]
    exact h.hd
  · rw [takeS_cps] at mc
    exact h.all c (List.mem_of_mem_take mc)
/-- the stems of a word, from the whole down -/
def stems (x : Str) (n : Nat) : List Str := (List.range n).map fun j => takeS x (n - j)
theorem stems_ok {x : Str} (h : Wd x 8) {n : Nat} (h8 : n ≤ 8) : NmOk (stems x n) n := by
  refine ⟨by unfold stems; rw [List.length_map, List.length_range], ?_, fun y m => ?_⟩
  · unfold stems
    refine (List.pairwise_map).mpr (List.Pairwise.imp_of_mem (R := fun a b => a < b) (fun {a b} ma mb lt e => ?_) List.pairwise_lt_range)
    have e := congrArg (fun s : Str => s.cps.toList.length) e
    have e : (takeS x (n - a)).cps.toList.length = (takeS x (n - b)).cps.toList.length := e
    rw [takeS_cps, takeS_cps, List.length_take, List.length_take, h.len] at e
    have := List.mem_range.mp ma
    have := List.mem_range.mp mb
    omega
  · unfold stems at m
    obtain ⟨j, mj, rfl⟩ := List.mem_map.mp m
    have := List.mem_range.mp mj
    exact (h.head (m := n - j) (by omega) (by omega)).nm (by omega) (by omega)
/-- a word with a sign of its own at the place -/
structure SgW (x : Str) (size c : Nat) (q : Str) : Prop where
  at_ : q.cps.toList[size]? = some c
  nm : nameB q = true
theorem sgw {x : Str} (h : Wd x 8) {size c : Nat} (hs : size < 8) (hc : c ∈ LADd) (h0 : size = 0 → c ∈ LETd) {w : Str} (hw : Wd w 8) (j : Nat) : SgW x size c (takeS (takeS x size ++ chS c ++ takeS w j) 8) := by
  have e : (takeS (takeS x size ++ chS c ++ takeS w j) 8).cps.toList = (x.cps.toList.take size ++ [c] ++ w.cps.toList.take j).take 8 := by
    rw [takeS_cps, app_cps, app_cps, takeS_cps, takeS_cps]
    rfl
  have hl : (x.cps.toList.take size).length = size := by rw [List.length_take, h.len]; omega
  have e2 : (takeS (takeS x size ++ chS c ++ takeS w j) 8).cps.toList[size]? = some c := by
    rw [e, List.getElem?_take_of_lt hs, List.append_assoc, List.getElem?_append_right (by rw [hl]; exact Nat.le_refl _), hl, Nat.sub_self]
    rfl
  refine ⟨e2, ?_⟩
  unfold nameB
  have l1 : size < (takeS (takeS x size ++ chS c ++ takeS w j) 8).cps.toList.length := by
    refine Nat.lt_of_not_le fun w => ?_
    rw [List.getElem?_eq_none w] at e2
    cases e2
  have l8 : (takeS (takeS x size ++ chS c ++ takeS w j) 8).cps.toList.length ≤ 8 := by
    rw [e, List.length_take]
    omega
  rw [← slen, decide_eq_true (by omega), decide_eq_true l8]
  have hd : (takeS (takeS x size ++ chS c ++ takeS w j) 8).cps.toList[0]! ∈ LETd := by
    by_cases z : size = 0
    · subst z
      rw [List.getElem!_eq_getElem?_getD, e2]
      exact h0 rfl
    · rw [e, bang_take (by omega) (by rw [List.length_append, List.length_append, hl]; omega), List.append_assoc, bang_app_l (by rw [hl]; omega), bang_take (by omega) (by rw [h.len]; omega)]
      exact h.hd
  rw [decide_eq_true hd]
  refine List.all_eq_true.mpr fun d m => decide_eq_true ?_
  rw [e] at m
  have m := List.mem_of_mem_take m
  rcases List.mem_append.mp m with m | m
  · rcases List.mem_append.mp m with m | m
    · exact h.all d (List.mem_of_mem_take m)
    · rw [List.mem_singleton.mp m]
      exact hc
  · exact hw.all d (List.mem_of_mem_take m)
theorem sgw_ok {x : Str} {size : Nat} : ∀ {cs : List Nat} {ns : List Str}, cs.Nodup → Paired (fun c q => SgW x size c q) cs ns → NmOk ns cs.length
  | [], _, _, .nil => ⟨rfl, List.nodup_nil, fun _ m => nomatch m⟩
  | c :: cs, _, hn, .cons (b := q) h t => by
    obtain ⟨h1, h2⟩ := List.nodup_cons.mp hn
    have ih := sgw_ok h2 t
    refine ⟨by rw [List.length_cons, List.length_cons, ih.len], List.nodup_cons.mpr ⟨fun m => ?_, ih.nd⟩, fun y m => ?_⟩
    · have key : ∀ {cs : List Nat} {ns : List Str}, Paired (fun c q => SgW x size c q) cs ns → q ∈ ns → c ∈ cs := by
        intro cs ns hf
        induction hf with
        | nil => exact fun m => nomatch m
        | cons a _ ih =>
          intro m
          rcases List.mem_cons.mp m with e | m
          · have e1 := a.at_
            rw [← e, h.at_] at e1
            cases e1
            exact List.mem_cons_self
          · exact List.mem_cons_of_mem _ (ih m)
      exact h1 (key t m)
    · rcases List.mem_cons.mp m with rfl | m
      · exact h.nm
      · exact ih.nm y m
end K37
end
section
set_option maxRecDepth 100000
set_option maxHeartbeats 4000000
/-! W19: _law_words. -/
namespace K37
open PySem PySem.Spec PyProof.Rows L2
open Z
section
variable {P : Program} {w : World} {K : PySem.W.Frag} {mg : Str → Option Value} {base : Heap}
section
variable {X : Cx} {z : Zn} {δ : List (Option Z.Ty)} {a b : Expr} {pos : Pos} {ι : Type} {Q : ι → Prop} {f : ι → Int} {j : Int}
theorem r2_eqII {sa : Option Addr} {i j : Int} : R2T sa rEq (dat (.int i)) (dat (.int j)) (dat (.bool (decide (i = j)))) := R2T.val fun x y G H Q l t u q => by
  rw [Rp.int_of t, Rp.int_of u]
  refine ⟨rfl, q _ ?_⟩
  have e : decide (V.int i = V.int j) = decide (i = j) := by
    by_cases h : i = j
    · subst h; simp
    · rw [decide_eq_false h, decide_eq_false fun z => h (V.int.inj z)]
  rw [e]
  exact .bl _
theorem eb_eqE (ha : EvD X z δ a (tEx Q fun y => dat (.int (f y)))) (hb : EvD X z δ b (dat (.int j))) : EvB X z δ (.Compare a [.Eq] [b] pos) (fun c => ∃ y, Q y ∧ c = decide (f y = j)) := eb_cmpE op_eq (R2T.ex1 fun y hy => R2T.to (decide (f y = j)) ⟨y, hy, rfl⟩ r2_eqII) ha hb
theorem eb_gtE (ha : EvD X z δ a (tEx Q fun y => dat (.int (f y)))) (hb : EvD X z δ b (dat (.int j))) : EvB X z δ (.Compare a [.Gt] [b] pos) (fun c => ∃ y, Q y ∧ c = decide (j < f y)) := eb_cmpE op_gt (R2T.ex1 fun y hy => R2T.to (decide (j < f y)) ⟨y, hy, rfl⟩ (r2_I fun _ => .bl _)) ha hb
end
def tNames (n : Nat) : Z.Ty := tEx (fun ns : List Str => NmOk ns n) fun ns => dat (eL ns)
def pWords : Pr Nat := ⟨fun n => 1 ≤ n ∧ n ≤ 8, fun n => [dat (.int (n : Int))], fun n => tNames n⟩
theorem LADd_nodup : LADd.Nodup := by decide +kernel
theorem LAD_take : ∀ c ∈ LADd.take 26, c ∈ LETd := by decide +kernel
structure LtOk (L : Str) (size : Nat) : Prop where
  nd : L.cps.toList.Nodup
  lo : 8 ≤ L.cps.toList.length
  hi : L.cps.toList.length ≤ 36
  ad : ∀ c ∈ L.cps.toList, c ∈ LADd
  et : size = 0 → ∀ c ∈ L.cps.toList, c ∈ LETd
theorem chS_inj (a b : Nat) (h : chS a = chS b) : a = b := by
  have h := congrArg (fun s : Str => s.cps.toList) h
  have h : [a] = [b] := h
  exact (List.cons.inj h).1
theorem pair_snoc {α β : Type} {R : α → β → Prop} {a : α} {b : β} (h : R a b) : ∀ {xs : List α} {ys : List β}, Paired R xs ys → Paired R (xs ++ [a]) (ys ++ [b])
  | _, _, .nil => .cons h .nil
  | _, _, .cons q t => .cons q (pair_snoc h t)
theorem cb_L_words (T : Txt K mg) : Cb CX0 P w K mg base 4 "_law_words" ["_law_store_here", "_law_many"] pWords.spS := by
  refine cb_prS T.f_L_words sc_L_words bd_L_words (fun _ => rfl) fun f cdv A outer s H E n z st hr hz hB hp => ?_
  obtain ⟨hn1, hn8⟩ := hp
  have hn1 : 1 ≤ n := hn1
  have hn8 : n ≤ 8 := hn8
  refine sw_setE 2 nd_L_words (P := fun x : Str => Wd x 8) (R := fun x => dat (.str x)) (EvD.g (ev_callSD (P := pWord) () hz (cb_L_word T) hr (by decide) trivial (ea2 (ev_var 0) ev_int))) fun x hx => ?_
  have hxl : x.length ≤ 1000 := by rw [← slen, hx.len]; decide
  refine sw_setE 3 nd_L_words (P := fun j : Nat => j < 8) (R := fun j => dat (.int (j : Int))) (EvD.g (ev_take (n := 8) T hz hr (by decide) (by decide) (by decide) (ev_var 0) ev_int)) fun size hsz => ?_
  have key : ∀ L : Str, LtOk L size → SWs ((cxOf CX0 P w K mg base N_L_words "_law_words" (defScope s_L_words) f cdv A outer s H E).nox) z ((defBody s_L_words).drop 5) (dT z (tNames n)) (slots N_L_words [some (tRaw (.ref st)), some (dat (.int (n : Int))), some (dat (.str x)), some (dat (.int (size : Int))), some (dat (.str L))]) [] := fun L hL => by
    have hil : (SomeIn.txt L).items.length = L.cps.toList.length := List.length_map ..
    refine sw_setO 5 nd_L_words ef_nil ?_
    refine sw_forSX (S := List Str) (J := [6]) (g := gName 6) (P := fun cs : List Nat => cs.length = n ∧ cs.Nodup ∧ ∀ c ∈ cs, c ∈ L.cps.toList) (fun cs => cs) (fun c => dat (.str (chS c))) (fun cs ys s => Paired (fun c q => SgW x size c q) ys s) (fun _ => slots N_L_words [some (tRaw (.ref st)), some (dat (.int (n : Int))), some (dat (.str x)), some (dat (.int (size : Int))), some (dat (.str L)), none]) (fun s => [(5, none, cL (s.map fun q => dat (.str q)))])
      (fun _ c => (slots N_L_words [some (tRaw (.ref st)), some (dat (.int (n : Int))), some (dat (.str x)), some (dat (.int (size : Int))), some (dat (.str L)), none]).set 6 (some (dat (.str (chS c))))) PassesOwn.never rfl (eix_list (xs := fun cs : List Nat => cs) (F := fun c => dat (.str (chS c))) (EvD.imp (ev_callSD (P := pSome) (.txt L, n) hz (cb_L_some T) hr (by decide) ⟨by show (SomeIn.txt L).items.length ≤ 500; rw [hil]; have := hL.hi; omega, by show n ≤ 500; omega⟩ (ea_cons (ev_var 0) (ea2 (ev_var 4) (ev_var 1)))) fun v G t => ?_)) (pg_name nd_L_words rfl (Or.inl rfl))
      (fun _ c => tr_name 6) (fun _ q m => by rw [List.mem_singleton.mp m]; show (5 : Nat) ∉ [6]; decide) (fun cs hcs => ⟨[], .nil, by repeat (first | exact Wk.nil | apply Wk.cons | apply Wk.no), rfl⟩) (fun cs hcs ys c zs s e hs => ?_) fun cs hcs s hs => ?_
    · obtain ⟨xs, ⟨⟨r, hp⟩, hlen⟩, t⟩ := t
      have hp : (xs ++ r).Perm (L.cps.toList.map fun c => PyData.str (chS c)) := hp
      obtain ⟨cs, rs, e1, e2, hp2⟩ := perm_codes (f := fun c => PyData.str (chS c)) (fun a b h => chS_inj a b (by injection h)) hp
      have hnd : (cs ++ rs).Nodup := hp2.nodup_iff.mpr hL.nd
      have hlen : xs.length = min n (SomeIn.txt L).items.length := hlen
      rw [e1, List.length_map, hil] at hlen
      have := hL.lo
      refine ⟨cs, ⟨by omega, (List.nodup_append.mp hnd).1, fun c m => hp2.mem_iff.mp (List.mem_append_left _ m)⟩, ?_⟩
      rw [e1] at t
      have t := dat_list.mp t
      rw [List.map_map] at t
      exact t
    · have hc : c ∈ L.cps.toList := hcs.2.2 c (by rw [e]; simp)
      have hsl : s.length < 9 := by
        have h1 := hcs.1
        rw [e, List.length_append, List.length_cons, Paired.length hs] at h1
        omega
      have hl0 : (takeS x size ++ chS c).length ≤ 500 := by
        rw [← slen, app_cps, takeS_cps, List.length_append, List.length_take, hx.len]
        show _ + 1 ≤ 500
        omega
      have hq : ∀ q : Str, (∃ y j, Wd y 8 ∧ j < 6 ∧ q = takeS y j) → q.length ≤ 100 := fun q ⟨y, j, hy, _, e⟩ => by
        have := takeS_len y j
        rw [e]
        have h8 := hy.len
        rw [slen] at h8
        omega
      refine sw_appE (R := fun q : Str => dat (.str (takeS (takeS x size ++ chS c ++ q) 8))) (P := fun q : Str => ∃ y j, Wd y 8 ∧ j < 6 ∧ q = takeS y j) (EvG.drop (EvD.g (ev_headSEx (m := 8) (F := fun q => takeS x size ++ chS c ++ q) (fun q hq' => ?_) (ev_addSE (F := fun q => q) (fun q hq' => ?_) (ev_addS ?_ (ev_headS (m := size) rfl hxl (ev_var 2) (ev_var 3)) (ev_var 6)) (ev_headSE (F := fun y : Str => y) (fun y hy => ?_) (ev_callSD (P := pWord) () hz (cb_L_word T) hr (by decide) trivial (ea2 (ev_var 0) ev_int)) (ev_take (n := 6) T hz hr (by decide) (by decide) (by decide) (ev_var 0) ev_int))) ev_int))) (by rw [List.length_map]; omega) fun q hq' => ?_
      · have := hq q hq'
        rw [← slen, app_cps, List.length_append, slen, slen]
        omega
      · have := hq q hq'
        show _ + q.length ≤ 1000
        omega
      · have := takeS_len x size
        show _ + 1 ≤ 1000
        have h8 := hx.len
        rw [slen] at h8
        omega
      · have h8 : y.cps.toList.length = 8 := hy.len
        rw [slen] at h8
        show y.length ≤ 1000
        omega
      · obtain ⟨y, j, hy, _, rfl⟩ := hq'
        refine sw_nil ⟨s ++ [takeS (takeS x size ++ chS c ++ takeS y j) 8], pair_snoc (sgw hx hsz (hL.ad c hc) (fun h0 => hL.et h0 c hc) hy j) hs, by repeat (first | exact Wk.nil | apply Wk.cons | apply Wk.no), ?_⟩
        show _ = [((5 : Nat), (none : Option Addr), cL ((s ++ [takeS (takeS x size ++ chS c ++ takeS y j) 8]).map fun q => dat (.str q)))]
        rw [List.map_append]
        rfl
    · have ok := sgw_ok hcs.2.1 hs
      rw [hcs.1] at ok
      refine sw_freeze ?_
      exact sw_retT (U := tNames n) rfl (EvD.g (EvD.imp (ev_var 5) fun v G h => ⟨s, ok, eLf_of (f := PyData.str) (cL_ty.mp h)⟩)) rfl
  refine sw_when (P := fun _ => True) (EvB.g (EvB.imp (eb_eqE (ev_take (n := 8) T hz hr (by decide) (by decide) (by decide) (ev_var 0) ev_int) ev_int) fun _ _ => trivial)) (fun _ => ?_) fun _ => ?_
  · refine sw_retT (U := tNames n) rfl (EvD.g (EvD.imp (ev_lc1 (List.range n) (fun j => dat (.int (j : Int))) (fun _ => true) (fun j => dat (.str (takeS x (n - j)))) 7 rfl nd_L_words (ei_rangeA (m := (n : Int)) n (by omega) T.range_ (by omega) (ev_var 1)) (blkOk_by (N := N_L_words) (sc := defScope s_L_words) (by decide +kernel)) (fun _ _ _ _ _ => pg_name nd_L_words rfl (Or.inl rfl)) (fun j m _ _ _ _ _ => et_nil)
      (fun j m _ _ _ _ _ _ => ev_headS (m := n - j) ?_ hxl (ev_var 2) (ev_sub (ev_var 1) (ev_var 7))) (by rw [List.length_range]; omega)) fun v G t => ⟨stems x n, stems_ok hx hn8, ?_⟩)) rfl
    · have := List.mem_range.mp m
      omega
    · rw [map_all] at t
      refine eLf_of (f := PyData.str) ?_
      unfold stems
      rw [List.map_map]
      exact t
  · refine sw_set 4 nd_L_words (T := dat (.str "abcdefghijklmnopqrstuvwxyz0123456789")) (EvD.g ev_str) ?_
    refine sw_when (EvB.g (eb_eqI (ev_var 3) ev_int)) (fun h => ?_) fun h => ?_
    · refine sw_set 4 nd_L_words (T := dat (.str (takeS "abcdefghijklmnopqrstuvwxyz0123456789" 26))) (EvD.g (ev_headS (m := 26) rfl (by decide +kernel) (ev_var 4) ev_int)) ?_
      refine sw_nil (key _ ⟨?_, by decide +kernel, by decide +kernel, fun c m => List.mem_of_mem_take m, fun _ c m => LAD_take c m⟩)
      exact LADd_nodup.sublist (List.take_sublist 26 _)
    · have h0 : size ≠ 0 := fun w => by
        rw [w] at h
        cases h
      exact key _ ⟨LADd_nodup, by decide +kernel, by decide +kernel, fun c m => m, fun w => absurd w h0⟩
end
end K37
end
section
set_option maxRecDepth 100000
set_option maxHeartbeats 4000000
/-! M3: the drawn sketch, in plain Lean. -/
namespace K37
open PySem PySem.Spec PyProof.Rows L2
open Z
/-! ### roads -/
def adj (ch : Bool) (i j : Nat) : Bool := !ch || decide (j + 1 = i)
def inIdx (ch : Bool) (i m : Nat) : List (Nat × Nat) := ((List.range m).filter fun j => adj ch i j).map fun j => (i, j)
def idx (ch : Bool) : Nat → List (Nat × Nat)
  | 0 => []
  | n + 1 => idx ch n ++ inIdx ch n n
def road (ts : List Str) (p : Nat × Nat) : Str × Str := (ts[p.1]!, ts[p.2]!)
def rds (ts : List Str) (ch : Bool) : List (Str × Str) := (idx ch ts.length).map (road ts)
theorem inIdx_mem {ch : Bool} {i m : Nat} {p : Nat × Nat} : p ∈ inIdx ch i m ↔ p.1 = i ∧ p.2 < m ∧ adj ch i p.2 = true := by
  unfold inIdx
  rw [List.mem_map]
  constructor
  · rintro ⟨j, mj, rfl⟩
    obtain ⟨a, b⟩ := List.mem_filter.mp mj
    exact ⟨rfl, List.mem_range.mp a, b⟩
  · rintro ⟨a, b, c⟩
    exact ⟨p.2, List.mem_filter.mpr ⟨List.mem_range.mpr b, c⟩, Prod.ext a.symm rfl⟩
theorem idx_mem {ch : Bool} {p : Nat × Nat} : ∀ {n : Nat}, p ∈ idx ch n ↔ p.1 < n ∧ p.2 < p.1 ∧ adj ch p.1 p.2 = true
  | 0 => by simp [idx]
  | n + 1 => by
    show p ∈ idx ch n ++ inIdx ch n n ↔ _
    rw [List.mem_append, idx_mem, inIdx_mem]
    constructor
    · rintro (⟨a, b, c⟩ | ⟨a, b, c⟩)
      · exact ⟨by omega, b, c⟩
      · exact ⟨by omega, by omega, by rw [a]; exact c⟩
    · rintro ⟨a, b, c⟩
      by_cases h : p.1 = n
      · exact .inr ⟨h, by omega, by rw [← h]; exact c⟩
      · exact .inl ⟨by omega, b, c⟩
theorem inIdx_nodup (ch : Bool) (i m : Nat) : (inIdx ch i m).Nodup := by
  unfold inIdx
  have h0 : ((List.range m).filter fun j => adj ch i j).Pairwise fun a b => a ≠ b := List.Pairwise.filter _ List.nodup_range
  exact List.pairwise_map.mpr (h0.imp fun h e => h (congrArg Prod.snd e))
theorem idx_nodup (ch : Bool) : ∀ n : Nat, (idx ch n).Nodup
  | 0 => List.nodup_nil
  | n + 1 => by
    refine List.nodup_append.mpr ⟨idx_nodup ch n, inIdx_nodup ch n n, fun a ma b mb e => ?_⟩
    have h1 := (idx_mem.mp ma).1
    have h2 := (inIdx_mem.mp mb).1
    rw [e] at h1
    omega
theorem idx_len (ch : Bool) : ∀ n : Nat, n ≤ 8 → (idx ch n).length ≤ n * 8
  | 0, _ => Nat.le_refl _
  | n + 1, h => by
    have ih := idx_len ch n (by omega)
    have h2 : (inIdx ch n n).length ≤ n := by
      unfold inIdx
      rw [List.length_map]
      exact Nat.le_trans (List.length_filter_le _ _) (by rw [List.length_range]; exact Nat.le_refl _)
    show (idx ch n ++ inIdx ch n n).length ≤ _
    rw [List.length_append]
    omega
theorem inIdx_len (ch : Bool) (i m : Nat) : (inIdx ch i m).length ≤ m := by
  unfold inIdx
  rw [List.length_map]
  exact Nat.le_trans (List.length_filter_le _ _) (by rw [List.length_range]; exact Nat.le_refl _)
theorem inIdx_succ (ch : Bool) (i m : Nat) : inIdx ch i (m + 1) = inIdx ch i m ++ if adj ch i m = true then [(i, m)] else [] := by
  unfold inIdx
  rw [List.range_succ, List.filter_append, List.map_append]
  congr 1
  by_cases h : adj ch i m = true
  · rw [if_pos h, List.filter_cons_of_pos h]
    rfl
  · rw [if_neg h, List.filter_cons_of_neg h]
    rfl
theorem nd_at {ts : List Str} (h : ts.Nodup) {i j : Nat} (hi : i < ts.length) (hj : j < ts.length) (e : ts[i]! = ts[j]!) : i = j := by
  rw [getElem!_pos ts i hi, getElem!_pos ts j hj] at e
  exact (List.getElem_inj h).mp e
theorem opair_or (p : Str × Str) : opair p = p ∨ opair p = (p.2, p.1) := by
  unfold opair
  split
  · exact .inl rfl
  · exact .inr rfl
theorem opair_eq {p q : Str × Str} (h : opair p = opair q) : p = q ∨ p = (q.2, q.1) := by
  rcases opair_or p with a | a <;> rcases opair_or q with b | b
  · exact .inl (by rw [← a, ← b, h])
  · exact .inr (by rw [← a, h, b])
  · refine .inr ?_
    rw [a, b] at h
    exact Prod.ext (congrArg Prod.snd h) (congrArg Prod.fst h)
  · refine .inl ?_
    rw [a, b] at h
    exact Prod.ext (congrArg Prod.snd h) (congrArg Prod.fst h)
theorem rds_ok {ts : List Str} {n : Nat} (hn : NmOk ts n) (h1 : 1 ≤ n) (h8 : n ≤ 8) (ch : Bool) : WebOk ts (rds ts ch) := by
  refine ⟨by rw [hn.len]; exact ⟨h1, h8⟩, hn.nm, hn.nd, ?_, fun r m => ?_, ?_⟩
  · unfold rds
    rw [List.length_map]
    have := idx_len ch ts.length (by rw [hn.len]; exact h8)
    have := hn.len
    omega
  · unfold rds at m
    obtain ⟨p, mp, rfl⟩ := List.mem_map.mp m
    obtain ⟨a, b, _⟩ := idx_mem.mp mp
    refine ⟨nth_bang a, nth_bang (by omega), fun e => ?_⟩
    have := nd_at hn.nd a (by omega) e
    omega
  · unfold rds
    rw [List.map_map]
    refine List.pairwise_map.mpr (List.Pairwise.imp_of_mem (R := fun a b => a ≠ b) (fun {a b} ma mb ne e => ?_) (idx_nodup ch ts.length))
    obtain ⟨a1, a2, _⟩ := idx_mem.mp ma
    obtain ⟨b1, b2, _⟩ := idx_mem.mp mb
    rcases opair_eq e with h | h
    · have h1 : ts[a.1]! = ts[b.1]! := congrArg Prod.fst h
      have h2 : ts[a.2]! = ts[b.2]! := congrArg Prod.snd h
      exact ne (Prod.ext (nd_at hn.nd a1 b1 h1) (nd_at hn.nd (by omega) (by omega) h2))
    · have h1 : ts[a.1]! = ts[b.2]! := congrArg Prod.fst h
      have h2 : ts[a.2]! = ts[b.1]! := congrArg Prod.snd h
      have e1 := nd_at hn.nd a1 (by omega) h1
      have e2 := nd_at hn.nd (by omega) b1 h2
      omega
/-! ### near -/
theorem near_self (rs : List (Str × Str)) (t : Str) : t ∈ near rs t := by
  unfold near
  rw [(sortN_perm _).mem_iff]
  exact List.mem_cons_self
theorem near_of {rs : List (Str × Str)} {a b : Str} (h : (a, b) ∈ rs ∨ (b, a) ∈ rs) : b ∈ near rs a := by
  unfold near
  rw [(sortN_perm _).mem_iff]
  refine List.mem_cons_of_mem _ ?_
  have hp : ∃ p ∈ sortP (rs.map opair), p = (a, b) ∨ p = (b, a) := by
    have key : ∀ q ∈ rs, (q = (a, b) ∨ q = (b, a)) → ∃ p ∈ sortP (rs.map opair), p = (a, b) ∨ p = (b, a) := fun q mq hq => by
      refine ⟨opair q, (List.mergeSort_perm _ _).mem_iff.mpr (List.mem_map.mpr ⟨q, mq, rfl⟩), ?_⟩
      rcases opair_or q with e | e <;> rcases hq with h | h <;> rw [e, h]
      · exact .inl rfl
      · exact .inr rfl
      · exact .inr rfl
      · exact .inl rfl
    rcases h with h | h
    · exact key _ h (.inl rfl)
    · exact key _ h (.inr rfl)
  obtain ⟨p, mp, hp⟩ := hp
  refine List.mem_flatMap.mpr ⟨p, mp, ?_⟩
  rcases hp with rfl | rfl
  · rw [if_pos rfl]
    simp
  · by_cases e : b = a
    · subst e; simp
    · rw [if_neg e, if_pos rfl]
      simp
/-- a step that the roads allow -/
def stepB (ch : Bool) (a b : Nat) : Bool := !ch || (decide (-2 < (b : Int) - (a : Int)) && decide ((b : Int) - (a : Int) < 2))
theorem step_near {ts : List Str} {ch : Bool} {a b : Nat} (ha : a < ts.length) (hb : b < ts.length) (h : stepB ch a b = true) : ts[b]! ∈ near (rds ts ch) ts[a]! := by
  have aj : ∀ i j : Nat, j < i → (i = a ∧ j = b ∨ i = b ∧ j = a) → adj ch i j = true := fun i j hlt hc => by
    unfold adj
    unfold stepB at h
    cases ch with
    | false => rfl
    | true =>
      have h : (decide (-2 < (b : Int) - (a : Int)) && decide ((b : Int) - (a : Int) < 2)) = true := by simpa using h
      obtain ⟨x, y⟩ := Bool.and_eq_true_iff.mp h
      have x := of_decide_eq_true x
      have y := of_decide_eq_true y
      have : j + 1 = i := by omega
      simp [this]
  rcases Nat.lt_trichotomy a b with hlt | he | hgt
  · refine near_of (.inr (List.mem_map.mpr ⟨(b, a), idx_mem.mpr ⟨hb, hlt, aj b a hlt (.inr ⟨rfl, rfl⟩)⟩, rfl⟩))
  · subst he
    exact near_self _ _
  · refine near_of (.inl (List.mem_map.mpr ⟨(a, b), idx_mem.mpr ⟨ha, hgt, aj a b hgt (.inl ⟨rfl, rfl⟩)⟩, rfl⟩))
/-- a plan on its way -/
structure RowOk (ts : List Str) (rs : List (Str × Str)) (r : List Str) : Prop where
  len : 1 ≤ r.length ∧ r.length ≤ 7
  inn : ∀ t ∈ r, t ∈ ts
  st : StepsOk rs r
theorem rowOk_one {ts : List Str} {rs : List (Str × Str)} {t : Str} (h : t ∈ ts) : RowOk ts rs [t] := ⟨⟨Nat.le_refl _, by show 1 ≤ 7; decide⟩, fun s m => by rw [List.mem_singleton.mp m]; exact h, fun i hi => by
  simp at hi⟩
theorem StepsOk.snoc {rs : List (Str × Str)} {r : List Str} {t : Str} (h : StepsOk rs r) (h1 : 1 ≤ r.length) (hn : t ∈ near rs r[r.length - 1]!) : StepsOk rs (r ++ [t]) := fun i hi => by
  rw [List.length_append, List.length_singleton] at hi
  by_cases c : i + 1 < r.length
  · rw [bang_app_l c, bang_app_l (by omega)]
    exact h i c
  · have e : i = r.length - 1 := by omega
    have e1 : (r ++ [t])[i + 1]! = [t][i + 1 - r.length]! := bang_app_r (by omega) (by rw [List.length_singleton]; omega)
    have e2 : (r ++ [t])[i]! = r[i]! := bang_app_l (by omega)
    rw [e1, e2, show i + 1 - r.length = 0 from by omega, e]
    exact hn
end K37
end
section
set_option maxRecDepth 100000
set_option maxHeartbeats 4000000
/-! W20: _law_plains. -/
namespace Z
open PySem PySem.Spec PyProof.Rows L2
section
variable {X : Cx} {z : Zn} {δ : List (Option Ty)} {Ω : Own} {a b c : Expr} {tg : Expr} {p pos : Pos} {D : Dn} {rest sa : List Stmt} {ι : Type} {Q : ι → Prop} {f : ι → Int}
/-- an if whose ways meet in one of many states -/
theorem sw_whenK {P : Bool → Prop} (R : ι → Prop) (δk : ι → List (Option Ty)) (Ωk : ι → Own) (hc : EvGB X z δ Ω c P) (ht : P true → SWs X z sa { D with nx := fun δ' Ω' => ∃ y, R y ∧ Wk δ' (δk y) ∧ Ω' = Ωk y } δ Ω) (hf : P false → ∃ y, R y ∧ Wk δ (δk y) ∧ Ω = Ωk y) (k : ∀ y, R y → SWs X z rest D (δk y) (Ωk y)) : SWs X z (.If c sa [] pos :: rest) D δ Ω :=
  sw_when hc (fun h => (ht h).mono (fun δ' Ω' ⟨y, r, w, e⟩ => by rw [e]; exact sw_weak w (k y r)) (fun _ _ q => q) (fun _ _ q => q) fun _ _ q => q) fun h => by
    obtain ⟨y, r, w, e⟩ := hf h
    rw [e]
    exact sw_weak w (k y r)
theorem eix_rangeA (hm : X.mg "range" = none) (hb : ∀ y, Q y → -1000 ≤ f y ∧ f y ≤ 1000) (ha : EvD X z δ a (tEx Q fun y => dat (.int (f y)))) (hg : Gl X "range" := by rfl) (hs : starEach [a] X.env = [(false, eval a X.env)] := by rfl) :
    EvIX X z δ tg (.Call (.Name "range" p) [a] [] pos) Q (fun y => (List.range (f y).toNat).length) (fun y i => (fun (i : Nat) => dat (.int (i : Int))) (List.range (f y).toNat)[i]!) := ⟨_, pi_range1 hg hm (pa_cons pe_w pa_nil hs) hs, fun G H σ bg rs R q => ha G H σ bg rs _ fun v G1 H1 e1 ⟨y, hy, t⟩ => by
  have h1 := hb y hy
  refine ⟨f y, by rw [Rp.int_of t], by omega, by omega, q y hy (Itr 0 (f y).toNat) G1 H1 _ _ e1 (by show Walk _ (List.range (f y).toNat).length _ _; rw [List.length_range]; exact walk_range) (fun _ _ _ _ => trivial) fun i G2 H2 v H3 hi s l st yy => ?_⟩
  have hi : i < (List.range (f y).toNat).length := hi
  rw [List.length_range] at hi
  obtain ⟨rfl, rfl⟩ := yy
  refine ⟨G2, Ext.rfl' l st, ?_⟩
  show (dat (.int (((List.range (f y).toNat)[i]! : Nat) : Int))).p _ G2
  rw [getElem!_pos (List.range (f y).toNat) i (by rw [List.length_range]; exact hi), List.getElem_range]
  show Rp G2 (.int ((0 : Int) + (i : Int))) _
  rw [Int.zero_add]
  exact .int _⟩
theorem ev_eqE (ha : EvD X z δ a (tEx Q fun y => dat (.int (f y)))) {j : Int} (hb : EvD X z δ b (dat (.int j))) : EvD X z δ (.Compare a [.Eq] [b] pos) (tEx (fun _ : Bool => True) fun c => dat (.bool c)) := ev_cmp op_eq (R2T.ex1 fun y hy => R2T.to (decide (f y = j)) trivial K37.r2_eqII) ha hb
theorem ev_subE {i : Int} (ha : EvD X z δ a (dat (.int i))) (hb : EvD X z δ b (tEx Q fun y => dat (.int (f y)))) : EvD X z δ (.BinOp a .Sub b pos) (tEx Q fun y => dat (.int (i - f y))) := ev_op op_sub (R2T.ex2 fun y hy => R2T.to y hy (r2_I fun _ => .int _)) ha hb
end
end Z
namespace K37
open PySem PySem.Spec PyProof.Rows L2
open Z
section
variable {P : Program} {w : World} {K : PySem.W.Frag} {mg : Str → Option Value} {base : Heap}
def tNamesLe (m : Nat) : Z.Ty := tEx (fun ns : List Str => ∃ n, 1 ≤ n ∧ n ≤ m ∧ NmOk ns n) fun ns => dat (eL ns)
/-- one of eight numbers -/
theorem ev_eight {X : Cx} {z : Zn} {δ : List (Option Z.Ty)} {a b : Expr} {pos : Pos} {ns : List Nat} {Q : Nat → Prop} (hl : ns.length = 8) (hQ : ∀ n ∈ ns, Q n) (ha : EvD X z δ a (tL (ns.map fun n : Nat => dat (.int (n : Int))))) (hb : EvD X z δ b (tBelow 8)) (hs : PlainIx b := by exact fun _ _ => rfl) : EvD X z δ (.Subscript a b pos) (tEx Q fun n => dat (.int (n : Int))) :=
  EvD.imp (ev_ixE (n := 8) (by rw [List.length_map, hl]) ha hb hs) fun v G ⟨j, hj, t⟩ => by
    have hj : j < ns.length := by omega
    have e := map_getD (xs := ns) (F := fun n : Nat => dat (.int (n : Int))) hj
    have t : ((ns.map fun n : Nat => dat (.int (n : Int))).getD j tAny).p v G := t
    rw [e] at t
    exact ⟨ns[j]!, hQ _ (nth_bang hj), t⟩
/-- what the law draws its worlds from -/
def tSketch : Z.Ty := tEx (fun i : WIx => i.ok) fun i => tL [dat (eL i.1), dat (.list (i.2.1.map eP)), tPl i.2.2.1 i.2.2.2]
def pPlains : Pr Unit := ⟨fun _ => True, fun _ => [], fun _ => tSketch⟩
theorem ev_words {X : Cx} {z : Zn} {δ : List (Option Z.Ty)} {a b : Expr} {p pos : Pos} {st : Addr} {k : Nat} (m : Nat) (T : Txt X.K X.mg) (hz : z.sa = some st) (hr : Room k X.A) (hk : 4 ≤ k) (hm : m ≤ 8) (ha : EvD X z δ a (tRaw (.ref st))) (hb : EvD X z δ b (tEx (fun n : Nat => 1 ≤ n ∧ n ≤ m) fun n => dat (.int (n : Int)))) (hg : Gl X "_law_words" := by rfl)
    (he : starEach [a, b] X.env = (false, eval a X.env) :: starEach [b] X.env := by rfl) (he2 : starEach [b] X.env = (false, eval b X.env) :: starEach [] X.env := by rfl) (hpl : (backTo pos (starEach [b] X.env)).any (·.1) = false := by rfl) : EvD X z δ (.Call (.Name "_law_words" p) [a, b] [] pos) (tNamesLe m) :=
  ev_callS (P := pWords) hz (cb_L_words T) hr hk (ea2 ha hb he he2) (fun G vs r => by
    obtain ⟨v, rfl, n, hn, t⟩ := reps1 r
    exact ⟨n, ⟨hn.1, by omega⟩, .cons t .nil, fun v G' ⟨q, hq, tq⟩ => ⟨q, ⟨n, hn.1, hn.2, hq⟩, tq⟩⟩) hg (by decide) he hpl
structure PlainSt (ts : List Str) (rs : List (Str × Str)) (ys : List Str) (pl : Plans) (r : List Str) : Prop where
  row : RowOk ts rs r
  all : ∀ n ∈ ys, RowOk ts rs (pl n)
theorem cb_L_plains (T : Txt K mg) : Cb CX0 P w K mg base 5 "_law_plains" ["_law_store_here"] pPlains.spS := by
  refine cb_prS T.f_L_plains sc_L_plains bd_L_plains (fun _ => rfl) fun f cdv A outer s H E i z st hr hz hB hp => ?_
  refine sw_setE 1 nd_L_plains (P := fun ts : List Str => ∃ n, 1 ≤ n ∧ n ≤ 8 ∧ NmOk ts n) (R := fun ts => dat (eL ts)) (EvD.g (ev_words 8 T hz hr (by decide) (by decide) (ev_var 0) (ev_eight (ns := [1, 2, 2, 2, 3, 3, 4, 8]) rfl (by decide) (ev_lst (ea_cons ev_int (ea_cons ev_int (ea_cons ev_int (ea_cons ev_int (ea_cons ev_int (ea_cons ev_int (ea2 ev_int ev_int))))))) (by show 8 ≤ 1000; decide)) (ev_take (n := 8) T hz hr (by decide) (by decide) (by decide) (ev_var 0) ev_int)))) fun ts hts => ?_
  obtain ⟨n, hn1, hn8, hts⟩ := hts
  have htl := hts.len
  refine sw_setE 2 nd_L_plains (P := fun ks : List Str => ∃ n, 1 ≤ n ∧ n ≤ 6 ∧ NmOk ks n) (R := fun ks => dat (eL ks)) (EvD.g (ev_words 6 T hz hr (by decide) (by decide) (ev_var 0) (ev_eight (ns := [1, 2, 2, 3, 3, 3, 4, 6]) rfl (by decide) (ev_lst (ea_cons ev_int (ea_cons ev_int (ea_cons ev_int (ea_cons ev_int (ea_cons ev_int (ea_cons ev_int (ea2 ev_int ev_int))))))) (by show 8 ≤ 1000; decide)) (ev_take (n := 8) T hz hr (by decide) (by decide) (by decide) (ev_var 0) ev_int)))) fun ks0 hks0 => ?_
  refine sw_whenK (P := fun _ => True) (fun ks : List Str => ∃ n, 1 ≤ n ∧ n ≤ 6 ∧ NmOk ks n) (fun ks => slots N_L_plains [some (tRaw (.ref st)), some (dat (eL ts)), some (dat (eL ks))]) (fun _ => []) (EvB.g (EvB.imp (eb_eqE (ev_take (n := 8) T hz hr (by decide) (by decide) (by decide) (ev_var 0) ev_int) ev_int) fun _ _ => trivial)) (fun _ => ?_) (fun _ => ⟨ks0, hks0, by repeat (first | exact Wk.nil | apply Wk.cons | apply Wk.no), rfl⟩) fun ks hks => ?_
  · refine sw_set 2 nd_L_plains (T := dat (eL (ts.take 6))) (EvD.g (EvD.imp (ev_headL (m := 6) (ds := ts.map PyData.str) (ev_var 1) ev_int) fun v G t => by rw [← List.map_take] at t; exact t)) ?_
    refine sw_nil ⟨ts.take 6, ⟨min n 6, by omega, by omega, by rw [List.length_take, htl]; omega, hts.nd.sublist (List.take_sublist 6 ts), fun x m => hts.nm x (List.mem_of_mem_take m)⟩, by repeat (first | exact Wk.nil | apply Wk.cons | apply Wk.no), rfl⟩
  obtain ⟨m, hm1, hm6, hks⟩ := hks
  have hkl := hks.len
  refine sw_setE 3 nd_L_plains (P := fun _ : Bool => True) (R := fun c => dat (.bool c)) (EvD.g (ev_eqE (ev_take (n := 4) T hz hr (by decide) (by decide) (by decide) (ev_var 0) ev_int) ev_int)) fun ch _ => ?_
  refine sw_setO 4 nd_L_plains ef_nil ?_
  refine sw_forS (S := List (Str × Str)) (J := [5]) (g := gName 5) (List.range ts.length) (fun i => dat (.int (i : Int))) (fun ys s => s = (idx ch ys.length).map (road ts)) (fun _ => slots N_L_plains [some (tRaw (.ref st)), some (dat (eL ts)), some (dat (eL ks)), some (dat (.bool ch)), none]) (fun s => [(4, none, cL (s.map fun r => dat (eP r)))])
    (fun _ i => (slots N_L_plains [some (tRaw (.ref st)), some (dat (eL ts)), some (dat (eL ks)), some (dat (.bool ch)), none]).set 5 (some (dat (.int (i : Int))))) PassesOwn.never rfl (ei_rangeA (m := (ts.length : Int)) ts.length (by omega) T.range_ (by omega) (lenEL T.len_ (ev_var 1))) (pg_name nd_L_plains rfl (Or.inl rfl))
    (fun _ i => tr_name 5) (fun _ q m => by rw [List.mem_singleton.mp m]; show (4 : Nat) ∉ [5]; decide) ⟨[], rfl, by repeat (first | exact Wk.nil | apply Wk.cons | apply Wk.no), rfl⟩ (fun ys i zs s e hs => ?_) fun s hs => ?_
  · obtain ⟨hi, hys⟩ := range_at e
    have hyl : ys.length = i := by rw [hys, List.length_range]
    rw [hyl] at hs
    refine sw_forS (S := List (Str × Str)) (J := [6]) (g := gName 6) (List.range i) (fun j => dat (.int (j : Int))) (fun ws s => s = (idx ch i).map (road ts) ++ (inIdx ch i ws.length).map (road ts)) (fun _ => slots N_L_plains [some (tRaw (.ref st)), some (dat (eL ts)), some (dat (eL ks)), some (dat (.bool ch)), none, some (dat (.int (i : Int)))]) (fun s => [(4, none, cL (s.map fun r => dat (eP r)))])
      (fun _ j => (slots N_L_plains [some (tRaw (.ref st)), some (dat (eL ts)), some (dat (eL ks)), some (dat (.bool ch)), none, some (dat (.int (i : Int)))]).set 6 (some (dat (.int (j : Int))))) PassesOwn.never rfl (ei_rangeA (m := (i : Int)) i (by omega) T.range_ (by omega) (ev_var 5)) (pg_name nd_L_plains rfl (Or.inl rfl))
      (fun _ j => tr_name 6) (fun _ q m => by rw [List.mem_singleton.mp m]; show (4 : Nat) ∉ [6]; decide) ⟨s, by rw [hs]; exact (List.append_nil _).symm, by repeat (first | exact Wk.nil | apply Wk.cons | apply Wk.no), rfl⟩ (fun ws j us s2 e2 hs2 => ?_) fun s2 hs2 => ?_
    · obtain ⟨hj, hws⟩ := range_at e2
      have hwl : ws.length = j := by rw [hws, List.length_range]
      rw [hwl] at hs2
      have hsl : s2.length ≤ 100 := by
        rw [hs2, List.length_append, List.length_map, List.length_map]
        have := idx_len ch i (by omega)
        have := inIdx_len ch i j
        omega
      refine sw_when (P := fun b => b = adj ch i j) (EvGB.drop (EvB.g (EvB.imp (EvW.eb (ew_or (eb_notV (eb_val (ev_var 3))) fun h => ew_or1 (eb_eqI (ev_add (ev_var 6) ev_int) (ev_var 5)))) fun b h => ?_))) (fun h => ?_) fun h => ?_
      · rw [h]
        unfold adj
        congr 1
        by_cases c : j + 1 = i
        · rw [decide_eq_true c, decide_eq_true (by omega)]
        · rw [decide_eq_false c, decide_eq_false (by omega)]
      · refine sw_app (T := dat (eP (ts[i]!, ts[j]!))) (EvG.drop (EvD.g (ev_tupD (ds := [.str ts[i]!, .str ts[j]!]) (ea2 (at_eL (n := i) hi (ev_var 1) (ev_var 5)) (at_eL (n := j) (by omega) (ev_var 1) (ev_var 6))) (by show 2 ≤ 1000; decide)))) (by rw [List.length_map]; omega) ?_
        refine sw_nil (sw_nil ⟨s2 ++ [(ts[i]!, ts[j]!)], ?_, by repeat (first | exact Wk.nil | apply Wk.cons | apply Wk.no), ?_⟩)
        · rw [List.length_append, List.length_singleton, hwl, inIdx_succ, if_pos h.symm, List.map_append, hs2, List.append_assoc]
          rfl
        · show _ = [((4 : Nat), (none : Option Addr), cL ((s2 ++ [(ts[i]!, ts[j]!)]).map fun r => dat (eP r)))]
          rw [List.map_append]
          rfl
      · refine sw_nil ⟨s2, ?_, by repeat (first | exact Wk.nil | apply Wk.cons | apply Wk.no), rfl⟩
        rw [List.length_append, List.length_singleton, hwl, inIdx_succ, if_neg (by rw [← h]; exact Bool.false_ne_true), List.append_nil]
        exact hs2
    · rw [List.length_range] at hs2
      refine sw_nil ⟨s2, ?_, by repeat (first | exact Wk.nil | apply Wk.cons | apply Wk.no), rfl⟩
      rw [List.length_append, List.length_singleton, hyl, hs2, ← List.map_append]
      rfl
  rw [List.length_range] at hs
  have hs : s = rds ts ch := hs
  subst hs
  have hweb : WebOk ts (rds ts ch) := rds_ok hts hn1 hn8 ch
  have h0t : 0 < ts.length := by omega
  refine sw_setO 7 nd_L_plains ef_dict ?_
  refine sw_set 8 nd_L_plains (T := dat (eL [ts[0]!])) (EvG.drop (EvG.drop (EvD.g (ev_lstD (ds := [.str ts[0]!]) (ea1 (at_eL (n := 0) h0t (ev_var 1) ev_int)) (by show 1 ≤ 1000; decide))))) ?_
  refine sw_setE 9 nd_L_plains (P := fun l : Nat => l ≤ 6) (R := fun l => dat (.int (l : Int))) (EvG.drop (EvG.drop (EvD.g (ev_eight (ns := [0, 1, 2, 3, 4, 5, 6, 6]) rfl (by decide) (ev_lst (ea_cons ev_int (ea_cons ev_int (ea_cons ev_int (ea_cons ev_int (ea_cons ev_int (ea_cons ev_int (ea2 ev_int ev_int))))))) (by show 8 ≤ 1000; decide)) (ev_take (n := 8) T hz hr (by decide) (by decide) (by decide) (ev_var 0) ev_int))))) fun lg hlg => ?_
  refine sw_swap (sw_freeze (sw_sub 4 rfl (U := dat (.list ((rds ts ch).map eP))) (fun v G h => eLf_of (cL_ty.mp h)) ?_))
  refine sw_forS (S := List Str × Plans × List Str) (J := [10]) (g := gName 10) ks (fun x => dat (.str x)) (fun ys s => s.1 = ys ∧ PlainSt ts (rds ts ch) ys s.2.1 s.2.2) (fun s => slots N_L_plains [some (tRaw (.ref st)), some (dat (eL ts)), some (dat (eL ks)), some (dat (.bool ch)), some (dat (.list ((rds ts ch).map eP))), none, none, none, some (dat (eL s.2.2)), some (dat (.int (lg : Int)))]) (fun s => [(7, none, cDK (s.1.map fun n => (.inr n, dat (eT (s.2.1 n)))))])
    (fun s x => (slots N_L_plains [some (tRaw (.ref st)), some (dat (eL ts)), some (dat (eL ks)), some (dat (.bool ch)), some (dat (.list ((rds ts ch).map eP))), none, none, none, some (dat (eL s.2.2)), some (dat (.int (lg : Int)))]).set 10 (some (dat (.str x)))) PassesOwn.never rfl (ei_listA ks (fun x => dat (.str x)) (eL_toL (ev_var 2))) (pg_name nd_L_plains rfl (Or.inl rfl))
    (fun s x => tr_name 10) (fun s q m => by rw [List.mem_singleton.mp m]; show (7 : Nat) ∉ [10]; decide) ⟨([], fun _ => [], [ts[0]!]), ⟨rfl, rowOk_one (nth_bang h0t), fun _ m => nomatch m⟩, by repeat (first | exact Wk.nil | apply Wk.cons | apply Wk.no), rfl⟩ (fun ys x zs s e hs => ?_) fun s hs => ?_
  · obtain ⟨ys', pl, row⟩ := s
    obtain ⟨e1, hst⟩ := hs
    have e1 : ys' = ys := e1
    subst e1
    have hst : PlainSt ts (rds ts ch) ys' pl row := hst
    have hxy : x ∉ ys' := fun m => by
      have := hks.nd
      rw [e] at this
      exact (List.nodup_append.mp this).2.2 x m x List.mem_cons_self rfl
    have hyl : ys'.length < 7 := by
      have := congrArg List.length e
      rw [List.length_append, List.length_cons] at this
      omega
    refine sw_whenK (P := fun _ => True) (fun r : List Str => RowOk ts (rds ts ch) r) (fun r => (slots N_L_plains [some (tRaw (.ref st)), some (dat (eL ts)), some (dat (eL ks)), some (dat (.bool ch)), some (dat (.list ((rds ts ch).map eP))), none, none, none, some (dat (eL r)), some (dat (.int (lg : Int))), some (dat (.str x))])) (fun _ => [(7, none, cDK (ys'.map fun n => (.inr n, dat (eT (pl n)))))]) (EvGB.drop (EvB.g (EvB.imp (eb_gtE (ev_take (n := 5) T hz hr (by decide) (by decide) (by decide) (ev_var 0) ev_int) ev_int) fun _ _ => trivial))) (fun _ => ?_) (fun _ => ⟨row, hst.row, by repeat (first | exact Wk.nil | apply Wk.cons | apply Wk.no), rfl⟩) fun r hrow => ?_
    · refine sw_setE 11 nd_L_plains (P := fun j : Nat => j < ts.length) (R := fun j => dat (.int (j : Int))) (EvG.drop (EvD.g (EvD.imp (ev_pick (α := Unit) T [(), (), (), ()] (fun _ => tBelow ts.length) hz hr (by decide) (by decide) (by decide) (ev_var 0) (ev_lst (ea_cons (EvD.imp ev_int fun v G t => ⟨0, h0t, t⟩) (ea_cons (EvD.imp ev_int fun v G t => ⟨0, h0t, t⟩) (ea2 (EvD.imp ev_int fun v G t => ⟨0, h0t, t⟩) (ev_take T hz hr (by decide) (by omega) h0t (ev_var 0) (lenEL T.len_ (ev_var 1)))))) (by show 4 ≤ 1000; decide))) fun v G ⟨_, _, t⟩ => t))) fun at0 hat0 => ?_
      refine sw_setO 8 nd_L_plains (C := cL ([ts[at0]!].map fun t => dat (.str t))) (ef_lst (ga_cons (EvG.drop (EvD.g (at_eL (n := at0) hat0 (ev_var 1) (ev_var 11)))) ga_nil) (by show 1 ≤ 1000; decide)) ?_
      refine sw_forSX (S := Nat × List Str) (J := [12]) (g := gName 12) (P := fun j : Nat => j < 1 + lg / 2) (fun j => List.range ((lg : Int) - (j : Int)).toNat) (fun i => dat (.int (i : Int))) (fun j ws s => s.1 < ts.length ∧ s.2.length = 1 + ws.length ∧ (∀ t ∈ s.2, t ∈ ts) ∧ StepsOk (rds ts ch) s.2 ∧ s.2[s.2.length - 1]! = ts[s.1]!) (fun s => slots N_L_plains [some (tRaw (.ref st)), some (dat (eL ts)), some (dat (eL ks)), some (dat (.bool ch)), some (dat (.list ((rds ts ch).map eP))), none, none, none, none, some (dat (.int (lg : Int))), some (dat (.str x)), some (dat (.int (s.1 : Int)))]) (fun s => [(8, none, cL (s.2.map fun t => dat (.str t))), (7, none, cDK (ys'.map fun n => (.inr n, dat (eT (pl n)))))])
        (fun s i => (slots N_L_plains [some (tRaw (.ref st)), some (dat (eL ts)), some (dat (eL ks)), some (dat (.bool ch)), some (dat (.list ((rds ts ch).map eP))), none, none, none, none, some (dat (.int (lg : Int))), some (dat (.str x)), some (dat (.int (s.1 : Int)))]).set 12 (some (dat (.int (i : Int))))) PassesOwn.never rfl (eix_rangeA (f := fun j : Nat => (lg : Int) - (j : Int)) T.range_ (fun j hj => by omega) (ev_subE (f := fun j : Nat => (j : Int)) (ev_var 9) (ev_take (n := 1 + lg / 2) T hz hr (by decide) (by omega) (by omega) (ev_var 0) (EvD.imp (ev_add ev_int (ev_fdiv ⟨by decide, by decide⟩ (ev_var 9) ev_int)) fun v G t => by
          rw [show (1 : Int) + (lg : Int) / 2 = ((1 + lg / 2 : Nat) : Int) from by omega] at t
          exact t)))) (pg_name nd_L_plains rfl (Or.inl rfl))
        (fun s i => tr_name 12) (fun s q m => ?_) (fun j hj => ⟨(at0, [ts[at0]!]), ⟨hat0, rfl, (rowOk_one (rs := rds ts ch) (nth_bang hat0)).inn, (rowOk_one (rs := rds ts ch) (nth_bang hat0)).st, rfl⟩, by repeat (first | exact Wk.nil | apply Wk.cons | apply Wk.no), rfl⟩) (fun j hj ws i us s2 e2 hs2 => ?_) fun j hj s2 hs2 => ?_
      · simp only [List.mem_cons, List.not_mem_nil, or_false] at m
        rcases m with rfl | rfl
        · show (8 : Nat) ∉ [12]; decide
        · show (7 : Nat) ∉ [12]; decide
      · obtain ⟨a, r⟩ := s2
        obtain ⟨ha, hrl, hri, hrs, hra⟩ := hs2
        have ha : a < ts.length := ha
        have hrl : r.length = 1 + ws.length := hrl
        have hri : ∀ t ∈ r, t ∈ ts := hri
        have hrs : StepsOk (rds ts ch) r := hrs
        have hra : r[r.length - 1]! = ts[a]! := hra
        obtain ⟨hi, hws⟩ := range_at e2
        have hwl : ws.length = i := by rw [hws, List.length_range]
        have hin : a ∈ (List.range ts.length).filter (stepB ch a) := List.mem_filter.mpr ⟨List.mem_range.mpr ha, by unfold stepB; simp⟩
        refine sw_setE 11 nd_L_plains (P := fun b : Nat => b ∈ (List.range ts.length).filter (stepB ch a)) (R := fun b => dat (.int (b : Int))) (EvG.drop (EvG.drop (EvD.g (ev_pick T ((List.range ts.length).filter (stepB ch a)) (fun b : Nat => dat (.int (b : Int))) hz hr (by decide) (List.length_pos_of_mem hin) ?_ (ev_var 0) (ev_lc1 (List.range ts.length) (fun j => dat (.int (j : Int))) (stepB ch a) (fun j => dat (.int (j : Int))) 6 rfl nd_L_plains (ei_rangeA (m := (ts.length : Int)) ts.length (by omega) T.range_ (by omega) (lenEL T.len_ (ev_var 1))) (blkOk_by (N := N_L_plains) (sc := defScope s_L_plains) (by decide +kernel)) (fun _ _ _ _ _ => pg_name nd_L_plains rfl (Or.inl rfl))
          (fun b m _ _ _ _ _ => et_one (EvB.imp (EvW.eb (ew_or (eb_notV (eb_val (ev_var 3))) fun h => ew_or1 (eb_ltlt (ev_neg ev_int) (ev_sub (ev_var 6) (ev_var 11)) ev_int))) fun c h => ?_)) (fun b m _ _ _ _ _ _ => ev_var 6) (by rw [List.length_range]; omega)))))) fun b hb => ?_
        · exact Nat.le_trans (List.length_filter_le _ _) (by rw [List.length_range]; omega)
        · rw [h]
          rfl
        · obtain ⟨hb1, hb2⟩ := List.mem_filter.mp hb
          have hb1 := List.mem_range.mp hb1
          refine sw_app (T := dat (.str ts[b]!)) (EvG.drop (EvG.drop (EvD.g (at_eL (n := b) hb1 (ev_var 1) (ev_var 11))))) (by rw [List.length_map]; omega) ?_
          refine sw_nil ⟨(b, r ++ [ts[b]!]), ⟨hb1, ?_, fun t mt => ?_, hrs.snoc (by omega) (by rw [hra]; exact step_near ha hb1 hb2), ?_⟩, by repeat (first | exact Wk.nil | apply Wk.cons | apply Wk.no), ?_⟩
          · show (r ++ [ts[b]!]).length = _
            rw [List.length_append, List.length_append, hrl]
            rfl
          · rcases List.mem_append.mp mt with mt | mt
            · exact hri t mt
            · rw [List.mem_singleton.mp mt]
              exact nth_bang hb1
          · show (r ++ [ts[b]!])[(r ++ [ts[b]!]).length - 1]! = ts[b]!
            have e3 : (r ++ [ts[b]!])[(r ++ [ts[b]!]).length - 1]! = [ts[b]!][(r ++ [ts[b]!]).length - 1 - r.length]! := bang_app_r (by rw [List.length_append, List.length_singleton]; omega) (by rw [List.length_append, List.length_singleton]; omega)
            rw [e3, List.length_append, List.length_singleton, show r.length + 1 - 1 - r.length = 0 from by omega]
            rfl
          · show _ = [((8 : Nat), (none : Option Addr), cL ((r ++ [ts[b]!]).map fun t => dat (.str t))), (7, none, cDK (ys'.map fun n => (.inr n, dat (eT (pl n)))))]
            rw [List.map_append]
            rfl
      · obtain ⟨a, r⟩ := s2
        obtain ⟨ha, hrl, hri, hrs, hra⟩ := hs2
        have hrl : r.length = 1 + (List.range ((lg : Int) - (j : Int)).toNat).length := hrl
        rw [List.length_range] at hrl
        have hri : ∀ t ∈ r, t ∈ ts := hri
        have hrs : StepsOk (rds ts ch) r := hrs
        refine sw_freeze (sw_sub 8 rfl (U := dat (eL r)) (fun v G h => eLf_of (f := PyData.str) (cL_ty.mp h)) ?_)
        exact sw_nil ⟨r, ⟨⟨by omega, by omega⟩, hri, hrs⟩, by repeat (first | exact Wk.nil | apply Wk.cons | apply Wk.no), rfl⟩
    · refine sw_dput (T := dat (eT r)) (kk := .inr x) (hu1 hr) (EvG.drop (EvD.g (EvD.imp (ev_tupL T.tuple_ (eL_toL (ev_var 8))) fun v G t => eT_of t))) (EvG.drop (EvD.g (EvD.rawS (ev_var 10)))) (by rw [List.length_map]; omega) ?_
      rw [put_new ys' hxy]
      refine sw_nil ⟨(ys' ++ [x], fun n => if n = x then r else pl n, r), ⟨rfl, hrow, fun n m => ?_⟩, by repeat (first | exact Wk.nil | apply Wk.cons | apply Wk.no), ?_⟩
      · show RowOk ts (rds ts ch) (if n = x then r else pl n)
        by_cases c : n = x
        · rw [if_pos c]; exact hrow
        · rw [if_neg c]
          rcases List.mem_append.mp m with m | m
          · exact hst.all n m
          · exact absurd (List.mem_singleton.mp m) c
      · show _ = [((7 : Nat), (none : Option Addr), cDK ((ys' ++ [x]).map fun n => ((.inr n : L2.Key), dat (eT (if n = x then r else pl n)))))]
        rw [List.map_append]
        have e3 : (ys'.map fun n => ((.inr n : L2.Key), dat (eT (pl n)))) = ys'.map fun n => ((.inr n : L2.Key), dat (eT (if n = x then r else pl n))) := List.map_congr_left fun n m => by
          rw [if_neg fun c : n = x => hxy (c ▸ m)]
        rw [e3, List.map_singleton, if_pos rfl]
  · obtain ⟨ys', pl, row⟩ := s
    obtain ⟨e1, hst⟩ := hs
    have e1 : ys' = ks := e1
    subst e1
    have hst : PlainSt ts (rds ts ch) ys' pl row := hst
    have hwo : WorldOk ts (rds ts ch) ys' pl := ⟨hweb, ⟨by omega, hks.nm, hks.nd, fun n m => ⟨(hst.all n m).len, fun t mt => hts.nm t ((hst.all n m).inn t mt)⟩⟩, fun n m t mt => (hst.all n m).inn t mt, fun n m => (hst.all n m).st⟩
    refine sw_freeze (sw_sub 7 rfl (U := tPl ys' pl) (fun v G h => cDK_ty.mp h) ?_)
    exact sw_retT (U := tSketch) rfl (EvD.g (EvD.imp (ev_lst (ea_cons (ev_var 1) (ea2 (ev_var 4) (ev_var 7))) (by show 3 ≤ 1000; decide)) fun v G t => ⟨(ts, rds ts ch, ys', pl), hwo, t⟩)) rfl
end
end K37
end
section
set_option maxRecDepth 100000
set_option maxHeartbeats 4000000
/-! W21: the law's own replay. -/
namespace K37
open PySem PySem.Spec PyProof.Rows L2
open Z
def eDue : Option Why → PyData
  | none => .list []
  | some w => .list w.row
section
variable {P : Program} {w : World} {K : PySem.W.Frag} {mg : Str → Option Value} {base : Heap}
def tSk (i : WIx) : Z.Ty := tL [dat (eL i.1), dat (.list (i.2.1.map eP)), tPl i.2.2.1 i.2.2.2]
def pMade (K : PySem.W.Frag) : Pr WIx := ⟨fun i => i.ok, fun i => [tSk i], fun i => tWo K i⟩
theorem cb_L_made (T : Txt K mg) : Cb CX0 P w K mg base 7 "_law_made" ["_law_sketch"] (pMade K).sp := by
  refine cb_pr T.f_L_made sc_L_made bd_L_made (fun _ => rfl) fun f cdv A outer s H E i z hr pz hp => ?_
  have hw : i.ok := hp
  exact sw_retT rfl (EvD.g (ev_make i (ib_World T) hr (by decide) hw (ea2 (ev_make (i.1, i.2.1) (ib_Web T) hr (by decide) hw.web (ea2 (EvD.imp (ev_listL T.list_ (eL_toL (ev_ixL (T := dat (eL i.1)) rfl (ev_var 0) ev_int))) fun v G t => eLf_of (f := PyData.str) t) (EvD.imp (ev_listL T.list_ (mapL (ev_ixL (T := dat (.list (i.2.1.map eP))) rfl (ev_var 0) ev_int))) fun v G t => eLf_of t))) (ev_dictD T.dict_ (EvD.rd (ev_ixL (T := tPl i.2.2.1 i.2.2.2) rfl (ev_var 0) ev_int)))))) rfl
def pDue : Pr (List Str × Plans × Deed) := ⟨fun _ => True, fun i => [tPl i.1 i.2.1, dat (eD i.2.2)], fun i => dat (eDue (why i.1 i.2.1 i.2.2))⟩
theorem cb_L_deed_due (T : Txt K mg) : Cb CX0 P w K mg base 1 "_law_deed_due" ["_law_plans", "_law_deed"] pDue.sp := by
  refine cb_pr T.f_L_deed_due sc_L_deed_due bd_L_deed_due (fun _ => rfl) fun f cdv A outer s H E i z hr pz hp => ?_
  obtain ⟨ks, pl, t⟩ := i
  have hu := hu1 hr
  refine sw_asg (g := g3 K 2 3 4) (EvD.g (asgD (ev_var 1))) (pg_tup rfl (pgs_cons (pg_name nd_L_deed_due rfl (Or.inl rfl)) (pgs_cons (pg_name nd_L_deed_due rfl (Or.inl rfl)) (pgs_cons (pg_name nd_L_deed_due rfl (Or.inl rfl)) pgs_nil)))) (tr_tup3 2 3 4) ?_
  refine sw_forS (S := Unit) (J := [5]) (g := gName 5) [t.1, t.2.1] (fun n => dat (.str n)) (fun ys _ => ∀ n ∈ ys, n ∈ ks) (fun _ => slots N_L_deed_due [some (tPl ks pl), some (dat (eD t)), some (dat (.str t.1)), some (dat (.str t.2.1)), some (dat (.int (t.2.2 : Int)))]) (fun _ => [])
    (fun _ n => (slots N_L_deed_due [some (tPl ks pl), some (dat (eD t)), some (dat (.str t.1)), some (dat (.str t.2.1)), some (dat (.int (t.2.2 : Int)))]).set 5 (some (dat (.str n)))) PassesOwn.never rfl (ei_tupA [t.1, t.2.1] (fun n => dat (.str n)) (ev_tup (ea2 (ev_var 2) (ev_var 3)) (Nat.le_of_ble_eq_true rfl))) (pg_name nd_L_deed_due rfl (Or.inl rfl)) (fun _ n => tr_name 5) (fun _ q m => nomatch m) ⟨(), (fun _ m => nomatch m), Wk.rfl' _, rfl⟩ (fun ys n zs _ e hy => ?_) fun _ hall => ?_
  · refine sw_when (EvB.g (eb_dnin (kk := .inr n) hu (EvD.rawS (ev_var 5)) (EvD.rd (ev_var 0)))) (fun h => ?_) fun h => sw_nil ⟨(), fun m hm => ?_, by repeat (first | exact Wk.nil | apply Wk.cons | apply Wk.no), rfl⟩
    · rw [look_str] at h
      have hn : n ∉ ks := fun c => by rw [if_pos c] at h; cases h
      refine sw_retT rfl (EvD.g (ev_lstD (ds := [.str "UnknownTraveller", .str n]) (ea2 ev_str (ev_var 5)) (by show 2 ≤ 1000; decide))) (congrArg dat ?_)
      show _ = eDue (why ks pl t)
      match ys, e with
      | [], e =>
        have e1 : t.1 = n := (List.cons.inj e).1
        unfold why
        rw [e1, if_pos hn]
        rfl
      | [a], e =>
        have e1 : t.1 = a := (List.cons.inj e).1
        have e2 : t.2.1 = n := (List.cons.inj (List.cons.inj e).2).1
        have ha : a ∈ ks := hy a (by simp)
        unfold why
        rw [e1, if_neg (fun q => q ha), e2, if_pos hn]
        rfl
      | _ :: _ :: _, e => simp at e
    · rcases List.mem_append.mp hm with hm | hm
      · exact hy m hm
      · rw [List.mem_singleton.mp hm]
        rw [look_str] at h
        by_cases c : n ∈ ks
        · exact c
        · rw [if_neg c] at h
          cases h
  · have hx : t.1 ∈ ks := hall _ (by simp)
    have hyk : t.2.1 ∈ ks := hall _ (by simp)
    refine sw_when (EvB.g (eb_eqS (ev_var 2) (ev_var 3))) (fun h => ?_) fun h => ?_
    · have e : t.1 = t.2.1 := of_decide_eq_true h.symm
      refine sw_retT rfl (EvD.g (ev_lstD (ds := [.str "SameTraveller", .str t.1]) (ea2 ev_str (ev_var 2)) (by show 2 ≤ 1000; decide))) (congrArg dat ?_)
      show _ = eDue (why ks pl t)
      unfold why
      rw [if_neg (fun q => q hx), if_neg (fun q => q hyk), if_pos e]
      rfl
    · have e : ¬ t.1 = t.2.1 := of_decide_eq_false h.symm
      refine sw_forS (S := Unit) (J := [5]) (g := gName 5) [t.1, t.2.1] (fun n => dat (.str n)) (fun ys _ => ∀ n ∈ ys, t.2.2 < (pl n).length) (fun _ => slots N_L_deed_due [some (tPl ks pl), some (dat (eD t)), some (dat (.str t.1)), some (dat (.str t.2.1)), some (dat (.int (t.2.2 : Int)))]) (fun _ => [])
        (fun _ n => (slots N_L_deed_due [some (tPl ks pl), some (dat (eD t)), some (dat (.str t.1)), some (dat (.str t.2.1)), some (dat (.int (t.2.2 : Int)))]).set 5 (some (dat (.str n)))) PassesOwn.never rfl (ei_tupA [t.1, t.2.1] (fun n => dat (.str n)) (ev_tup (ea2 (ev_var 2) (ev_var 3)) (Nat.le_of_ble_eq_true rfl))) (pg_name nd_L_deed_due rfl (Or.inl rfl)) (fun _ n => tr_name 5) (fun _ q m => nomatch m) ⟨(), (fun _ m => nomatch m), Wk.rfl' _, rfl⟩ (fun ys n zs _ e2 hy => ?_) fun _ hl => ?_
      · have mn : n ∈ [t.1, t.2.1] := by rw [e2]; simp
        have hn : n ∈ ks := hall n mn
        refine sw_when (EvB.g (eb_ge (ev_var 4) (lenP T.len_ (getP hu hn (ev_var 0) (ev_var 5))))) (fun h => ?_) fun h => sw_nil ⟨(), fun m hm => ?_, by repeat (first | exact Wk.nil | apply Wk.cons | apply Wk.no), rfl⟩
        · have hle : (pl n).length ≤ t.2.2 := by
            have := of_decide_eq_true h.symm
            omega
          refine sw_retT rfl (EvD.g (ev_lstD (ds := [.str "PlanOver", .str n, .int (t.2.2 : Int)]) (ea_cons ev_str (ea2 (ev_var 5) (ev_var 4))) (by show 3 ≤ 1000; decide))) (congrArg dat ?_)
          show _ = eDue (why ks pl t)
          unfold why
          rw [if_neg (fun q => q hx), if_neg (fun q => q hyk), if_neg e]
          match ys, e2 with
          | [], e2 =>
            have e1 : t.1 = n := (List.cons.inj e2).1
            rw [if_pos (by rw [e1]; exact hle), e1]
            rfl
          | [a], e2 =>
            have e1 : t.1 = a := (List.cons.inj e2).1
            have e3 : t.2.1 = n := (List.cons.inj (List.cons.inj e2).2).1
            have ha := hy a (by simp)
            rw [if_neg (by rw [e1]; omega), if_pos (by rw [e3]; exact hle), e3]
            rfl
          | _ :: _ :: _, e2 => simp at e2
        · rcases List.mem_append.mp hm with hm | hm
          · exact hy m hm
          · rw [List.mem_singleton.mp hm]
            have := of_decide_eq_false h.symm
            omega
      · have lx : t.2.2 < (pl t.1).length := hl _ (by simp)
        have ly : t.2.2 < (pl t.2.1).length := hl _ (by simp)
        refine sw_when (EvB.g (eb_neS (at_eT lx (getP hu hx (ev_var 0) (ev_var 2)) (ev_var 4)) (at_eT ly (getP hu hyk (ev_var 0) (ev_var 3)) (ev_var 4)))) (fun h => ?_) fun h => ?_
        · have ne : (pl t.1)[t.2.2]! ≠ (pl t.2.1)[t.2.2]! := by
            intro q
            rw [decide_eq_true q] at h
            cases h
          refine sw_retT rfl (EvD.g (ev_lstD (ds := [.str "UnlikeTowns", .str (pl t.1)[t.2.2]!, .str (pl t.2.1)[t.2.2]!]) (ea_cons ev_str (ea2 (at_eT lx (getP hu hx (ev_var 0) (ev_var 2)) (ev_var 4)) (at_eT ly (getP hu hyk (ev_var 0) (ev_var 3)) (ev_var 4)))) (by show 3 ≤ 1000; decide))) (congrArg dat ?_)
          show _ = eDue (why ks pl t)
          unfold why
          rw [if_neg (fun q => q hx), if_neg (fun q => q hyk), if_neg e, if_neg (by omega), if_neg (by omega), if_pos ne]
          rfl
        · have eq : (pl t.1)[t.2.2]! = (pl t.2.1)[t.2.2]! := by
            by_cases q : (pl t.1)[t.2.2]! = (pl t.2.1)[t.2.2]!
            · exact q
            · rw [decide_eq_false q] at h
              cases h
          refine sw_retT rfl (EvD.g (ev_lstD (ds := []) ea_nil (by show 0 ≤ 1000; decide))) (congrArg dat ?_)
          show _ = eDue (why ks pl t)
          rw [why_none.mpr ⟨hx, hyk, e, lx, ly, eq⟩]
          rfl
theorem cb_L_exchanged (T : Txt K mg) : Cb CX0 P w K mg base 1 "_law_exchanged" ["_law_plans", "_law_deed"] pAfter.sp := by
  refine cb_pr T.f_L_exchanged sc_L_exchanged bd_L_exchanged (fun _ => rfl) fun f cdv A outer s H E i z hr pz hp => ?_
  obtain ⟨ks, pl, t⟩ := i
  obtain ⟨ft, hkl, hlx, hly⟩ := hp
  have ft : Fits ks pl t := ft
  have hkl : ks.length ≤ 100 := hkl
  have hlx : (pl t.1).length ≤ 100 := hlx
  have hly : (pl t.2.1).length ≤ 100 := hly
  have hu := hu1 hr
  refine sw_asg (g := g3 K 2 3 4) (EvD.g (asgD (ev_var 1))) (pg_tup rfl (pgs_cons (pg_name nd_L_exchanged rfl (Or.inl rfl)) (pgs_cons (pg_name nd_L_exchanged rfl (Or.inl rfl)) (pgs_cons (pg_name nd_L_exchanged rfl (Or.inl rfl)) pgs_nil)))) (tr_tup3 2 3 4) ?_
  refine sw_setO 5 nd_L_exchanged (C := cDK (ks.map fun n => (.inr n, dat (eT (pl n))))) (ef_dictD T.dict_ (EvD.g (EvD.rd (ev_var 0)))) ?_
  refine sw_dput (T := dat (eT (cross (pl t.1) (pl t.2.1) t.2.2))) (kk := .inr t.1) hu (EvG.drop (EvD.g (ev_cross hlx hly (getP hu ft.x (ev_var 0) (ev_var 2)) (ev_add (ev_var 4) ev_int) (getP hu ft.y (ev_var 0) (ev_var 3)) (ev_add (ev_var 4) ev_int)))) (EvG.drop (EvD.g (EvD.rawS (ev_var 2)))) (by rw [List.length_map]; omega) ?_
  rw [put_pl ft.x]
  refine sw_dput (T := dat (eT (cross (pl t.2.1) (pl t.1) t.2.2))) (kk := .inr t.2.1) hu (EvG.drop (EvD.g (ev_cross hly hlx (getP hu ft.y (ev_var 0) (ev_var 3)) (ev_add (ev_var 4) ev_int) (getP hu ft.x (ev_var 0) (ev_var 2)) (ev_add (ev_var 4) ev_int)))) (EvG.drop (EvD.g (EvD.rawS (ev_var 3)))) (by rw [List.length_map]; omega) ?_
  rw [put_pl (pl := fun n => if n = t.1 then cross (pl t.1) (pl t.2.1) t.2.2 else pl n) ft.y]
  refine sw_freeze ?_
  exact sw_retT rfl (EvD.g (EvD.imp (ev_var 5) fun v G h => cDK_ty.mp h)) rfl
end
end K37
end
section
set_option maxRecDepth 100000
set_option maxHeartbeats 4000000
/-! W22: fitting, histories drawn, replay, refused. -/
namespace K37
open PySem PySem.Spec PyProof.Rows L2
open Z
theorem ei_range2A {X : Cx} {z : Zn} {δ : List (Option Z.Ty)} {tg a b : Expr} {p pos : Pos} {m l : Int} (n : Nat) (hn : (m - l).toNat = n) (hm : X.mg "range" = none) (hb : -1000 ≤ l ∧ l ≤ 1000 ∧ -1000 ≤ m ∧ m ≤ 1000) (ha : EvD X z δ a (dat (.int l))) (hb' : EvD X z δ b (dat (.int m))) (hg : Gl X "range" := by rfl) (hs : starEach [a, b] X.env = [(false, eval a X.env), (false, eval b X.env)] := by rfl) (hs1 : starEach [a, b] X.env = (false, eval a X.env) :: starEach [b] X.env := by rfl) (hs2 : starEach [b] X.env = (false, eval b X.env) :: starEach [] X.env := by rfl) (hs3 : starEach [b] X.env = [(false, eval b X.env)] := by rfl) :
    EvI X z δ tg (.Call (.Name "range" p) [a, b] [] pos) (List.range n).length (fun i => (fun (j : Nat) => dat (.int (l + (j : Int)))) (List.range n)[i]!) := by
  have h := ei_range2 (tg := tg) (p := p) (pos := pos) hm (m := m) (l := l) ⟨by omega, by omega, by omega, by omega⟩ ha hb' hg hs hs1 hs2 hs3
  rw [hn] at h
  exact ei_ix h
section
variable {P : Program} {w : World} {K : PySem.W.Frag} {mg : Str → Option Value} {base : Heap}
/-! ### the deeds that fit -/
def tFits (ks : List Str) (pl : Plans) : Z.Ty := tEx (fun hs : List Deed => (∀ t ∈ hs, Fits ks pl t ∧ t.2.2 ≤ 6) ∧ hs.length ≤ 300) fun hs => dat (eH hs)
def pFitting : Pr (List Str × Plans) := ⟨fun i => i.1.Nodup ∧ i.1.length ≤ 6, fun i => [tPl i.1 i.2], fun i => tFits i.1 i.2⟩
theorem cb_L_fitting (T : Txt K mg) : Cb CX0 P w K mg base 1 "_law_fitting" ["_law_plans"] pFitting.sp := by
  refine cb_pr T.f_L_fitting sc_L_fitting bd_L_fitting (fun _ => rfl) fun f cdv A outer s H E i z hr pz hp => ?_
  obtain ⟨ks, pl⟩ := i
  obtain ⟨hnd, hk6⟩ := hp
  have hnd : ks.Nodup := hnd
  have hk6 : ks.length ≤ 6 := hk6
  have hsl := sortN_len ks
  have hu := hu1 hr
  have snd : (sortN ks).Nodup := (sortN_perm ks).nodup_iff.mpr hnd
  refine sw_set 1 nd_L_fitting (T := tL ((sortN ks).map fun n => dat (.str n))) (EvD.g (ev_sortPl T.sorted_ hk6 (ev_var 0))) ?_
  refine sw_setO 2 nd_L_fitting ef_nil ?_
  refine sw_forS (S := List Deed) (J := [3]) (g := gName 3) (List.range 7) (fun d => dat (.int (d : Int))) (fun ys s => (∀ t ∈ s, Fits ks pl t ∧ t.2.2 ≤ 6) ∧ s.length ≤ ys.length * 36) (fun _ => slots N_L_fitting [some (tPl ks pl), some (tL ((sortN ks).map fun n => dat (.str n))), none]) (fun s => [(2, none, cH s)])
    (fun _ d => (slots N_L_fitting [some (tPl ks pl), some (tL ((sortN ks).map fun n => dat (.str n))), none]).set 3 (some (dat (.int (d : Int))))) PassesOwn.never rfl (ei_rangeA (m := 7) 7 rfl T.range_ (by decide) ev_int) (pg_name nd_L_fitting rfl (Or.inl rfl))
    (fun _ d => tr_name 3) (fun _ q m => by rw [List.mem_singleton.mp m]; show (2 : Nat) ∉ [3]; decide) ⟨[], ⟨(fun _ m => nomatch m), Nat.zero_le _⟩, by repeat (first | exact Wk.nil | apply Wk.cons | apply Wk.no), rfl⟩ (fun ys d zs s e hs => ?_) fun s hs => ?_
  · obtain ⟨hd, hys⟩ := range_at e
    have hyl : ys.length = d := by rw [hys, List.length_range]
    obtain ⟨hs1, hs2⟩ := hs
    rw [hyl] at hs2
    refine sw_forS (S := List Deed) (J := [4]) (g := gName 4) (List.range (sortN ks).length) (fun i => dat (.int (i : Int))) (fun ws s2 => (∀ t ∈ s2, Fits ks pl t ∧ t.2.2 ≤ 6) ∧ s2.length ≤ d * 36 + ws.length * 6) (fun _ => slots N_L_fitting [some (tPl ks pl), some (tL ((sortN ks).map fun n => dat (.str n))), none, some (dat (.int (d : Int)))]) (fun s => [(2, none, cH s)])
      (fun _ i => (slots N_L_fitting [some (tPl ks pl), some (tL ((sortN ks).map fun n => dat (.str n))), none, some (dat (.int (d : Int)))]).set 4 (some (dat (.int (i : Int))))) PassesOwn.never rfl (ei_rangeA (m := ((sortN ks).length : Int)) (sortN ks).length (by omega) T.range_ (by omega) (EvD.imp (ev_lenL (Us := (sortN ks).map fun n => dat (.str n)) T.len_ (ev_var 1)) fun v G t => by rw [List.length_map] at t; exact t)) (pg_name nd_L_fitting rfl (Or.inl rfl))
      (fun _ i => tr_name 4) (fun _ q m => by rw [List.mem_singleton.mp m]; show (2 : Nat) ∉ [4]; decide) ⟨s, ⟨hs1, hs2⟩, by repeat (first | exact Wk.nil | apply Wk.cons | apply Wk.no), rfl⟩ (fun ws i us s2 e2 hs3 => ?_) fun s2 hs3 => ?_
    · obtain ⟨hi, hws⟩ := range_at e2
      have hwl : ws.length = i := by rw [hws, List.length_range]
      obtain ⟨h31, h32⟩ := hs3
      rw [hwl] at h32
      refine sw_forS (S := List Deed) (J := [5]) (g := gName 5) (List.range ((sortN ks).length - (i + 1))) (fun j => dat (.int (((i : Int) + 1) + (j : Int)))) (fun vs s4 => (∀ t ∈ s4, Fits ks pl t ∧ t.2.2 ≤ 6) ∧ s4.length ≤ d * 36 + i * 6 + vs.length) (fun _ => slots N_L_fitting [some (tPl ks pl), some (tL ((sortN ks).map fun n => dat (.str n))), none, some (dat (.int (d : Int))), some (dat (.int (i : Int)))]) (fun s => [(2, none, cH s)])
        (fun _ j => (slots N_L_fitting [some (tPl ks pl), some (tL ((sortN ks).map fun n => dat (.str n))), none, some (dat (.int (d : Int))), some (dat (.int (i : Int)))]).set 5 (some (dat (.int (((i : Int) + 1) + (j : Int)))))) PassesOwn.never rfl ?_ (pg_name nd_L_fitting rfl (Or.inl rfl))
        (fun _ j => tr_name 5) (fun _ q m => by rw [List.mem_singleton.mp m]; show (2 : Nat) ∉ [5]; decide) ⟨s2, ⟨h31, h32⟩, by repeat (first | exact Wk.nil | apply Wk.cons | apply Wk.no), rfl⟩ (fun vs j us s4 e3 hs5 => ?_) fun s4 hs5 => ?_
      · exact ei_range2A (m := ((sortN ks).length : Int)) (l := (i : Int) + 1) ((sortN ks).length - (i + 1)) (by omega) T.range_ (by omega) (ev_add (ev_var 4) ev_int) (EvD.imp (ev_lenL (Us := (sortN ks).map fun n => dat (.str n)) T.len_ (ev_var 1)) fun v G t => by rw [List.length_map] at t; exact t)
      · obtain ⟨hj, hvs⟩ := range_at e3
        have hvl : vs.length = j := by rw [hvs, List.length_range]
        obtain ⟨h51, h52⟩ := hs5
        rw [hvl] at h52
        have hjj : i + 1 + j < (sortN ks).length := by omega
        have ma : (sortN ks)[i]! ∈ ks := (sortN_mem ks _).mp (nth_bang hi)
        have mb : (sortN ks)[i + 1 + j]! ∈ ks := (sortN_mem ks _).mp (nth_bang hjj)
        have hne : (sortN ks)[i]! ≠ (sortN ks)[i + 1 + j]! := fun w => by
          have := nd_at snd hi hjj w
          omega
        have cst : ((i : Int) + 1 + (j : Int)) = ((i + 1 + j : Nat) : Int) := by omega
        refine sw_when (P := fun c => c = true → d < (pl (sortN ks)[i]!).length ∧ d < (pl (sortN ks)[i + 1 + j]!).length) (EvGB.drop (EvB.g (EvB.imp (eb_lt (ev_var 3) (ev_min2 rfl T.min_ (lenP T.len_ (getP hu ma (ev_var 0) (ev_ixL (T := dat (.str (sortN ks)[i]!)) (at_map (f := fun n => dat (.str n)) (at_nat hi)) (ev_var 1) (ev_var 4)))) (lenP T.len_ (getP hu mb (ev_var 0) (ev_ixL (T := dat (.str (sortN ks)[i + 1 + j]!)) (at_map (f := fun n => dat (.str n)) (at_nat hjj)) (ev_var 1) (EvD.imp (ev_var 5) fun v G t => by rw [cst] at t; exact t)))))) fun c h => ?_))) (fun h => ?_) fun h => ?_
        · intro hc
          rw [hc] at h
          have h := of_decide_eq_true h.symm
          split at h <;> omega
        · obtain ⟨lx, ly⟩ := h rfl
          refine sw_when (EvGB.drop (EvB.g (eb_eqS (at_eT lx (getP hu ma (ev_var 0) (ev_ixL (T := dat (.str (sortN ks)[i]!)) (at_map (f := fun n => dat (.str n)) (at_nat hi)) (ev_var 1) (ev_var 4))) (ev_var 3)) (at_eT ly (getP hu mb (ev_var 0) (ev_ixL (T := dat (.str (sortN ks)[i + 1 + j]!)) (at_map (f := fun n => dat (.str n)) (at_nat hjj)) (ev_var 1) (EvD.imp (ev_var 5) fun v G t => by rw [cst] at t; exact t))) (ev_var 3))))) (fun h2 => ?_) fun h2 => ?_
          · have heq := of_decide_eq_true h2.symm
            refine sw_app (T := dat (eD ((sortN ks)[i]!, (sortN ks)[i + 1 + j]!, d))) (EvG.drop (EvD.g (ev_tupD (ds := [.str (sortN ks)[i]!, .str (sortN ks)[i + 1 + j]!, .int (d : Int)]) (ea_cons (ev_ixL (T := dat (.str (sortN ks)[i]!)) (at_map (f := fun n => dat (.str n)) (at_nat hi)) (ev_var 1) (ev_var 4)) (ea2 (ev_ixL (T := dat (.str (sortN ks)[i + 1 + j]!)) (at_map (f := fun n => dat (.str n)) (at_nat hjj)) (ev_var 1) (EvD.imp (ev_var 5) fun v G t => by rw [cst] at t; exact t)) (ev_var 3))) (by show 3 ≤ 1000; decide)))) (by rw [List.length_map]; omega) ?_
            refine sw_nil (sw_nil (sw_nil ⟨s4 ++ [((sortN ks)[i]!, (sortN ks)[i + 1 + j]!, d)], ⟨fun t mt => ?_, ?_⟩, by repeat (first | exact Wk.nil | apply Wk.cons | apply Wk.no), ?_⟩))
            · rcases List.mem_append.mp mt with mt | mt
              · exact h51 t mt
              · rw [List.mem_singleton.mp mt]
                exact ⟨⟨ma, mb, hne, lx, ly, heq⟩, by show d ≤ 6; omega⟩
            · rw [List.length_append, List.length_append, hvl]
              show s4.length + 1 ≤ d * 36 + i * 6 + (j + 1)
              omega
            · show _ = [((2 : Nat), (none : Option Addr), cL ((s4 ++ [((sortN ks)[i]!, (sortN ks)[i + 1 + j]!, d)]).map fun t => dat (eD t)))]
              rw [List.map_append]
              rfl
          · exact sw_nil (sw_nil ⟨s4, ⟨h51, by rw [List.length_append, hvl]; omega⟩, by repeat (first | exact Wk.nil | apply Wk.cons | apply Wk.no), rfl⟩)
        · exact sw_nil ⟨s4, ⟨h51, by rw [List.length_append, hvl]; omega⟩, by repeat (first | exact Wk.nil | apply Wk.cons | apply Wk.no), rfl⟩
      · obtain ⟨h51, h52⟩ := hs5
        rw [List.length_range] at h52
        refine sw_nil ⟨s4, ⟨h51, ?_⟩, by repeat (first | exact Wk.nil | apply Wk.cons | apply Wk.no), rfl⟩
        rw [List.length_append, List.length_singleton, hwl]
        omega
    · obtain ⟨h31, h32⟩ := hs3
      rw [List.length_range] at h32
      refine sw_nil ⟨s2, ⟨h31, ?_⟩, by repeat (first | exact Wk.nil | apply Wk.cons | apply Wk.no), rfl⟩
      rw [List.length_append, List.length_singleton, hyl]
      omega
  · obtain ⟨h1, h2⟩ := hs
    rw [List.length_range] at h2
    refine sw_freeze ?_
    exact sw_retT (U := tFits ks pl) rfl (EvD.g (EvD.imp (ev_var 2) fun v G h => ⟨s, ⟨h1, by omega⟩, eLf_of (cL_ty.mp h)⟩)) rfl
end
end K37
end
section
set_option maxRecDepth 100000
set_option maxHeartbeats 4000000
/-! W23: histories drawn, the law's replay. -/
namespace K37
open PySem PySem.Spec PyProof.Rows L2
open Z
theorem fits_again {ks : List Str} {pl : Plans} {t : Deed} (f : Fits ks pl t) : Fits ks (ex1 pl t) t := by
  have e : ∀ n, (ex1 pl t n)[t.2.2]? = (pl n)[t.2.2]? := fun n => by
    rw [ex1_get f.lx f.ly, if_neg (Nat.lt_irrefl _)]
  refine ⟨f.x, f.y, f.ne, ?_, ?_, ?_⟩
  · rw [len_get, e, ← len_get]; exact f.lx
  · rw [len_get, e, ← len_get]; exact f.ly
  · rw [List.getElem!_eq_getElem?_getD, List.getElem!_eq_getElem?_getD, e, e, ← List.getElem!_eq_getElem?_getD, ← List.getElem!_eq_getElem?_getD]
    exact f.eq
theorem fits_flip {ks : List Str} {pl : Plans} {t : Deed} (f : Fits ks pl t) : Fits ks pl (t.2.1, t.1, t.2.2) := ⟨f.y, f.x, fun e => f.ne e.symm, f.ly, f.lx, f.eq.symm⟩
theorem fits_last {ks : List Str} {pl : Plans} {hs : List Deed} (q : refused ks pl hs 0 = none) {t : Deed} (h : hs.getLast? = some t) : Fits ks (runP pl hs) t := by
  obtain ⟨ys, rfl⟩ : ∃ ys, hs = ys ++ [t] := List.getLast?_eq_some_iff.mp h
  obtain ⟨_, f⟩ := refused_split (zs := []) q
  rw [runP_app]
  exact fits_again f
structure HRun (i : WIx) (hs : List Deed) (m : Nat) : Prop where
  run : refused i.2.2.1 i.2.2.2 hs 0 = none
  len : hs.length ≤ m
  day : ∀ t ∈ hs, t.2.2 ≤ 6
theorem HRun.ok {i : WIx} {hs : List Deed} {m : Nat} (h : HRun i hs m) (hw : i.ok) (hm : m ≤ 60) : HOk hs := ⟨Nat.le_trans h.len hm, fun t mt => ⟨hw.ok.nm _ (refused_mem h.run t mt).1, hw.ok.nm _ (refused_mem h.run t mt).2, h.day t mt⟩⟩
section
variable {P : Program} {w : World} {K : PySem.W.Frag} {mg : Str → Option Value} {base : Heap}
def tDrawn (i : WIx) (m : Nat) : Z.Ty := tEx (fun hs : List Deed => HRun i hs m) fun hs => tL [dat (eH hs), tAny]
def pDrawn : Pr (WIx × Nat) := ⟨fun i => i.1.ok ∧ i.2 ≤ 60, fun i => [tPl i.1.2.2.1 i.1.2.2.2, dat (.int (i.2 : Int))], fun i => tDrawn i.1 i.2⟩
theorem lenH {X : Cx} {z : Zn} {δ : List (Option Z.Ty)} {a : Expr} {p pos : Pos} {hs : List Deed} (hm : X.mg "len" = none) (ha : EvD X z δ a (dat (eH hs))) (hg : Gl X "len" := by rfl) (he : starEach [a] X.env = (false, eval a X.env) :: starEach [] X.env := by rfl) : EvD X z δ (.Call (.Name "len" p) [a] [] pos) (dat (.int (hs.length : Int))) := by
  have h := ev_lenLd (p := p) (pos := pos) (ds := hs.map eD) hm ha hg he
  rw [List.length_map] at h
  exact h
theorem lf_eD (t : Deed) : lf (eD t) = true := rfl
theorem cb_L_history (T : Txt K mg) : Cb CX0 P w K mg base 4 "_law_history" ["_law_store_here", "_law_plans", "_law_many"] pDrawn.spS := by
  refine cb_prS T.f_L_history sc_L_history bd_L_history (fun _ => rfl) fun f cdv A outer s H E i z st hr hz hB hp => ?_
  obtain ⟨⟨ts, rs, ks, pl⟩, m⟩ := i
  obtain ⟨hw, hm⟩ := hp
  have hw : WorldOk ts rs ks pl := hw
  have hm : m ≤ 60 := hm
  have hk6 := hw.ok.len.2
  have ret : ∀ hs : List Deed, HRun (ts, rs, ks, pl) hs m → SWs ((cxOf CX0 P w K mg base N_L_history "_law_history" (defScope s_L_history) f cdv A outer s H E).nox) z ((defBody s_L_history).drop 3) (dT z (tDrawn (ts, rs, ks, pl) m)) (slots N_L_history [some (tRaw (.ref st)), some (tPl ks pl), some (dat (.int (m : Int))), some (tPl ks (runP pl hs)), none]) [(4, none, cH hs)] := fun hs hh => by
    refine sw_freeze ?_
    exact sw_retT (U := tDrawn (ts, rs, ks, pl) m) rfl (EvD.g (EvD.imp (ev_lst (ea2 (EvD.imp (ev_var 4) fun v G h => eLf_of (f := eD) (cL_ty.mp h)) (EvD.imp (U := tAny) (ev_var 3) fun _ _ _ => trivial)) (by show 2 ≤ 1000; decide)) fun v G t => ⟨hs, hh, t⟩)) rfl
  refine sw_set 3 nd_L_history (T := tPl ks pl) (EvD.g (ev_dictD T.dict_ (EvD.rd (ev_var 1)))) ?_
  refine sw_setO 4 nd_L_history ef_nil ?_
  refine sw_forS (S := List Deed) (J := [5]) (g := gName 5) (List.range m) (fun j => dat (.int (j : Int))) (fun ys hs => HRun (ts, rs, ks, pl) hs ys.length) (fun hs => slots N_L_history [some (tRaw (.ref st)), some (tPl ks pl), some (dat (.int (m : Int))), some (tPl ks (runP pl hs)), none]) (fun hs => [(4, none, cH hs)])
    (fun hs j => (slots N_L_history [some (tRaw (.ref st)), some (tPl ks pl), some (dat (.int (m : Int))), some (tPl ks (runP pl hs)), none]).set 5 (some (dat (.int (j : Int))))) PassesOwn.never rfl (ei_rangeA (m := (m : Int)) m (by omega) T.range_ (by omega) (ev_var 2)) (pg_name nd_L_history rfl (Or.inl rfl))
    (fun _ j => tr_name 5) (fun _ q m => by rw [List.mem_singleton.mp m]; show (4 : Nat) ∉ [5]; decide) ⟨[], ⟨rfl, Nat.le_refl _, fun _ m => nomatch m⟩, by repeat (first | exact Wk.nil | apply Wk.cons | apply Wk.no), rfl⟩ (fun ys j zs hs e hh => ?_) fun hs hh => ?_
  · obtain ⟨hj, hys⟩ := range_at e
    have hyl : ys.length = j := by rw [hys, List.length_range]
    have hwi := hw.run hh.run
    have hhl := hh.len
    refine sw_setE 6 nd_L_history (P := fun fs : List Deed => (∀ t ∈ fs, Fits ks (runP pl hs) t ∧ t.2.2 ≤ 6) ∧ fs.length ≤ 300) (R := fun fs => dat (eH fs)) (EvG.drop (EvD.g (ev_callD (P := pFitting) (ks, runP pl hs) (cb_L_fitting T) hr (by decide) ⟨hw.ok.nd, hk6⟩ (ea1 (ev_var 3))))) fun fs hfs => ?_
    refine sw_when (EvGB.drop (EvB.g (eb_eqI (lenH T.len_ (ev_var 6)) ev_int))) (fun h => ?_) fun h => ?_
    · refine sw_break ?_
      exact sw_weak (by repeat (first | exact Wk.nil | apply Wk.cons | apply Wk.no)) (ret hs ⟨hh.run, by omega, hh.day⟩)
    · have h0 : 0 < fs.length := by
        have := of_decide_eq_false h.symm
        omega
      refine sw_setE 7 nd_L_history (P := fun t : Deed => t ∈ fs) (R := fun t => dat (eD t)) (EvG.drop (EvD.g (ev_pick T fs (fun t => dat (eD t)) hz hr (by decide) h0 (by omega) (ev_var 0) (eH_toL (ev_var 6))))) fun t0 ht0 => ?_
      have ht0 := hfs.1 t0 ht0
      refine sw_whenK (P := fun c => c = true → hs ≠ []) (fun t : Deed => Fits ks (runP pl hs) t ∧ t.2.2 ≤ 6) (fun t => slots N_L_history [some (tRaw (.ref st)), some (tPl ks pl), some (dat (.int (m : Int))), some (tPl ks (runP pl hs)), none, none, none, some (dat (eD t))]) (fun _ => [(4, none, cH hs)])
        (egb_and (P := fun c => c = true → hs ≠ []) (EvGB.view fun z' h1 h2 => EvB.imp (eb_gt (ev_lenL (Us := hs.map fun t => dat (eD t)) T.len_ (EvD.imp (ev_var 4) fun _ _ h => cL_ty.mp h)) ev_int) fun b h hb => ?_) (fun _ hf => by cases hf) fun h1 => EvGB.drop (EvB.g (EvB.imp (eb_eqE (ev_take (n := 6) T hz hr (by decide) (by decide) (by decide) (ev_var 0) ev_int) ev_int) fun _ _ _ => h1 rfl))) (fun h => ?_) (fun _ => ⟨t0, ht0, by repeat (first | exact Wk.nil | apply Wk.cons | apply Wk.no), rfl⟩) fun t1 ht1 => ?_
      · rw [hb] at h
        have h := of_decide_eq_true h.symm
        rw [List.length_map] at h
        intro w
        rw [w] at h
        exact absurd h (by decide)
      · have hne := h rfl
        obtain ⟨tl, htl⟩ : ∃ t, hs.getLast? = some t := ⟨_, List.getLast?_eq_some_getLast hne⟩
        have hm1 : tl ∈ hs := List.mem_of_getLast? htl
        refine sw_set 7 nd_L_history (T := dat (eD tl)) (EvG.view (flat_dat (lf_eD tl)) fun z' h1 h2 => ev_ixL (Ts := hs.map fun t => dat (eD t)) (at_neg1 (by rw [List.getLast?_map, htl]; rfl)) (EvD.imp (ev_var 4) fun _ _ h => cL_ty.mp h) (ev_neg ev_int)) ?_
        exact sw_nil ⟨tl, ⟨fits_last hh.run htl, hh.day tl hm1⟩, by repeat (first | exact Wk.nil | apply Wk.cons | apply Wk.no), rfl⟩
      · refine sw_whenK (P := fun _ => True) (fun t : Deed => Fits ks (runP pl hs) t ∧ t.2.2 ≤ 6) (fun t => slots N_L_history [some (tRaw (.ref st)), some (tPl ks pl), some (dat (.int (m : Int))), some (tPl ks (runP pl hs)), none, none, none, some (dat (eD t))]) (fun _ => [(4, none, cH hs)])
          (EvGB.drop (EvB.g (EvB.imp (eb_eqE (ev_take (n := 2) T hz hr (by decide) (by decide) (by decide) (ev_var 0) ev_int) ev_int) fun _ _ => trivial))) (fun _ => ?_) (fun _ => ⟨t1, ht1, by repeat (first | exact Wk.nil | apply Wk.cons | apply Wk.no), rfl⟩) fun t ht => ?_
        · refine sw_set 7 nd_L_history (T := dat (eD (t1.2.1, t1.1, t1.2.2))) (EvG.drop (EvD.g (ev_tupD (ds := [.str t1.2.1, .str t1.1, .int (t1.2.2 : Int)]) (ea_cons (at_eD1 (ev_var 7)) (ea2 (at_eD0 (ev_var 7)) (at_eD2 (ev_var 7)))) (by show 3 ≤ 1000; decide)))) ?_
          exact sw_nil ⟨(t1.2.1, t1.1, t1.2.2), ⟨fits_flip ht1.1, ht1.2⟩, by repeat (first | exact Wk.nil | apply Wk.cons | apply Wk.no), rfl⟩
        · obtain ⟨hf, h6⟩ := ht
          refine sw_app (EvG.drop (EvD.g (ev_var 7))) (by rw [List.length_map]; omega) ?_
          refine sw_set 3 nd_L_history (T := tPl ks (ex1 (runP pl hs) t)) (EvG.drop (EvD.g (ev_callD (P := pAfter) (ks, runP pl hs, t) (cb_L_exchanged T) hr (by decide) ⟨hf, by show ks.length ≤ 100; omega, by have := (hwi.ok.pl _ hf.x).len; show (runP pl hs t.1).length ≤ 100; omega, by have := (hwi.ok.pl _ hf.y).len; show (runP pl hs t.2.1).length ≤ 100; omega⟩ (ea2 (ev_var 3) (ev_var 7))))) ?_
          have er : runP pl (hs ++ [t]) = ex1 (runP pl hs) t := by rw [runP_app]; rfl
          refine sw_nil ⟨hs ++ [t], ⟨refused_two hh.run hf, by rw [List.length_append, List.length_append]; exact Nat.add_le_add_right hh.len 1, fun u mu => ?_⟩, ?_, ?_⟩
          · rcases List.mem_append.mp mu with mu | mu
            · exact hh.day u mu
            · rw [List.mem_singleton.mp mu]; exact h6
          · show Wk _ (slots N_L_history [some (tRaw (.ref st)), some (tPl ks pl), some (dat (.int (m : Int))), some (tPl ks (runP pl (hs ++ [t]))), none])
            rw [er]
            repeat (first | exact Wk.nil | apply Wk.cons | apply Wk.no)
          · show _ = [((4 : Nat), (none : Option Addr), cL ((hs ++ [t]).map fun t => dat (eD t)))]
            rw [List.map_append]
            rfl
  · rw [List.length_range] at hh
    exact ret hs hh
end
end K37
end
section
set_option maxRecDepth 100000
set_option maxHeartbeats 4000000
/-! W24: the law's replay, refused. -/
namespace Z
open PySem PySem.Spec PyProof.Rows L2
section
variable {X : Cx} {z : Zn} {δ : List (Option Ty)} {Ω : Own} {e : Expr} {T : Ty} {C : Cy} {i : Nat} {al : Option Addr}
/-- the head of one's own is read; what comes of it does not lean on it -/
theorem EvG.viewX (f : ∀ (v : V) (Gc G' G'' : Hp) (a : Addr) (o : HO), C.p o Gc → G' a = some o → (∀ b u, b ≠ a → G' b = some u → G'' b = some u) → T.p v G' → T.p v G'') (h : ∀ z', z'.sa = none → (∀ b, ¬ z'.B b) → EvD X z' (δ.set i (some C.ty)) e T) : EvG X z δ ((i, al, C) :: Ω) e T := fun G H σ g Q q => by
  obtain ⟨a, o, bg, rs, _, _, c, back⟩ := view_up g
  refine h _ rfl (fun _ q => q) _ H σ bg rs Q fun v G' H' x t => ?_
  obtain ⟨G'', x2, ha, tt⟩ := back G' H' x
  exact q v G'' H' x2 (f v G G' G'' a o c ha tt t)
def scal : PyData → Bool
  | .str _ => true
  | .int _ => true
  | _ => false
theorem rp_scal {G G' : Hp} {v : V} : ∀ {d : PyData}, scal d = true → Rp G v d → Rp G' v d
  | .str x, _, r => by rw [Rp.str_of r]; exact .str x
  | .int j, _, r => by rw [Rp.int_of r]; exact .int j
  | .none, h, _ => by cases h
  | .bool _, h, _ => by cases h
  | .list _, h, _ => by cases h
  | .tuple _, h, _ => by cases h
  | .dict _, h, _ => by cases h
theorem rps_scal {G G' : Hp} : ∀ {vs : List V} {ds : List PyData}, ds.all scal = true → Rps G vs ds → Rps G' vs ds
  | _, _, _, .nil => .nil
  | _, _, h, .cons a t => by
    rw [List.all_cons] at h
    obtain ⟨h1, h2⟩ := Bool.and_eq_true_iff.mp h
    exact .cons (rp_scal h1 a) (rps_scal h2 t)
theorem no_scal {G : Hp} {b : Addr} : ∀ {d : PyData}, scal d = true → ¬ Rp G (.ref b) d
  | .str x, _, r => by have := Rp.str_of r; cases this
  | .int j, _, r => by have := Rp.int_of r; cases this
  | .none, h, _ => by cases h
  | .bool _, h, _ => by cases h
  | .list _, h, _ => by cases h
  | .tuple _, h, _ => by cases h
  | .dict _, h, _ => by cases h
/-- a new list of plain things, read off a list of dicts -/
theorem vx_list {ds : List PyData} {es : List (L2.Key × Ty)} {Ts : List Ty} (hs : ds.all scal = true) (v : V) (Gc G' G'' : Hp) (a : Addr) (o : HO) (c : (cL (tDK es :: Ts)).p o Gc) (ha : G' a = some o) (tt : ∀ b u, b ≠ a → G' b = some u → G'' b = some u) (t : (dat (.list ds)).p v G') : (dat (.list ds)).p v G'' := by
  obtain ⟨b, vs, rfl, hb, r⟩ := Rp.lst_of t
  by_cases h : b = a
  · subst h
    rw [ha] at hb
    cases hb
    obtain ⟨ws, e, q⟩ := c
    cases e
    cases q with
    | @cons v0 _ vr _ t0 _ =>
      obtain ⟨d, kvs, rfl, _, _⟩ := t0
      cases r with
      | @cons _ _ d0 _ r0 _ =>
        rw [List.all_cons] at hs
        exact absurd r0 (no_scal (Bool.and_eq_true_iff.mp hs).1)
  · exact .lst (tt b _ h hb) (rps_scal hs r)
/-- a dict of tuples of names, read off a list -/
theorem vx_dict {es : List (L2.Key × Ty)} {Ts : List Ty} (hf : ∀ q ∈ es, Flat q.2) (v : V) (Gc G' G'' : Hp) (a : Addr) (o : HO) (c : (cL Ts).p o Gc) (ha : G' a = some o) (tt : ∀ b u, b ≠ a → G' b = some u → G'' b = some u) (t : (tDK es).p v G') : (tDK es).p v G'' := by
  obtain ⟨ws, rfl, _⟩ := c
  obtain ⟨d, kvs, rfl, hd, r⟩ := t
  have nd : d ≠ a := fun w => by rw [w, ha] at hd; cases hd
  have key : ∀ {kvs : List (L2.Key × V)} {es : List (L2.Key × Ty)}, (∀ q ∈ es, Flat q.2) → Ents G' kvs es → Ents G'' kvs es := by
    intro kvs es hf r
    induction r with
    | nil => exact .nil
    | cons h _ ih => exact .cons ⟨h.1, hf _ List.mem_cons_self _ _ _ (fun b vs e => tt b _ (fun w => by rw [w, ha] at e; cases e) e) h.2⟩ (ih fun q m => hf q (List.mem_cons_of_mem _ m))
  exact ⟨d, kvs, rfl, tt d _ nd hd, key hf r⟩
end
end Z
namespace K37
open PySem PySem.Spec PyProof.Rows L2
open Z
theorem why_scal (w : Why) : w.row.all scal = true := by cases w <;> rfl
def dueRow : Option Why → List PyData
  | none => []
  | some w => w.row
theorem eDue_row (o : Option Why) : eDue o = .list (dueRow o) := by cases o <;> rfl
theorem due_scal (o : Option Why) : (dueRow o).all scal = true := by
  cases o with
  | none => rfl
  | some w => exact why_scal w
theorem due_len (w : Why) : 0 < w.row.length := by cases w <;> exact Nat.succ_pos _
theorem flat_eT (ts : List Str) : Flat (dat (eT ts)) := flat_dat (by
  have key : ∀ ts : List Str, lf (.tuple (ts.map PyData.str)) = true := fun ts => by
    induction ts with
    | nil => rfl
    | cons t r ih => exact ih
  exact key ts)
theorem flat_pl (ks : List Str) (pl : Plans) : ∀ q ∈ ks.map (fun n => ((.inr n : L2.Key), dat (eT (pl n)))), Flat q.2 := fun q m => by
  obtain ⟨n, _, rfl⟩ := List.mem_map.mp m
  exact flat_eT _
section
variable {P : Program} {w : World} {K : PySem.W.Frag} {mg : Str → Option Value} {base : Heap}
def tRep (i : WIx) (hs : List Deed) : Z.Ty := match refused i.2.2.1 i.2.2.2 hs 0 with
  | none => tL [tL ((stages i.2.2.2 hs).map fun q => tPl i.2.2.1 q), dat (.int (-1)), dat (.list [])]
  | some (j, w) => tL [tAny, dat (.int (j : Int)), dat (.list w.row)]
def pLRep : Pr (WIx × List Deed) := ⟨fun i => i.1.ok ∧ i.2.length ≤ 100, fun i => [tPl i.1.2.2.1 i.1.2.2.2, dat (eH i.2)], fun i => tRep i.1 i.2⟩
theorem at_eH {X : Cx} {z : Zn} {δ : List (Option Z.Ty)} {a b : Expr} {pos : Pos} {hs : List Deed} {n : Nat} (h : n < hs.length) (ha : EvD X z δ a (dat (eH hs))) (hb : EvD X z δ b (dat (.int (n : Int)))) (hs' : PlainIx b := by exact fun _ _ => rfl) : EvD X z δ (.Subscript a b pos) (dat (eD hs[n]!)) := by
  have e : atI (hs.map eD) (n : Int) = some (eD hs[n]!) := at_map (at_nat h)
  exact ev_ixLd e ha hb hs'
theorem stages_cons (pl : Plans) : ∀ hs : List Deed, ∃ r, stages pl hs = pl :: r
  | [] => ⟨[], rfl⟩
  | t :: r => ⟨_, rfl⟩
theorem cb_L_replay (T : Txt K mg) : Cb CX0 P w K mg base 3 "_law_replay" ["_law_plans", "_law_history_here"] pLRep.sp := by
  refine cb_pr T.f_L_replay sc_L_replay bd_L_replay (fun _ => rfl) fun f cdv A outer s H E i z hr pz hp => ?_
  obtain ⟨⟨ts, rs, ks, pl⟩, hs⟩ := i
  obtain ⟨hw, hl⟩ := hp
  have hw : WorldOk ts rs ks pl := hw
  have hl : hs.length ≤ 100 := hl
  have hk6 := hw.ok.len.2
  refine sw_setO 2 nd_L_replay (C := cL [tPl ks pl]) (ef_lst (ga_cons (EvD.g (ev_dictD T.dict_ (EvD.rd (ev_var 0)))) ga_nil) (by show 1 ≤ 1000; decide)) ?_
  refine sw_forS (S := List Deed) (J := [3]) (g := gName 3) (List.range hs.length) (fun i => dat (.int (i : Int))) (fun ys s => s = hs.take ys.length ∧ refused ks pl s 0 = none) (fun s => slots N_L_replay [some (tPl ks pl), some (dat (eH hs)), none]) (fun s => [(2, none, cL ((stages pl s).map fun q => tPl ks q))])
    (fun s i => (slots N_L_replay [some (tPl ks pl), some (dat (eH hs)), none]).set 3 (some (dat (.int (i : Int))))) PassesOwn.never rfl (ei_rangeA (m := (hs.length : Int)) hs.length (by omega) T.range_ (by omega) (lenH T.len_ (ev_var 1))) (pg_name nd_L_replay rfl (Or.inl rfl))
    (fun s i => tr_name 3) (fun s q m => by rw [List.mem_singleton.mp m]; show (2 : Nat) ∉ [3]; decide) ⟨[], ⟨rfl, rfl⟩, by repeat (first | exact Wk.nil | apply Wk.cons | apply Wk.no), rfl⟩ (fun ys i zs s e hs' => ?_) fun s hs' => ?_
  · obtain ⟨rfl, hrf⟩ := hs'
    obtain ⟨hi, hys⟩ := range_at e
    have hyl : ys.length = i := by rw [hys, List.length_range]
    rw [hyl] at hrf ⊢
    have hsp := split_at hi
    have hwi : WorldOk ts rs ks (runP pl (hs.take i)) := hw.run hrf
    have ett : hs.take (i + 1) = hs.take i ++ [hs[i]!] := take_succ hi
    have hlt : (hs.take i).length = i := by rw [List.length_take]; omega
    obtain ⟨str, hstr⟩ := stages_cons pl (hs.take i)
    have atl : atI ((stages pl (hs.take i)).map fun q => tPl ks q) (-1) = some (tPl ks (runP pl (hs.take i))) := at_neg1 (by rw [List.getLast?_map, stages_last]; rfl)
    have vx : ∀ ds : List PyData, ds.all scal = true → ∀ (v : V) (Gc G' G'' : Hp) (a : Addr) (o : HO), (cL ((stages pl (hs.take i)).map fun q => tPl ks q)).p o Gc → G' a = some o → (∀ b u, b ≠ a → G' b = some u → G'' b = some u) → (dat (.list ds)).p v G' → (dat (.list ds)).p v G'' := fun ds h v Gc G' G'' a o c => by
      rw [hstr] at c
      exact vx_list h v Gc G' G'' a o c
    refine sw_set 4 nd_L_replay (T := dat (.list (dueRow (why ks (runP pl (hs.take i)) hs[i]!)))) (EvG.viewX (vx _ (due_scal _)) fun z' h1 h2 => EvD.imp (ev_callD (P := pDue) (ks, runP pl (hs.take i), hs[i]!) (cb_L_deed_due T) hr (by decide) trivial (ea2 (ev_ixL atl (EvD.imp (ev_var 2) fun _ _ h => cL_ty.mp h) (ev_neg ev_int)) (at_eH hi (ev_var 1) (ev_var 3)))) fun v G q => ?_) ?_
    · have q : (dat (eDue (why ks (runP pl (hs.take i)) hs[i]!))).p v G := q
      rw [eDue_row] at q
      exact q
    · refine sw_when (EvGB.drop (EvB.g (eb_gt (ev_lenLd T.len_ (ev_var 4)) ev_int))) (fun h => ?_) fun h => ?_
      · cases hq : why ks (runP pl (hs.take i)) hs[i]! with
        | none => rw [hq] at h; cases h
        | some ww =>
          have href : refused ks pl hs 0 = some (i, ww) := by
            conv => lhs; rw [hsp]
            rw [refused_app ks pl _ _ 0 hrf]
            unfold refused
            rw [hq, hlt]
            simp
          refine sw_freeze ?_
          refine sw_retT (U := tL [tAny, dat (.int (i : Int)), dat (.list ww.row)]) rfl (EvD.g (ev_lst (ea_cons (EvD.imp (U := tAny) (ev_var 2) fun _ _ _ => trivial) (ea2 (ev_var 3) (EvD.imp (ev_var 4) fun v G t => t))) (by show 3 ≤ 1000; decide))) ?_
          show _ = tRep (ts, rs, ks, pl) hs
          unfold tRep
          rw [href]
      · have hq : why ks (runP pl (hs.take i)) hs[i]! = none := by
          cases hq : why ks (runP pl (hs.take i)) hs[i]! with
          | none => rfl
          | some ww =>
            rw [hq] at h
            have h := of_decide_eq_false h.symm
            have := due_len ww
            exact absurd (show (0 : Int) < ((dueRow (some ww)).length : Int) by show (0 : Int) < (ww.row.length : Int); omega) h
        have hf := why_none.mp hq
        have hf' : DPre ks (runP pl (hs.take i)) hs[i]! := ⟨hf, by omega, by have := (hwi.ok.pl _ hf.x).len; omega, by have := (hwi.ok.pl _ hf.y).len; omega⟩
        have hrn : runP pl (hs.take (i + 1)) = ex1 (runP pl (hs.take i)) hs[i]! := by rw [ett, runP_app]; rfl
        refine sw_app (T := tPl ks (ex1 (runP pl (hs.take i)) hs[i]!)) (EvG.viewX (vx_dict (flat_pl _ _)) fun z' h1 h2 => ev_callD (P := pAfter) (ks, runP pl (hs.take i), hs[i]!) (cb_L_exchanged T) hr (by decide) hf' (ea2 (ev_ixL atl (EvD.imp (ev_var 2) fun _ _ h => cL_ty.mp h) (ev_neg ev_int)) (at_eH hi (ev_var 1) (ev_var 3)))) (by rw [List.length_map, stages_len]; omega) ?_
        refine sw_nil ⟨hs.take (i + 1), ⟨by rw [List.length_append, hyl]; rfl, ?_⟩, by repeat (first | exact Wk.nil | apply Wk.cons | apply Wk.no), ?_⟩
        · rw [ett, refused_app ks pl _ _ 0 hrf]
          unfold refused
          rw [hq]
          rfl
        · show _ = [((2 : Nat), (none : Option Addr), cL ((stages pl (hs.take (i + 1))).map fun q => tPl ks q))]
          rw [ett, stages_snoc, List.map_append, ← ett, hrn]
          rfl
  · obtain ⟨rfl, hrf⟩ := hs'
    rw [List.length_range, List.take_length] at hrf
    rw [List.length_range, List.take_length]
    refine sw_freeze ?_
    refine sw_retT (U := tL [tL ((stages pl hs).map fun q => tPl ks q), dat (.int (-1)), dat (.list [])]) rfl (EvD.g (ev_lst (ea_cons (EvD.imp (ev_var 2) fun _ _ h => cL_ty.mp h) (ea2 (ev_neg ev_int) (ev_lstD (ds := []) ea_nil (by show 0 ≤ 1000; decide)))) (by show 3 ≤ 1000; decide))) ?_
    show _ = tRep (ts, rs, ks, pl) hs
    unfold tRep
    rw [hrf]
def eRef : Option (Nat × Why) → PyData
  | none => .list []
  | some (i, w) => .list [.str "StepRefused", .int (i : Int), .str w.nm]
def pLRef : Pr (WIx × List Deed) := ⟨fun i => i.1.ok ∧ i.2.length ≤ 100, fun i => [tPl i.1.2.2.1 i.1.2.2.2, dat (eH i.2)], fun i => dat (eRef (refused i.1.2.2.1 i.1.2.2.2 i.2 0))⟩
theorem cb_L_refused (T : Txt K mg) : Cb CX0 P w K mg base 4 "_law_refused" ["_law_plans", "_law_history_here"] pLRef.sp := by
  refine cb_pr T.f_L_refused sc_L_refused bd_L_refused (fun _ => rfl) fun f cdv A outer s H E i z hr pz hp => ?_
  obtain ⟨wi, hs⟩ := i
  obtain ⟨hw, hl⟩ := hp
  show SWs _ z _ (dT z (dat (eRef (refused wi.2.2.1 wi.2.2.2 hs 0)))) _ _
  cases hq : refused wi.2.2.1 wi.2.2.2 hs 0 with
  | none =>
    refine sw_asg (g := g3L K 2 3 4) (T := tL [tL ((stages wi.2.2.2 hs).map fun q => tPl wi.2.2.1 q), dat (.int (-1)), dat (.list [])]) (EvD.g (EvD.imp (ev_callD (P := pLRep) (wi, hs) (cb_L_replay T) hr (by decide) ⟨hw, hl⟩ (ea2 (ev_var 0) (ev_var 1))) fun v G t => ?_)) (pg_unl rfl (pgs_cons (pg_name nd_L_refused rfl (Or.inl rfl)) (pgs_cons (pg_name nd_L_refused rfl (Or.inl rfl)) (pgs_cons (pg_name nd_L_refused rfl (Or.inl rfl)) pgs_nil)))) (tr_lst3 2 3 4) ?_
    · have t : (tRep wi hs).p v G := t
      unfold tRep at t
      rw [hq] at t
      exact t
    · refine sw_when (EvB.g (eb_lt (ev_var 3) ev_int)) (fun h => sw_retT rfl (EvD.g (ev_lstD (ds := []) ea_nil (by show 0 ≤ 1000; decide))) rfl) (fun h => by cases h)
  | some jw =>
    obtain ⟨j, ww⟩ := jw
    refine sw_asg (g := g3L K 2 3 4) (T := tL [tAny, dat (.int (j : Int)), dat (.list ww.row)]) (EvD.g (EvD.imp (ev_callD (P := pLRep) (wi, hs) (cb_L_replay T) hr (by decide) ⟨hw, hl⟩ (ea2 (ev_var 0) (ev_var 1))) fun v G t => ?_)) (pg_unl rfl (pgs_cons (pg_name nd_L_refused rfl (Or.inl rfl)) (pgs_cons (pg_name nd_L_refused rfl (Or.inl rfl)) (pgs_cons (pg_name nd_L_refused rfl (Or.inl rfl)) pgs_nil)))) (tr_lst3 2 3 4) ?_
    · have t : (tRep wi hs).p v G := t
      unfold tRep at t
      rw [hq] at t
      exact t
    · refine sw_when (P := fun c => c = false) (EvB.g (EvB.imp (eb_lt (ev_var 3) ev_int) fun c h => ?_)) (fun h => by cases h) fun _ => ?_
      · rw [h]
        exact decide_eq_false (by omega)
      · exact sw_retT rfl (EvD.g (ev_lstD (ds := [.str "StepRefused", .int (j : Int), .str ww.nm]) (ea_cons ev_str (ea2 (ev_var 3) (ev_ixLd (row_at ww) (ev_var 4) ev_int))) (by show 3 ≤ 1000; decide))) rfl
end
end K37
end
section
set_option maxRecDepth 100000
set_option maxHeartbeats 4000000
/-! W25: the law's crossings and parts. -/
namespace Z
open PySem PySem.Spec PyProof.Rows L2
theorem eix_mono {X : Cx} {z : Zn} {δ : List (Option Ty)} {tg iter : Expr} {ι : Type} {P : ι → Prop} {n : ι → Nat} {T1 T2 : ι → Nat → Ty} (h : EvIX X z δ tg iter P n T1) (f : ∀ y, P y → ∀ i, i < n y → ∀ v G, (T1 y i).p v G → (T2 y i).p v G) : EvIX X z δ tg iter P n T2 := by
  obtain ⟨wi, hp, hw⟩ := h
  refine ⟨wi, hp, fun G H σ bg rs R q => hw G H σ bg rs R fun y hy J G' H' N Y e1 wk hN hY => q y hy J G' H' N Y e1 wk hN fun i G2 H2 v H3 hi s l st yy => ?_⟩
  obtain ⟨G3, x3, t⟩ := hY i G2 H2 v H3 hi s l st yy
  exact ⟨G3, x3, f y hy i hi v G3 t⟩
end Z
namespace K37
open PySem PySem.Spec PyProof.Rows L2
open Z
/-! ### all crossings, in plain Lean -/
def nmsD (ks : List Str) (pl : Plans) (d : Nat) : List Str := (sortN ks).filter fun n => decide (d < (pl n).length)
def twnD (ks : List Str) (pl : Plans) (d : Nat) : List Str := sortN ((nmsD ks pl d).map fun n => (pl n)[d]!)
def czn (ks : List Str) (pl : Plans) : Nat → List Crs
  | 0 => []
  | d + 1 => czn ks pl d ++ (dk [] (twnD ks pl d)).map fun t => (d, t)
theorem twnD_mem {ks : List Str} {pl : Plans} {d : Nat} {t : Str} : t ∈ twnD ks pl d ↔ ∃ n ∈ ks, d < (pl n).length ∧ (pl n)[d]! = t := by
  unfold twnD nmsD
  rw [sortN_mem, List.mem_map]
  constructor
  · rintro ⟨n, m, e⟩
    obtain ⟨a, b⟩ := List.mem_filter.mp m
    exact ⟨n, (sortN_mem ks n).mp a, of_decide_eq_true b, e⟩
  · rintro ⟨n, m, h, e⟩
    exact ⟨n, List.mem_filter.mpr ⟨(sortN_mem ks n).mpr m, decide_eq_true h⟩, e⟩
theorem czn_mem {ks : List Str} {pl : Plans} {c : Crs} : ∀ {m : Nat}, c ∈ czn ks pl m ↔ c.1 < m ∧ ∃ n ∈ ks, c.1 < (pl n).length ∧ (pl n)[c.1]! = c.2
  | 0 => by simp [czn]
  | m + 1 => by
    show c ∈ czn ks pl m ++ _ ↔ _
    rw [List.mem_append, czn_mem, List.mem_map]
    constructor
    · rintro (⟨a, b⟩ | ⟨t, mt, e⟩)
      · exact ⟨by omega, b⟩
      · rw [dk_mem] at mt
        rcases mt with mt | mt
        · cases mt
        · rw [← e]
          exact ⟨Nat.lt_succ_self m, twnD_mem.mp mt⟩
    · rintro ⟨a, b⟩
      by_cases h : c.1 = m
      · refine .inr ⟨c.2, dk_mem.mpr (.inr (twnD_mem.mpr ?_)), by rw [← h]⟩
        rw [← h]
        exact b
      · exact .inl ⟨by omega, b⟩
theorem dk_pair {l : List Str} (h : l.Pairwise fun a b => leS a b = true) : (dk [] l).Pairwise fun a b => leS a b = true := by
  obtain ⟨r, h1, h2⟩ := dk_sub l []
  rw [h1, List.nil_append]
  exact h.sublist h2
theorem czn_pair (ks : List Str) (pl : Plans) : ∀ m, (czn ks pl m).Pairwise fun a b => leC a b = true
  | 0 => List.Pairwise.nil
  | m + 1 => by
    refine List.pairwise_append.mpr ⟨czn_pair ks pl m, ?_, fun a ma b mb => ?_⟩
    · have h0 : (dk [] (twnD ks pl m)).Pairwise fun a b => leS a b = true := dk_pair (sortN_pair _)
      exact List.pairwise_map.mpr (List.Pairwise.imp (fun {a b} h => (leC_iff (a := (m, a)) (b := (m, b))).mpr (.inr ⟨rfl, h⟩)) h0)
    obtain ⟨t, _, rfl⟩ := List.mem_map.mp mb
    exact leC_iff.mpr (.inl (czn_mem.mp ma).1)
theorem czn_nodup (ks : List Str) (pl : Plans) : ∀ m, (czn ks pl m).Nodup
  | 0 => List.nodup_nil
  | m + 1 => by
    refine List.nodup_append.mpr ⟨czn_nodup ks pl m, map_nodup (fun a b h => congrArg Prod.snd h) (dk_nodup List.nodup_nil), fun a ma b mb e => ?_⟩
    obtain ⟨t, _, rfl⟩ := List.mem_map.mp mb
    have := (czn_mem.mp ma).1
    rw [e] at this
    exact absurd this (Nat.lt_irrefl m)
/-- the last of the sorted: what comes next is there or not -/
theorem dk_last : ∀ (n : Nat) (l : List Str), l.length = n → (l.Pairwise fun a b => leS a b = true) → (dk [] l).getLast? = l.getLast?
  | 0, [], _, _ => rfl
  | n + 1, l, hl, hp => by
    obtain ⟨r, t, rfl⟩ : ∃ r t, l = r ++ [t] := ⟨l.dropLast, l.getLast (by intro e; rw [e] at hl; cases hl), (List.dropLast_concat_getLast _).symm⟩
    have hr : r.length = n := by rw [List.length_append] at hl; exact Nat.succ.inj hl
    obtain ⟨p1, _, p3⟩ := List.pairwise_append.mp hp
    have ih := dk_last n r hr p1
    rw [dk_snoc, List.getLast?_concat]
    by_cases h : t ∈ dk [] r
    · rw [if_pos h, ih]
      have hm : t ∈ r := by
        rcases dk_mem.mp h with h | h
        · cases h
        · exact h
      obtain ⟨q, hq⟩ : ∃ q, r.getLast? = some q := ⟨_, List.getLast?_eq_some_getLast (List.ne_nil_of_mem hm)⟩
      rw [hq]
      congr 1
      have mq : q ∈ r := List.mem_of_getLast? hq
      obtain ⟨r', rfl⟩ := List.getLast?_eq_some_iff.mp hq
      rcases List.mem_append.mp hm with hm | hm
      · have a1 := (List.pairwise_append.mp p1).2.2 t hm q List.mem_cons_self
        exact leS_anti _ _ (p3 q mq t List.mem_cons_self) a1
      · exact (List.mem_singleton.mp hm).symm
    · rw [if_neg h, List.getLast?_concat]
theorem last_in {l : List Str} {c : Str} (hp : (l ++ [c]).Pairwise fun a b => leS a b = true) : c ∈ dk [] l ↔ (dk [] l).getLast? = some c := by
  constructor
  · intro h
    have e := dk_last _ (l ++ [c]) rfl hp
    rw [dk_snoc, if_pos h, List.getLast?_concat] at e
    exact e
  · exact fun h => List.mem_of_getLast? h
theorem last_key {A : List Crs} {B : List Str} {d : Nat} {c : Str} {q : Crs} (hA : ∀ a ∈ A, a.1 < d) (h : (A ++ B.map fun t => (d, t)).getLast? = some q) : q = (d, c) ↔ B.getLast? = some c := by
  cases hB : B.getLast? with
  | none =>
    have e : B = [] := List.getLast?_eq_none_iff.mp hB
    rw [e, List.map_nil, List.append_nil] at h
    have := hA q (List.mem_of_getLast? h)
    constructor
    · intro w
      rw [w] at this
      exact absurd this (Nat.lt_irrefl d)
    · intro w
      cases w
  | some b =>
    have e : ((B.map fun t => (d, t)).getLast?) = some (d, b) := by rw [List.getLast?_map, hB]; rfl
    rw [List.getLast?_append, e] at h
    have h : some (d, b) = some q := h
    cases h
    constructor
    · intro w
      have w2 : b = c := congrArg Prod.snd w
      rw [w2]
    · intro w
      cases w
      rfl
theorem twnD_len (ks : List Str) (pl : Plans) (d : Nat) : (twnD ks pl d).length ≤ ks.length := by
  unfold twnD nmsD
  rw [sortN_len, List.length_map]
  exact Nat.le_trans (List.length_filter_le _ _) (by rw [sortN_len]; exact Nat.le_refl _)
theorem dk_len2 {α : Type} [BEq α] [LawfulBEq α] : ∀ (cs acc : List α), (dk acc cs).length ≤ acc.length + cs.length := fun cs acc => by
  obtain ⟨r, h1, h2⟩ := dk_sub cs acc
  rw [h1, List.length_append]
  have := h2.length_le
  omega
theorem czn_len (ks : List Str) (pl : Plans) : ∀ m, (czn ks pl m).length ≤ m * ks.length
  | 0 => Nat.zero_le _
  | m + 1 => by
    have ih := czn_len ks pl m
    show (czn ks pl m ++ _).length ≤ _
    rw [List.length_append, List.length_map, Nat.succ_mul]
    have a := dk_len2 (twnD ks pl m) []
    have b := twnD_len ks pl m
    rw [List.length_nil] at a
    omega
section
variable {P : Program} {w : World} {K : PySem.W.Frag} {mg : Str → Option Value} {base : Heap}
abbrev Cn := Crs × List Str
def eCn (p : Cn) : PyData := .tuple [eC p.1, eL p.2]
def tCros (ks : List Str) (pl : Plans) : Z.Ty := tEx (fun fk : List Cn => fk.map (·.1) = czn ks pl 7) fun fk => tL (fk.map fun p => dat (eCn p))
def pCros : Pr WIx := ⟨fun i => i.ok, fun i => [tPl i.2.2.1 i.2.2.2], fun i => tCros i.2.2.1 i.2.2.2⟩
theorem cb_L_crossings (T : Txt K mg) : Cb CX0 P w K mg base 1 "_law_crossings" ["_law_plans"] pCros.sp := by
  refine cb_pr T.f_L_crossings sc_L_crossings bd_L_crossings (fun _ => rfl) fun f cdv A outer s H E i z hr pz hp => ?_
  obtain ⟨ts, rs, ks, pl⟩ := i
  have hw : WorldOk ts rs ks pl := hp
  have hk6 := hw.ok.len.2
  have hsl := sortN_len ks
  have hu := hu1 hr
  have nml : ∀ d, (nmsD ks pl d).length ≤ 6 := fun d => Nat.le_trans (List.length_filter_le _ _) (by omega)
  refine sw_setO 1 nd_L_crossings ef_nil ?_
  refine sw_forS (S := List Cn) (J := [2]) (g := gName 2) (List.range 7) (fun d => dat (.int (d : Int))) (fun ys s => s.map (·.1) = czn ks pl ys.length) (fun _ => slots N_L_crossings [some (tPl ks pl), none]) (fun s => [(1, none, cL (s.map fun p => dat (eCn p)))])
    (fun _ d => (slots N_L_crossings [some (tPl ks pl), none]).set 2 (some (dat (.int (d : Int))))) PassesOwn.never rfl (ei_rangeA (m := 7) 7 rfl T.range_ (by decide) ev_int) (pg_name nd_L_crossings rfl (Or.inr rfl))
    (fun _ d => tr_name 2) (fun _ q m => by rw [List.mem_singleton.mp m]; show (1 : Nat) ∉ [2]; decide) ⟨[], rfl, by repeat (first | exact Wk.nil | apply Wk.cons | apply Wk.no), rfl⟩ (fun ys d zs s e hs => ?_) fun s hs => ?_
  · obtain ⟨hd, hys⟩ := range_at e
    have hyl : ys.length = d := by rw [hys, List.length_range]
    rw [hyl] at hs
    have inK : ∀ n ∈ nmsD ks pl d, n ∈ ks ∧ d < (pl n).length := fun n m => by
      obtain ⟨a, b⟩ := List.mem_filter.mp m
      exact ⟨(sortN_mem ks n).mp a, of_decide_eq_true b⟩
    refine sw_setLc1 (sortN ks) (fun n => dat (.str n)) (fun n => decide (d < (pl n).length)) (fun n => dat (.str n)) 3 5 rfl nd_L_crossings (ei_listA (sortN ks) (fun n => dat (.str n)) (ev_sortPl T.sorted_ hk6 (ev_var 0))) (blkOk_by (N := N_L_crossings) (sc := defScope s_L_crossings) (by decide +kernel)) (fun _ _ _ _ _ => pg_name nd_L_crossings rfl (Or.inl rfl))
      (fun n m _ _ _ _ _ => et_one (EvB.imp (eb_lt (ev_var 2) (lenP T.len_ (getP hu ((sortN_mem ks n).mp m) (ev_var 0) (ev_var 5)))) fun b h => ?_)) (fun n m _ _ _ _ _ _ => ev_var 5) (by omega) ?_
    · rw [h]
      by_cases c : d < (pl n).length
      · rw [decide_eq_true c, decide_eq_true (by omega)]
      · rw [decide_eq_false c, decide_eq_false (by omega)]
    · show SWs _ z _ _ (((slots N_L_crossings [some (tPl ks pl), none]).set 2 (some (dat (.int (d : Int))))).set 3 (some (tL ((nmsD ks pl d).map fun n => dat (.str n))))) _
      refine sw_forS (S := List Cn) (J := [4]) (g := gName 4) (twnD ks pl d) (fun t => dat (.str t)) (fun ws s2 => s2.map (·.1) = czn ks pl d ++ (dk [] ws).map fun t => (d, t)) (fun _ => slots N_L_crossings [some (tPl ks pl), none, some (dat (.int (d : Int))), some (tL ((nmsD ks pl d).map fun n => dat (.str n)))]) (fun s => [(1, none, cL (s.map fun p => dat (eCn p)))])
        (fun _ t => (slots N_L_crossings [some (tPl ks pl), none, some (dat (.int (d : Int))), some (tL ((nmsD ks pl d).map fun n => dat (.str n)))]).set 4 (some (dat (.str t)))) PassesOwn.never rfl (ei_listA (twnD ks pl d) (fun t => dat (.str t)) (ev_sortS (ks := (nmsD ks pl d).map fun n => (pl n)[d]!) hr T.sorted_ (EvD.imp (ev_lc1 (nmsD ks pl d) (fun n => dat (.str n)) (fun _ => true) (fun n => dat (.str (pl n)[d]!)) 5 rfl nd_L_crossings (ei_listA (nmsD ks pl d) (fun n => dat (.str n)) (ev_var 3)) (blkOk_by (N := N_L_crossings) (sc := defScope s_L_crossings) (by decide +kernel)) (fun _ _ _ _ _ => pg_name nd_L_crossings rfl (Or.inl rfl))
          (fun n m _ _ _ _ _ => et_nil) (fun n m _ _ _ _ _ _ => at_eT (inK n m).2 (getP hu (inK n m).1 (ev_var 0) (ev_var 5)) (ev_var 2)) (by have := nml d; omega)) fun v G t => by rw [map_all] at t; rw [List.map_map]; exact t))) (pg_name nd_L_crossings rfl (Or.inr rfl))
        (fun _ t => tr_name 4) (fun _ q m => by rw [List.mem_singleton.mp m]; show (1 : Nat) ∉ [4]; decide) ⟨s, by rw [hs]; exact (List.append_nil _).symm, by repeat (first | exact Wk.nil | apply Wk.cons | apply Wk.no), rfl⟩ (fun ws c us s2 e2 hs2 => ?_) fun s2 hs2 => ?_
      · have hpw : (ws ++ [c]).Pairwise fun a b => leS a b = true := by
          have h := sortN_pair ((nmsD ks pl d).map fun n => (pl n)[d]!)
          have e3 : twnD ks pl d = (ws ++ [c]) ++ us := by rw [e2, List.append_assoc]; rfl
          have h : (twnD ks pl d).Pairwise fun a b => leS a b = true := h
          rw [e3] at h
          exact (List.pairwise_append.mp h).1
        have hin : c ∈ twnD ks pl d := by rw [e2]; simp
        have hct : nameB c = true := by
          obtain ⟨n, mn, hd2, en⟩ := twnD_mem.mp hin
          rw [← en]
          exact (hw.ok.pl n mn).nm _ (nth_bang hd2)
        have hwl : ws.length < ks.length := by
          have a := twnD_len ks pl d
          rw [e2, List.length_append, List.length_cons] at a
          omega
        have hs2l : s2.length ≤ 100 := by
          have a := congrArg List.length hs2
          rw [List.length_map, List.length_append, List.length_map] at a
          have b := czn_len ks pl d
          have c2 := dk_len2 ws []
          rw [List.length_nil] at c2
          have d2 : d * ks.length ≤ 7 * 6 := Nat.mul_le_mul (by omega) hk6
          omega
        have okc : ∀ p ∈ s2, okD (eC p.1) 1 = true := fun p m => by
          have m1 : p.1 ∈ s2.map (·.1) := List.mem_map.mpr ⟨p, m, rfl⟩
          rw [hs2] at m1
          refine ok_eC ?_
          rcases List.mem_append.mp m1 with m1 | m1
          · obtain ⟨_, n, mn, hl, en⟩ := czn_mem.mp m1
            rw [← en]
            exact (hw.ok.pl n mn).nm _ (nth_bang hl)
          · obtain ⟨t, mt, et⟩ := List.mem_map.mp m1
            rcases dk_mem.mp mt with mt | mt
            · cases mt
            · have m3 : t ∈ twnD ks pl d := by rw [e2]; exact List.mem_append_left _ mt
              obtain ⟨n, mn, hl, en⟩ := twnD_mem.mp m3
              rw [← et]
              show nameB t = true
              rw [← en]
              exact (hw.ok.pl n mn).nm _ (nth_bang hl)
        refine sw_when (P := fun b => b = !decide (c ∈ dk [] ws)) (EvGB.view fun z' h1 h2 => ?_) (fun h => ?_) fun h => ?_
        · cases hg : s2.getLast? with
          | none =>
            have en : s2 = [] := List.getLast?_eq_none_iff.mp hg
            have hd0 : c ∉ dk [] ws := by
              intro w
              rw [en] at hs2
              have hs2 := hs2.symm
              rw [List.map_nil, List.append_eq_nil_iff, List.map_eq_nil_iff] at hs2
              rw [hs2.2] at w
              cases w
            refine EvB.imp (EvW.eb (ew_or (p := true) (q' := true) (EvB.imp (eb_eqI (ev_lenL (Us := s2.map fun p => dat (eCn p)) T.len_ (EvD.imp (ev_var 1) fun _ _ h => cL_ty.mp h)) ev_int) fun b h => ?_) fun h => by cases h)) fun b h => ?_
            · rw [h, en]
              rfl
            · rw [h, decide_eq_false hd0]
              rfl
          | some q =>
            have hne : s2 ≠ [] := fun w => by rw [w] at hg; cases hg
            have lk : (czn ks pl d ++ (dk [] ws).map fun t => (d, t)).getLast? = some q.1 := by
              rw [← hs2, List.getLast?_map, hg]
              rfl
            have lk2 := last_key (c := c) (fun a ma => (czn_mem.mp ma).1) lk
            rw [← last_in hpw] at lk2
            refine EvB.imp (EvW.eb (ew_or (p := false) (EvB.imp (eb_eqI (ev_lenL (Us := s2.map fun p => dat (eCn p)) T.len_ (EvD.imp (ev_var 1) fun _ _ h => cL_ty.mp h)) ev_int) fun b h => ?_) fun _ => ew_or1 (eb_ne hr (okD_shaped (okc q (List.mem_of_getLast? hg)) (by decide)) (okD_shaped (ok_eC (c := (d, c)) hct) (by decide)) (ev_ixTd (ds := [eC q.1, eL q.2]) rfl (ev_ixL (T := dat (eCn q)) (at_neg1 (by rw [List.getLast?_map, hg]; rfl)) (EvD.imp (ev_var 1) fun _ _ h => cL_ty.mp h) (ev_neg ev_int)) ev_int) (ev_tupD (ds := [.int (d : Int), .str c]) (ea2 (ev_var 2) (ev_var 4)) (by show 2 ≤ 1000; decide))))) fun b h => ?_
            · rw [h]
              refine decide_eq_false fun w => hne ?_
              rw [List.length_map] at w
              exact List.length_eq_zero_iff.mp (by omega)
            · rw [h, eqv_inj eC_inj (okc q (List.mem_of_getLast? hg)) (ok_eC (c := (d, c)) hct), Bool.false_or]
              by_cases hc : c ∈ dk [] ws
              · rw [decide_eq_true hc, decide_eq_true (lk2.mpr hc)]
              · rw [decide_eq_false hc, decide_eq_false fun w => hc (lk2.mp w)]
        · have hc : c ∉ dk [] ws := fun w => by rw [decide_eq_true w] at h; cases h
          refine sw_app (T := dat (eCn ((d, c), (nmsD ks pl d).filter fun n => decide ((pl n)[d]! = c)))) (EvG.drop (EvD.g (ev_tupD (ds := [eC (d, c), eL ((nmsD ks pl d).filter fun n => decide ((pl n)[d]! = c))]) (ea2 (ev_tupD (ds := [.int (d : Int), .str c]) (ea2 (ev_var 2) (ev_var 4)) (by show 2 ≤ 1000; decide)) (EvD.imp (ev_lc1 (nmsD ks pl d) (fun n => dat (.str n)) (fun n => decide ((pl n)[d]! = c)) (fun n => dat (.str n)) 5 rfl nd_L_crossings (ei_listA (nmsD ks pl d) (fun n => dat (.str n)) (ev_var 3)) (blkOk_by (N := N_L_crossings) (sc := defScope s_L_crossings) (by decide +kernel)) (fun _ _ _ _ _ => pg_name nd_L_crossings rfl (Or.inl rfl))
            (fun n m _ _ _ _ _ => et_one (eb_eqS (at_eT (inK n m).2 (getP hu (inK n m).1 (ev_var 0) (ev_var 5)) (ev_var 2)) (ev_var 4))) (fun n m _ _ _ _ _ _ => ev_var 5) (by have := nml d; omega)) fun v G t => eLf_of (f := PyData.str) t)) (by show 2 ≤ 1000; decide)))) (by rw [List.length_map]; omega) ?_
          refine sw_nil (sw_nil ⟨s2 ++ [((d, c), (nmsD ks pl d).filter fun n => decide ((pl n)[d]! = c))], ?_, by repeat (first | exact Wk.nil | apply Wk.cons | apply Wk.no), ?_⟩)
          · show (s2 ++ [((d, c), (nmsD ks pl d).filter fun n => decide ((pl n)[d]! = c))]).map (·.1) = czn ks pl d ++ (dk [] (ws ++ [c])).map fun t => (d, t)
            rw [dk_snoc, if_neg hc, List.map_append, List.map_append, hs2, List.append_assoc]
            rfl
          · show _ = [((1 : Nat), (none : Option Addr), cL ((s2 ++ [((d, c), (nmsD ks pl d).filter fun n => decide ((pl n)[d]! = c))]).map fun p => dat (eCn p)))]
            rw [List.map_append]
            rfl
        · have hc : c ∈ dk [] ws := by
            by_cases w : c ∈ dk [] ws
            · exact w
            · rw [decide_eq_false w] at h
              cases h
          refine sw_nil ⟨s2, ?_, by repeat (first | exact Wk.nil | apply Wk.cons | apply Wk.no), rfl⟩
          rw [dk_snoc, if_pos hc]
          exact hs2
      · refine sw_nil ⟨s2, ?_, by repeat (first | exact Wk.nil | apply Wk.cons | apply Wk.no), rfl⟩
        rw [List.length_append, List.length_singleton, hyl]
        exact hs2
  · rw [List.length_range] at hs
    refine sw_freeze ?_
    exact sw_retT (U := tCros ks pl) rfl (EvD.g (EvD.imp (ev_var 1) fun v G h => ⟨s, hs, cL_ty.mp h⟩)) rfl
end
end K37
end
section
set_option maxRecDepth 100000
set_option maxHeartbeats 4000000
/-! W26: the law's parts and tokens. -/
namespace K37
open PySem PySem.Spec PyProof.Rows L2
open Z
def someB (pl : Plans) (us : List Deed) (c : Crs) : Bool := decide (0 < (partOf pl us c).length)
theorem cz_keys {i : WIx} {us : List Deed} (h : ThrOk i us) : (czn i.2.2.1 i.2.2.2 7).filter (someB i.2.2.2 us) = ckeys i.2.2.2 us := by
  refine ckeys_uniq (List.Pairwise.filter _ (czn_nodup _ _ 7)) (List.Pairwise.filter _ (czn_pair _ _ 7)) fun c => ?_
  rw [List.mem_filter, czn_mem, ← ckeys_mem]
  have e : someB i.2.2.2 us c = true ↔ c ∈ ckeys i.2.2.2 us := by
    unfold someB
    rw [decide_eq_true_iff, List.length_pos_iff, ne_eq, partOf_nil, Classical.not_not]
  rw [e]
  constructor
  · exact fun w => w.2
  · intro w
    obtain ⟨u, mu, eu⟩ := ckeys_mem.mp w
    have f := h.fit u mu
    have d6 := (h.h.all u mu).2.2
    refine ⟨⟨?_, u.1, f.x, ?_, ?_⟩, w⟩
    · rw [← eu]
      show u.2.2 < 7
      omega
    · rw [← eu]
      exact f.lx
    · rw [← eu]
      rfl
section
variable {P : Program} {w : World} {K : PySem.W.Frag} {mg : Str → Option Value} {base : Heap}
def pLParts : Pr (WIx × List Deed) := ⟨fun i => ThrOk i.1 i.2, fun i => [tPl i.1.2.2.1 i.1.2.2.2, dat (eH i.2)], fun i => dat (eParts (parts i.1.2.2.2 i.2))⟩
theorem cb_L_parts (T : Txt K mg) : Cb CX0 P w K mg base 2 "_law_parts" ["_law_plans", "_law_threads"] pLParts.sp := by
  refine cb_pr T.f_L_parts sc_L_parts bd_L_parts (fun _ => rfl) fun f cdv A outer s H E i z hr pz hp => ?_
  obtain ⟨⟨ts, rs, ks, pl⟩, us⟩ := i
  have hto : ThrOk (ts, rs, ks, pl) us := hp
  have hw : WorldOk ts rs ks pl := hto.ok
  have hl := hto.h.len
  have hk6 := hw.ok.len.2
  have hu := hu1 hr
  have okC : ∀ u ∈ us, okD (eC (crs pl u)) 1 = true := fun u m => ok_eC ((hw.ok.pl _ (hto.fit u m).x).nm _ (nth_bang (hto.fit u m).lx))
  refine sw_setO 2 nd_L_parts ef_nil ?_
  refine sw_forSX (S := List Part) (J := [3, 4]) (g := g2 K 3 4) (P := fun fk : List Cn => fk.map (·.1) = czn ks pl 7) (fun fk => fk) (fun p : Cn => tT [dat (eC p.1), dat (eL p.2)]) (fun fk ys s => s = ((ys.map (·.1)).filter (someB pl us)).map fun c => (c, partOf pl us c)) (fun _ => slots N_L_parts [some (tPl ks pl), some (dat (eH us)), none]) (fun s => [(2, none, cL (s.map fun p => dat (ePart p)))])
    (fun _ p => ((slots N_L_parts [some (tPl ks pl), some (dat (eH us)), none]).set 3 (some (dat (eC p.1)))).set 4 (some (dat (eL p.2)))) PassesOwn.never rfl (eix_mono (eix_list (xs := fun fk : List Cn => fk) (F := fun p : Cn => dat (eCn p)) (ev_callD (P := pCros) (ts, rs, ks, pl) (cb_L_crossings T) hr (by decide) hw (ea1 (ev_var 0)))) fun fk _ i _ v G t => dat_tuple.mp t) (pg_tup rfl (pgs_cons (pg_name nd_L_parts rfl (Or.inr rfl)) (pgs_cons (pg_name nd_L_parts rfl (Or.inl rfl)) pgs_nil)))
    (fun _ p => tr_tup2 3 4) (fun _ q m => by rw [List.mem_singleton.mp m]; show (2 : Nat) ∉ [3, 4]; decide) (fun fk hfk => ⟨[], rfl, by repeat (first | exact Wk.nil | apply Wk.cons | apply Wk.no), rfl⟩) (fun fk hfk ys p zs s e hs => ?_) fun fk hfk s hs => ?_
  · have mp : p.1 ∈ czn ks pl 7 := by
      rw [← hfk, e]
      simp
    have okp : okD (eC p.1) 1 = true := by
      obtain ⟨_, n, mn, hl2, en⟩ := czn_mem.mp mp
      refine ok_eC ?_
      rw [← en]
      exact (hw.ok.pl n mn).nm _ (nth_bang hl2)
    have hyl : ys.length < 43 := by
      have a := congrArg List.length hfk
      have b := czn_len ks pl 7
      rw [e, List.length_map, List.length_append, List.length_cons] at a
      have : 7 * ks.length ≤ 7 * 6 := Nat.mul_le_mul_left 7 hk6
      omega
    have hsl : s.length ≤ ys.length := by
      rw [hs, List.length_map]
      exact Nat.le_trans (List.length_filter_le _ _) (by rw [List.length_map]; exact Nat.le_refl _)
    refine sw_setLc1 us (fun u => dat (eD u)) (fun u => decide (crs pl u = p.1)) (fun u => dat (eD u)) 5 6 rfl nd_L_parts (ei_listA us (fun u => dat (eD u)) (eH_toL (ev_var 1))) (blkOk_by (N := N_L_parts) (sc := defScope s_L_parts) (by decide +kernel)) (fun _ _ _ _ _ => pg_name nd_L_parts rfl (Or.inl rfl))
      (fun u m _ _ _ _ _ => et_one (EvB.imp (eb_eq hr (okD_shaped (okC u m) (by decide)) (okD_shaped okp (by decide)) (ev_tupD (ds := [.int (u.2.2 : Int), .str (pl u.1)[u.2.2]!]) (ea2 (at_eD2 (ev_var 6)) (at_eT (hto.fit u m).lx (getP hu (hto.fit u m).x (ev_var 0) (at_eD0 (ev_var 6))) (at_eD2 (ev_var 6)))) (by show 2 ≤ 1000; decide)) (ev_var 3)) fun b h => ?_)) (fun u m _ _ _ _ _ _ => ev_var 6) (by omega) ?_
    · rw [h]
      exact eqv_inj eC_inj (okC u m) okp
    · refine sw_when (P := fun b => b = someB pl us p.1) (EvGB.drop (EvB.g (EvB.imp (eb_gt (ev_lenL (Us := (partOf pl us p.1).map fun u => dat (eD u)) T.len_ (ev_var 5)) ev_int) fun b h => ?_))) (fun h => ?_) fun h => ?_
      · rw [h, List.length_map]
        unfold someB
        by_cases c : 0 < (partOf pl us p.1).length
        · rw [decide_eq_true c, decide_eq_true (by omega)]
        · rw [decide_eq_false c, decide_eq_false (by omega)]
      · refine sw_app (T := dat (ePart (p.1, partOf pl us p.1))) (EvG.drop (EvD.g (ev_tupD (ds := [eC p.1, eH (partOf pl us p.1)]) (ea2 (ev_var 3) (EvD.imp (ev_var 5) fun v G t => eLf_of (f := eD) t)) (by show 2 ≤ 1000; decide)))) (by rw [List.length_map]; omega) ?_
        refine sw_nil (sw_nil ⟨s ++ [(p.1, partOf pl us p.1)], ?_, by repeat (first | exact Wk.nil | apply Wk.cons | apply Wk.no), ?_⟩)
        · show s ++ [(p.1, partOf pl us p.1)] = (((ys ++ [p]).map (·.1)).filter (someB pl us)).map fun c => (c, partOf pl us c)
          rw [List.map_append, List.filter_append, List.map_append, ← hs]
          congr 1
          show _ = ([p.1].filter (someB pl us)).map fun c => (c, partOf pl us c)
          rw [List.filter_cons_of_pos h.symm]
          rfl
        · show _ = [((2 : Nat), (none : Option Addr), cL ((s ++ [(p.1, partOf pl us p.1)]).map fun p => dat (ePart p)))]
          rw [List.map_append]
          rfl
      · refine sw_nil ⟨s, ?_, by repeat (first | exact Wk.nil | apply Wk.cons | apply Wk.no), rfl⟩
        show s = (((ys ++ [p]).map (·.1)).filter (someB pl us)).map fun c => (c, partOf pl us c)
        rw [List.map_append, List.filter_append, List.map_append, ← hs]
        have e3 : [p].map (·.1) = [p.1] := rfl
        rw [e3, List.filter_cons_of_neg (by rw [← h]; exact Bool.false_ne_true)]
        simp
  · refine sw_freeze ?_
    refine sw_retT rfl (EvD.g (EvD.imp (ev_var 2) fun v G h => eLf_of (f := ePart) (cL_ty.mp h))) ?_
    show dat (.list (s.map ePart)) = dat (eParts (parts pl us))
    have hs : s = ((fk.map (·.1)).filter (someB pl us)).map fun c => (c, partOf pl us c) := hs
    rw [hs, hfk]
    have e4 := cz_keys hto
    have e4 : (czn ks pl 7).filter (someB pl us) = ckeys pl us := e4
    rw [e4]
    rfl
section
variable {X : Cx} {z : Zn} {δ δ' : List (Option Z.Ty)} {Ω Ω' : Own} {c : Expr} {pos : Pos} {D : Dn} {rest sa sb : List Stmt}
/-- an if whose two ways meet in one state -/
theorem sw_ifE {P : Bool → Prop} (hc : EvGB X z δ Ω c P) (ht : P true → SWs X z sa { D with nx := fun d o => Wk d δ' ∧ o = Ω' } δ Ω) (hf : P false → SWs X z sb { D with nx := fun d o => Wk d δ' ∧ o = Ω' } δ Ω) (k : SWs X z rest D δ' Ω') : SWs X z (.If c sa sb pos :: rest) D δ Ω :=
  sw_if hc (fun h => (ht h).mono (fun d o ⟨w, e⟩ => by rw [e]; exact sw_weak w k) (fun _ _ q => q) (fun _ _ q => q) fun _ _ q => q) (fun h => (hf h).mono (fun d o ⟨w, e⟩ => by rw [e]; exact sw_weak w k) (fun _ _ q => q) (fun _ _ q => q) fun _ _ q => q)
end
/-! ### tokens -/
structure RunOk (i : WIx) (hs : List Deed) : Prop where
  ok : i.ok
  h : HOk hs
  run : refused i.2.2.1 i.2.2.2 hs 0 = none
def pLTok : Pr (WIx × List Deed) := ⟨fun i => RunOk i.1 i.2, fun i => [tPl i.1.2.2.1 i.1.2.2.2, dat (eH i.2)], fun i => dat (eH (thr (cr0 i.1.2.2.2) i.2))⟩
theorem cr_ext {ks : List Str} {cr cr' : Plans} (h : ∀ n ∈ ks, cr n = cr' n) : eCr ks cr = eCr ks cr' := List.map_congr_left fun n m => by rw [h n m]
theorem cb_L_tokens (T : Txt K mg) : Cb CX0 P w K mg base 1 "_law_tokens" ["_law_plans", "_law_history_here"] pLTok.sp := by
  refine cb_pr T.f_L_tokens sc_L_tokens bd_L_tokens (fun _ => rfl) fun f cdv A outer s H E i z hr pz hp => ?_
  obtain ⟨⟨ts, rs, ks, pl⟩, hs⟩ := i
  obtain ⟨hw, hh, hq⟩ := hp
  have hw : WorldOk ts rs ks pl := hw
  have hh : HOk hs := hh
  have hq : refused ks pl hs 0 = none := hq
  have hk6 := hw.ok.len.2
  have hu := hu1 hr
  have hl60 := hh.len
  refine sw_setO 2 nd_L_tokens ef_dict ?_
  refine sw_lock (es := ks.map fun n => (.inr n, dat (eT (pl n)))) 0 rfl (fun q m => ?_) (fun j U hj e => ?_) (fun q m => ?_) fun z' d' hz' => ?_
  · obtain ⟨n, _, rfl⟩ := List.mem_map.mp m
    exact fl_dat
  · match j, hj, e with
    | 1, _, e => cases e; exact fl_dat
    | 2, _, e => cases e
    | 3, _, e => cases e
    | 4, _, e => cases e
    | 5, _, e => cases e
    | 6, _, e => cases e
    | 7, _, e => cases e
    | 8, _, e => cases e
    | 9, _, e => cases e
    | j + 10, _, e => cases e
  · rw [List.mem_singleton.mp m]
    exact fc_DK fun q m => nomatch m
  · refine s1_forS (S := List Str) (J := [3]) (g := gName 3) ks (fun n => dat (.str n)) (fun ys s => s = ys) (fun _ => slots N_L_tokens [some (tFz d' (ks.map fun n => (.inr n, dat (eT (pl n))))), some (dat (eH hs)), none]) (fun s => [(2, none, cDK (eCr s (cr0 pl)))])
      (fun _ n => (slots N_L_tokens [some (tFz d' (ks.map fun n => (.inr n, dat (eT (pl n))))), some (dat (eH hs)), none]).set 3 (some (dat (.str n)))) PassesOwn.never rfl (ei_keysA (F := fun n => dat (eT (pl n))) (ev_var 0)) (pg_name nd_L_tokens rfl (Or.inr rfl))
      (fun _ n => tr_name 3) (fun _ q m => by rw [List.mem_singleton.mp m]; show (2 : Nat) ∉ [3]; decide) ⟨[], rfl, by repeat (first | exact Wk.nil | apply Wk.cons | apply Wk.no), rfl⟩ (fun ys n zs s e hs2 => ?_) fun s hs2 => ?_
    · subst hs2
      have mn : n ∈ ks := by rw [e]; simp
      have hn : n ∉ s := fun m => by
        have := hw.ok.nd
        rw [e] at this
        exact (List.nodup_append.mp this).2.2 n m n List.mem_cons_self rfl
      have hpl := (hw.ok.pl n mn).len
      have hsl : s.length ≤ 6 := by
        have := congrArg List.length e
        rw [List.length_append, List.length_cons] at this
        omega
      refine sw_dput (T := dat (eL (cr0 pl n))) (kk := .inr n) hu (EvG.drop (EvD.g (EvD.imp (ev_lc1 (pl n) (fun t => dat (.str t)) (fun _ => true) (fun _ => dat (.str n)) 9 rfl nd_L_tokens (ei_tupA (pl n) (fun t => dat (.str t)) (eT_toT (ev_dget (kk := .inr n) hu (look_strK ks mn) (EvD.imp (ev_var 0) fun _ _ => tFz_rd) (EvD.rawS (ev_var 3))))) (blkOk_by (N := N_L_tokens) (sc := defScope s_L_tokens) (by decide +kernel)) (fun _ _ _ _ _ => pg_name nd_L_tokens rfl (Or.inl rfl))
        (fun t m _ _ _ _ _ => et_nil) (fun t m _ _ _ _ _ _ => ev_var 3) (by omega)) fun v G t => ?_))) (EvG.drop (EvD.g (EvD.rawS (ev_var 3)))) (by unfold eCr; rw [List.length_map]; omega) ?_
      · rw [map_all] at t
        refine eLf_of (f := PyData.str) (ts := cr0 pl n) ?_
        have e5 : ((cr0 pl n).map fun x => dat (.str x)) = (pl n).map fun _ => dat (.str n) := by
          unfold cr0
          rw [List.map_replicate, List.map_const']
        rw [e5]
        exact t
      · have e6 : putT (eCr s (cr0 pl)) (.inr n) (dat (eL (cr0 pl n))) = eCr (s ++ [n]) (cr0 pl) := by
          unfold eCr
          rw [put_new s hn, List.map_append]
          rfl
        rw [e6]
        exact sw_nil ⟨s ++ [n], rfl, by repeat (first | exact Wk.nil | apply Wk.cons | apply Wk.no), rfl⟩
    · subst hs2
      refine ⟨rfl, fun j U hj e => ?_, fun q m => ?_, ?_⟩
      · match j, hj, e with
        | 1, _, e => cases e; exact fl_dat
        | 2, _, e => cases e
        | 3, _, e => cases e
        | 4, _, e => cases e
        | 5, _, e => cases e
        | 6, _, e => cases e
        | 7, _, e => cases e
        | 8, _, e => cases e
        | 9, _, e => cases e
        | j + 10, _, e => cases e
      · rw [List.mem_singleton.mp m]
        refine fc_DK fun q m => ?_
        obtain ⟨n, _, rfl⟩ := List.mem_map.mp m
        exact fl_dat
      · show SWs _ z _ _ (slots N_L_tokens [some (tPl s pl), some (dat (eH hs)), none]) [(2, none, cDK (eCr s (cr0 pl)))]
        refine sw_setO 4 nd_L_tokens ef_nil ?_
        refine sw_forS (S := List Deed) (J := [5, 6, 7]) (g := g3 K 5 6 7) hs (fun t => tT [dat (.str t.1), dat (.str t.2.1), dat (.int (t.2.2 : Int))]) (fun ys s2 => s2 = ys) (fun _ => slots N_L_tokens [some (tPl s pl), some (dat (eH hs)), none, none, none]) (fun ys => [(4, none, cH (thr (cr0 pl) ys)), (2, none, cDK (eCr s (swps (cr0 pl) ys)))])
          (fun _ t => (((slots N_L_tokens [some (tPl s pl), some (dat (eH hs)), none, none, none]).set 5 (some (dat (.str t.1)))).set 6 (some (dat (.str t.2.1)))).set 7 (some (dat (.int (t.2.2 : Int))))) PassesOwn.never rfl (ei_mono (ei_listA hs (fun t => dat (eD t)) (eH_toL (ev_var 1))) fun _ _ _ _ t => dat_tuple.mp t) (pg_tup rfl (pgs_cons (pg_name nd_L_tokens rfl (Or.inl rfl)) (pgs_cons (pg_name nd_L_tokens rfl (Or.inl rfl)) (pgs_cons (pg_name nd_L_tokens rfl (Or.inl rfl)) pgs_nil))))
          (fun _ t => tr_tup3 5 6 7) (fun _ q m => ?_) ⟨[], rfl, by repeat (first | exact Wk.nil | apply Wk.cons | apply Wk.no), rfl⟩ (fun ys t zs s2 e hs2 => ?_) fun s2 hs2 => ?_
        · simp only [List.mem_cons, List.not_mem_nil, or_false] at m
          rcases m with rfl | rfl
          · show (4 : Nat) ∉ [5, 6, 7]; decide
          · show (2 : Nat) ∉ [5, 6, 7]; decide
        · subst hs2
          rw [e] at hq
          obtain ⟨h1, h2⟩ := refused_split hq
          have wy := way_of hw h1 h2
          have hx := h2.x
          have hy := h2.y
          have hyx : ¬ t.2.1 = t.1 := fun w => h2.ne w.symm
          have lt60 : s2.length < 60 := by
            rw [e, List.length_append, List.length_cons] at hl60
            omega
          have hlx := wy.sp.lx
          have hly := wy.sp.ly
          refine sw_ifE (P := fun b => b = decide (0 < t.2.2)) (δ' := ((((slots N_L_tokens [some (tPl s pl), some (dat (eH hs)), none, none, none]).set 5 (some (dat (.str t.1)))).set 6 (some (dat (.str t.2.1)))).set 7 (some (dat (.int (t.2.2 : Int)))))) (Ω' := [(4, none, cH (thr (cr0 pl) (s2 ++ [t]))), (2, none, cDK (eCr s (swps (cr0 pl) s2)))]) (EvGB.drop (EvGB.drop (EvB.g (EvB.imp (eb_gt (ev_var 7) ev_int) fun b h => ?_)))) (fun h => ?_) (fun h => ?_) ?_
          · rw [h]
            by_cases c : 0 < t.2.2
            · rw [decide_eq_true c, decide_eq_true (by omega)]
            · rw [decide_eq_false c, decide_eq_false (by omega)]
          · have h0 : 0 < t.2.2 := of_decide_eq_true h.symm
            have ea : ∀ n, arr (swps (cr0 pl) s2) n t.2.2 = (swps (cr0 pl) s2 n)[t.2.2 - 1]! := fun n => by
              unfold arr
              rw [if_neg (by omega)]
            have ci : (t.2.2 : Int) - 1 = ((t.2.2 - 1 : Nat) : Int) := by omega
            refine sw_app (T := dat (eD ((swps (cr0 pl) s2 t.1)[t.2.2 - 1]!, (swps (cr0 pl) s2 t.2.1)[t.2.2 - 1]!, t.2.2))) (EvG.swap (EvG.viewD sq_DK fl_dat fun z' h1 h2 => ev_tupD (ds := [.str (swps (cr0 pl) s2 t.1)[t.2.2 - 1]!, .str (swps (cr0 pl) s2 t.2.1)[t.2.2 - 1]!, .int (t.2.2 : Int)]) (ea_cons
              (at_eL (ts := swps (cr0 pl) s2 t.1) (n := t.2.2 - 1) (by have := wy.lx; omega) (getCr (ks := s) hu hx (EvD.imp (ev_var 2) fun _ _ h => tDK_rd (cDK_ty.mp h)) (ev_var 5)) (EvD.imp (ev_sub (ev_var 7) ev_int) fun v G q => by rw [ci] at q; exact q))
              (ea2 (at_eL (ts := swps (cr0 pl) s2 t.2.1) (n := t.2.2 - 1) (by have := wy.ly; omega) (getCr (ks := s) hu hy (EvD.imp (ev_var 2) fun _ _ h => tDK_rd (cDK_ty.mp h)) (ev_var 6)) (EvD.imp (ev_sub (ev_var 7) ev_int) fun v G q => by rw [ci] at q; exact q)) (ev_var 7))) (by show 3 ≤ 1000; decide))) (by rw [List.length_map, thr_len]; omega) ?_
            refine sw_nil ⟨Wk.rfl' _, ?_⟩
            rw [thr_snoc, ea, ea]
            unfold cH
            rw [List.map_append]
            rfl
          · have h0 : t.2.2 = 0 := by
              have := of_decide_eq_false h.symm
              omega
            have ea : ∀ n, arr (swps (cr0 pl) s2) n t.2.2 = n := fun n => by
              unfold arr
              rw [if_pos h0]
            refine sw_app (T := dat (eD t)) (EvG.drop (EvG.drop (EvD.g (ev_tupD (ds := [.str t.1, .str t.2.1, .int (t.2.2 : Int)]) (ea_cons (ev_var 5) (ea2 (ev_var 6) (ev_var 7))) (by show 3 ≤ 1000; decide))))) (by rw [List.length_map, thr_len]; omega) ?_
            refine sw_nil ⟨Wk.rfl' _, ?_⟩
            rw [thr_snoc, ea, ea]
            unfold cH
            rw [List.map_append]
            rfl
          · refine sw_set 8 nd_L_tokens (T := dat (eL ((swps (cr0 pl) s2 t.1).drop t.2.2))) (EvG.swap (EvG.viewD sq_DK fl_dat fun z' h1 h2 => EvD.imp (ev_tailL (m := t.2.2) rfl (ds := (swps (cr0 pl) s2 t.1).map PyData.str) (getCr (ks := s) hu hx (EvD.imp (ev_var 2) fun _ _ h => tDK_rd (cDK_ty.mp h)) (ev_var 5)) (ev_var 7)) fun v G q => by rw [← List.map_drop] at q; exact q)) ?_
            refine sw_swap (sw_dput (T := dat (eL ((swps (cr0 pl) s2 t.1).take t.2.2 ++ (swps (cr0 pl) s2 t.2.1).drop t.2.2))) (kk := .inr t.1) hu (EvG.viewD sq_DK fl_dat fun z' h1 h2 => ev_cutL hlx hly (getCr (ks := s) hu hx (EvD.imp (ev_var 2) fun _ _ h => tDK_rd (cDK_ty.mp h)) (ev_var 5)) (ev_var 7) (getCr (ks := s) hu hy (EvD.imp (ev_var 2) fun _ _ h => tDK_rd (cDK_ty.mp h)) (ev_var 6)) (ev_var 7)) (EvG.drop (EvG.drop (EvD.g (EvD.rawS (ev_var 5))))) (by unfold eCr; rw [List.length_map]; omega) ?_)
            rw [put_cr hx]
            refine sw_dput (T := dat (eL ((swps (cr0 pl) s2 t.2.1).take t.2.2 ++ (swps (cr0 pl) s2 t.1).drop t.2.2))) (kk := .inr t.2.1) hu (EvG.viewD sq_DK fl_dat fun z' h1 h2 => EvD.imp (ev_catLd (ds := ((swps (cr0 pl) s2 t.2.1).map PyData.str).take t.2.2) (es' := ((swps (cr0 pl) s2 t.1).drop t.2.2).map PyData.str) ?_ (ev_headL (m := t.2.2) (EvD.imp (getCr (ks := s) (cr := fun n => if n = t.1 then (swps (cr0 pl) s2 t.1).take t.2.2 ++ (swps (cr0 pl) s2 t.2.1).drop t.2.2 else swps (cr0 pl) s2 n) hu hy (EvD.imp (ev_var 2) fun _ _ h => tDK_rd (cDK_ty.mp h)) (ev_var 6)) fun v G q => ?_) (ev_var 7)) (ev_var 8)) fun v G q => ?_) (EvG.drop (EvG.drop (EvD.g (EvD.rawS (ev_var 6))))) (by unfold eCr; rw [List.length_map]; omega) ?_
            · rw [List.length_take, List.length_map, List.length_map, List.length_drop]
              omega
            · rw [if_neg hyx] at q
              exact q
            · rw [← List.map_take, ← List.map_append] at q
              exact q
            · rw [put_cr hy]
              refine sw_swap (sw_nil ⟨s2 ++ [t], rfl, by repeat (first | exact Wk.nil | apply Wk.cons | apply Wk.no), ?_⟩)
              show _ = [((4 : Nat), (none : Option Addr), cH (thr (cr0 pl) (s2 ++ [t]))), (2, none, cDK (eCr s (swps (cr0 pl) (s2 ++ [t]))))]
              rw [swps_app]
              rfl
        · subst hs2
          refine sw_freeze ?_
          exact sw_retT rfl (EvD.g (EvD.imp (ev_var 4) fun v G h => eLf_of (f := eD) (cL_ty.mp h))) rfl
end
end K37
end
section
set_option maxRecDepth 100000
set_option maxHeartbeats 4000000
/-! W27: near deeds and near histories. -/
namespace K37
open PySem PySem.Spec PyProof.Rows L2
open Z
theorem sub_len {α : Type} [BEq α] [LawfulBEq α] {xs ys : List α} (hx : xs.Nodup) (hy : ys.Nodup) (h : ∀ a ∈ xs, a ∈ ys) : xs.length ≤ ys.length := by
  have e : xs.Perm (ys.filter fun a => xs.contains a) := (List.perm_ext_iff_of_nodup hx (List.Pairwise.filter _ hy)).mpr fun a => by
    rw [List.mem_filter, List.contains_iff_mem]
    exact ⟨fun m => ⟨h a m, m⟩, fun m => m.2⟩
  rw [e.length_eq]
  exact List.length_filter_le _ _
/-- the things that are there -/
theorem reps_choose {α : Type} {P : α → Prop} {F : α → Z.Ty} {G : Hp} : ∀ {vs : List V} {Ts : List Z.Ty}, (∀ T ∈ Ts, ∀ v, T.p v G → (tEx P F).p v G) → Reps G vs Ts → ∃ xs : List α, xs.length = Ts.length ∧ (∀ x ∈ xs, P x) ∧ Reps G vs (xs.map F)
  | _, _, _, .nil => ⟨[], rfl, (fun _ m => nomatch m), .nil⟩
  | _, _, h, .cons a t => by
    obtain ⟨x, hx, tx⟩ := h _ List.mem_cons_self _ a
    obtain ⟨xs, h1, h2, h3⟩ := reps_choose (fun T m => h T (List.mem_cons_of_mem _ m)) t
    refine ⟨x :: xs, by rw [List.length_cons, List.length_cons, h1], fun y m => ?_, .cons tx h3⟩
    rcases List.mem_cons.mp m with rfl | m
    · exact hx
    · exact h2 y m
theorem tL_choose {α : Type} {P : α → Prop} {F : α → Z.Ty} {v : V} {G : Hp} {Ts : List Z.Ty} (h : ∀ T ∈ Ts, ∀ v, T.p v G → (tEx P F).p v G) (t : (tL Ts).p v G) : ∃ xs : List α, xs.length = Ts.length ∧ (∀ x ∈ xs, P x) ∧ (tL (xs.map F)).p v G := by
  obtain ⟨a, vs, e, ea, r⟩ := t
  obtain ⟨xs, h1, h2, h3⟩ := reps_choose h r
  exact ⟨xs, h1, h2, a, vs, e, ea, h3⟩
def tNm : Z.Ty := tEx (fun x : Str => nameB x = true) fun x => dat (.str x)
def tDeed : Z.Ty := tEx DOk fun t => dat (eD t)
def sgns : Str := "a0z9bym1c5"
theorem sgns_ok : ∀ c ∈ sgns.cps.toList, c ∈ LADd := by decide +kernel
theorem sgns_nd : sgns.cps.toList.Nodup := by decide +kernel
/-- the stem of a name and one sign more -/
theorem stem_nm {n : Str} (h : nameB n = true) {c : Nat} (hc : c ∈ LADd) : nameB (takeS n 7 ++ chS c) = true := by
  unfold nameB at h ⊢
  obtain ⟨h1, h2⟩ := Bool.and_eq_true_iff.mp h
  obtain ⟨h11, h12⟩ := Bool.and_eq_true_iff.mp h1
  obtain ⟨h21, h22⟩ := Bool.and_eq_true_iff.mp h2
  have h11 := of_decide_eq_true h11
  have h12 := of_decide_eq_true h12
  rw [← slen] at h11 h12
  have e : (takeS n 7 ++ chS c).cps.toList = n.cps.toList.take 7 ++ [c] := by rw [app_cps, takeS_cps]; rfl
  have l : (takeS n 7 ++ chS c).cps.toList.length = min 7 n.cps.toList.length + 1 := by rw [e, List.length_append, List.length_take]; rfl
  rw [← slen, l, decide_eq_true (by omega), decide_eq_true (by omega)]
  have hd : (takeS n 7 ++ chS c).cps.toList[0]! ∈ LETd := by
    rw [e, bang_app_l (by rw [List.length_take]; omega), bang_take (by omega) (by omega)]
    exact of_decide_eq_true h21
  rw [decide_eq_true hd]
  refine List.all_eq_true.mpr fun d m => decide_eq_true ?_
  rw [e] at m
  rcases List.mem_append.mp m with m | m
  · exact of_decide_eq_true (List.all_eq_true.mp h22 d (List.mem_of_mem_take m))
  · rw [List.mem_singleton.mp m]; exact hc
theorem stem_inj {n : Str} {a b : Nat} (h : takeS n 7 ++ chS a = takeS n 7 ++ chS b) : a = b := by
  have h := congrArg (fun s : Str => s.cps.toList) h
  have h : (takeS n 7 ++ chS a).cps.toList = (takeS n 7 ++ chS b).cps.toList := h
  rw [app_cps, app_cps] at h
  have h := List.append_cancel_left h
  exact (List.cons.inj h).1
/-- the strange words -/
def odds (n : Str) : List Str := sgns.cps.toList.map fun c => takeS n 7 ++ chS c
theorem odds_nd (n : Str) : (odds n).Nodup := map_nodup (fun a b h => stem_inj h) sgns_nd
theorem odds_some {n : Str} {ns : List Str} (hn : ns.Nodup) (hl : ns.length ≤ 6) : 0 < ((odds n).filter fun x => !decide (x ∈ ns)).length := by
  refine List.length_pos_iff.mpr fun w => ?_
  have all : ∀ x ∈ odds n, x ∈ ns := fun x m => by
    have h := List.filter_eq_nil_iff.mp w x m
    by_cases c : x ∈ ns
    · exact c
    · rw [decide_eq_false c] at h
      exact absurd rfl h
  have := sub_len (odds_nd n) hn all
  have e : (odds n).length = 10 := by
    unfold odds
    rw [List.length_map]
    decide +kernel
  omega
section
variable {P : Program} {w : World} {K : PySem.W.Frag} {mg : Str → Option Value} {base : Heap}
structure NsOk (ns : List Str) : Prop where
  len : 1 ≤ ns.length ∧ ns.length ≤ 6
  nd : ns.Nodup
  nm : ∀ n ∈ ns, nameB n = true
theorem WorldOk.ns {ts : List Str} {rs : List (Str × Str)} {ks : List Str} {pl : Plans} (h : WorldOk ts rs ks pl) : NsOk (sortN ks) := ⟨by rw [sortN_len]; exact h.ok.len, (sortN_perm ks).nodup_iff.mpr h.ok.nd, fun n m => h.ok.nm n ((sortN_mem ks n).mp m)⟩
def pStrange : Pr (List Str) := ⟨NsOk, fun ns => [dat (eL ns)], fun _ => tNm⟩
theorem cb_L_strange (T : Txt K mg) : Cb CX0 P w K mg base 4 "_law_strange" ["_law_store_here", "_law_names"] pStrange.spS := by
  refine cb_prS T.f_L_strange sc_L_strange bd_L_strange (fun _ => rfl) fun f cdv A outer s H E ns z st hr hz hB hp => ?_
  have hn : NsOk ns := hp
  have hl := hn.len
  refine sw_setE 2 nd_L_strange (P := fun n : Str => n ∈ ns) (R := fun n => dat (.str (takeS n 7))) (EvD.g (ev_headSEx (m := 7) (F := fun n : Str => n) (fun y m => ?_) (ev_pick T ns (fun n => dat (.str n)) hz hr (by decide) (by omega) (by omega) (ev_var 0) (eL_toL (ev_var 1))) ev_int)) fun n mn => ?_
  · exact Nat.le_trans (nameB_len (hn.nm y m)).2 (by decide)
  have hnl := (nameB_len (hn.nm n mn)).2
  have htl : (takeS n 7).length ≤ 500 := Nat.le_trans (takeS_len n 7) (by omega)
  refine sw_setLc1 sgns.cps.toList (fun c => dat (.str (chS c))) (fun _ => true) (fun c => dat (.str (takeS n 7 ++ chS c))) 3 4 rfl nd_L_strange (ei_strA (y := sgns) ev_str) (blkOk_by (N := N_L_strange) (sc := defScope s_L_strange) (by decide +kernel)) (fun _ _ _ _ _ => pg_name nd_L_strange rfl (Or.inl rfl)) (fun c m _ _ _ _ _ => et_nil)
    (fun c m _ _ _ _ _ _ => ev_addS (by show _ + 1 ≤ 1000; omega) (ev_var 2) (ev_var 4)) (by decide +kernel) ?_
  rw [map_all]
  have e1 : (sgns.cps.toList.map fun c => dat (.str (takeS n 7 ++ chS c))) = (odds n).map fun x => dat (.str x) := by
    unfold odds
    rw [List.map_map]
    rfl
  rw [e1]
  have hsl : (odds n).length = 10 := by
    unfold odds
    rw [List.length_map]
    decide +kernel
  refine sw_retT (U := tNm) rfl (EvD.g (EvD.imp (ev_pick T ((odds n).filter fun x => !decide (x ∈ ns)) (fun x => dat (.str x)) hz hr (by decide) (odds_some hn.nd hl.2) (Nat.le_trans (List.length_filter_le _ _) (by omega)) (ev_var 0) (ev_lc1 (odds n) (fun x => dat (.str x)) (fun x => !decide (x ∈ ns)) (fun x => dat (.str x)) 5 rfl nd_L_strange (ei_listA (odds n) (fun x => dat (.str x)) (ev_var 3)) (blkOk_by (N := N_L_strange) (sc := defScope s_L_strange) (by decide +kernel)) (fun _ _ _ _ _ => pg_name nd_L_strange rfl (Or.inl rfl))
    (fun x m _ _ _ _ _ => et_one (eb_ninL (ev_var 5) (ev_var 1))) (fun x m _ _ _ _ _ _ => ev_var 5) (by omega))) fun v G ⟨x, mx, t⟩ => ?_)) rfl
  obtain ⟨c, mc, rfl⟩ := List.mem_map.mp (List.mem_filter.mp mx).1
  exact ⟨_, stem_nm (hn.nm n mn) (sgns_ok c mc), t⟩
def pNearD : Pr WIx := ⟨fun i => i.ok, fun i => [tPl i.2.2.1 i.2.2.2], fun _ => tDeed⟩
theorem cb_L_near_deed (T : Txt K mg) : Cb CX0 P w K mg base 5 "_law_near_deed" ["_law_store_here", "_law_plans"] pNearD.spS := by
  refine cb_prS T.f_L_near_deed sc_L_near_deed bd_L_near_deed (fun _ => rfl) fun f cdv A outer s H E i z st hr hz hB hp => ?_
  obtain ⟨ts, rs, ks, pl⟩ := i
  have hw : WorldOk ts rs ks pl := hp
  have hk := hw.ok.len
  have hns := hw.ns
  have hsl := sortN_len ks
  refine sw_set 2 nd_L_near_deed (T := dat (eL (sortN ks))) (EvD.g (EvD.imp (ev_sortPl T.sorted_ hk.2 (ev_var 1)) fun v G t => eLf_of (f := PyData.str) t)) ?_
  refine sw_setE 3 nd_L_near_deed (P := fun fs : List Deed => (∀ t ∈ fs, Fits ks pl t ∧ t.2.2 ≤ 6) ∧ fs.length ≤ 300) (R := fun fs => dat (eH fs)) (EvD.g (ev_callD (P := pFitting) (ks, pl) (cb_L_fitting T) hr (by decide) ⟨hw.ok.nd, hk.2⟩ (ea1 (ev_var 1)))) fun fs hfs => ?_
  refine sw_setE 4 nd_L_near_deed (P := fun j : Nat => j < 9) (R := fun j => dat (.int (j : Int))) (EvD.g (ev_take (n := 9) T hz hr (by decide) (by decide) (by decide) (ev_var 0) ev_int)) fun fm hfm => ?_
  refine sw_when (P := fun b => b = true → 0 < fs.length) (EvB.g (EvB.imp (EvW.eb (ew_and (eb_lt (ev_var 4) ev_int) fun _ => ew_and1 (eb_gt (lenH T.len_ (ev_var 3)) ev_int))) fun b h hb => ?_)) (fun h => ?_) fun h => ?_
  · rw [hb] at h
    have := of_decide_eq_true (Bool.and_eq_true_iff.mp h.symm).2
    omega
  · refine sw_retT (U := tDeed) rfl (EvD.g (EvD.imp (ev_pick T fs (fun t => dat (eD t)) hz hr (by decide) (h rfl) (by omega) (ev_var 0) (eH_toL (ev_var 3))) fun v G ⟨t, mt, q⟩ => ⟨t, ?_, q⟩)) rfl
    have f := hfs.1 t mt
    exact ⟨hw.ok.nm _ f.1.x, hw.ok.nm _ f.1.y, f.2⟩
  · have pk : ∀ (X : Cx) (δ : List (Option Z.Ty)) (a b : Expr) (p pos : Pos) (k : Nat), Txt X.K X.mg → Room k X.A → 3 ≤ k → EvD X z δ a (tRaw (.ref st)) → EvD X z δ b (dat (eL (sortN ks))) → Gl X "_law_pick" → starEach [a, b] X.env = (false, eval a X.env) :: starEach [b] X.env → starEach [b] X.env = (false, eval b X.env) :: starEach [] X.env → (backTo pos (starEach [b] X.env)).any (·.1) = false → EvD X z δ (.Call (.Name "_law_pick" p) [a, b] [] pos) tNm := fun X δ a b p pos k TX hr hk ha hb hg he he2 hpl =>
      EvD.imp (ev_pick TX (sortN ks) (fun n => dat (.str n)) hz hr hk (by omega) (by omega) ha (eL_toL hb) hg he he2 hpl) fun v G ⟨n, mn, q⟩ => ⟨n, hns.nm n mn, q⟩
    refine sw_setO 5 nd_L_near_deed (C := cL [tNm, tNm]) (ef_lst (ga_cons (EvD.g (pk _ _ _ _ _ _ _ T hr (by decide) (ev_var 0) (ev_var 2) rfl rfl rfl rfl)) (ga_cons (EvD.g (pk _ _ _ _ _ _ _ T hr (by decide) (ev_var 0) (ev_var 2) rfl rfl rfl rfl)) ga_nil)) (by show 2 ≤ 1000; decide)) ?_
    refine sw_whenK (P := fun _ => True) (ι := Unit) (fun _ => True) (fun _ => slots N_L_near_deed [some (tRaw (.ref st)), some (tPl ks pl), some (dat (eL (sortN ks)))]) (fun _ => [(5, none, cL [tNm, tNm])]) (EvGB.drop (EvB.g (EvB.imp (eb_gt (ev_var 4) ev_int) fun _ _ => trivial))) (fun _ => ?_) (fun _ => ⟨(), trivial, by repeat (first | exact Wk.nil | apply Wk.cons | apply Wk.no), rfl⟩) fun _ _ => ?_
    · refine sw_lset (P := fun j => j = 0 ∨ j = 1) (T := tNm) (EvG.drop (EvD.g (ev_callSD (P := pStrange) (sortN ks) hz (cb_L_strange T) hr (by decide) hns (ea2 (ev_var 0) (ev_var 2))))) (EvG.drop (EvD.g (EvD.imp (ev_take (n := 2) T hz hr (by decide) (by decide) (by decide) (ev_var 0) ev_int) fun v G ⟨j, hj, t⟩ => ⟨(j : Int), by omega, t⟩))) fun j hj => ?_
      rcases hj with rfl | rfl
      · exact ⟨0, rfl, sw_nil ⟨(), trivial, by repeat (first | exact Wk.nil | apply Wk.cons | apply Wk.no), rfl⟩⟩
      · exact ⟨1, rfl, sw_nil ⟨(), trivial, by repeat (first | exact Wk.nil | apply Wk.cons | apply Wk.no), rfl⟩⟩
    · refine sw_freeze ?_
      refine sw_retT (U := tDeed) rfl (EvD.g (EvD.imp (ev_tup (ea_cons (ev_ixL (T := tNm) (Ts := [tNm, tNm]) rfl (EvD.imp (ev_var 5) fun _ _ h => cL_ty.mp h) ev_int) (ea2 (ev_ixL (T := tNm) (Ts := [tNm, tNm]) rfl (EvD.imp (ev_var 5) fun _ _ h => cL_ty.mp h) ev_int) (ev_take (n := 7) T hz hr (by decide) (by decide) (by decide) (ev_var 0) ev_int))) (by show 3 ≤ 1000; decide)) fun v G t => ?_)) rfl
      obtain ⟨a, vs, rfl, ea, r⟩ := t
      obtain ⟨u1, u2, u3, rfl, ⟨x, hx, t1⟩, ⟨y, hy, t2⟩, ⟨d, hd, t3⟩⟩ := reps3 r
      refine ⟨(x, y, d), ⟨hx, hy, by show d ≤ 6; omega⟩, ?_⟩
      exact dat_tuple.mpr ⟨a, _, rfl, ea, .cons t1 (.cons t2 (.cons t3 .nil))⟩
structure HAny (hs : List Deed) (m : Nat) : Prop where
  len : hs.length ≤ m
  all : ∀ t ∈ hs, DOk t
def pNearH : Pr (WIx × Nat) := ⟨fun i => i.1.ok ∧ i.2 ≤ 50, fun i => [tPl i.1.2.2.1 i.1.2.2.2, dat (.int (i.2 : Int))], fun i => tEx (fun hs : List Deed => HAny hs (i.2 + 1)) fun hs => dat (eH hs)⟩
theorem ev_drawn {X : Cx} {z : Zn} {δ : List (Option Z.Ty)} {a b c : Expr} {p p2 pos pos2 : Pos} {j} {st : Addr} {k : Nat} (T : Txt X.K X.mg) (i : WIx) (m : Nat) (hz : z.sa = some st) (hr : Room k X.A) (hk : 4 ≤ k) (hw : i.ok) (hm : m ≤ 60) (ha : EvD X z δ a (tRaw (.ref st))) (hb : EvD X z δ b (tPl i.2.2.1 i.2.2.2)) (hc : EvD X z δ c (dat (.int (m : Int)))) (hg : Gl X "_law_history" := by rfl)
    (he : starEach [a, b, c] X.env = (false, eval a X.env) :: starEach [b, c] X.env := by rfl) (he1 : starEach [b, c] X.env = (false, eval b X.env) :: starEach [c] X.env := by rfl) (he2 : starEach [c] X.env = (false, eval c X.env) :: starEach [] X.env := by rfl) (hpl : (backTo pos (starEach [b, c] X.env)).any (·.1) = false := by rfl) :
    EvD X z δ (.Subscript (.Call (.Name "_law_history" p) [a, b, c] [] pos) (.Constant (.int 0) j p2) pos2) (tEx (fun hs : List Deed => HRun i hs m) fun hs => dat (eH hs)) :=
  ev_ix ix_list (R2T.ex1 fun hs hh => R2T.to hs hh (r2_ixL rfl)) (ev_callSD (P := pDrawn) (i, m) hz (cb_L_history T) hr hk ⟨hw, hm⟩ (ea_cons ha (ea2 hb hc he1 he2) he) hg (by decide) he hpl) ev_int (fun _ _ => rfl)
theorem cb_L_near_history (T : Txt K mg) : Cb CX0 P w K mg base 6 "_law_near_history" ["_law_store_here", "_law_plans", "_law_many"] pNearH.spS := by
  refine cb_prS T.f_L_near_history sc_L_near_history bd_L_near_history (fun _ => rfl) fun f cdv A outer s H E i z st hr hz hB hp => ?_
  obtain ⟨wi, m⟩ := i
  obtain ⟨hw, hm⟩ := hp
  have hw : wi.ok := hw
  have hm : m ≤ 50 := hm
  refine sw_setE 3 nd_L_near_history (P := fun hs : List Deed => HRun wi hs m) (R := fun hs => dat (eH hs)) (EvD.g (ev_drawn T wi m hz hr (by decide) hw (by omega) (ev_var 0) (ev_var 1) (ev_var 2))) fun hs hh => ?_
  have hok := hh.ok hw (by omega)
  have hl := hh.len
  refine sw_setE 4 nd_L_near_history (P := fun j : Nat => j < hs.length + 1) (R := fun j => dat (.int (j : Int))) (EvD.g (ev_take (n := hs.length + 1) T hz hr (by decide) (by omega) (by omega) (ev_var 0) (ev_add (lenH T.len_ (ev_var 3)) ev_int))) fun at0 hat => ?_
  refine sw_setE 5 nd_L_near_history (P := fun j : Nat => j < 3) (R := fun j => dat (.int (j : Int))) (EvD.g (ev_take (n := 3) T hz hr (by decide) (by decide) (by decide) (ev_var 0) ev_int)) fun fm hfm => ?_
  refine sw_when (P := fun b => b = true → 0 < fm) (EvB.g (EvB.imp (eb_gt (ev_var 5) ev_int) fun b h hb => ?_)) (fun h => ?_) fun h => ?_
  · rw [hb] at h
    have := of_decide_eq_true h.symm
    omega
  · have hfm1 := h rfl
    refine sw_retT (U := pNearH.res (wi, m)) rfl (EvD.g (EvD.imp (ev_catL (Ts := ((hs.take at0).map fun t => dat (eD t)) ++ [tDeed]) (Us := (hs.drop (at0 + fm - 1)).map fun t => dat (eD t)) ?_ (ev_catL (Ts := (hs.take at0).map fun t => dat (eD t)) (Us := [tDeed]) ?_ (EvD.imp (ev_headL (m := at0) (ds := hs.map eD) (ev_var 3) (ev_var 4)) fun v G t => ?_) (ev_lst (ea1 (ev_callSD (P := pNearD) wi hz (cb_L_near_deed T) hr (by decide) hw (ea2 (ev_var 0) (ev_var 1)))) (by show 1 ≤ 1000; decide))) (EvD.imp (ev_tailL (m := at0 + fm - 1) (i := (at0 : Int) + (fm : Int) - 1) (by omega) (ds := hs.map eD) (ev_var 3) (ev_sub (ev_add (ev_var 4) (ev_var 5)) ev_int)) fun v G t => ?_)) fun v G t => ?_)) rfl
    · rw [List.length_append, List.length_map, List.length_map, List.length_take, List.length_drop]
      show _ + 1 + _ ≤ 1000
      omega
    · rw [List.length_map, List.length_take]
      show _ + 1 ≤ 1000
      omega
    · rw [← List.map_take] at t
      have t := dat_list.mp t
      rw [List.map_map] at t
      exact t
    · rw [← List.map_drop] at t
      have t := dat_list.mp t
      rw [List.map_map] at t
      exact t
    · have key : ∀ U ∈ ((hs.take at0).map fun t => dat (eD t)) ++ [tDeed] ++ (hs.drop (at0 + fm - 1)).map fun t => dat (eD t), ∀ v, U.p v G → (tEx DOk fun t => dat (eD t)).p v G := fun U mU v q => by
        rcases List.mem_append.mp mU with mU | mU
        · rcases List.mem_append.mp mU with mU | mU
          · obtain ⟨t, mt, rfl⟩ := List.mem_map.mp mU
            exact ⟨t, hok.all t (List.mem_of_mem_take mt), q⟩
          · rw [List.mem_singleton.mp mU] at q
            exact q
        · obtain ⟨t, mt, rfl⟩ := List.mem_map.mp mU
          exact ⟨t, hok.all t (List.mem_of_mem_drop mt), q⟩
      obtain ⟨xs, h1, h2, h3⟩ := tL_choose key t
      refine ⟨xs, ⟨?_, h2⟩, eLf_of (f := eD) h3⟩
      rw [h1, List.length_append, List.length_append, List.length_map, List.length_map, List.length_take, List.length_drop]
      show _ + 1 + _ ≤ m + 1
      omega
  · exact sw_retT (U := pNearH.res (wi, m)) rfl (EvD.g (EvD.imp (ev_var 3) fun v G t => ⟨hs, ⟨by omega, hok.all⟩, t⟩)) rfl
end
end K37
end
section
set_option maxRecDepth 100000
set_option maxHeartbeats 4000000
/-! W28: wrong deeds, wrong histories. -/
namespace K37
open PySem PySem.Spec PyProof.Rows L2
open Z
def wr1 (t : Deed) : List PyData := [.none, .list [.str t.1, .str t.2.1, .int (t.2.2 : Int)], .tuple [.str t.1, .str t.2.1], .tuple [.str t.1, .str t.2.1, .int (t.2.2 : Int), .int (t.2.2 : Int)], .tuple [.str t.1, .str t.2.1, .int 7], .tuple [.str t.1, .str t.2.1, .int (-1)], .tuple [.str t.1, .str t.2.1, .bool true], .tuple [.tuple [.str t.1], .str t.2.1, .int (t.2.2 : Int)]]
def wr2 (t : Deed) : List PyData := [.tuple [.str t.1, .str t.2.1, .int (10 ^ 30 - 1)], .tuple [.str t.1, .str t.2.1, .none], .tuple [.str "", .str t.2.1, .int (t.2.2 : Int)], .tuple [.str t.1, .str "-", .int (t.2.2 : Int)], .tuple [.str "A", .str t.2.1, .int (t.2.2 : Int)], .tuple [.str t.1, .str "a1b2c3d4e", .int (t.2.2 : Int)]]
def wr3 (t : Deed) : List PyData := [.tuple [.int (t.2.2 : Int), .str t.1, .str t.2.1], .tuple [.str t.1, .list [.str t.2.1], .int (t.2.2 : Int)], .tuple [.str t.1, .str "1a", .int (t.2.2 : Int)], .tuple [.str t.1, .none, .int (t.2.2 : Int)], .tuple [.str t.1, .str t.2.1, .tuple [.int (t.2.2 : Int)]], .tuple [.str t.1, .str t.2.1, .bool false]]
theorem sm_tup {ds : List PyData} (h : ∀ e ∈ ds, SmS e) : SmD (.tuple ds) := ⟨(fun _ e => nomatch e), fun ds' e => by cases e; exact h⟩
theorem smS_int {i : Int} : SmS (.int i) := ⟨(fun _ e => nomatch e), (fun _ e => nomatch e)⟩
theorem smS_non : SmS .none := ⟨(fun _ e => nomatch e), (fun _ e => nomatch e)⟩
theorem smS_bl {b : Bool} : SmS (.bool b) := ⟨(fun _ e => nomatch e), (fun _ e => nomatch e)⟩
theorem smS_tup {ds : List PyData} : SmS (.tuple ds) := ⟨(fun _ e => nomatch e), (fun _ e => nomatch e)⟩
theorem smS_lst {ds : List PyData} : SmS (.list ds) := ⟨(fun _ e => nomatch e), (fun _ e => nomatch e)⟩
theorem smS_cst {x : Str} (h : x.length ≤ 1000) : SmS (.str x) := ⟨(fun _ e => nomatch e), fun y e => by cases e; exact h⟩
theorem sm2 {a b : PyData} (h1 : SmS a) (h2 : SmS b) : SmD (.tuple [a, b]) := sm_tup fun e m => by
  simp only [List.mem_cons, List.not_mem_nil, or_false] at m
  rcases m with rfl | rfl
  · exact h1
  · exact h2
theorem sm3 {a b c : PyData} (h1 : SmS a) (h2 : SmS b) (h3 : SmS c) : SmD (.tuple [a, b, c]) := sm_tup fun e m => by
  simp only [List.mem_cons, List.not_mem_nil, or_false] at m
  rcases m with rfl | rfl | rfl
  · exact h1
  · exact h2
  · exact h3
theorem sm4 {a b c d : PyData} (h1 : SmS a) (h2 : SmS b) (h3 : SmS c) (h4 : SmS d) : SmD (.tuple [a, b, c, d]) := sm_tup fun e m => by
  simp only [List.mem_cons, List.not_mem_nil, or_false] at m
  rcases m with rfl | rfl | rfl | rfl
  · exact h1
  · exact h2
  · exact h3
  · exact h4
theorem no_a {a b c : PyData} (h : isName a = false) : isDeed (.tuple [a, b, c]) = false := by
  show (isName a && (isName b && isDay c)) = false
  rw [h, Bool.false_and]
theorem no_b {a b c : PyData} (h : isName b = false) : isDeed (.tuple [a, b, c]) = false := by
  show (isName a && (isName b && isDay c)) = false
  rw [h, Bool.false_and, Bool.and_false]
theorem no_c {a b c : PyData} (h : isDay c = false) : isDeed (.tuple [a, b, c]) = false := by
  show (isName a && (isName b && isDay c)) = false
  rw [h, Bool.and_false, Bool.and_false]
def Wrong (d : PyData) : Prop := SmD d ∧ isDeed d = false
theorem wr1_ok {t : Deed} (h : DOk t) : ∀ d ∈ wr1 t, Wrong d := fun d m => by
  have hx := smS_str h.1
  have hy := smS_str h.2.1
  unfold wr1 at m
  simp only [List.mem_cons, List.not_mem_nil, or_false] at m
  rcases m with rfl | rfl | rfl | rfl | rfl | rfl | rfl | rfl
  · exact ⟨⟨(fun _ e => nomatch e), (fun _ e => nomatch e)⟩, rfl⟩
  · exact ⟨⟨(fun _ e => nomatch e), (fun _ e => nomatch e)⟩, rfl⟩
  · exact ⟨sm2 hx hy, rfl⟩
  · exact ⟨sm4 hx hy smS_int smS_int, rfl⟩
  · exact ⟨sm3 hx hy smS_int, no_c (by decide)⟩
  · exact ⟨sm3 hx hy smS_int, no_c (by decide)⟩
  · exact ⟨sm3 hx hy smS_bl, no_c rfl⟩
  · exact ⟨sm3 smS_tup hy smS_int, no_a rfl⟩
theorem wr2_ok {t : Deed} (h : DOk t) : ∀ d ∈ wr2 t, Wrong d := fun d m => by
  have hx := smS_str h.1
  have hy := smS_str h.2.1
  unfold wr2 at m
  simp only [List.mem_cons, List.not_mem_nil, or_false] at m
  rcases m with rfl | rfl | rfl | rfl | rfl | rfl
  · exact ⟨sm3 hx hy smS_int, no_c (by decide)⟩
  · exact ⟨sm3 hx hy smS_non, no_c rfl⟩
  · exact ⟨sm3 (smS_cst (by decide)) hy smS_int, no_a (by decide +kernel)⟩
  · exact ⟨sm3 hx (smS_cst (by decide)) smS_int, no_b (by decide +kernel)⟩
  · exact ⟨sm3 (smS_cst (by decide)) hy smS_int, no_a (by decide +kernel)⟩
  · exact ⟨sm3 hx (smS_cst (by decide)) smS_int, no_b (by decide +kernel)⟩
theorem wr3_ok {t : Deed} (h : DOk t) : ∀ d ∈ wr3 t, Wrong d := fun d m => by
  have hx := smS_str h.1
  have hy := smS_str h.2.1
  unfold wr3 at m
  simp only [List.mem_cons, List.not_mem_nil, or_false] at m
  rcases m with rfl | rfl | rfl | rfl | rfl | rfl
  · exact ⟨sm3 smS_int hx hy, no_a rfl⟩
  · exact ⟨sm3 hx smS_lst smS_int, no_b rfl⟩
  · exact ⟨sm3 hx (smS_cst (by decide)) smS_int, no_b (by decide +kernel)⟩
  · exact ⟨sm3 hx smS_non smS_int, no_b rfl⟩
  · exact ⟨sm3 hx hy smS_tup, no_c rfl⟩
  · exact ⟨sm3 hx hy smS_bl, no_c rfl⟩
section
variable {P : Program} {w : World} {K : PySem.W.Frag} {mg : Str → Option Value} {base : Heap}
def tWrong : Z.Ty := tEx Wrong fun d => dat d
def pNoDeed : Pr Deed := ⟨DOk, fun t => [dat (eD t)], fun _ => tWrong⟩
theorem le3 : 3 ≤ 1000 := by decide
theorem cb_L_no_deed (T : Txt K mg) : Cb CX0 P w K mg base 3 "_law_no_deed" ["_law_store_here", "_law_deed"] pNoDeed.spS := by
  refine cb_prS T.f_L_no_deed sc_L_no_deed bd_L_no_deed (fun _ => rfl) fun f cdv A outer s H E t z st hr hz hB hp => ?_
  have ht : DOk t := hp
  refine sw_asg (g := g3 K 2 3 4) (EvD.g (asgD (ev_var 1))) (pg_tup rfl (pgs_cons (pg_name nd_L_no_deed rfl (Or.inl rfl)) (pgs_cons (pg_name nd_L_no_deed rfl (Or.inl rfl)) (pgs_cons (pg_name nd_L_no_deed rfl (Or.inl rfl)) pgs_nil)))) (tr_tup3 2 3 4) ?_
  refine sw_set 5 nd_L_no_deed (T := dat (.list (wr1 t))) (EvD.g (ev_lstD (ds := wr1 t) (ea_cons ev_non (ea_cons (EvD.imp (ev_listT T.list_ (asgD (ev_var 1))) fun v G q => dat_list.mpr q) (ea_cons (ev_tupD (ds := [.str t.1, .str t.2.1]) (ea2 (ev_var 2) (ev_var 3)) (by show 2 ≤ 1000; decide)) (ea_cons (ev_tupD (ds := [.str t.1, .str t.2.1, .int (t.2.2 : Int), .int (t.2.2 : Int)]) (ea_cons (ev_var 2) (ea_cons (ev_var 3) (ea2 (ev_var 4) (ev_var 4)))) (by show 4 ≤ 1000; decide))
    (ea_cons (ev_tupD (ds := [.str t.1, .str t.2.1, .int 7]) (ea_cons (ev_var 2) (ea2 (ev_var 3) ev_int)) le3) (ea_cons (ev_tupD (ds := [.str t.1, .str t.2.1, .int (-1)]) (ea_cons (ev_var 2) (ea2 (ev_var 3) (ev_neg ev_int))) le3) (ea2 (ev_tupD (ds := [.str t.1, .str t.2.1, .bool true]) (ea_cons (ev_var 2) (ea2 (ev_var 3) ev_bl)) le3) (ev_tupD (ds := [.tuple [.str t.1], .str t.2.1, .int (t.2.2 : Int)]) (ea_cons (ev_tupD (ds := [.str t.1]) (ea1 (ev_var 2)) (by show 1 ≤ 1000; decide)) (ea2 (ev_var 3) (ev_var 4))) le3)))))))) (by show 8 ≤ 1000; decide))) ?_
  refine sw_set 5 nd_L_no_deed (T := dat (.list (wr1 t ++ wr2 t))) (EvD.g (ev_catLd (by show 8 + 6 ≤ 1000; decide) (ev_var 5) (ev_lstD (ds := wr2 t) (ea_cons (ev_tupD (ds := [.str t.1, .str t.2.1, .int (10 ^ 30 - 1)]) (ea_cons (ev_var 2) (ea2 (ev_var 3) (ev_sub (ev_pow ⟨by decide, by decide, by decide⟩ ev_int ev_int) ev_int))) le3) (ea_cons (ev_tupD (ds := [.str t.1, .str t.2.1, .none]) (ea_cons (ev_var 2) (ea2 (ev_var 3) ev_non)) le3)
    (ea_cons (ev_tupD (ds := [.str "", .str t.2.1, .int (t.2.2 : Int)]) (ea_cons ev_str (ea2 (ev_var 3) (ev_var 4))) le3) (ea_cons (ev_tupD (ds := [.str t.1, .str "-", .int (t.2.2 : Int)]) (ea_cons (ev_var 2) (ea2 ev_str (ev_var 4))) le3) (ea2 (ev_tupD (ds := [.str "A", .str t.2.1, .int (t.2.2 : Int)]) (ea_cons ev_str (ea2 (ev_var 3) (ev_var 4))) le3) (ev_tupD (ds := [.str t.1, .str "a1b2c3d4e", .int (t.2.2 : Int)]) (ea_cons (ev_var 2) (ea2 ev_str (ev_var 4))) le3)))))) (by show 6 ≤ 1000; decide)))) ?_
  refine sw_set 5 nd_L_no_deed (T := dat (.list ((wr1 t ++ wr2 t) ++ wr3 t))) (EvD.g (ev_catLd (by show 14 + 6 ≤ 1000; decide) (ev_var 5) (ev_lstD (ds := wr3 t) (ea_cons (ev_tupD (ds := [.int (t.2.2 : Int), .str t.1, .str t.2.1]) (ea_cons (ev_var 4) (ea2 (ev_var 2) (ev_var 3))) le3) (ea_cons (ev_tupD (ds := [.str t.1, .list [.str t.2.1], .int (t.2.2 : Int)]) (ea_cons (ev_var 2) (ea2 (ev_lstD (ds := [.str t.2.1]) (ea1 (ev_var 3)) (by show 1 ≤ 1000; decide)) (ev_var 4))) le3)
    (ea_cons (ev_tupD (ds := [.str t.1, .str "1a", .int (t.2.2 : Int)]) (ea_cons (ev_var 2) (ea2 ev_str (ev_var 4))) le3) (ea_cons (ev_tupD (ds := [.str t.1, .none, .int (t.2.2 : Int)]) (ea_cons (ev_var 2) (ea2 ev_non (ev_var 4))) le3) (ea2 (ev_tupD (ds := [.str t.1, .str t.2.1, .tuple [.int (t.2.2 : Int)]]) (ea_cons (ev_var 2) (ea2 (ev_var 3) (ev_tupD (ds := [.int (t.2.2 : Int)]) (ea1 (ev_var 4)) (by show 1 ≤ 1000; decide)))) le3) (ev_tupD (ds := [.str t.1, .str t.2.1, .bool false]) (ea_cons (ev_var 2) (ea2 (ev_var 3) ev_bl)) le3)))))) (by show 6 ≤ 1000; decide)))) ?_
  have hall : ∀ d ∈ (wr1 t ++ wr2 t) ++ wr3 t, Wrong d := fun d m => by
    rcases List.mem_append.mp m with m | m
    · rcases List.mem_append.mp m with m | m
      · exact wr1_ok ht d m
      · exact wr2_ok ht d m
    · exact wr3_ok ht d m
  have hlen : ((wr1 t ++ wr2 t) ++ wr3 t).length = 20 := rfl
  refine sw_retT (U := tWrong) rfl (EvD.g (EvD.imp (ev_ixE (n := 20) (Ts := ((wr1 t ++ wr2 t) ++ wr3 t).map dat) rfl (EvD.toL (ev_var 5)) (ev_take (n := 20) T hz hr (by decide) (by decide) (by decide) (ev_var 0) (ev_lenLd (ds := (wr1 t ++ wr2 t) ++ wr3 t) T.len_ (ev_var 5)))) fun v G ⟨j, hj, q⟩ => ?_)) rfl
  have hj : j < ((wr1 t ++ wr2 t) ++ wr3 t).length := by rw [hlen]; exact hj
  have e := map_getD (xs := (wr1 t ++ wr2 t) ++ wr3 t) (F := dat) hj
  have q : ((((wr1 t ++ wr2 t) ++ wr3 t).map dat).getD j tAny).p v G := q
  rw [e] at q
  exact ⟨_, hall _ (nth_bang hj), q⟩
def BadH (o : Option PyData) : Prop := SmH o ∧ isHist o = false
def pNoHist : Pr (List Deed × Deed) := ⟨fun i => HOk i.1 ∧ DOk i.2, fun i => [dat (eH i.1), dat (eD i.2)], fun _ => tEx BadH tHi⟩
theorem bad_len {ds : List PyData} (h : 60 < ds.length) (h2 : ds.length ≤ 1000) (hs : ∀ d ∈ ds, SmD d) : BadH (some (.list ds)) := ⟨⟨(fun _ e => nomatch e), fun ds' e => by cases e; exact ⟨h2, hs⟩⟩, by
  show (decide (ds.length ≤ 60) && ds.all isDeed) = false
  rw [decide_eq_false (by omega), Bool.false_and]⟩
theorem bad_one {ds : List PyData} (h2 : ds.length ≤ 1000) (hs : ∀ d ∈ ds, SmD d) {d : PyData} (m : d ∈ ds) (hd : isDeed d = false) : BadH (some (.list ds)) := ⟨⟨(fun _ e => nomatch e), fun ds' e => by cases e; exact ⟨h2, hs⟩⟩, by
  show (decide (ds.length ≤ 60) && ds.all isDeed) = false
  have e : ds.all isDeed = false := by
    rw [List.all_eq_false]
    exact ⟨d, m, by rw [hd]; exact Bool.false_ne_true⟩
  rw [e, Bool.and_false]⟩
theorem cb_L_no_history (T : Txt K mg) : Cb CX0 P w K mg base 4 "_law_no_history" ["_law_store_here", "_law_row", "_law_deed"] pNoHist.spS := by
  refine cb_prS T.f_L_no_history sc_L_no_history bd_L_no_history (fun _ => rfl) fun f cdv A outer s H E i z st hr hz hB hp => ?_
  obtain ⟨hs, t⟩ := i
  obtain ⟨hh, ht⟩ := hp
  have hh : HOk hs := hh
  have ht : DOk t := ht
  have hl := hh.len
  have smh : ∀ d ∈ hs.map eD, SmD d := fun d m => by
    obtain ⟨u, mu, rfl⟩ := List.mem_map.mp m
    exact smD_eD (hh.all u mu)
  refine sw_setE 3 nd_L_no_history (P := fun j : Nat => j < hs.length + 1) (R := fun j => dat (.int (j : Int))) (EvD.g (ev_take (n := hs.length + 1) T hz hr (by decide) (by omega) (by omega) (ev_var 0) (ev_add (lenH T.len_ (ev_var 1)) ev_int))) fun at0 hat => ?_
  refine sw_setE 4 nd_L_no_history (P := Wrong) (R := fun d => dat d) (EvD.g (ev_callSD (P := pNoDeed) t hz (cb_L_no_deed T) hr (by decide) ht (ea2 (ev_var 0) (ev_var 2)))) fun d hd => ?_
  refine sw_setE 5 nd_L_no_history (P := fun j : Nat => j < 8) (R := fun j => dat (.int (j : Int))) (EvD.g (ev_take (n := 8) T hz hr (by decide) (by decide) (by decide) (ev_var 0) ev_int)) fun fm hfm => ?_
  refine sw_when (P := fun b => b = true → fm < 3) (EvB.g (EvB.imp (eb_lt (ev_var 5) ev_int) fun b h hb => ?_)) (fun h => ?_) fun _ => ?_
  · rw [hb] at h
    have := of_decide_eq_true h.symm
    omega
  · have h3 := h rfl
    refine sw_retT (U := tEx BadH tHi) rfl (EvD.g (EvD.imp (ev_ixE (n := 3) (Ts := [dat .none, tDK [], dat (.tuple (hs.map eD))]) rfl (ev_lst (ea_cons ev_non (ea2 (EvG.d (efDK ef_dict)) (EvD.imp (ev_tupL T.tuple_ (EvD.toL (ds := hs.map eD) (ev_var 1))) fun v G q => dat_tuple.mpr q))) le3) (EvD.imp (ev_var 5) fun v G q => ⟨fm, h3, q⟩)) fun v G ⟨j, hj, q⟩ => ?_)) rfl
    match j, hj, q with
    | 0, _, q => exact ⟨some .none, ⟨⟨(fun _ e => nomatch e), (fun _ e => nomatch e)⟩, rfl⟩, q⟩
    | 1, _, q => exact ⟨none, ⟨trivial, rfl⟩, q⟩
    | 2, _, q => exact ⟨some (.tuple (hs.map eD)), ⟨⟨(fun _ e => nomatch e), (fun _ e => nomatch e)⟩, rfl⟩, q⟩
    | j + 3, hj, _ => exact absurd hj (by omega)
  · refine sw_when (P := fun _ => True) (EvB.g (EvB.imp (eb_lt (ev_var 5) ev_int) fun _ _ => trivial)) (fun _ => ?_) fun _ => ?_
    · have hrep : (List.replicate 61 [dat (eD t)]).flatten = (List.replicate 61 (eD t)).map dat := by
        rw [List.flatten_replicate_singleton, List.map_replicate]
      refine sw_retT (U := tEx BadH tHi) rfl (EvD.g (EvD.imp (ev_headL (m := 61) (ds := hs.map eD ++ List.replicate 61 (eD t)) (ev_catLd ?_ (ev_var 1) (EvD.imp (ev_repL (Ts := [dat (eD t)]) (n := 61) (by show 1 * 61 ≤ 1000; decide) (by decide) (ev_lst (ea1 (ev_var 2)) (by show 1 ≤ 1000; decide)) ev_int) fun v G q => by rw [hrep] at q; exact dat_list.mpr q)) ev_int) fun v G q => ⟨some _, bad_len ?_ ?_ fun e m => ?_, q⟩)) rfl
      · rw [List.length_map, List.length_replicate]
        omega
      · rw [List.length_take, List.length_append, List.length_map, List.length_replicate]
        omega
      · rw [List.length_take, List.length_append, List.length_map, List.length_replicate]
        omega
      · rcases List.mem_append.mp (List.mem_of_mem_take m) with m | m
        · exact smh e m
        · rw [List.eq_of_mem_replicate m]
          exact smD_eD ht
    · refine sw_retT (U := tEx BadH tHi) rfl (EvD.g (EvD.imp (ev_catLd (ds := (hs.map eD).take at0 ++ [d]) (es' := (hs.map eD).drop at0) ?_ (ev_catLd (ds := (hs.map eD).take at0) (es' := [d]) ?_ (ev_headL (m := at0) (ds := hs.map eD) (ev_var 1) (ev_var 3)) (ev_lstD (ds := [d]) (ea1 (ev_var 4)) (by show 1 ≤ 1000; decide))) (ev_tailL (m := at0) rfl (ds := hs.map eD) (ev_var 1) (ev_var 3))) fun v G q => ⟨some _, bad_one (d := d) ?_ (fun e m => ?_) ?_ hd.2, q⟩)) rfl
      · rw [List.length_append, List.length_take, List.length_drop, List.length_map]
        show _ + 1 + _ ≤ 1000
        omega
      · rw [List.length_take, List.length_map]
        show _ + 1 ≤ 1000
        omega
      · rw [List.length_append, List.length_append, List.length_take, List.length_drop, List.length_map]
        show _ + 1 + _ ≤ 1000
        omega
      · rcases List.mem_append.mp m with m | m
        · rcases List.mem_append.mp m with m | m
          · exact smh e (List.mem_of_mem_take m)
          · rw [List.mem_singleton.mp m]
            exact hd.1
        · exact smh e (List.mem_of_mem_drop m)
      · simp
end
end K37
end
section
set_option maxRecDepth 100000
set_option maxHeartbeats 4000000
/-! W29: _law_alike. -/
namespace Z
open PySem PySem.Spec PyProof.Rows L2
section
variable {X : Cx} {z : Zn} {δ : List (Option Ty)} {a b : Expr} {pos : Pos}
theorem op_isB : OpR X (compareOp .Is) (fun x y H Q => ∃ c d, x = .bl c ∧ y = .bl d ∧ Q (.bl (c == d)) H) := by
  intro pins s σ H x y v u Q I rx ry h
  obtain ⟨c, d, rfl, rfl, q⟩ := h
  cases rx
  cases ry
  exact is_bool (fin_bl I q rfl)
theorem ev_isB {c d : Bool} (ha : EvD X z δ a (dat (.bool c))) (hb : EvD X z δ b (dat (.bool d))) : EvD X z δ (.Compare a [.Is] [b] pos) (dat (.bool (c == d))) := ev_cmp op_isB (R2T.val fun x y G H Q l t u q => ⟨c, d, Rp.bl_of t, Rp.bl_of u, q _ (.bl _)⟩) ha hb
theorem eb_isNO {j pos'} {C : Addr} {fs : List (Str × Ty)} (ha : EvD X z δ a (tOb C fs)) : EvB X z δ (.Compare a [.Is] [.Constant .none j pos'] pos) (fun c0 => c0 = false) :=
  eb_cmp op_isN (R2T.val (U := dat .none) fun x y G H Q l t u q => ⟨Rp.non_of u, q _ (by
    obtain ⟨p, dx, gs, rfl, _⟩ := t
    exact .bl false)⟩) ha ev_non
end
end Z
namespace K37
open PySem PySem.Spec PyProof.Rows L2
open Z
def alD : Nat → PyData → Prop
  | _, .str _ => True
  | _, .int _ => True
  | _, .bool _ => True
  | n + 1, .list ds => ds.length ≤ 1000 ∧ ∀ d ∈ ds, alD n d
  | n + 1, .tuple ds => ds.length ≤ 1000 ∧ ∀ d ∈ ds, alD n d
  | _, _ => False
section
variable {P : Program} {w : World} {K : PySem.W.Frag} {mg : Str → Option Value} {base : Heap}
def pAl (n : Nat) : Pr PyData := ⟨alD n, fun d => [dat d, dat d], fun _ => dat (.bool true)⟩
theorem al_step (T : Txt K mg) (n : Nat) (ih : ∀ m, n = m + 1 → Cb CX0 P w K mg base (m + 1) "_law_alike" ["_law_told", "_law_due"] (pAl m).sp) : Cb CX0 P w K mg base (n + 1) "_law_alike" ["_law_told", "_law_due"] (pAl n).sp := by
    refine cb_pr T.f_L_alike sc_L_alike bd_L_alike (fun _ => rfl) fun f cdv A outer s H E d z hr pz hp => ?_
    have hp : alD n d := hp
    cases d with
    | none => cases n <;> exact hp.elim
    | dict kvs => cases n <;> exact hp.elim
    | bool c =>
      refine sw_not (EvB.g (eb_val (ev_isiT2 (m := "list") (n := "tuple") T.isinstance_ (ty_dat (d := .bool c)) rfl (ev_var 0) (ev_tup (ea2 (ev_ty T.list_ (by decide +kernel)) (ev_ty T.tuple_ (by decide +kernel))) (by decide))))) ?_
      refine sw_not (EvB.g (EvW.eb (ew_or (p := false) (q' := false) (eb_isN (d := .bool c) (ev_var 0)) fun _ => ew_or1 (eb_isN (d := .bool c) (ev_var 1))))) ?_
      refine sw_when (P := fun c => c = true) (EvB.g (EvW.eb (ew_or (p := true) (q' := true) (eb_val (ev_isi (n := "bool") (d := .bool c) T.isinstance_ rfl (ev_var 0) (ev_ty T.bool_ (by decide +kernel)))) fun h => nomatch h))) (fun _ => ?_) fun h => nomatch h
      refine sw_retT rfl (EvD.g (ev_and (p := true) (ev_isi (n := "bool") (d := .bool c) T.isinstance_ rfl (ev_var 0) (ev_ty T.bool_ (by decide +kernel))) fun _ => ev_and (p := true) (ev_isi (n := "bool") (d := .bool c) T.isinstance_ rfl (ev_var 1) (ev_ty T.bool_ (by decide +kernel))) fun _ => ev_one (ev_eqB (ev_var 0) (ev_var 1)))) ?_
      show dat (.bool (true && (true && (c == c)))) = dat (.bool true)
      rw [beq_self_eq_true]
      rfl
    | int c =>
      refine sw_not (EvB.g (eb_val (ev_isiT2 (m := "list") (n := "tuple") T.isinstance_ (ty_dat (d := .int c)) rfl (ev_var 0) (ev_tup (ea2 (ev_ty T.list_ (by decide +kernel)) (ev_ty T.tuple_ (by decide +kernel))) (by decide))))) ?_
      refine sw_not (EvB.g (EvW.eb (ew_or (p := false) (q' := false) (eb_isN (d := .int c) (ev_var 0)) fun _ => ew_or1 (eb_isN (d := .int c) (ev_var 1))))) ?_
      refine sw_not (EvB.g (EvW.eb (ew_or (p := false) (q' := false) (eb_val (ev_isi (n := "bool") (d := .int c) T.isinstance_ rfl (ev_var 0) (ev_ty T.bool_ (by decide +kernel)))) fun _ => ew_or1 (eb_val (ev_isi (n := "bool") (d := .int c) T.isinstance_ rfl (ev_var 1) (ev_ty T.bool_ (by decide +kernel))))))) ?_
      refine sw_when (P := fun c => c = true) (EvB.g (eb_val (ev_isiT2 (m := "int") (n := "str") T.isinstance_ (ty_dat (d := .int c)) rfl (ev_var 0) (ev_tup (ea2 (ev_ty T.int_ (by decide +kernel)) (ev_ty T.str_ (by decide +kernel))) (by decide))))) (fun _ => ?_) fun h => nomatch h
      refine sw_retT rfl (EvD.g (ev_and (p := true) (ev_isiT2 (m := "int") (n := "str") T.isinstance_ (ty_dat (d := .int c)) rfl (ev_var 1) (ev_tup (ea2 (ev_ty T.int_ (by decide +kernel)) (ev_ty T.str_ (by decide +kernel))) (by decide))) fun _ => ev_one (ev_eqI (ev_var 0) (ev_var 1)))) ?_
      show dat (.bool (true && decide (c = c))) = dat (.bool true)
      rw [decide_eq_true rfl]
      rfl
    | str c =>
      refine sw_not (EvB.g (eb_val (ev_isiT2 (m := "list") (n := "tuple") T.isinstance_ (ty_dat (d := .str c)) rfl (ev_var 0) (ev_tup (ea2 (ev_ty T.list_ (by decide +kernel)) (ev_ty T.tuple_ (by decide +kernel))) (by decide))))) ?_
      refine sw_not (EvB.g (EvW.eb (ew_or (p := false) (q' := false) (eb_isN (d := .str c) (ev_var 0)) fun _ => ew_or1 (eb_isN (d := .str c) (ev_var 1))))) ?_
      refine sw_not (EvB.g (EvW.eb (ew_or (p := false) (q' := false) (eb_val (ev_isi (n := "bool") (d := .str c) T.isinstance_ rfl (ev_var 0) (ev_ty T.bool_ (by decide +kernel)))) fun _ => ew_or1 (eb_val (ev_isi (n := "bool") (d := .str c) T.isinstance_ rfl (ev_var 1) (ev_ty T.bool_ (by decide +kernel))))))) ?_
      refine sw_when (P := fun c => c = true) (EvB.g (eb_val (ev_isiT2 (m := "int") (n := "str") T.isinstance_ (ty_dat (d := .str c)) rfl (ev_var 0) (ev_tup (ea2 (ev_ty T.int_ (by decide +kernel)) (ev_ty T.str_ (by decide +kernel))) (by decide))))) (fun _ => ?_) fun h => nomatch h
      refine sw_retT rfl (EvD.g (ev_and (p := true) (ev_isiT2 (m := "int") (n := "str") T.isinstance_ (ty_dat (d := .str c)) rfl (ev_var 1) (ev_tup (ea2 (ev_ty T.int_ (by decide +kernel)) (ev_ty T.str_ (by decide +kernel))) (by decide))) fun _ => ev_one (ev_eqS (ev_var 0) (ev_var 1)))) ?_
      show dat (.bool (true && decide (c = c))) = dat (.bool true)
      rw [decide_eq_true rfl]
      rfl
    | list ds =>
      obtain ⟨m, rfl⟩ : ∃ m, n = m + 1 := by
        cases n with
        | zero => exact hp.elim
        | succ m => exact ⟨m, rfl⟩
      have hp : ds.length ≤ 1000 ∧ ∀ d ∈ ds, alD m d := hp
      refine sw_when (P := fun c => c = true) (EvB.g (eb_val (ev_isiT2 (m := "list") (n := "tuple") T.isinstance_ (ty_dat (d := .list ds)) rfl (ev_var 0) (ev_tup (ea2 (ev_ty T.list_ (by decide +kernel)) (ev_ty T.tuple_ (by decide +kernel))) (by decide))))) (fun _ => ?_) fun h => nomatch h
      refine sw_not (EvB.g (EvW.eb (ew_or (p := false) (q' := false) (eb_neB (i := true) (j := true) (ev_isi (n := "list") (d := .list ds) T.isinstance_ rfl (ev_var 0) (ev_ty T.list_ (by decide +kernel))) (ev_isi (n := "list") (d := .list ds) T.isinstance_ rfl (ev_var 1) (ev_ty T.list_ (by decide +kernel)))) fun _ => ew_or1 (eb_neB (i := false) (j := false) (ev_isi (n := "tuple") (d := .list ds) T.isinstance_ rfl (ev_var 0) (ev_ty T.tuple_ (by decide +kernel))) (ev_isi (n := "tuple") (d := .list ds) T.isinstance_ rfl (ev_var 1) (ev_ty T.tuple_ (by decide +kernel))))))) ?_
      refine sw_not (EvB.g (EvB.imp (eb_neI (ev_lenLd (ds := ds) T.len_ (ev_var 0)) (ev_lenLd (ds := ds) T.len_ (ev_var 1))) fun b h => ?_)) ?_
      · rw [h, decide_eq_true rfl]
        rfl
      · refine sw_for0 (J := [2]) (g := gName 2) (List.range ds.length) (fun i => dat (.int (i : Int))) (slots N_L_alike [some (dat (.list ds)), some (dat (.list ds))]) _ PassesOwn.never rfl (ei_rangeA (m := (ds.length : Int)) ds.length (by omega) T.range_ (by omega) (ev_lenLd (ds := ds) T.len_ (ev_var 0))) (pg_name nd_L_alike rfl (Or.inl rfl)) (fun i => tr_name 2) (by repeat (first | exact Wk.nil | apply Wk.cons | apply Wk.no)) (fun q m => nomatch m) (fun ys i zs e => ?_) ?_
        · obtain ⟨hi, hys⟩ := range_at e
          refine sw_not (EvB.g (eb_notV (p := true) (eb_val (ev_callD (P := pAl m) ds[i]! (ih m rfl) hr (Nat.le_refl _) (hp.2 _ (nth_bang hi)) (ea2 (ev_ixLd (at_nat hi) (ev_var 0) (ev_var 2)) (ev_ixLd (at_nat hi) (ev_var 1) (ev_var 2))))))) (sw_nil ⟨by repeat (first | exact Wk.nil | apply Wk.cons | apply Wk.no), rfl⟩)
        · exact sw_retT rfl (EvD.g ev_bl) rfl
    | tuple ds =>
      obtain ⟨m, rfl⟩ : ∃ m, n = m + 1 := by
        cases n with
        | zero => exact hp.elim
        | succ m => exact ⟨m, rfl⟩
      have hp : ds.length ≤ 1000 ∧ ∀ d ∈ ds, alD m d := hp
      refine sw_when (P := fun c => c = true) (EvB.g (eb_val (ev_isiT2 (m := "list") (n := "tuple") T.isinstance_ (ty_dat (d := .tuple ds)) rfl (ev_var 0) (ev_tup (ea2 (ev_ty T.list_ (by decide +kernel)) (ev_ty T.tuple_ (by decide +kernel))) (by decide))))) (fun _ => ?_) fun h => nomatch h
      refine sw_not (EvB.g (EvW.eb (ew_or (p := false) (q' := false) (eb_neB (i := false) (j := false) (ev_isi (n := "list") (d := .tuple ds) T.isinstance_ rfl (ev_var 0) (ev_ty T.list_ (by decide +kernel))) (ev_isi (n := "list") (d := .tuple ds) T.isinstance_ rfl (ev_var 1) (ev_ty T.list_ (by decide +kernel)))) fun _ => ew_or1 (eb_neB (i := true) (j := true) (ev_isi (n := "tuple") (d := .tuple ds) T.isinstance_ rfl (ev_var 0) (ev_ty T.tuple_ (by decide +kernel))) (ev_isi (n := "tuple") (d := .tuple ds) T.isinstance_ rfl (ev_var 1) (ev_ty T.tuple_ (by decide +kernel))))))) ?_
      refine sw_not (EvB.g (EvB.imp (eb_neI (ev_lenTd (ds := ds) T.len_ (ev_var 0)) (ev_lenTd (ds := ds) T.len_ (ev_var 1))) fun b h => ?_)) ?_
      · rw [h, decide_eq_true rfl]
        rfl
      · refine sw_for0 (J := [2]) (g := gName 2) (List.range ds.length) (fun i => dat (.int (i : Int))) (slots N_L_alike [some (dat (.tuple ds)), some (dat (.tuple ds))]) _ PassesOwn.never rfl (ei_rangeA (m := (ds.length : Int)) ds.length (by omega) T.range_ (by omega) (ev_lenTd (ds := ds) T.len_ (ev_var 0))) (pg_name nd_L_alike rfl (Or.inl rfl)) (fun i => tr_name 2) (by repeat (first | exact Wk.nil | apply Wk.cons | apply Wk.no)) (fun q m => nomatch m) (fun ys i zs e => ?_) ?_
        · obtain ⟨hi, hys⟩ := range_at e
          refine sw_not (EvB.g (eb_notV (p := true) (eb_val (ev_callD (P := pAl m) ds[i]! (ih m rfl) hr (Nat.le_refl _) (hp.2 _ (nth_bang hi)) (ea2 (ev_ixTd (at_nat hi) (ev_var 0) (ev_var 2)) (ev_ixTd (at_nat hi) (ev_var 1) (ev_var 2))))))) (sw_nil ⟨by repeat (first | exact Wk.nil | apply Wk.cons | apply Wk.no), rfl⟩)
        · exact sw_retT rfl (EvD.g ev_bl) rfl
theorem cb_L_alike (T : Txt K mg) : ∀ n : Nat, Cb CX0 P w K mg base (n + 1) "_law_alike" ["_law_told", "_law_due"] (pAl n).sp
  | 0 => al_step T 0 fun m e => nomatch e
  | n + 1 => al_step T (n + 1) fun m e => by
    cases e
    exact cb_L_alike T n
def pAlW (K : PySem.W.Frag) : Pr WIx := ⟨fun i => i.ok, fun i => [tWo K i, tWo K i], fun _ => dat (.bool true)⟩
theorem cb_L_alikeW (T : Txt K mg) : Cb CX0 P w K mg base 3 "_law_alike" ["_law_told", "_law_due"] (pAlW K).sp := by
  refine cb_pr T.f_L_alike sc_L_alike bd_L_alike (fun _ => rfl) fun f cdv A outer s H E i z hr pz hp => ?_
  obtain ⟨ts, rs, ks, pl⟩ := i
  have hw : WorldOk ts rs ks pl := hp
  have k2 : ∀ m n : String, PySem.W.kitOne K (.ref (He.ga K "World")) (.type m) = some false → PySem.W.kitOne K (.ref (He.ga K "World")) (.type n) = some false → PySem.W.kitAny K (.ref (He.ga K "World")) [.type m, .type n] = some false := fun m n h1 h2 => by
    unfold PySem.W.kitAny
    rw [h1]
    unfold PySem.W.kitAny
    rw [h2]
    rfl
  refine sw_not (EvB.g (eb_val (ev_isiT2 (m := "list") (n := "tuple") T.isinstance_ (ty_world T) (k2 _ _ T.in_World.lst T.in_World.tup) (ev_var 0) (ev_tup (ea2 (ev_ty T.list_ (by decide +kernel)) (ev_ty T.tuple_ (by decide +kernel))) (by decide))))) ?_
  refine sw_not (EvB.g (EvW.eb (ew_or (p := false) (q' := false) (eb_isNO (ev_var 0)) fun _ => ew_or1 (eb_isNO (ev_var 1))))) ?_
  refine sw_not (EvB.g (EvW.eb (ew_or (p := false) (q' := false) (eb_val (ev_isiT T.isinstance_ (ty_world T) (.ty _) T.in_World.bol (ev_var 0) (ev_ty T.bool_ (by decide +kernel)))) fun _ => ew_or1 (eb_val (ev_isiT T.isinstance_ (ty_world T) (.ty _) T.in_World.bol (ev_var 1) (ev_ty T.bool_ (by decide +kernel))))))) ?_
  refine sw_not (EvB.g (eb_val (ev_isiT2 (m := "int") (n := "str") T.isinstance_ (ty_world T) (k2 _ _ T.in_World.int T.in_World.str) (ev_var 0) (ev_tup (ea2 (ev_ty T.int_ (by decide +kernel)) (ev_ty T.str_ (by decide +kernel))) (by decide))))) ?_
  refine sw_set 3 nd_L_alike (T := dat (.bool true)) (EvD.g (ev_eqWorld T hw hr (by decide) (ev_var 0) (ev_var 1))) ?_
  exact sw_retT rfl (EvD.g (ev_isB (ev_var 3) ev_bl)) rfl
end
end K37
end
section
set_option maxRecDepth 100000
set_option maxHeartbeats 4000000
/-! W30: _law_error. -/
namespace Z
open PySem PySem.Spec PyProof.Rows L2
section
variable {X : Cx} {k : Nat} {f : Addr} {fd : FuncData} {ps : List Str} {sp : Sp} {x : Str} {p pos : Pos} {e : Expr} {es : List Expr} {t : TA} {W : WX}
/-- a call whose errors go to a wish that knows the slots -/
def tCallS (sp : Sp) (W : WX) (t : TA) : TE := fun σ H Q => t σ H fun vs H1 => sp (vs ++ []) H1 Q fun cls d H' => W cls d σ H'
theorem pe_callWS (tk : Takes X W) (F : FnOk X.prog X.w X.K X.mg X.base (L2.CX X.prog X.w) k f fd ps sp) (hr : Room k X.A) (hm : X.mg x = some (.ref f)) (hk : PySem.W.keepIn X.K (.ref f) = true) (hb : Binds X.K fd ps [])
    (ha : PA X (e :: es) t) (hg : Gl X x := by rfl) (hdb : (x == ("__debug__" : Str)) = false := by decide) (he : starEach (e :: es) X.env = (false, eval e X.env) :: starEach es X.env := by rfl) (hpl : (backTo pos (starEach es X.env)).any (·.1) = false := by rfl) :
    PE X (.Call (.Name x p) (e :: es) [] pos) (tCallS sp W t) := by
  refine ⟨fun pins s σ H Q I h => ?_⟩
  refine wpAny_Call_Name_kw (ld_glob I hg hm ?_ hdb)
  refine PySem.W.callWith_K (h₀ := X.base) I.ok.mod.kin hk (thn (ha.run pos pins s σ H _ I h) fun us s1 ⟨vs, H1, I1, r, q⟩ => ⟨I1.kIn, ?_⟩) he hpl
  have r2 : Vals (vs ++ []) (us ++ []) := r.append .nil
  have hl : (us ++ []).length = ps.length := by rw [← r2.length]; exact F.len _ _ _ _ q
  refine wpAny_call (codeAny_mono (F.run X.A X.stack s1 H1 ⟨us, []⟩ (us ++ []) (vs ++ []) Q (fun cls d H' => W cls d σ H') hr I1.env0 (hb s1 us I1.kIn hl) r2 q) fun r s' hq => ?_)
  cases r with
  | error e => exact tk e s' (XE.of_call I1 (fun cls d H' h => h) hq)
  | ok fl =>
    cases fl with
    | ret u => exact I1.after hq
    | next => exact False.elim hq
    | brk => exact False.elim hq
    | cont => exact False.elim hq
end
/-- the try's body, whatever the wish's frame -/
def tTry (X : Cx) (sts : List Stmt) (W : WX) : TS := fun D σ H => ∀ (pn : List (Addr × Obj)) (xe : Value → Shared → Prop), Takes (X.tr pn xe) W → PassesOwn (model X.prog X.w) X.A X.env xe → tWs (X.tr pn xe) sts D σ H
def tSuite (X : Cx) (sts : List Stmt) (a : Addr) (cls : Value) (d : Option Addr) : TS := fun D σ H => ∀ (oe : Obj) (pn : List (Addr × Obj)), Zc cls d oe → (∃ vs, oe.data = .fields vs) → tWs (X.suite a ((a, oe) :: pn)) sts D σ H
theorem tWs_mono {X : Cx} {sts : List Stmt} {D D' : Ends} {σ : L2.St} {H : Hp} (h : tWs X sts D σ H) (hn : ∀ σ H, D.nx σ H → D'.nx σ H) (hr : ∀ v H, D.rt v H → D'.rt v H) (hb : ∀ σ H, D.bk σ H → D'.bk σ H) (hc : ∀ σ H, D.ct σ H → D'.ct σ H) : tWs X sts D' σ H := fun pins s I => by
  refine wpAny_mono (h pins s I) (fun f s' q => ?_) fun _ _ q => q
  cases f with
  | next => obtain ⟨σ', H', I', q⟩ := q; exact ⟨σ', H', I', hn _ _ q⟩
  | brk => obtain ⟨σ', H', I', q⟩ := q; exact ⟨σ', H', I', hb _ _ q⟩
  | cont => obtain ⟨σ', H', I', q⟩ := q; exact ⟨σ', H', I', hc _ _ q⟩
  | ret v => obtain ⟨y, σ', H', I', r, q⟩ := q; exact ⟨y, σ', H', I', r, hr _ _ q⟩
/-- slot i is emptied -/
theorem Good.unset {z : Zn} {G H : Hp} {σ : L2.St} {δ : List (Option Ty)} {Ω : Own} (g : Good z G H σ δ Ω) (i : Nat) (hi : δ[i]? = some none) (ho : ∀ q ∈ Ω, i ≠ q.1) : Good z G H (σ.set i none) δ Ω := by
  refine ⟨g.bg, ⟨by rw [List.length_set]; exact g.rs.len, fun j T e => ?_⟩, g.ow.slot fun q m => List.getElem?_set_ne (ho q m)⟩
  have ne : i ≠ j := fun w => by rw [w, e] at hi; cases hi
  obtain ⟨v, a, b⟩ := g.rs.at_ j T e
  exact ⟨v, by rw [List.getElem?_set_ne ne]; exact a, b⟩
section
variable {X : Cx} {z : Zn} {δ : List (Option Ty)} {Ω : Own} {c e : Expr} {es : List Expr} {p p' pos cpos apos : Pos} {D : Dn} {rest sa : List Stmt} {dd a : Addr} {fs : List (Str × V)} {i : Nat} {al : Option Addr} {Ts Us : List Ty} {T : Ty} {x : Str}
/-! ### with the caught error's dict in sight -/
def SWd (X : Cx) (z : Zn) (dd : Addr) (fs : List (Str × V)) (sts : List Stmt) (D : Dn) (δ : List (Option Ty)) (Ω : Own) : Prop := ∀ (F G H : Hp) (σ : L2.St), Same F G → Good z G H σ δ Ω → H dd = some (.xd fs) → tWs X sts (low z F D) σ H
def EvDd (X : Cx) (z : Zn) (dd : Addr) (fs : List (Str × V)) (δ : List (Option Ty)) (Ω : Own) (e : Expr) (T : Ty) : Prop := ∀ (G H : Hp) (σ : L2.St), Good z G H σ δ Ω → H dd = some (.xd fs) → ∀ Q : VK, (∀ v G' H', Ext z.sa G H G' H' → T.p v G' → Q v H') → tW X e σ H Q
def EvBd (X : Cx) (z : Zn) (dd : Addr) (fs : List (Str × V)) (δ : List (Option Ty)) (Ω : Own) (e : Expr) (b : Bool) : Prop := ∀ (G H : Hp) (σ : L2.St), Good z G H σ δ Ω → H dd = some (.xd fs) → ∀ Q : Bool → Hp → Prop, (∀ G' H', Ext z.sa G H G' H' → Q b H') → tWT X e σ H Q
theorem bd_val {b : Bool} (h : EvDd X z dd fs δ Ω e (dat (.bool b))) (he : ∀ whole, isTrue e X.env whole = (do let v ← whole; standAt e.pos; holding [v] (truthy v)) := by intro _; rfl) : EvBd X z dd fs δ Ω e b := fun G H σ g hd Q q =>
  w_pt (pt_val pe_w he) (h G H σ g hd _ fun v G1 H1 e1 t => ⟨b, t.bl_of, q G1 H1 e1⟩)
theorem bd_not {b : Bool} (h : EvBd X z dd fs δ Ω e b) : EvBd X z dd fs δ Ω (.UnaryOp .Not e pos) (!b) := fun G H σ g hd Q q =>
  w_pt (pt_not pt_w) (h G H σ g hd _ fun G1 H1 e1 => q G1 H1 e1)
theorem bd_or {b : Bool} {e2 : Expr} (hz : z.sa = none) (h : EvBd X z dd fs δ Ω e false) (h2 : EvBd X z dd fs δ Ω e2 b) : EvBd X z dd fs δ Ω (.BoolOp .Or [e, e2] pos) b := fun G H σ g hd Q q =>
  w_pt (PW.pt (pw_or pt_w (pw_or1 pt_w))) (h G H σ g hd _ fun G1 H1 x1 => iteF (h2 G1 H1 σ (g.ext x1) (x1.h dd _ (by rw [hz]; exact fun w => nomatch w) hd) _ fun G2 H2 x2 => q G2 H2 (x1.trans x2)))
theorem sd_skip (hz : z.sa = none) (hc : EvBd X z dd fs δ Ω c false) (k : SWd X z dd fs rest D δ Ω) : SWd X z dd fs (.If c sa [] pos :: rest) D δ Ω := fun F G H σ sf g hd =>
  w_pss (pss_cons (ps_if pt_w pss_w pss_w) pss_w) (hc G H σ g hd _ fun G1 H1 x1 => iteF (w_pss pss_nil (k F G1 H1 σ (sf.trans x1.g) (g.ext x1) (x1.h dd _ (by rw [hz]; exact fun w => nomatch w) hd))))
/-- if c: x.extend(e), where c holds -/
theorem sd_ifext {ipos : Pos} (hz : z.sa = none) (hcc : EvBd X z dd fs δ ((i, al, cL Ts) :: Ω) c true) (he : EvDd X z dd fs δ ((i, al, cL Ts) :: Ω) e (tL Us)) (hl : Ts.length + Us.length ≤ 1000) (k : SWd X z dd fs rest D δ ((i, al, cL (Ts ++ Us)) :: Ω)) (hN : X.N[i]? = some x := by rfl) (hv : Vis X.env.scope x := by first | exact Or.inl rfl | exact Or.inr (Or.inl rfl) | exact Or.inr (Or.inr rfl))
    (hd : (x == ("__debug__" : Str)) = false := by decide) (hcd : (x == ("__classdict__" : Str)) = false := by decide)
    (hbase : attributeBase (.Name x p') "extend" X.env (eval (.Name x p') X.env) = eval (.Name x p') X.env := by rfl)
    (hfew : ((backTo cpos (starEach [e] X.env)).all (fun x => !x.1) && (backToKw cpos (keywordEach [] X.env)).all (fun x => x.1.isSome) && decide ([e].length + ([] : List Keyword).length + (if ([] : List Keyword).isEmpty then 0 else 1) < 30)) = true := by rfl)
    (hline : (apos.endLine == cpos.line) = true := by rfl) (hs : starEach [e] X.env = (false, eval e X.env) :: starEach [] X.env := by rfl) (hpl : (backTo cpos (starEach [] X.env)).any (·.1) = false := by rfl)
    (hsw : swapsWith (.Call (.Attribute (.Name x p') "extend" apos) [e] [] cpos) none pos.line X.env = pure false := by rfl) :
    SWd X z dd fs (.If c [.Expr (.Call (.Attribute (.Name x p') "extend" apos) [e] [] cpos) pos] [] ipos :: rest) D δ ((i, al, cL Ts) :: Ω) := fun F G0 H0 σ sf0 g0 hdd0 => by
  refine w_pss (pss_cons (ps_if pt_w (pss_cons (ps_expr (pe_bm PySem.F.plainAttrs_list PySem.F.slot_list_extend PySem.F.type_list_extend mt_extend (pe_var hN hv hd hcd) (pa_cons pe_w pa_nil hs) hbase hfew hline hs hpl) hsw) pss_nil) pss_w) pss_w) (hcc G0 H0 σ g0 hdd0 _ fun G H x0 => iteT ?_)
  have g := g0.ext x0
  have sf := sf0.trans x0.g
  have hdd := x0.h dd _ (by rw [hz]; exact fun w => nomatch w) hdd0
  obtain ⟨a, o, es, ha, ⟨vs, rfl, r⟩, _⟩ := g.write
  refine ⟨.ref a, es, .inl ⟨rfl, _, SqL.of ha⟩, he G H σ g hdd _ fun v G1 H1 x1 t => ?_⟩
  have g1 := g.ext x1
  have hd1 := x1.h dd _ (by rw [hz]; exact fun w => nomatch w) hdd
  obtain ⟨a', o', es', ha', ⟨vs', rfl, r'⟩, ga, ns, b, pa, wr⟩ := g1.write
  rw [es] at es'
  cases es'
  obtain ⟨d, ws, rfl, ed, rr⟩ := t
  have nda : dd ≠ a := fun w => by rw [w, ha'] at hd1; cases hd1
  refine ⟨a, d, vs', ws, rfl, rfl, ha', x1.le d _ ed, ?_, ?_⟩
  · rw [Paired.length r', Paired.length rr]
    exact Nat.le_of_lt (small1000 hl)
  · exact k F G1 _ σ (sf.trans x1.g) (wr (.lst (vs' ++ ws)) (cL (Ts ++ Us)) ⟨_, rfl, r'.append rr⟩) (by rw [upd_ne nda]; exact hd1)
theorem sd_nil (h : D.nx δ Ω) : SWd X z dd fs [] D δ Ω := fun F G H σ sf g hd => w_pss pss_nil ⟨G, δ, Ω, g, sf, h⟩
end
section
variable {X : Cx} {z : Zn} {δ : List (Option Ty)} {Ω : Own} {c e : Expr} {p pos : Pos} {dd a : Addr} {fs : List (Str × V)} {oe : Obj} {pn : List (Addr × Obj)} {C : Addr}
/-- isinstance(e, c) -/
theorem dd_isi {r : Bool} {cV : V} {cv : Value} (hm : X.mg "isinstance" = none) (ec : ExcC X.K C) (hz : Zc (.ref C) (some dd) oe) (hf : ∃ vs, oe.data = .fields vs) (hcv : ∀ u, RelV cV u → u = cv) (hk : PySem.W.kitOne X.K (.ref C) cv = some r)
    (ha : EvD (X.suite a ((a, oe) :: pn)) z δ e (tRaw (.ref a))) (hb : EvD (X.suite a ((a, oe) :: pn)) z δ c (tRaw cV)) (hsa : z.sa = none) (hg : Gl X "isinstance" := by rfl) (he : starEach [e, c] X.env = (false, eval e X.env) :: starEach [c] X.env := by rfl) (he2 : starEach [c] X.env = (false, eval c X.env) :: starEach [] X.env := by rfl) (hpl : (backTo pos (starEach [c] X.env)).any (·.1) = false := by rfl) :
    EvDd (X.suite a ((a, oe) :: pn)) z dd fs δ Ω (.Call (.Name "isinstance" p) [e, c] [] pos) (dat (.bool r)) := fun G H σ g hd Q q =>
  w_pe (pe_callB (call_isD ec hz hf) hg hm (by decide +kernel) (pa_cons pe_w (pa_cons pe_w pa_nil he2) he) (by decide) (by decide) he hpl) (ha G H σ g.bg g.rs _ fun v G1 H1 x1 t => hb G1 H1 σ (g.bg.ext x1) (g.rs.mono x1.g) _ fun v2 G2 H2 x2 t2 => by
    have t : v = .ref a := t
    have t2 : v2 = cV := t2
    subst t t2
    have x12 := x1.trans x2
    exact ⟨_, cv, r, dd, fs, rfl, hcv, hk, rfl, x12.h dd _ (by rw [hsa]; exact fun w => nomatch w) hd, q _ G2 H2 x12 (.bl _)⟩)
/-- [s, e.f] -/
theorem dd_list1 {s n : Str} {v : Str} {j} {lp sp : Pos} (T : XfC X.K C) (hno : PySem.W.findIn X.K (.ref C) n = some none) (hz : Zc (.ref C) (some dd) oe) (hf : ∃ vs, oe.data = .fields vs) (hl : fs.lookup n = some (.str v)) (ha : EvD (X.suite a ((a, oe) :: pn)) z δ e (tRaw (.ref a))) (hsa : z.sa = none)
    (hb : attributeBase e n X.env (eval e X.env) = eval e X.env := by rfl) (h1 : starEach [.Constant (.str s) j sp, .Attribute e n pos] X.env = (false, eval (.Constant (.str s) j sp) X.env) :: starEach [.Attribute e n pos] X.env := by rfl) (h2 : starEach [.Attribute e n pos] X.env = (false, eval (.Attribute e n pos) X.env) :: starEach [] X.env := by rfl) :
    EvDd (X.suite a ((a, oe) :: pn)) z dd fs δ Ω (.List [.Constant (.str s) j sp, .Attribute e n pos] lp) (tL [dat (.str s), dat (.str v)]) := fun G H σ g hd Q q =>
  w_pe (pe_lst (pa_cons pe_str (pa_cons (pe_xf T hno hz hf pe_w hb) pa_nil h2) h1)) (ha G H σ g.bg g.rs _ fun w G1 H1 x1 t => by
    have t : w = .ref a := t
    subst t
    refine ⟨rfl, rfl, dd, fs, .str v, rfl, x1.h dd _ (by rw [hsa]; exact fun w => nomatch w) hd, hl, by show 2 ≤ sizeLine; exact Nat.le_of_lt (small1000 (by decide)), fun p hp => ?_⟩
    have n := Ext.new (sa := z.sa) (o := .lst [.str s, .str v]) x1.le x1.st hp
    exact q _ _ _ (x1.trans n) ⟨p, _, rfl, upd_same, .cons (.str s) (.cons (.str v) .nil)⟩)
theorem dd_list2 {s n1 n2 : Str} {i : Int} {v : Str} {j} {lp sp pos2 : Pos} {e2 : Expr} (T : XfC X.K C) (hno1 : PySem.W.findIn X.K (.ref C) n1 = some none) (hno2 : PySem.W.findIn X.K (.ref C) n2 = some none) (hz : Zc (.ref C) (some dd) oe) (hf : ∃ vs, oe.data = .fields vs) (hl1 : fs.lookup n1 = some (.int i)) (hl2 : fs.lookup n2 = some (.str v))
    (ha : EvD (X.suite a ((a, oe) :: pn)) z δ e (tRaw (.ref a))) (ha2 : EvD (X.suite a ((a, oe) :: pn)) z δ e2 (tRaw (.ref a))) (hsa : z.sa = none)
    (hb : attributeBase e n1 X.env (eval e X.env) = eval e X.env := by rfl) (hb2 : attributeBase e2 n2 X.env (eval e2 X.env) = eval e2 X.env := by rfl) (h1 : starEach [.Constant (.str s) j sp, .Attribute e n1 pos, .Attribute e2 n2 pos2] X.env = (false, eval (.Constant (.str s) j sp) X.env) :: starEach [.Attribute e n1 pos, .Attribute e2 n2 pos2] X.env := by rfl)
    (h2 : starEach [.Attribute e n1 pos, .Attribute e2 n2 pos2] X.env = (false, eval (.Attribute e n1 pos) X.env) :: starEach [.Attribute e2 n2 pos2] X.env := by rfl) (h3 : starEach [.Attribute e2 n2 pos2] X.env = (false, eval (.Attribute e2 n2 pos2) X.env) :: starEach [] X.env := by rfl) :
    EvDd (X.suite a ((a, oe) :: pn)) z dd fs δ Ω (.List [.Constant (.str s) j sp, .Attribute e n1 pos, .Attribute e2 n2 pos2] lp) (tL [dat (.str s), dat (.int i), dat (.str v)]) := fun G H σ g hd Q q =>
  w_pe (pe_lst (pa_cons pe_str (pa_cons (pe_xf T hno1 hz hf pe_w hb) (pa_cons (pe_xf T hno2 hz hf pe_w hb2) pa_nil h3) h2) h1)) (ha G H σ g.bg g.rs _ fun w G1 H1 x1 t => by
    have t : w = .ref a := t
    subst t
    have hd1 := x1.h dd _ (by rw [hsa]; exact fun w => nomatch w) hd
    refine ⟨rfl, rfl, dd, fs, .int i, rfl, hd1, hl1, ha2 G1 H1 σ (g.bg.ext x1) (g.rs.mono x1.g) _ fun w G2 H2 x2 t => ?_⟩
    have t : w = .ref a := t
    subst t
    refine ⟨rfl, rfl, dd, fs, .str v, rfl, x2.h dd _ (by rw [hsa]; exact fun w => nomatch w) hd1, hl2, by show 3 ≤ sizeLine; exact Nat.le_of_lt (small1000 (by decide)), fun p hp => ?_⟩
    have n := Ext.new (sa := z.sa) (o := .lst [.str s, .int i, .str v]) x2.le x2.st hp
    exact q _ _ _ ((x1.trans x2).trans n) ⟨p, _, rfl, upd_same, .cons (.str s) (.cons (.int i) (.cons (.str v) .nil))⟩)
end
end Z
namespace K37
open PySem PySem.Spec PyProof.Rows L2
open Z
section
variable {P : Program} {w : World} {K : PySem.W.Frag} {mg : Str → Option Value} {base : Heap}
def erRow : Er → List PyData
  | .bad x => [.str "BadShape", .str x]
  | .step i r => [.str "StepRefused", .int i, .str r]
inductive EIx where
  | nf (i : WIx) (h : Hin) (e : Er)
  | ha (i : WIx) (a b : List Deed) (e : Er)
def EIx.er : EIx → Er
  | .nf _ _ e => e
  | .ha _ _ _ e => e
def EIx.pre : EIx → Prop
  | .nf i h e => (i.ok ∧ h.pre) ∧ h.out i "history" (fun hs => cH (nform i hs)) = .error e
  | .ha i a b e => (i.ok ∧ HOk a ∧ HOk b) ∧ outTwo i a b = .error e
def EIx.args (K : PySem.W.Frag) : EIx → List Z.Ty
  | .nf i h _ => [tWo K i, h.ty, dat (.list []), dat (.int 0)]
  | .ha i a b _ => [tWo K i, dat (eH a), dat (eH b), dat (.int 1)]
def pErr (K : PySem.W.Frag) : Pr EIx := ⟨EIx.pre, EIx.args K, fun i => dat (.list (erRow i.er))⟩
theorem same_ext {z : Zn} {G H H' : Hp} (hz : z.sa = none) (l : Le G H) (s : Same H H') : Ext z.sa G H G H' := ⟨Same.refl _, fun a o _ e => s a o e, fun a o e => s a o (l a o e), fun _ _ n => n, by rw [hz]; trivial⟩
/-- the clause's body -/
def errSuite : List Stmt := match (defBody s_L_error).getD 1 (.Pass ⟨0, 0, 0, 0⟩) with
  | .Try _ [.ExceptHandler _ _ b _] _ _ _ => b
  | _ => []
theorem err_suite (T : Txt K mg) {f : Addr} {cdv : Value} {A : Around} {outer : List Env} {s : Shared} {H0 : Hp} {E : XK} {z : Zn} (hsa : z.sa = none) {T0 T1 T2 T3 : Z.Ty} {F G H' : Hp} {σ : L2.St} (er : Er) (g : Good z G H' σ (slots N_L_error [some T0, some T1, some T2, some T3]) [(4, none, cL [])]) (sf : Same F G)
    {cls : Value} {d : Option Addr} (eh : ErH K er cls d H') {a : Addr} {oe : Obj} {pn : List (Addr × Obj)} (hz : Zc cls d oe) (hf : ∃ vs, oe.data = .fields vs) {D' : Ends} (hn : ∀ σ' H2 G2, Good z G2 H2 (σ'.set 5 none) (slots N_L_error [some T0, some T1, some T2, some T3]) [(4, none, cL ((erRow er).map dat))] → Same F G2 → D'.nx σ' H2) :
    tWs (((cxOf CX0 P w K mg base N_L_error "_law_error" (defScope s_L_error) f cdv A outer s H0 E).nox).suite a ((a, oe) :: pn)) errSuite D' (σ.set 5 (some (.ref a))) H' := by
  obtain ⟨_, _, _, _, _, _, _, n8, n9, n10, k1, k2, k3, k4, k5, k6, _⟩ := exs T.says
  have g3 : Good z G H' (σ.set 5 (some (.ref a))) (slots N_L_error [some T0, some T1, some T2, some T3, none, some (tRaw (.ref a))]) [(4, none, cL [])] := ⟨g.bg, g.rs.set (T := tRaw (.ref a)) rfl 5, g.ow.slot fun q m => by
    rw [List.mem_singleton.mp m]
    exact List.getElem?_set_ne (by decide)⟩
  have fin : ∀ (rows : List Z.Ty), rows = (erRow er).map dat → (∀ D'' : Dn, (∀ δ' Ω', δ' = slots N_L_error [some T0, some T1, some T2, some T3, none, some (tRaw (.ref a))] ∧ Ω' = [((4 : Nat), (none : Option Addr), cL rows)] → D''.nx δ' Ω') → ∃ dd fs, H' dd = some (.xd fs) ∧ SWd (((cxOf CX0 P w K mg base N_L_error "_law_error" (defScope s_L_error) f cdv A outer s H0 E).nox).suite a ((a, oe) :: pn)) z dd fs errSuite D'' (slots N_L_error [some T0, some T1, some T2, some T3, none, some (tRaw (.ref a))]) [(4, none, cL [])]) → tWs (((cxOf CX0 P w K mg base N_L_error "_law_error" (defScope s_L_error) f cdv A outer s H0 E).nox).suite a ((a, oe) :: pn)) errSuite D' (σ.set 5 (some (.ref a))) H' := fun rows er' hk => by
    obtain ⟨dd, fs, hdd, h⟩ := hk { nx := fun δ' Ω' => δ' = slots N_L_error [some T0, some T1, some T2, some T3, none, some (tRaw (.ref a))] ∧ Ω' = [((4 : Nat), (none : Option Addr), cL rows)], rt := fun _ _ => False } fun δ' Ω' h => h
    refine tWs_mono (h F G H' _ sf g3 hdd) (fun σ6 H6 ⟨G6, δ6, Ω6, g6, s6, e1, e2⟩ => ?_) (fun _ _ q => q.elim) (fun _ _ ⟨_, _, _, _, _, q⟩ => q.elim) (fun _ _ ⟨_, _, _, _, _, q⟩ => q.elim)
    subst e1 e2
    refine hn σ6 H6 G6 ?_ s6
    rw [← er']
    have g7 : Good z G6 H6 σ6 (slots N_L_error [some T0, some T1, some T2, some T3]) [(4, none, cL rows)] := g6.weak (by repeat (first | exact Wk.nil | apply Wk.cons | apply Wk.no))
    exact g7.unset 5 rfl fun q m => by
      rw [List.mem_singleton.mp m]
      show (5 : Nat) ≠ 4
      decide
  cases er with
  | bad x =>
    obtain ⟨rfl, dd, rfl, hdd⟩ := eh
    refine fin [dat (.str "BadShape"), dat (.str x)] rfl fun D'' hD => ⟨dd, _, hdd, ?_⟩
    refine sd_ifext hsa (bd_val (dd_isi (cV := .ref (He.ga K "BadShape")) (cv := .ref (He.ga K "BadShape")) T.isinstance_ T.er_bad.ec hz hf (fun u h => h) (ki_of k1) (ev_var 5) (ev_gref T.g_BadShape) hsa)) (dd_list1 T.er_bad.xf (no_of n8) hz hf rfl (ev_var 5) hsa) (by show 0 + 2 ≤ 1000; decide) ?_
    refine sd_skip hsa (bd_val (dd_isi (cV := .ref (He.ga K "StepRefused")) (cv := .ref (He.ga K "StepRefused")) T.isinstance_ T.er_bad.ec hz hf (fun u h => h) (ki_of k2) (ev_var 5) (ev_gref T.g_StepRefused) hsa)) ?_
    refine sd_skip hsa (bd_or hsa (bd_val (dd_isi (cV := .ref (He.ga K "UnlikeTowns")) (cv := .ref (He.ga K "UnlikeTowns")) T.isinstance_ T.er_bad.ec hz hf (fun u h => h) (ki_of k3) (ev_var 5) (ev_gref T.g_UnlikeTowns) hsa)) (bd_not (b := true) (bd_val (dd_isi (cV := .ty "ValueError") (cv := .type "ValueError") T.isinstance_ T.er_bad.ec hz hf (fun u h => h) T.er_bad.ve (ev_var 5) (ev_ty T.ValueError_ (by decide +kernel)) hsa)))) ?_
    exact sd_nil (hD _ _ ⟨rfl, rfl⟩)
  | step i r =>
    obtain ⟨rfl, dd, rfl, hdd⟩ := eh
    refine fin [dat (.str "StepRefused"), dat (.int i), dat (.str r)] rfl fun D'' hD => ⟨dd, _, hdd, ?_⟩
    refine sd_skip hsa (bd_val (dd_isi (cV := .ref (He.ga K "BadShape")) (cv := .ref (He.ga K "BadShape")) T.isinstance_ T.er_step.ec hz hf (fun u h => h) (ki_of k4) (ev_var 5) (ev_gref T.g_BadShape) hsa)) ?_
    refine sd_ifext hsa (bd_val (dd_isi (cV := .ref (He.ga K "StepRefused")) (cv := .ref (He.ga K "StepRefused")) T.isinstance_ T.er_step.ec hz hf (fun u h => h) (ki_of k5) (ev_var 5) (ev_gref T.g_StepRefused) hsa)) (dd_list2 T.er_step.xf (no_of n9) (no_of n10) hz hf rfl rfl (ev_var 5) (ev_var 5) hsa) (by show 0 + 3 ≤ 1000; decide) ?_
    refine sd_skip hsa (bd_or hsa (bd_val (dd_isi (cV := .ref (He.ga K "UnlikeTowns")) (cv := .ref (He.ga K "UnlikeTowns")) T.isinstance_ T.er_step.ec hz hf (fun u h => h) (ki_of k6) (ev_var 5) (ev_gref T.g_UnlikeTowns) hsa)) (bd_not (b := true) (bd_val (dd_isi (cV := .ty "ValueError") (cv := .type "ValueError") T.isinstance_ T.er_step.ec hz hf (fun u h => h) T.er_step.ve (ev_var 5) (ev_ty T.ValueError_ (by decide +kernel)) hsa)))) ?_
    exact sd_nil (hD _ _ ⟨rfl, rfl⟩)
theorem cb_L_error (T : Txt K mg) : Cb CX0 P w K mg base 11 "_law_error" ["_law_world", "_law_first", "_law_second", "_law_form"] (pErr K).sp := by
  refine cb_pr T.f_L_error sc_L_error bd_L_error (fun i => by cases i <;> rfl) fun f cdv A outer s H E i z hr pz hp => ?_
  have hp : i.pre := hp
  have hsa := pz.1
  have krest : ∀ (T0 T1 T2 T3 : Z.Ty) (er : Er), SWs ((cxOf CX0 P w K mg base N_L_error "_law_error" (defScope s_L_error) f cdv A outer s H E).nox) z ((defBody s_L_error).drop 2) (dT z (dat (.list (erRow er)))) (slots N_L_error [some T0, some T1, some T2, some T3]) [(4, none, cL ((erRow er).map dat))] := fun T0 T1 T2 T3 er => by
    refine sw_freeze ?_
    exact sw_retT rfl (EvD.g (EvD.imp (ev_var 4) fun v G h => dat_list.mpr (cL_ty.mp h))) rfl
  cases i with
  | nf wi h e =>
    obtain ⟨⟨hw, hh⟩, ho⟩ := hp
    refine sw_setO 4 nd_L_error ef_nil ?_
    intro F G H1 σ sf g
    refine w_pss (pss_cons (ps_try_as (i := 5) (Wout := fun _ _ _ _ => False) (tb := fun W => tTry _ _ W) (ts := fun a cls d => tSuite _ _ a cls d) rfl rfl nd_L_error rfl rfl (by exact ⟨by rfl, by decide, .inl T.g_CrossError⟩) (fun u s' ⟨_, _, _, _, _, _, _, _, _, _, _, _, _, _, _, _, w⟩ => w.elim) (fun W pn xe tk po => ⟨fun pins s σ H D I h => h pn xe tk po pins s I⟩) (fun a oe cls d pn hz hf => ⟨fun pins s σ H D I h => h oe pn hz hf pins s I⟩)) pss_w) ?_
    intro pn xe tk po
    refine w_pss (pss_cons (ps_if pt_w pss_w pss_w) pss_nil) ((EvB.g (eb_eqI (i := 0) (j := 0) (ev_var 3) ev_int)) G H1 σ g _ fun d G2 H2 x2 hd => ?_)
    have hd : d = true := hd
    subst hd
    obtain ⟨f2, fd2, hm2, hkp2, F2, hb2⟩ := (cb_normal_form (P := P) (w := w) (base := base) T).ex
    refine iteT (w_pss (pss_cons (ps_expr (pe_callWS tk F2 (hr.mono (by decide)) hm2 hkp2 hb2 pa_w) rfl) pss_nil) ((ga_cons (EvG.drop (EvD.g (ev_var 0))) (ga_cons (EvG.drop (EvD.g (ev_var 1))) ga_nil)) G2 H2 σ (g.ext x2) _ fun vs G3 H3 x3 ts => ?_))
    rw [List.append_nil]
    refine ⟨(wi, h), G3, ⟨hw, hh⟩, x3.le, ts, fun C hC => ?_, fun er her cls d H' sm eh => ?_⟩
    · have hC : h.out wi "history" (fun hs => cH (nform wi hs)) = .ok C := hC
      rw [ho] at hC
      cases hC
    · have her : h.out wi "history" (fun hs => cH (nform wi hs)) = .error er := her
      rw [ho] at her
      cases her
      have g4 := ((g.ext x2).ext x3).ext (same_ext hsa x3.le sm)
      have sf4 := sf.trans (x2.g.trans x3.g)
      refine ⟨true, ?_, fun _ a na oe pn' hz hf => ?_, fun h => nomatch h⟩
      · cases e with
        | bad x => rw [eh.1]; exact T.er_bad.crs
        | step j r => rw [eh.1]; exact T.er_step.crs
      · exact err_suite T hsa e g4 sf4 eh hz hf fun σ' H5 G5 g5 s5 => krest _ _ _ _ e F G5 H5 _ s5 g5
  | ha wi a0 b0 e =>
    obtain ⟨⟨hw, ha, hb⟩, ho⟩ := hp
    refine sw_setO 4 nd_L_error ef_nil ?_
    intro F G H1 σ sf g
    refine w_pss (pss_cons (ps_try_as (i := 5) (Wout := fun _ _ _ _ => False) (tb := fun W => tTry _ _ W) (ts := fun a cls d => tSuite _ _ a cls d) rfl rfl nd_L_error rfl rfl (by exact ⟨by rfl, by decide, .inl T.g_CrossError⟩) (fun u s' ⟨_, _, _, _, _, _, _, _, _, _, _, _, _, _, _, _, w⟩ => w.elim) (fun W pn xe tk po => ⟨fun pins s σ H D I h => h pn xe tk po pins s I⟩) (fun a oe cls d pn hz hf => ⟨fun pins s σ H D I h => h oe pn hz hf pins s I⟩)) pss_w) ?_
    intro pn xe tk po
    refine w_pss (pss_cons (ps_if pt_w pss_w pss_w) pss_nil) ((EvB.g (eb_eqI (i := 1) (j := 0) (ev_var 3) ev_int)) G H1 σ g _ fun d G2 H2 x2 hd => ?_)
    have hd : d = false := hd
    subst hd
    obtain ⟨f2, fd2, hm2, hkp2, F2, hb2⟩ := (cb_histories_alike (P := P) (w := w) (base := base) T).ex
    refine iteF (w_pss (pss_cons (ps_expr (pe_callWS tk F2 (hr.mono (by decide)) hm2 hkp2 hb2 pa_w) rfl) pss_nil) ((ga_cons (EvG.drop (EvD.g (ev_var 0))) (ga_cons (EvG.drop (EvD.g (ev_var 1))) (ga_cons (EvG.drop (EvD.g (ev_var 2))) ga_nil))) G2 H2 σ (g.ext x2) _ fun vs G3 H3 x3 ts => ?_))
    rw [List.append_nil]
    refine ⟨(wi, a0, b0), G3, ⟨hw, ha, hb⟩, x3.le, ts, fun C hC => ?_, fun er her cls d H' sm eh => ?_⟩
    · have hC : outTwo wi a0 b0 = .ok C := hC
      rw [ho] at hC
      cases hC
    · have her : outTwo wi a0 b0 = .error er := her
      rw [ho] at her
      cases her
      have g4 := ((g.ext x2).ext x3).ext (same_ext hsa x3.le sm)
      have sf4 := sf.trans (x2.g.trans x3.g)
      refine ⟨true, ?_, fun _ a na oe pn' hz hf => ?_, fun h => nomatch h⟩
      · cases e with
        | bad x => rw [eh.1]; exact T.er_bad.crs
        | step j r => rw [eh.1]; exact T.er_step.crs
      · exact err_suite T hsa e g4 sf4 eh hz hf fun σ' H5 G5 g5 s5 => krest _ _ _ _ e F G5 H5 _ s5 g5
end
end K37
end
section
set_option maxRecDepth 100000
set_option maxHeartbeats 4000000
/-! W31: _law_pair_told, _law_holds. -/
namespace Z
open PySem PySem.Spec PyProof.Rows L2
theorem Reps.rev {G : Hp} : ∀ {vs : List V} {Ts : List Ty}, Reps G vs Ts → Reps G vs.reverse Ts.reverse
  | _, _, .nil => .nil
  | _, _, .cons (a := v) (b := T) h t => by
    rw [List.reverse_cons, List.reverse_cons]
    exact (Reps.rev t).append (.cons h .nil)
theorem ev_revL {X : Cx} {z : Zn} {δ : List (Option Ty)} {a : Expr} {k : Nat} {p1 p2 p3 pos : Pos} {Ts : List Ty} (ha : EvD X z δ a (tL Ts)) : EvD X z δ (.Subscript a (.Slice none none (some (.UnaryOp .USub (.Constant (.int 1) k p1) p2)) p3) pos) (tL Ts.reverse) := fun G H σ bg rs Q q =>
  w_pe (pe_revL pe_w) (ha G H σ bg rs _ fun v G1 H1 e1 t => by
    obtain ⟨d, vs, rfl, ed, r⟩ := t
    refine ⟨d, vs, rfl, SqL.of (e1.le.at_ ed rfl), fun p hp => ?_⟩
    have n := Ext.new (sa := z.sa) (o := .lst vs.reverse) e1.le e1.st hp
    exact q _ _ _ (e1.trans n) ⟨p, _, rfl, upd_same, r.rev.mono n.g⟩)
end Z
namespace K37
open PySem PySem.Spec PyProof.Rows L2
open Z
theorem alD_scal {n : Nat} {d : PyData} (h : scal d = true) : alD n d := by
  cases d with
  | str x => cases n <;> trivial
  | int i => cases n <;> trivial
  | none => cases h
  | bool b => cases h
  | list ds => cases h
  | tuple ds => cases h
  | dict k => cases h
theorem alD_row {n : Nat} {ds : List PyData} (h : ds.all scal = true) (hl : ds.length ≤ 1000) : alD (n + 1) (.list ds) := ⟨hl, fun d m => alD_scal (List.all_eq_true.mp h d m)⟩
theorem alD_eH {hs : List Deed} (hl : hs.length ≤ 1000) : alD 2 (eH hs) := ⟨by rw [List.length_map]; exact hl, fun d m => by
  obtain ⟨t, _, rfl⟩ := List.mem_map.mp m
  exact ⟨by show 3 ≤ 1000; decide, fun e me => alD_scal (by
    simp only [List.mem_cons, List.not_mem_nil, or_false] at me
    rcases me with rfl | rfl | rfl <;> rfl)⟩⟩
theorem er_scal (e : Er) : (erRow e).all scal = true := by cases e <;> rfl
theorem er_len (e : Er) : (erRow e).length ≤ 3 := by
  cases e with
  | bad p => exact Nat.le_succ 2
  | step j r => exact Nat.le_refl 3
def refRow : Option (Nat × Why) → List PyData
  | none => []
  | some (i, w) => erRow (.step (i : Int) w.nm)
theorem eRef_row (o : Option (Nat × Why)) : eRef o = .list (refRow o) := by
  cases o with
  | none => rfl
  | some p => rfl
section
variable {P : Program} {w : World} {K : PySem.W.Frag} {mg : Str → Option Value} {base : Heap}
section
variable {X : Cx} {z : Zn} {δ : List (Option Z.Ty)} {a b : Expr} {p pos : Pos} {k : Nat}
theorem ev_alike (T : Txt X.K X.mg) (n : Nat) {d : PyData} (hd : alD n d) (hr : Room k X.A) (hk : n + 1 ≤ k) (ha : EvD X z δ a (dat d)) (hb : EvD X z δ b (dat d)) (hg : Gl X "_law_alike" := by rfl)
    (he : starEach [a, b] X.env = (false, eval a X.env) :: starEach [b] X.env := by rfl) (he2 : starEach [b] X.env = (false, eval b X.env) :: starEach [] X.env := by rfl) (hpl : (backTo pos (starEach [b] X.env)).any (·.1) = false := by rfl) : EvD X z δ (.Call (.Name "_law_alike" p) [a, b] [] pos) (dat (.bool true)) :=
  ev_callD (P := pAl n) d (cb_L_alike T n) hr hk hd (ea2 ha hb he he2) hg (by decide) he hpl
end
structure Two (i : WIx) (a b : List Deed) : Prop where
  ok : i.ok
  a : HOk a
  b : HOk b
def pPair : Pr (WIx × List Deed × List Deed) := ⟨fun i => Two i.1 i.2.1 i.2.2, fun i => [tSk i.1, dat (eH i.2.1), dat (eH i.2.2)], fun _ => dat (.bool true)⟩
theorem prts_ok {i : WIx} (hw : i.ok) {hs : List Deed} (hh : HOk hs) (hq : refused i.2.2.1 i.2.2.2 hs 0 = none) : okD (eParts (prts i hs)) 4 = true := (thrOk hw hh hq).ps.ok
theorem cb_L_pair_told (T : Txt K mg) : Cb CX0 P w K mg base 12 "_law_pair_told" ["_law_sketch", "_law_first", "_law_second"] pPair.sp := by
  refine cb_pr T.f_L_pair_told sc_L_pair_told bd_L_pair_told (fun _ => rfl) fun f cdv A outer s H E i z hr pz hp => ?_
  obtain ⟨wi, a, b⟩ := i
  obtain ⟨hw, ha, hb⟩ := hp
  have hw : wi.ok := hw
  have ha : HOk a := ha
  have hb : HOk b := hb
  have la := ha.len
  have lb := hb.len
  refine sw_set 3 nd_L_pair_told (T := tPl wi.2.2.1 wi.2.2.2) (EvD.g (ev_ixL (Ts := [dat (eL wi.1), dat (.list (wi.2.1.map eP)), tPl wi.2.2.1 wi.2.2.2]) rfl (ev_var 0) ev_int)) ?_
  refine sw_set 4 nd_L_pair_told (T := tWo K wi) (EvD.g (ev_callD (P := pMade K) wi (cb_L_made T) hr (by decide) hw (ea1 (ev_var 0)))) ?_
  refine sw_set 5 nd_L_pair_told (T := dat (.list ((refRow (refused wi.2.2.1 wi.2.2.2 a 0) ++ refRow (refused wi.2.2.1 wi.2.2.2 b 0)).take 3))) (EvD.g (ev_headL (m := 3) (ev_catLd ?_ (EvD.imp (ev_callD (P := pLRef) (wi, a) (cb_L_refused T) hr (by decide) ⟨hw, by show a.length ≤ 100; omega⟩ (ea2 (ev_var 3) (ev_var 1))) fun v G t => ?_) (EvD.imp (ev_callD (P := pLRef) (wi, b) (cb_L_refused T) hr (by decide) ⟨hw, by show b.length ≤ 100; omega⟩ (ea2 (ev_var 3) (ev_var 2))) fun v G t => ?_)) ev_int)) ?_
  · have h1 : ∀ o : Option (Nat × Why), (refRow o).length ≤ 3 := fun o => by
      cases o with
      | none => exact Nat.zero_le _
      | some p => exact er_len (.step (p.1 : Int) p.2.nm)
    have := h1 (refused wi.2.2.1 wi.2.2.2 a 0)
    have := h1 (refused wi.2.2.1 wi.2.2.2 b 0)
    omega
  · have t : (dat (eRef (refused wi.2.2.1 wi.2.2.2 a 0))).p v G := t
    rw [eRef_row] at t
    exact t
  · have t : (dat (eRef (refused wi.2.2.1 wi.2.2.2 b 0))).p v G := t
    rw [eRef_row] at t
    exact t
  have erCase : ∀ e : Er, outTwo wi a b = .error e → SWs ((cxOf CX0 P w K mg base N_L_pair_told "_law_pair_told" (defScope s_L_pair_told) f cdv A outer s H E).nox) z ((defBody s_L_pair_told).drop 3) (dT z (dat (.bool true))) (slots N_L_pair_told [some (tSk wi), some (dat (eH a)), some (dat (eH b)), some (tPl wi.2.2.1 wi.2.2.2), some (tWo K wi), some (dat (.list (erRow e)))]) [] := fun e he => by
    refine sw_when (P := fun c => c = true) (EvB.g (EvB.imp (eb_gt (ev_lenLd (ds := erRow e) T.len_ (ev_var 5)) ev_int) fun c h => ?_)) (fun _ => ?_) fun h => nomatch h
    · rw [h]
      cases e <;> rfl
    · exact sw_retT rfl (EvD.g (ev_alike T 1 (d := .list (erRow e)) (alD_row (er_scal e) (Nat.le_trans (er_len e) (by decide))) hr (by decide) (ev_callD (P := pErr K) (.ha wi a b e) (cb_L_error T) hr (by decide) ⟨⟨hw, ha, hb⟩, he⟩ (ea_cons (ev_var 4) (ea_cons (ev_var 1) (ea2 (ev_var 2) ev_int)))) (ev_var 5))) rfl
  cases ca : refused wi.2.2.1 wi.2.2.2 a 0 with
  | some jw =>
    obtain ⟨j, ww⟩ := jw
    have e3 : (refRow (some (j, ww)) ++ refRow (refused wi.2.2.1 wi.2.2.2 b 0)).take 3 = erRow (.step (j : Int) ww.nm) := rfl
    rw [e3]
    refine erCase (.step (j : Int) ww.nm) ?_
    unfold outTwo
    rw [ca]
  | none =>
    cases cb : refused wi.2.2.1 wi.2.2.2 b 0 with
    | some jw =>
      obtain ⟨j, ww⟩ := jw
      have e3 : (refRow none ++ refRow (some (j, ww))).take 3 = erRow (.step (j : Int) ww.nm) := rfl
      rw [e3]
      refine erCase (.step (j : Int) ww.nm) ?_
      unfold outTwo
      rw [ca, cb]
      rfl
    | none =>
      have oa := prts_ok hw ha ca
      have ob := prts_ok hw hb cb
      have toa := thrOk hw ha ca
      have tob := thrOk hw hb cb
      refine sw_not (EvB.g (eb_gt (ev_lenLd (ds := []) T.len_ (ev_var 5)) ev_int)) ?_
      refine sw_set 6 nd_L_pair_told (T := dat (.bool (decide (prts wi a = prts wi b)))) (EvD.g (EvD.imp (ev_eq hr (okD_shaped oa (by decide)) (okD_shaped ob (by decide)) (ev_callD (P := pLParts) (wi, thr (cr0 wi.2.2.2) a) (cb_L_parts T) hr (by decide) toa (ea2 (ev_var 3) (ev_callD (P := pLTok) (wi, a) (cb_L_tokens T) hr (by decide) ⟨hw, ha, ca⟩ (ea2 (ev_var 3) (ev_var 1))))) (ev_callD (P := pLParts) (wi, thr (cr0 wi.2.2.2) b) (cb_L_parts T) hr (by decide) tob (ea2 (ev_var 3) (ev_callD (P := pLTok) (wi, b) (cb_L_tokens T) hr (by decide) ⟨hw, hb, cb⟩ (ea2 (ev_var 3) (ev_var 2)))))) fun v G t => ?_)) ?_
      · rw [eqv_inj eParts_inj oa ob] at t
        exact t
      · have al : ∀ c : Bool, alD 0 (.bool c) := fun _ => trivial
        refine sw_not (EvB.g (eb_notV (p := true) (eb_val (ev_alike T 0 (al _) hr (by decide) (ev_callX0 (P := pAlike K) (wi, a, b) rfl (cb_histories_alike T) hr (by decide) ⟨hw, ha, hb⟩ (ea_cons (ev_var 4) (ea2 (ev_var 1) (ev_var 2))) ?_) (ev_var 6))))) ?_
        · show outTwo wi a b = _
          unfold outTwo
          rw [ca, cb]
          rfl
        · refine sw_retT rfl (EvD.g (ev_alike T 0 (al _) hr (by decide) (ev_callX0 (P := pAlike K) (wi, b, a) rfl (cb_histories_alike T) hr (by decide) ⟨hw, hb, ha⟩ (ea_cons (ev_var 4) (ea2 (ev_var 2) (ev_var 1))) ?_) (EvD.imp (ev_var 6) fun v G t => t))) rfl
          show outTwo wi b a = _
          unfold outTwo
          rw [ca, cb]
          show Except.ok _ = Except.ok _
          congr 3
          exact decide_eq_decide.mpr ⟨fun h => h.symm, fun h => h.symm⟩
end
end K37
end
section
set_option maxRecDepth 100000
set_option maxHeartbeats 4000000
/-! W32: _law_holds. -/
namespace K37
open PySem PySem.Spec PyProof.Rows L2
open Z
def normN (ps : List Part) : Nat → List Deed
  | 0 => []
  | n + 1 => dayParts ps n ++ normN ps n
theorem normN7 (ps : List Part) : normN ps 7 = normP ps days7 := rfl
theorem normN_suf (ps : List Part) : ∀ n m : Nat, n ≤ m → (normN ps n).length ≤ (normN ps m).length
  | n, 0, h => by
    have : n = 0 := by omega
    subst this
    exact Nat.le_refl _
  | n, m + 1, h => by
    by_cases c : n = m + 1
    · rw [c]
      exact Nat.le_refl _
    · have ih := normN_suf ps n m (by omega)
      show _ ≤ (dayParts ps m ++ normN ps m).length
      rw [List.length_append]
      omega
def prow (d : Nat) (p : Part) : List Deed := if p.1.1 = d then p.2 else []
theorem dayParts_row (ps : List Part) (d : Nat) : dayParts ps d = ps.flatMap (prow d) := rfl
section
variable {X : Cx} {z : Zn} {δ δ' : List (Option Z.Ty)} {Ω Ω' : Own} {c : Expr} {pos : Pos} {D : Dn} {rest sa : List Stmt}
theorem sw_whenE {P : Bool → Prop} (hc : EvGB X z δ Ω c P) (ht : P true → SWs X z sa { D with nx := fun d o => Wk d δ' ∧ o = Ω } δ Ω) (hf : P false → Wk δ δ' ∧ Ω = Ω) (k : SWs X z rest D δ' Ω) : SWs X z (.If c sa [] pos :: rest) D δ Ω :=
  sw_when hc (fun h => (ht h).mono (fun d o ⟨w, e⟩ => by rw [e]; exact sw_weak w k) (fun _ _ q => q) (fun _ _ q => q) fun _ _ q => q) fun h => sw_weak (hf h).1 k
end
section
variable {P : Program} {w : World} {K : PySem.W.Frag} {mg : Str → Option Value} {base : Heap}
def pHolds : Pr (WIx × List Deed) := ⟨fun i => i.1.ok ∧ HOk i.2, fun i => [tSk i.1, dat (eH i.2)], fun _ => dat (.bool true)⟩
theorem cb_L_holds (T : Txt K mg) : Cb CX0 P w K mg base 12 "_law_holds" ["_law_sketch", "_law_history_here"] pHolds.sp := by
  refine cb_pr T.f_L_holds sc_L_holds bd_L_holds (fun _ => rfl) fun f cdv A outer s H E i z hr pz hp => ?_
  obtain ⟨⟨ts, rs, ks, pl⟩, hs⟩ := i
  obtain ⟨hw, hh⟩ := hp
  have hw : WorldOk ts rs ks pl := hw
  have hh : HOk hs := hh
  have hl := hh.len
  have okh : okD (eH hs) 2 = true := ok_eH hh.all
  refine sw_set 2 nd_L_holds (T := tPl ks pl) (EvD.g (ev_ixL (Ts := [dat (eL ts), dat (.list (rs.map eP)), tPl ks pl]) rfl (ev_var 0) ev_int)) ?_
  refine sw_set 3 nd_L_holds (T := tWo K (ts, rs, ks, pl)) (EvD.g (ev_callD (P := pMade K) (ts, rs, ks, pl) (cb_L_made T) hr (by decide) hw (ea1 (ev_var 0)))) ?_
  refine sw_set 4 nd_L_holds (T := dat (eH hs)) (EvD.g (EvD.imp (ev_listL T.list_ (eH_toL (ev_var 1))) fun v G t => eLf_of (f := eD) t)) ?_
  refine sw_set 5 nd_L_holds (T := dat (.list (refRow (refused ks pl hs 0)))) (EvD.g (EvD.imp (ev_callD (P := pLRef) ((ts, rs, ks, pl), hs) (cb_L_refused T) hr (by decide) ⟨hw, by show hs.length ≤ 100; omega⟩ (ea2 (ev_var 2) (ev_var 1))) fun v G t => ?_)) ?_
  · have t : (dat (eRef (refused ks pl hs 0))).p v G := t
    rw [eRef_row] at t
    exact t
  cases cq : refused ks pl hs 0 with
  | some jw =>
    obtain ⟨j, ww⟩ := jw
    refine sw_when (P := fun c => c = true) (EvB.g (eb_gt (ev_lenLd (ds := erRow (.step (j : Int) ww.nm)) T.len_ (ev_var 5)) ev_int)) (fun _ => ?_) fun h => nomatch h
    refine sw_not (EvB.g (EvW.eb (ew_or (p := false) (q' := false) (eb_notV (p := true) (eb_val (ev_alike T 1 (d := .list (erRow (.step (j : Int) ww.nm))) (alD_row (er_scal _) (Nat.le_trans (er_len _) (by decide))) hr (by decide) (ev_callD (P := pErr K) (.nf (ts, rs, ks, pl) (.good hs) (.step (j : Int) ww.nm)) (cb_L_error T) hr (by decide) ⟨⟨hw, hh⟩, ?_⟩ (ea_cons (ev_var 3) (ea_cons (ev_var 4) (ea2 (ev_lstD (ds := []) ea_nil (by show 0 ≤ 1000; decide)) ev_int)))) (ev_var 5)))) fun _ => ew_or1 (EvB.imp (eb_ne hr (okD_shaped okh (by decide)) (okD_shaped okh (by decide)) (ev_var 4) (ev_var 1)) fun b h => ?_)))) ?_
    · show outW (refused ks pl hs 0) _ = _
      rw [cq]
      rfl
    · rw [h, eqv_self okh]
      rfl
    · exact sw_retT rfl (EvD.g (ev_callD (P := pAlW K) (ts, rs, ks, pl) (cb_L_alikeW T) hr (by decide) hw (ea2 (ev_var 3) (ev_callD (P := pMade K) (ts, rs, ks, pl) (cb_L_made T) hr (by decide) hw (ea1 (ev_var 0)))))) rfl
  | none =>
    have to := thrOk (i := (ts, rs, ks, pl)) hw hh cq
    have hps := to.ps
    have nm := norm_of cq fun t m => (hh.all t m).2.2
    have hN : HOk (normal pl (thr (cr0 pl) hs)) := ⟨by rw [nm.len]; exact hl, fun u m => to.h.all u ((nm.mem u).mp m)⟩
    have hNl := nm.len
    generalize hNe : normal pl (thr (cr0 pl) hs) = N at nm hN hNl
    have e7 : normN (prts (ts, rs, ks, pl) hs) 7 = N := hNe
    refine sw_not (EvB.g (eb_gt (ev_lenLd (ds := []) T.len_ (ev_var 5)) ev_int)) ?_
    refine sw_set 6 nd_L_holds (T := dat (eParts (prts (ts, rs, ks, pl) hs))) (EvD.g (ev_callD (P := pLParts) ((ts, rs, ks, pl), thr (cr0 pl) hs) (cb_L_parts T) hr (by decide) to (ea2 (ev_var 2) (ev_callD (P := pLTok) ((ts, rs, ks, pl), hs) (cb_L_tokens T) hr (by decide) ⟨hw, hh, cq⟩ (ea2 (ev_var 2) (ev_var 1)))))) ?_
    refine sw_set 7 nd_L_holds (T := dat (eH [])) (EvD.g (ev_lstD (ds := []) ea_nil (by show 0 ≤ 1000; decide))) ?_
    refine sw_forS (S := List Deed) (J := [8]) (g := gName 8) (List.range 7) (fun d => dat (.int (d : Int))) (fun ys s => s = normN (prts (ts, rs, ks, pl) hs) ys.length) (fun s => slots N_L_holds [some (tSk (ts, rs, ks, pl)), some (dat (eH hs)), some (tPl ks pl), some (tWo K (ts, rs, ks, pl)), some (dat (eH hs)), none, some (dat (eParts (prts (ts, rs, ks, pl) hs))), some (dat (eH s))]) (fun _ => [])
      (fun s d => (slots N_L_holds [some (tSk (ts, rs, ks, pl)), some (dat (eH hs)), some (tPl ks pl), some (tWo K (ts, rs, ks, pl)), some (dat (eH hs)), none, some (dat (eParts (prts (ts, rs, ks, pl) hs))), some (dat (eH s))]).set 8 (some (dat (.int (d : Int))))) PassesOwn.never rfl (ei_rangeA (m := 7) 7 rfl T.range_ (by decide) ev_int) (pg_name nd_L_holds rfl (Or.inl rfl))
      (fun s d => tr_name 8) (fun _ q m => nomatch m) ⟨[], rfl, by repeat (first | exact Wk.nil | apply Wk.cons | apply Wk.no), rfl⟩ (fun ys d zs s e hs2 => ?_) fun s hs2 => ?_
    · obtain ⟨hd, hys⟩ := range_at e
      have hyl : ys.length = d := by rw [hys, List.length_range]
      rw [hyl] at hs2
      refine sw_forS (S := List Deed) (J := [9, 10]) (g := g2 K 9 10) (prts (ts, rs, ks, pl) hs).reverse (fun p => tT [dat (eC p.1), dat (eH p.2)]) (fun ws s2 => s2 = ws.reverse.flatMap (prow d) ++ s) (fun s2 => slots N_L_holds [some (tSk (ts, rs, ks, pl)), some (dat (eH hs)), some (tPl ks pl), some (tWo K (ts, rs, ks, pl)), some (dat (eH hs)), none, some (dat (eParts (prts (ts, rs, ks, pl) hs))), some (dat (eH s2)), some (dat (.int (d : Int)))]) (fun _ => [])
        (fun s2 p => ((slots N_L_holds [some (tSk (ts, rs, ks, pl)), some (dat (eH hs)), some (tPl ks pl), some (tWo K (ts, rs, ks, pl)), some (dat (eH hs)), none, some (dat (eParts (prts (ts, rs, ks, pl) hs))), some (dat (eH s2)), some (dat (.int (d : Int)))]).set 9 (some (dat (eC p.1)))).set 10 (some (dat (eH p.2)))) PassesOwn.never rfl (ei_mono (ei_listA (prts (ts, rs, ks, pl) hs).reverse (fun p => dat (ePart p)) (EvD.imp (ev_revL (Ts := (prts (ts, rs, ks, pl) hs).map fun p => dat (ePart p)) (mapL (ev_var 6))) fun v G t => by rw [← List.map_reverse] at t; exact t)) fun _ _ _ _ t => dat_tuple.mp t) (pg_tup rfl (pgs_cons (pg_name nd_L_holds rfl (Or.inl rfl)) (pgs_cons (pg_name nd_L_holds rfl (Or.inl rfl)) pgs_nil)))
        (fun s2 p => tr_tup2 9 10) (fun _ q m => nomatch m) ⟨s, rfl, by repeat (first | exact Wk.nil | apply Wk.cons | apply Wk.no), rfl⟩ (fun ws p us s2 e2 hs3 => ?_) fun s2 hs3 => ?_
      · have hb : (prow d p ++ s2).length ≤ 60 := by
          have e4 : prts (ts, rs, ks, pl) hs = us.reverse ++ p :: ws.reverse := by
            have := congrArg List.reverse e2
            rw [List.reverse_reverse, List.reverse_append, List.reverse_cons, List.append_assoc] at this
            exact this
          have e5 : dayParts (prts (ts, rs, ks, pl) hs) d = us.reverse.flatMap (prow d) ++ (prow d p ++ ws.reverse.flatMap (prow d)) := by
            rw [dayParts_row, e4, List.flatMap_append, List.flatMap_cons]
          have h1 := normN_suf (prts (ts, rs, ks, pl) hs) (d + 1) 7 (by omega)
          rw [e7] at h1
          have h2 : (normN (prts (ts, rs, ks, pl) hs) (d + 1)).length = (dayParts (prts (ts, rs, ks, pl) hs) d ++ normN (prts (ts, rs, ks, pl) hs) d).length := rfl
          rw [e5, ← hs2, List.length_append, List.length_append, List.length_append] at h2
          rw [hs3, List.length_append, List.length_append]
          omega
        refine sw_whenE (P := fun b => b = decide (p.1.1 = d)) (δ' := ((slots N_L_holds [some (tSk (ts, rs, ks, pl)), some (dat (eH hs)), some (tPl ks pl), some (tWo K (ts, rs, ks, pl)), some (dat (eH hs)), none, some (dat (eParts (prts (ts, rs, ks, pl) hs))), some (dat (eH (prow d p ++ s2))), some (dat (.int (d : Int)))]))) (EvB.g (EvB.imp (eb_eqI (at_eC0 (ev_var 9)) (ev_var 8)) fun b h => ?_)) (fun h => ?_) (fun h => ?_) ?_
        · rw [h]
          by_cases c : p.1.1 = d
          · rw [decide_eq_true c, decide_eq_true (by omega)]
          · rw [decide_eq_false c, decide_eq_false (by omega)]
        · have c : p.1.1 = d := of_decide_eq_true h.symm
          have ep : prow d p = p.2 := if_pos c
          rw [ep] at hb ⊢
          rw [List.length_append] at hb
          refine sw_set 7 nd_L_holds (T := dat (eH (p.2 ++ s2))) (EvD.g (EvD.imp (ev_catLd (ds := p.2.map eD) (es' := s2.map eD) (by rw [List.length_map, List.length_map]; omega) (ev_var 10) (ev_var 7)) fun v G t => by rw [← List.map_append] at t; exact t)) ?_
          exact sw_nil ⟨by repeat (first | exact Wk.nil | apply Wk.cons | apply Wk.no), rfl⟩
        · have c : ¬ p.1.1 = d := of_decide_eq_false h.symm
          have ep : prow d p = [] := if_neg c
          rw [ep]
          exact ⟨by repeat (first | exact Wk.nil | apply Wk.cons | apply Wk.no), rfl⟩
        · refine sw_nil ⟨prow d p ++ s2, ?_, Wk.rfl' _, rfl⟩
          rw [hs3, List.reverse_append, List.reverse_singleton, List.flatMap_append, List.append_assoc]
          simp
      · refine sw_nil ⟨s2, ?_, by repeat (first | exact Wk.nil | apply Wk.cons | apply Wk.no), rfl⟩
        rw [List.length_append, List.length_singleton, hyl, hs3, List.reverse_reverse, hs2]
        rfl
    · rw [List.length_range] at hs2
      rw [e7] at hs2
      subst hs2
      have rN : refused ks pl s 0 = none := by rw [← hNe]; exact nm.runs
      have thN : thr (cr0 pl) s = s := by rw [← hNe]; exact nm.thrs
      have nrN : normal pl s = s := by rw [← hNe]; exact nm.nrm
      have finN : runP pl s = runP pl hs := by rw [← hNe]; exact nm.fin
      have pN : prts (ts, rs, ks, pl) s = prts (ts, rs, ks, pl) hs := by
        show parts pl (thr (cr0 pl) s) = parts pl (thr (cr0 pl) hs)
        rw [thN, ← hNe]
        exact nm.pts
      have nfH : nform (ts, rs, ks, pl) hs = s := hNe
      have nfN : nform (ts, rs, ks, pl) s = s := by
        show normal pl (thr (cr0 pl) s) = s
        rw [thN, nrN]
      have hsl : s.length ≤ 1000 := by have := hN.len; omega
      have al2 := alD_eH (hs := s) hsl
      have hw2 : WorldOk ts rs ks (runP pl hs) := hw.run cq
      refine sw_setO 11 nd_L_holds (C := cH s) (ef_callX0 (P := pNormal K) ((ts, rs, ks, pl), .good hs) rfl (cb_normal_form T) hr (by decide) ⟨hw, hh⟩ (ga_cons (EvD.g (ev_var 3)) (ga_cons (EvD.g (ev_var 4)) ga_nil)) ?_) ?_
      · show outW (refused ks pl hs 0) (cH (nform (ts, rs, ks, pl) hs)) = .ok (cH s)
        rw [cq, nfH]
        rfl
      · refine sw_not (EvGB.view fun z' h1 h2 => EvW.eb (ew_or (p := false) (q' := false) (eb_notV (p := true) (eb_val (ev_alike T 2 al2 hr (by decide) (EvD.imp (ev_var 11) fun v G h => eLf_of (f := eD) (cL_ty.mp h)) (ev_var 7)))) fun _ => ew_or (p := false) (q' := false) (eb_notV (p := true) (eb_val (ev_alike T 2 al2 hr (by decide) (EvD.imp (EvG.d (efL (ef_callX0 (P := pThreads K) (C := cH s) ((ts, rs, ks, pl), .good s) rfl (cb_threads_of T) hr (by decide) ⟨hw, hN⟩ (ga_cons (EvD.g (ev_var 3)) (ga_cons (EvD.g (EvD.imp (ev_var 11) fun v G h => eLf_of (f := eD) (cL_ty.mp h))) ga_nil)) ?_))) fun v G h => eLf_of (f := eD) h) (ev_var 7)))) fun _ => ew_or1 (EvB.imp (eb_ne hr (okD_shaped okh (by decide)) (okD_shaped okh (by decide)) (ev_var 4) (ev_var 1)) fun b h => ?_))) ?_
        · show outW (refused ks pl s 0) (cH (thr (cr0 pl) s)) = .ok (cH s)
          rw [rN, thN]
          rfl
        · rw [h, eqv_self okh]
          rfl
        · refine sw_not (EvGB.view fun z' h1 h2 => EvW.eb (ew_or (p := false) (q' := false) (eb_notV (p := true) (eb_val (ev_alike T 2 al2 hr (by decide) (EvD.imp (EvG.d (efL (ef_callX0 (P := pNormal K) (C := cH s) ((ts, rs, ks, pl), .good s) rfl (cb_normal_form T) hr (by decide) ⟨hw, hN⟩ (ga_cons (EvD.g (ev_var 3)) (ga_cons (EvD.g (EvD.imp (ev_var 11) fun v G h => eLf_of (f := eD) (cL_ty.mp h))) ga_nil)) ?_))) fun v G h => eLf_of (f := eD) h) (ev_var 7)))) fun _ => ew_or1 (eb_notV (p := true) (eb_val (ev_alike T 0 (d := .bool true) trivial hr (by decide) (ev_callX0 (P := pAlike K) ((ts, rs, ks, pl), hs, s) rfl (cb_histories_alike T) hr (by decide) ⟨hw, hh, hN⟩ (ea_cons (ev_var 3) (ea2 (ev_var 4) (EvD.imp (ev_var 11) fun v G h => eLf_of (f := eD) (cL_ty.mp h)))) ?_) ev_bl))))) ?_
          · show outW (refused ks pl s 0) (cH (nform (ts, rs, ks, pl) s)) = .ok (cH s)
            rw [rN, nfN]
            rfl
          · show outTwo (ts, rs, ks, pl) hs s = _
            unfold outTwo
            rw [cq, rN, pN]
            show Except.ok _ = Except.ok _
            rw [decide_eq_true rfl]
          · refine sw_not (EvGB.view fun z' h1 h2 => eb_notV (p := true) (eb_val (ev_callD (P := pAlW K) (ts, rs, ks, runP pl hs) (cb_L_alikeW T) hr (by decide) hw2 (ea2 (ev_callX0 (P := pReplay K) ((ts, rs, ks, pl), s) rfl (cb_replay T) hr (by decide) ⟨hw, hN⟩ (ea2 (ev_var 3) (EvD.imp (ev_var 11) fun v G h => eLf_of (f := eD) (cL_ty.mp h))) ?_) (ev_callD (P := pMade K) (ts, rs, ks, runP pl hs) (cb_L_made T) hr (by decide) hw2 (ea1 (ev_lst (Ts := [dat (eL ts), dat (.list (rs.map eP)), tPl ks (runP pl hs)]) (ea_cons (ev_ixL (Ts := [dat (eL ts), dat (.list (rs.map eP)), tPl ks pl]) rfl (ev_var 0) ev_int) (ea2 (ev_ixL (Ts := [dat (eL ts), dat (.list (rs.map eP)), tPl ks pl]) rfl (ev_var 0) ev_int)
              (ev_ixL (T := tPl ks (runP pl hs)) (Ts := (stages pl hs).map fun q => tPl ks q) (at_neg1 (by rw [List.getLast?_map, stages_last]; rfl)) (ev_ixL (Ts := [tL ((stages pl hs).map fun q => tPl ks q), dat (.int (-1)), dat (.list [])]) rfl (EvD.imp (ev_callD (P := pLRep) ((ts, rs, ks, pl), hs) (cb_L_replay T) hr (by decide) ⟨hw, by show hs.length ≤ 100; omega⟩ (ea2 (ev_var 2) (ev_var 1))) fun v G t => ?_) ev_int) (ev_neg ev_int)))) (by show 3 ≤ 1000; decide)))))))) ?_
            · show outW (refused ks pl s 0) (tWo K (ts, rs, ks, runP pl s)) = _
              rw [rN, finN]
              rfl
            · have t : (tRep (ts, rs, ks, pl) hs).p v G := t
              unfold tRep at t
              rw [cq] at t
              exact t
            · refine sw_app (T := dat (.tuple [.str "a", .str "a", .int 0])) (EvG.drop (EvD.g (ev_tupD (ds := [.str "a", .str "a", .int 0]) (ea_cons ev_str (ea2 ev_str ev_int)) (by show 3 ≤ 1000; decide)))) (by rw [List.length_map]; have := hN.len; omega) ?_
              refine sw_retT rfl (EvG.drop (EvD.g (ev_and (p := true) (ev_alike T 2 al2 hr (by decide) (EvD.imp (EvG.d (efL (ef_callX0 (P := pNormal K) (C := cH s) ((ts, rs, ks, pl), .good hs) rfl (cb_normal_form T) hr (by decide) ⟨hw, hh⟩ (ga_cons (EvD.g (ev_var 3)) (ga_cons (EvD.g (ev_var 4)) ga_nil)) ?_))) fun v G h => eLf_of (f := eD) h) (ev_var 7)) fun _ => ev_one (ev_callD (P := pAlW K) (ts, rs, ks, pl) (cb_L_alikeW T) hr (by decide) hw (ea2 (ev_var 3) (ev_callD (P := pMade K) (ts, rs, ks, pl) (cb_L_made T) hr (by decide) hw (ea1 (ev_var 0)))))))) rfl
              show outW (refused ks pl hs 0) (cH (nform (ts, rs, ks, pl) hs)) = .ok (cH s)
              rw [cq, nfH]
              rfl
end
end K37
end
section
set_option maxRecDepth 100000
set_option maxHeartbeats 4000000
/-! W33: the script, the store, what the law draws. -/
namespace Z
open PySem PySem.Spec PyProof.Rows L2
theorem sq_up {K : PySem.W.Frag} {G H : Hp} (l : Le G H) {a : Addr} {xs : List V} (h : SqL K G a xs) : SqL K H a xs := by
  rcases h with h | h
  · exact .inl (l.rd h)
  · exact .inr h
/-- the script -/
def tSq (K : PySem.W.Frag) (ns : List Int) : Ty := ⟨fun v G => ∃ a, v = .ref a ∧ SqL K G a (ns.map V.int), fun s ⟨a, e, h⟩ => ⟨a, e, sq_up s h⟩⟩
theorem ei_seqA {X : Cx} {z : Zn} {δ : List (Option Ty)} {tg it : Expr} {ns : List Int} (ha : EvD X z δ it (tSq X.K ns)) : EvI X z δ tg it ns.length (fun i => (fun c : Int => dat (.int c)) ns[i]!) := ⟨_, pi_list pe_w, fun G H σ bg rs R q => ha G H σ bg rs _ fun v G1 H1 e1 t => by
  obtain ⟨d, rfl, sq⟩ := t
  have wl := walk_list (K := X.K) (a := d) (xs := ns.map V.int)
  rw [List.length_map] at wl
  refine ⟨d, rfl, ⟨_, sq_up e1.le sq⟩, q (Itl X.K d) G1 H1 _ _ e1 wl (fun G2 H2 s l => sq_up l (sq_up s sq)) fun i G2 H2 v H3 hi s l st y => ?_⟩
  obtain ⟨rfl, hv⟩ := y
  refine ⟨G2, Ext.rfl' l st, ?_⟩
  rw [List.getElem?_map, List.getElem?_eq_getElem hi] at hv
  cases hv
  show (dat (.int ns[i]!)).p (.int ns[i]) G2
  rw [getElem!_pos ns i hi]
  exact .int _⟩
/-- from the store's own object to a store that is handed on -/
theorem sw_store {X : Cx} {z : Zn} {sts : List Stmt} {c : List Int} {sd : Int} {T : Ty} {δ : List (Option Ty)} {j : Nat} (pz : Pz z) (hT : ∀ G, ¬ T.p .non G)
    (k : ∀ (z2 : Zn) (st : Addr), z2.sa = some st → (∀ b, z2.B b → z2.sa = some b) → SWs X z2 sts (dT z2 T) (δ.set j (some (tRaw (.ref st)))) []) :
    SWs X z sts (dT z T) δ [(j, none, cL (stTs c 0 0 0 sd))] := fun F G H σ sf g => by
  obtain ⟨a, o, e, _, _, ga, ns, ob, ha, ca, _⟩ := g.ow
  have h0 : z.H0 a = none := ob.new rfl
  have b2 : Bg ⟨some a, z.G0, z.H0, fun b => b = a, fun s e => by cases e; rfl⟩ G H := ⟨g.bg.le, g.bg.g0, fun b u nb e => g.bg.h0 b u (pz.2 b) e, g.bg.al, g.bg.nt, g.bg.nw, sto_of (Int.le_refl 0) ga ha ca⟩
  have out : ∀ {G' H' : Hp}, Bg ⟨some a, z.G0, z.H0, fun b => b = a, fun s e => by cases e; rfl⟩ G' H' → Bg z G' H' := fun {G' H'} b => ⟨b.le, b.g0, fun d u nb e => b.h0 d u (fun w => by
    have w : d = a := w
    rw [w, h0] at e
    cases e) e, b.al, b.nt, b.nw, by rw [pz.1]; trivial⟩
  have rs : RepS G σ (δ.set j (some (tRaw (.ref a)))) := g.rs.put e rfl
  refine tWs_mono (k ⟨some a, z.G0, z.H0, fun b => b = a, fun s e => by cases e; rfl⟩ a rfl (fun b hb => by rw [show b = a from hb]) F G H σ sf ⟨b2, rs, trivial⟩) (fun σ' H' q => ?_) (fun v H' q => ?_) (fun σ' H' q => ?_) (fun σ' H' q => ?_)
  · obtain ⟨G', δ', Ω', _, _, n⟩ := q
    exact absurd (n G') (hT G')
  · obtain ⟨G', b, t⟩ := q
    exact ⟨G', out b, t⟩
  · obtain ⟨G', δ', Ω', _, _, n⟩ := q
    exact n.elim
  · obtain ⟨G', δ', Ω', _, _, n⟩ := q
    exact n.elim
theorem cutG_map {α β : Type} {f : α → β} {xs : List α} {lo hi : Option Int} : cutG (xs.map f) lo hi = (cutG xs lo hi).map f := by
  unfold cutG
  rw [List.length_map, List.map_take, List.map_drop]
theorem cutG_mem {α : Type} {xs : List α} {lo hi : Option Int} {x : α} (h : x ∈ cutG xs lo hi) : x ∈ xs := List.mem_of_mem_drop (List.mem_of_mem_take h)
theorem cutG_len {α : Type} {xs : List α} {lo hi : Option Int} : (cutG xs lo hi).length ≤ xs.length := by
  unfold cutG
  rw [List.length_take, List.length_drop]
  omega
theorem cutG_last {α : Type} {xs : List α} : cutG xs (some (-1)) none = xs.drop (xs.length - 1) := by
  unfold cutG
  have e : HT.sIx xs.length 0 (some (-1)) = xs.length - 1 := by
    show (if (-1 : Int) < 0 then ((-1 : Int) + (xs.length : Int)).toNat else min (-1 : Int).toNat xs.length) = _
    rw [if_pos (by decide)]
    omega
  rw [e, HT.sIx_none]
  exact List.take_of_length_le (by rw [List.length_drop]; exact Nat.le_refl _)
theorem cutG_one {α : Type} {xs : List α} {n : Nat} : (cutG xs (some (n : Int)) (some ((n : Int) + 1))).length ≤ 1 := by
  unfold cutG
  rw [show ((n : Int) + 1) = ((n + 1 : Nat) : Int) from rfl, HT.sIx_nat, HT.sIx_nat, List.length_take]
  omega
end Z
namespace K37
open PySem PySem.Spec PyProof.Rows L2
open Z
section
variable {X : Cx} {z : Zn} {δ : List (Option Z.Ty)} {a b c : Expr} {p pos : Pos} {hs us : List Deed} {m : Nat}
theorem ev_slH {lo hi : Option Expr} {i j : Option Int} (ha : EvD X z δ a (dat (eH hs))) (hlo : EvO X z δ lo i) (hhi : EvO X z δ hi j) : EvD X z δ (.Subscript a (.Slice lo hi none p) pos) (dat (eH (cutG hs i j))) :=
  EvD.imp (ev_slL (p2 := p) (pos := pos) (eH_toL ha) hlo hhi) fun v G t => by
    rw [cutG_map] at t
    exact eLf_of (f := eD) t
theorem ev_headH (ha : EvD X z δ a (dat (eH hs))) (hc : EvD X z δ c (dat (.int (m : Int)))) : EvD X z δ (.Subscript a (.Slice none (some c) none p) pos) (dat (eH (hs.take m))) := by
  have h := ev_slH (p := p) (pos := pos) ha eo_none (eo_some hc)
  rw [cut_take] at h
  exact h
theorem ev_tailH {i : Int} (hi : i = ((m : Nat) : Int)) (ha : EvD X z δ a (dat (eH hs))) (hc : EvD X z δ c (dat (.int i))) : EvD X z δ (.Subscript a (.Slice (some c) none none p) pos) (dat (eH (hs.drop m))) := by
  rw [hi] at hc
  have h := ev_slH (p := p) (pos := pos) ha (eo_some hc) eo_none
  rw [cut_drop] at h
  exact h
theorem ev_catH (h : hs.length + us.length ≤ 1000) (ha : EvD X z δ a (dat (eH hs))) (hb : EvD X z δ b (dat (eH us))) : EvD X z δ (.BinOp a .Add b pos) (dat (eH (hs ++ us))) :=
  EvD.imp (ev_catLd (ds := hs.map eD) (es' := us.map eD) (by rw [List.length_map, List.length_map]; exact h) ha hb) fun v G t => by rw [← List.map_append] at t; exact t
theorem ev_revH {k : Nat} {p1 p2 p3 : Pos} (ha : EvD X z δ a (dat (eH hs))) : EvD X z δ (.Subscript a (.Slice none none (some (.UnaryOp .USub (.Constant (.int 1) k p1) p2)) p3) pos) (dat (eH hs.reverse)) :=
  EvD.imp (ev_revL (eH_toL ha)) fun v G t => by
    rw [← List.map_reverse] at t
    exact eLf_of (f := eD) t
theorem ev_nix {ns : List Nat} {Q : Nat → Prop} (n : Nat) (hl : ns.length = n) (hQ : ∀ n ∈ ns, Q n) (ha : EvD X z δ a (tL (ns.map fun n : Nat => dat (.int (n : Int))))) (hb : EvD X z δ b (tBelow n)) (hs : PlainIx b := by exact fun _ _ => rfl) : EvD X z δ (.Subscript a b pos) (tEx Q fun n => dat (.int (n : Int))) :=
  EvD.imp (ev_ixE (n := n) (by rw [List.length_map, hl]) ha hb hs) fun v G ⟨j, hj, t⟩ => by
    have hj : j < ns.length := by omega
    have e := map_getD (xs := ns) (F := fun n : Nat => dat (.int (n : Int))) hj
    have t : ((ns.map fun n : Nat => dat (.int (n : Int))).getD j tAny).p v G := t
    rw [e] at t
    exact ⟨ns[j]!, hQ _ (nth_bang hj), t⟩
end
theorem HAny.ok {hs : List Deed} {m : Nat} (h : HAny hs m) (hm : m ≤ 60) : HOk hs := ⟨Nat.le_trans h.len hm, h.all⟩
theorem hok_of {hs us : List Deed} (h : HOk hs) (hl : us.length ≤ 60) (hm : ∀ t ∈ us, t ∈ hs) : HOk us := ⟨hl, fun t m => h.all t (hm t m)⟩
theorem hist_day (ks : List Str) : ∀ (us : List Deed) (cr : Plans), ∀ t ∈ hist ks cr us, ∃ u ∈ us, t.2.2 = u.2.2
  | [], _, _, m => nomatch m
  | y :: us, cr, t, m => by
    have m : t ∈ _ :: hist ks _ us := m
    rcases List.mem_cons.mp m with e | m
    · exact ⟨y, List.mem_cons_self, by rw [e]⟩
    · obtain ⟨u, mu, e⟩ := hist_day ks us _ t m
      exact ⟨u, List.mem_cons_of_mem _ mu, e⟩
theorem hist_ok {i : WIx} {us : List Deed} (h : ThrOk i us) : HOk (hist (sortN i.2.2.1) (cr0 i.2.2.2) us) := by
  have hf : ∀ u ∈ us, Fits (sortN i.2.2.1) i.2.2.2 u := fun u m => (h.fit u m).perm fun n => (sortN_mem i.2.2.1 n).symm
  have hr := hist_runs us.length us rfl hf
  refine ⟨by rw [hist_len]; exact h.h.len, fun t m => ?_⟩
  obtain ⟨h1, h2⟩ := refused_mem hr t m
  obtain ⟨u, mu, e⟩ := hist_day _ _ _ t m
  exact ⟨h.ok.ok.nm _ ((sortN_mem i.2.2.1 _).mp h1), h.ok.ok.nm _ ((sortN_mem i.2.2.1 _).mp h2), by rw [e]; exact (h.h.all u mu).2.2⟩
/-- the deeds of all parts are those that were parted -/
theorem parts_flat {pl : Plans} {us : List Deed} : ((parts pl us).flatMap (·.2)).Perm us := by
  refine List.perm_iff_count.mpr fun u => ?_
  have e : ∀ xs : List Deed, xs.count u = (partOf pl xs (crs pl u)).count u := fun xs => by
    unfold partOf
    rw [List.count_filter (by simp)]
  have k : partOf pl ((parts pl us).flatMap (·.2)) (crs pl u) = partOf pl us (crs pl u) := by
    show ((parts pl us).flatMap (·.2)).filter _ = _
    unfold parts
    rw [List.flatMap_map, filter_flatMap]
    simp only [part_filter]
    by_cases hm : crs pl u ∈ ckeys pl us
    · rw [flatMap_one (ckeys_nodup pl us) hm fun x _ hne => if_neg hne, if_pos rfl]
    · rw [flatMap_nil fun x mx => if_neg fun (w : x = crs pl u) => hm (w ▸ mx), partOf_nil.mpr hm]
  rw [e, e us, k]
theorem some_thr {i : WIx} {us : List Deed} (h : ThrOk i us) {ps rs : List Part} (hp : (ps ++ rs).Perm (parts i.2.2.2 us)) : ThrOk i (ps.flatMap (·.2)) := by
  have e := (hp.flatMap_right (·.2)).trans parts_flat
  rw [List.flatMap_append] at e
  have hl := e.length_eq
  rw [List.length_append] at hl
  have hh := h.h.len
  have hm : ∀ u ∈ ps.flatMap (·.2), u ∈ us := fun u m => e.mem_iff.mp (List.mem_append_left _ m)
  exact ⟨h.ok, ⟨by omega, fun u m => h.h.all u (hm u m)⟩, fun u m => h.fit u (hm u m)⟩
section
variable {P : Program} {w : World} {K : PySem.W.Frag} {mg : Str → Option Value} {base : Heap}
def pStoreS (K : PySem.W.Frag) : PrF (List Int) := ⟨fun c => c.length ≤ 1000, fun c => [tSq K c], fun c => cL (stTs c 0 0 0 (seedZ c (c.length : Int)))⟩
theorem cb_L_storeS (T : Txt K mg) : Cb CX0 P w K mg base 2 "_law_store" ["_law_script"] (pStoreS K).sp := by
  refine cb_prF T.f_L_store sc_L_store bd_L_store (fun _ => rfl) fun f cdv A outer s H E cells z hr pz hp => ?_
  have hl : cells.length ≤ 1000 := hp
  refine sw_setLc1 cells (fun c => dat (.int c)) (fun _ => true) (fun c => dat (.int c)) 1 3 rfl nd_L_store (ei_seqA (ev_var 0)) (blkOk_by (N := N_L_store) (sc := defScope s_L_store) (by decide +kernel)) (fun _ _ _ _ _ => pg_name nd_L_store rfl (Or.inl rfl)) (fun c m _ _ _ _ _ => et_nil)
    (fun c m _ _ _ _ _ _ => ev_intI T.int_ (ev_var 3)) hl ?_
  rw [map_all]
  refine sw_set 2 nd_L_store (T := dat (.int 0)) (EvD.g ev_int) ?_
  refine sw_forS (S := Int) (J := [3]) (g := gName 3) cells (fun c => dat (.int c)) (fun ys s => s = seedZ ys (cells.length : Int)) (fun s => slots N_L_store [some (tSq K cells), some (cellT cells), some (dat (.int s))]) (fun _ => []) (fun s c => (slots N_L_store [some (tSq K cells), some (cellT cells), some (dat (.int s))]).set 3 (some (dat (.int c)))) PassesOwn.never rfl (ei_listA cells (fun c => dat (.int c)) (ev_var 1)) (pg_name nd_L_store rfl (Or.inl rfl))
    (fun s c => tr_name 3) (fun _ q m => nomatch m) ⟨0, rfl, by repeat (first | exact Wk.nil | apply Wk.cons | apply Wk.no), rfl⟩ (fun ys c zs s e hs => ?_) fun s hs => ?_
  · refine sw_set 2 nd_L_store (T := dat (.int (mixZ (c + s) (cells.length : Int)))) (EvD.g (ev_callD (P := pMixed) (c + s, (cells.length : Int)) (cb_L_mixed T) hr (by decide) trivial (ea2 (ev_add (ev_intI T.int_ (ev_var 3)) (ev_var 2)) (EvD.imp (ev_lenL (Us := cells.map fun c => dat (.int c)) T.len_ (ev_var 1)) fun v G t => by rw [List.length_map] at t; exact t)))) ?_
    refine sw_nil ⟨mixZ (c + s) (cells.length : Int), ?_, by repeat (first | exact Wk.nil | apply Wk.cons | apply Wk.no), rfl⟩
    rw [hs]
    unfold seedZ
    rw [List.foldl_append]
    rfl
  · rw [hs]
    exact sw_retFr rfl (ef_lst (ga_cons (EvD.g (ev_var 1)) (ga_cons (EvD.g ev_int) (ga_cons (EvD.g ev_int) (ga_cons (EvD.g ev_int) (ga_cons (EvD.g (ev_var 2)) ga_nil))))) (by show 5 ≤ 1000; decide)) rfl
end
end K37
end
section
set_option maxRecDepth 100000
set_option maxHeartbeats 600000
/-! W34: law. -/
namespace K37
open PySem PySem.Spec PyProof.Rows L2
open Z
section
variable {X : Cx} {z : Zn} {δ : List (Option Z.Ty)} {a : Expr} {p pos : Pos} {hs : List Deed} {k : Nat}
theorem ev_lastH {p1 p2 p3 : Pos} (ha : EvD X z δ a (dat (eH hs))) : EvD X z δ (.Subscript a (.Slice (some (.UnaryOp .USub (.Constant (.int 1) k p1) p2)) none none p3) pos) (dat (eH (hs.drop (hs.length - 1)))) := by
  have h := ev_slH (p := p3) (pos := pos) ha (eo_some (ev_neg (pos := p2) (ev_int (pos := p1) (i := 1) (j := k)))) eo_none
  rw [cutG_last] at h
  exact h
theorem ev_twiceH {b : Expr} (h : hs.length ≤ 100) (ha : EvD X z δ a (dat (eH hs))) (hb : EvD X z δ b (dat (.int ((2 : Nat) : Int)))) : EvD X z δ (.BinOp a .Mult b pos) (dat (eH (hs ++ hs))) :=
  EvD.imp (ev_repL (n := 2) (by rw [List.length_map]; omega) (by decide) (eH_toL ha) hb) fun v G t => by
    have e : (List.replicate 2 (hs.map fun t => dat (eD t))).flatten = (hs ++ hs).map fun t => dat (eD t) := by
      simp [List.replicate, List.map_append]
    rw [e] at t
    exact eLf_of (f := eD) t
end
/-- the histories beside the first -/
def near1 (i : WIx) (hs us tu U : List Deed) (at0 : Nat) : List (List Deed) :=
  [hist (sortN i.2.2.1) (cr0 i.2.2.2) U, hs.take at0 ++ tu ++ hs.drop (at0 + 1), hs ++ (hs.drop (hs.length - 1) ++ hs.drop (hs.length - 1)), hs.reverse]
def near2 (hs us : List Deed) (at0 : Nat) : List (List Deed) := [hs.take at0 ++ hs.drop (at0 + 1), hs ++ hs.drop (hs.length - 1), us, hs]
def turn (t : Deed) : Deed := (t.2.1, t.1, t.2.2)
theorem near_ok {i : WIx} {hs us U cut : List Deed} {at0 : Nat} (hk : HOk hs) (hl : hs.length ≤ 58) (uk : HOk us) (hU : ThrOk i U) (hat : at0 < max 1 hs.length) (c1 : cut.length ≤ 1) (cm : ∀ t ∈ cut, t ∈ hs) :
    ∀ h ∈ near1 i hs us (cut.map turn) U at0 ++ near2 hs us at0, HOk h := fun h m => by
  have tk : ∀ t ∈ cut.map turn, DOk t := fun t mt => by
    obtain ⟨u, mu, rfl⟩ := List.mem_map.mp mt
    have := hk.all u (cm u mu)
    exact ⟨this.2.1, this.1, this.2.2⟩
  rcases List.mem_append.mp m with m | m
  · unfold near1 at m
    simp only [List.mem_cons, List.not_mem_nil, or_false] at m
    rcases m with rfl | rfl | rfl | rfl
    · exact hist_ok hU
    · refine ⟨?_, fun t mt => ?_⟩
      · rw [List.length_append, List.length_append, List.length_map, List.length_take, List.length_drop]
        omega
      · rcases List.mem_append.mp mt with mt | mt
        · rcases List.mem_append.mp mt with mt | mt
          · exact hk.all t (List.mem_of_mem_take mt)
          · exact tk t mt
        · exact hk.all t (List.mem_of_mem_drop mt)
    · refine hok_of hk ?_ fun t mt => ?_
      · rw [List.length_append, List.length_append, List.length_drop]
        omega
      · rcases List.mem_append.mp mt with mt | mt
        · exact mt
        · rcases List.mem_append.mp mt with mt | mt
          · exact List.mem_of_mem_drop mt
          · exact List.mem_of_mem_drop mt
    · exact hok_of hk (by rw [List.length_reverse]; omega) fun t mt => List.mem_reverse.mp mt
  · unfold near2 at m
    simp only [List.mem_cons, List.not_mem_nil, or_false] at m
    rcases m with rfl | rfl | rfl | rfl
    · refine hok_of hk ?_ fun t mt => ?_
      · rw [List.length_append, List.length_take, List.length_drop]
        omega
      · rcases List.mem_append.mp mt with mt | mt
        · exact List.mem_of_mem_take mt
        · exact List.mem_of_mem_drop mt
    · refine hok_of hk ?_ fun t mt => ?_
      · rw [List.length_append, List.length_drop]
        omega
      · rcases List.mem_append.mp mt with mt | mt
        · exact mt
        · exact List.mem_of_mem_drop mt
    · exact uk
    · exact hk
/-- a list of numbers as it is written -/
inductive IntsE : List Expr → List Nat → Prop where
  | nil : IntsE [] []
  | cons {n k : Nat} {pos : Pos} {es : List Expr} {ns : List Nat} : IntsE es ns → IntsE (.Constant (.int (n : Int)) k pos :: es) (n :: ns)
theorem ea_ints {X : Cx} {z : Zn} {δ : List (Option Z.Ty)} : ∀ {es : List Expr} {ns : List Nat}, IntsE es ns → EvA X z δ es (ns.map fun n : Nat => dat (.int (n : Int)))
  | _, _, .nil => ea_nil
  | _, _, .cons h => ea_cons ev_int (ea_ints h)
theorem ev_ints {X : Cx} {z : Zn} {δ : List (Option Z.Ty)} {es : List Expr} {b : Expr} {p pos : Pos} {Q : Nat → Prop} (ns : List Nat) (h : IntsE es ns) (hl : ns.length ≤ 1000) (hQ : ∀ n ∈ ns, Q n) (hb : EvD X z δ b (tBelow ns.length)) (hs : PlainIx b) : EvD X z δ (.Subscript (.List es p) b pos) (tEx Q fun n => dat (.int (n : Int))) :=
  ev_nix ns.length rfl hQ (ev_lst (ea_ints h) (by rw [List.length_map]; exact hl)) hb hs
theorem sw_setE0 {X : Cx} {z : Zn} {δ : List (Option Z.Ty)} {e : Expr} {p' pos : Pos} {D : Dn} {rest : List Stmt} {x : Str} {ι : Type} {P : ι → Prop} {R : ι → Z.Ty} (i : Nat) (hN : X.N.Nodup) (he : EvD X z δ e (tEx P R)) (k : ∀ y, P y → SWs X z rest D (δ.set i (some (R y))) []) (hi : X.N[i]? = some x) (hx : Loc X.env.scope x)
    (hs : swapsWith e (some (.Name x p')) pos.line X.env = pure false) (hf : X.fn x = true ∨ X.env.scope.names.lookup x = some .local) :
    SWs X z (.Assign [.Name x p'] e pos :: rest) D δ [] := sw_setE i hN (EvD.g he) k (fun _ m => nomatch m) hi hx hs hf
section
variable {P : Program} {w : World} {K : PySem.W.Frag} {mg : Str → Option Value} {base : Heap}
def pLaw (K : PySem.W.Frag) : Pr (List Int) := ⟨fun c => c.length ≤ 1000, fun c => [tSq K c], fun _ => dat (.bool true)⟩
theorem ok_law (T : Txt K mg) {f : Addr} {fd : FuncData} (F : FunD K "law" "law" (defArgs s_law) (defBody s_law) (defScope s_law) [] [] f fd) : FnOk P w K mg base CX0 13 f fd ["_law_script"] (pLaw K).sp := by
  refine ok_pr F sc_law (fun _ => rfl) fun cdv A outer s H E cells z0 hr pz hp => ?_
  have hcl : cells.length ≤ 1000 := hp
  refine sw_setO 1 nd_law (ef_call (P := pStoreS K) cells (cb_L_storeS T) hr (by decide) hcl (ga_cons (EvD.g (ev_var 0)) ga_nil)) ?_
  refine sw_store (j := 1) pz (fun G h => nomatch h) fun z st hz hB => ?_
  refine sw_setE 2 nd_law (P := fun i : WIx => i.ok) (R := tSk) (EvD.g (ev_callSD (P := pPlains) () hz (cb_L_plains T) hr (by decide) trivial (ea1 (ev_var 1)))) fun wi hw => ?_
  refine sw_set 3 nd_law (T := tPl wi.2.2.1 wi.2.2.2) (EvD.g (ev_ixL (Ts := [dat (eL wi.1), dat (.list (wi.2.1.map eP)), tPl wi.2.2.1 wi.2.2.2]) rfl (ev_var 2) ev_int)) ?_
  refine sw_set 4 nd_law (T := tWo K wi) (EvD.g (ev_callD (P := pMade K) wi (cb_L_made T) hr (by decide) hw (ea1 (ev_var 2)))) ?_
  refine @sw_setE0 _ _ _ _ _ _ _ _ _ Nat (fun n : Nat => n ≤ 58) (fun n : Nat => dat (.int (n : Int))) 5 nd_law ?a ?k rfl (Or.inl rfl) ?s (Or.inl rfl)
  case a => exact @ev_ints _ _ _ _ _ _ _ _ [1, 2, 3, 4, 5, 6, 7, 8, 9, 2, 20, 58] (.cons (.cons (.cons (.cons (.cons (.cons (.cons (.cons (.cons (.cons (.cons (.cons .nil)))))))))))) (by decide) (by decide) (ev_take (n := 12) T hz hr (by decide) (by decide) (by decide) (ev_var 1) ev_int) fun _ _ => rfl
  case s => rfl
  intro m hm
  refine sw_setE 6 nd_law (P := fun hs : List Deed => HRun wi hs m) (R := fun hs => dat (eH hs)) (EvD.g (ev_drawn T wi m hz hr (by decide) hw (by omega) (ev_var 1) (ev_var 3) (ev_var 5))) fun hs hh => ?_
  refine sw_setE 7 nd_law (P := fun us : List Deed => HAny us 10) (R := fun us => dat (eH us)) (EvD.g (ev_callS (P := pNearH) (Ts := [tPl wi.2.2.1 wi.2.2.2, tEx (fun n : Nat => n ≤ 9) fun n => dat (.int (n : Int))]) hz (cb_L_near_history T) hr (by decide) (ea_cons (ev_var 1) (ea2 (ev_var 3) (ev_nix 6 (ns := [0, 1, 2, 3, 5, 9]) rfl (by decide) (ev_lst (ea_cons ev_int (ea_cons ev_int (ea_cons ev_int (ea_cons ev_int (ea2 ev_int ev_int))))) (by show 6 ≤ 1000; decide)) (ev_take (n := 6) T hz hr (by decide) (by decide) (by decide) (ev_var 1) ev_int)))) fun G vs r => ?_)) fun us hu => ?_
  · obtain ⟨v, x, rfl, t1, n, hn, t2⟩ := reps2 r
    exact ⟨(wi, n), ⟨hw, by show n ≤ 50; omega⟩, .cons t1 (.cons t2 .nil), fun v G' ⟨q, hq, t⟩ => ⟨q, ⟨by have h1 : q.length ≤ n + 1 := hq.len; omega, hq.all⟩, t⟩⟩
  have hok := hh.ok hw (by omega)
  have hsl : hs.length ≤ 58 := by have := hh.len; omega
  have hrun := hh.run
  have uok := hu.ok (by decide)
  have to := thrOk hw hok hrun
  refine sw_for0 (J := [8]) (g := gName 8) [hs, us, hs.reverse, hs.take 9] (fun h => dat (eH h)) (slots N_law [some (tSq K cells), some (tRaw (.ref st)), some (tSk wi), some (tPl wi.2.2.1 wi.2.2.2), some (tWo K wi), none, some (dat (eH hs)), some (dat (eH us))]) (fun h => (slots N_law [some (tSq K cells), some (tRaw (.ref st)), some (tSk wi), some (tPl wi.2.2.1 wi.2.2.2), some (tWo K wi), none, some (dat (eH hs)), some (dat (eH us))]).set 8 (some (dat (eH h)))) PassesOwn.never rfl
    (ei_tupA [hs, us, hs.reverse, hs.take 9] (fun h => dat (eH h)) (ev_tup (ea_cons (ev_var 6) (ea_cons (ev_var 7) (ea2 (ev_revH (ev_var 6)) (ev_headH (m := 9) (ev_var 6) ev_int)))) (by show 4 ≤ 1000; decide))) (pg_name nd_law rfl (Or.inl rfl)) (fun h => tr_name 8) (by repeat (first | exact Wk.nil | apply Wk.cons | apply Wk.no)) (fun q m => nomatch m) (fun ys h zs e => ?_) ?_
  · have mh : h ∈ [hs, us, hs.reverse, hs.take 9] := by rw [e]; exact List.mem_append_right _ List.mem_cons_self
    have hx : HOk h := by
      simp only [List.mem_cons, List.not_mem_nil, or_false] at mh
      rcases mh with rfl | rfl | rfl | rfl
      · exact hok
      · exact uok
      · exact hok_of hok (by rw [List.length_reverse]; omega) fun t mt => List.mem_reverse.mp mt
      · exact hok_of hok (by rw [List.length_take]; omega) fun t mt => List.mem_of_mem_take mt
    refine sw_not (EvB.g (eb_notV (p := true) (eb_val (ev_callD (P := pHolds) (wi, h) (cb_L_holds T) hr (by decide) ⟨hw, hx⟩ (ea2 (ev_var 2) (ev_var 8)))))) ?_
    exact sw_nil ⟨by repeat (first | exact Wk.nil | apply Wk.cons | apply Wk.no), rfl⟩
  refine sw_setO 9 nd_law ef_nil ?_
  refine sw_forSX (S := List Part) (J := [10, 11]) (g := g2 K 10 11) (P := fun ps : List Part => ∃ rs, (ps ++ rs).Perm (prts wi hs)) (fun ps => ps) (fun p => tT [dat (eC p.1), dat (eH p.2)]) (fun ps ys s => s = ys) (fun _ => slots N_law [some (tSq K cells), some (tRaw (.ref st)), some (tSk wi), some (tPl wi.2.2.1 wi.2.2.2), some (tWo K wi), none, some (dat (eH hs)), some (dat (eH us))]) (fun s => [(9, none, cL ((s.flatMap fun p => p.2).map fun t => dat (eD t)))])
    (fun s p => ((slots N_law [some (tSq K cells), some (tRaw (.ref st)), some (tSk wi), some (tPl wi.2.2.1 wi.2.2.2), some (tWo K wi), none, some (dat (eH hs)), some (dat (eH us))]).set 10 (some (dat (eC p.1)))).set 11 (some (dat (eH p.2)))) PassesOwn.never rfl
    (eix_mono (eix_list (xs := fun ps => ps) (F := fun p => dat (ePart p)) (EvD.imp (ev_callSD (P := pSome) (.lst ((prts wi hs).map ePart), 42) hz (cb_L_some T) hr (by decide) ⟨?_, by show 42 ≤ 500; decide⟩ (ea_cons (ev_var 1) (ea2 (ev_callD (P := pLParts) (wi, thr (cr0 wi.2.2.2) hs) (cb_L_parts T) hr (by decide) to (ea2 (ev_var 3) (ev_callD (P := pLTok) (wi, hs) (cb_L_tokens T) hr (by decide) ⟨hw, hok, hrun⟩ (ea2 (ev_var 3) (ev_var 6))))) ev_int))) fun v G t => ?_)) fun _ _ _ _ _ _ t => dat_tuple.mp t)
    (pg_tup rfl (pgs_cons (pg_name nd_law rfl (Or.inl rfl)) (pgs_cons (pg_name nd_law rfl (Or.inl rfl)) pgs_nil))) (fun s p => tr_tup2 10 11) (fun s q m => by rw [List.mem_singleton.mp m]; show (9 : Nat) ∉ [10, 11]; decide) (fun ps hps => ⟨[], rfl, by repeat (first | exact Wk.nil | apply Wk.cons | apply Wk.no), rfl⟩) (fun ps hps ys p qs s e hs2 => ?_) fun ps hps s hs2 => ?_
  · show ((prts wi hs).map ePart).length ≤ 500
    rw [List.length_map]
    have := to.ps.len
    show (parts wi.2.2.2 (thr (cr0 wi.2.2.2) hs)).length ≤ 500
    omega
  · obtain ⟨xs, ⟨⟨r, hp1⟩, _⟩, t⟩ := t
    obtain ⟨cs, rs, rfl, _, hp2⟩ := perm_codes ePart_inj hp1
    refine ⟨cs, ⟨rs, hp2⟩, ?_⟩
    have t := dat_list.mp t
    rw [List.map_map] at t
    exact t
  · subst hs2
    obtain ⟨rs, hps⟩ := hps
    have hU := some_thr to hps
    have hlen := hU.h.len
    rw [e, List.flatMap_append, List.flatMap_cons, List.length_append, List.length_append] at hlen
    refine sw_ext (Us := p.2.map fun t => dat (eD t)) (EvG.drop (EvD.g (eH_toL (ev_var 11)))) ?_ ?_
    · rw [List.length_map, List.length_map]
      omega
    · refine sw_nil ⟨s ++ [p], rfl, by repeat (first | exact Wk.nil | apply Wk.cons | apply Wk.no), ?_⟩
      show _ = [((9 : Nat), (none : Option Addr), cL (((s ++ [p]).flatMap fun p => p.2).map fun t => dat (eD t)))]
      rw [List.flatMap_append, List.map_append, List.flatMap_singleton]
  · subst hs2
    obtain ⟨rs, hps⟩ := hps
    have hU := some_thr to hps
    generalize s.flatMap (fun p => p.2) = U at hU
    refine sw_freeze (sw_sub 9 rfl (U := dat (eH U)) (fun v G h => eLf_of (f := eD) (cL_ty.mp h)) ?_)
    refine sw_setE 12 nd_law (P := fun j : Nat => j < max 1 hs.length) (R := fun j => dat (.int (j : Int))) (EvD.g (ev_callSD (P := pTake) hs.length hz (cb_L_take T) hr (by decide) (by show hs.length ≤ 1000; omega) (ea2 (ev_var 1) (lenH T.len_ (ev_var 6))))) fun at0 hat => ?_
    have hc1 := cutG_one (xs := hs) (n := at0)
    refine sw_setLc1 (cutG hs (some (at0 : Int)) (some ((at0 : Int) + 1))) (fun t => dat (eD t)) (fun _ => true) (fun t => dat (eD (turn t))) 13 16 rfl nd_law (ei_listA (cutG hs (some (at0 : Int)) (some ((at0 : Int) + 1))) (fun t => dat (eD t)) (eH_toL (ev_slH (ev_var 6) (eo_some (ev_var 12)) (eo_some (ev_add (ev_var 12) ev_int))))) (blkOk_by (N := N_law) (sc := defScope s_law) (by decide +kernel)) (fun _ _ _ _ _ => pg_name nd_law rfl (Or.inl rfl)) (fun t m _ _ _ _ _ => et_nil)
      (fun t m _ _ _ _ _ _ => ev_tupD (ds := [.str t.2.1, .str t.1, .int (t.2.2 : Int)]) (ea_cons (ev_ixTd (ds := [.str t.1, .str t.2.1, .int (t.2.2 : Int)]) (i := 1) rfl (ev_var 16) ev_int) (ea2 (ev_ixTd (ds := [.str t.1, .str t.2.1, .int (t.2.2 : Int)]) (i := 0) rfl (ev_var 16) ev_int) (ev_ixTd (ds := [.str t.1, .str t.2.1, .int (t.2.2 : Int)]) (i := 2) rfl (ev_var 16) ev_int))) (by show 3 ≤ 1000; decide)) (by omega) ?_
    rw [map_all]
    have hcm : ∀ t ∈ cutG hs (some (at0 : Int)) (some ((at0 : Int) + 1)), t ∈ hs := fun t mt => cutG_mem mt
    generalize cutG hs (some (at0 : Int)) (some ((at0 : Int) + 1)) = cut at hc1 hcm
    have nok := near_ok (i := wi) hok hsl uok hU hat hc1 hcm
    have h16 : (cut.map turn).length ≤ 1 := by rw [List.length_map]; exact hc1
    refine sw_sub 13 rfl (U := dat (eH (cut.map turn))) (fun v G h => ?_) ?_
    · have e : (cut.map fun t => dat (eD (turn t))) = (cut.map turn).map fun t => dat (eD t) := by rw [List.map_map]; rfl
      rw [e] at h
      exact eLf_of (f := eD) h
    generalize cut.map turn = tu at nok h16
    refine sw_set 14 nd_law (T := tL ((near1 wi hs us tu U at0).map fun h => dat (eH h))) (EvD.g (ev_lst (ea_cons (EvD.imp (EvG.d (efL (ef_call (P := pHistory K) (wi, U) (cb_history_of T) hr (by decide) hU (ga_cons (EvD.g (ev_var 4)) (ga_cons (EvD.g (ev_var 9)) ga_nil))))) fun v G t => eLf_of (f := eD) t) (ea_cons (ev_catH ?_ (ev_catH ?_ (ev_headH (ev_var 6) (ev_var 12)) (ev_var 13)) (ev_tailH (m := at0 + 1) (i := (at0 : Int) + 1) (by omega) (ev_var 6) (ev_add (ev_var 12) ev_int))) (ea2 (ev_catH ?_ (ev_var 6) (ev_twiceH ?_ (ev_lastH (ev_var 6)) ev_int)) (ev_revH (ev_var 6))))) (by show 4 ≤ 1000; decide))) ?_
    · rw [List.length_append, List.length_take, List.length_drop]
      omega
    · rw [List.length_take]
      omega
    · rw [List.length_append, List.length_drop]
      omega
    · rw [List.length_drop]
      omega
    refine sw_set 14 nd_law (T := tL ((near1 wi hs us tu U at0 ++ near2 hs us at0).map fun h => dat (eH h))) (EvD.g (EvD.imp (ev_catL (Ts := (near1 wi hs us tu U at0).map fun h => dat (eH h)) (Us := (near2 hs us at0).map fun h => dat (eH h)) (by show 4 + 4 ≤ 1000; decide) (ev_var 14) (ev_lst (ea_cons (ev_catH ?_ (ev_headH (ev_var 6) (ev_var 12)) (ev_tailH (m := at0 + 1) (i := (at0 : Int) + 1) (by omega) (ev_var 6) (ev_add (ev_var 12) ev_int))) (ea_cons (ev_catH ?_ (ev_var 6) (ev_lastH (ev_var 6))) (ea2 (ev_var 7) (EvD.imp (ev_listL T.list_ (eH_toL (ev_var 6))) fun v G t => eLf_of (f := eD) t)))) (by show 4 ≤ 1000; decide))) fun v G t => by rw [← List.map_append] at t; exact t)) ?_
    · rw [List.length_take, List.length_drop]
      omega
    · rw [List.length_drop]
      omega
    generalize near1 wi hs us tu U at0 ++ near2 hs us at0 = L at nok
    refine sw_for0 (J := [8]) (g := gName 8) (L.take (8 - min 5 (hs.length / 4))) (fun h => dat (eH h)) (slots N_law [some (tSq K cells), some (tRaw (.ref st)), some (tSk wi), some (tPl wi.2.2.1 wi.2.2.2), some (tWo K wi), none, some (dat (eH hs)), some (dat (eH us))]) (fun h => (slots N_law [some (tSq K cells), some (tRaw (.ref st)), some (tSk wi), some (tPl wi.2.2.1 wi.2.2.2), some (tWo K wi), none, some (dat (eH hs)), some (dat (eH us))]).set 8 (some (dat (eH h)))) PassesOwn.never rfl
      (ei_listA (L.take (8 - min 5 (hs.length / 4))) (fun h => dat (eH h)) (EvD.imp (ev_slL (Ts := L.map fun h => dat (eH h)) (j := some ((8 - min 5 (hs.length / 4) : Nat) : Int)) (ev_var 14) eo_none (eo_some (EvD.imp (ev_sub ev_int (ev_min2 rfl T.min_ ev_int (ev_fdiv ⟨by decide, by decide⟩ (lenH T.len_ (ev_var 6)) ev_int))) fun v G t => ?_))) fun v G t => by rw [cut_take, ← List.map_take] at t; exact t)) (pg_name nd_law rfl (Or.inl rfl)) (fun h => tr_name 8) (by repeat (first | exact Wk.nil | apply Wk.cons | apply Wk.no)) (fun q m => nomatch m) (fun ys h zs e => ?_) ?_
    · have e : (8 : Int) - (if (hs.length : Int) / 4 < 5 then (hs.length : Int) / 4 else 5) = ((8 - min 5 (hs.length / 4) : Nat) : Int) := by split <;> omega
      rw [e] at t
      exact t
    · have hx : HOk h := nok h (List.mem_of_mem_take (by rw [e]; exact List.mem_append_right _ List.mem_cons_self))
      refine sw_not (EvB.g (EvW.eb (ew_or (p := false) (q' := false) (eb_notV (p := true) (eb_val (ev_callD (P := pPair) (wi, hs, h) (cb_L_pair_told T) hr (by decide) ⟨hw, hok, hx⟩ (ea_cons (ev_var 2) (ea2 (ev_var 6) (ev_var 8)))))) fun _ => ew_or1 (eb_notV (p := true) (eb_val (ev_callD (P := pPair) (wi, us, h) (cb_L_pair_told T) hr (by decide) ⟨hw, uok, hx⟩ (ea_cons (ev_var 2) (ea2 (ev_var 7) (ev_var 8))))))))) ?_
      exact sw_nil ⟨by repeat (first | exact Wk.nil | apply Wk.cons | apply Wk.no), rfl⟩
    · refine sw_setE 15 nd_law (P := BadH) (R := tHi) (EvD.g (ev_callS (P := pNoHist) (Ts := [dat (eH hs), tDeed]) hz (cb_L_no_history T) hr (by decide) (ea_cons (ev_var 1) (ea2 (ev_var 6) (ev_callSD (P := pNearD) wi hz (cb_L_near_deed T) hr (by decide) hw (ea2 (ev_var 1) (ev_var 3))))) fun G vs r => ?_)) fun o ho => ?_
      · obtain ⟨v, x, rfl, t1, t, ht, t2⟩ := reps2 r
        exact ⟨(hs, t), ⟨hok, ht⟩, .cons t1 (.cons t2 .nil), fun _ _ q => q⟩
      · exact sw_retT rfl (EvD.g (ev_alike T 1 (d := .list (erRow (.bad "history"))) (alD_row (er_scal _) (Nat.le_trans (er_len _) (by decide))) hr (by decide) (ev_callD (P := pErr K) (.nf wi (.bad o) (.bad "history")) (cb_L_error T) hr (by decide) ⟨⟨hw, ho⟩, rfl⟩ (ea_cons (ev_var 4) (ea_cons (ev_var 15) (ea2 (ev_lstD (ds := []) ea_nil (by show 0 ≤ 1000; decide)) ev_int)))) (ev_lstD (ds := erRow (.bad "history")) (ea2 ev_str ev_str) (by show 2 ≤ 1000; decide)))) rfl
end
end K37
end
section
set_option maxRecDepth 100000
set_option maxHeartbeats 4000000
/-! W35: the statement. -/
namespace K37
open PySem PySem.Spec PyProof.Rows L2
open Z
theorem law_facts {P : Program} {w : World} {K : PySem.W.Frag} {h : Heap} {mg : Str → Option Value} {f : Addr} (X : K.In h) (G : h.Ns mainGlobals mg) (hfa : mg ("law" : Str) = some (.ref f)) (c : SaysK K) :
    ∃ fd : FuncData, (∀ (s : Shared) (v : Value), BindsTo s fd ⟨[v], []⟩ [(("_law_script" : Str), v)]) ∧ ∀ base : Heap, K.In base → base.Ns mainGlobals mg → FnOk P w K mg base CX0 13 f fd ["_law_script"] (pLaw K).sp := by
  have T : Txt K mg := ⟨c, h, X, G⟩
  obtain ⟨f0, fd, hm, F⟩ := T.f_law
  have e := hfa.symm.trans hm
  cases e
  have b := FunD.bindsA (ps := ["_law_script"]) F bd_law
  exact ⟨fd, fun s v => b s [v] rfl, fun base _ _ => ok_law T F⟩
theorem law_said {K : PySem.W.Frag} {H : Hp} {a : Addr} {ns : List Int} (hl : ns.length ≤ 63) (hS : SqL K H a (ns.map V.int)) : (pLaw K).sp [.ref a] H (fun v _ => v = .bl true) fun _ _ _ => False :=
  ⟨ns, H, Nat.le_trans hl (by decide), Le.rfl' H, .cons ⟨a, rfl, hS⟩ .nil, fun v G' H' x t => Rp.bl_of t⟩
end K37
open PySem PySem.W PySem.Calls PyProof.Rows
theorem PySem.Challenge.cw_crossfarers_k37_normal_forms_holds : PySem.Challenge.rw_crossfarers_k37_normal_forms.Holds := by
  w_on; o_law
  refine HandSHeadRun.head_any (r := OpenLaw.row PySem.Challenge.rw_crossfarers_k37_normal_forms) (q := view (OpenLaw.row PySem.Challenge.rw_crossfarers_k37_normal_forms).prog [89]) (H := K37.hk) (ob := K37.ob) (M := 30000) (loose := K37.names) (d := HandSHeadRun.topDef (OpenLaw.row PySem.Challenge.rw_crossfarers_k37_normal_forms).prog 89) (kwd := []) K37.ob_eq
    (by kernel_rfl) (fun s => by kernel_rfl) K37.run (by kernel_rfl) (by kernel_rfl) (by kernel_rfl) (by rfl) (by first | assumption | decide +kernel) (by decide +kernel) ⟨rfl, rfl, rfl, rfl, rfl, by decide +kernel⟩ ?hw ?hc
  case hw => w_witness2
  case hc =>
    refine L2.walk_ofE (l := PySem.Challenge.rw_crossfarers_k37_normal_forms) (n := 63) (k := 13) (x := "_law_script") (CX := L2.CX0) rfl (by decide) (by kernel_rfl) ⟨rfl, by decide, by decide⟩ ?F (fun _ _ _ _ z => z)
    intro w mg fa h Y G hmg0
    obtain ⟨K, KX, c⟩ := Y
    have hmg : mg ("law" : PySem.Str) = some (.ref fa) := by
      have e : (HandSHeadRun.topDef (OpenLaw.row PySem.Challenge.rw_crossfarers_k37_normal_forms).prog 89).name = ("law" : PySem.Str) := by kernel_rfl
      rw [← e]
      exact hmg0
    obtain ⟨fd, hb, hF⟩ := K37.law_facts (P := (PySem.Challenge.rw_crossfarers_k37_normal_forms).prog) (w := w) KX G hmg c
    exact ⟨K, fd, (K37.pLaw K).sp, KX, hb, fun H a ns hl _ hS => K37.law_said hl hS, hF⟩
end
