import PyProof.Rows.All
import Wide.All
import OpenK.AllK
import Wide.FinOn
import KE.KStateDown
import HandS.Head0
import HandS.Head1
import HandS.Head2
import HandS.HeadEnd
import HandS.HeadHook1
import HandS.HeadHook2
import HandS.HeadHook3
import HandS.HeadHook4
import HandS.HeadWalk
import HandS.EndTab
import KE.GoesEnum
import KE.GoesNew
import HandS.ForMost
import HandS.Walk
import KE.KDictKeyed
import KE.GoesDict
import HandS.SetKeys
import HandS.TupAny
import KE.KLam
import KE.KSortKey
import HandS.Lambda
import HandS.SortKw
import KE.KExcSuper
import HandS.Exc
import HandS.ExcInit
import HandS.ExcOwn
import HandS.Sort
import HandS.Conv
import HandS.SetFor
import HandS.SortOrd
import HandS.SortRule
import PyProof.TupleOfSeq
import HandS.List
import HandS.Words
import HandS.WordsExc
import HandS.Defaults
import HandS.Flow
import HandS.Zip
import HandS.IsInst
import HandS.TupMul
import HandS.NoneIn
import HandS.CallRecv
import HandS.OwnEq
import HandS.SortInts
import HandS.Style
import HandS.TryOnly
import HandS.Codes
import HandS.Wide
import PySem.Challenge.RW_hourcards_k76_whole_plan_traps_by_own_se
section
set_option linter.all false
set_option maxRecDepth 100000
set_option maxHeartbeats 4000000
namespace Hc
open PySem PySem.Spec PyProof.Rows L2
/-! ### the text by places -/
def top (i : Nat) : Stmt := PySem.Challenge.pw_hourcards_k76_whole_plan_traps_by_own_se.main.body.getD i (.Pass ⟨0, 0, 0, 0⟩)
abbrev s_is_integer : Stmt := top 8
abbrev s_is_within : Stmt := top 9
abbrev s_is_pair : Stmt := top 10
abbrev s_are_ascending : Stmt := top 11
abbrev s_check_from : Stmt := top 12
abbrev s_are_roads : Stmt := top 19
abbrev s_are_counts : Stmt := top 20
abbrev s_is_road : Stmt := top 22
abbrev s_is_way : Stmt := top 23
abbrev s_is_letter : Stmt := top 27
abbrev s_are_letters : Stmt := top 28
abbrev s_are_hours : Stmt := top 29
abbrev s_earliest : Stmt := top 30
abbrev s_is_early : Stmt := top 31
abbrev s_is_full : Stmt := top 32
abbrev s_state_of : Stmt := top 35
abbrev s_is_lost : Stmt := top 36
abbrev s_ways_to_pick : Stmt := top 37
abbrev s_picks_by_road : Stmt := top 38
abbrev s_picks_of : Stmt := top 39
abbrev s_state_behind : Stmt := top 40
abbrev s_split_state : Stmt := top 43
abbrev s_both_lost : Stmt := top 44
abbrev s_are_plan_places : Stmt := top 47
abbrev s_is_plan : Stmt := top 48
abbrev s_check_plan : Stmt := top 49
abbrev s_plan_card : Stmt := top 50
abbrev s_plan_cards : Stmt := top 51
abbrev s_is_web_with_days : Stmt := top 52
abbrev s_early_cards : Stmt := top 53
abbrev s_is_plan_trap : Stmt := top 54
abbrev s_law_hand : Stmt := top 56
abbrev s_law_draw : Stmt := top 57
abbrev s_law_flag : Stmt := top 58
abbrev s_law_put : Stmt := top 59
abbrev s_law_early : Stmt := top 60
abbrev s_law_plan : Stmt := top 61
abbrev s_law_plan_card : Stmt := top 62
abbrev s_law_any_late : Stmt := top 63
abbrev s_law_passings : Stmt := top 64
abbrev s_law_led_on : Stmt := top 65
abbrev s_law_both_lost : Stmt := top 66
abbrev s_law_shorts : Stmt := top 67
abbrev s_law_made : Stmt := top 68
abbrev s_law_long : Stmt := top 69
abbrev s_law_days : Stmt := top 70
abbrev s_law : Stmt := top 71
abbrev s_BadWeb_init : Stmt := inClass (top 2) 0
abbrev s_BadDay_init : Stmt := inClass (top 3) 0
abbrev s_TooMany_init : Stmt := inClass (top 5) 0
abbrev s_Web_init : Stmt := inClass (top 21) 0
abbrev s_Web_keep : Stmt := inClass (top 21) 1
abbrev s_Web_eq : Stmt := inClass (top 21) 2
abbrev s_Day_init : Stmt := inClass (top 33) 0
abbrev s_Day_eq : Stmt := inClass (top 33) 1
abbrev s_Search_init : Stmt := inClass (top 41) 0
abbrev s_Search_can_save : Stmt := inClass (top 41) 1
abbrev s_Search_tried : Stmt := inClass (top 41) 2
abbrev s_Pair_init : Stmt := inClass (top 42) 0
abbrev s_Pair_both_saved : Stmt := inClass (top 42) 1
abbrev s_Pair_saved_behind : Stmt := inClass (top 42) 2
abbrev s_Pair_both_tried : Stmt := inClass (top 42) 3
end Hc
end

section
set_option Elab.async false
set_option linter.all false
set_option maxRecDepth 100000
set_option maxHeartbeats 0
/-! ## The head: what the top leaves -/
namespace Hc
open PySem PySem.Spec PyProof.Rows L2 LamX
def d0 : He.DefD := ⟨("is_integer", none), "is_integer", "is_integer", defArgs s_is_integer, defBody s_is_integer, defScope s_is_integer, [], []⟩
def d1 : He.DefD := ⟨("is_within", none), "is_within", "is_within", defArgs s_is_within, defBody s_is_within, defScope s_is_within, [], []⟩
def d2 : He.DefD := ⟨("is_pair", none), "is_pair", "is_pair", defArgs s_is_pair, defBody s_is_pair, defScope s_is_pair, [], []⟩
def d3 : He.DefD := ⟨("are_ascending", none), "are_ascending", "are_ascending", defArgs s_are_ascending, defBody s_are_ascending, defScope s_are_ascending, [], []⟩
def d4 : He.DefD := ⟨("check_from", none), "check_from", "check_from", defArgs s_check_from, defBody s_check_from, defScope s_check_from, [], []⟩
def d5 : He.DefD := ⟨("are_roads", none), "are_roads", "are_roads", defArgs s_are_roads, defBody s_are_roads, defScope s_are_roads, [], []⟩
def d6 : He.DefD := ⟨("are_counts", none), "are_counts", "are_counts", defArgs s_are_counts, defBody s_are_counts, defScope s_are_counts, [], []⟩
def d7 : He.DefD := ⟨("is_road", none), "is_road", "is_road", defArgs s_is_road, defBody s_is_road, defScope s_is_road, [], []⟩
def d8 : He.DefD := ⟨("is_way", none), "is_way", "is_way", defArgs s_is_way, defBody s_is_way, defScope s_is_way, [], []⟩
def d9 : He.DefD := ⟨("is_letter", none), "is_letter", "is_letter", defArgs s_is_letter, defBody s_is_letter, defScope s_is_letter, [], []⟩
def d10 : He.DefD := ⟨("are_letters", none), "are_letters", "are_letters", defArgs s_are_letters, defBody s_are_letters, defScope s_are_letters, [], []⟩
def d11 : He.DefD := ⟨("are_hours", none), "are_hours", "are_hours", defArgs s_are_hours, defBody s_are_hours, defScope s_are_hours, [], []⟩
def d12 : He.DefD := ⟨("earliest", none), "earliest", "earliest", defArgs s_earliest, defBody s_earliest, defScope s_earliest, [], []⟩
def d13 : He.DefD := ⟨("is_early", none), "is_early", "is_early", defArgs s_is_early, defBody s_is_early, defScope s_is_early, [], []⟩
def d14 : He.DefD := ⟨("is_full", none), "is_full", "is_full", defArgs s_is_full, defBody s_is_full, defScope s_is_full, [], []⟩
def d15 : He.DefD := ⟨("state_of", none), "state_of", "state_of", defArgs s_state_of, defBody s_state_of, defScope s_state_of, [], []⟩
def d16 : He.DefD := ⟨("is_lost", none), "is_lost", "is_lost", defArgs s_is_lost, defBody s_is_lost, defScope s_is_lost, [], []⟩
def d17 : He.DefD := ⟨("ways_to_pick", none), "ways_to_pick", "ways_to_pick", defArgs s_ways_to_pick, defBody s_ways_to_pick, defScope s_ways_to_pick, [], []⟩
def d18 : He.DefD := ⟨("picks_by_road", none), "picks_by_road", "picks_by_road", defArgs s_picks_by_road, defBody s_picks_by_road, defScope s_picks_by_road, [], []⟩
def d19 : He.DefD := ⟨("picks_of", none), "picks_of", "picks_of", defArgs s_picks_of, defBody s_picks_of, defScope s_picks_of, [], []⟩
def d20 : He.DefD := ⟨("state_behind", none), "state_behind", "state_behind", defArgs s_state_behind, defBody s_state_behind, defScope s_state_behind, [], []⟩
def d21 : He.DefD := ⟨("split_state", none), "split_state", "split_state", defArgs s_split_state, defBody s_split_state, defScope s_split_state, [], []⟩
def d22 : He.DefD := ⟨("both_lost", none), "both_lost", "both_lost", defArgs s_both_lost, defBody s_both_lost, defScope s_both_lost, [], []⟩
def d23 : He.DefD := ⟨("are_plan_places", none), "are_plan_places", "are_plan_places", defArgs s_are_plan_places, defBody s_are_plan_places, defScope s_are_plan_places, [], []⟩
def d24 : He.DefD := ⟨("is_plan", none), "is_plan", "is_plan", defArgs s_is_plan, defBody s_is_plan, defScope s_is_plan, [], []⟩
def d25 : He.DefD := ⟨("check_plan", none), "check_plan", "check_plan", defArgs s_check_plan, defBody s_check_plan, defScope s_check_plan, [], []⟩
def d26 : He.DefD := ⟨("plan_card", none), "plan_card", "plan_card", defArgs s_plan_card, defBody s_plan_card, defScope s_plan_card, [], []⟩
def d27 : He.DefD := ⟨("plan_cards", none), "plan_cards", "plan_cards", defArgs s_plan_cards, defBody s_plan_cards, defScope s_plan_cards, [], []⟩
def d28 : He.DefD := ⟨("is_web_with_days", none), "is_web_with_days", "is_web_with_days", defArgs s_is_web_with_days, defBody s_is_web_with_days, defScope s_is_web_with_days, [], []⟩
def d29 : He.DefD := ⟨("early_cards", none), "early_cards", "early_cards", defArgs s_early_cards, defBody s_early_cards, defScope s_early_cards, [], []⟩
def d30 : He.DefD := ⟨("is_plan_trap", none), "is_plan_trap", "is_plan_trap", defArgs s_is_plan_trap, defBody s_is_plan_trap, defScope s_is_plan_trap, [], []⟩
def d31 : He.DefD := ⟨("_law_hand", none), "_law_hand", "_law_hand", defArgs s_law_hand, defBody s_law_hand, defScope s_law_hand, [], []⟩
def d32 : He.DefD := ⟨("_law_draw", none), "_law_draw", "_law_draw", defArgs s_law_draw, defBody s_law_draw, defScope s_law_draw, [], []⟩
def d33 : He.DefD := ⟨("_law_flag", none), "_law_flag", "_law_flag", defArgs s_law_flag, defBody s_law_flag, defScope s_law_flag, [], []⟩
def d34 : He.DefD := ⟨("_law_put", none), "_law_put", "_law_put", defArgs s_law_put, defBody s_law_put, defScope s_law_put, [], []⟩
def d35 : He.DefD := ⟨("_law_early", none), "_law_early", "_law_early", defArgs s_law_early, defBody s_law_early, defScope s_law_early, [], []⟩
def d36 : He.DefD := ⟨("_law_plan", none), "_law_plan", "_law_plan", defArgs s_law_plan, defBody s_law_plan, defScope s_law_plan, [], []⟩
def d37 : He.DefD := ⟨("_law_plan_card", none), "_law_plan_card", "_law_plan_card", defArgs s_law_plan_card, defBody s_law_plan_card, defScope s_law_plan_card, [], []⟩
def d38 : He.DefD := ⟨("_law_any_late", none), "_law_any_late", "_law_any_late", defArgs s_law_any_late, defBody s_law_any_late, defScope s_law_any_late, [], []⟩
def d39 : He.DefD := ⟨("_law_passings", none), "_law_passings", "_law_passings", defArgs s_law_passings, defBody s_law_passings, defScope s_law_passings, [], []⟩
def d40 : He.DefD := ⟨("_law_led_on", none), "_law_led_on", "_law_led_on", defArgs s_law_led_on, defBody s_law_led_on, defScope s_law_led_on, [], []⟩
def d41 : He.DefD := ⟨("_law_both_lost", none), "_law_both_lost", "_law_both_lost", defArgs s_law_both_lost, defBody s_law_both_lost, defScope s_law_both_lost, [], []⟩
def d42 : He.DefD := ⟨("_law_shorts", none), "_law_shorts", "_law_shorts", defArgs s_law_shorts, defBody s_law_shorts, defScope s_law_shorts, [], []⟩
def d43 : He.DefD := ⟨("_law_made", none), "_law_made", "_law_made", defArgs s_law_made, defBody s_law_made, defScope s_law_made, [], []⟩
def d44 : He.DefD := ⟨("_law_long", none), "_law_long", "_law_long", defArgs s_law_long, defBody s_law_long, defScope s_law_long, [], []⟩
def d45 : He.DefD := ⟨("_law_days", none), "_law_days", "_law_days", defArgs s_law_days, defBody s_law_days, defScope s_law_days, [], []⟩
def d46 : He.DefD := ⟨("law", none), "law", "law", defArgs s_law, defBody s_law, defScope s_law, [], []⟩
def d47 : He.DefD := ⟨("Web", some "__init__"), "__init__", "Web.__init__", defArgs s_Web_init, defBody s_Web_init, defScope s_Web_init, [], []⟩
def d48 : He.DefD := ⟨("Web", some "keep"), "keep", "Web.keep", defArgs s_Web_keep, defBody s_Web_keep, defScope s_Web_keep, [], []⟩
def d49 : He.DefD := ⟨("Web", some "__eq__"), "__eq__", "Web.__eq__", defArgs s_Web_eq, defBody s_Web_eq, defScope s_Web_eq, [], []⟩
def d50 : He.DefD := ⟨("Day", some "__init__"), "__init__", "Day.__init__", defArgs s_Day_init, defBody s_Day_init, defScope s_Day_init, [], []⟩
def d51 : He.DefD := ⟨("Day", some "__eq__"), "__eq__", "Day.__eq__", defArgs s_Day_eq, defBody s_Day_eq, defScope s_Day_eq, [], []⟩
def d52 : He.DefD := ⟨("Search", some "__init__"), "__init__", "Search.__init__", defArgs s_Search_init, defBody s_Search_init, defScope s_Search_init, [], []⟩
def d53 : He.DefD := ⟨("Search", some "can_save"), "can_save", "Search.can_save", defArgs s_Search_can_save, defBody s_Search_can_save, defScope s_Search_can_save, [], []⟩
def d54 : He.DefD := ⟨("Search", some "tried"), "tried", "Search.tried", defArgs s_Search_tried, defBody s_Search_tried, defScope s_Search_tried, [], []⟩
def d55 : He.DefD := ⟨("Pair", some "__init__"), "__init__", "Pair.__init__", defArgs s_Pair_init, defBody s_Pair_init, defScope s_Pair_init, [], []⟩
def d56 : He.DefD := ⟨("Pair", some "both_saved"), "both_saved", "Pair.both_saved", defArgs s_Pair_both_saved, defBody s_Pair_both_saved, defScope s_Pair_both_saved, [], []⟩
def d57 : He.DefD := ⟨("Pair", some "saved_behind"), "saved_behind", "Pair.saved_behind", defArgs s_Pair_saved_behind, defBody s_Pair_saved_behind, defScope s_Pair_saved_behind, [], []⟩
def d58 : He.DefD := ⟨("Pair", some "both_tried"), "both_tried", "Pair.both_tried", defArgs s_Pair_both_tried, defBody s_Pair_both_tried, defScope s_Pair_both_tried, [], []⟩
def fn : List He.DefD := [d0, d1, d2, d3, d4, d5, d6, d7, d8, d9, d10, d11, d12, d13, d14, d15, d16, d17, d18, d19, d20, d21, d22, d23, d24, d25, d26, d27, d28, d29, d30, d31, d32, d33, d34, d35, d36, d37, d38, d39, d40, d41, d42, d43, d44, d45, d46, d47, d48, d49, d50, d51, d52, d53, d54, d55, d56, d57, d58]
def fa : List He.Fa := [.glo "is_integer", .glo "is_within", .glo "is_pair", .glo "are_ascending", .glo "check_from", .glo "are_roads", .glo "are_counts", .glo "is_road", .glo "is_way", .glo "is_letter", .glo "are_letters", .glo "are_hours", .glo "earliest", .glo "is_early", .glo "is_full", .glo "state_of", .glo "is_lost", .glo "ways_to_pick", .glo "picks_by_road", .glo "picks_of", .glo "state_behind", .glo "split_state", .glo "both_lost", .glo "are_plan_places", .glo "is_plan", .glo "check_plan", .glo "plan_card", .glo "plan_cards", .glo "is_web_with_days", .glo "early_cards", .glo "is_plan_trap", .glo "_law_hand", .glo "_law_draw", .glo "_law_flag", .glo "_law_put", .glo "_law_early", .glo "_law_plan", .glo "_law_plan_card", .glo "_law_any_late", .glo "_law_passings", .glo "_law_led_on", .glo "_law_both_lost", .glo "_law_shorts", .glo "_law_made", .glo "_law_long", .glo "_law_days", .glo "law", .glo "HourError", .glo "BadWeb", .glo "BadDay", .glo "NoNumber", .glo "TooMany", .glo "NoPlan", .glo "Web", .glo "Day", .glo "Search", .glo "Pair", .free "isinstance", .free "int", .free "bool", .free "tuple", .free "len", .free "range", .free "all", .free "any", .free "enumerate", .free "zip", .free "sum", .free "max", .free "min", .free "sorted", .free "list", .free "abs", .free "super", .int "MOST_HOUSES" 12, .int "MOST_ROADS" 24, .int "MOST_ROOMS" 3, .int "MOST_TIME" 3, .int "MOST_WAY" 8, .int "MOST_LETTERS" 60, .int "MOST_TICK" 1000000, .int "MOST_SEARCHED" 12, .cls "Web", .mkr "Web", .noat "Web" "houses", .noat "Web" "roads", .noat "Web" "rooms", .noat "Web" "times", .noat "Web" "kept_next", .noat "Web" "kept_leads", .meth "Web" "keep", .meth "Web" "__eq__", .cls "Day", .mkr "Day", .noat "Day" "web", .noat "Day" "letters", .noat "Day" "hours", .noat "Day" "kept_hours", .meth "Day" "__eq__", .cls "Search", .mkr "Search", .noat "Search" "web", .noat "Search" "known", .meth "Search" "can_save", .meth "Search" "tried", .cls "Pair", .mkr "Pair", .noat "Pair" "search", .noat "Pair" "later", .noat "Pair" "until", .noat "Pair" "seen", .meth "Pair" "both_saved", .meth "Pair" "saved_behind", .meth "Pair" "both_tried"]
def names1 : List PySem.Str := [("HourError" : PySem.Str), ("BadWeb" : PySem.Str), ("BadDay" : PySem.Str), ("NoNumber" : PySem.Str), ("TooMany" : PySem.Str), ("NoPlan" : PySem.Str), ("is_integer" : PySem.Str), ("is_within" : PySem.Str), ("is_pair" : PySem.Str), ("are_ascending" : PySem.Str), ("check_from" : PySem.Str), ("MOST_HOUSES" : PySem.Str), ("MOST_ROADS" : PySem.Str), ("MOST_ROOMS" : PySem.Str), ("MOST_TIME" : PySem.Str), ("MOST_WAY" : PySem.Str), ("are_roads" : PySem.Str), ("are_counts" : PySem.Str), ("Web" : PySem.Str), ("is_road" : PySem.Str), ("is_way" : PySem.Str), ("MOST_LETTERS" : PySem.Str), ("MOST_TICK" : PySem.Str), ("is_letter" : PySem.Str), ("are_letters" : PySem.Str), ("are_hours" : PySem.Str), ("earliest" : PySem.Str), ("is_early" : PySem.Str), ("is_full" : PySem.Str), ("Day" : PySem.Str), ("state_of" : PySem.Str), ("is_lost" : PySem.Str), ("ways_to_pick" : PySem.Str), ("picks_by_road" : PySem.Str), ("picks_of" : PySem.Str), ("state_behind" : PySem.Str)]
def names2 : List PySem.Str := [("Search" : PySem.Str), ("Pair" : PySem.Str), ("split_state" : PySem.Str), ("both_lost" : PySem.Str), ("MOST_SEARCHED" : PySem.Str), ("are_plan_places" : PySem.Str), ("is_plan" : PySem.Str), ("check_plan" : PySem.Str), ("plan_card" : PySem.Str), ("plan_cards" : PySem.Str), ("is_web_with_days" : PySem.Str), ("early_cards" : PySem.Str), ("is_plan_trap" : PySem.Str), ("_law_hand" : PySem.Str), ("_law_draw" : PySem.Str), ("_law_flag" : PySem.Str), ("_law_put" : PySem.Str), ("_law_early" : PySem.Str), ("_law_plan" : PySem.Str), ("_law_plan_card" : PySem.Str), ("_law_any_late" : PySem.Str), ("_law_passings" : PySem.Str), ("_law_led_on" : PySem.Str), ("_law_both_lost" : PySem.Str), ("_law_shorts" : PySem.Str), ("_law_made" : PySem.Str), ("_law_long" : PySem.Str), ("_law_days" : PySem.Str)]
-- fa: 0=.glo_"is_integer" 1=.glo_"is_within" 2=.glo_"is_pair" 3=.glo_"are_ascending" 4=.glo_"check_from" 5=.glo_"are_roads" 6=.glo_"are_counts" 7=.glo_"is_road" 8=.glo_"is_way" 9=.glo_"is_letter" 10=.glo_"are_letters" 11=.glo_"are_hours" 12=.glo_"earliest" 13=.glo_"is_early" 14=.glo_"is_full" 15=.glo_"state_of" 16=.glo_"is_lost" 17=.glo_"ways_to_pick" 18=.glo_"picks_by_road" 19=.glo_"picks_of" 20=.glo_"state_behind" 21=.glo_"split_state" 22=.glo_"both_lost" 23=.glo_"are_plan_places" 24=.glo_"is_plan" 25=.glo_"check_plan" 26=.glo_"plan_card" 27=.glo_"plan_cards" 28=.glo_"is_web_with_days" 29=.glo_"early_cards" 30=.glo_"is_plan_trap" 31=.glo_"_law_hand" 32=.glo_"_law_draw" 33=.glo_"_law_flag" 34=.glo_"_law_put" 35=.glo_"_law_early" 36=.glo_"_law_plan" 37=.glo_"_law_plan_card" 38=.glo_"_law_any_late" 39=.glo_"_law_passings" 40=.glo_"_law_led_on" 41=.glo_"_law_both_lost" 42=.glo_"_law_shorts" 43=.glo_"_law_made" 44=.glo_"_law_long" 45=.glo_"_law_days" 46=.glo_"law" 47=.glo_"HourError" 48=.glo_"BadWeb" 49=.glo_"BadDay" 50=.glo_"NoNumber" 51=.glo_"TooMany" 52=.glo_"NoPlan" 53=.glo_"Web" 54=.glo_"Day" 55=.glo_"Search" 56=.glo_"Pair" 57=.free_"isinstance" 58=.free_"int" 59=.free_"bool" 60=.free_"tuple" 61=.free_"len" 62=.free_"range" 63=.free_"all" 64=.free_"any" 65=.free_"enumerate" 66=.free_"zip" 67=.free_"sum" 68=.free_"max" 69=.free_"min" 70=.free_"sorted" 71=.free_"list" 72=.free_"abs" 73=.free_"super" 74=.int_"MOST_HOUSES"_12 75=.int_"MOST_ROADS"_24 76=.int_"MOST_ROOMS"_3 77=.int_"MOST_TIME"_3 78=.int_"MOST_WAY"_8 79=.int_"MOST_LETTERS"_60 80=.int_"MOST_TICK"_1000000 81=.int_"MOST_SEARCHED"_12 82=.cls_"Web" 83=.mkr_"Web" 84=.noat_"Web"_"houses" 85=.noat_"Web"_"roads" 86=.noat_"Web"_"rooms" 87=.noat_"Web"_"times" 88=.noat_"Web"_"kept_next" 89=.noat_"Web"_"kept_leads" 90=.meth_"Web"_"keep" 91=.meth_"Web"_"__eq__" 92=.cls_"Day" 93=.mkr_"Day" 94=.noat_"Day"_"web" 95=.noat_"Day"_"letters" 96=.noat_"Day"_"hours" 97=.noat_"Day"_"kept_hours" 98=.meth_"Day"_"__eq__" 99=.cls_"Search" 100=.mkr_"Search" 101=.noat_"Search"_"web" 102=.noat_"Search"_"known" 103=.meth_"Search"_"can_save" 104=.meth_"Search"_"tried" 105=.cls_"Pair" 106=.mkr_"Pair" 107=.noat_"Pair"_"search" 108=.noat_"Pair"_"later" 109=.noat_"Pair"_"until" 110=.noat_"Pair"_"seen" 111=.meth_"Pair"_"both_saved" 112=.meth_"Pair"_"saved_behind" 113=.meth_"Pair"_"both_tried"
-- fn: 0=is_integer 1=is_within 2=is_pair 3=are_ascending 4=check_from 5=are_roads 6=are_counts 7=is_road 8=is_way 9=is_letter 10=are_letters 11=are_hours 12=earliest 13=is_early 14=is_full 15=state_of 16=is_lost 17=ways_to_pick 18=picks_by_road 19=picks_of 20=state_behind 21=split_state 22=both_lost 23=are_plan_places 24=is_plan 25=check_plan 26=plan_card 27=plan_cards 28=is_web_with_days 29=early_cards 30=is_plan_trap 31=_law_hand 32=_law_draw 33=_law_flag 34=_law_put 35=_law_early 36=_law_plan 37=_law_plan_card 38=_law_any_late 39=_law_passings 40=_law_led_on 41=_law_both_lost 42=_law_shorts 43=_law_made 44=_law_long 45=_law_days 46=law 47=Web.__init__ 48=Web.keep 49=Web.__eq__ 50=Day.__init__ 51=Day.__eq__ 52=Search.__init__ 53=Search.can_save 54=Search.tried 55=Pair.__init__ 56=Pair.both_saved 57=Pair.saved_behind 58=Pair.both_tried
def names : List PySem.Str := names1 ++ names2
/-! ### what more is asked of the written part -/
def insB (K : PySem.W.Frag) (C : Addr) : Bool := He.eqO (PySem.W.findIn K (.ref C) "__class__") (some (some (.builtin "object.__class__"))) && (He.eqO (PySem.W.specialIn K (.builtin "object.__class__") "__get__") (some (some (.builtin "getset_descriptor.__get__"))) &&
  (decide (PySem.W.takesIn K (.builtin "object.__class__") = some true) && (decide (PySem.W.mroIn K C (.type "object") = some true) && decide (PySem.W.kitOne K (.ref C) (.ref C) = some true))))
def oexB (K : PySem.W.Frag) (C : Addr) : Bool := (match K.lookup C with
  | some ⟨.type "type", _, .cls cd, sl⟩ => (match cd.mro, sl.toList with
    | .ref C' :: bm, [_, _, _, _, some (.builtin n), _] => C' == C && (n == "ValueError.__new__" && (!cd.hasDel && (cd.hasDict && PySem.HandSPX.refsVE bm)))
    | _, _ => false)
  | _ => false) && (He.eqO (PySem.W.findIn K (.ref C) "__setattr__") (some (some (.builtin "object.__setattr__"))) && (decide (PySem.W.subIn K (.ref C) (.type "BaseException") = some true) && (decide (PySem.W.typeIn K (.ref C) = some (.type "type")) && PySem.W.keepIn K (.ref C))))
def supB (K : PySem.W.Frag) (D f : Addr) (file0 : Str) : Bool := (match K.lookup f with
  | some ⟨_, _, .func fd, _⟩ => (match fd.closure with
    | [(x, cc)] => x == "__class__" && (match K.lookup cc with
      | some ⟨_, _, .cell (some (.ref D')), _⟩ => D' == D
      | _ => false)
    | _ => false) && (PySem.W.codeIn K fd.code "BadDay.__init__" && (match fd.code with
    | .ref cda => (match K.lookup cda with
      | some ⟨_, _, .fields vs, _⟩ => (match (vs[2]? : Option Value) with
        | some (.str file _) => file0 == file
        | _ => false)
      | _ => false)
    | _ => false))
  | _ => false) && ((PySem.W.clsIn K D).isSome && (decide (PySem.W.mroIn K D (.ref D) = some true) && (He.eqO (PySem.W.ks_superIn K D D "__init__") (some (some (.builtin "ValueError.__init__"))) &&
  (decide (PySem.W.subIn K (.ref D) (.type "ValueError") = some true) && (He.eqO (PySem.W.nsIn K cStatics "thirdparty.any") (some none) && (He.eqO (PySem.W.findIn K (.ref D) "part") (some none) &&
  (He.eqO (PySem.W.findIn K (.ref D) "__init__") (some (some (.ref f))) && decide (PySem.W.typeIn K (.ref f) = some (.type "function")))))))))
abbrev bdAt : Str × Option Str := ("BadDay", some "__init__")
def PW : Program := PySem.Challenge.pw_hourcards_k76_whole_plan_traps_by_own_se
def exB (K : PySem.W.Frag) : Bool := insB K (He.ga K "Web") && (insB K (He.ga K "Day") && (oexB K (He.ga K "BadDay") && (supB K (He.ga K "BadDay") (He.fAd K bdAt) PW.main.file && decide (PySem.W.exmOne K (.ref (He.ga K "BadDay")) (.ref (He.ga K "BadDay")) = some true))))
/-! ### the Hook -/
abbrev Fn2 : Type := Option (Str × Str × Arguments × FuncBody × Scope × Addr × Addr × Value)
def fn2 (K : PySem.W.Frag) (p : Str × Option Str) : Fn2 := match K.lookup (He.fAd K p) with
  | some ⟨_, _, .func fd, _⟩ => some (fd.name, fd.qualname, fd.params, fd.body, fd.scope, fd.globals, fd.builtins, fd.defaults)
  | _ => none
def val2 : Fn2 := some ("__init__", "BadDay.__init__", defArgs s_BadDay_init, .stmts (defBody s_BadDay_init), defScope s_BadDay_init, mainGlobals, builtinsNs, .none)
def pbrAt : He.Defn := ("picks_by_road", none)
abbrev AlY : Type := He.AlD × Fn2 × Bool
def asY (g : Addr → Option Obj) : List Addr := cStatics :: He.asD g 5
def frY (g : Addr → Option Obj) : PySem.W.Frag := He.frT g (asY g)
def obsY (g : Addr → Option Obj) : AlY := (He.obsD fa fn (frY g), fn2 (frY g) bdAt, exB (frY g) && He.tabsB g [pbrAt] (frY g))
def valY : AlY := (He.valD fn, val2, true)
structure SaysY (h : Heap) (K : PySem.W.Frag) : Prop where
  d : He.SaysD fa fn K
  bd : fn2 K bdAt = val2
  more : exB K = true
  hd : PySem.W.codeHdIn K (He.cT K pbrAt).1 (He.cT K pbrAt).2 = true
  out : K.lookup (He.cT K pbrAt).2 = none
  empty : h.get? (He.cT K pbrAt).2 = some { cls := .none, data := .fields #[] }
theorem saysY_of {h : Heap} (e : obsY h.get? = valY) : SaysY h (frY h.get?) := by
  have e1 : He.obsD fa fn (frY h.get?) = He.valD fn := congrArg (fun z : AlY => z.1) e
  have e2 : fn2 (frY h.get?) bdAt = val2 := congrArg (fun z : AlY => z.2.1) e
  have e3 : (exB (frY h.get?) && He.tabsB h.get? [pbrAt] (frY h.get?)) = true := congrArg (fun z : AlY => z.2.2) e
  obtain ⟨h1, h2⟩ := He.ba e3
  obtain ⟨h3, h4⟩ := He.ba (List.all_eq_true.mp h2 pbrAt (List.mem_singleton.mpr rfl))
  cases q : h.get? (He.cT (frY h.get?) pbrAt).2 with
  | none =>
    rw [q] at h4
    cases h4
  | some o =>
    rw [q] at h4
    exact ⟨e1, e2, h1, h3, He.frT_none q h4, by rw [q, He.emptyTab_eq h4]⟩
def hookY : PySem.W.Hook where
  α := AlY
  obs := fun s => obsY s.heap.get?
  val := fun _ => valY
  says := fun _ h => ∃ K : PySem.W.Frag, K.In h ∧ SaysY h K
  of := fun _ _ e => ⟨_, He.frT_in, saysY_of e⟩
  keeps := fun _ _ _ ⟨K, hK, c⟩ k => ⟨K, PySem.W.Frag.In.keeps hK k, ⟨c.d, c.bd, c.more, c.hd, c.out, k _ _ c.empty⟩⟩
theorem obsY_eq {g : Addr → Option Obj} {s : Shared} (h : ∀ a, g a = s.heap.get? a) : obsY g = hookY.obs s := by
  have e : g = s.heap.get? := funext h
  rw [e] <;> rfl
abbrev RR : PySem.W.OpenRow := PySem.W.OpenLaw.row PySem.Challenge.rw_hourcards_k76_whole_plan_traps_by_own_se
def obY (s : PySem.W.SharedT) : AlY := obsY (HandSHeadRun.getT s)
theorem obY_eq (s : PySem.W.SharedT) : obY s = hookY.obs s.abs := obsY_eq (HandSHeadRun.getT_eq s)
theorem run (w : World) : HandSHeadRun.RunEq RR (PySem.W.view RR.prog [71]) hookY obY 8000 names w := by
  intro os
  kernel_rfl
end Hc
end

section
/-! Plain mathematics of passing letters: states, steps, what can be saved, exchange. -/
set_option autoImplicit false
set_option linter.all false
namespace Hc

/-- a letter on its way: the roads that are left, the tick from which it may be passed, the last tick at which it may be home -/
structure Lt where
  rest : List Nat
  ready : Int
  limit : Int
  deriving DecidableEq, Inhabited

section
variable (tm : Nat → Int) (rm : Nat → Nat)

def tsum : List Nat → Int
  | [] => 0
  | r :: l => tm r + tsum l
def due (t : Int) (x : Lt) : Int := max x.ready t + tsum tm x.rest.dropLast
def LateL (t : Int) (x : Lt) : Prop := x.rest ≠ [] ∧ x.limit < due tm t x
def Late (t : Int) (S : List Lt) : Prop := ∃ x ∈ S, LateL tm t x
def stp (t : Int) (p : Bool × Lt) : Lt :=
  if p.1 then ⟨p.2.rest.tail, t + tm (p.2.rest.headD 0), p.2.limit⟩ else ⟨p.2.rest, max p.2.ready (t + 1), p.2.limit⟩
def mkd (r : Nat) (p : Bool × Lt) : Bool := p.1 && decide (p.2.rest.head? = some r)
def cnt (r : Nat) (P : List (Bool × Lt)) : Nat := P.countP (mkd r)
def Okp (t : Int) (P : List (Bool × Lt)) : Prop :=
  (∀ p ∈ P, p.1 = true → p.2.rest ≠ [] ∧ p.2.ready ≤ t) ∧ ∀ r, cnt r P ≤ rm r
def Home (S : List Lt) : Prop := ∀ x ∈ S, x.rest = []

inductive Sav : Int → List Lt → Prop
  | done {t S} : Home S → Sav t S
  | step {t S} (P : List (Bool × Lt)) : ¬ Late tm t S → P.map (·.2) = S → Okp rm t P → Sav (t + 1) (P.map (stp tm t)) → Sav t S

inductive Both (u : Int) (G : List Lt → Prop) : Int → List Lt → Prop
  | fin {S} : G S → Both u G (u + 1) S
  | step {t S} (P : List (Bool × Lt)) : t ≤ u → ¬ Late tm t S → P.map (·.2) = S → Okp rm t P → Both u G (t + 1) (P.map (stp tm t)) → Both u G t S

/-- x is ahead of x', as places -/
def Ahead (t : Int) (x x' : Lt) : Prop := ∃ pre, x'.rest = pre ++ x.rest ∧ max x.ready t ≤ max x'.ready t + tsum tm pre

inductive R (tm : Nat → Int) : Int → List Lt → List Lt → Prop
  | perm {t S S'} : S.Perm S' → R tm t S S'
  | imp {t x x' T} : Ahead tm t x x' → x'.limit ≤ x.limit → R tm t (x :: T) (x' :: T)
  | swap {t x y T} : Ahead tm t x y → x.limit ≤ y.limit →
      R tm t (x :: y :: T) (⟨x.rest, x.ready, y.limit⟩ :: ⟨y.rest, y.ready, x.limit⟩ :: T)
  | trans {t S S1 S'} : R tm t S S1 → R tm t S1 S' → R tm t S S'
  | drop {t x T} : x.rest = [] → R tm t T (x :: T)
  | add {t x T} : x.rest = [] → R tm t (x :: T) T
end

section
variable {tm : Nat → Int} {rm : Nat → Nat}

theorem tsum_append (a b : List Nat) : tsum tm (a ++ b) = tsum tm a + tsum tm b := by
  induction a with
  | nil => simp [tsum]
  | cons r l ih => simp only [List.cons_append, tsum, ih]; omega
theorem tsum_nonneg (h1 : ∀ r, 1 ≤ tm r) (a : List Nat) : 0 ≤ tsum tm a := by
  induction a with
  | nil => simp [tsum]
  | cons r l ih => have := h1 r; simp only [tsum]; omega
theorem tsum_tail (a : List Nat) (h : a ≠ []) : tsum tm a = tm (a.headD 0) + tsum tm a.tail := by
  cases a with
  | nil => exact absurd rfl h
  | cons r l => simp [tsum]

theorem R.rfl' {t : Int} {S : List Lt} : R tm t S S := .perm (.refl _)
theorem R.cons {t : Int} {S S' : List Lt} (x : Lt) (h : R tm t S S') : R tm t (x :: S) (x :: S') := by
  induction h with
  | perm p => exact .perm (.cons _ p)
  | @imp x0 x' T a l =>
    exact .trans (.perm (.swap _ _ _)) (.trans (.imp a l) (.perm (.swap _ _ _)))
  | @swap x0 y T a l =>
    refine .trans (.perm ?_) (.trans (.swap (T := x :: T) a l) (.perm ?_))
    · exact (List.Perm.swap _ _ _).trans (.cons _ (.swap _ _ _))
    · exact (List.Perm.cons _ (.swap _ _ _)).trans (.swap _ _ _)
  | trans _ _ i j => exact .trans i j
  | @drop x0 T e => exact .trans (.drop (x := x0) e) (.perm (.swap _ _ _))
  | @add x0 T e => exact .trans (.perm (.swap _ _ _)) (.add e)
theorem R.append_left {t : Int} {S S' : List Lt} (U : List Lt) (h : R tm t S S') : R tm t (U ++ S) (U ++ S') := by
  induction U with
  | nil => exact h
  | cons u U ih => exact ih.cons u
theorem R.append_right {t : Int} {S S' : List Lt} (U : List Lt) (h : R tm t S S') : R tm t (S ++ U) (S' ++ U) :=
  .trans (.perm List.perm_append_comm) (.trans (h.append_left U) (.perm List.perm_append_comm))
theorem R.append {t : Int} {S S' U U' : List Lt} (h : R tm t S S') (g : R tm t U U') : R tm t (S ++ U) (S' ++ U') :=
  .trans (h.append_right U) (g.append_left S')

/-- a permutation of images lifts -/
theorem perm_lift {α β : Type} (f : α → β) {S S' : List β} (p : S.Perm S') : ∀ P' : List α, P'.map f = S' → ∃ P : List α, P.map f = S ∧ P.Perm P' := by
  induction p with
  | nil => intro P' e; exact ⟨P', e, .refl _⟩
  | cons x _ ih =>
    intro P' e
    cases P' with
    | nil => cases e
    | cons a P' =>
      rw [List.map_cons] at e
      injection e with e1 e2
      obtain ⟨P, h1, h2⟩ := ih P' e2
      exact ⟨a :: P, by rw [List.map_cons, e1, h1], .cons _ h2⟩
  | swap x y l =>
    intro P' e
    match P', e with
    | a :: b :: Q, e =>
      rw [List.map_cons, List.map_cons] at e
      injection e with e1 e2
      injection e2 with e2 e3
      exact ⟨b :: a :: Q, by rw [List.map_cons, List.map_cons, e1, e2, e3], .swap _ _ _⟩
  | trans _ _ i j =>
    intro P' e
    obtain ⟨P1, h1, h2⟩ := j P' e
    obtain ⟨P, h3, h4⟩ := i P1 h1
    exact ⟨P, h3, h4.trans h2⟩

theorem Okp.perm {t : Int} {P P' : List (Bool × Lt)} (p : P.Perm P') (h : Okp rm t P') : Okp rm t P :=
  ⟨fun q hq => h.1 q (p.mem_iff.mp hq), fun r => by
    have e : cnt r P = cnt r P' := p.countP_eq _
    rw [e]; exact h.2 r⟩
theorem cnt_cons (r : Nat) (p : Bool × Lt) (P : List (Bool × Lt)) : cnt r (p :: P) = (if mkd r p = true then 1 else 0) + cnt r P := by
  unfold cnt
  rw [List.countP_cons]
  omega
theorem mkd_false (r : Nat) (x : Lt) : mkd r (false, x) = false := rfl
theorem Okp.cons_iff {t : Int} {p : Bool × Lt} {P : List (Bool × Lt)} : Okp rm t (p :: P) ↔ (p.1 = true → p.2.rest ≠ [] ∧ p.2.ready ≤ t) ∧ (∀ q ∈ P, q.1 = true → q.2.rest ≠ [] ∧ q.2.ready ≤ t) ∧ ∀ r, (if mkd r p = true then 1 else 0) + cnt r P ≤ rm r := by
  unfold Okp
  constructor
  · rintro ⟨a, b⟩
    refine ⟨a p (List.mem_cons_self ..), fun q hq => a q (List.mem_cons_of_mem _ hq), fun r => ?_⟩
    have := b r; rwa [cnt_cons] at this
  · rintro ⟨a, b, c⟩
    refine ⟨fun q hq => ?_, fun r => ?_⟩
    · rcases List.mem_cons.mp hq with e | hq
      · subst e; exact a
      · exact b q hq
    · rw [cnt_cons]; exact c r

theorem due_le {t : Int} {x x' : Lt} (h : Ahead tm t x x') (hx : x.rest ≠ []) : due tm t x ≤ due tm t x' := by
  obtain ⟨pre, e, l⟩ := h
  unfold due
  rw [e, List.dropLast_append_of_ne_nil hx, tsum_append]
  omega

/-- a step of the one behind: the one ahead keeps ahead by standing still, or by going as well -/
theorem Ahead.still {t : Int} (h1 : ∀ r, 1 ≤ tm r) {x x' : Lt} (h : Ahead tm t x x') (b : Bool) (hb : b = true → x'.rest ≠ [] ∧ x'.ready ≤ t) (hne : b = true → x'.rest ≠ x.rest) :
    Ahead tm (t + 1) (stp tm t (false, x)) (stp tm t (b, x')) := by
  obtain ⟨pre, e, l⟩ := h
  cases b with
  | false =>
    refine ⟨pre, e, ?_⟩
    show max (max x.ready (t + 1)) (t + 1) ≤ max (max x'.ready (t + 1)) (t + 1) + tsum tm pre
    have := tsum_nonneg h1 pre
    omega
  | true =>
    obtain ⟨_, hr⟩ := hb rfl
    have hp : pre ≠ [] := fun z => hne rfl (by rw [e, z]; rfl)
    refine ⟨pre.tail, ?_, ?_⟩
    · show x'.rest.tail = pre.tail ++ x.rest
      rw [e]; cases pre with
      | nil => exact absurd rfl hp
      | cons a l => rfl
    · show max (max x.ready (t + 1)) (t + 1) ≤ max (t + tm (x'.rest.headD 0)) (t + 1) + tsum tm pre.tail
      have e2 : x'.rest.headD 0 = pre.headD 0 := by
        rw [e]; cases pre with
        | nil => exact absurd rfl hp
        | cons a l => rfl
      rw [e2]
      have := tsum_tail (tm := tm) pre hp
      have := h1 (pre.headD 0)
      have := tsum_nonneg h1 pre.tail
      omega
theorem Ahead.go {t : Int} (h1 : ∀ r, 1 ≤ tm r) {x x' : Lt} (h : Ahead tm t x x') (hx : x.rest ≠ []) (b : Bool) (hb : b = true → x'.ready ≤ t) :
    Ahead tm (t + 1) (stp tm t (true, x)) (stp tm t (b, x')) := by
  obtain ⟨pre, e, l⟩ := h
  have h3 := h1 (x.rest.headD 0)
  cases b with
  | false =>
    refine ⟨pre ++ [x.rest.headD 0], ?_, ?_⟩
    · show x'.rest = (pre ++ [x.rest.headD 0]) ++ x.rest.tail
      rw [e, List.append_assoc]
      cases hh : x.rest with
      | nil => exact absurd hh hx
      | cons a l => rfl
    · show max (t + tm (x.rest.headD 0)) (t + 1) ≤ max (max x'.ready (t + 1)) (t + 1) + tsum tm (pre ++ [x.rest.headD 0])
      rw [tsum_append]
      have := tsum_nonneg h1 pre
      simp only [tsum]
      omega
  | true =>
    have hr := hb rfl
    refine ⟨(pre ++ [x.rest.headD 0]).tail, ?_, ?_⟩
    · show x'.rest.tail = (pre ++ [x.rest.headD 0]).tail ++ x.rest.tail
      rw [e]
      cases pre with
      | nil => rfl
      | cons a l =>
        cases hh : x.rest with
        | nil => exact absurd hh hx
        | cons b m => simp
    · show max (t + tm (x.rest.headD 0)) (t + 1) ≤ max (t + tm (x'.rest.headD 0)) (t + 1) + tsum tm (pre ++ [x.rest.headD 0]).tail
      have e2 : x'.rest.headD 0 = (pre ++ [x.rest.headD 0]).headD 0 := by
        rw [e]; cases pre with
        | nil => rfl
        | cons a l => rfl
      have h4 := tsum_tail (tm := tm) (pre ++ [x.rest.headD 0]) (by simp)
      rw [e2]
      rw [tsum_append] at h4
      simp only [tsum] at h4
      have := tsum_nonneg h1 pre
      have := h1 ((pre ++ [x.rest.headD 0]).headD 0)
      omega

/-- THE EXCHANGE: what is better stays better -/
theorem sim (h1 : ∀ r, 1 ≤ tm r) {t : Int} {S S' : List Lt} (h : R tm t S S') : (¬ Late tm t S' → ¬ Late tm t S ∧
    ∀ P', P'.map (·.2) = S' → Okp rm t P' → ∃ P, P.map (·.2) = S ∧ Okp rm t P ∧ R tm (t + 1) (P.map (stp tm t)) (P'.map (stp tm t))) ∧ (Home S' → Home S) := by
  induction h with
  | perm p =>
    refine ⟨fun hl => ⟨fun ⟨x, hx, l⟩ => hl ⟨x, p.mem_iff.mp hx, l⟩, fun P' e ok => ?_⟩, fun hh x hx => hh x (p.mem_iff.mp hx)⟩
    obtain ⟨P, e1, p1⟩ := perm_lift _ p P' e
    exact ⟨P, e1, ok.perm p1, .perm (p1.map _)⟩
  | @imp x x' T a l =>
    refine ⟨fun hl => ⟨?_, fun P' e ok => ?_⟩, fun hh y hy => ?_⟩
    · rintro ⟨y, hy, hyl⟩
      rcases List.mem_cons.mp hy with e | hy
      · subst e
        refine hl ⟨x', List.mem_cons_self .., ?_, ?_⟩
        · obtain ⟨pre, e, _⟩ := a
          rw [e]; exact List.append_ne_nil_of_right_ne_nil _ hyl.1
        · have := due_le a hyl.1
          have := hyl.2
          omega
      · exact hl ⟨y, List.mem_cons_of_mem _ hy, hyl⟩
    · match P', e with
      | (b, z) :: Q, e =>
        rw [List.map_cons] at e
        injection e with e1 e2
        have e1 : z = x' := e1
        subst e1
        obtain ⟨o1, o2, o3⟩ := Okp.cons_iff.mp ok
        by_cases hc : b = true ∧ z.rest = x.rest
        · obtain ⟨hb, hr⟩ := hc
          subst hb
          obtain ⟨q1, q2⟩ := o1 rfl
          have q2 : z.ready ≤ t := q2
          have hxr : x.ready ≤ t := by
            obtain ⟨pre, e, l2⟩ := a
            have : pre = [] := by
              have h := congrArg List.length (hr.symm.trans e)
              rw [List.length_append] at h
              exact List.length_eq_zero_iff.mp (by omega)
            subst this
            simp only [tsum] at l2
            omega
          have hne : x.rest ≠ [] := by rw [← hr]; exact q1
          refine ⟨(true, x) :: Q, by rw [List.map_cons, e2], Okp.cons_iff.mpr ⟨fun _ => ⟨hne, hxr⟩, o2, fun r => ?_⟩, ?_⟩
          · have := o3 r
            have e : mkd r (true, x) = mkd r (true, z) := by unfold mkd; rw [hr]
            rw [e]; exact this
          · exact .imp (a.go h1 hne true fun _ => q2) l
        · refine ⟨(false, x) :: Q, by rw [List.map_cons, e2], Okp.cons_iff.mpr ⟨fun z => (nomatch z), o2, fun r => ?_⟩, ?_⟩
          · have := o3 r
            rw [mkd_false]
            simp only [Bool.false_eq_true, if_false]
            omega
          · refine .imp (a.still h1 b o1 fun hb hr => hc ⟨hb, hr⟩) ?_
            cases b <;> exact l
    · rcases List.mem_cons.mp hy with e | hy
      · subst e
        obtain ⟨pre, e, _⟩ := a
        have := hh x' (List.mem_cons_self ..)
        rw [e] at this
        exact (List.append_eq_nil_iff.mp this).2
      · exact hh y (List.mem_cons_of_mem _ hy)
  | @swap x y T a l =>
    refine ⟨fun hl => ⟨?_, fun P' e ok => ?_⟩, fun hh z hz => ?_⟩
    · rintro ⟨z, hz, hzl⟩
      rcases List.mem_cons.mp hz with e | hz
      · subst e
        refine hl ⟨_, List.mem_cons_of_mem _ (List.mem_cons_self ..), ?_, ?_⟩
        · obtain ⟨pre, e, _⟩ := a
          show y.rest ≠ []
          rw [e]; exact List.append_ne_nil_of_right_ne_nil _ hzl.1
        · have := due_le a hzl.1
          have := hzl.2
          show z.limit < due tm t y
          omega
      · rcases List.mem_cons.mp hz with e | hz
        · subst e
          refine hl ⟨_, List.mem_cons_of_mem _ (List.mem_cons_self ..), hzl.1, ?_⟩
          have := hzl.2
          show x.limit < due tm t z
          omega
        · exact hl ⟨z, List.mem_cons_of_mem _ (List.mem_cons_of_mem _ hz), hzl⟩
    · match P', e with
      | (bx, x2) :: (by', y2) :: Q, e =>
        rw [List.map_cons, List.map_cons] at e
        injection e with e1 e2
        injection e2 with e2 e3
        have e1 : x2 = ⟨x.rest, x.ready, y.limit⟩ := e1
        have e2 : y2 = ⟨y.rest, y.ready, x.limit⟩ := e2
        subst e1 e2
        obtain ⟨o1, o2, o3⟩ := Okp.cons_iff.mp ok
        have o1 : bx = true → x.rest ≠ [] ∧ x.ready ≤ t := o1
        have oy : by' = true → y.rest ≠ [] ∧ y.ready ≤ t := o2 _ (List.mem_cons_self ..)
        have oQ := fun q hq => o2 q (List.mem_cons_of_mem _ hq)
        have o4 : ∀ r, (if mkd r (bx, x) = true then 1 else 0) + ((if mkd r (by', y) = true then 1 else 0) + cnt r Q) ≤ rm r := fun r => by
          have := o3 r
          rw [cnt_cons] at this
          exact this
        by_cases hc : (bx = false ∧ by' = true) ∧ y.rest = x.rest
        · obtain ⟨⟨hb1, hb2⟩, hr⟩ := hc
          subst hb1 hb2
          obtain ⟨q1, q2⟩ := oy rfl
          have hxr : x.ready ≤ t := by
            obtain ⟨pre, e, l2⟩ := a
            have : pre = [] := by
              have h := congrArg List.length (hr.symm.trans e)
              rw [List.length_append] at h
              exact List.length_eq_zero_iff.mp (by omega)
            subst this
            simp only [tsum] at l2
            omega
          refine ⟨(true, x) :: (false, y) :: Q, by rw [List.map_cons, List.map_cons, e3], Okp.cons_iff.mpr ⟨fun _ => ⟨hr ▸ q1, hxr⟩, fun q hq hq1 => ?_, fun r => ?_⟩, ?_⟩
          · rcases List.mem_cons.mp hq with e | hq
            · subst e; exact nomatch hq1
            · exact oQ q hq hq1
          · rw [cnt_cons]
            have := o4 r
            rw [mkd_false] at this ⊢
            have e : mkd r (true, x) = mkd r (true, y) := by unfold mkd; rw [hr]
            rw [e]
            simp only [Bool.false_eq_true, if_false] at this ⊢
            omega
          · refine .trans (.perm (.swap _ _ _)) ?_
            have e1 : stp tm t (true, x) = stp tm t (true, (⟨y.rest, y.ready, x.limit⟩ : Lt)) := by
              unfold stp; simp [hr]
            show R tm (t + 1) (stp tm t (false, y) :: stp tm t (true, x) :: Q.map _) (stp tm t (false, (⟨x.rest, x.ready, y.limit⟩ : Lt)) :: stp tm t (true, (⟨y.rest, y.ready, x.limit⟩ : Lt)) :: Q.map _)
            rw [e1]
            refine .imp ⟨[], ?_, ?_⟩ (Int.le_refl _)
            · show x.rest = [] ++ y.rest
              rw [hr]; rfl
            · show max (max y.ready (t + 1)) (t + 1) ≤ max (max x.ready (t + 1)) (t + 1) + 0
              omega
        · refine ⟨(bx, x) :: (by', y) :: Q, by rw [List.map_cons, List.map_cons, e3], Okp.cons_iff.mpr ⟨o1, fun q hq hq1 => ?_, fun r => ?_⟩, ?_⟩
          · rcases List.mem_cons.mp hq with e | hq
            · subst e; exact oy hq1
            · exact oQ q hq hq1
          · rw [cnt_cons]; exact o4 r
          · have hlim : ∀ (b : Bool) (z : Lt), (stp tm t (b, z)).limit = z.limit := fun b z => by cases b <;> rfl
            have hA : Ahead tm (t + 1) (stp tm t (bx, x)) (stp tm t (by', y)) := by
              cases bx with
              | true => exact a.go h1 (o1 rfl).1 by' fun hb => (oy hb).2
              | false => exact a.still h1 by' oy fun hb hr => hc ⟨⟨rfl, hb⟩, hr⟩
            have e1 : stp tm t (bx, (⟨x.rest, x.ready, y.limit⟩ : Lt)) = ⟨(stp tm t (bx, x)).rest, (stp tm t (bx, x)).ready, (stp tm t (by', y)).limit⟩ := by
              rw [hlim]; cases bx <;> rfl
            have e2 : stp tm t (by', (⟨y.rest, y.ready, x.limit⟩ : Lt)) = ⟨(stp tm t (by', y)).rest, (stp tm t (by', y)).ready, (stp tm t (bx, x)).limit⟩ := by
              rw [hlim]; cases by' <;> rfl
            rw [List.map_cons, List.map_cons, List.map_cons, List.map_cons, e1, e2]
            exact .swap hA (by rw [hlim, hlim]; exact l)
    · rcases List.mem_cons.mp hz with e | hz
      · subst e; exact hh ⟨z.rest, z.ready, y.limit⟩ (List.mem_cons_self ..)
      · rcases List.mem_cons.mp hz with e | hz
        · subst e; exact hh ⟨z.rest, z.ready, x.limit⟩ (List.mem_cons_of_mem _ (List.mem_cons_self ..))
        · exact hh z (List.mem_cons_of_mem _ (List.mem_cons_of_mem _ hz))
  | trans _ _ i j =>
    refine ⟨fun hl => ?_, fun hh => i.2 (j.2 hh)⟩
    obtain ⟨l1, s1⟩ := j.1 hl
    obtain ⟨l2, s2⟩ := i.1 l1
    refine ⟨l2, fun P' e ok => ?_⟩
    obtain ⟨P1, e1, ok1, r1⟩ := s1 P' e ok
    obtain ⟨P, e2, ok2, r2⟩ := s2 P1 e1 ok1
    exact ⟨P, e2, ok2, .trans r2 r1⟩
  | @drop x T e =>
    refine ⟨fun hl => ⟨fun ⟨y, hy, l⟩ => hl ⟨y, List.mem_cons_of_mem _ hy, l⟩, fun P' ep ok => ?_⟩, fun hh y hy => hh y (List.mem_cons_of_mem _ hy)⟩
    match P', ep with
    | (b, z) :: Q, ep =>
      rw [List.map_cons] at ep
      injection ep with e1 e2
      have e1 : z = x := e1
      subst e1
      obtain ⟨o1, o2, o3⟩ := Okp.cons_iff.mp ok
      have hb : b = false := by
        cases b with
        | false => rfl
        | true => exact absurd e (o1 rfl).1
      subst hb
      refine ⟨Q, e2, ⟨o2, fun r => by have := o3 r; omega⟩, ?_⟩
      exact .drop (x := stp tm t (false, z)) e
  | @add x T e =>
    refine ⟨fun hl => ⟨?_, fun P' ep ok => ?_⟩, fun hh y hy => ?_⟩
    · rintro ⟨y, hy, l⟩
      rcases List.mem_cons.mp hy with e' | hy
      · subst e'; exact l.1 e
      · exact hl ⟨y, hy, l⟩
    · refine ⟨(false, x) :: P', by rw [List.map_cons, ep], Okp.cons_iff.mpr ⟨fun z => (nomatch z), ok.1, fun r => ?_⟩, ?_⟩
      · rw [mkd_false]
        have := ok.2 r
        simp only [Bool.false_eq_true, if_false]
        omega
      · exact .add (x := stp tm t (false, x)) e
    · rcases List.mem_cons.mp hy with e' | hy
      · subst e'; exact e
      · exact hh y hy

theorem Sav.mono (h1 : ∀ r, 1 ≤ tm r) {t : Int} {S' : List Lt} (h : Sav tm rm t S') : ∀ {S}, R tm t S S' → Sav tm rm t S := by
  induction h with
  | done hh => intro S r; exact .done ((sim (rm := rm) h1 r).2 hh)
  | step P' hl e ok _ ih =>
    intro S r
    obtain ⟨l, s⟩ := (sim (rm := rm) h1 r).1 hl
    obtain ⟨P, e1, ok1, r1⟩ := s P' e ok
    exact .step P l e1 ok1 (ih r1)
theorem Both.mono (h1 : ∀ r, 1 ≤ tm r) {u t : Int} {G : List Lt → Prop} (hG : ∀ S S', R tm (u + 1) S S' → G S' → G S) {S' : List Lt} (h : Both tm rm u G t S') : ∀ {S}, R tm t S S' → Both tm rm u G t S := by
  induction h with
  | fin g => intro S r; exact .fin (hG _ _ r g)
  | step P' ht hl e ok _ ih =>
    intro S r
    obtain ⟨l, s⟩ := (sim (rm := rm) h1 r).1 hl
    obtain ⟨P, e1, ok1, r1⟩ := s P' e ok
    exact .step P ht l e1 ok1 (ih r1)

/-! ### ticks at which nobody may be passed -/
theorem map_snd_false (S : List Lt) : (S.map fun x => (false, x)).map (·.2) = S := by
  rw [List.map_map]
  exact List.map_id' S
theorem okp_false (t : Int) (S : List Lt) : Okp rm t (S.map fun x => (false, x)) := by
  refine ⟨fun p hp h => ?_, fun r => ?_⟩
  · obtain ⟨x, _, e⟩ := List.mem_map.mp hp
    subst e; cases h
  · have e : cnt r (S.map fun x => (false, x)) = 0 := by
      unfold cnt
      rw [List.countP_eq_zero]
      intro p hp
      obtain ⟨x, _, e⟩ := List.mem_map.mp hp
      subst e; simp [mkd_false]
    rw [e]; exact Nat.zero_le _
theorem stp_idle {t : Int} {S : List Lt} (h : ∀ x ∈ S, t + 1 ≤ x.ready) : (S.map fun x => (false, x)).map (stp tm t) = S := by
  rw [List.map_map]
  have : ∀ x ∈ S, (stp tm t ∘ fun x => (false, x)) x = x := fun x hx => by
    have := h x hx
    show (⟨x.rest, max x.ready (t + 1), x.limit⟩ : Lt) = x
    have e : max x.ready (t + 1) = x.ready := by omega
    rw [e]
  rw [List.map_congr_left this]
  exact List.map_id' S
theorem none_go {t : Int} {S : List Lt} {P : List (Bool × Lt)} (h : ∀ x ∈ S, t + 1 ≤ x.ready) (e : P.map (·.2) = S) (ok : Okp rm t P) : P = S.map fun x => (false, x) := by
  subst e
  rw [List.map_map]
  have : ∀ p ∈ P, ((fun x => (false, x)) ∘ fun p : Bool × Lt => p.2) p = p := fun p hp => by
    obtain ⟨b, x⟩ := p
    cases b with
    | false => rfl
    | true =>
      have h2 := (ok.1 _ hp rfl).2
      have h3 := h x (List.mem_map.mpr ⟨_, hp, rfl⟩)
      have h2 : x.ready ≤ t := h2
      omega
  rw [List.map_congr_left this]
  exact (List.map_id' P).symm
theorem Late.mono {t t' : Int} (h : t ≤ t') {S : List Lt} (l : Late tm t S) : Late tm t' S := by
  obtain ⟨x, hx, h2, h3⟩ := l
  refine ⟨x, hx, h2, ?_⟩
  unfold due at h3 ⊢
  omega
theorem Sav.not_late {t : Int} {S : List Lt} (h : Sav tm rm t S) : ¬ Late tm t S := by
  cases h with
  | done hh => rintro ⟨x, hx, h2, _⟩; exact h2 (hh x hx)
  | step _ l _ _ _ => exact l
theorem sav_idle1 {t : Int} {S : List Lt} (h : ∀ x ∈ S, t + 1 ≤ x.ready) : Sav tm rm t S ↔ Sav tm rm (t + 1) S := by
  constructor
  · intro s
    cases s with
    | done hh => exact .done hh
    | step P l e ok s =>
      have e2 := none_go h e ok
      rw [e2, stp_idle h] at s
      exact s
  · intro s
    refine .step (S.map fun x => (false, x)) (fun l => s.not_late (l.mono (by omega))) (map_snd_false S) (okp_false t S) ?_
    rw [stp_idle h]; exact s
theorem sav_idle {S : List Lt} (n : Nat) : ∀ {t : Int}, (∀ x ∈ S, t + n ≤ x.ready) → (Sav tm rm t S ↔ Sav tm rm (t + n) S) := by
  induction n with
  | zero => intro t _; simp
  | succ n ih =>
    intro t h
    rw [sav_idle1 (fun x hx => by have := h x hx; omega), ih (t := t + 1) (fun x hx => by have := h x hx; omega)]
    have e : t + 1 + (n : Int) = t + ((n + 1 : Nat) : Int) := by omega
    rw [e]
theorem sav_jump {S : List Lt} {t t' : Int} (ht : t ≤ t') (h : ∀ x ∈ S, t' ≤ x.ready) : Sav tm rm t S ↔ Sav tm rm t' S := by
  have e : t + ((t' - t).toNat : Int) = t' := by omega
  have := sav_idle (tm := tm) (rm := rm) (S := S) (t' - t).toNat (t := t) (fun x hx => by have := h x hx; omega)
  rw [e] at this
  exact this
theorem both_idle1 {u t : Int} {G : List Lt → Prop} {S : List Lt} (ht : t ≤ u) (hl : ¬ Late tm t S) (h : ∀ x ∈ S, t + 1 ≤ x.ready) : Both tm rm u G t S ↔ Both tm rm u G (t + 1) S := by
  constructor
  · intro s
    cases s with
    | fin g => omega
    | step P _ l e ok s =>
      have e2 := none_go h e ok
      rw [e2, stp_idle h] at s
      exact s
  · intro s
    refine .step (S.map fun x => (false, x)) ht hl (map_snd_false S) (okp_false t S) ?_
    rw [stp_idle h]; exact s
theorem Both.not_late {u t : Int} {G : List Lt → Prop} (hG : ∀ S, G S → ¬ Late tm (u + 1) S) {S : List Lt} (h : Both tm rm u G t S) : ¬ Late tm t S := by
  cases h with
  | fin g => exact hG _ g
  | step _ _ l _ _ _ => exact l
theorem both_jump {u : Int} {G : List Lt → Prop} (hG : ∀ S, G S → ¬ Late tm (u + 1) S) {S : List Lt} (n : Nat) : ∀ {t : Int}, t + n ≤ u + 1 → (∀ x ∈ S, t + n ≤ x.ready) → (Both tm rm u G t S ↔ Both tm rm u G (t + n) S) := by
  induction n with
  | zero => intro t _ _; simp
  | succ n ih =>
    intro t hu h
    have e : t + 1 + (n : Int) = t + ((n + 1 : Nat) : Int) := by omega
    have i2 := ih (t := t + 1) (by omega) (fun x hx => by have := h x hx; omega)
    rw [e] at i2
    rw [← i2]
    constructor
    · intro s
      exact (both_idle1 (by omega) (s.not_late hG) fun x hx => by have := h x hx; omega).mp s
    · intro s
      have hl : ¬ Late tm t S := fun l => s.not_late hG (l.mono (by omega))
      exact (both_idle1 (by omega) hl fun x hx => by have := h x hx; omega).mpr s
theorem both_past {u t : Int} {G : List Lt → Prop} (ht : t = u + 1) {S : List Lt} : Both tm rm u G t S ↔ G S := by
  subst ht
  constructor
  · intro s
    generalize ht : u + 1 = t' at s
    cases s with
    | fin g => exact g
    | step _ h _ _ _ _ => omega
  · exact .fin
end
end Hc
end

section
/-! Plain mathematics: the picks, by groups. -/
set_option autoImplicit false
set_option linter.all false
namespace Hc
def ways : List (List Nat) → Nat → List (List Nat)
  | [], m => if m = 0 then [[]] else []
  | g :: gs, m => (List.range (min m g.length + 1)).flatMap fun c => (ways gs (m - c)).map fun o => g.take c ++ o
def prodStep (found picks : List (List Nat)) : List (List Nat) := found.flatMap fun a => picks.map fun p => a ++ p
def prods (l : List (List (List Nat))) : List (List Nat) := l.foldl prodStep [[]]
/-- one of each -/
def Chs : List (List (List Nat)) → List Nat → Prop
  | [], o => o = []
  | ps :: l, o => ∃ p ∈ ps, ∃ o', Chs l o' ∧ o = p ++ o'
theorem mem_prodStep {a b : List (List Nat)} {o : List Nat} : o ∈ prodStep a b ↔ ∃ x ∈ a, ∃ y ∈ b, o = x ++ y := by
  unfold prodStep
  rw [List.mem_flatMap]
  constructor
  · rintro ⟨x, hx, h⟩
    obtain ⟨y, hy, e⟩ := List.mem_map.mp h
    exact ⟨x, hx, y, hy, e.symm⟩
  · rintro ⟨x, hx, y, hy, e⟩
    exact ⟨x, hx, List.mem_map.mpr ⟨y, hy, e.symm⟩⟩
theorem mem_foldl_prod {l : List (List (List Nat))} : ∀ {acc : List (List Nat)} {o : List Nat}, o ∈ l.foldl prodStep acc ↔ ∃ a ∈ acc, ∃ o', Chs l o' ∧ o = a ++ o' := by
  induction l with
  | nil =>
    intro acc o
    constructor
    · intro h; exact ⟨o, h, [], rfl, by simp⟩
    · rintro ⟨a, ha, o', e, e2⟩
      have e : o' = [] := e
      subst e
      rw [e2, List.append_nil]; exact ha
  | cons ps l ih =>
    intro acc o
    rw [List.foldl_cons, ih]
    constructor
    · rintro ⟨a, ha, o', hc, e⟩
      obtain ⟨x, hx, y, hy, e2⟩ := mem_prodStep.mp ha
      exact ⟨x, hx, y ++ o', ⟨y, hy, o', hc, rfl⟩, by rw [e, e2, List.append_assoc]⟩
    · rintro ⟨a, ha, o', ⟨p, hp, o2, hc, e2⟩, e⟩
      exact ⟨a ++ p, mem_prodStep.mpr ⟨a, ha, p, hp, rfl⟩, o2, hc, by rw [e, e2, List.append_assoc]⟩
theorem mem_prods {l : List (List (List Nat))} {o : List Nat} : o ∈ prods l ↔ Chs l o := by
  unfold prods
  rw [mem_foldl_prod]
  constructor
  · rintro ⟨a, ha, o', hc, e⟩
    have : a = [] := by simpa using ha
    subst this
    rw [e]; exact hc
  · intro h
    exact ⟨[], by simp, o, h, rfl⟩
theorem mem_ways_cons {g : List Nat} {gs : List (List Nat)} {m : Nat} {o : List Nat} : o ∈ ways (g :: gs) m ↔ ∃ c, c ≤ m ∧ c ≤ g.length ∧ ∃ o', o' ∈ ways gs (m - c) ∧ o = g.take c ++ o' := by
  show o ∈ (List.range (min m g.length + 1)).flatMap _ ↔ _
  rw [List.mem_flatMap]
  constructor
  · rintro ⟨c, hc, h⟩
    obtain ⟨o', ho, e⟩ := List.mem_map.mp h
    have := List.mem_range.mp hc
    exact ⟨c, by omega, by omega, o', ho, e.symm⟩
  · rintro ⟨c, h1, h2, o', ho, e⟩
    exact ⟨c, List.mem_range.mpr (by omega), List.mem_map.mpr ⟨o', ho, e.symm⟩⟩
theorem ways_len : ∀ {gs : List (List Nat)} {m : Nat} {o : List Nat}, o ∈ ways gs m → o.length = m ∧ ∀ i ∈ o, i ∈ gs.flatten
  | [], m, o, h => by
    unfold ways at h
    split at h
    · have : o = [] := by simpa using h
      subst this
      rename_i e
      exact ⟨e.symm, fun _ z => nomatch z⟩
    · exact nomatch h
  | g :: gs, m, o, h => by
    obtain ⟨c, h1, h2, o', ho, rfl⟩ := mem_ways_cons.mp h
    obtain ⟨l, s⟩ := ways_len ho
    refine ⟨by rw [List.length_append, List.length_take, l]; omega, fun i hi => ?_⟩
    rw [List.flatten_cons]
    rcases List.mem_append.mp hi with hi | hi
    · exact List.mem_append_left _ (List.mem_of_mem_take hi)
    · exact List.mem_append_right _ (s i hi)
section
variable {tm : Nat → Int} {rm : Nat → Nat}
/-- one group, by its limits: those who go are the first c -/
theorem group_R (h1 : ∀ r, 1 ≤ tm r) {t : Int} {ρ : List Nat} (hρ : ρ ≠ []) : ∀ (L : List Int) (m : List Bool) (c : Nat), L.length = m.length → L.Pairwise (· ≤ ·) → m.count true ≤ c → c ≤ L.length →
    R tm (t + 1) ((L.take c).map (fun l => (⟨ρ.tail, t + tm (ρ.headD 0), l⟩ : Lt)) ++ (L.drop c).map (fun l => (⟨ρ, t + 1, l⟩ : Lt)))
      ((L.zip m).map fun p => if p.2 then (⟨ρ.tail, t + tm (ρ.headD 0), p.1⟩ : Lt) else ⟨ρ, t + 1, p.1⟩) := by
  have hA : ∀ l l' : Int, Ahead tm (t + 1) (⟨ρ.tail, t + tm (ρ.headD 0), l⟩ : Lt) (⟨ρ, t + 1, l'⟩ : Lt) := fun l l' => by
    refine ⟨[ρ.headD 0], ?_, ?_⟩
    · cases ρ with
      | nil => exact absurd rfl hρ
      | cons a r => rfl
    · have := h1 (ρ.headD 0)
      simp only [tsum]
      show max (t + tm (ρ.headD 0)) (t + 1) ≤ max (t + 1) (t + 1) + (tm (ρ.headD 0) + 0)
      omega
  intro L
  induction L with
  | nil =>
    intro m c hl _ _ _
    cases m with
    | nil => simp; exact R.rfl'
    | cons _ _ => simp at hl
  | cons l L ih =>
    intro m c hl hs hc hcl
    match m, hl with
    | b :: m, hl =>
      replace hl : L.length = m.length := by simpa using hl
      obtain ⟨hs1, hs2⟩ := List.pairwise_cons.mp hs
      have hcl : c ≤ L.length + 1 := by simpa using hcl
      have hm : m.count true ≤ m.length := List.count_le_length
      rw [List.zip_cons_cons, List.map_cons]
      cases b with
      | true =>
        have hc : m.count true + 1 ≤ c := by simpa using hc
        match c, hc with
        | c + 1, hc =>
          rw [List.take_succ_cons, List.drop_succ_cons, List.map_cons, List.cons_append]
          exact (ih m c hl hs2 (by omega) (by omega)).cons _
      | false =>
        have hc : m.count true ≤ c := by simpa using hc
        match c, hc with
        | 0, hc =>
          rw [List.take_zero, List.drop_zero, List.map_nil, List.nil_append, List.map_cons]
          have := ih m 0 hl hs2 hc (Nat.zero_le _)
          rw [List.take_zero, List.drop_zero, List.map_nil, List.nil_append] at this
          exact this.cons _
        | c + 1, hc =>
          rw [List.take_succ_cons, List.drop_succ_cons, List.map_cons, List.cons_append]
          by_cases hq : m.count true ≤ c
          · refine .trans (.imp (hA l l) (Int.le_refl _)) ?_
            exact (ih m c hl hs2 hq (by omega)).cons _
          · have e : m.count true = c + 1 := by omega
            have hcL : c < L.length := by omega
            refine .trans ?_ ((ih m (c + 1) hl hs2 (by omega) (by omega)).cons _)
            have e1 : L.take (c + 1) = L.take c ++ [L[c]] := by rw [List.take_add_one, List.getElem?_eq_getElem hcL]; rfl
            have e2 : L.drop c = L[c] :: L.drop (c + 1) := List.drop_eq_getElem_cons hcL
            rw [e1, e2, List.map_append, List.map_cons, List.map_cons, List.map_nil]
            have hle : l ≤ L[c] := hs1 _ (List.getElem_mem hcL)
            refine .trans (.perm ?_) (.trans (.swap (x := ⟨ρ.tail, t + tm (ρ.headD 0), l⟩) (y := ⟨ρ, t + 1, L[c]⟩) (T := (L.take c).map (fun l => (⟨ρ.tail, t + tm (ρ.headD 0), l⟩ : Lt)) ++ (L.drop (c + 1)).map (fun l => (⟨ρ, t + 1, l⟩ : Lt))) (hA _ _) hle) (.perm ?_))
            · refine .cons _ ?_
              exact List.perm_middle
            · refine (List.Perm.swap _ _ _).trans (.cons _ ?_)
              rw [List.append_assoc, List.singleton_append]
              exact (List.perm_middle).symm
/-- the state's place i -/
def atS (S : List Lt) (i : Nat) : Lt := S.getD i default
/-- every letter with its mark -/
def pk (S : List Lt) (o : List Nat) : List (Bool × Lt) := (List.range S.length).map fun i => (decide (i ∈ o), atS S i)
/-- the waiting ones, by roads and rests -/
structure Grp (S : List Lt) (t : Int) (gr : List (Nat × List (List Nat))) : Prop where
  perm : (gr.flatMap fun p => p.2.flatten).Perm ((List.range S.length).filter fun i => decide ((atS S i).ready ≤ t))
  head : ∀ p ∈ gr, ∀ g ∈ p.2, ∀ i ∈ g, (atS S i).rest.head? = some p.1
  same : ∀ p ∈ gr, ∀ g ∈ p.2, ∀ i ∈ g, ∀ j ∈ g, (atS S i).rest = (atS S j).rest
  sort : ∀ p ∈ gr, ∀ g ∈ p.2, g.Pairwise fun i j => (atS S i).limit ≤ (atS S j).limit
  road : (gr.map (·.1)).Nodup
def allPicks (rm : Nat → Nat) (gr : List (Nat × List (List Nat))) : List (List (List Nat)) := gr.map fun p => ways p.2 (min (rm p.1) p.2.flatten.length)
theorem map_range_atS (S : List Lt) : (List.range S.length).map (atS S) = S := by
  apply List.ext_getElem?
  intro i
  rw [List.getElem?_map]
  by_cases h : i < S.length
  · rw [List.getElem?_range h, List.getElem?_eq_getElem h]
    simp [atS, h]
  · rw [List.getElem?_eq_none (by simp; omega), List.getElem?_eq_none (by omega)]
    rfl
theorem pk_snd (S : List Lt) (o : List Nat) : (pk S o).map (·.2) = S := by
  unfold pk
  rw [List.map_map]
  exact map_range_atS S
/-- one group in the state -/
theorem group_S (h1 : ∀ r, 1 ≤ tm r) {S : List Lt} {t : Int} {g : List Nat} (hd : g.Nodup) (hr : ∀ i ∈ g, (atS S i).ready ≤ t) (hn : ∀ i ∈ g, (atS S i).rest ≠ []) (hsame : ∀ i ∈ g, ∀ j ∈ g, (atS S i).rest = (atS S j).rest)
    (hs : g.Pairwise fun i j => (atS S i).limit ≤ (atS S j).limit) (b : Nat → Bool) {c : Nat} (hc : g.countP b ≤ c) (hcl : c ≤ g.length) :
    R tm (t + 1) (g.map fun i => stp tm t (decide (i ∈ g.take c), atS S i)) (g.map fun i => stp tm t (b i, atS S i)) := by
  cases hg : g with
  | nil => exact R.rfl'
  | cons i0 g0 =>
    rw [← hg]
    have hi0 : i0 ∈ g := by rw [hg]; exact List.mem_cons_self ..
    have key := group_R (tm := tm) h1 (t := t) (ρ := (atS S i0).rest) (hn i0 hi0) (g.map fun i => (atS S i).limit) (g.map b) c (by simp) (List.pairwise_map.mpr hs) (by rw [List.count_eq_countP, List.countP_map]; refine Nat.le_trans (Nat.le_of_eq ?_) hc; exact List.countP_congr (fun x _ => by simp)) (by simpa using hcl)
    have eR : ∀ (f : Nat → Bool) (l : List Nat), (∀ i ∈ l, i ∈ g) → (l.map fun i => stp tm t (f i, atS S i)) = l.map fun i => if f i then (⟨(atS S i0).rest.tail, t + tm ((atS S i0).rest.headD 0), (atS S i).limit⟩ : Lt) else ⟨(atS S i0).rest, t + 1, (atS S i).limit⟩ := by
      intro f l hl
      refine List.map_congr_left fun i hi => ?_
      have e := hsame i (hl i hi) i0 hi0
      have r := hr i (hl i hi)
      unfold stp
      cases f i with
      | true => simp [e]
      | false =>
        have : max (atS S i).ready (t + 1) = t + 1 := by omega
        simp [e, this]
    have e1 : ((g.map fun i => (atS S i).limit).zip (g.map b)).map (fun p => if p.2 then (⟨(atS S i0).rest.tail, t + tm ((atS S i0).rest.headD 0), p.1⟩ : Lt) else ⟨(atS S i0).rest, t + 1, p.1⟩) = g.map fun i => stp tm t (b i, atS S i) := by
      rw [eR b g fun _ h => h, List.zip_map', List.map_map]
      rfl
    rw [e1] at key
    have split : (g.map fun i => stp tm t (decide (i ∈ g.take c), atS S i)) = ((g.map fun i => (atS S i).limit).take c).map (fun l => (⟨(atS S i0).rest.tail, t + tm ((atS S i0).rest.headD 0), l⟩ : Lt)) ++ ((g.map fun i => (atS S i).limit).drop c).map (fun l => (⟨(atS S i0).rest, t + 1, l⟩ : Lt)) := by
      have hnd := hd
      rw [eR _ g fun _ h => h]
      conv => lhs; rw [← List.take_append_drop c g]
      rw [List.map_append, ← List.map_take, ← List.map_drop, List.map_map, List.map_map]
      have e3 : g.take c ++ g.drop c = g := List.take_append_drop c g
      congr 1
      · refine List.map_congr_left fun i hi => ?_
        have hi' : i ∈ (g.take c ++ g.drop c).take c := by rw [e3]; exact hi
        simp [hi', hi]
      · refine List.map_congr_left fun i hi => ?_
        have hni : i ∉ (g.take c ++ g.drop c).take c := by
          rw [e3]
          rw [← e3] at hnd
          exact fun z => (List.nodup_append.mp hnd).2.2 i z i hi rfl
        have hni2 : i ∉ g.take c := by rw [e3] at hni; exact hni
        simp [hni, hni2]
    rw [split]
    exact key
/-- the groups of one road -/
theorem road_S (h1 : ∀ r, 1 ≤ tm r) {S : List Lt} {t : Int} (b : Nat → Bool) : ∀ {gs : List (List Nat)} {m : Nat}, gs.flatten.Nodup → (∀ g ∈ gs, ∀ i ∈ g, (atS S i).ready ≤ t) → (∀ g ∈ gs, ∀ i ∈ g, (atS S i).rest ≠ []) →
    (∀ g ∈ gs, ∀ i ∈ g, ∀ j ∈ g, (atS S i).rest = (atS S j).rest) → (∀ g ∈ gs, g.Pairwise fun i j => (atS S i).limit ≤ (atS S j).limit) → gs.flatten.countP b ≤ m → m ≤ gs.flatten.length →
    ∃ o ∈ ways gs m, R tm (t + 1) (gs.flatten.map fun i => stp tm t (decide (i ∈ o), atS S i)) (gs.flatten.map fun i => stp tm t (b i, atS S i)) := by
  intro gs
  induction gs with
  | nil =>
    intro m _ _ _ _ _ _ hm
    have : m = 0 := by simpa using hm
    subst this
    exact ⟨[], by simp [ways], R.rfl'⟩
  | cons g gs ih =>
    intro m hd hr hn hsame hs hc hm
    rw [List.flatten_cons] at hd hc hm
    obtain ⟨d1, d2, d3⟩ := List.nodup_append.mp hd
    rw [List.countP_append] at hc
    rw [List.length_append] at hm
    have l1 : g.countP b ≤ g.length := List.countP_le_length
    have l2 : gs.flatten.countP b ≤ gs.flatten.length := List.countP_le_length
    obtain ⟨c, c1, c2, c3, c4, c5⟩ : ∃ c, g.countP b ≤ c ∧ c ≤ g.length ∧ c ≤ m ∧ gs.flatten.countP b ≤ m - c ∧ m - c ≤ gs.flatten.length :=
      ⟨max (g.countP b) (m - gs.flatten.length), by omega, by omega, by omega, by omega, by omega⟩
    obtain ⟨o', ho, r2⟩ := ih d2 (fun g' h => hr g' (List.mem_cons_of_mem _ h)) (fun g' h => hn g' (List.mem_cons_of_mem _ h)) (fun g' h => hsame g' (List.mem_cons_of_mem _ h)) (fun g' h => hs g' (List.mem_cons_of_mem _ h)) c4 c5
    have r1 := group_S (tm := tm) h1 d1 (hr g (List.mem_cons_self ..)) (hn g (List.mem_cons_self ..)) (hsame g (List.mem_cons_self ..)) (hs g (List.mem_cons_self ..)) b c1 c2
    have sub := (ways_len ho).2
    refine ⟨g.take c ++ o', mem_ways_cons.mpr ⟨c, c3, c2, o', ho, rfl⟩, ?_⟩
    rw [List.flatten_cons, List.map_append, List.map_append]
    have e1 : (g.map fun i => stp tm t (decide (i ∈ g.take c ++ o'), atS S i)) = g.map fun i => stp tm t (decide (i ∈ g.take c), atS S i) := by
      refine List.map_congr_left fun i hi => ?_
      have : i ∉ o' := fun z => d3 i hi i (sub i z) rfl
      simp [this]
    have e2 : (gs.flatten.map fun i => stp tm t (decide (i ∈ g.take c ++ o'), atS S i)) = gs.flatten.map fun i => stp tm t (decide (i ∈ o'), atS S i) := by
      refine List.map_congr_left fun i hi => ?_
      have : i ∉ g.take c := fun z => d3 i (List.mem_of_mem_take z) i hi rfl
      simp [this]
    rw [e1, e2]
    exact r1.append r2
theorem Chs.sub {rm : Nat → Nat} : ∀ {gr : List (Nat × List (List Nat))} {o : List Nat}, Chs (allPicks rm gr) o → ∀ i ∈ o, i ∈ gr.flatMap fun p => p.2.flatten
  | [], o, h => by
    have h : o = [] := h
    subst h
    exact fun _ z => nomatch z
  | p :: gr, o, h => by
    obtain ⟨o1, h1, o2, h2, rfl⟩ := h
    intro i hi
    rw [List.flatMap_cons]
    rcases List.mem_append.mp hi with hi | hi
    · exact List.mem_append_left _ ((ways_len h1).2 i hi)
    · exact List.mem_append_right _ (Chs.sub h2 i hi)
theorem roads_S (h1 : ∀ r, 1 ≤ tm r) {S : List Lt} {t : Int} (b : Nat → Bool) : ∀ {gr : List (Nat × List (List Nat))}, (gr.flatMap fun p => p.2.flatten).Nodup → (∀ p ∈ gr, ∀ g ∈ p.2, ∀ i ∈ g, (atS S i).ready ≤ t) → (∀ p ∈ gr, ∀ g ∈ p.2, ∀ i ∈ g, (atS S i).rest ≠ []) →
    (∀ p ∈ gr, ∀ g ∈ p.2, ∀ i ∈ g, ∀ j ∈ g, (atS S i).rest = (atS S j).rest) → (∀ p ∈ gr, ∀ g ∈ p.2, g.Pairwise fun i j => (atS S i).limit ≤ (atS S j).limit) → (∀ p ∈ gr, p.2.flatten.countP b ≤ rm p.1) →
    ∃ o, Chs (allPicks rm gr) o ∧ R tm (t + 1) ((gr.flatMap fun p => p.2.flatten).map fun i => stp tm t (decide (i ∈ o), atS S i)) ((gr.flatMap fun p => p.2.flatten).map fun i => stp tm t (b i, atS S i)) := by
  intro gr
  induction gr with
  | nil => intro _ _ _ _ _ _; exact ⟨[], rfl, R.rfl'⟩
  | cons p gr ih =>
    intro hd hr hn hsame hs hc
    rw [List.flatMap_cons] at hd
    obtain ⟨d1, d2, d3⟩ := List.nodup_append.mp hd
    have m0 : p ∈ p :: gr := List.mem_cons_self ..
    have l1 : p.2.flatten.countP b ≤ p.2.flatten.length := List.countP_le_length
    obtain ⟨o1, ho1, r1⟩ := road_S (tm := tm) h1 b (m := min (rm p.1) p.2.flatten.length) d1 (hr p m0) (hn p m0) (hsame p m0) (hs p m0) (by have := hc p m0; omega) (by omega)
    obtain ⟨o2, ho2, r2⟩ := ih d2 (fun q h => hr q (List.mem_cons_of_mem _ h)) (fun q h => hn q (List.mem_cons_of_mem _ h)) (fun q h => hsame q (List.mem_cons_of_mem _ h)) (fun q h => hs q (List.mem_cons_of_mem _ h)) (fun q h => hc q (List.mem_cons_of_mem _ h))
    have s1 := (ways_len ho1).2
    have s2 := Chs.sub ho2
    refine ⟨o1 ++ o2, ⟨o1, ho1, o2, ho2, rfl⟩, ?_⟩
    rw [List.flatMap_cons, List.map_append, List.map_append]
    have e1 : (p.2.flatten.map fun i => stp tm t (decide (i ∈ o1 ++ o2), atS S i)) = p.2.flatten.map fun i => stp tm t (decide (i ∈ o1), atS S i) := by
      refine List.map_congr_left fun i hi => ?_
      have : i ∉ o2 := fun z => d3 i hi i (s2 i z) rfl
      simp [this]
    have e2 : ((gr.flatMap fun p => p.2.flatten).map fun i => stp tm t (decide (i ∈ o1 ++ o2), atS S i)) = (gr.flatMap fun p => p.2.flatten).map fun i => stp tm t (decide (i ∈ o2), atS S i) := by
      refine List.map_congr_left fun i hi => ?_
      have : i ∉ o1 := fun z => d3 i (s1 i z) i hi rfl
      simp [this]
    rw [e1, e2]
    exact r1.append r2
theorem countP_flatMap_le {α β : Type} (q : β → Bool) (f : α → List β) {p : α} : ∀ {l : List α}, p ∈ l → (f p).countP q ≤ (l.flatMap f).countP q
  | a :: l, h => by
    rw [List.flatMap_cons, List.countP_append]
    rcases List.mem_cons.mp h with e | h
    · subst e; omega
    · have := countP_flatMap_le q f h
      omega
theorem countP_or_le {α : Type} (p q : α → Bool) : ∀ l : List α, (l.countP fun i => p i || q i) ≤ l.countP p + l.countP q
  | [] => Nat.le_refl _
  | x :: l => by
    have ih := countP_or_le p q l
    rw [List.countP_cons, List.countP_cons, List.countP_cons]
    cases p x <;> cases q x <;> simp <;> omega
theorem countP_mem_le {l : List Nat} (hl : l.Nodup) (q : Nat → Bool) : ∀ o : List Nat, (l.countP fun i => decide (i ∈ o) && q i) ≤ o.countP q
  | [] => by
    have : (l.countP fun i => decide (i ∈ ([] : List Nat)) && q i) = 0 := by
      rw [List.countP_eq_zero]
      intro i _
      simp
    rw [this]; exact Nat.zero_le _
  | a :: o => by
    have ih := countP_mem_le hl q o
    rw [List.countP_cons]
    have h1 : (l.countP fun i => decide (i ∈ a :: o) && q i) ≤ (l.countP fun i => decide (i = a) && q i) + (l.countP fun i => decide (i ∈ o) && q i) := by
      have e : (l.countP fun i => decide (i ∈ a :: o) && q i) = l.countP fun i => (decide (i = a) && q i) || (decide (i ∈ o) && q i) :=
        List.countP_congr fun i _ => by
          by_cases h2 : i = a <;> by_cases h3 : i ∈ o <;> cases q i <;> simp [h2, h3]
      rw [e]
      exact countP_or_le _ _ l
    have h2 : (l.countP fun i => decide (i = a) && q i) ≤ if q a = true then 1 else 0 := by
      cases hq : q a with
      | false =>
        have : (l.countP fun i => decide (i = a) && q i) = 0 := by
          rw [List.countP_eq_zero]
          intro i _ h
          simp only [Bool.and_eq_true, decide_eq_true_eq] at h
          rw [h.1, hq] at h
          exact absurd h.2 (by decide)
        rw [this]; exact Nat.zero_le _
      | true =>
        have h3 : (l.countP fun i => decide (i = a) && q i) ≤ l.countP fun i => i == a := by
          refine List.countP_mono_left fun i _ h => ?_
          simp only [Bool.and_eq_true, decide_eq_true_eq] at h
          simpa using h.1
        have h4 : (l.countP fun i => i == a) ≤ 1 := by
          have : l.count a ≤ 1 := List.nodup_iff_count.mp hl a
          rw [List.count_eq_countP] at this
          exact this
        simp only [if_true]
        omega
    omega
theorem Chs.heads {S : List Lt} (r : Nat) : ∀ {gr : List (Nat × List (List Nat))} {o : List Nat}, Chs (allPicks rm gr) o → (∀ p ∈ gr, ∀ g ∈ p.2, ∀ i ∈ g, (atS S i).rest.head? = some p.1) → (gr.map (·.1)).Nodup →
    (o.countP fun i => decide ((atS S i).rest.head? = some r)) ≤ rm r ∧ (r ∉ gr.map (·.1) → (o.countP fun i => decide ((atS S i).rest.head? = some r)) = 0)
  | [], o, h, _, _ => by
    have h : o = [] := h
    subst h
    exact ⟨Nat.zero_le _, fun _ => rfl⟩
  | p :: gr, o, h, hh, hd => by
    obtain ⟨o1, h1, o2, h2, rfl⟩ := h
    obtain ⟨i1, i2⟩ := Chs.heads r h2 (fun q hq => hh q (List.mem_cons_of_mem _ hq)) (List.nodup_cons.mp hd).2
    obtain ⟨l1, s1⟩ := ways_len h1
    have hp : ∀ i ∈ o1, (atS S i).rest.head? = some p.1 := fun i hi => by
      obtain ⟨g, hg, hi⟩ := List.mem_flatten.mp (s1 i hi)
      exact hh p (List.mem_cons_self ..) g hg i hi
    rw [List.countP_append]
    by_cases e : p.1 = r
    · have z : r ∉ gr.map (·.1) := by rw [← e]; exact (List.nodup_cons.mp hd).1
      rw [i2 z]
      have : (o1.countP fun i => decide ((atS S i).rest.head? = some r)) ≤ o1.length := List.countP_le_length
      refine ⟨by rw [l1] at this; rw [← e] at this ⊢; omega, fun h => absurd (by rw [List.map_cons, e]; exact List.mem_cons_self ..) h⟩
    · have z : (o1.countP fun i => decide ((atS S i).rest.head? = some r)) = 0 := by
        rw [List.countP_eq_zero]
        intro i hi h
        simp only [decide_eq_true_eq] at h
        rw [hp i hi] at h
        exact e (Option.some.inj h)
      rw [z]
      refine ⟨by omega, fun h => ?_⟩
      rw [i2 (fun z => h (List.mem_cons_of_mem _ z))]
theorem Grp.mem {S : List Lt} {t : Int} {gr : List (Nat × List (List Nat))} (G : Grp S t gr) {i : Nat} : (i ∈ gr.flatMap fun p => p.2.flatten) ↔ i < S.length ∧ (atS S i).ready ≤ t := by
  rw [G.perm.mem_iff, List.mem_filter, List.mem_range, decide_eq_true_eq]
theorem Grp.nodup {S : List Lt} {t : Int} {gr : List (Nat × List (List Nat))} (G : Grp S t gr) : (gr.flatMap fun p => p.2.flatten).Nodup :=
  G.perm.nodup_iff.mpr (List.nodup_range.filter _)
theorem atS_mem {S : List Lt} {i : Nat} (h : i < S.length) : atS S i ∈ S := by
  have : atS S i = S[i] := by simp [atS, h]
  rw [this]; exact List.getElem_mem h
/-- every pick may be made -/
theorem pick_ok {S : List Lt} {t : Int} {gr : List (Nat × List (List Nat))} (G : Grp S t gr) (hS : ∀ x ∈ S, x.rest ≠ []) {o : List Nat} (ho : o ∈ prods (allPicks rm gr)) : Okp rm t (pk S o) := by
  have hc := mem_prods.mp ho
  refine ⟨fun p hp hb => ?_, fun r => ?_⟩
  · obtain ⟨i, hi, e⟩ := List.mem_map.mp hp
    subst e
    have hi := List.mem_range.mp hi
    have hio : i ∈ o := of_decide_eq_true hb
    exact ⟨hS _ (atS_mem hi), (G.mem.mp (hc.sub i hio)).2⟩
  · have e : cnt r (pk S o) = (List.range S.length).countP fun i => decide (i ∈ o) && decide ((atS S i).rest.head? = some r) := by
      unfold cnt pk
      rw [List.countP_map]
      rfl
    rw [e]
    exact Nat.le_trans (countP_mem_le List.nodup_range _ o) (hc.heads (S := S) r G.head G.road).1
theorem marks_of {S : List Lt} {P : List (Bool × Lt)} (e : P.map (·.2) = S) : P = (List.range S.length).map fun i => ((P.getD i default).1, atS S i) := by
  subst e
  rw [List.length_map]
  apply List.ext_getElem?
  intro i
  rw [List.getElem?_map]
  by_cases h : i < P.length
  · rw [List.getElem?_range h, List.getElem?_eq_getElem h]
    simp [atS, h]
  · rw [List.getElem?_eq_none (by omega), List.getElem?_eq_none (by simp; omega)]
    rfl
/-- whatever may be passed, some pick is as good -/
theorem pick_best (h1 : ∀ r, 1 ≤ tm r) {S : List Lt} {t : Int} {gr : List (Nat × List (List Nat))} (G : Grp S t gr) (hS : ∀ x ∈ S, x.rest ≠ []) {P : List (Bool × Lt)} (e : P.map (·.2) = S) (ok : Okp rm t P) :
    ∃ o ∈ prods (allPicks rm gr), R tm (t + 1) ((pk S o).map (stp tm t)) (P.map (stp tm t)) := by
  have hP := marks_of e
  generalize hb : (fun i => (P.getD i default).1) = b at hP
  have hP : P = (List.range S.length).map fun i => (b i, atS S i) := by rw [hP, ← hb]
  have okb : ∀ i, i < S.length → b i = true → (atS S i).ready ≤ t := fun i hi hbi => (ok.1 (b i, atS S i) (by rw [hP]; exact List.mem_map.mpr ⟨i, List.mem_range.mpr hi, rfl⟩) hbi).2
  have inG : ∀ p ∈ gr, ∀ g ∈ p.2, ∀ i ∈ g, i < S.length ∧ (atS S i).ready ≤ t := fun p hp g hg i hi => G.mem.mp (List.mem_flatMap.mpr ⟨p, hp, List.mem_flatten.mpr ⟨g, hg, hi⟩⟩)
  have cntb : ∀ p ∈ gr, p.2.flatten.countP b ≤ rm p.1 := fun p hp => by
    have h2 : p.2.flatten.countP b = p.2.flatten.countP fun i => b i && decide ((atS S i).rest.head? = some p.1) := by
      refine List.countP_congr fun i hi => ?_
      obtain ⟨g, hg, hi⟩ := List.mem_flatten.mp hi
      simp [G.head p hp g hg i hi]
    have h3 := countP_flatMap_le (fun i => b i && decide ((atS S i).rest.head? = some p.1)) (fun p : Nat × List (List Nat) => p.2.flatten) hp
    rw [G.perm.countP_eq] at h3
    have h4 : ((List.range S.length).filter fun i => decide ((atS S i).ready ≤ t)).countP (fun i => b i && decide ((atS S i).rest.head? = some p.1)) ≤ (List.range S.length).countP (fun i => b i && decide ((atS S i).rest.head? = some p.1)) :=
      List.Sublist.countP_le List.filter_sublist
    have h5 : cnt p.1 P = (List.range S.length).countP fun i => b i && decide ((atS S i).rest.head? = some p.1) := by
      rw [hP]
      unfold cnt
      rw [List.countP_map]
      rfl
    have h6 := ok.2 p.1
    have h3 : p.2.flatten.countP (fun i => b i && decide ((atS S i).rest.head? = some p.1)) ≤ _ := h3
    omega
  obtain ⟨o, ho, r⟩ := roads_S (tm := tm) (rm := rm) h1 (S := S) (t := t) b G.nodup (fun p hp g hg i hi => (inG p hp g hg i hi).2) (fun p hp g hg i hi => hS _ (atS_mem (inG p hp g hg i hi).1)) G.same G.sort cntb
  refine ⟨o, mem_prods.mpr ho, ?_⟩
  have hperm : (List.range S.length).Perm ((gr.flatMap fun p => p.2.flatten) ++ (List.range S.length).filter fun i => !decide ((atS S i).ready ≤ t)) :=
    (List.filter_append_perm (fun i => decide ((atS S i).ready ≤ t)) (List.range S.length)).symm.trans (G.perm.symm.append_right _)
  have eN : (((List.range S.length).filter fun i => !decide ((atS S i).ready ≤ t)).map fun i => stp tm t (decide (i ∈ o), atS S i)) = ((List.range S.length).filter fun i => !decide ((atS S i).ready ≤ t)).map fun i => stp tm t (b i, atS S i) := by
    refine List.map_congr_left fun i hi => ?_
    obtain ⟨h2, h3⟩ := List.mem_filter.mp hi
    have h3 : ¬ (atS S i).ready ≤ t := by simpa using h3
    have h4 : i ∉ o := fun z => h3 (G.mem.mp (ho.sub i z)).2
    have h5 : b i = false := by
      cases hbi : b i with
      | false => rfl
      | true => exact absurd (okb i (List.mem_range.mp h2) hbi) h3
    rw [h5]
    simp [h4]
  have e1 : (pk S o).map (stp tm t) = (List.range S.length).map fun i => stp tm t (decide (i ∈ o), atS S i) := by
    unfold pk
    rw [List.map_map]
    rfl
  have e2 : P.map (stp tm t) = (List.range S.length).map fun i => stp tm t (b i, atS S i) := by
    rw [hP, List.map_map]
    rfl
  rw [e1, e2]
  refine .trans (.perm (hperm.map _)) (.trans ?_ (.perm (hperm.map _).symm))
  rw [List.map_append, List.map_append, eN]
  exact r.append_right _
/-! ### what the search finds -/
/-- what lies behind a pick: those that are home are gone -/
def behind (tm : Nat → Int) (t : Int) (P : List (Bool × Lt)) : List Lt := (P.map (stp tm t)).filter fun x => !x.rest.isEmpty
theorem R_filter {t : Int} : ∀ L : List Lt, R tm t (L.filter fun x => !x.rest.isEmpty) L
  | [] => R.rfl'
  | x :: L => by
    by_cases h : x.rest = []
    · have : ((x :: L).filter fun x => !x.rest.isEmpty) = L.filter fun x => !x.rest.isEmpty := by
        rw [List.filter_cons_of_neg (by simp [h])]
      rw [this]
      exact .trans (R_filter L) (.drop h)
    · rw [List.filter_cons_of_pos (by simp [h])]
      exact (R_filter L).cons x
theorem filter_R {t : Int} : ∀ L : List Lt, R tm t L (L.filter fun x => !x.rest.isEmpty)
  | [] => R.rfl'
  | x :: L => by
    by_cases h : x.rest = []
    · have : ((x :: L).filter fun x => !x.rest.isEmpty) = L.filter fun x => !x.rest.isEmpty := by
        rw [List.filter_cons_of_neg (by simp [h])]
      rw [this]
      exact .trans (.add h) (filter_R L)
    · rw [List.filter_cons_of_pos (by simp [h])]
      exact (filter_R L).cons x
theorem sav_tried (h1 : ∀ r, 1 ≤ tm r) {S : List Lt} {t : Int} {gr : List (Nat × List (List Nat))} (G : Grp S t gr) (hS : ∀ x ∈ S, x.rest ≠ []) (hne : S ≠ []) (hl : ¬ Late tm t S) :
    Sav tm rm t S ↔ ∃ o ∈ prods (allPicks rm gr), Sav tm rm (t + 1) (behind tm t (pk S o)) := by
  constructor
  · intro s
    cases s with
    | done hh =>
      obtain ⟨x, hx⟩ := List.exists_mem_of_ne_nil S hne
      exact absurd (hh x hx) (hS x hx)
    | step P _ e ok s =>
      obtain ⟨o, ho, r⟩ := pick_best h1 G hS e ok
      exact ⟨o, ho, s.mono h1 (.trans (R_filter _) r)⟩
  · rintro ⟨o, ho, s⟩
    exact .step (pk S o) hl (pk_snd S o) (pick_ok G hS ho) (s.mono h1 (filter_R _))
theorem both_tried (h1 : ∀ r, 1 ≤ tm r) {u : Int} {G : List Lt → Prop} (hG : ∀ S S', R tm (u + 1) S S' → G S' → G S) {S : List Lt} {t : Int} {gr : List (Nat × List (List Nat))} (Gr : Grp S t gr) (hS : ∀ x ∈ S, x.rest ≠ []) (ht : t ≤ u) (hl : ¬ Late tm t S) :
    Both tm rm u G t S ↔ ∃ o ∈ prods (allPicks rm gr), Both tm rm u G (t + 1) (behind tm t (pk S o)) := by
  constructor
  · intro s
    cases s with
    | fin g => omega
    | step P _ _ e ok s =>
      obtain ⟨o, ho, r⟩ := pick_best h1 Gr hS e ok
      exact ⟨o, ho, s.mono h1 hG (.trans (R_filter _) r)⟩
  · rintro ⟨o, ho, s⟩
    exact .step (pk S o) ht hl (pk_snd S o) (pick_ok Gr hS ho) (s.mono h1 hG (filter_R _))
end
end Hc
end

section
set_option Elab.async false
set_option linter.all false
set_option maxRecDepth 100000
set_option maxHeartbeats 4000000
/-! ## Own rules: enumerate(tuple), zip of three lists -/
namespace HcR
open PySem PySem.Spec PyProof.Rows L2
theorem enum_new1 {v : Value} {o : Obj} {Hv : Heap → Prop} (B : Begins v o Hv) :
    Meets (Builtin.«enumerate.__new__» ⟨[.type "enumerate", v], []⟩) (fun _ R s => Hv s.heap ∧
      R (.ok (.ret (.ref (s.heap.push o).objs.size))) { s with heap := (s.heap.push o).push { cls := .type "enumerate", data := .fields #[.none, .bool false, .ref s.heap.objs.size, rawInt 0, .none, .none] } }) :=
  .of_wp fun prog w A R s h => by
    obtain ⟨hp, g, d, tk, os⟩ := s; obtain ⟨h1, h⟩ := h
    have hsub := sub_enumerate
    have q1 : ∀ {A' : Around} {E : Value → Shared → Prop} {Q : Value → Shared → Prop}, Q (.ref hp.objs.size) ⟨hp.push o, g, d, tk, os⟩ → wpAny (model prog w) A' (pyIter v) Q E ⟨hp, g, d, tk, os⟩ :=
      fun q => B.iter prog w _ _ ⟨hp, g, d, tk, os⟩ _ h1 q
    wp_walk using q1
    refine wpAny_stack_any fun st => wpAny_pure ?_
    split
    · rename_i c _ _ _ _ _
      cases (c == Value.type "enumerate")
      · wp_walk using q1
        exact ⟨_, rfl, h⟩
      · wp_walk using q1
        exact ⟨_, rfl, h⟩
    · wp_walk using q1
      exact ⟨_, rfl, h⟩
theorem enum_call1 {prog : Program} {w : World} {A : Around} {E : Value → Shared → Prop} {s : Shared} {v : Value} {o : Obj} {Hv : Heap → Prop} {Q : Value → Shared → Prop} (B : Begins v o Hv) (h1 : Hv s.heap)
    (h : ∀ h', IsEnum h' (s.heap.objs.size + 1) s.heap.objs.size 0 .none → h'.get? s.heap.objs.size = some o → h'.objs.size = s.heap.objs.size + 2 →
      (∀ b o, s.heap.get? b = some o → h'.get? b = some o) → Q (.ref (s.heap.objs.size + 1)) { s with heap := h' }) :
    wpAny (model prog w) A (call (.type "enumerate") [v]) Q E s := by
  refine callType_new F.called_enumerate (by decide) (F.typeCall_enumerate_1 _) (F.newCall_enumerate_1 _) (fun obj => F.args_object_init_2 obj _) F.entry_enumerate_new
    (enum_new1 B) ⟨h1, ?_⟩
  have hz : (s.heap.push o).objs.size = s.heap.objs.size + 1 := Heap.size_push ..
  show _ ∧ _
  rw [hz]
  have he : IsEnum ((s.heap.push o).push { cls := .type "enumerate", data := .fields #[.none, .bool false, .ref s.heap.objs.size, rawInt 0, .none, .none] }) (s.heap.objs.size + 1) s.heap.objs.size 0 .none := by
    have := Heap.get?_push_size (s.heap.push o) (o := { cls := .type "enumerate", data := .fields #[.none, .bool false, .ref s.heap.objs.size, rawInt 0, .none, .none] }) rfl
    rw [hz] at this; exact this
  exact ⟨⟨_, he, rfl⟩, h _ he (Heap.get?_push_of_some _ (Heap.get?_push_size _ B.free)) (by rw [Heap.size_push, hz]) fun b o x => Heap.get?_push_of_some _ (Heap.get?_push_of_some _ x)⟩

/-- the tuple at a, each item in a new pair with its number -/
def IteT (K : PySem.W.Frag) (a : Addr) (xs : List V) : It :=
  ⟨fun i H => SqT K H a xs ∧ i < xs.length, fun i H v H' => ∃ T x, v = .ref T ∧ H T = none ∧ H' = upd H T (.tup [.int (i : Nat), x]) ∧ xs[i]? = some x, fun i H => SqT K H a xs ∧ i = xs.length⟩
theorem turn_enumT {P : Program} {w : World} {K : PySem.W.Frag} {elts : List Expr} {kk : Nat} {tpos : Pos} (a e it : Addr) (xs : List V) (hea : a ≠ e) (hia : a ≠ it) (hei : e ≠ it) :
    Turn P w K (.Tuple elts kk tpos) (IteT K a xs) [e, it] e (fun i h => (∃ old, IsEnum h e it ((0 : Int) + (i : Nat)) old) ∧ h.IsTupleIter it a i) where
  mem := by simp
  obj := fun i h st b hb => by
    obtain ⟨⟨old, he⟩, ⟨o, ho, hc, hd⟩⟩ := st
    have e' : b = e ∨ b = it := by simpa using hb
    rcases e' with z | z
    · rw [z]; exact ⟨_, he, fun v q => nomatch q⟩
    · rw [z]; exact ⟨o, ho, fun v q => by rw [hd] at q; cases q⟩
  keep := fun i h h' st k => let ⟨⟨old, he⟩, hi⟩ := st; ⟨⟨old, k e (by simp) _ he⟩, hi.at fun o q => k it (by simp) o q⟩
  item := by
    intro X hP hw hK hc i pins s σ H E I hf st hg
    subst hP hw hK
    obtain ⟨hq, hi⟩ := hg
    obtain ⟨its, rv, p, hz⟩ := I.tuple hq
    have hx : xs[i]? = some xs[i] := List.getElem?_eq_getElem hi
    obtain ⟨u, hu, ru⟩ := rv.get hx
    have hl := rv.length
    have G := GoesN.enumFrom (prog := X.prog) (w := X.w) (A := X.A) (elts := elts) (x1 := kk) (pos := tpos) 0 (Draws.tuple (show X.A.in1.handled = none from I.ok.hd hc) it a hia its.toArray) e hei (by simp [hei, Ne.symm hea]) (by simp)
    have el : e < s.heap.objs.size := by obtain ⟨⟨_, q⟩, _⟩ := st; exact Heap.lt_size q
    have il : it < s.heap.objs.size := by obtain ⟨_, ⟨_, q, _⟩⟩ := st; exact Heap.lt_size q
    refine wpAny_mono (G.goes i s (fun v s2 => ∃ x H', Inv X pins σ H' s2 ∧ RelV x v ∧ (IteT X.K a xs).yld i H x H' ∧ ((∃ old, IsEnum s2.heap e it ((0 : Int) + ((i + 1 : Nat) : Nat)) old) ∧ s2.heap.IsTupleIter it a (i + 1)) ∧ ∀ b ∈ [e, it], H' b = none) E (by simp; omega) ⟨st.1, st.2, p⟩ fun v h' tk hY hst hk _ => ?_) (fun r s1 q => ?_) fun _ _ z => z
    · obtain ⟨T, t, x, rfl, hT, hPx, hTT⟩ := hY
      have ex : x = u := by
        have e1 : its[i]? = some x := by simpa using hPx
        rw [hu] at e1
        exact (Option.some.inj e1).symm
      subst ex
      have new : ObjOk X.prog X.w (upd H T (.tup [.int (i : Nat), xs[i]])) h' T (.tup [.int (i : Nat), xs[i]]) :=
        ⟨by show 2 ≤ sizeLine; decide, [.int ((0 : Int) + (i : Int)) t, x], .cons ⟨t, by rw [Int.zero_add]⟩ (.cons ru .nil), hTT⟩
      refine ⟨.ref T, _, I.turnedNew (ch := [e, it]) (fun b ob hb q => hk b ob hb q) hf hT new, rfl, ⟨T, _, rfl, I.hok.fresh hT, rfl, hx⟩, ⟨hst.1, hst.2.1⟩, fun b hb => ?_⟩
      have hbl : b < s.heap.objs.size := by
        have e' : b = e ∨ b = it := by simpa using hb
        rcases e' with z | z
        · rw [z]; exact el
        · rw [z]; exact il
      rw [upd_ne (Nat.ne_of_lt (Nat.lt_of_lt_of_le hbl hT))]
      exact (hf b hb).1
    · obtain ⟨v, e1, q⟩ := q
      exact ⟨v, e1, q⟩
  done := by
    intro X hP hw hK hc i pins s σ H E I hf st hg
    subst hP hw hK
    obtain ⟨hq, hi⟩ := hg
    subst hi
    obtain ⟨its, rv, p, hz⟩ := I.tuple hq
    have hl := rv.length
    have G := GoesN.enumFrom (prog := X.prog) (w := X.w) (A := X.A) (elts := elts) (x1 := kk) (pos := tpos) 0 (Draws.tuple (show X.A.in1.handled = none from I.ok.hd hc) it a hia its.toArray) e hei (by simp [hei, Ne.symm hea]) (by simp)
    have esz : its.toArray.size = xs.length := by simp [hl]
    refine G.stops s _ E (by rw [esz]; exact ⟨st.1, st.2, p⟩) fun h' tk hk _ => ?_
    exact I.turnedL (t' := tk) (ch := [e, it]) (fun b o hb q => hk b o hb q) hf
  self := fun A i s Q E st h => by
    obtain ⟨⟨_, he⟩, _⟩ := st
    exact wpAny_pyIter_enum he h
def iEnumT (K : PySem.W.Frag) (ta : TA) : TI := fun σ H Rr => ta σ H fun vs H1 => ∃ a xs, vs = [.ref a] ∧ SqT K H1 a xs ∧ Rr (IteT K a xs) H1
theorem pi_enumT {X : Cx} {e : Expr} {ta : TA} {p pos tpos : Pos} {elts : List Expr} {kk : Nat} (hg : Gl X "enumerate") (hm : X.mg "enumerate" = none) (ha : PA X [e] ta) (hs : starEach [e] X.env = [(false, eval e X.env)] := by rfl) :
    PI X (.Tuple elts kk tpos) (.Call (.Name "enumerate" p) [e] [] pos) (iEnumT X.K ta) := by
  refine ⟨fun pins s σ H R I h => ?_⟩
  refine Call_ (ld_blt I hg hm boot_enumerate (PyProof.Rows.callWith_type1 (thn (ha.run pos pins s σ H _ I h) fun us s1 ⟨vs, H1, I1, r1, q1⟩ => ?_) hs rfl))
  obtain ⟨a, xs, ex, hq, q⟩ := q1
  subst ex
  cases r1 with
  | cons r rr =>
    cases rr
    cases r
    obtain ⟨its, rv, p', hz⟩ := I1.tuple hq
    obtain ⟨o1, ho1, _⟩ := id p'
    have la : a < s1.heap.objs.size := Heap.lt_size ho1
    refine enum_call1 (begins_tuple a its.toArray) p' fun h' he hit hsz hk => wpAny_pyIter_enum he ?_
    have I2 : Inv X pins σ H1 { s1 with heap := h' } := I1.kept (t' := s1.toks) hk
    refine ⟨s1.heap.objs.size + 1, [s1.heap.objs.size + 1, s1.heap.objs.size], _, _, H1, rfl, I2, turn_enumT a (s1.heap.objs.size + 1) s1.heap.objs.size xs (Nat.ne_of_lt (Nat.lt_succ_of_lt la)) (Nat.ne_of_lt la) (Nat.succ_ne_self _), ⟨⟨.none, he⟩, ⟨_, hit, rfl, rfl⟩⟩, fun b hb => ?_, q⟩
    have e' : b = s1.heap.objs.size + 1 ∨ b = s1.heap.objs.size := by simpa using hb
    have hle : s1.heap.objs.size ≤ b := by
      rcases e' with z | z
      · rw [z]; exact Nat.le_add_right _ _
      · rw [z]; exact Nat.le_refl _
    exact I1.fpOk hle (I1.hok.fresh hle)
theorem walk_enumT {K : PySem.W.Frag} {a : Addr} {xs : List V} : Walk (IteT K a xs) xs.length (fun H => SqT K H a xs) (YPair (fun i => some (.int (i : Nat))) (fun i => xs[i]?)) :=
  ⟨fun i _ hi q => ⟨q, hi⟩, fun _ q => ⟨q, rfl⟩, fun i H v H' _ q y => by
    obtain ⟨T, x, h1, h2, h3, h4⟩ := y
    exact ⟨T, .int (i : Nat), x, h1, h2, h3, rfl, h4⟩⟩

/-- three lists side by side, each three items in a new triple -/
def Itz3 (K : PySem.W.Frag) (a b c : Addr) (xs ys zs : List V) : It :=
  ⟨fun i H => (SqL K H a xs ∧ SqL K H b ys ∧ SqL K H c zs) ∧ i < xs.length,
    fun i H v H' => ∃ T x y z, v = .ref T ∧ H T = none ∧ H' = upd H T (.tup [x, y, z]) ∧ xs[i]? = some x ∧ ys[i]? = some y ∧ zs[i]? = some z,
    fun i H => (SqL K H a xs ∧ SqL K H b ys ∧ SqL K H c zs) ∧ i = xs.length⟩
theorem turn_zip3 {P : Program} {w : World} {K : PySem.W.Frag} {elts : List Expr} {kk : Nat} {tpos : Pos} (a b c : Addr) (N : Nat) (xs ys zs : List V) (ha : a < N) (hb : b < N) (hc : c < N) (hxy : ys.length = xs.length) (hxz : zs.length = xs.length) :
    Turn P w K (.Tuple elts kk tpos) (Itz3 K a b c xs ys zs) [N + 5, N + 3, N + 4, N, N + 1, N + 2] (N + 5)
      (fun i h => IsZip h (N + 5) (N + 3) (N + 4) .none ∧ IsTupOf3 h (N + 3) (.ref N) (.ref (N + 1)) (.ref (N + 2)) ∧ (∃ a1 a2 a3, IsTupOf3 h (N + 4) a1 a2 a3) ∧ h.IsListIter N a i ∧ h.IsListIter (N + 1) b i ∧ h.IsListIter (N + 2) c i) where
  mem := by simp
  obj := fun i h st q hq => by
    obtain ⟨hz, hTI, ⟨x, y, z, hTO⟩, ⟨o1, e1, _, d1⟩, ⟨o2, e2, _, d2⟩, ⟨o3, e3, _, d3⟩⟩ := st
    simp only [List.mem_cons, List.not_mem_nil, or_false] at hq
    rcases hq with rfl | rfl | rfl | rfl | rfl | rfl
    · exact ⟨_, hz, fun v q => nomatch q⟩
    · exact ⟨_, hTI, fun v q => nomatch q⟩
    · exact ⟨_, hTO, fun v q => nomatch q⟩
    · exact ⟨o1, e1, fun v q => by rw [d1] at q; cases q⟩
    · exact ⟨o2, e2, fun v q => by rw [d2] at q; cases q⟩
    · exact ⟨o3, e3, fun v q => by rw [d3] at q; cases q⟩
  keep := fun i h h' st k => by
    obtain ⟨hz, hTI, ⟨x, y, z, hTO⟩, h1, h2, h3⟩ := st
    exact ⟨k _ (by simp) _ hz, k _ (by simp) _ hTI, ⟨x, y, z, k _ (by simp) _ hTO⟩, h1.at fun o q => k _ (by simp) o q, h2.at fun o q => k _ (by simp) o q, h3.at fun o q => k _ (by simp) o q⟩
  item := by
    intro X hP hw hK hcm i pins s σ H E I hf st hg
    subst hP hw hK
    obtain ⟨⟨hq1, hq2, hq3⟩, hi⟩ := hg
    obtain ⟨i1, r1, p1, _⟩ := I.list hq1
    obtain ⟨i2, r2, p2, _⟩ := I.list hq2
    obtain ⟨i3, r3, p3, _⟩ := I.list hq3
    have hx : xs[i]? = some xs[i] := List.getElem?_eq_getElem hi
    have hy : ys[i]? = some (ys[i]'(by omega)) := List.getElem?_eq_getElem (by omega)
    have hz : zs[i]? = some (zs[i]'(by omega)) := List.getElem?_eq_getElem (by omega)
    obtain ⟨u1, hu1, ru1⟩ := r1.get hx
    obtain ⟨u2, hu2, ru2⟩ := r2.get hy
    obtain ⟨u3, hu3, ru3⟩ := r3.get hz
    have l1 := r1.length
    have l2 := r2.length
    have l3 := r3.length
    have hh : X.A.in1.handled = none := I.ok.hd hcm
    have G := GoesN.zip3 (prog := X.prog) (w := X.w) (A := X.A) (elts := elts) (x1 := kk) (pos := tpos) (zip_sep3 (N := N) (fp1 := [a]) (fp2 := [b]) (fp3 := [c]) (by simpa using ha) (by simpa using hb) (by simpa using hc))
      (Draws.list hh N a (Nat.ne_of_lt ha) i1.toArray) (Draws.list hh (N + 1) b (Nat.ne_of_lt (Nat.lt_succ_of_lt hb)) i2.toArray) (Draws.list hh (N + 2) c (Nat.ne_of_lt (Nat.lt_succ_of_lt (Nat.lt_succ_of_lt hc))) i3.toArray)
    have szl : ∀ q ∈ [N + 5, N + 3, N + 4, N, N + 1, N + 2], q < s.heap.objs.size := fun q hq => by
      obtain ⟨hz, hTI, ⟨x, y, z, hTO⟩, ⟨o1, e1, _, d1⟩, ⟨o2, e2, _, d2⟩, ⟨o3, e3, _, d3⟩⟩ := st
      simp only [List.mem_cons, List.not_mem_nil, or_false] at hq
      rcases hq with rfl | rfl | rfl | rfl | rfl | rfl
      · exact Heap.lt_size hz
      · exact Heap.lt_size hTI
      · exact Heap.lt_size hTO
      · exact Heap.lt_size e1
      · exact Heap.lt_size e2
      · exact Heap.lt_size e3
    refine wpAny_mono (G.goes i s (fun v s2 => ∃ x H', Inv X pins σ H' s2 ∧ RelV x v ∧ (Itz3 X.K a b c xs ys zs).yld i H x H' ∧ (IsZip s2.heap (N + 5) (N + 3) (N + 4) .none ∧ IsTupOf3 s2.heap (N + 3) (.ref N) (.ref (N + 1)) (.ref (N + 2)) ∧ (∃ a1 a2 a3, IsTupOf3 s2.heap (N + 4) a1 a2 a3) ∧ s2.heap.IsListIter N a (i + 1) ∧ s2.heap.IsListIter (N + 1) b (i + 1) ∧ s2.heap.IsListIter (N + 2) c (i + 1)) ∧ ∀ b ∈ [N + 5, N + 3, N + 4, N, N + 1, N + 2], H' b = none) E (by simp; omega)
      ⟨st.1, st.2.1, st.2.2.1, ⟨st.2.2.2.1, p1.isList⟩, ⟨st.2.2.2.2.1, p2.isList⟩, ⟨st.2.2.2.2.2, p3.isList⟩⟩ fun v h' tk hY hst hk _ => ?_) (fun r s1 q => ?_) fun _ _ z => z
    · obtain ⟨T, x, y, z, rfl, hT, hPx, hPy, hPz, hTT⟩ := hY
      have ex : x = u1 := by
        have e1 : i1[i]? = some x := by simpa using hPx
        rw [hu1] at e1; exact (Option.some.inj e1).symm
      have ey : y = u2 := by
        have e1 : i2[i]? = some y := by simpa using hPy
        rw [hu2] at e1; exact (Option.some.inj e1).symm
      have ez : z = u3 := by
        have e1 : i3[i]? = some z := by simpa using hPz
        rw [hu3] at e1; exact (Option.some.inj e1).symm
      subst ex ey ez
      have new : ObjOk X.prog X.w (upd H T (.tup [xs[i], ys[i]'(by omega), zs[i]'(by omega)])) h' T (.tup [xs[i], ys[i]'(by omega), zs[i]'(by omega)]) :=
        ⟨by show 3 ≤ sizeLine; decide, [x, y, z], .cons ru1 (.cons ru2 (.cons ru3 .nil)), hTT⟩
      refine ⟨.ref T, _, I.turnedNew (ch := [N + 5, N + 3, N + 4, N, N + 1, N + 2]) (fun q ob hb e => hk q ob (fun m => hb ?_) e) hf hT new, rfl, ⟨T, _, _, _, rfl, I.hok.fresh hT, rfl, hx, hy, hz⟩, ⟨hst.1, hst.2.1, hst.2.2.1, hst.2.2.2.1.1, hst.2.2.2.2.1.1, hst.2.2.2.2.2.1⟩, fun q hq => ?_⟩
      · simp only [List.mem_cons, List.not_mem_nil, or_false] at m ⊢
        rcases m with m | m | m | m | m
        · exact .inl m
        · exact .inr (.inr (.inl m))
        · exact .inr (.inr (.inr (.inl m)))
        · exact .inr (.inr (.inr (.inr (.inl m))))
        · exact .inr (.inr (.inr (.inr (.inr m))))
      · rw [upd_ne (Nat.ne_of_lt (Nat.lt_of_lt_of_le (szl q hq) hT))]
        exact (hf q hq).1
    · obtain ⟨v, e1, q⟩ := q
      exact ⟨v, e1, q⟩
  done := by
    intro X hP hw hK hcm i pins s σ H E I hf st hg
    subst hP hw hK
    obtain ⟨⟨hq1, hq2, hq3⟩, hi⟩ := hg
    subst hi
    obtain ⟨i1, r1, p1, _⟩ := I.list hq1
    obtain ⟨i2, r2, p2, _⟩ := I.list hq2
    obtain ⟨i3, r3, p3, _⟩ := I.list hq3
    have l1 := r1.length
    have l2 := r2.length
    have l3 := r3.length
    have hh : X.A.in1.handled = none := I.ok.hd hcm
    have G := GoesN.zip3 (prog := X.prog) (w := X.w) (A := X.A) (elts := elts) (x1 := kk) (pos := tpos) (zip_sep3 (N := N) (fp1 := [a]) (fp2 := [b]) (fp3 := [c]) (by simpa using ha) (by simpa using hb) (by simpa using hc))
      (Draws.list hh N a (Nat.ne_of_lt ha) i1.toArray) (Draws.list hh (N + 1) b (Nat.ne_of_lt (Nat.lt_succ_of_lt hb)) i2.toArray) (Draws.list hh (N + 2) c (Nat.ne_of_lt (Nat.lt_succ_of_lt (Nat.lt_succ_of_lt hc))) i3.toArray)
    have esz : min (min i1.toArray.size i2.toArray.size) i3.toArray.size = xs.length := by simp; omega
    refine G.stops s _ E (by rw [esz]; exact ⟨st.1, st.2.1, st.2.2.1, ⟨st.2.2.2.1, p1.isList⟩, ⟨st.2.2.2.2.1, p2.isList⟩, ⟨st.2.2.2.2.2, p3.isList⟩⟩) fun h' tk hk _ => ?_
    refine I.turnedL (t' := tk) (ch := [N + 5, N + 3, N + 4, N, N + 1, N + 2]) (fun q o hb e => hk q o (fun m => hb ?_) e) hf
    simp only [List.mem_cons, List.not_mem_nil, or_false] at m ⊢
    rcases m with m | m | m | m | m
    · exact .inl m
    · exact .inr (.inr (.inl m))
    · exact .inr (.inr (.inr (.inl m)))
    · exact .inr (.inr (.inr (.inr (.inl m))))
    · exact .inr (.inr (.inr (.inr (.inr m))))
  self := fun A i s Q E st h => wpAny_pyIter_zip st.1 h
def iZip3 (K : PySem.W.Frag) (ta : TA) : TI := fun σ H Rr => ta σ H fun vs H1 => ∃ a b c xs ys zs, vs = [.ref a, .ref b, .ref c] ∧ (SqL K H1 a xs ∧ SqL K H1 b ys ∧ SqL K H1 c zs) ∧ ys.length = xs.length ∧ zs.length = xs.length ∧ Rr (Itz3 K a b c xs ys zs) H1
theorem pi_zip3 {X : Cx} {e1 e2 e3 : Expr} {ta : TA} {p pos tpos : Pos} {elts : List Expr} {kk : Nat} (hg : Gl X "zip") (hm : X.mg "zip" = none) (ha : PA X [e1, e2, e3] ta)
    (hs : starEach [e1, e2, e3] X.env = (false, eval e1 X.env) :: starEach [e2, e3] X.env := by rfl) (hpl : (backTo pos (starEach [e2, e3] X.env)).any (·.1) = false := by rfl) :
    PI X (.Tuple elts kk tpos) (.Call (.Name "zip" p) [e1, e2, e3] [] pos) (iZip3 X.K ta) := by
  refine ⟨fun pins s σ H R I h => ?_⟩
  refine Call_ (ld_blt I hg hm PyProof.Rows.boot_zip (PyProof.Rows.callWith_type1 (thn (ha.run pos pins s σ H _ I h) fun us s1 ⟨vs, H1, I1, r1, q1⟩ => ?_) hs hpl))
  obtain ⟨a, b, c, xs, ys, zs, ex, ⟨hq1, hq2, hq3⟩, hxy, hxz, q⟩ := q1
  subst ex
  cases r1 with
  | cons r rr =>
    cases rr with
    | cons r' rr =>
      cases rr with
      | cons r'' rr =>
        cases rr
        cases r
        cases r'
        cases r''
        obtain ⟨i1, rv1, p1, _⟩ := I1.list hq1
        obtain ⟨i2, rv2, p2, _⟩ := I1.list hq2
        obtain ⟨i3, rv3, p3, _⟩ := I1.list hq3
        refine zip_begins3 (begins_list a i1.toArray) (begins_list b i2.toArray) (begins_list c i3.toArray) p1.isList p2.isList p3.isList fun h' hz hTI hTO h1 h2 h3 hsz hk => wpAny_pyIter_zip hz ?_
        have I2 : Inv X pins σ H1 { s1 with heap := h' } := I1.kept (t' := s1.toks) hk
        refine ⟨s1.heap.objs.size + 5, [s1.heap.objs.size + 5, s1.heap.objs.size + 3, s1.heap.objs.size + 4, s1.heap.objs.size, s1.heap.objs.size + 1, s1.heap.objs.size + 2], _, _, H1, rfl, I2, turn_zip3 a b c s1.heap.objs.size xs ys zs p1.lt p2.lt p3.lt hxy hxz, ⟨hz, hTI, ⟨_, _, _, hTO⟩, ⟨_, h1, rfl, rfl⟩, ⟨_, h2, rfl, rfl⟩, ⟨_, h3, rfl, rfl⟩⟩, fun q hqm => ?_, q⟩
        have hle : s1.heap.objs.size ≤ q := by
          simp only [List.mem_cons, List.not_mem_nil, or_false] at hqm
          rcases hqm with z | z | z | z | z | z
          · rw [z]; exact Nat.le_add_right _ _
          · rw [z]; exact Nat.le_add_right _ _
          · rw [z]; exact Nat.le_add_right _ _
          · rw [z]; exact Nat.le_refl _
          · rw [z]; exact Nat.le_add_right _ _
          · rw [z]; exact Nat.le_add_right _ _
        exact I1.fpOk hle (I1.hok.fresh hle)
theorem walk_zip3 {K : PySem.W.Frag} {a b c : Addr} {xs ys zs : List V} : Walk (Itz3 K a b c xs ys zs) xs.length (fun H => SqL K H a xs ∧ SqL K H b ys ∧ SqL K H c zs)
    (fun i H v H' => ∃ T x y z, v = .ref T ∧ H T = none ∧ H' = upd H T (.tup [x, y, z]) ∧ xs[i]? = some x ∧ ys[i]? = some y ∧ zs[i]? = some z) :=
  ⟨fun i _ hi q => ⟨q, hi⟩, fun _ q => ⟨q, rfl⟩, fun _ _ _ _ _ _ y => y⟩
end HcR
end

section
set_option Elab.async false
set_option linter.all false
set_option maxRecDepth 100000
set_option maxHeartbeats 4000000
/-! ## Own rules: dicts whose keys are nested tuples -/
namespace HcR
open PySem PySem.Spec PyProof.Rows L2
/-! ### deep data, kept -/
section
variable {K : PySem.W.Frag} {H H' : Hp}
mutual
theorem Dp.keep (hl : ∀ a xs, SqL K H a xs → SqL K H' a xs) (ht : ∀ a xs, SqT K H a xs → SqT K H' a xs) : ∀ {d : PyData} {v : V}, Dp K H v d → Dp K H' v d
  | _, _, .non => .non
  | _, _, .bl b => .bl b
  | _, _, .int i => .int i
  | _, _, .str x => .str x
  | _, _, .lst s a => .lst (hl _ _ s) (DpAll.keep hl ht a)
  | _, _, .tup s a => .tup (ht _ _ s) (DpAll.keep hl ht a)
theorem DpAll.keep (hl : ∀ a xs, SqL K H a xs → SqL K H' a xs) (ht : ∀ a xs, SqT K H a xs → SqT K H' a xs) : ∀ {ds : List PyData} {vs : List V}, DpAll K H vs ds → DpAll K H' vs ds
  | _, _, .nil => .nil
  | _, _, .cons h t => .cons (Dp.keep hl ht h) (DpAll.keep hl ht t)
end
theorem sqT_same (e : Same H H') {a : Addr} {xs : List V} (h : SqT K H a xs) : SqT K H' a xs :=
  h.elim (fun h => .inl (h.elim (fun h => .inl (e _ _ h)) fun ⟨o, h⟩ => .inr ⟨o, e _ _ h⟩)) fun h => .inr h
theorem Dp.same (e : Same H H') {v : V} {d : PyData} (h : Dp K H v d) : Dp K H' v d := Dp.keep (fun _ _ q => e.seq q) (fun _ _ q => sqT_same e q) h
theorem DpAll.same (e : Same H H') {vs : List V} {ds : List PyData} (h : DpAll K H vs ds) : DpAll K H' vs ds := DpAll.keep (fun _ _ q => e.seq q) (fun _ _ q => sqT_same e q) h
/-- an object that is no list and no tuple is replaced -/
def NoSeq : HO → Prop
  | .lst _ => False
  | .tup _ => False
  | .frz _ _ => False
  | _ => True
theorem sqT_upd {p : Addr} {o o' : HO} (h : H p = some o) (hn : NoSeq o) {a : Addr} {xs : List V} (q : SqT K H a xs) : SqT K (upd H p o') a xs := by
  rcases q with (q | ⟨ob, q⟩) | q
  · refine .inl (.inl ?_)
    rw [upd_ne (ne_of q h (fun z => by subst z; exact hn))]; exact q
  · refine .inl (.inr ⟨ob, ?_⟩)
    rw [upd_ne (ne_of q h (fun z => by subst z; exact hn))]; exact q
  · exact .inr q
theorem sqL_upd {p : Addr} {o o' : HO} (h : H p = some o) (hn : NoSeq o) {a : Addr} {xs : List V} (q : SqL K H a xs) : SqL K (upd H p o') a xs := by
  rcases q with (q | ⟨ob, q⟩) | q
  · refine .inl (.inl ?_)
    rw [upd_ne (ne_of q h (fun z => by subst z; exact hn))]; exact q
  · refine .inl (.inr ⟨ob, ?_⟩)
    rw [upd_ne (ne_of q h (fun z => by subst z; exact hn))]; exact q
  · exact .inr q
theorem Dp.upd {p : Addr} {o o' : HO} (h : H p = some o) (hn : NoSeq o) {v : V} {d : PyData} (q : Dp K H v d) : Dp K (upd H p o') v d := Dp.keep (fun _ _ z => sqL_upd h hn z) (fun _ _ z => sqT_upd h hn z) q
theorem same_new {p : Addr} {o : HO} (h : H p = none) : Same H (upd H p o) := fun b u e => by rw [upd_ne (ne_of_none e h)]; exact e
end
/-! ### nested keys -/
section
variable {X : Cx} {pins : List (Addr × Obj)} {σ : L2.St} {H : Hp} {s : Shared}
mutual
theorem nested_of (I : Inv X pins σ H s) : ∀ (k : NestedKey) (v : V) (u : Value), Dp X.K H v k.data → RelV v u → NestedIs s.heap k u
  | .none, _, u, h, r => by cases h; cases r; exact .none
  | .num i, _, u, h, r => by
    cases h
    obtain ⟨t, rfl⟩ := r
    exact .int i t
  | .text x, _, u, h, r => by
    cases h
    obtain ⟨t, rfl⟩ := r
    exact .text x t
  | .tup ks, _, u, h, r => by
    rw [NestedKey.data] at h
    cases h with
    | @tup a xs ds hs ha =>
      cases r
      obtain ⟨its, rv, ⟨o, ho, hc, n, hd⟩, _⟩ := I.tuple hs
      exact .tup ho hc hd (by simpa using nested_ofAll I ks xs its ha rv)
theorem nested_ofAll (I : Inv X pins σ H s) : ∀ (ks : List NestedKey) (vs : List V) (us : List Value), DpAll X.K H vs (NestedKey.datas ks) → Vals vs us → NestedAll s.heap ks us
  | [], _, us, h, r => by cases h; cases r; exact .nil
  | k :: ks, _, us, h, r => by
    rw [NestedKey.datas] at h
    cases h with
    | cons h1 h2 =>
      cases r with
      | cons r1 r2 => exact .cons (nested_of I k _ _ h1 r1) (nested_ofAll I ks _ _ h2 r2)
end
end
abbrev NEnt := NestedKey × Addr × V
def NR (p : NEnt) (q : NestedKey × Addr × Value) : Prop := p.1 = q.1 ∧ p.2.1 = q.2.1 ∧ RelV p.2.2 q.2.2
def NdP (P : Program) (w : World) (a : Addr) (xs : List NEnt) (h : Heap) : Prop := (a == sysModules) = false ∧ xs.length ≤ sizeLine ∧ ∃ vs : List (NestedKey × Addr × Value), Paired NR xs vs ∧
  ∃ o es ep, h.get? a = some o ∧ o.ExactDict ∧ o.data = .dict es ep ∧ es.toList = vs.map (entryOfKey (nestedKind P w)) ∧ (vs.map (·.1)).Nodup
/-- a dict with nested tuples as keys: the key, where its tuple stands, the value -/
def NdO (P : Program) (w : World) (a : Addr) (xs : List NEnt) : HO := .ext (NdP P w a xs)
/-- the keys' tuples stand -/
def NKs (K : PySem.W.Frag) (H : Hp) (xs : List NEnt) : Prop := ∀ x ∈ xs, Dp K H (.ref x.2.1) x.1.data ∧ x.1.depth ≤ 8
def atN (xs : List NEnt) (k : NestedKey) : Option V := (xs.find? fun x => decide (x.1 = k)).map (·.2.2)
def putN (xs : List NEnt) (k : NestedKey) (a : Addr) (v : V) : List NEnt :=
  if (atN xs k).isSome then xs.map (fun x => if x.1 = k then (x.1, x.2.1, v) else x) else xs ++ [(k, a, v)]
theorem NKs.same {K : PySem.W.Frag} {H H' : Hp} {xs : List NEnt} (e : Same H H') (h : NKs K H xs) : NKs K H' xs := fun x hx => ⟨Dp.same e (h x hx).1, (h x hx).2⟩
theorem NKs.upd {K : PySem.W.Frag} {H : Hp} {xs : List NEnt} {p : Addr} {o o' : HO} (e : H p = some o) (hn : NoSeq o) (h : NKs K H xs) : NKs K (upd H p o') xs := fun x hx => ⟨Dp.upd e hn (h x hx).1, (h x hx).2⟩
theorem NKs.put {K : PySem.W.Frag} {H : Hp} {xs : List NEnt} {k : NestedKey} {b : Addr} {v : V} (h : NKs K H xs) (hk : Dp K H (.ref b) k.data) (hd : k.depth ≤ 8) : NKs K H (putN xs k b v) := by
  intro x hx
  unfold putN at hx
  split at hx
  · obtain ⟨y, hy, e⟩ := List.mem_map.mp hx
    subst e
    have q := h y hy
    split
    · exact q
    · exact q
  · rcases List.mem_append.mp hx with hx | hx
    · exact h x hx
    · have e : x = (k, b, v) := by simpa using hx
      subst e
      exact ⟨hk, hd⟩
theorem putN_length (xs : List NEnt) (k : NestedKey) (a : Addr) (v : V) : (putN xs k a v).length ≤ xs.length + 1 := by
  unfold putN
  split
  · rw [List.length_map]; omega
  · rw [List.length_append]; simp
theorem atN_mem {xs : List NEnt} {k : NestedKey} {v : V} (h : atN xs k = some v) : ∃ b, (k, b, v) ∈ xs := by
  unfold atN at h
  obtain ⟨x, hx, e⟩ := Option.map_eq_some_iff.mp h
  have h1 := List.mem_of_find?_eq_some hx
  have h2 : x.1 = k := by simpa using List.find?_some hx
  refine ⟨x.2.1, ?_⟩
  rw [← h2, ← e]; exact h1
theorem atN_put_self (xs : List NEnt) (k : NestedKey) (a : Addr) (v : V) : atN (putN xs k a v) k = some v := by
  unfold putN
  cases e : (atN xs k).isSome with
  | true =>
    rw [if_pos rfl]
    obtain ⟨u, hu⟩ := Option.isSome_iff_exists.mp e
    clear e
    induction xs with
    | nil => simp [atN] at hu
    | cons x xs ih =>
      by_cases hx : x.1 = k
      · simp [atN, hx]
      · have hu' : atN xs k = some u := by simpa [atN, hx] using hu
        have := ih hu'
        simpa [atN, hx] using this
  | false =>
    rw [if_neg (by simp)]
    have hn : atN xs k = none := by simpa using e
    clear e
    induction xs with
    | nil => simp [atN]
    | cons x xs ih =>
      by_cases hx : x.1 = k
      · simp [atN, hx] at hn
      · have hn' : atN xs k = none := by simpa [atN, hx] using hn
        have := ih hn'
        simpa [atN, hx] using this
/-- every entry behind the store is an old one or the new one -/
theorem mem_putN {xs : List NEnt} {k : NestedKey} {a : Addr} {v : V} {x : NEnt} (h : x ∈ putN xs k a v) : x ∈ xs ∨ (x.1 = k ∧ x.2.2 = v) := by
  unfold putN at h
  split at h
  · obtain ⟨y, hy, e⟩ := List.mem_map.mp h
    by_cases hk : y.1 = k
    · rw [if_pos hk] at e
      subst e
      exact .inr ⟨hk, rfl⟩
    · rw [if_neg hk] at e
      subst e
      exact .inl hy
  · rcases List.mem_append.mp h with h | h
    · exact .inl h
    · have e : x = (k, a, v) := by simpa using h
      subst e
      exact .inr ⟨rfl, rfl⟩
theorem keys_putN (xs : List NEnt) (k : NestedKey) (a : Addr) (v : V) (j : NestedKey) : j ∈ (putN xs k a v).map (·.1) ↔ j ∈ xs.map (·.1) ∨ j = k := by
  unfold putN
  split
  · rename_i h
    have e : (xs.map (fun x => if x.1 = k then (x.1, x.2.1, v) else x)).map (·.1) = xs.map (·.1) := by
      rw [List.map_map]
      refine List.map_congr_left fun x _ => ?_
      show (if x.1 = k then (x.1, x.2.1, v) else x).1 = x.1
      split <;> rfl
    rw [e]
    constructor
    · exact .inl
    · rintro (h2 | h2)
      · exact h2
      · subst h2
        obtain ⟨u, hu⟩ := Option.isSome_iff_exists.mp h
        obtain ⟨b, hb⟩ := atN_mem hu
        exact List.mem_map.mpr ⟨_, hb, rfl⟩
  · simp
section
variable {X : Cx} {pins : List (Addr × Obj)} {σ : L2.St} {H : Hp} {s : Shared} {a b : Addr} {xs : List NEnt} {k : NestedKey} {A : Around} {E : Value → Shared → Prop}
theorem nr_at {vs : List (NestedKey × Addr × Value)} (r : Paired NR xs vs) (k : NestedKey) : RelO (atN xs k) ((atKey vs k).map (·.2)) := by
  induction r with
  | nil => exact True.intro
  | @cons p q ps qs h t ih =>
    obtain ⟨h1, h2, h3⟩ := h
    by_cases e : p.1 = k
    · have e2 : q.1 = k := h1 ▸ e
      simp only [atN, atKey, List.find?_cons, e, e2, decide_true, Option.map_some]
      exact h3
    · have e2 : ¬ q.1 = k := h1 ▸ e
      simp only [atN, atKey, List.find?_cons, e, e2, decide_false] at ih ⊢
      exact ih
theorem nr_put {vs : List (NestedKey × Addr × Value)} {v : V} {u : Value} (r : Paired NR xs vs) (k : NestedKey) (b : Addr) (rv : RelV v u) : Paired NR (putN xs k b v) (storedH vs k b u) := by
  have e : (atN xs k).isSome = (atKey vs k).isSome := by
    have q := (nr_at r k).isSome_eq
    rwa [Option.isSome_map] at q
  unfold putN storedH
  rw [e]
  have r1 : Paired NR (xs.map (fun x => if x.1 = k then (x.1, x.2.1, v) else x)) (vs.map (putAt k u)) := by
    clear e
    induction r with
    | nil => exact .nil
    | @cons p q ps qs h t ih =>
      obtain ⟨h1, h2, h3⟩ := h
      refine .cons ?_ ih
      show NR (if p.1 = k then (p.1, p.2.1, v) else p) (if q.1 = k then (q.1, q.2.1, u) else q)
      by_cases e : p.1 = k
      · rw [if_pos e, if_pos (h1 ▸ e)]; exact ⟨h1, h2, rv⟩
      · rw [if_neg e, if_neg (fun z => e (h1.trans z))]; exact ⟨h1, h2, h3⟩
  have r2 : Paired NR (xs ++ [(k, b, v)]) (vs ++ [(k, b, u)]) := by
    clear e r1
    induction r with
    | nil => exact .cons ⟨rfl, rfl, rv⟩ .nil
    | @cons p q ps qs h t ih => exact .cons h ih
  split
  · exact r1
  · exact r2
theorem nd_of (I : Inv X pins σ H s) (e : Rd H a (NdO X.prog X.w a xs)) : NdP X.prog X.w a xs s.heap := (show ObjOk X.prog X.w H s.heap a (NdO X.prog X.w a xs) from e.ok I.hok).1
theorem nd_dict (I : Inv X pins σ H s) (e : Rd H a (NdO X.prog X.w a xs)) (hk : NKs X.K H xs) : (a == sysModules) = false ∧ xs.length ≤ sizeLine ∧ ∃ vs, Paired NR xs vs ∧ s.heap.DictOfH (nestedKind X.prog X.w) a vs := by
  obtain ⟨z, hl, vs, r, o, es, ep, h1, h2, h3, h4, h5⟩ := nd_of I e
  refine ⟨z, hl, vs, r, o, es, ep, h1, h2, h3, h4, fun x hx => ?_, h5⟩
  have all : ∀ {l : List NEnt} {m : List (NestedKey × Addr × Value)}, NKs X.K H l → Paired NR l m → ∀ x ∈ m, (nestedKind X.prog X.w).is s.heap x.1 x.2.1 := by
    intro l m hn q
    induction q with
    | nil => intro x hx; exact nomatch hx
    | @cons p q ps qs hq t ih =>
      intro x hx
      rcases List.mem_cons.mp hx with e | hx
      · subst e
        have h := hn p (List.mem_cons_self ..)
        rw [← hq.1, ← hq.2.1]
        exact ⟨nested_of I _ _ _ h.1 rfl, h.2⟩
      · exact ih (fun y hy => hn y (List.mem_cons_of_mem _ hy)) x hx
  exact all hk r x hx
theorem nd_ok {P : Program} {w : World} {H' : Hp} {h' : Heap} (z : (a == sysModules) = false) (hl : xs.length ≤ sizeLine) {vs : List (NestedKey × Addr × Value)} (r : Paired NR xs vs) (dd : h'.DictOfH (nestedKind P w) a vs) : ObjOk P w H' h' a (NdO P w a xs) := by
  obtain ⟨o, es, ep, h1, h2, h3, h4, _, h5⟩ := dd
  refine ⟨⟨z, hl, vs, r, o, es, ep, h1, h2, h3, h4, h5⟩, ⟨o, h1⟩, fun g1 g2 q k => ?_⟩
  obtain ⟨z, hl, vs, r, o, es, ep, h1, h2⟩ := q
  exact ⟨z, hl, vs, r, o, es, ep, k _ h1, h2⟩
theorem nd_room (hu : A.units + 64 < cLine) : (nestedKind X.prog X.w).room A.in1 := by
  show A.units + 1 + 8 < cLine
  omega
theorem nd_get {v : V} {Q : Value → Shared → Prop} (hu : A.units + 64 < cLine) (I : Inv X pins σ H s) (e : Rd H a (NdO X.prog X.w a xs)) (hk : NKs X.K H xs) (hb : Dp X.K H (.ref b) k.data) (hd : k.depth ≤ 8) (hv : atN xs k = some v)
    (h : ∀ w' s', Inv X pins σ H s' → RelV v w' → Q w' s') : wpAny (model X.prog X.w) A (getItem (.ref a) (.ref b)) Q E s := by
  obtain ⟨z, hl, vs, r, dd⟩ := nd_dict I e hk
  obtain ⟨w', hw, rw'⟩ := RelO.some_of (v := v) (o := (atKey vs k).map (·.2)) (by rw [← hv]; exact nr_at r k)
  obtain ⟨p, hp, hp2⟩ := Option.map_eq_some_iff.mp hw
  refine wpAny_getItem_heap (nd_room (X := X) hu) ⟨nested_of I _ _ _ hb rfl, hd⟩ dd hp ?_
  rw [hp2]
  exact h w' _ (I.tok _) rw'
theorem nd_notIn {Q : Value → Shared → Prop} (hu : A.units + 64 < cLine) (I : Inv X pins σ H s) (e : Rd H a (NdO X.prog X.w a xs)) (hk : NKs X.K H xs) (hb : Dp X.K H (.ref b) k.data) (hd : k.depth ≤ 8)
    (h : ∀ s', Inv X pins σ H s' → Q (.bool (!(atN xs k).isSome)) s') : wpAny (model X.prog X.w) A (compareOp .NotIn (.ref b) (.ref a)) Q E s := by
  obtain ⟨z, hl, vs, r, dd⟩ := nd_dict I e hk
  refine wpAny_notIn_heap (nd_room (X := X) hu) ⟨nested_of I _ _ _ hb rfl, hd⟩ z dd ?_
  have q := (nr_at r k).isSome_eq
  rw [Option.isSome_map] at q
  rw [← q]
  exact h _ (I.tok _)
theorem nd_set {v : V} {u : Value} {Q : Unit → Shared → Prop} (hu : A.units + 64 < cLine) (I : Inv X pins σ H s) (e : H a = some (NdO X.prog X.w a xs)) (hk : NKs X.K H xs) (hb : Dp X.K H (.ref b) k.data) (hd : k.depth ≤ 8) (hl : xs.length < sizeLine) (rv : RelV v u)
    (h : ∀ s', Inv X pins σ (upd H a (NdO X.prog X.w a (putN xs k b v))) s' → Q () s') : wpAny (model X.prog X.w) A (setItem (.ref a) (.ref b) u) Q E s := by
  obtain ⟨z, hl2, vs, r, dd⟩ := nd_dict I (.inl e) hk
  have hz : vs.length ≤ sizeLine := by rw [← Paired.length r]; exact hl2
  have hl3 : (putN xs k b v).length ≤ sizeLine := by have := putN_length xs k b v; omega
  refine wpAny_setItem_heap (hsz := hz) (nd_room (X := X) hu) ⟨nested_of I _ _ _ hb rfl, hd⟩ dd fun h' dd' hs => h _ ?_
  have he : ∃ q, h'.get? a = some q := let ⟨q, _, _, hq, _⟩ := dd'; ⟨q, hq⟩
  exact d_write I (by rw [e]; exact True.intro) hs he (nd_ok z hl3 (nr_put r k b rv) dd')
theorem nd_setd {v : V} {u : Value} {Q : Value → Shared → Prop} (hu : A.units + 64 < cLine) (I : Inv X pins σ H s) (e : H a = some (NdO X.prog X.w a xs)) (hk : NKs X.K H xs) (hb : Dp X.K H (.ref b) k.data) (hd : k.depth ≤ 8) (hl : xs.length < sizeLine) (rv : RelV v u)
    (h1 : ∀ v', atN xs k = some v' → ∀ w' s', Inv X pins σ H s' → RelV v' w' → Q w' s')
    (h2 : atN xs k = none → ∀ s', Inv X pins σ (upd H a (NdO X.prog X.w a (putN xs k b v))) s' → Q u s') : wpAny (model X.prog X.w) A (call (.builtin "dict.setdefault") [.ref a, .ref b, u]) Q E s := by
  obtain ⟨z, hl2, vs, r, dd⟩ := nd_dict I (.inl e) hk
  have hz : vs.length ≤ sizeLine := by rw [← Paired.length r]; exact hl2
  have hl3 : (putN xs k b v).length ≤ sizeLine := by have := putN_length xs k b v; omega
  have q := nr_at r k
  refine call_setdefault_heap (hsz := hz) (nd_room (X := X) hu) ⟨nested_of I _ _ _ hb rfl, hd⟩ z dd (fun p hp => ?_) fun hn h' dd' hs => ?_
  · rw [hp, Option.map_some] at q
    cases hx : atN xs k with
    | none => rw [hx] at q; exact q.elim
    | some v' =>
      rw [hx] at q
      exact h1 v' hx _ _ (I.tok _) q
  · have hx : atN xs k = none := by
      rw [hn] at q
      cases hx : atN xs k with
      | none => rfl
      | some v' => rw [hx] at q; exact q.elim
    have he : ∃ q, h'.get? a = some q := let ⟨q, _, _, hq, _⟩ := dd'; ⟨q, hq⟩
    exact h2 hx _ (d_write I (by rw [e]; exact True.intro) hs he (nd_ok z hl3 (nr_put r k b rv) dd'))
theorem nd_typeIs (I : Inv X pins σ H s) (e : Rd H a (NdO X.prog X.w a xs)) : s.TypeIs (.ref a) "dict" ∧ ∀ b, Value.ref a = .ref b → ∃ ob, s.heap.get? b = some ob ∧ ob.dict = none := by
  obtain ⟨z, hl, vs, r, o, es, ep, h1, h2, h3⟩ := nd_of I e
  exact ⟨⟨o, h1, h2.1⟩, fun b q => by cases q; exact ⟨o, h1, h2.2.1⟩⟩
end
/-! ### rules -/
def tNNew (P : Program) (w : World) : TE := fun _ H Q => ∀ p, H p = none → Q (.ref p) (upd H p (NdO P w p []))
def NAt (P : Program) (w : World) (K : PySem.W.Frag) (H : Hp) (x y : V) (a b : Addr) (xs : List NEnt) (k : NestedKey) : Prop :=
  x = .ref a ∧ y = .ref b ∧ H a = some (NdO P w a xs) ∧ NKs K H xs ∧ Dp K H (.ref b) k.data ∧ k.depth ≤ 8
def tNGet (P : Program) (w : World) (K : PySem.W.Frag) (td ty : TE) : TE := fun σ H Q => td σ H fun x H1 => ty σ H1 fun y H2 => ∃ a b xs k v, NAt P w K H2 x y a b xs k ∧ atN xs k = some v ∧ Q v H2
def tNNotIn (P : Program) (w : World) (K : PySem.W.Frag) (ty td : TE) : TE := fun σ H Q => ty σ H fun y H1 => td σ H1 fun x H2 => ∃ a b xs k, NAt P w K H2 x y a b xs k ∧ Q (.bl (!(atN xs k).isSome)) H2
def sNPut (P : Program) (w : World) (K : PySem.W.Frag) (td ty tv : TE) : TS := fun D σ H => tv σ H fun v H1 => td σ H1 fun x H2 => ty σ H2 fun y H3 => ∃ a b xs k, NAt P w K H3 x y a b xs k ∧ xs.length < sizeLine ∧ D.nx σ (upd H3 a (NdO P w a (putN xs k b v)))
def tNSetd (P : Program) (w : World) (K : PySem.W.Frag) (td ty tx : TE) : TE := fun σ H Q => td σ H fun x H1 => ∃ a xs0, x = .ref a ∧ H1 a = some (NdO P w a xs0) ∧ ty σ H1 fun y H2 => tx σ H2 fun z H3 => ∃ b xs k, NAt P w K H3 x y a b xs k ∧ xs.length < sizeLine ∧
  (∀ v, atN xs k = some v → Q v H3) ∧ (atN xs k = none → Q z (upd H3 a (NdO P w a (putN xs k b z))))
section
variable {X : Cx} {o i e f value : Expr} {pos pos' apos cpos : Pos} {td ty tv tx : TE}
theorem pe_nnew : PE X (.Dict [] [] pos) (tNNew X.prog X.w) := ⟨fun pins s σ H Q I h => by
  have hz : (s.heap.objs.size == sysModules) = false := beq_eq_false_iff_ne.mpr (Ne.symm (Nat.ne_of_lt I.big))
  have ok : ObjOk X.prog X.w (upd H s.heap.objs.size (NdO X.prog X.w s.heap.objs.size [])) (s.heap.push { cls := .type "dict", data := .dict #[] }) s.heap.objs.size (NdO X.prog X.w s.heap.objs.size []) :=
    nd_ok hz (Nat.zero_le _) (vs := []) .nil (Heap.DictOfH.new s.heap)
  exact wpAny_Dict_empty ⟨.ref s.heap.objs.size, _, I.laid (a := s.heap.objs.size) (t' := s.toks) (fun _ _ q => Heap.get?_push_of_some _ q) (Nat.le_refl _) ok, rfl, h _ (I.hok.fresh (Nat.le_refl _))⟩⟩
theorem pe_nget (hu : X.A.units + 64 < cLine) (ho : PE X o td) (hi : PE X i ty) (hs : NoSl i) : PE X (.Subscript o i pos) (tNGet X.prog X.w X.K td ty) := by
  refine ⟨fun pins s σ H Q I h => ?_⟩
  refine subD_of PySem.F.slot_dict_getitem.lookup hs (thn (ho.run pins s σ H _ I h) fun u s1 ⟨x, H1, I1, rx, q1⟩ => thn (hi.run pins s1 σ H1 _ I1 q1) fun iv s2 ⟨y, H2, I2, ry, a, b, xs, k, v, ⟨ex, ey, ea, hk, hb, hd⟩, hv, q2⟩ => ?_)
  subst ex ey
  cases rx
  cases ry
  exact ⟨(nd_typeIs I2 (.inl ea)).1, nd_get hu I2 (.inl ea) hk hb hd hv fun w' s3 I3 rw' => ⟨v, H2, I3, rw', q2⟩⟩
theorem pc_nnotin (hu : X.A.units + 64 < cLine) (hi : PE X i ty) (ho : PE X o td) : PC X .NotIn i o (tNNotIn X.prog X.w X.K ty td) := by
  refine ⟨fun pins s σ H Q I h => ?_⟩
  refine thn (hi.run pins s σ H _ I h) fun iv s1 ⟨y, H1, I1, ry, q1⟩ => thn (ho.run pins s1 σ H1 _ I1 q1) fun u s2 ⟨x, H2, I2, rx, a, b, xs, k, ⟨ex, ey, ea, hk, hb, hd⟩, q2⟩ => ?_
  subst ex ey
  cases rx
  cases ry
  exact nd_notIn hu I2 (.inl ea) hk hb hd fun s3 I3 => ⟨.bl (!(atN xs k).isSome), H2, I3, rfl, q2⟩
theorem ps_nput (hu : X.A.units + 64 < cLine) (ho : PE X o td) (hi : PE X i ty) (hv : PE X value tv) (hs : swapsWith value (some (.Subscript o i pos')) pos.line X.env = pure false) :
    PS X (.Assign [.Subscript o i pos'] value pos) (sNPut X.prog X.w X.K td ty tv) := by
  refine ⟨fun pins s σ H D I h => ?_⟩
  refine wpAny_Assign_Subscript (thn (hv.run pins s σ H _ I h) fun r s1 ⟨v, H1, I1, rv, q1⟩ => thn (ho.run pins s1 σ H1 _ I1 q1) fun u s2 ⟨x, H2, I2, rx, q2⟩ => thn (hi.run pins s2 σ H2 _ I2 q2) fun iv s3 ⟨y, H3, I3, ry, a, b, xs, k, ⟨ex, ey, ea, hk, hb, hd⟩, hl, q3⟩ => ?_) hs
  subst ex ey
  cases rx
  cases ry
  exact nd_set hu I3 ea hk hb hd hl rv fun s4 I4 => ⟨σ, _, I4, q3⟩
theorem pe_nsetd (hu : X.A.units + 64 < cLine) (ho : PE X o td) (he : PE X e ty) (hf : PE X f tx) (m : M2 X o "setdefault" apos e f cpos) : PE X (.Call (.Attribute o "setdefault" apos) [e, f] [] cpos) (tNSetd X.prog X.w X.K td ty tx) := by
  refine ⟨fun pins s σ H Q I h => ?_⟩
  refine wpAny_Call_method m.base m.few m.line PySem.F.plainAttrs_dict PySem.F.slot_dict_setdefault PySem.F.type_dict_setdefault (thn (ho.run pins s σ H _ I h) fun u s1 ⟨x, H1, I1, rx, a, xs0, ex, ea0, q1⟩ => ?_)
  subst ex
  cases rx
  obtain ⟨t1, t2⟩ := nd_typeIs I1 (.inl ea0)
  refine ⟨t1, t2, ?_⟩
  rw [m.trees]
  refine Calls.callWith_builtin rfl (Calls.evalArgs_plain (Calls.spliced_cons (thn (he.run pins s1 σ H1 _ I1 q1) fun iv s2 ⟨y, H2, I2, ry, q2⟩ =>
    Calls.spliced_cons (thn (hf.run pins s2 σ H2 _ I2 q2) fun fv s3 ⟨z, H3, I3, rz, b, xs, k, ⟨_, ey, ea, hk, hb, hd⟩, hl, q3, q4⟩ => Calls.spliced_nil ?_))))
  subst ey
  cases ry
  exact nd_setd hu I3 ea hk hb hd hl rz (fun v hv w' s4 I4 rw' => ⟨v, _, I4, rw', q3 v hv⟩) fun hn s4 I4 => ⟨z, _, I4, rz, q4 hn⟩
end
/-! ### walked: the keys, in order -/
def ItN (d : Addr) (o : Obj) (u : HO) (xs : List NEnt) : It :=
  ⟨fun i H => H d = some (.frz o u) ∧ i < xs.length, fun i H v H' => H' = H ∧ ∃ x, xs[i]? = some x ∧ v = .ref x.2.1, fun i H => H d = some (.frz o u) ∧ i = xs.length⟩
theorem nr_get {xs : List NEnt} {vs : List (NestedKey × Addr × Value)} (r : Paired NR xs vs) : ∀ {i : Nat} {x : NEnt}, xs[i]? = some x → ∃ y, vs[i]? = some y ∧ NR x y := by
  induction r with
  | nil => intro i x h; simp at h
  | @cons p q ps qs h t ih =>
    intro i x hx
    cases i with
    | zero =>
      simp only [List.getElem?_cons_zero, Option.some.injEq] at hx
      subst hx
      exact ⟨q, by simp, h⟩
    | succ j =>
      simp only [List.getElem?_cons_succ] at hx
      obtain ⟨y, hy, ny⟩ := ih hx
      exact ⟨y, by simpa using hy, ny⟩
theorem frzN {X : Cx} {pins : List (Addr × Obj)} {σ : L2.St} {H : Hp} {s : Shared} {d : Addr} {o : Obj} {xs : List NEnt} (I : Inv X pins σ H s) (h : H d = some (.frz o (NdO X.prog X.w d xs))) :
    (d == sysModules) = false ∧ s.heap.get? d = some o ∧ o.ExactDict ∧ ∃ (es : Array DictEntry) (ep : Nat), o.data = .dict es ep ∧ es.size = xs.length ∧
      ∀ (i : Nat) (x : NEnt), xs[i]? = some x → ∃ en, es[i]? = some en ∧ en.key = .ref x.2.1 := by
  obtain ⟨hd, ⟨z, hl, vs, r, o', es, ep, h1, h2, h3, h4, h5⟩, _⟩ := (show ObjOk X.prog X.w H s.heap d (.frz o (NdO X.prog X.w d xs)) from I.hok d _ h)
  rw [hd] at h1
  cases h1
  refine ⟨z, hd, h2, es, ep, h3, ?_, fun i x e => ?_⟩
  · have l1 : es.size = vs.length := size_of_entries h4
    have l2 := Paired.length r
    omega
  · obtain ⟨y, hy, ny⟩ := nr_get r e
    have q := entry_at h4 i
    rw [hy] at q
    refine ⟨_, q, ?_⟩
    show Value.ref y.2.1 = _
    rw [ny.2.1]
theorem turn_nkeys {P : Program} {w : World} {K : PySem.W.Frag} {tg : Expr} {xs : List NEnt} {d it : Addr} {o : Obj} {es : Array DictEntry} {ep : Nat} (hod : o.data = .dict es ep) :
    Turn P w K tg (ItN d o (NdO P w d xs) xs) [it] it (fun i h => h.IsKeyIter it d i xs.length ep) where
  mem := by simp
  obj := fun i h st b hb => by
    have e : b = it := by simpa using hb
    subst e
    obtain ⟨oi, e, c, dd⟩ := st
    exact ⟨oi, e, fun v z => by rw [dd] at z; cases z⟩
  keep := fun i h h' st k => st.at fun oi e => k it (by simp) oi e
  item := by
    intro X hP hw hK hc i pins s σ H E I hf st hg
    subst hP hw hK
    obtain ⟨hd, hi⟩ := hg
    obtain ⟨f0, f1, f2, f3, f4, f5⟩ := hf it (by simp)
    obtain ⟨hs, hgd, hx, es', ep', hdt, hsz, ent⟩ := frzN I hd
    obtain ⟨rfl, rfl⟩ := dict_ep hod hdt
    have hkv : xs[i]? = some xs[i] := List.getElem?_eq_getElem hi
    obtain ⟨en, hen, hkey⟩ := ent i _ hkv
    refine next_key_item st hgd hdt hsz hen fun h' st' sb => ?_
    have I1 : Inv X pins σ H { s with heap := h' } := I.turned (t' := s.toks) (fun b ob hb e => (sb.2 b hb).trans e) f0 f1 f3 f4 f5
    obtain ⟨oi, e, c, dd⟩ := id st'
    exact ⟨en.key, rfl, go_of (s := { s with heap := h' }) e c dd (by decide) ⟨.ref xs[i].2.1, H, I1, hkey, ⟨rfl, xs[i], hkv, rfl⟩, st', fun b hb => (hf b hb).1⟩⟩
  done := by
    intro X hP hw hK hc i pins s σ H E I hf st hg
    subst hP hw hK
    obtain ⟨hd, hi⟩ := hg
    obtain ⟨f0, f1, f2, f3, f4, f5⟩ := hf it (by simp)
    obtain ⟨hs, hgd, hx, es', ep', hdt, hsz, ent⟩ := frzN I hd
    obtain ⟨rfl, rfl⟩ := dict_ep hod hdt
    exact next_key_end (I.ok.hd hc) st hgd hdt hsz (by omega) fun h' eb => ⟨rfl, I.turned (t' := s.toks) (fun b ob hb e => eb b ob hb e) f0 f1 f3 f4 f5⟩
  self := fun A i s Q E st h => wpAny_pyIter_keyiter st h
/-- for k in d, the dict locked -/
def iKeysN (P : Program) (w : World) (td : TE) : TI := fun σ H R => td σ H fun x H1 => ∃ d o xs, x = .ref d ∧ H1 d = some (.frz o (NdO P w d xs)) ∧ R (ItN d o (NdO P w d xs) xs) H1
theorem pi_nkeys {X : Cx} {tg e : Expr} {td : TE} (he : PE X e td) : PI X tg e (iKeysN X.prog X.w td) := by
  refine ⟨fun pins s σ H R I h => ?_⟩
  refine thn (he.run pins s σ H _ I h) fun u s1 ⟨x, H1, I1, rx, d, o, xs, ex, hd, q⟩ => ?_
  subst ex
  cases rx
  obtain ⟨hs, hgd, hx, es, ep, hdt, hsz, ent⟩ := frzN I1 hd
  refine iter_keys hs hgd hx hdt (pi_one (tk := s1.toks) I1 _ (turn_nkeys hdt) ⟨_, Heap.get?_push_size _ rfl, rfl, ?_⟩ q)
  rw [hsz] <;> rfl
theorem walk_nkeys {d : Addr} {o : Obj} {u : HO} {xs : List NEnt} : Walk (ItN d o u xs) xs.length (fun H => H d = some (.frz o u)) (fun i H v H' => H' = H ∧ ∃ x, xs[i]? = some x ∧ v = .ref x.2.1) :=
  ⟨fun i _ hi q => ⟨q, hi⟩, fun _ q => ⟨q, rfl⟩, fun _ _ _ _ _ _ y => y⟩
end HcR
end

section
set_option Elab.async false
set_option linter.all false
set_option maxRecDepth 100000
set_option maxHeartbeats 4000000
/-! ## Own rule: sorted(xs, key=lambda n: a[n][2]), a an outer tuple of triples -/
namespace HcR
open PySem PySem.Spec PyProof.Rows L2 LamX
/-- everything but L and the base, as news -/
def allNews (h0 : Heap) (L : Addr) (h : Heap) : List (Addr × Obj) :=
  (List.range h.objs.size).filterMap fun b => if b = L then none else if (h0.get? b).isSome then none else (h.get? b).map fun o => (b, o)
theorem allNews_ok (h0 : Heap) (L : Addr) (h : Heap) : News h0 L h (allNews h0 L h) := by
  intro p hp
  obtain ⟨b, _, e⟩ := List.mem_filterMap.mp hp
  split at e
  · cases e
  · rename_i hL
    split at e
    · cases e
    · rename_i h1
      obtain ⟨o, ho, e2⟩ := Option.map_eq_some_iff.mp e
      subst e2
      refine ⟨ho, hL, ?_⟩
      cases q : h0.get? b with
      | none => rfl
      | some _ => rw [q] at h1; exact absurd rfl h1
theorem mem_allNews {h0 h : Heap} {L b : Addr} {o : Obj} (hb : b ≠ L) (h1 : h0.get? b = none) (ho : h.get? b = some o) : (b, o) ∈ allNews h0 L h := by
  refine List.mem_filterMap.mpr ⟨b, List.mem_range.mpr (Heap.lt_size ho), ?_⟩
  rw [if_neg hb, h1, ho]
  rfl
theorem kept_of {h0 h h' : Heap} {L b : Addr} {m : Str → Option Value} {o : Obj} {need : List (Addr × Obj)} (F : Fr h0 L h' m) (N : News h0 L h' need) (hn : ∀ p ∈ allNews h0 L h, p ∈ need) (h0k : ∀ b o, h0.get? b = some o → h.get? b = some o) (hb : b ≠ L) (ho : h.get? b = some o) : h'.get? b = some o := by
  cases q : h0.get? b with
  | none => exact (N _ (hn _ (mem_allNews hb q ho))).1
  | some o' =>
    have e := h0k b o' q
    rw [ho] at e
    cases e
    exact F.keep b o q
/-- the lambda's parts -/
abbrev kArgs (n : Str) (p : Pos) : Arguments := ⟨[], [⟨n, none, p⟩], none, [], [], none, []⟩
abbrev kBody (a n : Str) (p1 p2 p3 p4 p5 : Pos) : Expr := .Subscript (.Subscript (.Name a p1) (.Name n p2) p3) (.Constant (.int 2) 0 p4) p5
abbrev kScope (a n : Str) : Scope := ⟨.function, [(n, .local), (a, .free)], false, false, []⟩
def kv (v : Value) : Nat := (numOf v).toNat
/-- what the keyed sort is asked: the numbers, the triples' tuple, the keys -/
def SKeyed (K : PySem.W.Frag) (H : Hp) (t : Addr) (ns : List Nat) (key : Nat → Int) : Prop :=
  ∃ ts : List V, SqT K H t ts ∧ ∀ n ∈ ns, ∃ b r v, ts[n]? = some (.ref b) ∧ SqT K H b [r, v, .int (key n)]
def tSortK (K : PySem.W.Frag) (T : List (Addr × Str)) (i : Nat) (te : TE) : TE := fun σ H Q => te σ H fun x H1 => Tabs T H1 ∧ ∃ (l t : Addr) (ns : List Nat) (key : Nat → Int),
  x = .ref l ∧ SqL K H1 l (ns.map fun n : Nat => V.int (n : Int)) ∧ ns.length < 64 ∧ σ[i]? = some (some (.ref t)) ∧ SKeyed K H1 t ns key ∧
  ∀ (H2 : Hp) (p : Addr) (ms : List Nat), ExtN H1 H2 → Tabs T H2 → H2 p = none → ms.Perm ns → ms.Pairwise (fun x y => key x ≤ key y) → Q (.ref p) (upd H2 p (.lst (ms.map fun n : Nat => V.int (n : Int))))
theorem seqT_extN {K : PySem.W.Frag} {H H' : Hp} (e : ExtN H H') {a : Addr} {xs : List V} (h : SqT K H a xs) : SqT K H' a xs :=
  h.elim (fun h => .inl (h.elim (fun h => .inl (e _ _ h fun _ z => by cases z)) fun ⟨o, h⟩ => .inr ⟨o, e _ _ h fun _ z => by cases z⟩)) fun h => .inr h
theorem seqL_extN {K : PySem.W.Frag} {H H' : Hp} (e : ExtN H H') {a : Addr} {xs : List V} (h : SqL K H a xs) : SqL K H' a xs :=
  h.elim (fun h => .inl (h.elim (fun h => .inl (e _ _ h fun _ z => by cases z)) fun ⟨o, h⟩ => .inr ⟨o, e _ _ h fun _ z => by cases z⟩)) fun h => .inr h
theorem SKeyed.extN {K : PySem.W.Frag} {H H' : Hp} (e : ExtN H H') {t : Addr} {ns : List Nat} {key : Nat → Int} (h : SKeyed K H t ns key) : SKeyed K H' t ns key := by
  obtain ⟨ts, h1, h2⟩ := h
  refine ⟨ts, seqT_extN e h1, fun n hn => ?_⟩
  obtain ⟨b, r, v, e1, e2⟩ := h2 n hn
  exact ⟨b, r, v, e1, seqT_extN e e2⟩
theorem natInts : ∀ {ns : List Nat} {us : List Value}, Vals (ns.map fun n : Nat => V.int (n : Int)) us → us.map kv = ns ∧ ∀ u ∈ us, ∃ (n : Nat) (t : Tok), u = .int n t
  | [], _, h => by cases h; exact ⟨rfl, fun _ z => nomatch z⟩
  | n :: ns, _, h => by
    cases h with
    | cons h1 h2 =>
      obtain ⟨t, rfl⟩ := h1
      obtain ⟨e1, e2⟩ := natInts h2
      refine ⟨?_, fun u hu => ?_⟩
      · rw [List.map_cons, e1]; rfl
      · rcases List.mem_cons.mp hu with rfl | hu
        · exact ⟨n, t, rfl⟩
        · exact e2 u hu
theorem ints_nat : ∀ {us : List Value}, (∀ u ∈ us, ∃ (n : Nat) (t : Tok), u = .int n t) → Vals ((us.map kv).map fun n : Nat => V.int (n : Int)) us
  | [], _ => .nil
  | u :: us, h => by
    obtain ⟨n, t, rfl⟩ := h u (List.mem_cons_self ..)
    exact .cons ⟨t, rfl⟩ (ints_nat fun u hu => h u (List.mem_cons_of_mem _ hu))
theorem seq_ne_ns {h : Heap} {b L : Addr} {m : Str → Option Value} {items : Array Value} (ht : IsTup h b items) (hn : h.Ns L m) : b ≠ L := by
  intro e
  subst e
  obtain ⟨o, ho, _, n, hd⟩ := ht
  obtain ⟨o', es, ep, ho', hd', _⟩ := hn
  rw [ho] at ho'
  cases ho'
  rw [hd] at hd'
  cases hd'
theorem lkp2 {n a : Str} {k1 k2 : NameKind} (hna : n ≠ a) : List.lookup a [(n, k1), (a, k2)] = some k2 := by
  rw [List.lookup_cons, show (a == n) = false from beq_eq_false_iff_ne.mpr (Ne.symm hna), List.lookup_cons, beq_self_eq_true]
theorem lkp1 {n a : Str} {k1 k2 : NameKind} : List.lookup n [(n, k1), (a, k2)] = some k1 := by
  rw [List.lookup_cons, beq_self_eq_true]
section
variable {prog : Program} {w : World} {A : Around} {s : Shared} {h₀ : Heap} {L : Addr} {m : Str → Option Value}
/-- one call of the lambda -/
theorem key_turn {q a n : Str} {f c' cA : Addr} {pm ctv : Value} {p p1 p2 p3 p4 p5 : Pos} {t b : Addr} {its jts : List Value} {k : Nat} {tk : Tok} {z : Int} {tz : Tok} {need : List (Addr × Obj)} {E : Value → Shared → Prop}
    (hna : n ≠ a) (hroom : A.depth < recursionLimit) (lim : s.heap.NoLimit) (F : Fr h₀ L s.heap m) (N : News h₀ L s.heap need)
    (hf : s.heap.get? f = some (PySem.W.kla_obj "<lambda>" q (kArgs n p) (kBody a n p1 p2 p3 p4 p5) (kScope a n) [(a, cA)] pm c' ctv))
    (hc : ∃ (oc : Obj) (vs : Array Value) (t : Tok), s.heap.get? c' = some oc ∧ oc.data = .fields vs ∧ vs[1]? = some (.str q t))
    (hcell : s.heap.IsCell cA (some (.ref t))) (ht : IsTup s.heap t its.toArray) (hi : its[k]? = some (.ref b)) (hb : IsTup s.heap b jts.toArray) (hj : jts[2]? = some (.int z tz)) (h3 : jts.length = 3) (hk63 : its.length < 2 ^ 63)
    (hbind : bindArgs (PySem.W.kla_fn "<lambda>" q (kArgs n p) (kBody a n p1 p2 p3 p4 p5) (kScope a n) [(a, cA)] pm (.ref c') ctv) ⟨[.int (k : Int) tk], []⟩ = pure [(n, .int (k : Int) tk)])
    (d1 : (n == ("__debug__" : Str)) = false) (d2 : (a == ("__debug__" : Str)) = false) (d3 : (a == ("__classdict__" : Str)) = false) :
    wpAny (model prog w) A (call (.ref f) [.int (k : Int) tk]) (KskEnd h₀ L m need z s) E s := by
  obtain ⟨oc, vs, tc, hoc, hdc, hvc⟩ := hc
  refine wpAny_call (PySem.W.kla_callFunE (fd := PySem.W.kla_fn "<lambda>" q (kArgs n p) (kBody a n p1 p2 p3 p4 p5) (kScope a n) [(a, cA)] pm (.ref c') ctv) hroom hf rfl rfl rfl rfl ⟨c', oc, vs, tc, rfl, hoc, hdc, hvc⟩ ?_)
  rw [hbind]
  refine wpAny_pure (wpAny_newFunctionEnv (fun y hy => ?_) (fun y hy => ?_) (fun h1 hns hsb => ⟨lim.fresh _ hsb, ?_⟩) rfl)
  · rcases List.mem_cons.mp hy with e | hy
    · rw [e]; exact fun z => nomatch z
    · rw [List.mem_singleton.mp hy]; exact fun z => nomatch z
  · rw [List.mem_singleton.mp hy]
    exact lkp1
  have kp : ∀ b o, s.heap.get? b = some o → h1.get? b = some o := fun b o e => hsb.extBut b o (Nat.ne_of_lt (Heap.lt_size e)) (Heap.get?_push_of_some _ e)
  have tup : ∀ {b : Addr} {xs : Array Value}, IsTup s.heap b xs → IsTup h1 b xs := fun ⟨o, ho, r⟩ => ⟨o, kp _ _ ho, r⟩
  refine PySem.W.kla_codeExpr ?_
  have fin : ∀ tk', KskEnd h₀ L m need z s (.int z tz) { s with heap := h1, toks := tk' } := fun tk' => by
    refine ⟨h1, tk', tz, rfl, rfl, ⟨?_, fun b o e => kp _ _ (F.keep b o e), F.above⟩, fun p hp => ⟨kp _ _ (N p hp).1, (N p hp).2⟩⟩
    obtain ⟨o, es, ep, ho, r⟩ := F.ns
    exact ⟨o, es, ep, kp _ _ ho, r⟩
  refine Subscript_ (Subscript_ (wpAny_Name (wpAny_loadName_free rfl ?_ ?_ (?_ : CellAt h1 cA (some (.ref t))) (wpAny_Name (wpAny_loadName_local rfl ?_ hns (v := .int (k : Int) tk) ?_ ?_) d1) d3) d2))
  · show (List.lookup a [(n, NameKind.local), (a, NameKind.free)]) = some .free
    exact lkp2 hna
  · show List.lookup a [(a, cA)] = some cA
    rw [List.lookup_cons, beq_self_eq_true]
  · obtain ⟨o, ho, hd⟩ := hcell
    exact ⟨o, kp _ _ ho, hd⟩
  · show (List.lookup n [(n, NameKind.local), (a, NameKind.free)]) = some .local
    exact lkp1
  · show List.lookup n [(n, Value.int (k : Int) tk)] = _
    rw [List.lookup_cons, beq_self_eq_true]
  · have hlt : k < its.length := (List.getElem?_eq_some_iff.mp hi).1
    have sq : ∀ {i N : Nat}, i < N → seqIndex? (i : Int) N = some i := fun {i N} h => by
      unfold seqIndex?
      simp only
      split <;> rename_i hh <;> simp at hh ⊢ <;> omega
    refine subscriptTail_builtinR (x := .ref b) (tup ht).typeIs slot_tuple_getitem.lookup (getItem_tuple (j := k) (tup ht) (by omega) (by omega) (sq (by simpa using hlt)) (by simpa using hi) ⟨rfl, ?_⟩)
    refine wpAny_Constant_int ?_
    refine subscriptTail_builtinR (s := { s with heap := h1, toks := _ }) (x := .int z tz) (tup hb).typeIs slot_tuple_getitem.lookup (getItem_tuple (j := 2) (s := { s with heap := h1, toks := _ }) (tup hb) (by omega) (by omega) (sq (i := 2) (by simp; omega)) (by simpa using hj) ⟨rfl, ?_⟩)
    exact fin _
end

theorem objOk_there {P : Program} {w : World} {H : Hp} {h : Heap} {a : Addr} {o : HO} (x : ObjOk P w H h a o) : ∃ u, h.get? a = some u := by
  induction o with
  | lst xs => obtain ⟨_, _, _, _, e⟩ := x; exact ⟨_, e⟩
  | tup xs => obtain ⟨_, _, _, o, e, _⟩ := x; exact ⟨_, e⟩
  | dK kvs => obtain ⟨_, _, _, _, o, _, _, e, _⟩ := x; exact ⟨_, e⟩
  | dT kvs => obtain ⟨_, _, _, _, o, _, _, e, _⟩ := x; exact ⟨_, e⟩
  | set S n => obtain ⟨o, _, _, _, e, _⟩ := x; exact ⟨_, e⟩
  | ins C dx fs => obtain ⟨_, _, _, e, _⟩ := x; exact ⟨_, e⟩
  | own _ => exact x
  | xd fs => obtain ⟨_, ⟨_, _, _, e, _⟩, _⟩ := x; exact ⟨_, e⟩
  | rng lo hi => obtain ⟨_, _, _, e⟩ := x; exact ⟨_, e⟩
  | frz o u ih => exact ⟨_, x.1⟩
  | tbl ps => exact ⟨_, x⟩
  | met f y => exact ⟨_, x⟩
  | ext φ => exact x.2.1
theorem map_snd_zip {α β : Type} : ∀ {xs : List α} {ys : List β}, xs.length = ys.length → (xs.zip ys).map Prod.snd = ys
  | [], [], _ => rfl
  | x :: xs, y :: ys, h => by
    rw [List.zip_cons_cons, List.map_cons, map_snd_zip (by simpa using h)]
theorem mem_zip_keys {key : Nat → Int} : ∀ {ns : List Nat} {us : List Value}, Vals (ns.map fun n : Nat => V.int (n : Int)) us → ∀ q ∈ (ns.map key).zip us, q.1 = key (kv q.2)
  | [], _, h => by cases h; exact fun _ z => nomatch z
  | n :: ns, _, h => by
    cases h with
    | cons h1 h2 =>
      obtain ⟨t, rfl⟩ := h1
      intro q hq
      rw [List.map_cons, List.zip_cons_cons] at hq
      rcases List.mem_cons.mp hq with rfl | hq
      · rfl
      · exact mem_zip_keys h2 q hq
section
variable {X : Cx}
theorem pe_sortK {T : List (Addr × Str)} {c P : Addr} {a n : Str} {i : Nat} {e : Expr} {te : TE} {p p0 p1 p2 p3 p4 p5 pos lpos kpos : Pos} (hu : X.A.depth < recursionLimit) (hg : Gl X "sorted") (hm : X.mg "sorted" = none) (he : PE X e te)
    (TB : TabB X.base X.mg c P) (hcode : X.env.code = .ref c) (hmT : (P, X.env.qual ++ "<lambda>") ∈ T) (huT : ∀ p ∈ T, p.1 = P → p.2 = X.env.qual ++ "<lambda>")
    (hN : X.N[i]? = some a) (hva : X.env.scope.names.lookup a = some .cell ∨ X.env.scope.names.lookup a = some .free) (hna : n ≠ a)
    (hbind : ∀ (q : Str) (cl : List (Str × Addr)) (pm cv ctv v : Value), bindArgs (PySem.W.kla_fn "<lambda>" q (kArgs n p) (kBody a n p1 p2 p3 p4 p5) (kScope a n) cl pm cv ctv) ⟨[v], []⟩ = pure [(n, v)])
    (d1 : (n == ("__debug__" : Str)) = false := by decide) (d2 : (a == ("__debug__" : Str)) = false := by decide) (d3 : (a == ("__classdict__" : Str)) = false := by decide)
    (hb : backTo pos (starEach [e] X.env) = (false, eval e X.env) :: backTo pos (starEach [] X.env) := by rfl) (hpl : (backTo pos (starEach [e] X.env)).any (·.1) = false := by rfl) :
    PE X (.Call (.Name "sorted" p0) [e] [⟨some "key", .Lambda (kArgs n p) (kBody a n p1 p2 p3 p4 p5) (kScope a n) lpos, kpos⟩] pos) (tSortK X.K T i te) := by
  refine ⟨fun pins s σ H Q I h => ?_⟩
  refine wpAny_Call_Name_kw (ld_blt I hg hm (show bootBuiltins (Str.ofString "sorted") = some (.builtin "sorted") from by decide +kernel) ?_ (by decide) (by decide))
  refine PyProof.Rows.callWith_kw ?_ hb hpl (by rfl) (by rfl)
  rw [hb]
  refine Calls.spliced_cons (thn (he.run pins s σ H _ I h) fun u s1 ⟨x, H1, I1, rx, hT, l, t, ns, key, ex, hl, h64, hσ, hk, q⟩ => Calls.spliced_nil ?_)
  subst ex
  cases rx
  have hvis : Vis X.env.scope a := hva.elim (fun h => .inr (.inl h)) fun h => .inr (.inr h)
  have hfree : ∀ y ∈ (kScope a n).names, y.2 = .free → ∃ c, X.env.cells.lookup y.1 = some c := fun y hy e => by
    rcases List.mem_cons.mp hy with z | hy
    · rw [z] at e; cases e
    · rw [List.mem_singleton.mp hy]
      exact I1.ok.has a hva
  show wpAny _ _ (evalAll ((do let v ← eval (.Lambda (kArgs n p) (kBody a n p1 p2 p3 p4 p5) (kScope a n) lpos) X.env; standAt pos; pure v) :: [])) _ _ s1
  refine wpAny_evalAll_cons (wpAny_bind (lam_make2 I1 TB hcode hmT huT hT rfl hfree fun f c' pm ctv H2 s2 I2 eN T2 hf hfn hfr hco => wpAny_bind (wpAny_standAt (wpAny_pure (wpAny_evalAll_nil ?_)))))
  show wpAny _ _ (call (.builtin "sorted") [.ref l] [(Str.ofString "key", .ref f)]) _ _ s2
  obtain ⟨its, rv, pl, hz⟩ := I2.list (seqL_extN eN hl)
  obtain ⟨m, F⟩ := I2.fr
  have hns := F.ns
  obtain ⟨e1, e2⟩ := natInts rv
  have hlen : (ns.map key).length = its.length := by rw [List.length_map, ← e1, List.length_map]
  obtain ⟨ts, hts, hks⟩ := hk.extN eN
  obtain ⟨jts, rt, pt, hz2⟩ := I2.tuple hts
  -- the cell of the tuple's name
  obtain ⟨cA, hcA, hcell⟩ : ∃ cA, X.env.cells.lookup a = some cA ∧ s2.heap.IsCell cA (some (.ref t)) := by
    obtain ⟨m2, hn2, hl2⟩ := I2.loc
    obtain ⟨u, ru, lk⟩ := hl2 i a _ hN hσ hvis
    obtain rfl : u = Value.ref t := ru
    rcases lk with ⟨k, _⟩ | ⟨_, cA, h1, h2⟩
    · have k : X.env.scope.names.lookup a = some .local := k
      rcases hva with z | z <;> rw [z] at k <;> cases k
    · exact ⟨cA, h1, h2⟩
  have hclo : cloFrom X.env.cells (kScope a n).names [] = [(a, cA)] := by
    show cloFrom X.env.cells [(n, .local), (a, .free)] [] = _
    simp only [cloFrom]
    rw [if_neg (by decide), if_pos (by decide), hcA]
    rfl
  rw [hclo] at hf
  have neL : ∀ {b : Addr} {o : Obj}, s2.heap.get? b = some o → (∀ es ep, o.data ≠ .dict es ep) → b ≠ X.env.locals := fun {b o} ho hd z => by
    subst z
    obtain ⟨o', es, ep, ho', hd', _⟩ := hns
    rw [ho] at ho'
    cases ho'
    exact hd _ _ hd'
  obtain ⟨oc, vs, tc, hoc, hdc, hvc⟩ := (show ObjOk X.prog X.w H2 s2.heap c' (CodeO c' _) from I2.hok c' _ hco).1
  have b0 : ∀ b o, X.base.get? b = some o → s2.heap.get? b = some o := I2.bk
  refine ksk_sorted (b := false) (kz := ns.map key) (h₀ := X.base) (L := X.env.locals) (m := m) (news := allNews X.base X.env.locals s2.heap) F (allNews_ok _ _ _) pl.isList hlen (by have := hlen; rw [List.length_map] at this; omega) (ksk_s1 _ _) (fun x => ksk_l1 _ _) (fun x => ksk_t1 _ _)
    (fun j v k hv hkk h tk own F' N' => ?_) fun D h' tk out cc F' N' l1 ko => ?_
  · have kp : ∀ b o, b ≠ X.env.locals → s2.heap.get? b = some o → h.get? b = some o := fun b o hb ho => kept_of F' N' (fun p hp => List.mem_append_left _ hp) b0 hb ho
    have hj : j < its.length := (List.getElem?_eq_some_iff.mp hv).1
    have hvm : v ∈ its := List.mem_of_getElem? hv
    obtain ⟨nn, tk', rfl⟩ := e2 v hvm
    have hnn : ns[j]? = some nn := by
      have z := congrArg (fun l : List Nat => l[j]?) e1
      simp only [List.getElem?_map, hv, Option.map_some] at z
      exact z.symm
    have hkey : k = key nn := by
      rw [List.getElem?_map, hnn] at hkk
      exact (Option.some.inj hkk).symm
    subst hkey
    obtain ⟨b, r, v, hb1, hb2⟩ := hks nn (List.mem_of_getElem? hnn)
    obtain ⟨bits, rb, pb, hz3⟩ := I2.tuple hb2
    obtain ⟨ub, hub, rub⟩ := rt.get hb1
    obtain rfl : ub = Value.ref b := rub
    obtain ⟨uk, huk, ruk⟩ := rb.get (show ([r, v, V.int (key nn)] : List V)[2]? = some (V.int (key nn)) from rfl)
    obtain ⟨tz, rfl⟩ := ruk
    have tup : ∀ {b : Addr} {xs : Array Value}, IsTup s2.heap b xs → IsTup h b xs := fun {b xs} pt => by
      have hne := seq_ne_ns pt hns
      obtain ⟨o, ho, r⟩ := pt
      exact ⟨o, kp _ _ hne ho, r⟩
    refine key_turn (s := { s2 with heap := h, toks := tk }) (E := fun _ _ => False) (tz := tz) (its := jts) (jts := bits) (cA := cA) (t := t) (b := b) (need := allNews X.base X.env.locals s2.heap ++ own) hna (show X.A.depth < _ from hu) (I2.ok.mod.nolimit.keeps F'.keep) F' N' (kp f _ (neL hf (fun _ _ z => by cases z)) hf)
      ⟨oc, vs, tc, kp c' _ (neL hoc (fun es ep z => by rw [hdc] at z; cases z)) hoc, hdc, hvc⟩ ?_ (tup pt) hub (tup pb) huk ?_ ?_ (hbind _ _ _ _ _ _) d1 d2 d3
    · obtain ⟨o, ho, hd⟩ := hcell
      exact ⟨o, kp _ _ (neL ho (fun es ep z => by rw [hd] at z; cases z)) ho, hd⟩
    · have := rb.length
      simpa using this.symm
    · have := rt.length
      have := line63
      omega
  · have kp : ∀ b o, b ≠ X.env.locals → s2.heap.get? b = some o → h'.get? b = some o := fun b o hb ho => kept_of F' N' (fun p hp => List.mem_cons_of_mem _ hp) b0 hb ho
    have nD := N' (D, seqObj "list" out cc) (List.mem_cons_self ..)
    have fD : s2.heap.get? D = none := by
      cases q : s2.heap.get? D with
      | none => rfl
      | some o => exact absurd (l1 _ (mem_allNews nD.2.1 nD.2.2 q)) (Nat.lt_irrefl _)
    have hD : H2 D = none := by
      cases q : H2 D with
      | none => rfl
      | some o =>
        obtain ⟨ob, hob⟩ := objOk_there (I2.hok D o q)
        rw [fD] at hob
        cases hob
    obtain ⟨ps, hp, hout, hpw⟩ := ko
    have hmem : ∀ u ∈ out.toList, u ∈ its := fun u hu => by
      rw [hout] at hu
      obtain ⟨pq, hpq, rfl⟩ := List.mem_map.mp hu
      exact (List.of_mem_zip (hp.mem_iff.mp hpq)).2
    have hout2 : ∀ u ∈ out.toList, ∃ (n : Nat) (t : Tok), u = .int n t := fun u hu => e2 u (hmem u hu)
    have hperm : (out.toList.map kv).Perm ns := by
      rw [hout, ← e1]
      have := (hp.map Prod.snd).map kv
      rwa [map_snd_zip hlen] at this
    have hsort : (out.toList.map kv).Pairwise (fun x y => key x ≤ key y) := by
      rw [hout, List.map_map, List.pairwise_map]
      refine hpw.imp_of_mem fun {x y} hx hy hxy => ?_
      have k1 := mem_zip_keys (key := key) rv x (hp.mem_iff.mp hx)
      have k2 := mem_zip_keys (key := key) rv y (hp.mem_iff.mp hy)
      show key (kv x.2) ≤ key (kv y.2)
      rw [← k1, ← k2]
      simpa using hxy
    have hsz : ((out.toList.map kv).map fun n : Nat => V.int (n : Int)).length ≤ sizeLine := by
      rw [List.length_map, hperm.length_eq]
      rw [sizeLine_eq]
      omega
    refine ⟨.ref D, _, ?_, rfl, q H2 D (out.toList.map kv) eN T2 hD hperm hsort⟩
    have neD : ∀ b o, s2.heap.get? b = some o → b ≠ D := fun b o ho z => by
      rw [z, fD] at ho; cases ho
    have neH : ∀ b u, H2 b = some u → b ≠ D := fun b u e => ne_of_none e hD
    refine I2.step (g' := s2.gens) (d' := s2.drawn) (ch := []) (fun b hb => absurd hb (by simp)) (fun b o hL _ _ e _ => kp b o hL e) (fun b o hL _ _ e _ => ⟨o.slots, kp b o hL e⟩)
      (fun b o _ e n => by rw [upd_ne (neD b o e)]; exact n) (fun b o _ e => ?_) (fun b xs e => by rw [upd_ne (neH b _ e)]; exact e) (fun b o u e => by rw [upd_ne (neH b _ e)]; exact e) (fun b qs e => ⟨#[], by rw [upd_ne (neH b _ e), e]; simp⟩) (fun m' hn => ?_) (fun b u e => ?_) I2.bare
    · by_cases hb : b = X.env.locals
      · rw [hb]
        obtain ⟨o', _, _, ho', _⟩ := F'.ns
        exact ⟨o', ho'⟩
      · exact ⟨o, kp b o hb e⟩
    · rw [hn.eq_nsMap, ← hns.eq_nsMap]
      exact F'.ns
    · by_cases hb : b = D
      · subst hb
        rw [upd_same] at e
        cases e
        exact ⟨hsz, out.toList, cc, ints_nat hout2, by simpa using nD.1⟩
      · rw [upd_ne hb] at e
        refine (I2.hok b u e).stay (fun d v hd q => kp d v ?_ q) (fun d q => by rw [upd_ne (neH d _ q)]; exact q) fun d xs q => by rw [upd_ne (neH d _ q)]; exact q
        rcases hd with z | z
        · rw [z]
          intro z2
          rw [z2, I2.free] at e
          cases e
        · intro z2
          rw [z2, I2.free] at z
          cases z
end
end HcR
end

section
set_option Elab.async false
set_option linter.all false
set_option maxRecDepth 100000
set_option maxHeartbeats 4000000
/-! ## Own rule: the __init__ of an own exception: super().__init__(text); slf.f = p -/
namespace HcR
open PySem PySem.Spec PyProof.Rows L2
/-- the context of a def over __class__, entered -/
def supCx (CX : CXT) (P : Program) (w : World) (K : PySem.W.Frag) (mg : Str → Option Value) (base : Heap) (N : List Str) (qual : Str) (scope : Scope) (f : Addr) (cd : Value) (cc : Addr) (A : Around) (outer : List Env) (s : Shared) (H : Hp) (E : XK) : Cx where
  prog := P
  w := w
  K := K
  mg := mg
  base := base
  A := A.deeper (PySem.W.ksEnv qual scope s.heap.objs.size f cd cc)
  N := N
  s_0 := s
  H_0 := H
  env := PySem.W.ksEnv qual scope s.heap.objs.size f cd cc
  outer := outer
  stack := PySem.W.ksEnv qual scope s.heap.objs.size f cd cc :: outer
  ex := []
  calm := true
  fn := fun _ => false
  pn := []
  xe := fun e s' => wpAny (model P w) (A.deeper (PySem.W.ksEnv qual scope s.heap.objs.size f cd cc)) (leaving (PySem.W.ksEnv qual scope s.heap.objs.size f cd cc) e) (fun _ s'' => CX outer H s E e s'') (fun e' s'' => CX outer H s E e' s'') s'
abbrev supScope (slf part : Str) : Scope := ⟨.function, [(slf, .local), (part, .local), ("super", .globalImplicit), ("__class__", .free)], false, false, []⟩
/-- the names of such a def -/
structure SupS (slf part : Str) (scope : Scope) : Prop where
  kind : scope.kind = .function
  co : scope.isCoroutine = false
  gen : scope.isGenerator = false
  nocell : ∀ x ∈ scope.names, x.2 ≠ .cell
  hself : scope.names.lookup slf = some .local
  hpart : scope.names.lookup part = some .local
  sup : scope.names.lookup ("super" : Str) = some .globalImplicit
  cls : scope.names.lookup ("__class__" : Str) = some .free
  only : ∀ x, scope.names.lookup x = some .free → x = "__class__"
  ne : slf ≠ part
  pd : (part == ("__debug__" : Str)) = false
  sd : (slf == ("__debug__" : Str)) = false
  pc : (part == ("__classdict__" : Str)) = false
  scd : (slf == ("__classdict__" : Str)) = false
/-- the facts of the class at D and of its __init__ at f -/
structure SupF (P : Program) (K : PySem.W.Frag) (mg : Str → Option Value) (D f cda cc : Addr) (name qual slf part fld : Str) (params : Arguments) (scope : Scope) (body : List Stmt) (dV kV doc pm ct oc : Value) (an od : Option Addr) (osl : Array (Option Value)) : Prop where
  lk : K.lookup f = some ⟨oc, od, .func (PySem.W.ksFn name qual params body scope dV kV doc pm an (.ref cda) ct cc), osl⟩
  hcd : PySem.W.codeIn K (.ref cda) qual = true
  hcode : ∃ ccl cdd vs ccs file tf, K.lookup cda = some ⟨ccl, cdd, .fields vs, ccs⟩ ∧ vs[2]? = some (.str file tf) ∧ ((P.main.file : Str) == file) = true
  hcell : ∃ cl cld csl, K.lookup cc = some ⟨cl, cld, .cell (some (.ref D)), csl⟩
  hD : ∃ cd, PySem.W.clsIn K D = some cd
  hsub : PySem.W.mroIn K D (.ref D) = some true
  hsup : PySem.W.ks_superIn K D D "__init__" = some (some (.builtin "ValueError.__init__"))
  hB : PySem.W.subIn K (.ref D) (.type "ValueError") = some true
  ho : PySem.W.nsIn K cStatics "thirdparty.any" = some none
  hmg : mg "super" = none
  htop : (P.main.scope.names.lookup ("super" : Str)).isSome = false
  T : OexC K D
  hno : PySem.W.findIn K (.ref D) fld = some none
  hpar : (params.posonlyargs ++ params.args).head? = some ⟨slf, none, params.args.headD ⟨slf, none, ⟨0, 0, 0, 0⟩⟩ |>.pos⟩
def spSup (D : Addr) (fld : Str) : Sp := fun vs H Q _ => ∃ (a : Addr) (v : V), vs = [.ref a, v] ∧ H a = some (exo a D none) ∧ ∀ dx, H dx = none → dx ≠ a → Q .non (upd (upd H dx (exd dx [(fld, v)])) a (exo a D (some dx)))
theorem lookup2 {slf part : Str} {u v : Value} (h : slf ≠ part) : ([(slf, u), (part, v)] : List (Str × Value)).reverse.lookup slf = some u ∧ ([(slf, u), (part, v)] : List (Str × Value)).reverse.lookup part = some v := by
  constructor
  · show List.lookup slf [(part, v), (slf, u)] = _
    rw [List.lookup_cons, show (slf == part) = false from beq_eq_false_iff_ne.mpr h, List.lookup_cons, beq_self_eq_true]
  · show List.lookup part [(part, v), (slf, u)] = _
    rw [List.lookup_cons, beq_self_eq_true]
theorem sup_init {CX : CXT} {P : Program} {w : World} {K : PySem.W.Frag} {mg : Str → Option Value} {base : Heap} {D f cda cc : Addr} {name qual slf part fld txt : Str} {params : Arguments} {scope : Scope} {dV kV doc pm ct oc : Value} {an od : Option Addr} {osl : Array (Option Value)} {j : Nat} {p0 p1 p2 p3 p4 p5 p6 p7 p8 p9 : Pos}
    (S : SupS slf part scope) (FF : SupF P K mg D f cda cc name qual slf part fld params scope [.Expr (.Call (.Attribute (.Call (.Name "super" p0) [] [] p1) "__init__" p2) [.Constant (.str txt) j p3] [] p4) p5, .Assign [.Attribute (.Name slf p6) fld p7] (.Name part p8) p9] dV kV doc pm ct oc an od osl)
    (hev : ∀ env : Env, ∃ pl : Sem Bool, eval (.Call (.Attribute (.Call (.Name "super" p0) [] [] p1) "__init__" p2) [.Constant (.str txt) j p3] [] p4) env = (do
      let ov ← attributeBase (.Call (.Name "super" p0) [] [] p1) "__init__" env (eval (.Call (.Name "super" p0) [] [] p1) env)
      standAt p2.atName
      let (f, first) ← holding [ov] (getMethod ov "__init__" pl)
      callWith p4 f first (backTo p4 (starEach [.Constant (.str txt) j p3] env)) []))
    (hsw : ∀ env : Env, swapsWith (.Call (.Attribute (.Call (.Name "super" p0) [] [] p1) "__init__" p2) [.Constant (.str txt) j p3] [] p4) none p5.line env = pure false)
    (hsw2 : ∀ env : Env, swapsWith (.Name part p8) (some (.Attribute (.Name slf p6) fld p7)) p9.line env = pure false) :
    FnOk P w K mg base CX 1 f (PySem.W.ksFn name qual params [.Expr (.Call (.Attribute (.Call (.Name "super" p0) [] [] p1) "__init__" p2) [.Constant (.str txt) j p3] [] p4) p5, .Assign [.Attribute (.Name slf p6) fld p7] (.Name part p8) p9] scope dV kV doc pm an (.ref cda) ct cc) [slf, part] (spSup D fld) := by
  refine ⟨fun vs H Q E ⟨a, v, e, _⟩ => by rw [e]; rfl, fun A outer s H args us vs Q E hr e0 hb r hsp => ?_⟩
  obtain ⟨a, v, rfl, ha, hq⟩ := hsp
  obtain ⟨u0, u1, rfl, r0, r1⟩ : ∃ u0 u1, us = [u0, u1] ∧ RelV (.ref a) u0 ∧ RelV v u1 := by
    cases r with
    | cons h1 t1 => cases t1 with
      | cons h2 t2 => cases t2; exact ⟨_, _, rfl, h1, h2⟩
  obtain rfl : u0 = Value.ref a := r0
  have KX : K.In s.heap := e0.mod.kin.keeps fun b o e => (e0.bs b o e).1
  have lim : s.heap.NoLimit := e0.mod.nolimit.keeps fun b o e => (e0.bs b o e).1
  obtain ⟨ccl, cdd, cvs, ccs, file, tf, hc1, hc2, hc3⟩ := FF.hcode
  obtain ⟨cl, cld, csl, hcl⟩ := FF.hcell
  obtain ⟨cdD, hcdD⟩ := FF.hD
  refine PySem.ks_codeAny_call_defAt (binds := [(slf, .ref a), (part, u1)]) hr.depth (KX _ _ FF.lk) rfl lim (PySem.W.codeRec_of KX FF.hcd) rfl hb S.nocell (fun y hy => ?_) (fun h1 hns hk => ?_) S.co S.gen S.kind
  · rcases List.mem_cons.mp hy with e | hy
    · rw [e]; exact S.hself
    · rw [List.mem_singleton.mp hy]; exact S.hpart
  obtain ⟨l1, l2⟩ := lookup2 (u := Value.ref a) (v := u1) S.ne
  -- the context
  have ccb : ∀ b o, base.get? b = some o → H b = none := fun b o e => (e0.bs b o e).2
  have lkK : ∀ {b o}, K.lookup b = some o → base.get? b = some o := fun {b o} e => e0.mod.kin b o e
  have cellC : ∀ {h : Heap}, K.In h → h.IsCell cc (some (.ref D)) := fun k => ⟨_, k _ _ hcl, rfl⟩
  have clk : ∀ {y c}, List.lookup y [(("__class__" : Str), cc)] = some c → y = "__class__" ∧ c = cc := fun {y c} e => by
    rw [List.lookup_cons] at e
    cases h : y == ("__class__" : Str) with
    | true => rw [h] at e; exact ⟨eq_of_beq h, (Option.some.inj e).symm⟩
    | false => rw [h] at e; cases e
  have noA : ∀ b : Addr, b ∉ (supCx CX P w K mg base [slf, part] qual scope f (.ref cda) cc A outer s H E).ex := fun b z => absurd (show b ∈ ([] : List Addr) from z) (by simp)
  have I : Inv (supCx CX P w K mg base [slf, part] qual scope f (.ref cda) cc A outer s H E) [] [some (.ref a), some v] H { s with heap := h1, toks := s.toks + ([(slf, .ref a), (part, u1)] : List (Str × Value)).length } := by
    refine ⟨⟨e0.mod, S.kind, rfl, rfl, Nat.le_refl _, fun y z c e1 e2 => ?_, fun y hy => ?_, fun y c z _ => ?_, fun _ => hr.hd, Around.frames_deeper e0.frames, .inr ⟨rfl, rfl⟩, fun b z => absurd z (noA b), e0.bs, e0.bsz, fun b _ _ => noA b, fun b z => absurd z (noA b), e0.funs, e0.frf⟩,
      rfl, e0.bare, Un.kept hk, ⟨_, hns, fun i y v' e1 e2 e3 => ?_⟩, fun y c e => ?_, e0.hok.fresh (Nat.le_refl _), fun y c e => ?_, fun q hq => absurd (show q ∈ ([] : List (Addr × Obj)) ++ [] from hq) (by simp), e0.hok.kept hk, rfl⟩
    · rw [(clk e1).1, (clk e2).1]
    · have hy : scope.names.lookup y = some .cell ∨ scope.names.lookup y = some .free := hy
      rcases hy with hy | hy
      · exact absurd rfl (S.nocell _ (PySem.mem_of_lookup hy))
      · refine ⟨cc, ?_⟩
        rw [S.only y hy]
        exact (show List.lookup ("__class__" : Str) [(("__class__" : Str), cc)] = some cc from by rw [List.lookup_cons, beq_self_eq_true])
    · exact nomatch (show false = true from z)
    · rcases i with _ | _ | i
      · cases (show some slf = some y from e1)
        cases (show some (some (V.ref a)) = some (some v') from e2)
        exact ⟨.ref a, rfl, .inl ⟨S.hself, l1⟩⟩
      · cases (show some part = some y from e1)
        cases (show some (some v) = some (some v') from e2)
        exact ⟨u1, r1, .inl ⟨S.hpart, l2⟩⟩
      · exact absurd (show ([slf, part] : List Str)[i + 2]? = some y from e1) (by simp)
    · rw [(clk e).2]
      exact ⟨_, cellC (KX.keeps hk)⟩
    · rw [(clk e).2]
      exact ccb _ _ (lkK hcl)
  generalize hX : supCx CX P w K mg base [slf, part] qual scope f (.ref cda) cc A outer s H E = X at I
  have eP : X.prog = P := by rw [← hX]; rfl
  have eW : X.w = w := by rw [← hX]; rfl
  have eA : X.A = A.deeper (PySem.W.ksEnv qual scope s.heap.objs.size f (.ref cda) cc) := by rw [← hX]; rfl
  have eE : X.env = PySem.W.ksEnv qual scope s.heap.objs.size f (.ref cda) cc := by rw [← hX]; rfl
  have eK : X.K = K := by rw [← hX]; rfl
  subst hX
  have ho1 := exo_at I.hok ha
  obtain ⟨t1, he1⟩ := ho1
  have he1 : h1.get? a = some (PySem.HandSPX.excO D t1) := he1
  have K1 : K.In h1 := KX.keeps hk
  obtain ⟨oD, hoD, hoDd⟩ : ∃ oD, h1.get? D = some oD ∧ oD.data = .cls cdD := by
    have hD := hcdD
    unfold PySem.W.clsIn at hD
    split at hD
    · rename_i c d cd' sl ho
      cases hD
      exact ⟨_, K1 _ _ ho, rfl⟩
    · cases hD
  have Ia : PySem.W.InstAt h1 a (PySem.HandSPX.excO D t1) D none := ⟨he1, rfl, rfl, trivial⟩
  have fin : ∀ {σ' : L2.St} {H' : Hp} {v : V} {u : Value} {s' : Shared}, Inv (supCx CX P w K mg base [slf, part] qual scope f (.ref cda) cc A outer s H E) [] σ' H' s' → RelV v u → Q v H' → CE outer P w H s Q u s' :=
    fun {σ' H' v u s'} J rv q => ⟨v, H', J.os, J.bare, J.base, J.hok, rv, q⟩
  obtain ⟨pl, hpl⟩ := hev (PySem.W.ksEnv qual scope s.heap.objs.size f (.ref cda) cc)
  refine PySem.ks_wpAt_execs_cons (PySem.ks_wpAt_Expr_any (PySem.ks_wpAt_MethodCall (pl := pl) (PySem.ks_wpAt_super_base (env := PySem.W.ksEnv qual scope s.heap.objs.size f (.ref cda) cc) S.sup S.cls (by decide) rfl (K1 _ _ FF.lk) rfl FF.hpar rfl (K1 _ _ hc1) rfl hc2 hc3 FF.htop ?_) hpl) (by show (scope.kind == .module && scope.more.any fun (n, _) => n == ("interactive" : Str)) = false; rw [S.kind]; rfl) (hsw _))
  have hglob : h1.Ns mainGlobals mg := e0.mod.glob.keeps fun b o e => hk b o (e0.bs b o e).1
  obtain ⟨mb, hb1, hb2⟩ := e0.mod.blt
  refine PySem.W.ks_loadName_global S.kind S.sup (Calls.loadGlobal_builtin (env := PySem.W.ksEnv qual scope s.heap.objs.size f (.ref cda) cc) hglob FF.hmg (hb1.keeps fun b o e => hk b o (e0.bs b o e).1) ((hb2 _ (by decide)).trans (show bootBuiltins ("super" : Str) = some (.type "super") from by decide +kernel)) ⟨rfl, ?_⟩)
  refine wpAny_loadName_free S.kind S.cls (show List.lookup ("__class__" : Str) [(("__class__" : Str), cc)] = some cc from by rw [List.lookup_cons, beq_self_eq_true]) (cellC K1) ?_
  refine wpAny_loadName_local S.kind S.hself hns l1 ?_
  obtain ⟨hp, g, d, tk, os⟩ := s
  refine PySem.ks_wpAny_isType_cls hoD hoDd ⟨rfl, ?_⟩
  refine PySem.ks_wpAny_call_super hoD hoDd he1 rfl (fun c z => by cases z) (PySem.W.looks_mroIn K1 FF.hsub) (fun h2 e2 k2 => ?_)
  have K2 : K.In h2 := K1.keeps k2
  have hI : PySem.W.Looks (model P w) h2 (isInstance (.ref a) (.type "ValueError")) true := by
    have Ia2 : PySem.W.InstAt h2 a (PySem.HandSPX.excO D t1) D none := ⟨k2 _ _ he1, rfl, rfl, trivial⟩
    exact Ia2.type.andThen (PySem.W.looks_subIn K2 FF.hB)
  have hsup := FF.hsup
  unfold PySem.W.ks_superIn at hsup
  rw [hcdD] at hsup
  refine PySem.W.kxs_getMethod PySem.W.kxs_ValueError e2 (PySem.W.looks_opaque K2 FF.ho) (l₀ := cdD.mro) ?_ rfl K2 hsup hI (PySem.W.ks_ne K1 Ia hcdD) (by decide) ?_
  · exact fun A Q E s k q => wpAny_bind ((PySem.W.looks_clsIn K2 hcdD) A _ E s k (wpAny_pure q))
  have hst : ∀ env : Env, backTo p4 (starEach [.Constant (.str txt) j p3] env) = [(false, eval (.Constant (.str txt) j p3) env)] := fun env => rfl
  rw [hst]
  refine PySem.W.kxs_callWith (i := "ValueError.__init__") (x := a) rfl ?_
  refine Calls.evalArgs_plain (Calls.spliced_cons (Calls.Constant_str (k := j) (pos := p3) (Calls.spliced_nil ⟨?_, ?_⟩)))
  · exact Heap.get?_push_size _ rfl
  obtain ⟨nm, q, N, bs, bm, sn, sub, ab, col, dd, k0, k1, k2', k3, k5, hC, hbm⟩ := FF.T.cls
  refine wpAny_call (codeAny_of_tree ?_)
  show wpAny _ _ (callAny (.ref h2.objs.size) ⟨[.str txt _], []⟩) _ _ _
  simp only [callAny]
  have hu : (h2.push (PySem.W.kxs_mw "ValueError.__init__" a)).get? h2.objs.size = some (PySem.W.kxs_mw "ValueError.__init__" a) := Heap.get?_push_size _ rfl
  refine wpAny_bind (wpAny_load hu ?_)
  simp only [PySem.W.kxs_mw, show (Value.type "method-wrapper" == Value.type "method" || Value.type "method-wrapper" == Value.type "builtin_function_or_method" || Value.type "method-wrapper" == Value.type "method-wrapper") = true by decide, if_true]
  refine PySem.W.KFB.if_so (by decide) ?_
  have he3 : (h2.push (PySem.W.kxs_mw "ValueError.__init__" a)).get? a = some (PySem.HandSPX.excO D t1) := Heap.get?_push_of_some _ (k2 _ _ he1)
  have hC3 : (h2.push (PySem.W.kxs_mw "ValueError.__init__" a)).get? D = some (excClassObj nm q D N bs bm true sn sub ab col dd k0 k1 k2' k3 k5 "ValueError.__new__") := Heap.get?_push_of_some _ (K2 _ _ hC)
  refine wpAny_bind (PySem.W.check_bound_init F.excBase_ValueError.toExcCallFacts hC3 he3 rfl ?_)
  refine wpAny_bind (wpAny_pure (wpAny_pure ?_))
  refine ⟨plainId_quiet F.excBase_ValueError.init.plain _, codeAny_builtin F.excBase_ValueError.initEntry ?_⟩
  refine PySem.W.exc_init_tree (cls := .ref D) (t0 := t1) (dv := none) (c2 := .none) (c3 := .none) (b4 := .bool false) he3 (by show 1 ≤ sizeLine; decide) fun h4 k4 e4 t4 => ?_
  have kA : ∀ b o, b ≠ a → h1.get? b = some o → h4.get? b = some o := fun b o hb e => k4 b o hb (Heap.get?_push_of_some _ (k2 b o e))
  have I4 : Inv (supCx CX P w K mg base [slf, part] qual scope f (.ref cda) cc A outer ⟨hp, g, d, tk, os⟩ H E) [] [some (.ref a), some v] H ⟨h4, g, d, tk + ([(slf, .ref a), (part, u1)] : List (Str × Value)).length + 1 + 1, os⟩ := by
    have J := I.write (t' := tk + ([(slf, .ref a), (part, u1)] : List (Str × Value)).length + 1 + 1) (x := a) (e := a) (o := exo a D none) (by rw [ha]; exact True.intro) (.inl rfl) kA ⟨_, e4⟩ (exo_ok e4)
    have eu : upd H a (exo a D none) = H := by
      funext b
      by_cases hb : b = a
      · rw [hb, upd_same, ha]
      · rw [upd_ne hb]
    rw [eu] at J
    exact J
  have vs1 : Vis (supCx CX P w K mg base [slf, part] qual scope f (.ref cda) cc A outer ⟨hp, g, d, tk, os⟩ H E).env.scope slf := .inl S.hself
  have vs2 : Vis (supCx CX P w K mg base [slf, part] qual scope f (.ref cda) cc A outer ⟨hp, g, d, tk, os⟩ H E).env.scope part := .inl S.hpart
  have st := pss_one (ps_ost (X := supCx CX P w K mg base [slf, part] qual scope f (.ref cda) cc A outer ⟨hp, g, d, tk, os⟩ H E) (f := fld) (p' := p7) (pos := p9) (pe_var (i := 0) (pos := p6) rfl vs1 S.sd S.scd) (pe_var (i := 1) (pos := p8) rfl vs2 S.pd S.pc) (hsw2 _))
  refine wpAt_of_wpAny (wpAny_mono (st.run [] _ [some (.ref a), some v] H { nx := fun _ H' => Q .non H', rt := Q } I4 ?_) (fun fl s' hs => ?_) fun e s' hs => hs)
  · refine ⟨v, rfl, .ref a, rfl, a, D, rfl, FF.T, FF.hno, .inl ⟨ha, fun dx hdx hne => hq dx hdx hne⟩⟩
  · cases fl with
    | ret u =>
      obtain ⟨v', σ', H', J, rv, q⟩ := hs
      exact fin J rv q
    | next =>
      obtain ⟨σ', H', J, q⟩ := hs
      exact fin (v := V.non) (u := Value.none) J rfl q
    | brk =>
      obtain ⟨_, _, _, q⟩ := hs
      exact False.elim q
    | cont =>
      obtain ⟨_, _, _, q⟩ := hs
      exact False.elim q
end HcR
end

section
set_option Elab.async false
set_option linter.all false
set_option maxRecDepth 100000
set_option maxHeartbeats 4000000
/-! ## Own rule: C(e, ..) where __init__ may raise, wished for at the caller's slots -/
namespace HcR
open PySem PySem.Spec PyProof.Rows L2
section
variable {X : Cx} {CX : CXT} {k : Nat} {f C : Addr} {fd : FuncData} {ps : List Str} {sp : Sp} {E : L2.St → XK} {x : Str} {p pos : Pos} {e : Expr} {es : List Expr} {t : TA}
def tMakeS (C : Addr) (sp : Sp) (E : L2.St → XK) (t : TA) : TE := fun σ H Q => t σ H fun vs H1 => ∀ x dx, H1 x = none → H1 dx = none → dx ≠ x → sp (.ref x :: vs) (upd (upd H1 dx (.own x)) x (.ins C dx [])) (fun v H2 => v = .non ∧ Q (.ref x) H2) (E σ)
theorem pe_makeS (M : Mk X.K C f) (F : FnOk X.prog X.w X.K X.mg X.base CX k f fd ps sp) (hr : Room (k + 1) X.A) (hg : Gl X x) (hm : X.mg x = some (.ref C)) (hb : L2.Binds X.K fd ps []) (hx : ∀ σ, PassesAt CX X σ (E σ))
    (ha : PA X (e :: es) t) (hdb : (x == ("__debug__" : Str)) = false := by decide) (he : starEach (e :: es) X.env = (false, eval e X.env) :: starEach es X.env := by rfl) (hpl : (backTo pos (starEach es X.env)).any (·.1) = false := by rfl) :
    PE X (.Call (.Name x p) (e :: es) [] pos) (tMakeS C sp E t) := by
  refine ⟨fun pins s σ H Q I h => ?_⟩
  refine wpAny_Call_Name_kw (ld_glob I hg hm ?_ hdb)
  refine PySem.W.callWith_K (h₀ := X.base) I.ok.mod.kin M.kp (thn (ha.run pos pins s σ H _ I h) fun us s1 ⟨vs, H1, I1, r, q⟩ => ⟨I1.kIn, ?_⟩) he hpl
  have hq := q (s1.heap.objs.size + 1) s1.heap.objs.size (I1.hok.fresh (Nat.le_succ _)) (I1.hok.fresh (Nat.le_refl _)) (Nat.ne_of_lt (Nat.lt_succ_self _))
  have I2 := Inv.made (C := C) I1
  have r2 : Vals (V.ref (s1.heap.objs.size + 1) :: vs) (Value.ref (s1.heap.objs.size + 1) :: us) := .cons rfl r
  have hl : (Value.ref (s1.heap.objs.size + 1) :: us ++ []).length = ps.length := by
    have e := r2.length
    rw [F.len _ _ _ _ hq] at e
    rw [List.append_nil]
    exact e.symm
  have hbb := hb _ (Value.ref (s1.heap.objs.size + 1) :: us) I2.kIn hl
  rw [List.append_nil] at hbb
  show wpAny _ _ (call (.ref C) us) _ _ _
  refine wpAny_call (make_map (f := f) I1.kIn M.makes M.init (beq_iff_eq.mp M.fn) (codeAny_mono (F.run _ X.stack _ _ ⟨Value.ref (s1.heap.objs.size + 1) :: us, []⟩ (Value.ref (s1.heap.objs.size + 1) :: us) _ _ (E σ) (hr.make C us [])
    (I2.env0.make C us []) hbb r2 hq) fun r s' hq' => ?_))
  cases r with
  | error e => exact hx σ pins _ _ e s' I2 hq'
  | ok fl =>
    cases fl with
    | ret u =>
      obtain ⟨v, H', I3, rv, ev, q3⟩ := I2.after hq'
      subst ev
      exact ⟨rv, ⟨V.ref (s1.heap.objs.size + 1), H', I3, rfl, q3⟩⟩
    | next => exact False.elim hq'
    | brk => exact False.elim hq'
    | cont => exact False.elim hq'
end
end HcR
end

section
set_option Elab.async false
set_option linter.all false
set_option maxRecDepth 100000
set_option maxHeartbeats 4000000
/-! ## Own rules: sorted of tuples, some arrangement -/
namespace HcR
open PySem PySem.Spec PyProof.Rows L2
/-- items that can be compared: tuples of ints (at least one); or triples (a tuple of ints, int, int) -/
def KInts (ns : List Int) : NestedKey := .tup (ns.map NestedKey.num)
theorem datas_ints : ∀ ns : List Int, NestedKey.datas (ns.map NestedKey.num) = ns.map PyData.int
  | [] => rfl
  | n :: ns => by
    show PyData.int n :: NestedKey.datas (ns.map NestedKey.num) = _
    rw [datas_ints ns]; rfl
def dInts (ns : List Int) : PyData := .tuple (ns.map .int)
theorem kints_data (ns : List Int) : (KInts ns).data = dInts ns := by
  show PyData.tuple (NestedKey.datas _) = _
  rw [datas_ints]; rfl
theorem depthAll_ints : ∀ ns : List Int, NestedKey.depthAll (ns.map NestedKey.num) = 0
  | [] => rfl
  | n :: ns => by
    show max 0 (NestedKey.depthAll (ns.map NestedKey.num)) = 0
    rw [depthAll_ints ns]; rfl
theorem kints_depth (ns : List Int) : (KInts ns).depth = 1 := by
  show NestedKey.depthAll _ + 1 = 1
  rw [depthAll_ints]
section
variable {prog : Program} {w : World} {A : Around} {E : Value → Shared → Prop} {s : Shared} {Q : Bool → Shared → Prop}
def lxI (fin : Bool) : List Int → List Int → Bool
  | p :: ns, q :: ms => if p = q then lxI fin ns ms else decide (p < q)
  | _, _ => fin
theorem lex_any {b fin : Bool} {xs ys : List Value} {ns ms : List Int} (i : Nat) (hx : IntsAre xs ns) (hy : IntsAre ys ms) (h : Q (lxI fin ns ms) s) : PySem.W.KatLex prog w A b fin Q (xs.zip ys) i s := by
  induction hx generalizing ys ms i with
  | nil => exact PySem.W.kat_nil h
  | @cons p t xs ns hx ih =>
    cases hy with
    | nil => exact PySem.W.kat_nil h
    | @cons q u ys ms hy =>
      show PySem.W.KatLex prog w A b fin Q ((Value.int p t, Value.int q u) :: xs.zip ys) i s
      refine PySem.W.kat_cons (wpAny_eqBool_int ?_)
      unfold lxI at h
      by_cases e : p = q
      · subst e
        rw [beq_self_eq_true]
        rw [if_pos rfl] at h
        exact PySem.W.kat_yes (ih (i + 1) hy h)
      · rw [show (p == q) = false from beq_eq_false_iff_ne.mpr e]
        rw [if_neg e] at h
        exact PySem.W.kat_no (TS.oneLt_ints _ h)
def TIn (h : Heap) (v : Value) : Prop := ∃ ns, ns ≠ [] ∧ TS.TupInts h v ns
def T3n (h : Heap) (v : Value) : Prop := ∃ a r ns x y t u, v = .ref a ∧ IsTup h a #[r, .int x t, .int y u] ∧ TS.TupInts h r ns
theorem TIn.keeps {h h' : Heap} {v : Value} (x : TIn h v) (k : ∀ b o, h.get? b = some o → o.cls = .type "tuple" → h'.get? b = some o) : TIn h' v := let ⟨ns, hn, p⟩ := x; ⟨ns, hn, p.keeps k⟩
theorem T3n.keeps {h h' : Heap} {v : Value} (x : T3n h v) (k : ∀ b o, h.get? b = some o → o.cls = .type "tuple" → h'.get? b = some o) : T3n h' v := by
  obtain ⟨a, r, ns, x, y, t, u, e, ⟨o, ho, hc, n, hd⟩, p⟩ := x
  exact ⟨a, r, ns, x, y, t, u, e, ⟨o, k _ _ ho hc, hc, n, hd⟩, p.keeps k⟩
theorem tin_first {h : Heap} : ∀ {vs : List Value}, (∀ v ∈ vs, TIn h v) → ∃ fs : List Value, PySem.W.KatTups h vs fs ∧ fs.length = vs.length ∧ ∀ f ∈ fs, ∃ x t, f = Value.int x t
  | [], _ => ⟨[], PySem.W.KatTups.nil, rfl, fun _ hm => by simp at hm⟩
  | v :: vs, hp => by
    obtain ⟨fs, h1, h2, h3⟩ := tin_first (vs := vs) fun v' hm => hp v' (List.mem_cons_of_mem _ hm)
    obtain ⟨ns, hne, a, xs, e, ⟨o, ho, hc, n, hd⟩, i⟩ := hp v (List.mem_cons_self ..)
    subst e
    obtain ⟨y, ys, ey⟩ : ∃ y ys, xs.toList = y :: ys := by
      cases q : xs.toList with
      | nil =>
        rw [q] at i
        cases i
        exact absurd rfl hne
      | cons y ys => exact ⟨y, ys, rfl⟩
    obtain ⟨m, t, hy⟩ := i.all y (by rw [ey]; exact List.mem_cons_self ..)
    refine ⟨y :: fs, PySem.W.KatTups.cons ho hc hd ?_ h1, by simp [h2], fun f hm => ?_⟩
    · have z := congrArg (fun l : List Value => l[0]?) ey
      simpa using z
    · rcases List.mem_cons.mp hm with rfl | hm
      · exact ⟨m, t, hy⟩
      · exact h3 f hm
theorem tin_tot {vs : List Value} (hp : ∀ v ∈ vs, TIn s.heap v) : Srt.Tot prog w A s (tuples' true) (fun p => p.1 ∈ vs) := by
  intro p q hm hm'
  obtain ⟨ns, _, a, xs, e, ⟨o, ho, hc, n, hd⟩, i⟩ := hp _ hm
  obtain ⟨ms, _, a', ys, e', ⟨o', ho', hc', n', hd'⟩, i'⟩ := hp _ hm'
  rw [e, e']
  exact ⟨lxI (decide (xs.size < ys.size)) ns ms, PySem.W.kat_lt ho hd ho' hd' (lex_any 0 i i' ⟨rfl, rfl⟩)⟩
theorem tin_sortable {a : Addr} {vs : List Value} (h0 : 0 < vs.length) (hp : ∀ v ∈ vs, TIn s.heap v) (ha : ∀ o, s.heap.get? a = some o → o.cls ≠ .type "tuple") : Srt.Sortable prog w A s a vs := by
  intro h' keep
  have hp' : ∀ v ∈ vs, TIn h' v := fun v hm => (hp v hm).keeps fun b o e c => keep b o (fun z => by subst z; exact ha o e c) e
  obtain ⟨fs, h1, h2, h3⟩ := tin_first hp'
  refine ⟨tuples' true, fun Q E hq => ?_, tin_tot hp'⟩
  refine PySem.W.kat_kind (T := .type "int") h1 (by omega) (fun f hm => ?_) (by rfl) ?_
  · obtain ⟨x, t, rfl⟩ := h3 f hm
    exact PySem.W.Looks.now
  · have e : (Value.type "int" != Value.type "tuple") = true := by first | decide +kernel | rfl | decide
    rw [e]
    exact hq
theorem t3_first {h : Heap} : ∀ {vs : List Value}, (∀ v ∈ vs, T3n h v) → ∃ fs : List Value, PySem.W.KatTups h vs fs ∧ fs.length = vs.length ∧ ∀ f ∈ fs, ∃ ns, TS.TupInts h f ns
  | [], _ => ⟨[], PySem.W.KatTups.nil, rfl, fun _ hm => by simp at hm⟩
  | v :: vs, hp => by
    obtain ⟨fs, h1, h2, h3⟩ := t3_first (vs := vs) fun v' hm => hp v' (List.mem_cons_of_mem _ hm)
    obtain ⟨a, r, ns, x, y, t, u, e, ⟨o, ho, hc, n, hd⟩, i⟩ := hp v (List.mem_cons_self ..)
    subst e
    refine ⟨r :: fs, PySem.W.KatTups.cons ho hc hd rfl h1, by simp [h2], fun f hm => ?_⟩
    rcases List.mem_cons.mp hm with rfl | hm
    · exact ⟨ns, i⟩
    · exact h3 f hm
theorem nested_ints {h : Heap} {v : Value} {ns : List Int} (x : TS.TupInts h v ns) : NestedIs h (KInts ns) v := by
  obtain ⟨a, xs, rfl, ⟨o, ho, hc, n, hd⟩, i⟩ := x
  refine .tup ho hc hd ?_
  have all : ∀ {l : List Value} {ns : List Int}, IntsAre l ns → NestedAll h (ns.map NestedKey.num) l := by
    intro l ns q
    induction q with
    | nil => exact .nil
    | cons n t _ ih => exact .cons (.int _ _) ih
  exact all i
theorem t3_tot {vs : List Value} (hu : A.units + 2 < cLine) (hp : ∀ v ∈ vs, T3n s.heap v) : Srt.Tot prog w A s (tuples' false) (fun p => p.1 ∈ vs) := by
  intro p q hm hm'
  obtain ⟨a, r, ns, x, y, t, u, e, ⟨o, ho, hc, n, hd⟩, i⟩ := hp _ hm
  obtain ⟨a', r', ns', x', y', t', u', e', ⟨o', ho', hc', n', hd'⟩, i'⟩ := hp _ hm'
  rw [e, e']
  have k1 := nested_ints i
  have k2 := nested_ints i'
  obtain ⟨c, xs, rfl, p1, j1⟩ := i
  obtain ⟨c', ys, rfl, p2, j2⟩ := i'
  refine ⟨if NestedKey.beq (KInts ns) (KInts ns') = true then lxI false [x, y] [x', y'] else HT.lexLt ns ns', PySem.W.kat_lt ho hd ho' hd' ?_⟩
  show PySem.W.KatLex prog w A false (decide (3 < 3)) _ ((Value.ref c, Value.ref c') :: [Value.int x t, Value.int y u].zip [Value.int x' t', Value.int y' u']) 0 s
  refine PySem.W.kat_cons (eqAt_key (KInts ns) (KInts ns') A s _ _ k1 k2 (by rw [kints_depth]; omega) _ _ _ _ ?_)
  refine PySem.W.kat_go (fun e1 => ?_) (fun e1 => ?_)
  · rw [if_pos e1]
    exact PySem.W.kat_yes (lex_any 1 (.cons _ _ (.cons _ _ .nil)) (.cons _ _ (.cons _ _ .nil)) ⟨rfl, rfl⟩)
  · rw [if_neg (by rw [e1]; decide)]
    exact PySem.W.kat_no (PySem.W.kat_one _ _ (HT.lt_tupInts (Q := PySem.W.BoolBack _) p1 p2 j1 j2 (by omega) ⟨rfl, rfl⟩))
theorem t3_sortable {a : Addr} {vs : List Value} (hu : A.units + 2 < cLine) (h0 : 0 < vs.length) (hp : ∀ v ∈ vs, T3n s.heap v) (ha : ∀ o, s.heap.get? a = some o → o.cls ≠ .type "tuple") : Srt.Sortable prog w A s a vs := by
  intro h' keep
  have hp' : ∀ v ∈ vs, T3n h' v := fun v hm => (hp v hm).keeps fun b o e c => keep b o (fun z => by subst z; exact ha o e c) e
  obtain ⟨fs, h1, h2, h3⟩ := t3_first hp'
  refine ⟨tuples' false, fun Q E hq => ?_, t3_tot (s := { s with heap := h' }) hu hp'⟩
  refine PySem.W.kat_kind (T := .type "tuple") h1 (by omega) (fun f hm => ?_) (by rfl) ?_
  · obtain ⟨ns, b, xs, rfl, ⟨o, ho, hc, n, hd⟩, _⟩ := h3 f hm
    rw [← hc]
    exact (PySem.W.Looks.ld ho).andThen .now
  · have e : (Value.type "tuple" != Value.type "tuple") = false := by first | decide +kernel | rfl | decide
    rw [e]
    exact hq
/-- sorted(t), t a tuple -/
theorem collect_tup {l : Addr} {vs : List Value} {Q : List Value → Shared → Prop} (hl : s.heap.IsTuple l vs.toArray)
    (h : Q vs { s with heap := (s.heap.push (seqObj "list" #[] 0)).update s.heap.objs.size (Obj.mapSeq (· ++ vs.toArray)) }) (hsz : vs.length ≤ sizeLine) :
    wpAny (model prog w) A (collect (.ref l)) Q E s := by
  obtain ⟨o, ho, hc, n, hd⟩ := id hl
  unfold collect
  refine wpAny_bind (wpAny_runValue (codeAny_builtin entry_proto_collect' ?_))
  show wpAny _ _ (do again (.builtin "list.__iadd__" ⟨[← newList [], .ref l], []⟩)) _ _ s
  refine wpAny_bind (wpAny_newList (wpAny_pure ⟨Code.quiet_builtin _ (by decide +kernel), codeAny_builtin entry_list_iadd' ?_⟩))
  show wpAny _ _ (Builtin.List.listExtendWith (.ref s.heap.objs.size) (.ref l) (.ref s.heap.objs.size)) _ _ { s with heap := s.heap.push (seqObj "list" #[] 0) }
  unfold Builtin.List.listExtendWith
  have ho' : (s.heap.push (seqObj "list" #[] 0)).get? l = some o := Heap.get?_push_of_some _ ho
  refine wpAny_bind (wpAny_typeOf (T := "tuple") ⟨o, ho', hc⟩ ?_)
  rw [if_pos (by rw [show (Value.type "tuple" == Value.type "tuple") = true from rfl]; simp)]
  refine wpAny_bind (listItems_at ho' hd ?_)
  refine wpAny_bind (listItems_at (xs := #[]) (n := 0) (Heap.get?_push_size _ rfl) rfl ?_)
  rw [if_neg (by simp)]
  refine wpAny_bind (listUpdate_at (xs := #[]) (n := 0) (Heap.get?_push_size _ rfl) rfl ?_ (Nat.zero_le _) (by show (#[] ++ vs.toArray).size ≤ sizeLine + 1; simp only [Array.size_append, List.size_toArray, List.length_nil]; omega))
  refine wpAny_pure ?_
  show wpAny (model prog w) A (do
      let o ← load s.heap.objs.size
      match o.data with
      | .seq xs _ => pure xs.toList
      | _ => unsupported "internal:collect") Q E { s with heap := (s.heap.push (seqObj "list" #[] 0)).update s.heap.objs.size (Obj.mapSeq (· ++ vs.toArray)) }
  refine wpAny_bind (wpAny_load (get?_update_seq (Heap.get?_push_size _ rfl) _) ?_)
  show wpAny _ _ (pure ((#[] : Array Value) ++ vs.toArray).toList) Q E _
  rw [show ((#[] : Array Value) ++ vs.toArray).toList = vs by simp]
  exact wpAny_pure h
theorem sorted_anyT {l : Addr} {vs : List Value} {Q : Value → Shared → Prop} (hl : s.heap.IsTuple l vs.toArray) (hz : vs.length ≤ sizeLine)
    (hS : 2 ≤ vs.length → ∀ (h₁ : Heap) (a : Addr), h₁.get? a = some (seqObj "list" vs.toArray 0) → (∀ b o, s.heap.get? b = some o → b ≠ a ∧ h₁.get? b = some o) → Srt.Sortable prog w A.in1.in1 { s with heap := h₁ } a vs)
    (h : ∀ out : List Value, out.Perm vs → Q (.ref (s.heap.objs.size + 1)) { s with heap := sortedAll s.heap vs out.toArray }) :
    wpAny (model prog w) A (call (.builtin "sorted") [.ref l]) Q E s := by
  refine Calls.call_function_entry kind_sorted plain_sorted entry_sorted (args_sorted1 _) ?_
  unfold Builtin.«sorted»
  refine wpAny_bind (m := checkCount "sorted" 1 1 _) (wpAny_pure ?_)
  refine wpAny_bind (collect_tup hl ?_ hz)
  refine wpAny_bind (wpAny_newList ?_ hz)
  have hsz : ((s.heap.push (seqObj "list" #[] 0)).update s.heap.objs.size (Obj.mapSeq (· ++ vs.toArray))).objs.size = s.heap.objs.size + 1 := by
    rw [Heap.size_update, size_push']
  have hoL : (((s.heap.push (seqObj "list" #[] 0)).update s.heap.objs.size (Obj.mapSeq (· ++ vs.toArray))).push (seqObj "list" vs.toArray 0)).get? (s.heap.objs.size + 1) = some (seqObj "list" vs.toArray 0) := by
    rw [← hsz]; exact Heap.get?_push_size _ rfl
  have keep : ∀ b o, s.heap.get? b = some o → b ≠ s.heap.objs.size + 1 ∧ (((s.heap.push (seqObj "list" #[] 0)).update s.heap.objs.size (Obj.mapSeq (· ++ vs.toArray))).push (seqObj "list" vs.toArray 0)).get? b = some o := fun b o q => by
    have hlt : b < s.heap.objs.size := Heap.lt_size q
    refine ⟨Nat.ne_of_lt (Nat.lt_succ_of_lt hlt), Heap.get?_push_of_some _ ?_⟩
    rw [Heap.get?_update_ne _ _ _ _ (Nat.ne_of_lt hlt)]
    exact Heap.get?_push_of_some _ q
  show wpAny _ _ _ _ _ { s with heap := ((s.heap.push (seqObj "list" #[] 0)).update s.heap.objs.size (Obj.mapSeq (· ++ vs.toArray))).push (seqObj "list" vs.toArray 0) }
  rw [hsz]
  refine wpAny_bind (wpAny_holding (wpAny_call_entry slot_list_sort ⟨_, hoL, rfl⟩ entry_list_sort (Srt.list_sort_any hoL hz (fun h2 => hS h2 _ _ hoL keep) fun out hp => ⟨_, rfl, ?_⟩) (args_list_sort _)))
  exact wpAny_pure ⟨_, rfl, h out hp⟩
end
/-! ### the rule -/
def dT3 (r : List Int) (x y : Int) : PyData := .tuple [dInts r, .int x, .int y]
/-- an item that sorted may compare -/
def SItem (K : PySem.W.Frag) (H : Hp) (x : V) : Prop := (∃ ns, ns ≠ [] ∧ Dp K H x (dInts ns))
def SItem3 (K : PySem.W.Frag) (H : Hp) (x : V) : Prop := (∃ ns a b, Dp K H x (dT3 ns a b))
section
variable {X : Cx} {pins : List (Addr × Obj)} {σ : L2.St} {H : Hp} {s : Shared}
theorem dpAll_ints {K : PySem.W.Frag} : ∀ {ns : List Int} {xs : List V}, DpAll K H xs (ns.map PyData.int) → xs = ns.map V.int
  | [], _, h => by cases h; rfl
  | n :: ns, _, h => by
    rw [List.map_cons] at h
    cases h with
    | cons h1 h2 =>
      cases h1
      rw [dpAll_ints h2]; rfl
/-- a tuple of ints -/
theorem dp_ints {K : PySem.W.Frag} {ns : List Int} {v : V} (h : Dp K H v (dInts ns)) : ∃ a, v = .ref a ∧ SqT K H a (ns.map V.int) := by
  cases h with
  | tup hs ha =>
    rw [dpAll_ints ha] at hs
    exact ⟨_, rfl, hs⟩
theorem ints_dpAll {K : PySem.W.Frag} : ∀ ns : List Int, DpAll K H (ns.map V.int) (ns.map PyData.int)
  | [] => .nil
  | n :: ns => .cons (.int n) (ints_dpAll ns)
theorem ints_dp {K : PySem.W.Frag} {ns : List Int} {a : Addr} (h : SqT K H a (ns.map V.int)) : Dp K H (.ref a) (dInts ns) := .tup h (ints_dpAll ns)
theorem tup_of (I : Inv X pins σ H s) {a : Addr} {ns : List Int} (h : SqT X.K H a (ns.map V.int)) : TS.TupInts s.heap (.ref a) ns := by
  obtain ⟨its, rv, p, _⟩ := I.tuple h
  exact ⟨a, its.toArray, rfl, p, by simpa using intsAre_of rv⟩
theorem sitem_of (I : Inv X pins σ H s) {x : V} {u : Value} (h : SItem X.K H x) (r : RelV x u) : TIn s.heap u := by
  obtain ⟨ns, hne, d⟩ := h
  obtain ⟨a, rfl, q⟩ := dp_ints d
  cases r
  exact ⟨ns, hne, tup_of I q⟩
theorem sitem3_of (I : Inv X pins σ H s) {x : V} {u : Value} (h : SItem3 X.K H x) (r : RelV x u) : T3n s.heap u := by
  obtain ⟨ns, i, j, d⟩ := h
  cases d with
  | @tup a xs ds hs ha =>
    cases ha with
    | cons h1 h2 =>
      cases h2 with
      | cons h2 h3 =>
        cases h3 with
        | cons h3 h4 =>
          cases h4
          cases h2
          cases h3
          obtain ⟨b, rfl, q⟩ := dp_ints h1
          cases r
          obtain ⟨its, rv, p, _⟩ := I.tuple hs
          cases rv with
          | cons r1 r2 =>
            cases r2 with
            | cons r2 r3 =>
              cases r3 with
              | cons r3 r4 =>
                cases r4
                cases r1
                obtain ⟨t, rfl⟩ := r2
                obtain ⟨t', rfl⟩ := r3
                exact ⟨_, _, ns, _, _, _, _, rfl, p, tup_of I q⟩
def rSortedD (K : PySem.W.Frag) : List V → Hp → VK → Prop := fun vs H Q => ∃ a xs, vs = [V.ref a] ∧ (SqL K H a xs ∨ SqT K H a xs) ∧ ((∀ x ∈ xs, SItem K H x) ∨ ∀ x ∈ xs, SItem3 K H x) ∧
  ∀ ys p, ys.Perm xs → H p = none → Q (.ref p) (upd H p (.lst ys))
theorem cr_sortedD (hu : X.A.units + 64 < cLine) : CallR X (.builtin "sorted") (rSortedD X.K) := by
  intro pins s σ H vs us Q I r h
  obtain ⟨a, xs, rfl, hs, hx, q⟩ := h
  obtain ⟨u, rfl, ru⟩ := vals1 r
  obtain rfl : u = Value.ref a := ru
  have isref : ∀ x ∈ xs, ∃ t, x = V.ref t := fun x hm => by
    rcases hx with hx | hx
    · obtain ⟨ns, _, d⟩ := hx x hm
      obtain ⟨t, e, _⟩ := dp_ints d
      exact ⟨t, e⟩
    · obtain ⟨ns, i, j, d⟩ := hx x hm
      cases d with
      | tup _ _ => exact ⟨_, rfl⟩
  have fin : ∀ (its : List Value), Vals xs its → its.length ≤ sizeLine → ∀ out : List Value, out.Perm its → EP X pins σ Q (.ref (s.heap.objs.size + 1)) { s with heap := sortedAll s.heap its out.toArray } := by
    intro its rv hz out hp
    obtain ⟨e1, e2⟩ := refs_back rv isref
    have h3 : ∀ u ∈ out, ∃ a, u = Value.ref a := fun u hu => e2 u (hp.mem_iff.mp hu)
    obtain ⟨n, hn⟩ := sortedAll_at s.heap its out.toArray
    refine ⟨.ref (s.heap.objs.size + 1), upd H (s.heap.objs.size + 1) (.lst (out.map backV)), I.laid (t' := s.toks) (fun b o e => sortedAll_old e) (Nat.le_succ _) ⟨?_, out, n, vals_back h3, hn⟩, rfl, q _ _ ?_ (I.hok.fresh (Nat.le_succ _))⟩
    · rw [List.length_map, hp.length_eq]; exact hz
    · rw [e1]; exact hp.map backV
  have srt : ∀ (its : List Value), Vals xs its → 2 ≤ its.length → ∀ (h₁ : Heap) (a' : Addr), h₁.get? a' = some (seqObj "list" its.toArray 0) → (∀ b o, s.heap.get? b = some o → b ≠ a' ∧ h₁.get? b = some o) → Srt.Sortable X.prog X.w X.A.in1.in1 { s with heap := h₁ } a' its := by
    intro its rv h2 h₁ a' ha k
    have hcl : ∀ o, h₁.get? a' = some o → o.cls ≠ .type "tuple" := fun o e => by
      have e' : some o = some (seqObj "list" its.toArray 0) := e.symm.trans ha
      cases e'
      intro c
      exact absurd (Value.type.inj c) (by decide)
    have mem : ∀ v ∈ its, ∃ x ∈ xs, RelV x v := fun v hv => by
      obtain ⟨i, hi, e⟩ := List.mem_iff_getElem.mp hv
      have hl := rv.length
      have hix : i < xs.length := by omega
      obtain ⟨u, hu, ru⟩ := rv.get (List.getElem?_eq_getElem hix)
      rw [List.getElem?_eq_getElem hi] at hu
      have : u = v := by rw [← e]; exact (Option.some.inj hu).symm
      subst this
      exact ⟨xs[i], List.getElem_mem hix, ru⟩
    rcases hx with hx | hx
    · exact tin_sortable (s := { s with heap := h₁ }) (by omega) (fun v hv => by
        obtain ⟨x, hm, r⟩ := mem v hv
        exact (sitem_of I (hx x hm) r).keeps fun b o e _ => (k b o e).2) hcl
    · refine t3_sortable (s := { s with heap := h₁ }) ?_ (by omega) (fun v hv => by
        obtain ⟨x, hm, r⟩ := mem v hv
        exact (sitem3_of I (hx x hm) r).keeps fun b o e _ => (k b o e).2) hcl
      show X.A.units + 1 + 1 + 2 < cLine
      omega
  rcases hs with hs | hs
  · obtain ⟨its, rv, hl, hz⟩ := I.list hs
    have hz' : its.length ≤ sizeLine := by rw [← rv.length]; exact hz
    exact Srt.sorted_any hl.isList hz' (srt its rv) (fin its rv hz')
  · obtain ⟨its, rv, hl, hz⟩ := I.tuple hs
    have hz' : its.length ≤ sizeLine := by rw [← rv.length]; exact hz
    exact sorted_anyT hl hz' (srt its rv) (fin its rv hz')
end
end HcR
end

section
set_option Elab.async false
set_option linter.all false
set_option maxRecDepth 100000
set_option maxHeartbeats 4000000
/-! ## Own rules: count of a tuple of ints, list of a dict with nested keys -/
namespace HcR
open PySem PySem.Spec PyProof.Rows L2
section
variable {X : Cx}
def rCntT (K : PySem.W.Frag) : V → List V → Hp → VK → Prop := fun x xs H Q => ∃ (p : Addr) (ns : List Int) (k : Int), x = .ref p ∧ xs = [.int k] ∧ SqT K H p (ns.map V.int) ∧ Q (.int (ns.count k : Nat)) H
theorem mt_tcount : MtR X "tuple.count" (rCntT X.K) := by
  intro pins s σ H x xs v us Q I rx rxs h
  obtain ⟨p, ns, k, rfl, rfl, hs, q⟩ := h
  cases rx
  obtain ⟨u, rfl, ru⟩ := rxs.one
  obtain ⟨t, rfl⟩ := ru
  obtain ⟨its, rv, ⟨⟨cls, dd, data, sl⟩, ho, hc, n, hd⟩, hlen⟩ := I.tuple hs
  simp only at hc hd
  subst hc hd
  have hi := ints_of_vals rv
  refine call_meets PySem.F.slot_tuple_count ⟨_, ho, rfl⟩ PySem.F.entry_tuple_count (PySem.F.args_tuple_count_2 _ _)
    (SeqAt.tuple_countAt p its.toArray n dd sl (.int k t) (eqk k)) ⟨ho, fun y hy => (eqk_gives hi y (by simpa using hy)).at _ _, ?_⟩
  have ec : its.toArray.toList.countP (eqk k) = ns.count k := eqk_count hi
  refine ⟨.int (ns.count k : Nat), H, I.tok _, ⟨s.toks, ?_⟩, q⟩
  show Value.int ((its.toArray.toList.countP (eqk k) : Nat) : Int) s.toks = Value.int ((ns.count k : Nat) : Int) s.toks
  rw [ec]
/-- list(d), d with nested keys: the keys' tuples, in order -/
theorem call_list_N (hc : X.calm = true) : CallR X (.type "list") (fun ys H Q => ∃ d xs, ys = [V.ref d] ∧ Rd H d (NdO X.prog X.w d xs) ∧ ∀ p, H p = none → Q (.ref p) (upd H p (.lst (xs.map fun x => V.ref x.2.1)))) := by
  intro pins s σ H ys us Q I r h
  obtain ⟨d, xs, rfl, hd, q⟩ := h
  obtain ⟨u, rfl, rx⟩ := r.one
  cases rx
  obtain ⟨hs, hl, vs, rv, o, es, ep, ho, hx, hdt, he, hn⟩ := nd_of I hd
  have l1 : es.size = vs.length := size_of_entries he
  have l2 : xs.length = vs.length := Paired.length rv
  refine PySem.W.kdl_call (kdl_raw hs hx hdt) (I.ok.hd hc) ho (by omega) fun h' tk acc' c' kp e it => ?_
  have hlen : acc'.toList.length = vs.length := by rw [Array.length_toList, it.1]; exact l1
  have rv2 : Vals (xs.map fun x => V.ref x.2.1) acc'.toList := by
    refine vals_of_at (by rw [List.length_map, hlen, l2]) fun j x w h1 h2 => ?_
    obtain ⟨en, hen, hv⟩ := it.2 j w (by rw [← Array.getElem?_toList]; exact h2)
    rw [List.getElem?_map] at h1
    obtain ⟨y, hy, ey⟩ := Option.map_eq_some_iff.mp h1
    subst ey
    obtain ⟨z, hz, nz⟩ := nr_get rv hy
    have qe := entry_at he j
    rw [hen, hz] at qe
    have e2 : en = entryOfKey (nestedKind X.prog X.w) z := Option.some.inj qe
    rw [hv, e2]
    show Value.ref z.2.1 = Value.ref y.2.1
    rw [nz.2.1]
  refine ⟨.ref s.heap.objs.size, _, I.laid (t' := tk) (o := .lst (xs.map fun x => V.ref x.2.1)) kp (Nat.le_refl _) ?_, rfl, q _ (I.hok.fresh (Nat.le_refl _))⟩
  exact ⟨by rw [List.length_map]; exact hl, acc'.toList, c', rv2, by rw [Array.toArray_toList]; exact e⟩
end
end HcR
end

section
set_option Elab.async false
set_option linter.all false
set_option maxRecDepth 100000
set_option maxHeartbeats 4000000
/-! ## Own rule: sorted of triples (a tuple of ints, int, int): in their order -/
namespace HcR
open PySem PySem.Spec PyProof.Rows L2
theorem lex_tri : ∀ a b : List Int, HT.lexLt a b = true ∨ a = b ∨ HT.lexLt b a = true
  | [], [] => .inr (.inl rfl)
  | [], _ :: _ => .inl rfl
  | _ :: _, [] => .inr (.inr rfl)
  | x :: xs, y :: ys => by
    rw [HT.lexLt_cons, HT.lexLt_cons]
    by_cases e : x = y
    · subst e
      rw [if_pos rfl, if_pos rfl]
      rcases lex_tri xs ys with h | h | h
      · exact .inl h
      · exact .inr (.inl (by rw [h]))
      · exact .inr (.inr h)
    · rw [if_neg e, if_neg (Ne.symm e)]
      by_cases l : x < y
      · exact .inl (decide_eq_true l)
      · exact .inr (.inr (decide_eq_true (by omega)))
theorem lex_as : ∀ a b : List Int, HT.lexLt a b = true → HT.lexLt b a = false
  | [], [], h => rfl
  | [], _ :: _, _ => rfl
  | _ :: _, [], h => by cases h
  | x :: xs, y :: ys, h => by
    rw [HT.lexLt_cons] at h ⊢
    by_cases e : x = y
    · subst e
      rw [if_pos rfl] at h ⊢
      exact lex_as xs ys h
    · rw [if_neg e] at h
      rw [if_neg (Ne.symm e)]
      have := of_decide_eq_true h
      exact decide_eq_false (by omega)
theorem lex_tr : ∀ a b c : List Int, HT.lexLt a b = true → HT.lexLt b c = true → HT.lexLt a c = true
  | [], [], _, h, _ => by cases h
  | [], _ :: _, [], _, h => by cases h
  | [], _ :: _, _ :: _, _, _ => rfl
  | _ :: _, [], _, h, _ => by cases h
  | _ :: _, _ :: _, [], _, h => by cases h
  | x :: xs, y :: ys, z :: zs, h1, h2 => by
    rw [HT.lexLt_cons] at h1 h2 ⊢
    by_cases e1 : x = y
    · subst e1
      rw [if_pos rfl] at h1
      by_cases e2 : x = z
      · subst e2
        rw [if_pos rfl] at h2 ⊢
        exact lex_tr xs ys zs h1 h2
      · rw [if_neg e2] at h2 ⊢
        exact h2
    · rw [if_neg e1] at h1
      by_cases e2 : y = z
      · subst e2
        rw [if_neg e1]
        exact h1
      · rw [if_neg e2] at h2
        have a := of_decide_eq_true h1
        have b := of_decide_eq_true h2
        rw [if_neg (by omega)]
        exact decide_eq_true (by omega)
abbrev Tri := List Int × Int × Int
def lt3 (p q : Tri) : Bool := if p.1 = q.1 then (if p.2.1 = q.2.1 then decide (p.2.2 < q.2.2) else decide (p.2.1 < q.2.1)) else HT.lexLt p.1 q.1
theorem lt3_tri (p q : Tri) : lt3 p q = true ∨ p = q ∨ lt3 q p = true := by
  obtain ⟨a, x, y⟩ := p
  obtain ⟨b, x', y'⟩ := q
  unfold lt3
  by_cases e : a = b
  · subst e
    by_cases e2 : x = x'
    · subst e2
      simp only [if_true]
      by_cases e3 : y = y'
      · exact .inr (.inl (by rw [e3]))
      · by_cases l : y < y'
        · exact .inl (decide_eq_true l)
        · exact .inr (.inr (decide_eq_true (by omega)))
    · simp only [if_true, if_neg e2, if_neg (Ne.symm e2)]
      by_cases l : x < x'
      · exact .inl (decide_eq_true l)
      · exact .inr (.inr (decide_eq_true (by omega)))
  · simp only [if_neg e, if_neg (Ne.symm e)]
    rcases lex_tri a b with h | h | h
    · exact .inl h
    · exact absurd h e
    · exact .inr (.inr h)
theorem lt3_as (p q : Tri) (h : lt3 p q = true) : lt3 q p = false := by
  obtain ⟨a, x, y⟩ := p
  obtain ⟨b, x', y'⟩ := q
  unfold lt3 at h ⊢
  by_cases e : a = b
  · subst e
    by_cases e2 : x = x'
    · subst e2
      simp only [if_true] at h ⊢
      have := of_decide_eq_true h
      exact decide_eq_false (by omega)
    · simp only [if_true, if_neg e2] at h
      simp only [if_true, if_neg (Ne.symm e2)]
      have := of_decide_eq_true h
      exact decide_eq_false (by omega)
  · simp only [if_neg e] at h
    simp only [if_neg (Ne.symm e)]
    exact lex_as a b h
theorem lt3_tr (p q r : Tri) (h1 : lt3 p q = true) (h2 : lt3 q r = true) : lt3 p r = true := by
  obtain ⟨a, x, y⟩ := p
  obtain ⟨b, x', y'⟩ := q
  obtain ⟨c, x'', y''⟩ := r
  unfold lt3 at h1 h2 ⊢
  by_cases e : a = b
  · subst e
    by_cases e' : a = c
    · subst e'
      simp only [if_true] at h1 h2 ⊢
      by_cases e2 : x = x'
      · subst e2
        simp only [if_true] at h1
        by_cases e3 : x = x''
        · subst e3
          simp only [if_true] at h2 ⊢
          have := of_decide_eq_true h1
          have := of_decide_eq_true h2
          exact decide_eq_true (by omega)
        · simp only [if_neg e3] at h2 ⊢
          exact h2
      · simp only [if_neg e2] at h1
        have l1 := of_decide_eq_true h1
        by_cases e3 : x' = x''
        · subst e3
          rw [if_neg e2]; exact h1
        · simp only [if_neg e3] at h2
          have l2 := of_decide_eq_true h2
          rw [if_neg (by omega)]
          exact decide_eq_true (by omega)
    · simp only [if_neg e'] at h2 ⊢
      exact h2
  · simp only [if_neg e] at h1
    by_cases e' : b = c
    · subst e'
      simp only [if_neg e]
      exact h1
    · simp only [if_neg e'] at h2
      have h3 := lex_tr a b c h1 h2
      have ne : a ≠ c := fun z => by
        subst z
        have := lex_as a b h1
        rw [h2] at this
        cases this
      simp only [if_neg ne]
      exact h3
theorem lt3_swo {α : Type} (k : α → Tri) : SrtO.Swo (fun x y => lt3 (k x) (k y)) := by
  refine ⟨fun x y h => lt3_as _ _ h, fun x y z h1 h2 => ?_⟩
  cases h : lt3 (k z) (k x) with
  | false => rfl
  | true =>
    rcases lt3_tri (k x) (k y) with g | g | g
    · have := lt3_tr _ _ _ h g
      rw [h2] at this; cases this
    · rw [g] at h
      rw [h2] at h; cases h
    · rw [h1] at g; cases g
/-- two sorted arrangements are one -/
theorem lt3_uniq {α : Type} {k : α → Tri} (hk : ∀ x y, k x = k y → x = y) : ∀ {l m : List α}, l.Pairwise (fun x y => lt3 (k y) (k x) = false) → m.Pairwise (fun x y => lt3 (k y) (k x) = false) → l.Perm m → l = m
  | [], m, _, _, p => (List.Perm.eq_nil p.symm).symm
  | x :: l, [], _, _, p => absurd p.length_eq (by simp)
  | x :: l, y :: m, hl, hm, p => by
    have e : x = y := by
      rcases List.mem_cons.mp (p.mem_iff.mp (List.mem_cons_self (a := x) (l := l))) with e | hx
      · exact e
      rcases List.mem_cons.mp (p.mem_iff.mpr (List.mem_cons_self (a := y) (l := m))) with e | hy
      · exact e.symm
      have a := (List.pairwise_cons.mp hl).1 y hy
      have b := (List.pairwise_cons.mp hm).1 x hx
      rcases lt3_tri (k x) (k y) with g | g | g
      · rw [b] at g; cases g
      · exact hk _ _ g
      · rw [a] at g; cases g
    subst e
    rw [lt3_uniq hk (List.pairwise_cons.mp hl).2 (List.pairwise_cons.mp hm).2 p.cons_inv]
/-! ### the rule -/
def T3k (h : Heap) (v : Value) (d : Tri) : Prop := ∃ a r t u, v = .ref a ∧ IsTup h a #[r, .int d.2.1 t, .int d.2.2 u] ∧ TS.TupInts h r d.1
theorem T3k.keeps {h h' : Heap} {v : Value} {d : Tri} (x : T3k h v d) (k : ∀ b o, h.get? b = some o → o.cls = .type "tuple" → h'.get? b = some o) : T3k h' v d := by
  obtain ⟨a, r, t, u, e, ⟨o, ho, hc, n, hd⟩, p⟩ := x
  exact ⟨a, r, t, u, e, ⟨o, k _ _ ho hc, hc, n, hd⟩, p.keeps k⟩
section
variable {prog : Program} {w : World} {A : Around} {s : Shared}
theorem beq_kints {a b : List Int} : NestedKey.beq (KInts a) (KInts b) = decide (a = b) := by
  have h : ∀ {a b : List Int}, NestedKey.beqAll (a.map NestedKey.num) (b.map NestedKey.num) = decide (a = b) := by
    intro a
    induction a with
    | nil => intro b; cases b with
      | nil => rfl
      | cons _ _ => rfl
    | cons x a ih => intro b; cases b with
      | nil => rfl
      | cons y b =>
        show ((NestedKey.num x).beq (NestedKey.num y) && NestedKey.beqAll (a.map NestedKey.num) (b.map NestedKey.num)) = _
        rw [ih]
        show ((x == y) && decide (a = b)) = _
        by_cases e : x = y
        · subst e; simp
        · simp [e]
  exact h
theorem lxI3 {x y x' y' : Int} : lxI false [x, y] [x', y'] = (if x = x' then (if y = y' then false else decide (y < y')) else decide (x < x')) := rfl
theorem t3k_cmp {vs : List Value} {k : Value → Tri} (hu : A.units + 2 < cLine) (hp : ∀ v ∈ vs, T3k s.heap v (k v)) : SrtO.Cmp prog w A s (tuples' false) (fun p => p.1 ∈ vs) (SrtO.lt2 fun v u => lt3 (k v) (k u)) := by
  intro p q hm hm'
  obtain ⟨a, r, t, u, e, ⟨o, ho, hc, n, hd⟩, i⟩ := hp _ hm
  obtain ⟨a', r', t', u', e', ⟨o', ho', hc', n', hd'⟩, i'⟩ := hp _ hm'
  show wpAny _ _ (keyLt' (tuples' false) p.1 q.1) (fun r s' => s' = s ∧ r = lt3 (k p.1) (k q.1)) _ s
  generalize k p.1 = d at hd i
  generalize k q.1 = d' at hd' i'
  obtain ⟨ns, x, y⟩ := d
  obtain ⟨ns', x', y'⟩ := d'
  rw [e, e']
  have k1 := nested_ints i
  have k2 := nested_ints i'
  obtain ⟨c, xs, rfl, p1, j1⟩ := i
  obtain ⟨c', ys, rfl, p2, j2⟩ := i'
  refine PySem.W.kat_lt ho hd ho' hd' ?_
  show PySem.W.KatLex prog w A false (decide (3 < 3)) _ ((Value.ref c, Value.ref c') :: [Value.int x t, Value.int y u].zip [Value.int x' t', Value.int y' u']) 0 s
  refine PySem.W.kat_cons (eqAt_key (KInts ns) (KInts ns') A s _ _ k1 k2 (by rw [kints_depth]; omega) _ _ _ _ ?_)
  refine PySem.W.kat_go (fun e1 => ?_) (fun e1 => ?_)
  · rw [beq_kints] at e1
    have en : ns = ns' := of_decide_eq_true e1
    refine PySem.W.kat_yes (lex_any 1 (.cons _ _ (.cons _ _ .nil)) (.cons _ _ (.cons _ _ .nil)) ⟨rfl, ?_⟩)
    rw [show decide (3 < 3) = false from rfl, lxI3]
    unfold lt3
    simp only [if_pos en]
    by_cases ex : x = x'
    · simp only [if_pos ex]
      by_cases ey : y = y'
      · rw [if_pos ey]
        exact (decide_eq_false (by omega)).symm
      · rw [if_neg ey]
    · simp only [if_neg ex]
  · rw [beq_kints] at e1
    have en : ns ≠ ns' := of_decide_eq_false e1
    refine PySem.W.kat_no (PySem.W.kat_one _ _ (HT.lt_tupInts (Q := PySem.W.BoolBack _) p1 p2 j1 j2 (by omega) ⟨rfl, ?_⟩))
    unfold lt3
    simp only [if_neg en]
theorem t3k_sortable {a : Addr} {vs : List Value} {k : Value → Tri} (hu : A.units + 2 < cLine) (h0 : 0 < vs.length) (hp : ∀ v ∈ vs, T3k s.heap v (k v)) (ha : ∀ o, s.heap.get? a = some o → o.cls ≠ .type "tuple") : SrtO.SortableO prog w A s a vs (fun v u => lt3 (k v) (k u)) := by
  intro h' keep
  have hp' : ∀ v ∈ vs, T3k h' v (k v) := fun v hm => (hp v hm).keeps fun b o e c => keep b o (fun z => by subst z; exact ha o e c) e
  obtain ⟨fs, h1, h2, h3⟩ := t3_first fun v hm => let ⟨a, r, t, u, e, q, i⟩ := hp' v hm; (⟨a, r, (k v).1, (k v).2.1, (k v).2.2, t, u, e, q, i⟩ : T3n h' v)
  refine ⟨tuples' false, fun Q E hq => ?_, t3k_cmp (s := { s with heap := h' }) hu hp'⟩
  refine PySem.W.kat_kind (T := .type "tuple") h1 (by omega) (fun f hm => ?_) (by rfl) ?_
  · obtain ⟨ns, b, xs, rfl, ⟨o, ho, hc, n, hd⟩, _⟩ := h3 f hm
    rw [← hc]
    exact (PySem.W.Looks.ld ho).andThen .now
  · have e : (Value.type "tuple" != Value.type "tuple") = false := by first | decide +kernel | rfl | decide
    rw [e]
    exact hq
end
/-- sorted(xs), xs a list of triples (k tells which): a new list, in order -/
def rSorted3 (K : PySem.W.Frag) : List V → Hp → VK → Prop := fun vs H Q => ∃ (a : Addr) (xs : List V) (k : V → Tri), vs = [V.ref a] ∧ SqL K H a xs ∧ (∀ x ∈ xs, Dp K H x (dT3 (k x).1 (k x).2.1 (k x).2.2)) ∧
  ∀ ys p, ys.Perm xs → ys.Pairwise (fun x y => lt3 (k y) (k x) = false) → H p = none → Q (.ref p) (upd H p (.lst ys))
section
variable {X : Cx}
theorem cr_sorted3 (hu : X.A.units + 64 < cLine) : CallR X (.builtin "sorted") (rSorted3 X.K) := by
  intro pins s σ H vs us Q I r h
  obtain ⟨a, xs, k, rfl, hs, hx, q⟩ := h
  obtain ⟨its, rv, hl, hz⟩ := I.list hs
  obtain ⟨u, rfl, ru⟩ := vals1 r
  obtain rfl : u = Value.ref a := ru
  obtain ⟨e1, e2⟩ := refs_back rv fun x m => by
    cases hx x m with
    | tup _ _ => exact ⟨_, rfl⟩
  have hz' : its.length ≤ sizeLine := by rw [← rv.length]; exact hz
  have mem : ∀ v ∈ its, T3k s.heap v (k (backV v)) := fun v hv => by
    have hm : backV v ∈ xs := by rw [e1]; exact List.mem_map.mpr ⟨v, hv, rfl⟩
    obtain ⟨t, rfl⟩ := e2 v hv
    have d := hx _ hm
    cases d with
    | @tup a xs ds hs ha =>
      cases ha with
      | cons h1 h2 => cases h2 with
        | cons h2 h3 => cases h3 with
          | cons h3 h4 =>
            cases h4
            cases h2
            cases h3
            obtain ⟨b, rfl, q⟩ := dp_ints h1
            obtain ⟨its2, rv2, p2, _⟩ := I.tuple hs
            cases rv2 with
            | cons r1 r2 => cases r2 with
              | cons r2 r3 => cases r3 with
                | cons r3 r4 =>
                  cases r4
                  cases r1
                  obtain ⟨t1, rfl⟩ := r2
                  obtain ⟨t2, rfl⟩ := r3
                  exact ⟨_, _, t1, t2, rfl, p2, tup_of I q⟩
  refine SrtO.sorted_ord (ltv := fun v u => lt3 (k (backV v)) (k (backV u))) (lt3_swo fun v => k (backV v)) hl.isList hz' (fun h2 h₁ a' ha kk => ?_) fun out h1 h2 => ?_
  · have hcl : ∀ o, h₁.get? a' = some o → o.cls ≠ .type "tuple" := fun o e => by
      have e' : some o = some (seqObj "list" its.toArray 0) := e.symm.trans ha
      cases e'
      intro c
      exact absurd (Value.type.inj c) (by decide)
    refine t3k_sortable (s := { s with heap := h₁ }) (k := fun v => k (backV v)) ?_ (by omega) (fun v hv => (mem v hv).keeps fun b o e _ => (kk b o e).2) hcl
    show X.A.units + 1 + 1 + 2 < cLine
    omega
  · have h3 : ∀ u ∈ out, ∃ a, u = Value.ref a := fun u hu => e2 u (h2.perm.mem_iff.mp hu)
    obtain ⟨n, hn⟩ := sortedAll_at s.heap its out.toArray
    have hp : (out.map backV).Perm xs := by rw [e1]; exact h2.perm.map backV
    refine ⟨.ref (s.heap.objs.size + 1), upd H (s.heap.objs.size + 1) (.lst (out.map backV)), I.laid (t' := s.toks) (fun b o e => sortedAll_old e) (Nat.le_succ _) ⟨?_, out, n, vals_back h3, hn⟩, rfl, q _ _ hp (List.pairwise_map.mpr h1) (I.hok.fresh (Nat.le_succ _))⟩
    rw [hp.length_eq]; exact hz
end
end HcR
end

section
set_option Elab.async false
set_option linter.all false
set_option maxRecDepth 100000
set_option maxHeartbeats 4000000
/-! ## Own rule: sorted of a tuple of triples -/
namespace HcR
open PySem PySem.Spec PyProof.Rows L2
/-- what the sort of a list that was just laid leaves -/
theorem sorted_heap (h : Heap) (vs : List Value) (out : Array Value) : (∀ b o, h.get? b = some o → (sortedHeap (h.push (seqObj "list" vs.toArray 0)) h.objs.size vs out).get? b = some o) ∧ ∃ n, (sortedHeap (h.push (seqObj "list" vs.toArray 0)) h.objs.size vs out).get? h.objs.size = some (seqObj "list" out n) := by
  have at0 : (h.push (seqObj "list" vs.toArray 0)).get? h.objs.size = some (seqObj "list" vs.toArray 0) := Heap.get?_push_size _ rfl
  constructor
  · intro b o e
    have hb : b ≠ h.objs.size := Nat.ne_of_lt (Heap.lt_size e)
    unfold sortedHeap
    rw [Heap.get?_update_ne _ _ _ _ hb]
    exact Heap.get?_push_of_some _ (Heap.get?_push_of_some _ ((Heap.get?_update_ne _ _ _ _ hb).trans (Heap.get?_push_of_some _ e)))
  · unfold sortedHeap
    exact ⟨_, get?_update_seq (Heap.get?_push_of_some _ (Heap.get?_push_of_some _ (get?_update_seq at0 fun _ => #[]))) fun _ => out⟩
section
variable {prog : Program} {w : World} {A : Around} {E : Value → Shared → Prop} {s : Shared} {Q : Value → Shared → Prop}
theorem sorted_tupO {l : Addr} {vs : List Value} {ltv : Value → Value → Bool} (O : SrtO.Swo ltv) (ht : IsTup s.heap l vs.toArray) (hz : vs.length ≤ sizeLine)
    (hS : 2 ≤ vs.length → ∀ (h₁ : Heap) (a : Addr), h₁.get? a = some (seqObj "list" vs.toArray 0) → (∀ b o, s.heap.get? b = some o → h₁.get? b = some o) → SrtO.SortableO prog w A.in1.in1 { s with heap := h₁ } a vs ltv)
    (h : ∀ (h1 : Heap) (out : List Value), (∀ b o, s.heap.get? b = some o → h1.get? b = some o) → SrtO.Srtd ltv out → SrtO.Stb ltv out vs → Q (.ref h1.objs.size) { s with heap := sortedHeap (h1.push (seqObj "list" vs.toArray 0)) h1.objs.size vs out.toArray }) :
    wpAny (model prog w) A (call (.builtin "sorted") [.ref l]) Q E s := by
  obtain ⟨o, ho, hc, n, hd⟩ := ht
  refine Calls.call_function_entry kind_sorted plain_sorted entry_sorted (args_sorted1 _) ?_
  unfold Builtin.«sorted»
  refine wpAny_bind (m := checkCount "sorted" 1 1 _) (wpAny_pure (wpAny_bind (wpAny_collect_seq l (.inr rfl) ho hc hd (fun h1 hk => ?_) (by rw [List.size_toArray]; exact hz))))
  have e0 : vs.toArray.toList = vs := by simp
  rw [e0]
  refine wpAny_bind (wpAny_newList ?_ hz)
  have at0 : (h1.push (seqObj "list" vs.toArray 0)).get? h1.objs.size = some (seqObj "list" vs.toArray 0) := Heap.get?_push_size _ rfl
  refine wpAny_bind (wpAny_holding (wpAny_call_entry slot_list_sort ⟨_, at0, rfl⟩ entry_list_sort (SrtO.list_sort_ord O at0 hz (fun h2 => hS h2 _ _ at0 fun b o e => Heap.get?_push_of_some _ (hk b o e)) fun out q1 q2 => ⟨_, rfl, ?_⟩) (args_list_sort _)))
  exact wpAny_pure ⟨_, rfl, h h1 out hk q1 q2⟩
end
/-- sorted(xs), xs a tuple of triples (k tells which): a new list, in order -/
def rSortT3 (K : PySem.W.Frag) : List V → Hp → VK → Prop := fun vs H Q => ∃ (a : Addr) (xs : List V) (k : V → Tri), vs = [V.ref a] ∧ SqT K H a xs ∧ (∀ x ∈ xs, Dp K H x (dT3 (k x).1 (k x).2.1 (k x).2.2)) ∧
  ∀ ys p, ys.Perm xs → ys.Pairwise (fun x y => lt3 (k y) (k x) = false) → H p = none → Q (.ref p) (upd H p (.lst ys))
section
variable {X : Cx}
theorem cr_sortT3 (hu : X.A.units + 64 < cLine) : CallR X (.builtin "sorted") (rSortT3 X.K) := by
  intro pins s σ H vs us Q I r h
  obtain ⟨a, xs, k, rfl, hs, hx, q⟩ := h
  obtain ⟨its, rv, hl, hz⟩ := I.tuple hs
  obtain ⟨u, rfl, ru⟩ := vals1 r
  obtain rfl : u = Value.ref a := ru
  obtain ⟨e1, e2⟩ := refs_back rv fun x m => by
    cases hx x m with
    | tup _ _ => exact ⟨_, rfl⟩
  have hz' : its.length ≤ sizeLine := by rw [← rv.length]; exact hz
  have mem : ∀ v ∈ its, T3k s.heap v (k (backV v)) := fun v hv => by
    have hm : backV v ∈ xs := by rw [e1]; exact List.mem_map.mpr ⟨v, hv, rfl⟩
    obtain ⟨t, rfl⟩ := e2 v hv
    have d := hx _ hm
    cases d with
    | @tup a xs ds hs ha =>
      cases ha with
      | cons h1 h2 => cases h2 with
        | cons h2 h3 => cases h3 with
          | cons h3 h4 =>
            cases h4
            cases h2
            cases h3
            obtain ⟨b, rfl, q⟩ := dp_ints h1
            obtain ⟨its2, rv2, p2, _⟩ := I.tuple hs
            cases rv2 with
            | cons r1 r2 => cases r2 with
              | cons r2 r3 => cases r3 with
                | cons r3 r4 =>
                  cases r4
                  cases r1
                  obtain ⟨t1, rfl⟩ := r2
                  obtain ⟨t2, rfl⟩ := r3
                  exact ⟨_, _, t1, t2, rfl, p2, tup_of I q⟩
  refine sorted_tupO (ltv := fun v u => lt3 (k (backV v)) (k (backV u))) (lt3_swo fun v => k (backV v)) hl hz' (fun h2 h₁ a' ha kk => ?_) fun hh out hk h1 h2 => ?_
  · have hcl : ∀ o, h₁.get? a' = some o → o.cls ≠ .type "tuple" := fun o e => by
      have e' : some o = some (seqObj "list" its.toArray 0) := e.symm.trans ha
      cases e'
      intro c
      exact absurd (Value.type.inj c) (by decide)
    refine t3k_sortable (s := { s with heap := h₁ }) (k := fun v => k (backV v)) ?_ (by omega) (fun v hv => (mem v hv).keeps fun b o e _ => kk b o e) hcl
    show X.A.units + 1 + 1 + 2 < cLine
    omega
  · have h3 : ∀ u ∈ out, ∃ a, u = Value.ref a := fun u hu => e2 u (h2.perm.mem_iff.mp hu)
    obtain ⟨hold, n, hn⟩ := sorted_heap hh its out.toArray
    have hp : (out.map backV).Perm xs := by rw [e1]; exact h2.perm.map backV
    have I1 : Inv X pins σ H { s with heap := hh } := I.kept (t' := s.toks) hk
    refine ⟨.ref hh.objs.size, upd H hh.objs.size (.lst (out.map backV)), I1.laid (t' := s.toks) hold (Nat.le_refl _) ⟨?_, out, n, vals_back h3, hn⟩, rfl, q _ _ hp (List.pairwise_map.mpr h1) (I1.hok.fresh (Nat.le_refl _))⟩
    rw [hp.length_eq]; exact hz
end
end HcR
end

section
set_option Elab.async false
set_option linter.all false
set_option maxRecDepth 100000
set_option maxHeartbeats 4000000
/-! ## Own rules: tuples that are known to have no dict of their own; t.count(x) -/
namespace HcR
open PySem PySem.Spec PyProof.Rows L2
/-- a tuple, fixed, without a dict -/
def FzT (H : Hp) (p : Addr) (xs : List V) : Prop := ∃ ob : Obj, ob.dict = none ∧ H p = some (.frz ob (.tup xs))
theorem FzT.sq {K : PySem.W.Frag} {H : Hp} {p : Addr} {xs : List V} (h : FzT H p xs) : SqT K H p xs := let ⟨ob, _, e⟩ := h; .inl (.inr ⟨ob, e⟩)
theorem FzT.same {H H' : Hp} {p : Addr} {xs : List V} (h : FzT H p xs) (e : Same H H') : FzT H' p xs := let ⟨ob, d, e1⟩ := h; ⟨ob, d, e _ _ e1⟩
def tTupF (t : TA) : TE := fun σ H Q => t σ H fun xs H1 => xs.length ≤ sizeLine ∧ ∀ p H', Same H1 H' → FzT H' p xs → Q (.ref p) H'
def rCatF : R2 := fun x y H Q => ∃ a b xs ys, x = .ref a ∧ y = .ref b ∧ FzT H a xs ∧ FzT H b ys ∧ xs.length + ys.length ≤ sizeLine ∧ ∀ p H', Same H H' → FzT H' p (xs ++ ys) → Q (.ref p) H'
def tTCount (K : PySem.W.Frag) (to : TE) (t : TA) : TE := fun σ H Q => to σ H fun x H1 => (∃ p xs, x = .ref p ∧ FzT H1 p xs) ∧ t σ H1 fun ys H2 => rCntT K x ys H2 Q
section
variable {X : Cx} {o e : Expr} {es : List Expr} {to : TE} {t : TA} {apos cpos pos : Pos}
theorem same_push {H : Hp} {p : Addr} {o : HO} (h : H p = none) : Same H (upd H p o) := fun b u e => by rw [upd_ne (ne_of_none e h)]; exact e
theorem pe_tupF {x1} (h : PA X es t) : PE X (.Tuple es x1 pos) (tTupF t) := by
  refine ⟨fun pins s σ H Q I hq => ?_⟩
  refine wpAny_Tuple_spliced (thn (h.run pos pins s σ H _ I hq) fun us s1 ⟨xs, H1, I1, r, z, q⟩ => ⟨by rw [← r.length]; exact z, ?_⟩)
  have hf : H1 s1.heap.objs.size = none := I1.hok.fresh (Nat.le_refl _)
  refine ⟨.ref s1.heap.objs.size, upd H1 s1.heap.objs.size (.frz { cls := .type "tuple", data := .seq us.toArray } (.tup xs)), I1.laid (t' := s1.toks) (fun b u e => Heap.get?_push_of_some _ e) (Nat.le_refl _) ?_, rfl, q _ _ (same_push hf) ⟨_, rfl, upd_same⟩⟩
  exact ⟨Heap.get?_push_size _ rfl, z, us, r, ⟨_, Heap.get?_push_size _ rfl, rfl, _, rfl⟩⟩
theorem op_catF : OpR X (binaryOp .Add) rCatF := by
  intro pins s σ H x y v u Q I rx ry h
  obtain ⟨a, b, xs, ys, rfl, rfl, ha, hb, hz, q⟩ := h
  by_cases hx : xs = []
  · subst hx
    cases rx
    cases ry
    obtain ⟨its, r1, p1, _⟩ := I.tuple ha.sq
    obtain ⟨its2, r2, p2, _⟩ := I.tuple hb.sq
    cases r1
    exact cat_tup0 p1 p2 ⟨.ref b, H, I, rfl, q b H (Same.refl H) hb⟩
  · cases rx
    cases ry
    obtain ⟨its, r1, p1, _⟩ := I.tuple ha.sq
    obtain ⟨its2, r2, p2, _⟩ := I.tuple hb.sq
    refine HT.cat_tup p1 p2 (fun z => hx (r1.nil_iff.mp z)) (fun z => ⟨.ref a, H, I, rfl, q a H (Same.refl H) ?_⟩) (fun z => ?_) (by rw [← r1.length, ← r2.length]; exact hz)
    · rw [r2.nil_iff.mp z, List.append_nil]; exact ha
    · refine ⟨.ref s.heap.objs.size, _, I.laid (t' := s.toks) (o := .frz { cls := .type "tuple", data := .seq (its ++ its2).toArray } (.tup (xs ++ ys))) (fun b ob q => Heap.get?_push_of_some _ q) (Nat.le_refl _) ?_, rfl, q _ _ (same_push (I.hok.fresh (Nat.le_refl _))) ⟨_, rfl, upd_same⟩⟩
      exact ⟨Heap.get?_push_size _ rfl, by rw [List.length_append]; exact hz, _, r1.append r2, IsTup.new _ _⟩
theorem pe_tcount (ho : PE X o to) (ha : PA X (e :: es) t)
    (hbase : attributeBase o "count" X.env (eval o X.env) = eval o X.env := by rfl)
    (hfew : ((backTo cpos (starEach (e :: es) X.env)).all (fun x => !x.1) && (backToKw cpos (keywordEach [] X.env)).all (fun x => x.1.isSome)
      && decide ((e :: es).length + ([] : List Keyword).length + (if ([] : List Keyword).isEmpty then 0 else 1) < 30)) = true := by rfl)
    (hline : (apos.endLine == cpos.line) = true := by rfl) (hs : starEach (e :: es) X.env = (false, eval e X.env) :: starEach es X.env := by rfl) (hplain : (backTo cpos (starEach es X.env)).any (·.1) = false := by rfl) :
    PE X (.Call (.Attribute o "count" apos) (e :: es) [] cpos) (tTCount X.K to t) := by
  refine ⟨fun pins s σ H Q I h => ?_⟩
  refine wpAny_Call_method_late hbase hfew hline rfl (thn (ho.run pins s σ H _ I h) fun v s1 ⟨x, H1, I1, r1, ⟨p, xs, ex, hq⟩, q1⟩ => ?_)
  subst ex
  cases r1
  obtain ⟨ob, n, hq⟩ := hq
  obtain ⟨hob, _, its, rv, ⟨ob', hob', hc, _⟩⟩ := I1.hok p _ hq
  rw [hob] at hob'
  cases hob'
  refine ⟨"tuple", "tuple.count", PySem.F.plainAttrs_tuple, PySem.F.slot_tuple_count, PySem.F.type_tuple_count, ⟨ob, hob, hc⟩, fun a e2 => ?_, ?_⟩
  · cases e2
    exact ⟨ob, hob, n⟩
  have hA := ha.run cpos pins s1 σ H1 _ I1 q1
  rw [hs] at hA ⊢
  refine Calls.callWith_builtin (by show (false || (backTo cpos (starEach es X.env)).any (·.1)) = false; rw [hplain] <;> rfl) (Calls.evalArgs_plain ?_)
  exact thn hA fun us s2 ⟨vs, H2, I2, r2, q2⟩ => mt_tcount pins s2 σ H2 (.ref p) vs _ us Q I2 rfl r2 q2
end
end HcR
end

section
set_option Elab.async false
set_option linter.all false
set_option maxRecDepth 100000
set_option maxHeartbeats 4000000
/-! ## The program's text, the data in the heap -/
namespace Hc
open PySem PySem.Spec PyProof.Rows L2 HcR LamX

abbrev sc_is_integer_N : List Str := ["thing"]
abbrev sc_is_integer_S : Scope := defScope s_is_integer
theorem sc_is_integer : FnScope ["thing"] ["thing"] (defScope s_is_integer) := ⟨rfl, rfl, rfl, by decide +kernel, rfl, by decide +kernel, by decide +kernel⟩
abbrev sc_is_within_N : List Str := ["thing", "least", "most"]
abbrev sc_is_within_S : Scope := defScope s_is_within
theorem sc_is_within : FnScope ["thing", "least", "most"] ["thing", "least", "most"] (defScope s_is_within) := ⟨rfl, rfl, rfl, by decide +kernel, rfl, by decide +kernel, by decide +kernel⟩
abbrev sc_is_pair_N : List Str := ["thing"]
abbrev sc_is_pair_S : Scope := defScope s_is_pair
theorem sc_is_pair : FnScope ["thing"] ["thing"] (defScope s_is_pair) := ⟨rfl, rfl, rfl, by decide +kernel, rfl, by decide +kernel, by decide +kernel⟩
abbrev sc_are_ascending_N : List Str := ["numbers", "at"]
abbrev sc_are_ascending_S : Scope := defScope s_are_ascending
theorem sc_are_ascending : FnScope ["numbers", "at"] ["numbers"] (defScope s_are_ascending) := ⟨rfl, rfl, rfl, by decide +kernel, rfl, by decide +kernel, by decide +kernel⟩
abbrev sc_check_from_N : List Str := ["thing", "least"]
abbrev sc_check_from_S : Scope := defScope s_check_from
theorem sc_check_from : FnScope ["thing", "least"] ["thing", "least"] (defScope s_check_from) := ⟨rfl, rfl, rfl, by decide +kernel, rfl, by decide +kernel, by decide +kernel⟩
abbrev sc_are_roads_N : List Str := ["thing", "houses", "pair", "house"]
abbrev sc_are_roads_S : Scope := defScope s_are_roads
theorem sc_are_roads : FnScope ["thing", "houses", "pair", "house"] ["thing", "houses"] (defScope s_are_roads) := ⟨rfl, rfl, rfl, by decide +kernel, rfl, by decide +kernel, by decide +kernel⟩
abbrev sc_are_counts_N : List Str := ["thing", "many", "most", "count"]
abbrev sc_are_counts_S : Scope := defScope s_are_counts
theorem sc_are_counts : FnScope ["thing", "many", "most", "count"] ["thing", "many", "most"] (defScope s_are_counts) := ⟨rfl, rfl, rfl, by decide +kernel, rfl, by decide +kernel, by decide +kernel⟩
abbrev sc_Web_init_N : List Str := ["self", "houses", "roads", "rooms", "times"]
abbrev sc_Web_init_S : Scope := defScope s_Web_init
theorem sc_Web_init : FnScope ["self", "houses", "roads", "rooms", "times"] ["self", "houses", "roads", "rooms", "times"] (defScope s_Web_init) := ⟨rfl, rfl, rfl, by decide +kernel, rfl, by decide +kernel, by decide +kernel⟩
abbrev sc_Web_keep_N : List Str := ["self", "houses", "roads", "rooms", "times", "begun", "road", "pair", "row"]
abbrev sc_Web_keep_S : Scope := defScope s_Web_keep
theorem sc_Web_keep : FnScope ["self", "houses", "roads", "rooms", "times", "begun", "road", "pair", "row"] ["self", "houses", "roads", "rooms", "times"] (defScope s_Web_keep) := ⟨rfl, rfl, rfl, by decide +kernel, rfl, by decide +kernel, by decide +kernel⟩
abbrev sc_Web_eq_N : List Str := ["self", "other"]
abbrev sc_Web_eq_S : Scope := defScope s_Web_eq
theorem sc_Web_eq : FnScope ["self", "other"] ["self", "other"] (defScope s_Web_eq) := ⟨rfl, rfl, rfl, by decide +kernel, rfl, by decide +kernel, by decide +kernel⟩
abbrev sc_is_road_N : List Str := ["web", "thing"]
abbrev sc_is_road_S : Scope := defScope s_is_road
theorem sc_is_road : FnScope ["web", "thing"] ["web", "thing"] (defScope s_is_road) := ⟨rfl, rfl, rfl, by decide +kernel, rfl, by decide +kernel, by decide +kernel⟩
abbrev sc_is_way_N : List Str := ["web", "thing", "road", "at"]
abbrev sc_is_way_S : Scope := defScope s_is_way
theorem sc_is_way : FnScope ["web", "thing", "road", "at"] ["web", "thing"] (defScope s_is_way) := ⟨rfl, rfl, rfl, by decide +kernel, rfl, by decide +kernel, by decide +kernel⟩
abbrev sc_is_letter_N : List Str := ["web", "thing"]
abbrev sc_is_letter_S : Scope := defScope s_is_letter
theorem sc_is_letter : FnScope ["web", "thing"] ["web", "thing"] (defScope s_is_letter) := ⟨rfl, rfl, rfl, by decide +kernel, rfl, by decide +kernel, by decide +kernel⟩
abbrev sc_are_letters_N : List Str := ["web", "thing", "letter"]
abbrev sc_are_letters_S : Scope := defScope s_are_letters
theorem sc_are_letters : FnScope ["web", "thing", "letter"] ["web", "thing"] (defScope s_are_letters) := ⟨rfl, rfl, rfl, by decide +kernel, rfl, by decide +kernel, by decide +kernel⟩
abbrev sc_are_hours_N : List Str := ["letters", "thing", "letter", "hours", "hour"]
abbrev sc_are_hours_S : Scope := defScope s_are_hours
theorem sc_are_hours : FnScope ["letters", "thing", "letter", "hours", "hour"] ["letters", "thing"] (defScope s_are_hours) := ⟨rfl, rfl, rfl, by decide +kernel, rfl, by decide +kernel, by decide +kernel⟩
abbrev sc_earliest_N : List Str := ["web", "letter", "hours", "place"]
abbrev sc_earliest_S : Scope := defScope s_earliest
theorem sc_earliest : FnScope ["web", "letter", "hours", "place"] ["web", "letter", "hours", "place"] (defScope s_earliest) := ⟨rfl, rfl, rfl, by decide +kernel, rfl, by decide +kernel, by decide +kernel⟩
abbrev sc_is_early_N : List Str := ["web", "letters", "hours", "letter", "row", "place"]
abbrev sc_is_early_S : Scope := defScope s_is_early
theorem sc_is_early : FnScope ["web", "letters", "hours", "letter", "row", "place"] ["web", "letters", "hours"] (defScope s_is_early) := ⟨rfl, rfl, rfl, by decide +kernel, rfl, by decide +kernel, by decide +kernel⟩
abbrev sc_is_full_N : List Str := ["web", "letters", "hours", "counts", "letter", "row", "road", "hour", "key"]
abbrev sc_is_full_S : Scope := defScope s_is_full
theorem sc_is_full : FnScope ["web", "letters", "hours", "counts", "letter", "row", "road", "hour", "key"] ["web", "letters", "hours"] (defScope s_is_full) := ⟨rfl, rfl, rfl, by decide +kernel, rfl, by decide +kernel, by decide +kernel⟩
abbrev sc_Day_init_N : List Str := ["self", "web", "letters", "hours"]
abbrev sc_Day_init_S : Scope := defScope s_Day_init
theorem sc_Day_init : FnScope ["self", "web", "letters", "hours"] ["self", "web", "letters", "hours"] (defScope s_Day_init) := ⟨rfl, rfl, rfl, by decide +kernel, rfl, by decide +kernel, by decide +kernel⟩
abbrev sc_Day_eq_N : List Str := ["self", "other"]
abbrev sc_Day_eq_S : Scope := defScope s_Day_eq
theorem sc_Day_eq : FnScope ["self", "other"] ["self", "other"] (defScope s_Day_eq) := ⟨rfl, rfl, rfl, by decide +kernel, rfl, by decide +kernel, by decide +kernel⟩
abbrev sc_state_of_N : List Str := ["web", "letters", "homes", "hours", "slack", "found", "letter", "home", "row", "place", "hour", "ready"]
abbrev sc_state_of_S : Scope := defScope s_state_of
theorem sc_state_of : FnScope ["web", "letters", "homes", "hours", "slack", "found", "letter", "home", "row", "place", "hour", "ready"] ["web", "letters", "homes", "hours", "slack"] (defScope s_state_of) := ⟨rfl, rfl, rfl, by decide +kernel, rfl, by decide +kernel, by decide +kernel⟩
abbrev sc_is_lost_N : List Str := ["web", "state", "tick", "rest", "ready", "limit", "road"]
abbrev sc_is_lost_S : Scope := defScope s_is_lost
theorem sc_is_lost : FnScope ["web", "state", "tick", "rest", "ready", "limit", "road"] ["web", "state", "tick"] (defScope s_is_lost) := ⟨rfl, rfl, rfl, by decide +kernel, rfl, by decide +kernel, by decide +kernel⟩
abbrev sc_ways_to_pick_N : List Str := ["groups", "many", "found", "count", "others"]
abbrev sc_ways_to_pick_S : Scope := defScope s_ways_to_pick
theorem sc_ways_to_pick : FnScope ["groups", "many", "found", "count", "others"] ["groups", "many"] (defScope s_ways_to_pick) := ⟨rfl, rfl, rfl, by decide +kernel, rfl, by decide +kernel, by decide +kernel⟩
abbrev sc_picks_by_road_N : List Str := ["web", "state", "tick", "waits", "number", "rest", "ready", "limit", "found", "road", "groups", "many", "group"]
abbrev sc_picks_by_road_S : Scope := defScope s_picks_by_road
theorem sc_picks_by_road : FnScope ["web", "state", "tick", "waits", "number", "rest", "ready", "limit", "found", "road", "groups", "many", "group"] ["web", "state", "tick"] (defScope s_picks_by_road) := ⟨rfl, rfl, rfl, by decide +kernel, rfl, by decide +kernel, by decide +kernel⟩
abbrev sc_picks_of_N : List Str := ["web", "state", "tick", "found", "picks", "ahead", "pick"]
abbrev sc_picks_of_S : Scope := defScope s_picks_of
theorem sc_picks_of : FnScope ["web", "state", "tick", "found", "picks", "ahead", "pick"] ["web", "state", "tick"] (defScope s_picks_of) := ⟨rfl, rfl, rfl, by decide +kernel, rfl, by decide +kernel, by decide +kernel⟩
abbrev sc_state_behind_N : List Str := ["web", "state", "tick", "picked", "found", "number", "rest", "ready", "limit"]
abbrev sc_state_behind_S : Scope := defScope s_state_behind
theorem sc_state_behind : FnScope ["web", "state", "tick", "picked", "found", "number", "rest", "ready", "limit"] ["web", "state", "tick", "picked"] (defScope s_state_behind) := ⟨rfl, rfl, rfl, by decide +kernel, rfl, by decide +kernel, by decide +kernel⟩
abbrev sc_Search_init_N : List Str := ["self", "web"]
abbrev sc_Search_init_S : Scope := defScope s_Search_init
theorem sc_Search_init : FnScope ["self", "web"] ["self", "web"] (defScope s_Search_init) := ⟨rfl, rfl, rfl, by decide +kernel, rfl, by decide +kernel, by decide +kernel⟩
abbrev sc_Search_can_save_N : List Str := ["self", "state", "tick", "rest", "ready", "limit", "key"]
abbrev sc_Search_can_save_S : Scope := defScope s_Search_can_save
theorem sc_Search_can_save : FnScope ["self", "state", "tick", "rest", "ready", "limit", "key"] ["self", "state", "tick"] (defScope s_Search_can_save) := ⟨rfl, rfl, rfl, by decide +kernel, rfl, by decide +kernel, by decide +kernel⟩
abbrev sc_Search_tried_N : List Str := ["self", "state", "tick", "picked"]
abbrev sc_Search_tried_S : Scope := defScope s_Search_tried
theorem sc_Search_tried : FnScope ["self", "state", "tick", "picked"] ["self", "state", "tick"] (defScope s_Search_tried) := ⟨rfl, rfl, rfl, by decide +kernel, rfl, by decide +kernel, by decide +kernel⟩
abbrev sc_Pair_init_N : List Str := ["self", "web", "later", "until"]
abbrev sc_Pair_init_S : Scope := defScope s_Pair_init
theorem sc_Pair_init : FnScope ["self", "web", "later", "until"] ["self", "web", "later", "until"] (defScope s_Pair_init) := ⟨rfl, rfl, rfl, by decide +kernel, rfl, by decide +kernel, by decide +kernel⟩
abbrev sc_Pair_both_saved_N : List Str := ["self", "state", "tick", "rest", "ready", "limit", "key"]
abbrev sc_Pair_both_saved_S : Scope := defScope s_Pair_both_saved
theorem sc_Pair_both_saved : FnScope ["self", "state", "tick", "rest", "ready", "limit", "key"] ["self", "state", "tick"] (defScope s_Pair_both_saved) := ⟨rfl, rfl, rfl, by decide +kernel, rfl, by decide +kernel, by decide +kernel⟩
abbrev sc_Pair_saved_behind_N : List Str := ["self", "state", "later"]
abbrev sc_Pair_saved_behind_S : Scope := defScope s_Pair_saved_behind
theorem sc_Pair_saved_behind : FnScope ["self", "state", "later"] ["self", "state"] (defScope s_Pair_saved_behind) := ⟨rfl, rfl, rfl, by decide +kernel, rfl, by decide +kernel, by decide +kernel⟩
abbrev sc_Pair_both_tried_N : List Str := ["self", "state", "tick", "picked"]
abbrev sc_Pair_both_tried_S : Scope := defScope s_Pair_both_tried
theorem sc_Pair_both_tried : FnScope ["self", "state", "tick", "picked"] ["self", "state", "tick"] (defScope s_Pair_both_tried) := ⟨rfl, rfl, rfl, by decide +kernel, rfl, by decide +kernel, by decide +kernel⟩
abbrev sc_split_state_N : List Str := ["day", "until", "slack", "states", "is_behind", "numbers", "number", "letter", "letters", "homes"]
abbrev sc_split_state_S : Scope := defScope s_split_state
theorem sc_split_state : FnScope ["day", "until", "slack", "states", "is_behind", "numbers", "number", "letter", "letters", "homes"] ["day", "until", "slack"] (defScope s_split_state) := ⟨rfl, rfl, rfl, by decide +kernel, rfl, by decide +kernel, by decide +kernel⟩
abbrev sc_both_lost_N : List Str := ["day", "other", "until", "late", "slack", "state", "later", "its"]
abbrev sc_both_lost_S : Scope := defScope s_both_lost
theorem sc_both_lost : FnScope ["day", "other", "until", "late", "slack", "state", "later", "its"] ["day", "other", "until", "late"] (defScope s_both_lost) := ⟨rfl, rfl, rfl, by decide +kernel, rfl, by decide +kernel, by decide +kernel⟩
abbrev sc_are_plan_places_N : List Str := ["thing", "length", "place"]
abbrev sc_are_plan_places_S : Scope := defScope s_are_plan_places
theorem sc_are_plan_places : FnScope ["thing", "length", "place"] ["thing", "length"] (defScope s_are_plan_places) := ⟨rfl, rfl, rfl, by decide +kernel, rfl, by decide +kernel, by decide +kernel⟩
abbrev sc_is_plan_N : List Str := ["thing", "at", "places"]
abbrev sc_is_plan_S : Scope := defScope s_is_plan
theorem sc_is_plan : FnScope ["thing", "at", "places"] ["thing"] (defScope s_is_plan) := ⟨rfl, rfl, rfl, by decide +kernel, rfl, by decide +kernel, by decide +kernel⟩
abbrev sc_check_plan_N : List Str := ["thing"]
abbrev sc_check_plan_S : Scope := defScope s_check_plan
theorem sc_check_plan : FnScope ["thing"] ["thing"] (defScope s_check_plan) := ⟨rfl, rfl, rfl, by decide +kernel, rfl, by decide +kernel, by decide +kernel⟩
abbrev sc_plan_card_N : List Str := ["letter", "row", "plan", "way", "come", "places", "told", "place", "hour"]
abbrev sc_plan_card_S : Scope := defScope s_plan_card
theorem sc_plan_card : FnScope ["letter", "row", "plan", "way", "come", "places", "told", "place", "hour"] ["letter", "row", "plan"] (defScope s_plan_card) := ⟨rfl, rfl, rfl, by decide +kernel, rfl, by decide +kernel, by decide +kernel⟩
abbrev sc_plan_cards_N : List Str := ["day", "plan", "letter", "row"]
abbrev sc_plan_cards_S : Scope := defScope s_plan_cards
theorem sc_plan_cards : FnScope ["day", "plan", "letter", "row"] ["day", "plan"] (defScope s_plan_cards) := ⟨rfl, rfl, rfl, by decide +kernel, rfl, by decide +kernel, by decide +kernel⟩
abbrev sc_is_web_with_days_N : List Str := ["thing", "day"]
abbrev sc_is_web_with_days_S : Scope := defScope s_is_web_with_days
theorem sc_is_web_with_days : FnScope ["thing", "day"] ["thing"] (defScope s_is_web_with_days) := ⟨rfl, rfl, rfl, by decide +kernel, rfl, by decide +kernel, by decide +kernel⟩
abbrev sc_early_cards_N : List Str := ["day", "plan", "tick", "number", "card"]
abbrev sc_early_cards_S : Scope := defScope s_early_cards
theorem sc_early_cards : FnScope ["day", "plan", "tick", "number", "card"] ["day", "plan", "tick"] (defScope s_early_cards) := ⟨rfl, rfl, rfl, by decide +kernel, rfl, by decide +kernel, by decide +kernel⟩
abbrev sc_is_plan_trap_N : List Str := ["plan", "ahead", "thing", "days", "day", "tick"]
abbrev sc_is_plan_trap_S : Scope := defScope s_is_plan_trap
theorem sc_is_plan_trap : FnScope ["plan", "ahead", "thing", "days", "day", "tick"] ["plan", "ahead", "thing"] (defScope s_is_plan_trap) := ⟨rfl, rfl, rfl, by decide +kernel, rfl, by decide +kernel, by decide +kernel⟩
abbrev sc_law_hand_N : List Str := ["_law_script", "_law_cells", "_law_cell"]
abbrev sc_law_hand_S : Scope := defScope s_law_hand
theorem sc_law_hand : FnScope ["_law_script", "_law_cells", "_law_cell"] ["_law_script"] (defScope s_law_hand) := ⟨rfl, rfl, rfl, by decide +kernel, rfl, by decide +kernel, by decide +kernel⟩
abbrev sc_law_draw_N : List Str := ["_law_hand_here", "_law_many", "_law_cell", "_law_digit", "_law_number"]
abbrev sc_law_draw_S : Scope := defScope s_law_draw
theorem sc_law_draw : FnScope ["_law_hand_here", "_law_many", "_law_cell", "_law_digit", "_law_number"] ["_law_hand_here", "_law_many"] (defScope s_law_draw) := ⟨rfl, rfl, rfl, by decide +kernel, rfl, by decide +kernel, by decide +kernel⟩
abbrev sc_law_flag_N : List Str := ["_law_told", "_law_due"]
abbrev sc_law_flag_S : Scope := defScope s_law_flag
theorem sc_law_flag : FnScope ["_law_told", "_law_due"] ["_law_told", "_law_due"] (defScope s_law_flag) := ⟨rfl, rfl, rfl, by decide +kernel, rfl, by decide +kernel, by decide +kernel⟩
abbrev sc_law_put_N : List Str := ["_law_thing", "_law_at", "_law_item"]
abbrev sc_law_put_S : Scope := defScope s_law_put
theorem sc_law_put : FnScope ["_law_thing", "_law_at", "_law_item"] ["_law_thing", "_law_at", "_law_item"] (defScope s_law_put) := ⟨rfl, rfl, rfl, by decide +kernel, rfl, by decide +kernel, by decide +kernel⟩
abbrev sc_law_early_N : List Str := ["_law_cards", "_law_until", "_law_k"]
abbrev sc_law_early_S : Scope := defScope s_law_early
theorem sc_law_early : FnScope ["_law_cards", "_law_until", "_law_k"] ["_law_cards", "_law_until"] (defScope s_law_early) := ⟨rfl, rfl, rfl, by decide +kernel, rfl, by decide +kernel, by decide +kernel⟩
abbrev sc_law_plan_N : List Str := ["_law_hand_here", "_law_gaps", "_law_plan_here", "_law_length", "_law_told", "_law_place", "_law_needed"]
abbrev sc_law_plan_S : Scope := defScope s_law_plan
theorem sc_law_plan : FnScope ["_law_hand_here", "_law_gaps", "_law_plan_here", "_law_length", "_law_told", "_law_place", "_law_needed"] ["_law_hand_here", "_law_gaps"] (defScope s_law_plan) := ⟨rfl, rfl, rfl, by decide +kernel, rfl, by decide +kernel, by decide +kernel⟩
abbrev sc_law_plan_card_N : List Str := ["_law_letter", "_law_row", "_law_plan_here", "_law_told", "_law_at"]
abbrev sc_law_plan_card_S : Scope := defScope s_law_plan_card
theorem sc_law_plan_card : FnScope ["_law_letter", "_law_row", "_law_plan_here", "_law_told", "_law_at"] ["_law_letter", "_law_row", "_law_plan_here"] (defScope s_law_plan_card) := ⟨rfl, rfl, rfl, by decide +kernel, rfl, by decide +kernel, by decide +kernel⟩
abbrev sc_law_any_late_N : List Str := ["_law_letters", "_law_homes", "_law_times", "_law_state", "_law_tick", "_law_places", "_law_readies", "_law_k", "_law_rest", "_law_road"]
abbrev sc_law_any_late_S : Scope := defScope s_law_any_late
theorem sc_law_any_late : FnScope ["_law_letters", "_law_homes", "_law_times", "_law_state", "_law_tick", "_law_places", "_law_readies", "_law_k", "_law_rest", "_law_road"] ["_law_letters", "_law_homes", "_law_times", "_law_state", "_law_tick"] (defScope s_law_any_late) := ⟨rfl, rfl, rfl, by decide +kernel, rfl, by decide +kernel, by decide +kernel⟩
abbrev sc_law_passings_N : List Str := ["_law_letters", "_law_rooms", "_law_times", "_law_state", "_law_tick", "_law_found", "_law_k", "_law_later", "_law_places", "_law_readies", "_law_used", "_law_road", "_law_on"]
abbrev sc_law_passings_S : Scope := defScope s_law_passings
theorem sc_law_passings : FnScope ["_law_letters", "_law_rooms", "_law_times", "_law_state", "_law_tick", "_law_found", "_law_k", "_law_later", "_law_places", "_law_readies", "_law_used", "_law_road", "_law_on"] ["_law_letters", "_law_rooms", "_law_times", "_law_state", "_law_tick"] (defScope s_law_passings) := ⟨rfl, rfl, rfl, by decide +kernel, rfl, by decide +kernel, by decide +kernel⟩
abbrev sc_law_led_on_N : List Str := ["_law_letters", "_law_homes", "_law_rooms", "_law_times", "_law_states", "_law_first", "_law_last", "_law_tick", "_law_known", "_law_state", "_law_places", "_law_readies", "_law_ready"]
abbrev sc_law_led_on_S : Scope := defScope s_law_led_on
theorem sc_law_led_on : FnScope ["_law_letters", "_law_homes", "_law_rooms", "_law_times", "_law_states", "_law_first", "_law_last", "_law_tick", "_law_known", "_law_state", "_law_places", "_law_readies", "_law_ready"] ["_law_letters", "_law_homes", "_law_rooms", "_law_times", "_law_states", "_law_first", "_law_last"] (defScope s_law_led_on) := ⟨rfl, rfl, rfl, by decide +kernel, rfl, by decide +kernel, by decide +kernel⟩
abbrev sc_law_both_lost_N : List Str := ["_law_days_here", "_law_rooms", "_law_times", "_law_until", "_law_homes", "_law_row", "_law_day", "_law_known", "_law_k", "_law_letters", "_law_begin", "_law_one", "_law_places", "_law_readies", "_law_able", "_law_j", "_law_all_letters", "_law_wide", "_law_ready", "_law_at", "_law_last"]
abbrev sc_law_both_lost_S : Scope := defScope s_law_both_lost
theorem sc_law_both_lost : FnScope ["_law_days_here", "_law_rooms", "_law_times", "_law_until", "_law_homes", "_law_row", "_law_day", "_law_known", "_law_k", "_law_letters", "_law_begin", "_law_one", "_law_places", "_law_readies", "_law_able", "_law_j", "_law_all_letters", "_law_wide", "_law_ready", "_law_at", "_law_last"] ["_law_days_here", "_law_rooms", "_law_times", "_law_until"] (defScope s_law_both_lost) := ⟨rfl, rfl, rfl, by decide +kernel, rfl, by decide +kernel, by decide +kernel⟩
abbrev sc_law_shorts_N : List Str := ["_law_hand_here", "_law_found", "_law_k", "_law_come", "_law_way"]
abbrev sc_law_shorts_S : Scope := defScope s_law_shorts
theorem sc_law_shorts : FnScope ["_law_hand_here", "_law_found", "_law_k", "_law_come", "_law_way"] ["_law_hand_here"] (defScope s_law_shorts) := ⟨rfl, rfl, rfl, by decide +kernel, rfl, by decide +kernel, by decide +kernel⟩
abbrev sc_law_made_N : List Str := ["_law_web", "_law_rows", "_law_day", "_law_row"]
abbrev sc_law_made_S : Scope := defScope s_law_made
theorem sc_law_made : FnScope ["_law_web", "_law_rows", "_law_day", "_law_row"] ["_law_web", "_law_rows"] (defScope s_law_made) := ⟨rfl, rfl, rfl, by decide +kernel, rfl, by decide +kernel, by decide +kernel⟩
abbrev sc_law_long_N : List Str := ["_law_hand_here", "_law_way", "_law_times", "_law_home", "_law_first", "_law_second"]
abbrev sc_law_long_S : Scope := defScope s_law_long
theorem sc_law_long : FnScope ["_law_hand_here", "_law_way", "_law_times", "_law_home", "_law_first", "_law_second"] ["_law_hand_here", "_law_way", "_law_times", "_law_home"] (defScope s_law_long) := ⟨rfl, rfl, rfl, by decide +kernel, rfl, by decide +kernel, by decide +kernel⟩
abbrev sc_law_days_N : List Str := ["_law_hand_here", "_law_web", "_law_times", "_law_late", "_law_homes", "_law_common", "_law_row", "_law_found", "_law_k", "_law_rows", "_law_own"]
abbrev sc_law_days_S : Scope := defScope s_law_days
theorem sc_law_days : FnScope ["_law_hand_here", "_law_web", "_law_times", "_law_late", "_law_homes", "_law_common", "_law_row", "_law_found", "_law_k", "_law_rows", "_law_own"] ["_law_hand_here", "_law_web", "_law_times", "_law_late"] (defScope s_law_days) := ⟨rfl, rfl, rfl, by decide +kernel, rfl, by decide +kernel, by decide +kernel⟩
abbrev sc_law_N : List Str := ["_law_script", "_law_hand_here", "_law_roads", "_law_rooms", "_law_times", "_law_road", "_law_web", "_law_turn", "_law_told", "_law_plan_here", "_law_until", "_law_ahead", "_law_days_here", "_law_ones", "_law_day", "_law_cards", "_law_one", "_law_row", "_law_due"]
abbrev sc_law_S : Scope := defScope s_law
theorem sc_law : FnScope ["_law_script", "_law_hand_here", "_law_roads", "_law_rooms", "_law_times", "_law_road", "_law_web", "_law_turn", "_law_told", "_law_plan_here", "_law_until", "_law_ahead", "_law_days_here", "_law_ones", "_law_day", "_law_cards", "_law_one", "_law_row", "_law_due"] ["_law_script"] (defScope s_law) := ⟨rfl, rfl, rfl, by decide +kernel, rfl, by decide +kernel, by decide +kernel⟩
/-! ### names -/
structure Ev (mg : Str → Option Value) : Prop where
  isinstance : mg "isinstance" = none
  int : mg "int" = none
  bool : mg "bool" = none
  tuple : mg "tuple" = none
  len : mg "len" = none
  range : mg "range" = none
  all : mg "all" = none
  any : mg "any" = none
  enumerate : mg "enumerate" = none
  zip : mg "zip" = none
  sum : mg "sum" = none
  max : mg "max" = none
  min : mg "min" = none
  sorted : mg "sorted" = none
  list : mg "list" = none
  abs : mg "abs" = none
abbrev FnP (K : PySem.W.Frag) (x : Str) (st : Stmt) (f : Addr) (fd : FuncData) : Prop := FunD K x x (defArgs st) (defBody st) (defScope st) [] [] f fd
/-- a def of the text stands in the module -/
def Def (K : PySem.W.Frag) (mg : Str → Option Value) (x : Str) (st : Stmt) : Prop := ∃ f fd, FnP K x st f fd ∧ mg x = some (.ref f)
/-- a def of the module keeps a promise -/
def Has (P : Program) (w : World) (K : PySem.W.Frag) (mg : Str → Option Value) (base : Heap) (CX : CXT) (k : Nat) (x : Str) (ps : List Str) (sp : Sp) : Prop :=
  ∃ f fd, FnOk P w K mg base CX k f fd ps sp ∧ mg x = some (.ref f) ∧ PySem.W.keepIn K (.ref f) = true ∧ L2.Binds K fd ps []
section
variable {P : Program} {w : World} {K : PySem.W.Frag} {mg : Str → Option Value} {base : Heap} {CX : CXT} {k j : Nat} {x : Str} {ps : List Str} {sp : Sp} {st : Stmt}
theorem Has.of (D : Def K mg x st) (hb : ∀ (kV doc pm : Value) (an : Option Addr) (cdv ct : Value) (us : List Value), us.length = ps.length → bindArgs (PySem.W.fnOf x x (defArgs st) (defBody st) (defScope st) .none kV doc pm an cdv ct) ⟨us, []⟩ = pure (ps.zip us))
    (ok : ∀ f fd, FnP K x st f fd → FnOk P w K mg base CX k f fd ps sp) : Has P w K mg base CX k x ps sp := by
  obtain ⟨f, fd, F, g⟩ := D
  exact ⟨f, fd, ok f fd F, g, F.kp, F.bindsN hb⟩
theorem Has.mono (h : Has P w K mg base CX j x ps sp) (l : j ≤ k) : Has P w K mg base CX k x ps sp := by
  obtain ⟨f, fd, F, g⟩ := h
  exact ⟨f, fd, F.mono l, g⟩
end
section
variable {X : Cx} {k : Nat} {ps : List Str} {sp : Sp} {x : Str} {p pos : Pos} {e : Expr} {es : List Expr} {t : TA}
theorem pe_has (h : Has X.prog X.w X.K X.mg X.base CX0 k x ps sp) (hr : Room k X.A) (hg : Gl X x) (ha : PA X (e :: es) t) (hdb : (x == ("__debug__" : Str)) = false := by decide)
    (he : starEach (e :: es) X.env = (false, eval e X.env) :: starEach es X.env := by rfl) (hpl : (backTo pos (starEach es X.env)).any (·.1) = false := by rfl) : PE X (.Call (.Name x p) (e :: es) [] pos) (tCall sp [] E0 t) := by
  obtain ⟨f, fd, F, g, kp, b⟩ := h
  exact pe_call F hr hg g kp b .nil pass0 ha hdb he hpl
end
/-! ### some rules, the written part by name (within comprehensions) -/
def rLenS (K : PySem.W.Frag) : List V → Hp → VK → Prop := fun xs H Q => ∃ p ys, xs = [V.ref p] ∧ (SqL K H p ys ∨ SqT K H p ys) ∧ Q (.int ys.length) H
def rTupOf (K : PySem.W.Frag) : List V → Hp → VK → Prop := fun xs H Q => ∃ p ys, xs = [V.ref p] ∧ ((SqL K H p ys ∧ ∀ l, H l = none → Q (.ref l) (upd H l (.tup ys))) ∨ (SqT K H p ys ∧ Q (.ref p) H))
def rListOf (K : PySem.W.Frag) : List V → Hp → VK → Prop := fun xs H Q => ∃ p ys, xs = [V.ref p] ∧ (SqL K H p ys ∨ SqT K H p ys) ∧ ∀ l, H l = none → Q (.ref l) (upd H l (.lst ys))
section
variable {X : Cx} {K : PySem.W.Frag}
theorem lenS (h : X.K = K) : CallR X (.builtin "len") (rLenS K) := by subst h; exact call_len_seq
theorem tupOf (h : X.K = K) : CallR X (.type "tuple") (rTupOf K) := by subst h; exact call_tuple_of
theorem listOf (h : X.K = K) : CallR X (.type "list") (rListOf K) := by subst h; exact call_list_of
theorem isiK (h : X.K = K) : CallR X (.builtin "isinstance") (rIsi K) := by subst h; exact call_isi
theorem ixT (h : X.K = K) : IxR X (rIxT K) := by subst h; exact ix_tup
theorem ixL (h : X.K = K) : IxR X (rIxL K) := by subst h; exact ix_list
theorem allK (h : X.K = K) (hc : X.calm = true) : CallR X (.builtin "all") (rAll K) := by subst h; exact cr_all hc
theorem anyK (h : X.K = K) (hc : X.calm = true) : CallR X (.builtin "any") (rAny K) := by subst h; exact cr_any hc
theorem sumK (h : X.K = K) (hc : X.calm = true) : CallR X (.builtin "sum") (rSum K) := by subst h; exact cr_sum hc
theorem minK (h : X.K = K) (hc : X.calm = true) : CallR X (.builtin "min") (rMin K) := by subst h; exact cr_min hc
theorem maxK (h : X.K = K) (hc : X.calm = true) : CallR X (.builtin "max") (rMax K) := by subst h; exact cr_max hc
/-- a slice of a tuple: some tuple of those items -/
def rSlU : V → Option Int → Option Int → Hp → VK → Prop := fun x lo hi H Q => ∃ a xs, x = .ref a ∧ H a = some (.tup xs) ∧ ∀ b H', Same H H' → H' b = some (.tup (cutV xs lo hi)) → Q (.ref b) H'
theorem cut_whole {xs : List V} {lo hi : Option Int} (h : HT.sIx xs.length 0 lo = 0 ∧ HT.sIx xs.length xs.length hi = xs.length) : cutV xs lo hi = xs := by
  unfold cutV
  rw [h.1, h.2]
  simp
theorem slU : SlR X rSlU := by
  intro pins s σ H x v vl vu lo hi sl Q I rx hs pl pu h
  obtain ⟨a, xs, rfl, hx, q⟩ := h
  exact sl_tupA pins s σ H _ v vl vu lo hi sl Q I rx hs pl pu ⟨a, xs, rfl, .inl (.inl hx), fun hw => q a H (Same.refl H) (by rw [cut_whole hw]; exact hx), fun _ p hp => q p _ (same_new hp) upd_same⟩
/-- two tuples together -/
def rCatU : R2 := fun x y H Q => ∃ a b xs ys, x = .ref a ∧ y = .ref b ∧ H a = some (.tup xs) ∧ H b = some (.tup ys) ∧ xs.length + ys.length ≤ sizeLine ∧ ∀ p H', Same H H' → H' p = some (.tup (xs ++ ys)) → Q (.ref p) H'
theorem opCatU : OpR X (binaryOp .Add) rCatU := by
  intro pins s σ H x y v u Q I rx ry h
  obtain ⟨a, b, xs, ys, rfl, rfl, ha, hb, hz, q⟩ := h
  refine op_catA pins s σ H _ _ v u Q I rx ry ⟨a, b, xs, ys, rfl, rfl, .inl (.inl ha), .inl (.inl hb), hz, fun e => q b H (Same.refl H) ?_, fun _ e => q a H (Same.refl H) ?_, fun _ _ p hp => q p _ (same_new hp) upd_same⟩
  · rw [e, List.nil_append]; exact hb
  · rw [e, List.append_nil]; exact ha
theorem cut_from (xs : List V) (n : Nat) : cutV xs (some (n : Int)) none = xs.drop n := by
  unfold cutV
  rw [HT.sIx_nat, HT.sIx_none]
  rw [List.take_of_length_le (by rw [List.length_drop]; omega)]
  by_cases h : n ≤ xs.length
  · rw [Nat.min_eq_left h]
  · rw [Nat.min_eq_right (by omega), List.drop_of_length_le (Nat.le_refl _), List.drop_of_length_le (by omega)]
theorem cut_to (xs : List V) (n : Nat) : cutV xs none (some (n : Int)) = xs.take n := by
  unfold cutV
  rw [HT.sIx_nat, HT.sIx_none, List.drop_zero, Nat.sub_zero]
  by_cases h : n ≤ xs.length
  · rw [Nat.min_eq_left h]
  · rw [Nat.min_eq_right (by omega), List.take_of_length_le (Nat.le_refl _), List.take_of_length_le (by omega)]
theorem cut_init (xs : List V) : cutV xs none (some (-1)) = xs.dropLast := by
  unfold cutV
  have e : HT.sIx xs.length xs.length (some (-1)) = xs.length - 1 := by
    show (if (-1 : Int) < 0 then ((-1 : Int) + (xs.length : Int)).toNat else min (-1 : Int).toNat xs.length) = _
    rw [if_pos (by decide)]
    omega
  rw [e, HT.sIx_none, List.drop_zero, Nat.sub_zero, List.dropLast_eq_take]
theorem opInK (h : X.K = K) : OpR X (compareOp .In) (rIn K false) := by subst h; exact op_in_seq
theorem opNotInK (h : X.K = K) : OpR X (compareOp .NotIn) (rIn K true) := by subst h; exact op_notIn_seq
theorem walk_zipT {a b : Addr} {xs ys : List V} {n : Nat} (hn : n = min xs.length ys.length) : Walk (RZ.ItzT K a b) n (fun H => SqT K H a xs ∧ SqT K H b ys) (YPair (fun i => xs[i]?) (fun i => ys[i]?)) := by
  subst hn
  refine ⟨fun i _ hi q => ?_, fun _ q => ⟨xs, ys, q.1, q.2, by omega⟩, fun i H v H' _ q y => ?_⟩
  · have h1 : i < xs.length := by omega
    have h2 : i < ys.length := by omega
    exact ⟨xs, ys, xs[i], ys[i], q.1, q.2, by simp [h1], by simp [h2]⟩
  · obtain ⟨T, x, z, h1, h2, h3, h4, h5⟩ := y
    exact ⟨T, x, z, h1, h2, h3, h4 xs q.1, h5 ys q.2⟩
theorem pe_fldK {e : Expr} {f : Str} {pos : Pos} {ta : TE} (h : X.K = K) (he : PE X e ta) (hb : attributeBase e f X.env (eval e X.env) = eval e X.env) : PE X (.Attribute e f pos) (tFld K ta f) := by subst h; exact pe_fld he hb
end
/-! ### data: ints, tuples, all tracked -/
mutual
inductive Td (H : Hp) : V → PyData → Prop
  | non : Td H .non .none
  | bl (b : Bool) : Td H (.bl b) (.bool b)
  | int (i : Int) : Td H (.int i) (.int i)
  | tup {a : Addr} {xs : List V} {ds : List PyData} : H a = some (.tup xs) → TdAll H xs ds → Td H (.ref a) (.tuple ds)
inductive TdAll (H : Hp) : List V → List PyData → Prop
  | nil : TdAll H [] []
  | cons {v : V} {vs : List V} {d : PyData} {ds : List PyData} : Td H v d → TdAll H vs ds → TdAll H (v :: vs) (d :: ds)
end
/-- tuples are kept -/
def TK (H H' : Hp) : Prop := ∀ b xs, H b = some (.tup xs) → H' b = some (.tup xs)
theorem TK.refl (H : Hp) : TK H H := fun _ _ h => h
theorem TK.trans {H H1 H2 : Hp} (a : TK H H1) (b : TK H1 H2) : TK H H2 := fun c o h => b c o (a c o h)
theorem TK.of {H H' : Hp} (e : Same H H') : TK H H' := fun b xs h => e b _ h
theorem TK.ext {H H' : Hp} (e : ExtN H H') : TK H H' := fun b xs h => e b _ h (fun _ z => by cases z)
mutual
theorem Td.keep {H H' : Hp} (k : TK H H') : ∀ {v : V} {d : PyData}, Td H v d → Td H' v d
  | _, _, .non => .non
  | _, _, .bl b => .bl b
  | _, _, .int i => .int i
  | _, _, .tup s a => .tup (k _ _ s) (TdAll.keep k a)
theorem TdAll.keep {H H' : Hp} (k : TK H H') : ∀ {vs : List V} {ds : List PyData}, TdAll H vs ds → TdAll H' vs ds
  | _, _, .nil => .nil
  | _, _, .cons h t => .cons (Td.keep k h) (TdAll.keep k t)
end
mutual
theorem Td.dp {K : PySem.W.Frag} {H : Hp} : ∀ {v : V} {d : PyData}, Td H v d → Dp K H v d
  | _, _, .non => .non
  | _, _, .bl b => .bl b
  | _, _, .int i => .int i
  | _, _, .tup s a => .tup (.inl (.inl s)) (TdAll.dp a)
theorem TdAll.dp {K : PySem.W.Frag} {H : Hp} : ∀ {vs : List V} {ds : List PyData}, TdAll H vs ds → DpAll K H vs ds
  | _, _, .nil => .nil
  | _, _, .cons h t => .cons (Td.dp h) (TdAll.dp t)
end
section
variable {H : Hp}
theorem TdAll.len : ∀ {vs : List V} {ds : List PyData}, TdAll H vs ds → vs.length = ds.length
  | _, _, .nil => rfl
  | _, _, .cons _ t => congrArg (· + 1) (TdAll.len t)
theorem TdAll.get : ∀ {vs : List V} {ds : List PyData}, TdAll H vs ds → ∀ {i : Nat} {d : PyData}, ds[i]? = some d → ∃ v, vs[i]? = some v ∧ Td H v d
  | _, _, .nil, i, d, h => by simp at h
  | _, _, .cons (v := v) h t, 0, d, e => by
    simp only [List.getElem?_cons_zero, Option.some.injEq] at e
    subst e
    exact ⟨v, rfl, h⟩
  | _, _, .cons h t, i + 1, d, e => by
    simp only [List.getElem?_cons_succ] at e ⊢
    exact TdAll.get t e
theorem TdAll.got {vs : List V} {ds : List PyData} (h : TdAll H vs ds) {i : Nat} {v : V} (e : vs[i]? = some v) : ∃ d, ds[i]? = some d ∧ Td H v d := by
  have hl := h.len
  have hi : i < vs.length := (List.getElem?_eq_some_iff.mp e).1
  obtain ⟨v', e', t⟩ := h.get (List.getElem?_eq_getElem (by omega : i < ds.length))
  rw [e] at e'
  cases e'
  exact ⟨_, List.getElem?_eq_getElem _, t⟩
theorem TdAll.app {vs ws : List V} {ds es : List PyData} (h : TdAll H vs ds) (g : TdAll H ws es) : TdAll H (vs ++ ws) (ds ++ es) := by
  induction vs generalizing ds with
  | nil => cases h; exact g
  | cons v vs ih =>
    cases h with
    | cons h t => exact .cons h (ih t)
theorem TdAll.snoc {vs : List V} {ds : List PyData} {v : V} {d : PyData} (h : TdAll H vs ds) (g : Td H v d) : TdAll H (vs ++ [v]) (ds ++ [d]) := h.app (.cons g .nil)
/-- built place by place -/
theorem TdAll.of : ∀ {vs : List V} {ds : List PyData}, vs.length = ds.length → (∀ (i : Nat) (v : V) (d : PyData), vs[i]? = some v → ds[i]? = some d → Td H v d) → TdAll H vs ds
  | [], [], _, _ => .nil
  | v :: vs, d :: ds, h, f => .cons (f 0 v d rfl rfl) (TdAll.of (by simpa using h) fun i v d h1 h2 => f (i + 1) v d (by simpa using h1) (by simpa using h2))
theorem TdAll.mem {vs : List V} {ds : List PyData} (h : TdAll H vs ds) {v : V} (hv : v ∈ vs) : ∃ d ∈ ds, Td H v d := by
  obtain ⟨i, hi, e⟩ := List.mem_iff_getElem.mp hv
  obtain ⟨d, e1, t⟩ := h.got (i := i) (v := v) (by rw [← e]; exact List.getElem?_eq_getElem hi)
  exact ⟨d, List.mem_of_getElem? e1, t⟩
theorem Td.tuple {v : V} {ds : List PyData} (h : Td H v (.tuple ds)) : ∃ a xs, v = .ref a ∧ H a = some (.tup xs) ∧ TdAll H xs ds := by
  cases h with
  | tup h1 h2 => exact ⟨_, _, rfl, h1, h2⟩
theorem Td.int' {v : V} {i : Int} (h : Td H v (.int i)) : v = .int i := by cases h; rfl
theorem tdAll_ints : ∀ ns : List Int, TdAll H (ns.map V.int) (ns.map PyData.int)
  | [] => .nil
  | n :: ns => .cons (.int n) (tdAll_ints ns)
theorem tdAll_ints_eq : ∀ {ns : List Int} {xs : List V}, TdAll H xs (ns.map PyData.int) → xs = ns.map V.int
  | [], _, h => by cases h; rfl
  | n :: ns, _, h => by
    rw [List.map_cons] at h
    cases h with
    | cons h1 h2 =>
      cases h1
      rw [tdAll_ints_eq h2]; rfl
theorem Td.ints {v : V} {ns : List Int} (h : Td H v (dInts ns)) : ∃ a, v = .ref a ∧ H a = some (.tup (ns.map V.int)) := by
  obtain ⟨a, xs, e, h1, h2⟩ := h.tuple
  rw [tdAll_ints_eq h2] at h1
  exact ⟨a, e, h1⟩
theorem td_ints {a : Addr} {ns : List Int} (h : H a = some (.tup (ns.map V.int))) : Td H (.ref a) (dInts ns) := .tup h (tdAll_ints ns)
end
def nI (l : List Nat) : List Int := l.map Int.ofNat
theorem nI_map (l : List Nat) : (nI l).map V.int = l.map fun n : Nat => V.int (n : Int) := by
  unfold nI
  rw [List.map_map]
  rfl
theorem nI_len (l : List Nat) : (nI l).length = l.length := by unfold nI; rw [List.length_map]
def dWay (l : List Nat) : PyData := dInts (nI l)
def dLt (x : Lt) : PyData := dT3 (nI x.rest) x.ready x.limit
def dSt (S : List Lt) : PyData := .tuple (S.map dLt)
abbrev Letter := List Nat × Int
def dLet (l : Letter) : PyData := .tuple [dWay l.1, .int l.2]
def dLets (ls : List Letter) : PyData := .tuple (ls.map dLet)
def dRows (rs : List (List Int)) : PyData := .tuple (rs.map dInts)
/-- a letter on its way, its parts -/
theorem td_lt {H : Hp} {v : V} {x : Lt} (h : Td H v (dLt x)) : ∃ a b, v = .ref a ∧ H a = some (.tup [.ref b, .int x.ready, .int x.limit]) ∧ H b = some (.tup (x.rest.map fun n : Nat => V.int (n : Int))) := by
  obtain ⟨a, xs, e, h1, h2⟩ := h.tuple
  cases h2 with
  | cons t1 h2 => cases h2 with
    | cons t2 h2 => cases h2 with
      | cons t3 h2 =>
        cases h2
        cases t2
        cases t3
        obtain ⟨b, rfl, hb⟩ := t1.ints
        rw [nI_map] at hb
        exact ⟨a, b, e, h1, hb⟩
theorem td_st {H : Hp} {v : V} {S : List Lt} (h : Td H v (dSt S)) : ∃ a xs, v = .ref a ∧ H a = some (.tup xs) ∧ TdAll H xs (S.map dLt) ∧ xs.length = S.length := by
  obtain ⟨a, xs, e, h1, h2⟩ := h.tuple
  exact ⟨a, xs, e, h1, h2, by rw [h2.len, List.length_map]⟩
theorem mk_lt {H : Hp} {a b : Addr} {x : Lt} (h : H a = some (.tup [.ref b, .int x.ready, .int x.limit])) (hb : H b = some (.tup (x.rest.map fun n : Nat => V.int (n : Int)))) : Td H (.ref a) (dLt x) :=
  .tup h (.cons (td_ints (by rw [nI_map]; exact hb)) (.cons (.int _) (.cons (.int _) .nil)))
/-- a state of the search -/
def GoodS (S : List Lt) : Prop := (∀ x ∈ S, x.rest ≠ [] ∧ x.rest.length ≤ 8 ∧ ∀ r ∈ x.rest, r < 5) ∧ S.length ≤ 20
theorem Td.way {H : Hp} {v : V} {l : List Nat} (h : Td H v (dWay l)) : ∃ a, v = .ref a ∧ H a = some (.tup (l.map fun n : Nat => V.int (n : Int))) := by
  obtain ⟨a, e, h⟩ := h.ints
  rw [nI_map] at h
  exact ⟨a, e, h⟩
theorem td_way {H : Hp} {a : Addr} {l : List Nat} (h : H a = some (.tup (l.map fun n : Nat => V.int (n : Int)))) : Td H (.ref a) (dWay l) := td_ints (by rw [nI_map]; exact h)
/-- a letter of the web -/
def GoodL (l : Letter) : Prop := l.1 ≠ [] ∧ l.1.length ≤ 8 ∧ ∀ r ∈ l.1, r < 5
/-- the web's numbers -/
structure WD where
  tm : List Nat
  rm : List Nat
  ht : tm.length = 5
  hr : rm.length = 5
  h1 : ∀ t ∈ tm, 1 ≤ t ∧ t ≤ 3
  h2 : ∀ r ∈ rm, 1 ≤ r ∧ r ≤ 3
def WD.T (W : WD) (r : Nat) : Int := ((W.tm.getD r 1 : Nat) : Int)
def WD.R (W : WD) (r : Nat) : Nat := W.rm.getD r 1
theorem WD.T1 (W : WD) (r : Nat) : 1 ≤ W.T r ∧ W.T r ≤ 3 := by
  unfold WD.T
  by_cases h : r < W.tm.length
  · have e : W.tm.getD r 1 = W.tm[r] := by simp [h]
    have := W.h1 _ (List.getElem_mem h)
    rw [e]; omega
  · have e : W.tm.getD r 1 = 1 := by simp [Nat.le_of_not_lt h]
    rw [e]; omega
theorem WD.R1 (W : WD) (r : Nat) : 1 ≤ W.R r ∧ W.R r ≤ 3 := by
  unfold WD.R
  by_cases h : r < W.rm.length
  · have e : W.rm.getD r 1 = W.rm[r] := by simp [h]
    have := W.h2 _ (List.getElem_mem h)
    rw [e]; omega
  · have e : W.rm.getD r 1 = 1 := by simp [Nat.le_of_not_lt h]
    rw [e]; omega
def dPair (a b : Int) : PyData := dInts [a, b]
def roadsL : List (List Int) := [[0, 1], [1, 2], [2, 3], [1, 4], [4, 5]]
def nextL : List (List Int) := [[1, 3], [2], [], [4], []]
/-- some tuple of ints stands at x -/
def RowAt (H : Hp) (x : V) : Prop := ∃ b, ∃ ns : List Int, x = .ref b ∧ H b = some (.tup (ns.map V.int)) ∧ ns.length ≤ 1000
theorem RowAt.keep {H H' : Hp} {x : V} (k : TK H H') (h : RowAt H x) : RowAt H' x := let ⟨b, ns, e, h, l⟩ := h; ⟨b, ns, e, k _ _ h, l⟩
/-- the roads' next ones: five tuples of ints -/
def NextAt (H : Hp) (a : Addr) : Prop := ∃ xs, H a = some (.tup xs) ∧ xs.length = 5 ∧ ∀ x ∈ xs, RowAt H x
theorem NextAt.keep {H H' : Hp} {a : Addr} (k : TK H H') (h : NextAt H a) : NextAt H' a := let ⟨xs, h, l, r⟩ := h; ⟨xs, k _ _ h, l, fun x hx => (r x hx).keep k⟩
/-- a Web stands at a -/
def WebAt (C : Addr) (H : Hp) (a : Addr) (W : WD) : Prop := ∃ dx fs a1 a2 a3 a4, H a = some (.ins C dx fs) ∧ fs.lookup ("houses" : Str) = some (.int 6) ∧ fs.lookup ("roads" : Str) = some (.ref a1) ∧ Td H (.ref a1) (dRows roadsL) ∧
  fs.lookup ("rooms" : Str) = some (.ref a2) ∧ H a2 = some (.tup (W.rm.map fun n : Nat => V.int (n : Int))) ∧ fs.lookup ("times" : Str) = some (.ref a3) ∧ H a3 = some (.tup (W.tm.map fun n : Nat => V.int (n : Int))) ∧
  fs.lookup ("kept_next" : Str) = some (.ref a4) ∧ NextAt H a4
/-- a Day stands at a, over the Web at wa -/
def DayAt (C : Addr) (H : Hp) (a wa : Addr) (ls : List Letter) (rs : List (List Int)) : Prop := ∃ dx fs a1 a2, H a = some (.ins C dx fs) ∧ fs.lookup ("web" : Str) = some (.ref wa) ∧ fs.lookup ("letters" : Str) = some (.ref a1) ∧ Td H (.ref a1) (dLets ls) ∧
  fs.lookup ("hours" : Str) = some (.ref a2) ∧ fs.lookup ("kept_hours" : Str) = some (.ref a2) ∧ Td H (.ref a2) (dRows rs)
/-- tuples and instances are kept -/
def IK (H H' : Hp) : Prop := TK H H' ∧ ∀ b C dx fs, H b = some (.ins C dx fs) → H' b = some (.ins C dx fs)
theorem IK.refl (H : Hp) : IK H H := ⟨.refl H, fun _ _ _ _ h => h⟩
theorem IK.trans {H H1 H2 : Hp} (a : IK H H1) (b : IK H1 H2) : IK H H2 := ⟨a.1.trans b.1, fun c C dx fs h => b.2 c C dx fs (a.2 c C dx fs h)⟩
theorem IK.of {H H' : Hp} (e : Same H H') : IK H H' := ⟨.of e, fun b C dx fs h => e b _ h⟩
theorem WebAt.keep {C : Addr} {H H' : Hp} {a : Addr} {W : WD} (k : IK H H') (h : WebAt C H a W) : WebAt C H' a W := by
  obtain ⟨dx, fs, a1, a2, a3, a4, e, h1, h2, t2, h3, t3, h4, t4, h5, t5⟩ := h
  exact ⟨dx, fs, a1, a2, a3, a4, k.2 _ _ _ _ e, h1, h2, t2.keep k.1, h3, k.1 _ _ t3, h4, k.1 _ _ t4, h5, t5.keep k.1⟩
theorem DayAt.keep {C : Addr} {H H' : Hp} {a wa : Addr} {ls : List Letter} {rs : List (List Int)} (k : IK H H') (h : DayAt C H a wa ls rs) : DayAt C H' a wa ls rs := by
  obtain ⟨dx, fs, a1, a2, e, h1, h2, t2, h3, h4, t4⟩ := h
  exact ⟨dx, fs, a1, a2, k.2 _ _ _ _ e, h1, h2, t2.keep k.1, h3, h4, t4.keep k.1⟩
theorem same_upd {H H' : Hp} {p : Addr} {o : HO} (e : Same H H') (h : H' p = none) : Same H (upd H' p o) := e.trans (same_new h)
/-! ### data that may be compared -/
def Nice (n : Nat) (d : PyData) : Prop := d.canLay0 = true ∧ d.depth ≤ n
theorem Nice.mono {n m : Nat} {d : PyData} (h : Nice n d) (l : n ≤ m) : Nice m d := ⟨h.1, Nat.le_trans h.2 l⟩
theorem Nice.shaped {n : Nat} {d : PyData} (h : Nice n d) (l : n ≤ 64) : SeqAt.shaped d = true := by
  unfold SeqAt.shaped
  rw [h.1, decide_eq_true (Nat.le_trans h.2 l)]
  rfl
theorem nice_all {n : Nat} : ∀ {ds : List PyData}, (∀ d ∈ ds, Nice n d) → PyData.canLayAll0 ds = true ∧ PyData.depthAll ds ≤ n
  | [], _ => ⟨rfl, Nat.zero_le _⟩
  | d :: ds, h => by
    obtain ⟨a, b⟩ := nice_all (ds := ds) fun d hd => h d (List.mem_cons_of_mem _ hd)
    obtain ⟨c, e⟩ := h d (List.mem_cons_self ..)
    refine ⟨?_, ?_⟩
    · show (d.canLay0 && PyData.canLayAll0 ds) = true
      rw [c, a]; rfl
    · show max d.depth (PyData.depthAll ds) ≤ n
      omega
theorem nice_tup {n : Nat} {ds : List PyData} (h : ∀ d ∈ ds, Nice n d) : Nice (n + 1) (.tuple ds) := by
  obtain ⟨a, b⟩ := nice_all h
  exact ⟨a, by show PyData.depthAll ds + 1 ≤ n + 1; omega⟩
theorem nice_lst {n : Nat} {ds : List PyData} (h : ∀ d ∈ ds, Nice n d) : Nice (n + 1) (.list ds) := by
  obtain ⟨a, b⟩ := nice_all h
  exact ⟨a, by show PyData.depthAll ds + 1 ≤ n + 1; omega⟩
theorem nice_int {n : Nat} (i : Int) : Nice n (.int i) := ⟨rfl, Nat.zero_le _⟩
theorem nice_none {n : Nat} : Nice n .none := ⟨rfl, Nat.zero_le _⟩
theorem nice_ints {n : Nat} (ns : List Int) : Nice (n + 1) (dInts ns) := nice_tup fun d hd => by
  obtain ⟨i, _, rfl⟩ := List.mem_map.mp hd
  exact nice_int i
theorem nice_rows {n : Nat} (rs : List (List Int)) : Nice (n + 2) (dRows rs) := nice_tup fun d hd => by
  obtain ⟨i, _, rfl⟩ := List.mem_map.mp hd
  exact nice_ints i
theorem Nice.refl {n : Nat} {d : PyData} (h : Nice n d) : PyData.eqv d d = true := SeqAt.eqv_refl d h.1
/-- the module's numbers -/
structure Kn (mg : Str → Option Value) : Prop where
  houses : ∃ t, mg "MOST_HOUSES" = some (.int 12 t)
  roads : ∃ t, mg "MOST_ROADS" = some (.int 24 t)
  rooms : ∃ t, mg "MOST_ROOMS" = some (.int 3 t)
  time : ∃ t, mg "MOST_TIME" = some (.int 3 t)
  way : ∃ t, mg "MOST_WAY" = some (.int 8 t)
  letters : ∃ t, mg "MOST_LETTERS" = some (.int 60 t)
  tick : ∃ t, mg "MOST_TICK" = some (.int 1000000 t)
  searched : ∃ t, mg "MOST_SEARCHED" = some (.int 12 t)
theorem ifT {b : Bool} {A B : Prop} (hb : b = true) (h : A) : if b = true then A else B := by rw [if_pos hb]; exact h
theorem ifF {b : Bool} {A B : Prop} (hb : b = false) (h : B) : if b = true then A else B := by rw [if_neg (by rw [hb]; decide)]; exact h
theorem take_snoc {α : Type} {xs : List α} {i : Nat} {x : α} (h : xs[i]? = some x) : xs.take (i + 1) = xs.take i ++ [x] := by
  rw [List.take_add_one, h]; rfl
theorem sqT {K : PySem.W.Frag} {H : Hp} {a : Addr} {xs : List V} (h : H a = some (.tup xs)) : SqT K H a xs := .inl (.inl h)
theorem sqL {K : PySem.W.Frag} {H : Hp} {a : Addr} {xs : List V} (h : H a = some (.lst xs)) : SqL K H a xs := .inl (.inl h)
theorem tyL {K : PySem.W.Frag} {H : Hp} {a : Addr} {xs : List V} (h : H a = some (.lst xs)) : tyV K "list" (.ref a) H := .inl ⟨rfl, _, sqL h⟩
theorem len_line {n : Nat} (h : n ≤ 1000) : n < sizeLine := by rw [sizeLine_eq]; omega
theorem lk_same {f : Str} {v : V} {fs : List (Str × V)} : (putF f v fs).lookup f = some v := by rw [lookup_putF, if_pos rfl]
theorem lk_ne {f g : Str} {v u : V} {fs : List (Str × V)} (h : ¬ g = f) (e : fs.lookup g = some u) : (putF f v fs).lookup g = some u := by rw [lookup_putF, if_neg h]; exact e
theorem putF_le {f : Str} {v : V} : ∀ {fs : List (Str × V)} {k : Nat}, fs.length ≤ k → (putF f v fs).length ≤ k + 1
  | [], k, _ => by show 1 ≤ k + 1; omega
  | (g, x) :: r, k, h => by
    have h : r.length + 1 ≤ k := h
    show (if g = f then (g, v) :: r else (g, x) :: putF f v r).length ≤ k + 1
    split
    · show r.length + 1 ≤ k + 1; omega
    · have := putF_le (f := f) (v := v) (fs := r) (k := k - 1) (by omega)
      show (putF f v r).length + 1 ≤ k + 1; omega
theorem few {fs : List (Str × V)} {k : Nat} (h : fs.length ≤ k) (l : k < 1000) : fs.length < 1000 := Nat.lt_of_le_of_lt h l
/-- facts of the own classes -/
structure Cla (K : PySem.W.Frag) (mg : Str → Option Value) (CW CD CS CP : Addr) : Prop where
  gW : mg "Web" = some (.ref CW)
  gD : mg "Day" = some (.ref CD)
  gS : mg "Search" = some (.ref CS)
  gP : mg "Pair" = some (.ref CP)
  cW : Cls K CW
  cD : Cls K CD
  cS : Cls K CS
  cP : Cls K CP
  wHouses : NoAttr K CW "houses"
  wRoads : NoAttr K CW "roads"
  wRooms : NoAttr K CW "rooms"
  wTimes : NoAttr K CW "times"
  wNext : NoAttr K CW "kept_next"
  wLeads : NoAttr K CW "kept_leads"
  dWeb : NoAttr K CD "web"
  dLetters : NoAttr K CD "letters"
  dHours : NoAttr K CD "hours"
  dKept : NoAttr K CD "kept_hours"
  sWeb : NoAttr K CS "web"
  sKnown : NoAttr K CS "known"
  pSearch : NoAttr K CP "search"
  pLater : NoAttr K CP "later"
  pUntil : NoAttr K CP "until"
  pSeen : NoAttr K CP "seen"
end Hc
end

section
set_option Elab.async false
set_option linter.all false
set_option maxRecDepth 100000
set_option maxHeartbeats 4000000
namespace Hc
open PySem PySem.Spec PyProof.Rows L2 HcR LamX
section
variable {P : Program} {w : World} {K : PySem.W.Frag} {mg : Str → Option Value} {base : Heap}

def spIsInteger : Sp := fun vs H Q _ => ∃ i : Int, vs = [.int i] ∧ Q (.bl true) H
theorem ok_is_integer (ev : Ev mg) (D : Def K mg "is_integer" s_is_integer) : Has P w K mg base CX0 1 "is_integer" ["thing"] spIsInteger := by
  refine .of D (fun _ _ _ _ _ _ us hl => match us, hl with | [_], _ => rfl) fun f fd F => F.ok sc_is_integer (fun vs H Q E ⟨i, e, _⟩ => by rw [e]; rfl) fun cdv A outer s H vs Q E hr ⟨i, e, q⟩ => ?_
  subst e
  refine ⟨_, (pss_one (ps_ret (pe_and (pe_callB ((isiK (K := K) rfl)) (by rfl) ev.isinstance (by decide +kernel) (pa_cons (pv 0) (pa_cons (pe_bltn (v := .ty "int") (by rfl) ev.int (by decide +kernel) rfl) pa_nil))) (pe_one (pe_not (pe_callB ((isiK (K := K) rfl)) (by rfl) ev.isinstance (by decide +kernel) (pa_cons (pv 0) (pa_cons (pe_bltn (v := .ty "bool") (by rfl) ev.bool (by decide +kernel) rfl) pa_nil)))))))), ?_⟩
  refine ⟨_, rfl, _, _, _, _, true, rfl, .ty _, .base (.int i), kit_ty (by decide +kernel), true, rfl, ?_⟩
  refine ⟨_, rfl, _, _, _, _, false, rfl, .ty _, .base (.int i), kit_ty (by decide +kernel), ?_⟩
  exact ⟨false, rfl, q⟩
def spIsWithin : Sp := fun vs H Q _ => ∃ i a b : Int, vs = [.int i, .int a, .int b] ∧ Q (.bl (decide (a ≤ i ∧ i ≤ b))) H
theorem ok_is_within (ev : Ev mg) (D : Def K mg "is_within" s_is_within) (h1 : Has P w K mg base CX0 1 "is_integer" ["thing"] spIsInteger) : Has P w K mg base CX0 2 "is_within" ["thing", "least", "most"] spIsWithin := by
  refine .of D (fun _ _ _ _ _ _ us hl => match us, hl with | [_, _, _], _ => rfl) fun f fd F => F.ok sc_is_within (fun vs H Q E ⟨i, a, b, e, _⟩ => by rw [e]; rfl) fun cdv A outer s H vs Q E hr ⟨i, a, b, e, q⟩ => ?_
  subst e
  refine ⟨_, (pss_one (ps_ret (pe_and (pe_has h1 hr (by rfl) (pa_cons (pv 0) pa_nil)) (pe_one (pe_chain op_le op_le (pv 1) (pv 0) (pv 2)))))), ?_⟩
  refine ⟨_, rfl, i, rfl, true, rfl, ?_⟩
  refine ⟨_, rfl, _, rfl, _, _, rfl, rfl, _, rfl, ?_⟩
  by_cases h : a ≤ i
  · rw [if_pos (decide_eq_true h)]
    refine ⟨_, rfl, _, _, rfl, rfl, ?_⟩
    have e : decide (a ≤ i ∧ i ≤ b) = decide (i ≤ b) := by simp [h]
    rw [e] at q
    exact q
  · rw [if_neg (by simpa using h)]
    have e : decide (a ≤ i ∧ i ≤ b) = false := by simp [h]
    rw [e] at q
    exact q
end
end Hc
end

section
set_option Elab.async false
set_option linter.all false
set_option maxRecDepth 100000
set_option maxHeartbeats 4000000
namespace Hc
open PySem PySem.Spec PyProof.Rows L2 HcR LamX
section
variable {P : Program} {w : World} {K : PySem.W.Frag} {mg : Str → Option Value} {base : Heap}

def spIsPair : Sp := fun vs H Q _ => ∃ a xs, vs = [.ref a] ∧ H a = some (.tup xs) ∧ Q (.bl (decide (xs.length = 2))) H
theorem ok_is_pair (ev : Ev mg) (D : Def K mg "is_pair" s_is_pair) : Has P w K mg base CX0 1 "is_pair" ["thing"] spIsPair := by
  refine .of D (fun _ _ _ _ _ _ us hl => match us, hl with | [_], _ => rfl) fun f fd F => F.ok sc_is_pair (fun vs H Q E ⟨a, xs, e, _⟩ => by rw [e]; rfl) fun cdv A outer s H vs Q E hr ⟨a, xs, e, ha, q⟩ => ?_
  subst e
  refine ⟨_, (PSs.nox (pss_one (ps_ret (pe_and (pe_callB ((isiK (K := K) rfl)) (by rfl) ev.isinstance (by decide +kernel) (pa_cons (pv 0) (pa_cons (pe_bltn (v := .ty "tuple") (by rfl) ev.tuple (by decide +kernel) rfl) pa_nil))) (pe_one (pe_cmpR op_eq (pe_callB (lenS (K := K) rfl) (by rfl) ev.len PySem.boot_len (pa_cons (pv 0) pa_nil)) pe_int (nomark _))))))), ?_⟩
  refine ⟨_, rfl, _, _, _, _, true, rfl, .ty _, .base (.tup ha), kit_ty (by decide +kernel), true, rfl, ?_⟩
  refine ⟨_, rfl, _, xs, rfl, .inr (sqT ha), rfl, ?_⟩
  have e : decide (V.int (xs.length : Int) = V.int 2) = decide (xs.length = 2) := by
    refine decide_eq_decide.mpr ⟨fun h => ?_, fun h => by rw [h]; rfl⟩
    have h2 : (xs.length : Int) = 2 := V.int.inj h
    omega
  show Q (.bl (decide (V.int (xs.length : Int) = V.int 2))) H
  rw [e]; exact q
def spAscending : Sp := fun vs H Q _ => ∃ a, ∃ ns : List Int, vs = [.ref a] ∧ H a = some (.tup (ns.map V.int)) ∧ ns.Pairwise (· < ·) ∧ ns.length ≤ 1000 ∧ Q (.bl true) H
theorem ok_are_ascending (ev : Ev mg) (D : Def K mg "are_ascending" s_are_ascending) : Has P w K mg base CX0 1 "are_ascending" ["numbers"] spAscending := by
  refine .of D (fun _ _ _ _ _ _ us hl => match us, hl with | [_], _ => rfl) fun f fd F => F.ok sc_are_ascending (fun vs H Q E ⟨a, xs, e, _⟩ => by rw [e]; rfl) fun cdv A outer s H vs Q E hr ⟨a, ns, e, ha, hp, hl, q⟩ => ?_
  subst e
  refine ⟨_, (PSs.nox (pss_cons (ps_for PassesOwn.never rfl (pi_range2 rfl ev.range (pa_cons pe_int (pa_cons (pe_callB (lenS (K := K) rfl) (by rfl) ev.len PySem.boot_len (pa_cons (pv 0) pa_nil)) pa_nil))) (pg_name (i := 1) sc_are_ascending.nd rfl (.inl rfl)) (pss_one (ps_if (pt_cmpR op_ge (pe_ix (ixT (K := K) rfl) (pv 0) (pe_op op_sub (pv 1) pe_int) (fun _ _ => rfl)) (pe_ix (ixT (K := K) rfl) (pv 0) (pv 1) (fun _ _ => rfl)) (nomark _)) (pss_one (ps_ret pe_bl)) pss_nil))) (pss_one (ps_ret pe_bl)))), ?_⟩
  refine ⟨_, rfl, _, ns.map V.int, rfl, .inr (sqT ha), ?_⟩
  rw [List.length_map]
  refine ⟨1, ns.length, rfl, ⟨by decide, by decide, by omega, by omega⟩, ?_⟩
  refine for_range (lo := 1) (n := ((ns.length : Int) - 1).toNat) (fun i σ H' => H' = H ∧ σ[0]? = some (some (.ref a)) ∧ σ.length = 2) ⟨rfl, rfl, rfl⟩ ?_ ?_
  · rintro i σ H' hi ⟨rfl, h0, h2⟩
    have h1 : i < ns.length := by omega
    have h1' : i + 1 < ns.length := by omega
    have s0 : (σ.set 1 (some (.int (1 + (i : Int)))))[0]? = some (some (.ref a)) := by rw [List.getElem?_set_ne (by decide)]; exact h0
    have s1 : (σ.set 1 (some (.int (1 + (i : Int)))))[1]? = some (some (.int (1 + (i : Int)))) := by rw [List.getElem?_set_self (by omega)]
    refine ⟨_, s0, _, s1, _, _, rfl, rfl, ?_⟩
    refine ⟨a, _, _, .int ns[i], rfl, rfl, sqT ha, ?_, _, s0, _, s1, a, _, _, .int ns[i + 1], rfl, rfl, sqT ha, ?_, ?_⟩
    · have e : (1 + (i : Int) - 1) = (i : Nat) := by omega
      rw [e]; exact atI_nat (by simp [h1])
    · have e : (1 + (i : Int)) = ((i + 1 : Nat) : Int) := by omega
      rw [e]; exact atI_nat (by simp [h1'])
    · have hlt := (List.pairwise_iff_getElem.mp hp) i (i + 1) h1 h1' (by omega)
      refine ⟨_, _, rfl, rfl, _, rfl, ?_⟩
      refine ifF (by simpa using hlt) ⟨rfl, s0, by rw [List.length_set]; exact h2⟩
  · rintro σ H' ⟨rfl, _, _⟩
    exact q
def spCheckFrom : Sp := fun vs H Q _ => ∃ i l : Int, vs = [.int i, .int l] ∧ l ≤ i ∧ Q .non H
theorem ok_check_from (ev : Ev mg) (D : Def K mg "check_from" s_check_from) (h1 : Has P w K mg base CX0 1 "is_integer" ["thing"] spIsInteger) : Has P w K mg base CX0 2 "check_from" ["thing", "least"] spCheckFrom := by
  refine .of D (fun _ _ _ _ _ _ us hl => match us, hl with | [_, _], _ => rfl) fun f fd F => F.ok sc_check_from (fun vs H Q E ⟨i, l, e, _⟩ => by rw [e]; rfl) fun cdv A outer s H vs Q E hr ⟨i, l, e, hl, q⟩ => ?_
  subst e
  refine ⟨_, (PSs.nox (pss_one (ps_if (PW.pt (pw_or (pt_not (pt_val (pe_has h1 hr (by rfl) (pa_cons (pv 0) pa_nil)))) (pw_or1 (pt_cmpR op_lt (pv 0) (pv 1) (nomark _))))) (pss_one ps_never) pss_nil))), ?_⟩
  refine ⟨_, rfl, i, rfl, true, rfl, ?_⟩
  refine ⟨_, rfl, _, rfl, _, _, rfl, rfl, _, rfl, ?_⟩
  exact ifF (by simpa using hl) q
end
end Hc
end

section
set_option Elab.async false
set_option linter.all false
set_option maxRecDepth 100000
set_option maxHeartbeats 4000000
namespace Hc
open PySem PySem.Spec PyProof.Rows L2 HcR LamX
section
variable {P : Program} {w : World} {K : PySem.W.Frag} {mg : Str → Option Value} {base : Heap}

theorem bl_snoc (bs : List Bool) (b : Bool) : bs.map V.bl ++ [.bl b] = (bs ++ [b]).map V.bl := by rw [List.map_append]; rfl
theorem same_at {H H' : Hp} {D : Addr} {u v : HO} (e : Same H H') (hD : H D = none) (h : H' D = some u) : Same H (upd H' D v) := fun b o eb => by
  rw [upd_ne (ne_of_none eb hD)]
  exact e b o eb
def spCounts : Sp := fun vs H Q _ => ∃ a m mo, ∃ ns : List Int, vs = [.ref a, .int m, .int mo] ∧ H a = some (.tup (ns.map V.int)) ∧ (ns.length : Int) = m ∧ (∀ n ∈ ns, 1 ≤ n ∧ n ≤ mo) ∧ ns.length ≤ 1000 ∧ ∀ H', Same H H' → Q (.bl true) H'
theorem ok_are_counts (ev : Ev mg) (D : Def K mg "are_counts" s_are_counts) (h1 : Has P w K mg base CX0 2 "is_within" ["thing", "least", "most"] spIsWithin) : Has P w K mg base CX0 3 "are_counts" ["thing", "many", "most"] spCounts := by
  refine .of D (fun _ _ _ _ _ _ us hl => match us, hl with | [_, _, _], _ => rfl) fun f fd F => F.ok sc_are_counts (fun vs H Q E ⟨a, m, mo, ns, e, _⟩ => by rw [e]; rfl) fun cdv A outer s H vs Q E hr ⟨a, m, mo, ns, e, ha, hm, hn, hl, q⟩ => ?_
  subst e
  refine ⟨_, (PSs.nox (pss_one (ps_ret (pe_and (pe_callB ((isiK (K := K) rfl)) (by rfl) ev.isinstance (by decide +kernel) (pa_cons (pv 0) (pa_cons (pe_bltn (v := .ty "tuple") (by rfl) ev.tuple (by decide +kernel) rfl) pa_nil))) (pe_and (pe_cmpR op_eq (pe_callB (lenS (K := K) rfl) (by rfl) ev.len PySem.boot_len (pa_cons (pv 0) pa_nil)) (pv 1) (nomark _)) (pe_one (pe_callB ((allK (K := K) rfl rfl)) (by rfl) ev.all (by decide +kernel) (pa_cons (pe_lc (own := [("count", 3)]) rfl sc_are_counts.nd (pi_tup (pv 0)) (blkOk_by (own := [("count", 3)]) (N := sc_are_counts_N) (sc := sc_are_counts_S) (by decide +kernel)) (fun _ _ _ _ _ => (pg_name (i := 3) sc_are_counts.nd rfl (.inl rfl))) (fun _ _ _ _ _ => pts_nil) (fun _ _ _ _ _ => (pe_has h1 hr (by rfl) (pa_cons (pv 3) (pa_cons pe_int (pa_cons (pv 2) pa_nil)))))) pa_nil)))))))), ?_⟩
  refine ⟨_, rfl, _, _, _, _, true, rfl, .ty _, .base (.tup ha), kit_ty (by decide +kernel), true, rfl, ?_⟩
  refine ⟨_, rfl, _, ns.map V.int, rfl, .inr (sqT ha), _, rfl, rfl, true, ?_, ?_⟩
  · rw [List.length_map, hm, decide_eq_true rfl]
  refine ⟨_, rfl, a, rfl, ⟨_, sqT ha⟩, fun D hD => lc_tup (xs := ns.map V.int) (fun i H' => Same H H' ∧ H' D = some (.lst ((List.replicate i true).map V.bl))) ⟨same_new hD, upd_same⟩ (fun i H' _ h => sqT (h.1 _ _ ha)) (fun i x H' hx ⟨h1, h2⟩ => ?_) fun H' ⟨h1, h2⟩ => ?_⟩
  · rw [List.getElem?_map] at hx
    obtain ⟨n, hn', rfl⟩ := Option.map_eq_some_iff.mp hx
    have hb := hn n (List.mem_of_getElem? hn')
    have hi : i < ns.length := (List.getElem?_eq_some_iff.mp hn').1
    refine ⟨rfl, _, rfl, _, rfl, n, 1, mo, rfl, _, h2, len_line (by simp; omega), same_at h1 hD h2, ?_⟩
    rw [upd_same, decide_eq_true hb, bl_snoc, List.replicate_succ']
  · refine ⟨D, _, rfl, sqL h2, ?_⟩
    have e : ((List.replicate (ns.map V.int).length true).all id) = true := by
      rw [List.all_eq_true]
      intro x hx
      rw [List.eq_of_mem_replicate hx]; rfl
    rw [e]
    exact q _ h1
def spRoads : Sp := fun vs H Q _ => ∃ a, vs = [.ref a, .int 6] ∧ Td H (.ref a) (dRows roadsL) ∧ ∀ H', Same H H' → Q (.bl true) H'
theorem ok_are_roads (ev : Ev mg) (kn : Kn mg) (D : Def K mg "are_roads" s_are_roads) (h1 : Has P w K mg base CX0 2 "is_within" ["thing", "least", "most"] spIsWithin) (h2 : Has P w K mg base CX0 1 "is_pair" ["thing"] spIsPair) : Has P w K mg base CX0 3 "are_roads" ["thing", "houses"] spRoads := by
  obtain ⟨tR, gR⟩ := kn.roads
  refine .of D (fun _ _ _ _ _ _ us hl => match us, hl with | [_, _], _ => rfl) fun f fd F => F.ok sc_are_roads (fun vs H Q E ⟨a, e, _⟩ => by rw [e]; rfl) fun cdv A outer s H vs Q E hr ⟨a, e, ha, q⟩ => ?_
  subst e
  refine ⟨_, (PSs.nox (pss_cons (ps_if (PW.pt (pw_or (pt_not (pt_val (pe_callB ((isiK (K := K) rfl)) (by rfl) ev.isinstance (by decide +kernel) (pa_cons (pv 0) (pa_cons (pe_bltn (v := .ty "tuple") (by rfl) ev.tuple (by decide +kernel) rfl) pa_nil))))) (pw_or1 (pt_not (pt_chain op_le op_le pe_int (pe_callB (lenS (K := K) rfl) (by rfl) ev.len PySem.boot_len (pa_cons (pv 0) pa_nil)) (pe_glob (x := "MOST_ROADS") (v := .int 24) (by rfl) gR ⟨_, rfl⟩)))))) (pss_one (ps_ret pe_bl)) pss_nil) (pss_cons (ps_for PassesOwn.never rfl (pi_tup (pv 0)) (pg_name (i := 2) sc_are_roads.nd rfl (.inl rfl)) (pss_one (ps_if (PW.pt (pw_or (pt_not (pt_val (pe_has h2 (hr.mono (by decide)) (by rfl) (pa_cons (pv 2) pa_nil)))) (pw_or (pt_not (pt_val (pe_callB ((allK (K := K) rfl rfl)) (by rfl) ev.all (by decide +kernel) (pa_cons (pe_lc (own := [("house", 3)]) rfl sc_are_roads.nd (pi_tup (pv 2)) (blkOk_by (own := [("house", 3)]) (N := sc_are_roads_N) (sc := sc_are_roads_S) (by decide +kernel)) (fun _ _ _ _ _ => (pg_name (i := 3) sc_are_roads.nd rfl (.inl rfl))) (fun _ _ _ _ _ => pts_nil) (fun _ _ _ _ _ => (pe_has h1 hr (by rfl) (pa_cons (pv 3) (pa_cons pe_int (pa_cons (pe_op op_sub (pv 1) pe_int) pa_nil)))))) pa_nil)))) (pw_or1 (pt_cmpR op_eq (pe_ix (ixT (K := K) rfl) (pv 2) pe_int (fun _ _ => rfl)) (pe_ix (ixT (K := K) rfl) (pv 2) pe_int (fun _ _ => rfl)) (nomark _)))))) (pss_one (ps_ret pe_bl)) pss_nil))) (pss_one (ps_ret pe_bl))))), ?_⟩
  obtain ⟨_, xs, e, hxs, hall⟩ := ha.tuple
  cases e
  have hlen : xs.length = 5 := by rw [hall.len]; rfl
  refine ⟨_, rfl, _, _, _, _, true, rfl, .ty _, .base (.tup hxs), kit_ty (by decide +kernel), true, rfl, iteF ?_⟩
  refine ⟨_, rfl, _, xs, rfl, .inr (sqT hxs), _, _, rfl, rfl, _, rfl, ifT (by rw [hlen]; decide) ⟨_, _, rfl, rfl, _, rfl, ?_⟩⟩
  refine ifF (by rw [hlen]; decide) ?_
  refine ⟨_, rfl, a, rfl, ⟨_, sqT hxs⟩, for_tup (xs := xs) (fun i σ H' => Same H H' ∧ ∃ v2 v3, σ = [some (.ref a), some (.int 6), v2, v3]) ⟨.refl H, _, _, rfl⟩ (fun i σ H' _ h => sqT (h.1 _ _ hxs)) ?_ fun σ H' h => q H' h.1⟩
  rintro i x σ H' hx ⟨hs, v2, v3, rfl⟩
  obtain ⟨d, hd, td⟩ := hall.got hx
  rw [List.getElem?_map] at hd
  obtain ⟨l, hl, rfl⟩ := Option.map_eq_some_iff.mp hd
  have hq : ∀ l ∈ roadsL, l.length = 2 ∧ (∀ n ∈ l, 0 ≤ n ∧ n ≤ 5) ∧ ∃ p q, l[0]? = some p ∧ l[1]? = some q ∧ p ≠ q := by
    intro l hl
    simp only [roadsL, List.mem_cons, List.not_mem_nil, or_false] at hl
    rcases hl with rfl | rfl | rfl | rfl | rfl <;> exact ⟨rfl, by decide, _, _, rfl, rfl, by decide⟩
  obtain ⟨q1, q2, p, p', q3, q4, q5⟩ := hq l (List.mem_of_getElem? hl)
  obtain ⟨b, rfl, hb⟩ := td.ints
  have hb' : H' b = some (.tup (l.map V.int)) := hs _ _ hb
  refine ⟨_, rfl, b, l.map V.int, rfl, hb', _, rfl, ifF (by rw [List.length_map, q1]; rfl) ?_⟩
  refine ⟨_, rfl, b, rfl, ⟨_, sqT hb'⟩, fun D hD => lc_tup (xs := l.map V.int) (fun i H2 => Same H' H2 ∧ H2 D = some (.lst ((List.replicate i true).map V.bl))) ⟨same_new hD, upd_same⟩ (fun i H2 _ h => sqT (h.1 _ _ hb')) (fun i x H2 hx ⟨h1, h2⟩ => ?_) fun H2 ⟨h1, h2⟩ => ?_⟩
  · rw [List.getElem?_map] at hx
    obtain ⟨n, hn', rfl⟩ := Option.map_eq_some_iff.mp hx
    have hb := q2 n (List.mem_of_getElem? hn')
    have hi : i < l.length := (List.getElem?_eq_some_iff.mp hn').1
    refine ⟨rfl, _, rfl, _, rfl, _, _, rfl, rfl, n, 0, 6 - 1, rfl, _, h2, len_line (by simp; omega), same_at h1 hD h2, ?_⟩
    rw [upd_same, decide_eq_true (show 0 ≤ n ∧ n ≤ 6 - 1 from hb), bl_snoc, List.replicate_succ']
  · refine ⟨D, _, rfl, sqL h2, ?_⟩
    have e : ((List.replicate (l.map V.int).length true).all id) = true := by
      rw [List.all_eq_true]
      intro x hx
      rw [List.eq_of_mem_replicate hx]; rfl
    rw [e]
    refine ⟨true, rfl, iteF ?_⟩
    have hb2 : H2 b = some (.tup (l.map V.int)) := h1 _ _ hb'
    refine ⟨_, rfl, b, _, 0, .int p, rfl, rfl, sqT hb2, atI_nat (j := 0) (by rw [List.getElem?_map, q3]; rfl), _, rfl, b, _, 1, .int p', rfl, rfl, sqT hb2, atI_nat (j := 1) (by rw [List.getElem?_map, q4]; rfl), rfl, _, rfl, ?_⟩
    exact ifF (by rw [decide_eq_false_iff_not]; exact fun z => q5 (V.int.inj z)) ⟨hs.trans h1, _, _, rfl⟩
end
end Hc
end

section
set_option Elab.async false
set_option linter.all false
set_option maxRecDepth 100000
set_option maxHeartbeats 4000000
namespace Hc
open PySem PySem.Spec PyProof.Rows L2 HcR LamX
section
variable {P : Program} {w : World} {K : PySem.W.Frag} {mg : Str → Option Value} {base : Heap}

/-- all but p is kept -/
def But (p : Addr) (H H' : Hp) : Prop := ∀ b o, H b = some o → b ≠ p → H' b = some o
theorem But.refl (p : Addr) (H : Hp) : But p H H := fun _ _ h _ => h
theorem But.put {p : Addr} {H H' : Hp} {o : HO} (h : But p H H') : But p H (upd H' p o) := fun b u e n => by rw [upd_ne n]; exact h b u e n
theorem But.same {p : Addr} {H H1 H' : Hp} (h : But p H H1) (e : Same H1 H') : But p H H' := fun b u eb n => e b u (h b u eb n)
theorem But.new {p q : Addr} {H H' : Hp} {o : HO} (h : But p H H') (n : H' q = none) : But p H (upd H' q o) := h.same (same_new n)
theorem But.tk {p : Addr} {H H' : Hp} {C dx : Addr} {fs : List (Str × V)} (h : But p H H') (hp : H p = some (.ins C dx fs)) : TK H H' := fun b xs e => h b _ e (ne_of e hp (fun z => by cases z))
/-- a dict of int keys, its values lists of ints that were not there in H0 -/
def Lists (H0 H : Hp) (d : Addr) (n : Nat) : Prop := Same H0 H ∧ H0 d = none ∧ ∃ kvs : List (Key × V), H d = some (.dK kvs) ∧ kvs.length ≤ n ∧ ∀ kv ∈ kvs, ∃ (l : Addr) (ns : List Int), kv.2 = .ref l ∧ H0 l = none ∧ H l = some (.lst (ns.map V.int)) ∧ ns.length ≤ n
theorem valV_mem {kvs : List (Key × V)} {k : Key} {v : V} (h : valV kvs k = some v) : ∃ kv ∈ kvs, kv.2 = v := by
  unfold valV at h
  obtain ⟨x, hx, e⟩ := Option.map_eq_some_iff.mp h
  exact ⟨x, List.mem_of_find?_eq_some hx, e⟩
theorem putK_none {kvs : List (Key × V)} {k : Key} {v : V} (h : valV kvs k = none) : putK kvs k v = kvs ++ [(k, v)] := by
  unfold valV at h
  have h := Option.map_eq_none_iff.mp h
  unfold putK
  rw [if_neg]
  intro z
  obtain ⟨x, hx, e⟩ := List.any_eq_true.mp z
  exact absurd e (by simpa using List.find?_eq_none.mp h x hx)
theorem Lists.mono {H0 H : Hp} {d : Addr} {n m : Nat} (h : Lists H0 H d n) (l : n ≤ m) : Lists H0 H d m := by
  obtain ⟨a, b, kvs, c, e, f⟩ := h
  refine ⟨a, b, kvs, c, by omega, fun kv hk => ?_⟩
  obtain ⟨l', ns, h1, h2, h3, h4⟩ := f kv hk
  exact ⟨l', ns, h1, h2, h3, by omega⟩
theorem Lists.new {H0 H : Hp} {d q : Addr} {n : Nat} {o : HO} (h : Lists H0 H d n) (hq : H q = none) : Lists H0 (upd H q o) d n := by
  obtain ⟨a, b, kvs, c, e, f⟩ := h
  refine ⟨same_upd a hq, b, kvs, by rw [upd_ne (ne_of_none c hq)]; exact c, e, fun kv hk => ?_⟩
  obtain ⟨l', ns, h1, h2, h3, h4⟩ := f kv hk
  exact ⟨l', ns, h1, h2, by rw [upd_ne (ne_of_none h3 hq)]; exact h3, h4⟩
/-- an item appended to a list of them -/
theorem Lists.app {H0 H : Hp} {d l : Addr} {n : Nat} {ns : List Int} {i : Int} (h : Lists H0 H d n) (h0 : H0 l = none) (hl : H l = some (.lst (ns.map V.int))) (hn : ns.length ≤ n) : Lists H0 (upd H l (.lst (ns.map V.int ++ [.int i]))) d (n + 1) := by
  obtain ⟨a, b, kvs, c, e, f⟩ := h
  refine ⟨fun x o ex => ?_, b, kvs, by rw [upd_ne (ne_of c hl (fun z => by cases z))]; exact c, by omega, fun kv hk => ?_⟩
  · rw [upd_ne (ne_of_none ex h0)]; exact a x o ex
  · obtain ⟨l', ns', h1, h2, h3, h4⟩ := f kv hk
    by_cases q : l' = l
    · subst q
      refine ⟨l', ns ++ [i], h1, h2, by rw [upd_same, List.map_append]; rfl, by rw [List.length_append]; simp; omega⟩
    · exact ⟨l', ns', h1, h2, by rw [upd_ne q]; exact h3, by omega⟩
/-- a new empty list stored at a new key -/
theorem Lists.put {H0 H : Hp} {d l : Addr} {n : Nat} {k : Key} {kvs : List (Key × V)} (h : Lists H0 H d n) (h0 : H0 l = none) (hl : H l = some (.lst [])) (hd : H d = some (.dK kvs)) (hk : valV kvs k = none) : Lists H0 (upd H d (.dK (putK kvs k (.ref l)))) d (n + 1) := by
  obtain ⟨a, b, kvs', c, e, f⟩ := h
  rw [hd] at c
  cases c
  refine ⟨same_at a b hd, b, _, upd_same, ?_, fun kv hk' => ?_⟩
  · rw [putK_none hk, List.length_append]; simp; omega
  · have nd : ∀ {l' : Addr} {xs : List V}, H l' = some (.lst xs) → l' ≠ d := fun q => ne_of q hd (fun z => by cases z)
    rw [putK_none hk] at hk'
    rcases List.mem_append.mp hk' with hk' | hk'
    · obtain ⟨l', ns', h1, h2, h3, h4⟩ := f kv hk'
      exact ⟨l', ns', h1, h2, by rw [upd_ne (nd h3)]; exact h3, by omega⟩
    · rw [List.mem_singleton.mp hk']
      exact ⟨l, [], rfl, h0, by rw [upd_ne (nd hl)]; exact hl, Nat.zero_le _⟩
abbrev FnM (K : PySem.W.Frag) (x qual : Str) (st : Stmt) (f : Addr) (fd : FuncData) : Prop := FunD K x qual (defArgs st) (defBody st) (defScope st) [] [] f fd
def spKeep (CW : Addr) : Sp := fun vs H Q _ => ∃ (p dx a1 a2 a3 : Addr) (W : WD), vs = [.ref p, .int 6, .ref a1, .ref a2, .ref a3] ∧ H p = some (.ins CW dx []) ∧ Td H (.ref a1) (dRows roadsL) ∧
  H a2 = some (.tup (W.rm.map fun n : Nat => V.int (n : Int))) ∧ H a3 = some (.tup (W.tm.map fun n : Nat => V.int (n : Int))) ∧ ∀ H', But p H H' → WebAt CW H' p W → Q .non H'
theorem road_pairs : ∀ l ∈ roadsL, ∃ p q, l = [p, q] := by
  intro l hl
  simp only [roadsL, List.mem_cons, List.not_mem_nil, or_false] at hl
  rcases hl with rfl | rfl | rfl | rfl | rfl <;> exact ⟨_, _, rfl⟩
theorem ok_keep {CW CD CS CP f : Addr} {fd : FuncData} (ev : Ev mg) (c : Cla K mg CW CD CS CP) (F : FnM K "keep" "Web.keep" s_Web_keep f fd) : FnOk P w K mg base CX0 1 f fd ["self", "houses", "roads", "rooms", "times"] (spKeep CW) := by
  refine F.ok sc_Web_keep (fun vs H Q E ⟨p, dx, a1, a2, a3, W, e, _⟩ => by rw [e]; rfl) fun cdv A outer s H vs Q E hr ⟨p, dx, a1, a2, a3, W, e, hp, t1, t2', t3, q⟩ => ?_
  subst e
  have hu := hu_of hr
  refine ⟨_, (PSs.nox (pss_cons (ps_fld (pv 0) (pv 1) rfl) (pss_cons (ps_fld (pv 0) (pv 2) rfl) (pss_cons (ps_fld (pv 0) (pv 3) rfl) (pss_cons (ps_fld (pv 0) (pv 4) rfl) (pss_cons (ps_set (i := 5) sc_Web_keep.nd rfl (.inr rfl) pe_dnewK) (pss_cons (ps_for PassesOwn.never rfl (pi_enumT (by rfl) ev.enumerate (pa_cons (pv 2) pa_nil)) (pg_tup rfl (pgs_cons (pg_name (i := 6) sc_Web_keep.nd rfl (.inl rfl)) (pgs_cons (pg_name (i := 7) sc_Web_keep.nd rfl (.inl rfl)) pgs_nil))) (pss_one (ps_expr (pe_bm PySem.F.plainAttrs_list PySem.F.slot_list_append PySem.F.type_list_append mt_append (pe_dsetd (pv 5) (pe_ix (ixT (K := K) rfl) (pv 7) pe_int (fun _ _ => rfl)) (pe_lst pa_nil) ⟨rfl, rfl, rfl, rfl⟩) (pa_cons (pv 6) pa_nil))))) (pss_cons (ps_fld (pv 0) (pe_callTy ((tupOf (K := K) rfl)) (by rfl) ev.tuple (by decide +kernel) (pa_cons (pe_lc (own := [("pair", 7)]) rfl sc_Web_keep.nd (pi_tup (pv 2)) (blkOk_by (own := [("pair", 7)]) (N := sc_Web_keep_N) (sc := sc_Web_keep_S) (by decide +kernel)) (fun _ _ _ _ _ => (pg_name (i := 7) sc_Web_keep.nd rfl (.inl rfl))) (fun _ _ _ _ _ => pts_nil) (fun _ _ _ _ _ => (pe_callTy ((tupOf (K := K) rfl)) (by rfl) ev.tuple (by decide +kernel) (pa_cons (pe_dget2 hu (pv 5) (pe_ix (ixT (K := K) rfl) (pv 7) pe_int (fun _ _ => rfl)) (pe_lst pa_nil) ⟨rfl, rfl, rfl, rfl⟩) pa_nil)))) pa_nil)) rfl) (pss_one (ps_fld (pv 0) (pe_callTy ((tupOf (K := K) rfl)) (by rfl) ev.tuple (by decide +kernel) (pa_cons (pe_lc (own := [("row", 8)]) rfl sc_Web_keep.nd (pi_tup (pe_fldK (K := K) rfl (pv 0) rfl)) (blkOk_by (own := [("row", 8)]) (N := sc_Web_keep_N) (sc := sc_Web_keep_S) (by decide +kernel)) (fun _ _ _ _ _ => (pg_name (i := 8) sc_Web_keep.nd rfl (.inl rfl))) (fun _ _ _ _ _ => pts_nil) (fun _ _ _ _ _ => (pe_cmpR op_gt (pe_callB (lenS (K := K) rfl) (by rfl) ev.len PySem.boot_len (pa_cons (pv 8) pa_nil)) pe_int (nomark _)))) pa_nil)) rfl)))))))))), ?_⟩
  obtain ⟨_, xs, e, hxs, hall⟩ := t1.tuple
  cases e
  have hlen : xs.length = 5 := by rw [hall.len]; rfl
  refine ⟨_, rfl, _, rfl, p, CW, dx, [], rfl, hp, c.cW, c.wHouses, by decide, ?_⟩
  refine ⟨_, rfl, _, rfl, p, CW, dx, _, rfl, upd_same, c.cW, c.wRoads, few (putF_le (Nat.zero_le 0)) (by decide), ?_⟩
  refine ⟨_, rfl, _, rfl, p, CW, dx, _, rfl, upd_same, c.cW, c.wRooms, few (putF_le (putF_le (Nat.zero_le 0))) (by decide), ?_⟩
  refine ⟨_, rfl, _, rfl, p, CW, dx, _, rfl, upd_same, c.cW, c.wTimes, few (putF_le (putF_le (putF_le (Nat.zero_le 0)))) (by decide), ?_⟩
  generalize hfs : putF "times" (V.ref a3) (putF "rooms" (V.ref a2) (putF "roads" (V.ref a1) (putF "houses" (V.int 6) []))) = fs
  have l4 : fs.length ≤ 4 := by rw [← hfs]; exact putF_le (putF_le (putF_le (putF_le (Nat.zero_le 0))))
  have k1 : fs.lookup ("houses" : Str) = some (.int 6) := by rw [← hfs]; exact lk_ne (by decide) (lk_ne (by decide) (lk_ne (by decide) lk_same))
  have k2 : fs.lookup ("roads" : Str) = some (.ref a1) := by rw [← hfs]; exact lk_ne (by decide) (lk_ne (by decide) lk_same)
  have k3 : fs.lookup ("rooms" : Str) = some (.ref a2) := by rw [← hfs]; exact lk_ne (by decide) lk_same
  have k4 : fs.lookup ("times" : Str) = some (.ref a3) := by rw [← hfs]; exact lk_same
  have hB : But p H (upd (upd (upd (upd H p (.ins CW dx (putF "houses" (V.int 6) []))) p (.ins CW dx (putF "roads" (V.ref a1) (putF "houses" (V.int 6) [])))) p (.ins CW dx (putF "rooms" (V.ref a2) (putF "roads" (V.ref a1) (putF "houses" (V.int 6) []))))) p (.ins CW dx fs)) := (((But.refl p H).put.put).put).put
  generalize hG : upd (upd (upd (upd H p (.ins CW dx (putF "houses" (V.int 6) []))) p (.ins CW dx (putF "roads" (V.ref a1) (putF "houses" (V.int 6) [])))) p (.ins CW dx (putF "rooms" (V.ref a2) (putF "roads" (V.ref a1) (putF "houses" (V.int 6) []))))) p (.ins CW dx fs) = G at hB
  have hGp : G p = some (.ins CW dx fs) := by rw [← hG]; exact upd_same
  have gxs : G a1 = some (.tup xs) := hB.tk hp _ _ hxs
  have gall : TdAll G xs (roadsL.map dInts) := hall.keep (hB.tk hp)
  clear hG
  intro d hd
  have L0 : Lists G (upd G d (.dK [])) d 0 := ⟨same_new hd, hd, [], upd_same, Nat.le_refl _, fun _ z => nomatch z⟩
  refine ⟨_, rfl, a1, xs, rfl, sqT (same_new hd _ _ gxs), for_it walk_enumT (fun i σ H' => Lists G H' d (2 * i) ∧ ∃ v6 v7, σ = [some (.ref p), some (.int 6), some (.ref a1), some (.ref a2), some (.ref a3), some (.ref d), v6, v7, none]) ⟨L0, _, _, rfl⟩ (fun i σ H' _ h => sqT (h.1.1 _ _ gxs)) ?_ ?_⟩
  · rintro i x σ H1 H2 hi ⟨hL, v6, v7, rfl⟩ ⟨T, x1, x2, rfl, hT, rfl, e1, e2⟩
    cases e1
    obtain ⟨dd, hd2, td⟩ := gall.got e2
    rw [List.getElem?_map] at hd2
    obtain ⟨l, hl, rfl⟩ := Option.map_eq_some_iff.mp hd2
    obtain ⟨b, rfl, hb⟩ := td.ints
    obtain ⟨r1, r2, rfl⟩ := road_pairs l (List.mem_of_getElem? hl)
    have hL1 := hL.new (o := .tup [V.int (i : Nat), V.ref b]) hT
    have hT3 : upd H1 T (.tup [V.int (i : Nat), V.ref b]) T = some (.tup [V.int (i : Nat), V.ref b]) := upd_same
    generalize upd H1 T (.tup [V.int (i : Nat), V.ref b]) = H3 at hL1 hT3 ⊢
    refine ⟨T, _, rfl, sqT hT3, rfl, ?_⟩
    have hb3 : H3 b = some (.tup ([r1, r2].map V.int)) := hL1.1 _ _ hb
    obtain ⟨s1, hd0, kvs, hk, hkl, hkv⟩ := id hL1
    have hi5 : i < 5 := by omega
    refine ⟨_, _, rfl, _, _, rfl, rfl, _, rfl, d, rfl, .inl ⟨kvs, .inl hk⟩, _, rfl, b, _, 0, .int r1, rfl, rfl, sqT hb3, atI_nat (j := 0) rfl, ?_⟩
    refine ⟨by show 0 ≤ sizeLine; exact Nat.zero_le _, fun l' hl' => ?_⟩
    have hL2 := hL1.new (o := .lst []) hl'
    have nd : d ≠ l' := ne_of_none hk hl'
    have g0 : G l' = none := hL1.1.free hl'
    refine ⟨kvs, Sum.inl r1, by rw [upd_ne nd]; exact hk, rfl, len_line (by omega), fun v hv => ?_, fun hn => ?_⟩
    · obtain ⟨⟨k0, v⟩, hm, rfl⟩ := valV_mem hv
      obtain ⟨l2, ns, rfl, h2, h3, h4⟩ := hkv _ hm
      have h3' : upd H3 l' (.lst []) l2 = some (.lst (ns.map V.int)) := by rw [upd_ne (ne_of_none h3 hl')]; exact h3
      refine ⟨tyL h3', _, rfl, l2, _, _, rfl, rfl, h3', len_line (by rw [List.length_map]; omega), (hL2.app h2 h3' h4).mono (by omega), _, _, rfl⟩
    · have hL3 := hL2.put g0 upd_same (by rw [upd_ne nd]; exact hk) hn
      have nl : l' ≠ d := Ne.symm nd
      have h3' : (upd (upd H3 l' (.lst [])) d (.dK (putK kvs (Sum.inl r1) (.ref l')))) l' = some (.lst (([] : List Int).map V.int)) := by rw [upd_ne nl, upd_same]; rfl
      exact ⟨tyL h3', _, rfl, l', _, _, rfl, rfl, h3', len_line (by simp), (hL3.app g0 h3' (Nat.zero_le _)).mono (by omega), _, _, rfl⟩
  · rintro σ H1 ⟨hL, v6, v7, rfl⟩
    rw [hlen] at hL
    obtain ⟨s1, hd0, kvs, hk, hkl, hkv⟩ := hL
    have pk : p ≠ d := ne_of_none hGp hd0
    have x1 : H1 a1 = some (.tup xs) := s1 _ _ gxs
    refine ⟨_, rfl, a1, rfl, ⟨_, sqT x1⟩, fun D hD => lc_tup (xs := xs) (fun i H' => Same H1 H' ∧ ∃ ys : List V, H' D = some (.lst ys) ∧ ys.length = i ∧ ∀ y ∈ ys, RowAt H' y) ⟨same_new hD, [], upd_same, rfl, fun _ z => nomatch z⟩ (fun i H' _ h => sqT (h.1 _ _ x1)) ?_ ?_⟩
    · rintro i x H2 hx ⟨s2, ys, hy, hyl, hyr⟩
      obtain ⟨dd, hd2, td⟩ := gall.got hx
      rw [List.getElem?_map] at hd2
      obtain ⟨l, hl, rfl⟩ := Option.map_eq_some_iff.mp hd2
      obtain ⟨b, rfl, hb⟩ := td.ints
      obtain ⟨r1, r2, rfl⟩ := road_pairs l (List.mem_of_getElem? hl)
      have hb2 : H2 b = some (.tup ([r1, r2].map V.int)) := s2 _ _ (s1 _ _ hb)
      have hi : i < 5 := by have := (List.getElem?_eq_some_iff.mp hx).1; omega
      have hk2 := s2 _ _ hk
      refine ⟨rfl, _, rfl, d, rfl, .inl ⟨kvs, .inl hk2⟩, _, rfl, b, _, 1, .int r2, rfl, rfl, sqT hb2, atI_nat (j := 1) rfl, ?_⟩
      refine ⟨by show 0 ≤ sizeLine; exact Nat.zero_le _, fun l' hl' => ?_⟩
      have s3 : Same H2 (upd H2 l' (.lst [])) := same_new hl'
      refine ⟨valV kvs (Sum.inl r2), DGet.k (k := Sum.inl r2) (s3 _ _ hk2), ?_⟩
      have row : ∃ (l3 : Addr) (ns : List Int), (valV kvs (Sum.inl r2)).getD (.ref l') = .ref l3 ∧ upd H2 l' (.lst []) l3 = some (.lst (ns.map V.int)) ∧ ns.length ≤ 10 := by
        cases e : valV kvs (Sum.inl r2) with
        | none => exact ⟨l', [], rfl, upd_same, by decide⟩
        | some v =>
          obtain ⟨⟨k0, v⟩, hm, rfl⟩ := valV_mem e
          obtain ⟨l2, ns, rfl, h2, h3, h4⟩ := hkv _ hm
          exact ⟨l2, ns, rfl, s3 _ _ (s2 _ _ h3), h4⟩
      obtain ⟨l3, ns, e3, h3, hn⟩ := row
      rw [e3]
      refine ⟨l3, _, rfl, .inl ⟨sqL h3, fun t ht => ?_⟩⟩
      have s4 : Same H2 (upd (upd H2 l' (.lst [])) t (.tup (ns.map V.int))) := s3.trans (same_new ht)
      have s5 : TK H2 (upd (upd (upd H2 l' (.lst [])) t (.tup (ns.map V.int))) D (.lst (ys ++ [.ref t]))) := fun q zs e => by
        rw [upd_ne (ne_of e hy (fun z => by cases z))]; exact s4 _ _ e
      have hD0 : H1 D = none := hD
      refine ⟨_, s4 _ _ hy, len_line (by omega), same_at (s2.trans s4) hD0 (s4 _ _ hy), _, upd_same, by rw [List.length_append]; simp [hyl], fun y hm => ?_⟩
      rcases List.mem_append.mp hm with hm | hm
      · exact (hyr y hm).keep s5
      · rw [List.mem_singleton.mp hm]
        have nt : t ≠ D := fun z => by
          rw [z, s3 _ _ hy] at ht; cases ht
        exact ⟨t, ns, rfl, by rw [upd_ne nt, upd_same], by omega⟩
    · rintro H2 ⟨s2, ys, hy, hyl, hyr⟩
      refine ⟨D, ys, rfl, .inl ⟨sqL hy, fun t ht => ?_⟩⟩
      have s3 : Same H2 (upd H2 t (.tup ys)) := same_new ht
      have ht3 : upd H2 t (.tup ys) t = some (.tup ys) := upd_same
      generalize upd H2 t (.tup ys) = H3 at s3 ht3
      have p3 : H3 p = some (.ins CW dx fs) := s3 _ _ (s2 _ _ (s1 _ _ hGp))
      refine ⟨_, rfl, p, CW, dx, fs, rfl, p3, c.cW, c.wNext, few l4 (by decide), ?_⟩
      have b3 : But p H H3 := hB.same (s1.trans (s2.trans s3))
      have b4 : But p H (upd H3 p (.ins CW dx (putF "kept_next" (.ref t) fs))) := b3.put
      have tk4 : TK H3 (upd H3 p (.ins CW dx (putF "kept_next" (.ref t) fs))) := fun q zs e => by rw [upd_ne (ne_of e p3 (fun z => by cases z))]; exact e
      have p4 : upd H3 p (.ins CW dx (putF "kept_next" (.ref t) fs)) p = some (.ins CW dx (putF "kept_next" (.ref t) fs)) := upd_same
      have n3 : NextAt H3 t := ⟨ys, ht3, by rw [hyl, hlen], fun y hm => (hyr y hm).keep (TK.of s3)⟩
      have n4 := n3.keep tk4
      have t4 := tk4 _ _ ht3
      generalize upd H3 p (.ins CW dx (putF "kept_next" (.ref t) fs)) = H4 at b4 p4 n4 t4 ⊢
      refine ⟨_, rfl, p, CW, dx, _, _, rfl, p4, c.cW, c.wNext, lk_same, t, rfl, ⟨_, sqT t4⟩, fun D2 hD2 => lc_tup (xs := ys) (fun i H' => Same H4 H' ∧ ∃ bs : List Bool, H' D2 = some (.lst (bs.map V.bl)) ∧ bs.length = i) ⟨same_new hD2, [], upd_same, rfl⟩ (fun i H' _ h => sqT (h.1 _ _ t4)) ?_ ?_⟩
      · rintro i x H5 hx ⟨s5, bs, hbs, hbl⟩
        obtain ⟨ys4, y1, y2, y3⟩ := n4
        rw [t4] at y1
        cases y1
        obtain ⟨b, ns, rfl, hb, hn⟩ := y3 x (List.mem_of_getElem? hx)
        have hi : i < 5 := by have := (List.getElem?_eq_some_iff.mp hx).1; omega
        refine ⟨rfl, _, rfl, b, _, rfl, .inr (sqT (s5 _ _ hb)), _, _, rfl, rfl, _, hbs, len_line (by rw [List.length_map]; omega), same_at s5 hD2 hbs, bs ++ [decide ((0 : Int) < ((ns.map V.int).length : Int))], ?_, by rw [List.length_append]; simp [hbl]⟩
        rw [upd_same, ← bl_snoc]
      · rintro H5 ⟨s5, bs, hbs, hbl⟩
        refine ⟨D2, _, rfl, .inl ⟨sqL hbs, fun t2 ht2 => ?_⟩⟩
        have s6 : Same H5 (upd H5 t2 (.tup (bs.map V.bl))) := same_new ht2
        generalize upd H5 t2 (.tup (bs.map V.bl)) = H6 at s6
        have p6 : H6 p = some (.ins CW dx (putF "kept_next" (.ref t) fs)) := s6 _ _ (s5 _ _ p4)
        refine ⟨_, rfl, p, CW, dx, _, rfl, p6, c.cW, c.wLeads, few (putF_le l4) (by decide), ?_⟩
        have s7 : Same H4 H6 := s5.trans s6
        have b6 : But p H H6 := b4.same s7
        have tk7 : TK H6 (upd H6 p (.ins CW dx (putF "kept_leads" (.ref t2) (putF "kept_next" (.ref t) fs)))) := fun q zs e => by rw [upd_ne (ne_of e p6 (fun z => by cases z))]; exact e
        have tkH := (b6.tk hp).trans tk7
        refine q _ b6.put ⟨dx, _, a1, a2, a3, t, upd_same, lk_ne (by decide) (lk_ne (by decide) k1), lk_ne (by decide) (lk_ne (by decide) k2), t1.keep tkH, lk_ne (by decide) (lk_ne (by decide) k3), tkH _ _ t2', lk_ne (by decide) (lk_ne (by decide) k4), tkH _ _ t3, lk_ne (by decide) lk_same, n4.keep ((TK.of s7).trans tk7)⟩
end
end Hc
end

section
set_option Elab.async false
set_option linter.all false
set_option maxRecDepth 100000
set_option maxHeartbeats 4000000
namespace Hc
open PySem PySem.Spec PyProof.Rows L2 HcR LamX
section
variable {P : Program} {w : World} {K : PySem.W.Frag} {mg : Str → Option Value} {base : Heap}

def spWebInit (CW : Addr) : Sp := fun vs H Q _ => ∃ (p dx a1 a2 a3 : Addr) (W : WD), vs = [.ref p, .int 6, .ref a1, .ref a2, .ref a3] ∧ H p = some (.ins CW dx []) ∧ Td H (.ref a1) (dRows roadsL) ∧
  H a2 = some (.tup (W.rm.map fun n : Nat => V.int (n : Int))) ∧ H a3 = some (.tup (W.tm.map fun n : Nat => V.int (n : Int))) ∧ ∀ H', But p H H' → WebAt CW H' p W → Q .non H'
theorem But.pre {p : Addr} {H H1 H' : Hp} (e : Same H H1) (h : But p H1 H') : But p H H' := fun b o eb n => h b o (e b o eb) n
theorem ok_web_init {CW CD CS CP f fk : Addr} {fd fdk : FuncData} (ev : Ev mg) (kn : Kn mg) (c : Cla K mg CW CD CS CP) (F : FnM K "__init__" "Web.__init__" s_Web_init f fd)
    (h1 : Has P w K mg base CX0 2 "is_within" ["thing", "least", "most"] spIsWithin) (h2 : Has P w K mg base CX0 3 "are_roads" ["thing", "houses"] spRoads) (h3 : Has P w K mg base CX0 3 "are_counts" ["thing", "many", "most"] spCounts)
    (mk : Meth K CW "keep" fk) (Gk : FnOk P w K mg base CX0 1 fk fdk ["self", "houses", "roads", "rooms", "times"] (spKeep CW)) (bk : L2.Binds K fdk ["self", "houses", "roads", "rooms", "times"] []) : FnOk P w K mg base CX0 4 f fd ["self", "houses", "roads", "rooms", "times"] (spWebInit CW) := by
  obtain ⟨tH, gH⟩ := kn.houses
  obtain ⟨tR, gR⟩ := kn.rooms
  obtain ⟨tT, gT⟩ := kn.time
  refine F.ok sc_Web_init (fun vs H Q E ⟨p, dx, a1, a2, a3, W, e, _⟩ => by rw [e]; rfl) fun cdv A outer s H vs Q E hr ⟨p, dx, a1, a2, a3, W, e, hp, t1, t2, t3, q⟩ => ?_
  subst e
  refine ⟨_, (PSs.nox (pss_cons (ps_if (pt_not (pt_val (pe_has h1 (hr.mono (by decide)) (by rfl) (pa_cons (pv 1) (pa_cons pe_int (pa_cons (pe_glob (x := "MOST_HOUSES") (v := .int 12) (by rfl) gH ⟨_, rfl⟩) pa_nil)))))) (pss_one ps_never) pss_nil) (pss_cons (ps_if (pt_not (pt_val (pe_has h2 hr (by rfl) (pa_cons (pv 2) (pa_cons (pv 1) pa_nil))))) (pss_one ps_never) pss_nil) (pss_cons (ps_if (pt_not (pt_val (pe_has h3 hr (by rfl) (pa_cons (pv 3) (pa_cons (pe_callB (lenS (K := K) rfl) (by rfl) ev.len PySem.boot_len (pa_cons (pv 2) pa_nil)) (pa_cons (pe_glob (x := "MOST_ROOMS") (v := .int 3) (by rfl) gR ⟨_, rfl⟩) pa_nil)))))) (pss_one ps_never) pss_nil) (pss_cons (ps_if (pt_not (pt_val (pe_has h3 hr (by rfl) (pa_cons (pv 4) (pa_cons (pe_callB (lenS (K := K) rfl) (by rfl) ev.len PySem.boot_len (pa_cons (pv 2) pa_nil)) (pa_cons (pe_glob (x := "MOST_TIME") (v := .int 3) (by rfl) gT ⟨_, rfl⟩) pa_nil)))))) (pss_one ps_never) pss_nil) (pss_one (ps_expr (pe_meth (pv 0) c.cW mk Gk (hr.mono (by decide)) bk .nil pass0 (pa_cons (pv 1) (pa_cons (pv 2) (pa_cons (pv 3) (pa_cons (pv 4) pa_nil)))))))))))), ?_⟩
  obtain ⟨_, xs, e, hxs, hall⟩ := t1.tuple
  cases e
  have hlen : xs.length = 5 := by rw [hall.len]; rfl
  refine ⟨_, rfl, _, _, _, rfl, true, rfl, iteF ?_⟩
  refine ⟨_, rfl, _, rfl, a1, rfl, t1, fun H1 s1 => ⟨true, rfl, iteF ?_⟩⟩
  have rml : (((nI W.rm).length : Nat) : Int) = (xs.length : Int) := by rw [nI_len, W.hr, hlen]
  have tml : (((nI W.tm).length : Nat) : Int) = (xs.length : Int) := by rw [nI_len, W.ht, hlen]
  have nIb : ∀ {l : List Nat} {n : Int}, (∀ t ∈ l, 1 ≤ t ∧ t ≤ 3) → n ∈ nI l → 1 ≤ n ∧ n ≤ 3 := fun {l n} h hn => by
    obtain ⟨t, ht, rfl⟩ := List.mem_map.mp hn
    have := h t ht
    show 1 ≤ (t : Int) ∧ (t : Int) ≤ 3
    omega
  refine ⟨_, rfl, _, rfl, a1, xs, rfl, .inr (sqT (s1 _ _ hxs)), a2, _, 3, nI W.rm, rfl, by rw [nI_map]; exact s1 _ _ t2, rml, fun n hn => nIb W.h2 hn, by rw [nI_len, W.hr]; decide, fun H2 s2 => ⟨true, rfl, iteF ?_⟩⟩
  have s12 := s1.trans s2
  refine ⟨_, rfl, _, rfl, a1, xs, rfl, .inr (sqT (s12 _ _ hxs)), a3, _, 3, nI W.tm, rfl, by rw [nI_map]; exact s12 _ _ t3, tml, fun n hn => nIb W.h1 hn, by rw [nI_len, W.ht]; decide, fun H3 s3 => ⟨true, rfl, iteF ?_⟩⟩
  have s13 := s12.trans s3
  refine ⟨_, rfl, p, dx, _, rfl, s13 _ _ hp, rfl, _, rfl, _, rfl, _, rfl, _, rfl, p, dx, a1, a2, a3, W, rfl, s13 _ _ hp, t1.keep (TK.of s13), s13 _ _ t2, s13 _ _ t3, fun H' b wa => ?_⟩
  exact q H' (b.pre s13) wa
def WebR (CW : Addr) : Addr → Addr → Hp → Prop := fun a b H => a = b ∧ ∃ W, WebAt CW H a W
theorem ok_web_eq {CW CD CS CP f : Addr} {fd : FuncData} (ev : Ev mg) (c : Cla K mg CW CD CS CP) (ic : C8.InsC K CW) (F : FnM K "__eq__" "Web.__eq__" s_Web_eq f fd) : FnOk P w K mg base CX0 1 f fd ["self", "other"] (spEq (WebR CW)) := by
  refine F.ok sc_Web_eq (fun vs H Q E ⟨a, b, e, _⟩ => by rw [e]; rfl) fun cdv A outer s H vs Q E hr ⟨a, b, e, ⟨e2, W, hW⟩, q⟩ => ?_
  subst e e2
  have hu := hr.units
  refine ⟨_, (PSs.nox (pss_cons (ps_if (pt_not (pt_val (pe_callB ((C8.call_isC ic)) (by rfl) ev.isinstance (by decide +kernel) (pa_cons (pv 1) (pa_cons (pe_glob (x := "Web") (v := .ref CW) (by rfl) c.gW rfl) pa_nil))))) (pss_one (ps_ret pe_bl)) pss_nil) (pss_cons (ps_if (PW.pt (pw_or (pt_cmpR op_ne (pe_fldK (K := K) rfl (pv 0) rfl) (pe_fldK (K := K) rfl (pv 1) rfl) (nomark _)) (pw_or1 (pt_cmpR (op_neD hu) (pe_fldK (K := K) rfl (pv 0) rfl) (pe_fldK (K := K) rfl (pv 1) rfl) (nomark _))))) (pss_one (ps_ret pe_bl)) pss_nil) (pss_one (ps_ret (pe_and (pe_cmpR (op_eqD hu) (pe_fldK (K := K) rfl (pv 0) rfl) (pe_fldK (K := K) rfl (pv 1) rfl) (nomark _)) (pe_one (pe_cmpR (op_eqD hu) (pe_fldK (K := K) rfl (pv 0) rfl) (pe_fldK (K := K) rfl (pv 1) rfl) (nomark _))))))))), ?_⟩
  obtain ⟨dx, fs, a1, a2, a3, a4, hp, k1, k2, t1, k3, t2, k4, t3, k5, t4⟩ := hW
  have nR : Nice 2 (dRows roadsL) := nice_rows _
  have nr : Nice 1 (dInts (nI W.rm)) := nice_ints _
  have nt : Nice 1 (dInts (nI W.tm)) := nice_ints _
  have d2 : Td H (.ref a2) (dInts (nI W.rm)) := td_way t2
  have d3 : Td H (.ref a3) (dInts (nI W.tm)) := td_way t3
  refine ⟨_, rfl, a, dx, fs, rfl, hp, true, rfl, iteF ?_⟩
  refine ⟨_, rfl, a, CW, dx, fs, _, rfl, hp, c.cW, c.wHouses, k1, _, rfl, a, CW, dx, fs, _, rfl, hp, c.cW, c.wHouses, k1, rfl, false, rfl, iteF ?_⟩
  refine ⟨_, rfl, a, CW, dx, fs, _, rfl, hp, c.cW, c.wRoads, k2, _, rfl, a, CW, dx, fs, _, rfl, hp, c.cW, c.wRoads, k2, _, _, t1.dp, t1.dp, nR.shaped (by decide), nR.shaped (by decide), false, by rw [nR.refl]; rfl, iteF ?_⟩
  refine ⟨_, rfl, a, CW, dx, fs, _, rfl, hp, c.cW, c.wRooms, k3, _, rfl, a, CW, dx, fs, _, rfl, hp, c.cW, c.wRooms, k3, _, _, d2.dp, d2.dp, nr.shaped (by decide), nr.shaped (by decide), true, by rw [nr.refl], ?_⟩
  refine ⟨_, rfl, a, CW, dx, fs, _, rfl, hp, c.cW, c.wTimes, k4, _, rfl, a, CW, dx, fs, _, rfl, hp, c.cW, c.wTimes, k4, _, _, d3.dp, d3.dp, nt.shaped (by decide), nt.shaped (by decide), ?_⟩
  rw [nt.refl]
  exact q H fun _ _ h => h
end
end Hc
end

section
set_option Elab.async false
set_option linter.all false
set_option maxRecDepth 100000
set_option maxHeartbeats 4000000
namespace Hc
open PySem PySem.Spec PyProof.Rows L2 HcR LamX
section
variable {P : Program} {w : World} {K : PySem.W.Frag} {mg : Str → Option Value} {base : Heap}

variable {CW CD CS CP : Addr}
theorem all_rep (n : Nat) : ((List.replicate n true).all id) = true := by
  rw [List.all_eq_true]
  intro x hx
  rw [List.eq_of_mem_replicate hx]; rfl
def spIsRoad (CW : Addr) : Sp := fun vs H Q _ => ∃ (a : Addr) (W : WD) (i : Int), vs = [.ref a, .int i] ∧ WebAt CW H a W ∧ Q (.bl (decide (0 ≤ i ∧ i ≤ 4))) H
theorem ok_is_road (ev : Ev mg) (c : Cla K mg CW CD CS CP) (D : Def K mg "is_road" s_is_road) (h1 : Has P w K mg base CX0 2 "is_within" ["thing", "least", "most"] spIsWithin) : Has P w K mg base CX0 3 "is_road" ["web", "thing"] (spIsRoad CW) := by
  refine .of D (fun _ _ _ _ _ _ us hl => match us, hl with | [_, _], _ => rfl) fun f fd F => F.ok sc_is_road (fun vs H Q E ⟨a, W, i, e, _⟩ => by rw [e]; rfl) fun cdv A outer s H vs Q E hr ⟨a, W, i, e, hW, q⟩ => ?_
  subst e
  refine ⟨_, (PSs.nox (pss_one (ps_ret (pe_has h1 hr (by rfl) (pa_cons (pv 1) (pa_cons pe_int (pa_cons (pe_op op_sub (pe_callB (lenS (K := K) rfl) (by rfl) ev.len PySem.boot_len (pa_cons (pe_fldK (K := K) rfl (pv 0) rfl) pa_nil)) pe_int) pa_nil))))))), ?_⟩
  obtain ⟨dx, fs, a1, a2, a3, a4, hp, k1, k2, t1, k3, t2, k4, t3, k5, t4⟩ := hW
  obtain ⟨_, xs, e, hxs, hall⟩ := t1.tuple
  cases e
  have hlen : xs.length = 5 := by rw [hall.len]; rfl
  refine ⟨_, rfl, _, rfl, a, CW, dx, fs, _, rfl, hp, c.cW, c.wRoads, k2, a1, xs, rfl, .inr (sqT hxs), _, _, rfl, rfl, i, 0, 4, ?_, q⟩
  rw [hlen]; rfl
def spIsWay (CW : Addr) : Sp := fun vs H Q _ => ∃ (a b : Addr) (W : WD) (l : List Nat), vs = [.ref a, .ref b] ∧ WebAt CW H a W ∧ H b = some (.tup (l.map fun n : Nat => V.int (n : Int))) ∧ l ≠ [] ∧ l.length ≤ 8 ∧ (∀ r ∈ l, r < 5) ∧ ∀ b H', Same H H' → Q (.bl b) H'
theorem ok_is_way (ev : Ev mg) (kn : Kn mg) (c : Cla K mg CW CD CS CP) (D : Def K mg "is_way" s_is_way) (h1 : Has P w K mg base CX0 3 "is_road" ["web", "thing"] (spIsRoad CW)) : Has P w K mg base CX0 4 "is_way" ["web", "thing"] (spIsWay CW) := by
  obtain ⟨tW, gW⟩ := kn.way
  refine .of D (fun _ _ _ _ _ _ us hl => match us, hl with | [_, _], _ => rfl) fun f fd F => F.ok sc_is_way (fun vs H Q E ⟨a, b, W, l, e, _⟩ => by rw [e]; rfl) fun cdv A outer s H vs Q E hr ⟨a, b, W, l, e, hW, hb, hne, h8, h5, q⟩ => ?_
  subst e
  refine ⟨_, (PSs.nox (pss_cons (ps_if (PW.pt (pw_or (pt_not (pt_val (pe_callB ((isiK (K := K) rfl)) (by rfl) ev.isinstance (by decide +kernel) (pa_cons (pv 1) (pa_cons (pe_bltn (v := .ty "tuple") (by rfl) ev.tuple (by decide +kernel) rfl) pa_nil))))) (pw_or1 (pt_not (pt_chain op_le op_le pe_int (pe_callB (lenS (K := K) rfl) (by rfl) ev.len PySem.boot_len (pa_cons (pv 1) pa_nil)) (pe_glob (x := "MOST_WAY") (v := .int 8) (by rfl) gW ⟨_, rfl⟩)))))) (pss_one (ps_ret pe_bl)) pss_nil) (pss_cons (ps_if (pt_not (pt_val (pe_callB ((allK (K := K) rfl rfl)) (by rfl) ev.all (by decide +kernel) (pa_cons (pe_lc (own := [("road", 2)]) rfl sc_is_way.nd (pi_tup (pv 1)) (blkOk_by (own := [("road", 2)]) (N := sc_is_way_N) (sc := sc_is_way_S) (by decide +kernel)) (fun _ _ _ _ _ => (pg_name (i := 2) sc_is_way.nd rfl (.inl rfl))) (fun _ _ _ _ _ => pts_nil) (fun _ _ _ _ _ => (pe_has h1 hr (by rfl) (pa_cons (pv 0) (pa_cons (pv 2) pa_nil))))) pa_nil)))) (pss_one (ps_ret pe_bl)) pss_nil) (pss_one (ps_ret (pe_callB ((allK (K := K) rfl rfl)) (by rfl) ev.all (by decide +kernel) (pa_cons (pe_lc (own := [("at", 3)]) rfl sc_is_way.nd (pi_range2 rfl ev.range (pa_cons pe_int (pa_cons (pe_callB (lenS (K := K) rfl) (by rfl) ev.len PySem.boot_len (pa_cons (pv 1) pa_nil)) pa_nil))) (blkOk_by (own := [("at", 3)]) (N := sc_is_way_N) (sc := sc_is_way_S) (by decide +kernel)) (fun _ _ _ _ _ => (pg_name (i := 3) sc_is_way.nd rfl (.inl rfl))) (fun _ _ _ _ _ => pts_nil) (fun _ _ _ _ _ => (pe_cmpR (opInK (K := K) rfl) (pe_ix (ixT (K := K) rfl) (pv 1) (pv 3) (fun _ _ => rfl)) (pe_ix (ixT (K := K) rfl) (pe_fldK (K := K) rfl (pv 0) rfl) (pe_ix (ixT (K := K) rfl) (pv 1) (pe_op op_sub (pv 3) pe_int) (fun _ _ => rfl)) (fun _ _ => rfl)) (by rfl)))) pa_nil))))))), ?_⟩
  have hlen : 0 < l.length := List.length_pos_iff.mpr hne
  refine ⟨_, rfl, _, _, _, _, true, rfl, .ty _, .base (.tup hb), kit_ty (by decide +kernel), true, rfl, iteF ?_⟩
  refine ⟨_, rfl, b, _, rfl, .inr (sqT hb), _, _, rfl, rfl, _, rfl, ifT (decide_eq_true (show (1 : Int) ≤ _ by rw [List.length_map]; omega)) ⟨_, _, rfl, rfl, true, ?_, iteF ?_⟩⟩
  · exact congrArg V.bl (decide_eq_true (show (((l.map fun n : Nat => V.int (n : Int)).length : Nat) : Int) ≤ 8 by rw [List.length_map]; omega))
  refine ⟨_, rfl, b, rfl, ⟨_, sqT hb⟩, fun D hD => lc_tup (xs := l.map fun n : Nat => V.int (n : Int)) (fun i H' => Same H H' ∧ H' D = some (.lst ((List.replicate i true).map V.bl))) ⟨same_new hD, upd_same⟩ (fun i H' _ h => sqT (h.1 _ _ hb)) (fun i x H' hx ⟨s1, e1⟩ => ?_) fun H' ⟨s1, e1⟩ => ?_⟩
  · rw [List.getElem?_map] at hx
    obtain ⟨n, hn', rfl⟩ := Option.map_eq_some_iff.mp hx
    have hb := h5 n (List.mem_of_getElem? hn')
    have hi : i < l.length := (List.getElem?_eq_some_iff.mp hn').1
    refine ⟨rfl, _, rfl, _, rfl, a, W, n, rfl, hW.keep (IK.of s1), _, e1, len_line (by simp; omega), same_at s1 hD e1, ?_⟩
    rw [upd_same, decide_eq_true (show (0 : Int) ≤ n ∧ (n : Int) ≤ 4 by omega), bl_snoc, List.replicate_succ']
  · refine ⟨D, _, rfl, sqL e1, ?_⟩
    rw [all_rep]
    refine ⟨true, rfl, iteF ?_⟩
    have hb1 := s1 _ _ hb
    obtain ⟨dx, fs, a1, a2, a3, a4, hp, k1, k2, t1, k3, t2, k4, t3, k5, ys, y1, y2, y3⟩ := hW.keep (IK.of s1)
    refine ⟨_, rfl, b, _, rfl, .inr (sqT hb1), 1, _, rfl, ⟨by decide, by decide, by omega, by rw [List.length_map]; omega⟩, fun D2 hD2 => ?_⟩
    rw [List.length_map]
    refine lc_range (lo := 1) (n := ((l.length : Int) - 1).toNat) (fun i H2 => Same H' H2 ∧ ∃ bs : List Bool, H2 D2 = some (.lst (bs.map V.bl)) ∧ bs.length = i) ⟨same_new hD2, [], upd_same, rfl⟩ (fun i H2 hi ⟨s2, bs, e2, l2⟩ => ?_) fun H2 ⟨s2, bs, e2, l2⟩ => ⟨D2, _, rfl, sqL e2, q _ H2 (s1.trans s2)⟩
    have i0 : i < l.length := by omega
    have i1 : i + 1 < l.length := by omega
    have hb2 := s2 _ _ hb1
    have hr5 := h5 _ (List.getElem_mem i0)
    obtain ⟨b4, ns, e4, h4, n4⟩ := y3 ys[l[i]] (List.getElem_mem (by omega))
    have g1 : (l.map fun n : Nat => V.int (n : Int))[i + 1]? = some (.int (l[i + 1] : Nat)) := by simp [i1]
    have g0 : (l.map fun n : Nat => V.int (n : Int))[i]? = some (.int (l[i] : Nat)) := by simp [i0]
    refine ⟨rfl, _, rfl, _, rfl, b, _, _, .int ((l[i + 1] : Nat) : Int), rfl, rfl, sqT hb2, ?_, ?_⟩
    · have e : (1 + (i : Int)) = ((i + 1 : Nat) : Int) := by omega
      rw [e]; exact atI_nat g1
    · refine ⟨_, rfl, a, CW, dx, fs, _, rfl, s2 _ _ hp, c.cW, c.wNext, k5, _, rfl, _, rfl, _, _, rfl, rfl, b, _, _, .int ((l[i] : Nat) : Int), rfl, rfl, sqT hb2, ?_, a4, ys, _, .ref b4, rfl, rfl, sqT (s2 _ _ y1), ?_, b4, _, rfl, .inr (sqT (s2 _ _ h4)), rfl, ?_, _, e2, len_line (by rw [List.length_map]; omega), same_at s2 hD2 e2, bs ++ [inV (.int (l[i + 1] : Nat)) (ns.map V.int)], ?_, by rw [List.length_append]; simp [l2]⟩
      · have e : (1 + (i : Int) - 1) = ((i : Nat) : Int) := by omega
        rw [e]; exact atI_nat g0
      · rw [← e4]; exact atI_nat (by simp [show l[i] < ys.length by omega])
      · rw [List.all_eq_true]
        intro x hx
        obtain ⟨n, _, rfl⟩ := List.mem_map.mp hx
        rfl
      · rw [upd_same, ← bl_snoc]; rfl
def spIsLetter (CW : Addr) : Sp := fun vs H Q _ => ∃ (a : Addr) (x : V) (W : WD) (l : Letter), vs = [.ref a, x] ∧ WebAt CW H a W ∧ Td H x (dLet l) ∧ GoodL l ∧ ∀ b H', Same H H' → Q (.bl b) H'
/-- a letter's parts -/
theorem td_let {H : Hp} {x : V} {l : Letter} (h : Td H x (dLet l)) : ∃ a b, x = .ref a ∧ H a = some (.tup [.ref b, .int l.2]) ∧ H b = some (.tup (l.1.map fun n : Nat => V.int (n : Int))) := by
  obtain ⟨a, xs, e, h1, h2⟩ := h.tuple
  cases h2 with
  | cons t1 h2 =>
    cases h2 with
    | cons t2 h2 =>
      cases h2
      cases t2
      obtain ⟨b, rfl, hb⟩ := t1.way
      exact ⟨a, b, e, h1, hb⟩
theorem ok_is_letter (ev : Ev mg) (kn : Kn mg) (c : Cla K mg CW CD CS CP) (D : Def K mg "is_letter" s_is_letter) (h1 : Has P w K mg base CX0 2 "is_within" ["thing", "least", "most"] spIsWithin) (h2 : Has P w K mg base CX0 1 "is_pair" ["thing"] spIsPair)
    (h3 : Has P w K mg base CX0 4 "is_way" ["web", "thing"] (spIsWay CW)) : Has P w K mg base CX0 5 "is_letter" ["web", "thing"] (spIsLetter CW) := by
  obtain ⟨tT, gT⟩ := kn.tick
  refine .of D (fun _ _ _ _ _ _ us hl => match us, hl with | [_, _], _ => rfl) fun f fd F => F.ok sc_is_letter (fun vs H Q E ⟨a, x, W, l, e, _⟩ => by rw [e]; rfl) fun cdv A outer s H vs Q E hr ⟨a, x, W, l, e, hW, hx, hg, q⟩ => ?_
  subst e
  refine ⟨_, (PSs.nox (pss_one (ps_ret (pe_and (pe_has h2 (hr.mono (by decide)) (by rfl) (pa_cons (pv 1) pa_nil)) (pe_and (pe_has h3 hr (by rfl) (pa_cons (pv 0) (pa_cons (pe_ix (ixT (K := K) rfl) (pv 1) pe_int (fun _ _ => rfl)) pa_nil))) (pe_one (pe_has h1 (hr.mono (by decide)) (by rfl) (pa_cons (pe_ix (ixT (K := K) rfl) (pv 1) pe_int (fun _ _ => rfl)) (pa_cons pe_int (pa_cons (pe_glob (x := "MOST_TICK") (v := .int 1000000) (by rfl) gT ⟨_, rfl⟩) pa_nil)))))))))), ?_⟩
  obtain ⟨b, b1, rfl, hb, hb1⟩ := td_let hx
  refine ⟨_, rfl, b, _, rfl, hb, true, rfl, ?_⟩
  refine ⟨_, rfl, _, rfl, b, _, 0, .ref b1, rfl, rfl, sqT hb, atI_nat (j := 0) rfl, a, b1, W, l.1, rfl, hW, hb1, hg.1, hg.2.1, hg.2.2, fun b' H' s1 => ⟨b', rfl, ?_⟩⟩
  cases b' with
  | false => exact q false H' s1
  | true => exact ⟨_, rfl, b, _, 1, .int l.2, rfl, rfl, sqT (s1 _ _ hb), atI_nat (j := 1) rfl, l.2, 1, 1000000, rfl, q _ H' s1⟩
def spAreLetters (CW : Addr) : Sp := fun vs H Q _ => ∃ (a : Addr) (x : V) (W : WD) (ls : List Letter), vs = [.ref a, x] ∧ WebAt CW H a W ∧ Td H x (dLets ls) ∧ (∀ l ∈ ls, GoodL l) ∧ ls.length ≤ 60 ∧ ∀ b H', Same H H' → Q (.bl b) H'
theorem ok_are_letters (ev : Ev mg) (kn : Kn mg) (c : Cla K mg CW CD CS CP) (D : Def K mg "are_letters" s_are_letters) (h1 : Has P w K mg base CX0 5 "is_letter" ["web", "thing"] (spIsLetter CW)) : Has P w K mg base CX0 6 "are_letters" ["web", "thing"] (spAreLetters CW) := by
  obtain ⟨tL, gL⟩ := kn.letters
  refine .of D (fun _ _ _ _ _ _ us hl => match us, hl with | [_, _], _ => rfl) fun f fd F => F.ok sc_are_letters (fun vs H Q E ⟨a, x, W, ls, e, _⟩ => by rw [e]; rfl) fun cdv A outer s H vs Q E hr ⟨a, x, W, ls, e, hW, hx, hg, h60, q⟩ => ?_
  subst e
  refine ⟨_, (PSs.nox (pss_cons (ps_if (PW.pt (pw_or (pt_not (pt_val (pe_callB ((isiK (K := K) rfl)) (by rfl) ev.isinstance (by decide +kernel) (pa_cons (pv 1) (pa_cons (pe_bltn (v := .ty "tuple") (by rfl) ev.tuple (by decide +kernel) rfl) pa_nil))))) (pw_or1 (pt_cmpR op_gt (pe_callB (lenS (K := K) rfl) (by rfl) ev.len PySem.boot_len (pa_cons (pv 1) pa_nil)) (pe_glob (x := "MOST_LETTERS") (v := .int 60) (by rfl) gL ⟨_, rfl⟩) (nomark _))))) (pss_one (ps_ret pe_bl)) pss_nil) (pss_one (ps_ret (pe_callB ((allK (K := K) rfl rfl)) (by rfl) ev.all (by decide +kernel) (pa_cons (pe_lc (own := [("letter", 2)]) rfl sc_are_letters.nd (pi_tup (pv 1)) (blkOk_by (own := [("letter", 2)]) (N := sc_are_letters_N) (sc := sc_are_letters_S) (by decide +kernel)) (fun _ _ _ _ _ => (pg_name (i := 2) sc_are_letters.nd rfl (.inl rfl))) (fun _ _ _ _ _ => pts_nil) (fun _ _ _ _ _ => (pe_has h1 hr (by rfl) (pa_cons (pv 0) (pa_cons (pv 2) pa_nil))))) pa_nil)))))), ?_⟩
  obtain ⟨b, xs, rfl, hb, hall⟩ := hx.tuple
  have hlen : xs.length = ls.length := by rw [hall.len, List.length_map]
  refine ⟨_, rfl, _, _, _, _, true, rfl, .ty _, .base (.tup hb), kit_ty (by decide +kernel), true, rfl, iteF ?_⟩
  refine ⟨_, rfl, b, _, rfl, .inr (sqT hb), _, _, rfl, rfl, _, rfl, ifF (decide_eq_false (by rw [hlen]; omega)) ?_⟩
  refine ⟨_, rfl, b, rfl, ⟨_, sqT hb⟩, fun D hD => lc_tup (xs := xs) (fun i H' => Same H H' ∧ ∃ bs : List Bool, H' D = some (.lst (bs.map V.bl)) ∧ bs.length = i) ⟨same_new hD, [], upd_same, rfl⟩ (fun i H' _ h => sqT (h.1 _ _ hb)) (fun i x H' hx ⟨s1, bs, e1, l1⟩ => ?_) fun H' ⟨s1, bs, e1, l1⟩ => ⟨D, _, rfl, sqL e1, q _ H' s1⟩⟩
  obtain ⟨d, hd, td⟩ := hall.got hx
  rw [List.getElem?_map] at hd
  obtain ⟨l, hl, rfl⟩ := Option.map_eq_some_iff.mp hd
  have hi : i < xs.length := (List.getElem?_eq_some_iff.mp hx).1
  refine ⟨rfl, _, rfl, _, rfl, a, x, W, l, rfl, hW.keep (IK.of s1), td.keep (TK.of s1), hg l (List.mem_of_getElem? hl), fun b' H2 s2 => ⟨_, s2 _ _ e1, len_line (by rw [List.length_map]; omega), same_at (s1.trans s2) hD (s2 _ _ e1), bs ++ [b'], ?_, by rw [List.length_append]; simp [l1]⟩⟩
  rw [upd_same, ← bl_snoc]
end
end Hc
end

section
set_option Elab.async false
set_option linter.all false
set_option maxRecDepth 100000
set_option maxHeartbeats 4000000
namespace Hc
open PySem PySem.Spec PyProof.Rows L2 HcR LamX
section
variable {P : Program} {w : World} {K : PySem.W.Frag} {mg : Str → Option Value} {base : Heap}

variable {CW CD CS CP : Addr}
/-- rows of hours that fit the letters -/
def Fits (ls : List Letter) (rs : List (List Int)) : Prop := rs.length = ls.length ∧ ∀ (i : Nat) (l : Letter) (r : List Int), ls[i]? = some l → rs[i]? = some r → r.length = l.1.length
theorem tdLets {H : Hp} {x : V} {ls : List Letter} (h : Td H x (dLets ls)) : ∃ a xs, x = .ref a ∧ H a = some (.tup xs) ∧ TdAll H xs (ls.map dLet) ∧ xs.length = ls.length := by
  obtain ⟨a, xs, e, h1, h2⟩ := h.tuple
  exact ⟨a, xs, e, h1, h2, by rw [h2.len, List.length_map]⟩
theorem tdRows {H : Hp} {x : V} {rs : List (List Int)} (h : Td H x (dRows rs)) : ∃ a xs, x = .ref a ∧ H a = some (.tup xs) ∧ TdAll H xs (rs.map dInts) ∧ xs.length = rs.length := by
  obtain ⟨a, xs, e, h1, h2⟩ := h.tuple
  exact ⟨a, xs, e, h1, h2, by rw [h2.len, List.length_map]⟩
theorem TdAll.map_got {α : Type} {H : Hp} {xs : List V} {f : α → PyData} {ls : List α} (h : TdAll H xs (ls.map f)) {i : Nat} {x : V} (e : xs[i]? = some x) : ∃ l, ls[i]? = some l ∧ Td H x (f l) := by
  obtain ⟨d, hd, td⟩ := h.got e
  rw [List.getElem?_map] at hd
  obtain ⟨l, hl, rfl⟩ := Option.map_eq_some_iff.mp hd
  exact ⟨l, hl, td⟩
def spAreHours : Sp := fun vs H Q _ => ∃ (x y : V) (ls : List Letter) (rs : List (List Int)), vs = [x, y] ∧ Td H x (dLets ls) ∧ Td H y (dRows rs) ∧ Fits ls rs ∧ (∀ l ∈ ls, GoodL l) ∧ ls.length ≤ 60 ∧ ∀ b H', Same H H' → Q (.bl b) H'
theorem ok_are_hours (ev : Ev mg) (D : Def K mg "are_hours" s_are_hours) (h1 : Has P w K mg base CX0 1 "is_integer" ["thing"] spIsInteger) : Has P w K mg base CX0 2 "are_hours" ["letters", "thing"] spAreHours := by
  refine .of D (fun _ _ _ _ _ _ us hl => match us, hl with | [_, _], _ => rfl) fun f fd F => F.ok sc_are_hours (fun vs H Q E ⟨x, y, ls, rs, e, _⟩ => by rw [e]; rfl) fun cdv A outer s H vs Q E hr ⟨x, y, ls, rs, e, hx, hy, hf, hg, h60, q⟩ => ?_
  subst e
  refine ⟨_, (PSs.nox (pss_cons (ps_if (PW.pt (pw_or (pt_not (pt_val (pe_callB ((isiK (K := K) rfl)) (by rfl) ev.isinstance (by decide +kernel) (pa_cons (pv 1) (pa_cons (pe_bltn (v := .ty "tuple") (by rfl) ev.tuple (by decide +kernel) rfl) pa_nil))))) (pw_or1 (pt_cmpR op_ne (pe_callB (lenS (K := K) rfl) (by rfl) ev.len PySem.boot_len (pa_cons (pv 1) pa_nil)) (pe_callB (lenS (K := K) rfl) (by rfl) ev.len PySem.boot_len (pa_cons (pv 0) pa_nil)) (nomark _))))) (pss_one (ps_ret pe_bl)) pss_nil) (pss_cons (ps_for PassesOwn.never rfl (RZ.pi_zipA (by rfl) ev.zip (pa_cons (pv 0) (pa_cons (pv 1) pa_nil))) (pg_tup rfl (pgs_cons (pg_name (i := 2) sc_are_hours.nd rfl (.inl rfl)) (pgs_cons (pg_name (i := 3) sc_are_hours.nd rfl (.inl rfl)) pgs_nil))) (pss_cons (ps_if (PW.pt (pw_or (pt_not (pt_val (pe_callB ((isiK (K := K) rfl)) (by rfl) ev.isinstance (by decide +kernel) (pa_cons (pv 3) (pa_cons (pe_bltn (v := .ty "tuple") (by rfl) ev.tuple (by decide +kernel) rfl) pa_nil))))) (pw_or1 (pt_cmpR op_ne (pe_callB (lenS (K := K) rfl) (by rfl) ev.len PySem.boot_len (pa_cons (pv 3) pa_nil)) (pe_callB (lenS (K := K) rfl) (by rfl) ev.len PySem.boot_len (pa_cons (pe_ix (ixT (K := K) rfl) (pv 2) pe_int (fun _ _ => rfl)) pa_nil)) (nomark _))))) (pss_one (ps_ret pe_bl)) pss_nil) (pss_one (ps_if (pt_not (pt_val (pe_callB ((allK (K := K) rfl rfl)) (by rfl) ev.all (by decide +kernel) (pa_cons (pe_lc (own := [("hour", 4)]) rfl sc_are_hours.nd (pi_tup (pv 3)) (blkOk_by (own := [("hour", 4)]) (N := sc_are_hours_N) (sc := sc_are_hours_S) (by decide +kernel)) (fun _ _ _ _ _ => (pg_name (i := 4) sc_are_hours.nd rfl (.inl rfl))) (fun _ _ _ _ _ => pts_nil) (fun _ _ _ _ _ => (pe_has h1 hr (by rfl) (pa_cons (pv 4) pa_nil)))) pa_nil)))) (pss_one (ps_ret pe_bl)) pss_nil)))) (pss_one (ps_ret pe_bl))))), ?_⟩
  obtain ⟨a, xs, rfl, ha, hal, hlx⟩ := tdLets hx
  obtain ⟨b, ys, rfl, hb, hbl, hly⟩ := tdRows hy
  refine ⟨_, rfl, _, _, _, _, true, rfl, .ty _, .base (.tup hb), kit_ty (by decide +kernel), true, rfl, iteF ?_⟩
  refine ⟨_, rfl, b, _, rfl, .inr (sqT hb), _, rfl, a, _, rfl, .inr (sqT ha), rfl, false, ?_, iteF ?_⟩
  · rw [hlx, hly, hf.1]
    exact congrArg V.bl (by simp)
  refine ⟨_, rfl, _, rfl, a, b, xs, ys, rfl, .inr ⟨sqT ha, sqT hb, for_it (walk_zipT rfl) (fun i σ H' => Same H H' ∧ ∃ v2 v3, σ = [some (.ref a), some (.ref b), v2, v3, none]) ⟨.refl H, _, _, rfl⟩ (fun i σ H' _ h => ⟨sqT (h.1 _ _ ha), sqT (h.1 _ _ hb)⟩) ?_ fun σ H' h => q true H' h.1⟩⟩
  rintro i x σ H1 H2 hi ⟨s1, v2, v3, rfl⟩ ⟨T, x1, x2, rfl, hT, rfl, e1, e2⟩
  obtain ⟨l, hl, tl⟩ := hal.map_got e1
  obtain ⟨r, hrr, tr⟩ := hbl.map_got e2
  have s2 : Same H (upd H1 T (.tup [x1, x2])) := same_upd s1 hT
  have hT2 : upd H1 T (.tup [x1, x2]) T = some (.tup [x1, x2]) := upd_same
  generalize upd H1 T (.tup [x1, x2]) = H2 at s2 hT2
  obtain ⟨c1, c2, rfl, hc1, hc2⟩ := td_let (tl.keep (TK.of s2))
  obtain ⟨c3, rfl, hc3⟩ := (tr.keep (TK.of s2)).ints
  have hlen := hf.2 i l r hl hrr
  have h8 := (hg l (List.mem_of_getElem? hl)).2.1
  refine ⟨T, _, rfl, sqT hT2, rfl, _, _, rfl, _, _, rfl, rfl, ?_⟩
  refine ⟨_, rfl, _, _, _, _, true, rfl, .ty _, .base (.tup hc3), kit_ty (by decide +kernel), true, rfl, iteF ?_⟩
  refine ⟨_, rfl, c3, _, rfl, .inr (sqT hc3), _, rfl, c1, _, 0, .ref c2, rfl, rfl, sqT hc1, atI_nat (j := 0) rfl, c2, _, rfl, .inr (sqT hc2), rfl, false, ?_, iteF ?_⟩
  · rw [List.length_map, List.length_map, hlen]
    exact congrArg V.bl (by simp)
  refine ⟨_, rfl, c3, rfl, ⟨_, sqT hc3⟩, fun D hD => lc_tup (xs := r.map V.int) (fun i H' => Same H2 H' ∧ H' D = some (.lst ((List.replicate i true).map V.bl))) ⟨same_new hD, upd_same⟩ (fun i H' _ h => sqT (h.1 _ _ hc3)) (fun i x H' hx ⟨s3, e3⟩ => ?_) fun H' ⟨s3, e3⟩ => ?_⟩
  · rw [List.getElem?_map] at hx
    obtain ⟨n, hn', rfl⟩ := Option.map_eq_some_iff.mp hx
    have hi : i < r.length := (List.getElem?_eq_some_iff.mp hn').1
    refine ⟨rfl, _, rfl, n, rfl, _, e3, len_line (by simp; omega), same_at s3 hD e3, ?_⟩
    rw [upd_same, bl_snoc, List.replicate_succ']
  · refine ⟨D, _, rfl, sqL e3, ?_⟩
    rw [all_rep]
    exact ⟨true, rfl, iteF ⟨s2.trans s3, _, _, rfl⟩⟩
def spEarliest (CW : Addr) : Sp := fun vs H Q _ => ∃ (a : Addr) (W : WD) (x y : V) (l : Letter) (r : List Int) (p : Nat), vs = [.ref a, x, y, .int p] ∧ WebAt CW H a W ∧ Td H x (dLet l) ∧ Td H y (dInts r) ∧ GoodL l ∧ r.length = l.1.length ∧ p < r.length ∧ ∀ z : Int, Q (.int z) H
theorem ok_earliest (ev : Ev mg) (c : Cla K mg CW CD CS CP) (D : Def K mg "earliest" s_earliest) : Has P w K mg base CX0 1 "earliest" ["web", "letter", "hours", "place"] (spEarliest CW) := by
  refine .of D (fun _ _ _ _ _ _ us hl => match us, hl with | [_, _, _, _], _ => rfl) fun f fd F => F.ok sc_earliest (fun vs H Q E ⟨a, W, x, y, l, r, p, e, _⟩ => by rw [e]; rfl) fun cdv A outer s H vs Q E hr ⟨a, W, x, y, l, r, p, e, hW, hx, hy, hg, hl, hp, q⟩ => ?_
  subst e
  refine ⟨_, (PSs.nox (pss_cons (ps_if (pt_cmpR op_eq (pv 3) pe_int (nomark _)) (pss_one (ps_ret (pe_ix (ixT (K := K) rfl) (pv 1) pe_int (fun _ _ => rfl)))) pss_nil) (pss_one (ps_ret (pe_op op_add (pe_ix (ixT (K := K) rfl) (pv 2) (pe_op op_sub (pv 3) pe_int) (fun _ _ => rfl)) (pe_ix (ixT (K := K) rfl) (pe_fldK (K := K) rfl (pv 0) rfl) (pe_ix (ixT (K := K) rfl) (pe_ix (ixT (K := K) rfl) (pv 1) pe_int (fun _ _ => rfl)) (pe_op op_sub (pv 3) pe_int) (fun _ _ => rfl)) (fun _ _ => rfl))))))), ?_⟩
  obtain ⟨c1, c2, rfl, hc1, hc2⟩ := td_let hx
  obtain ⟨c3, rfl, hc3⟩ := hy.ints
  obtain ⟨dx, fs, a1, a2, a3, a4, hpp, k1, k2, t1, k3, t2, k4, t3, k5, t4⟩ := hW
  refine ⟨_, rfl, rfl, _, rfl, ?_⟩
  refine ite2 (fun _ => ?_) fun hn => ?_
  · exact ⟨_, rfl, c1, _, 1, .int l.2, rfl, rfl, sqT hc1, atI_nat (j := 1) rfl, q _⟩
  · have hp0 : p ≠ 0 := fun z => hn (by rw [z]; exact decide_eq_true rfl)
    have e : ((p : Int) - 1) = ((p - 1 : Nat) : Int) := by omega
    have i1 : p - 1 < r.length := by omega
    have i2 : p - 1 < l.1.length := by omega
    have h5 := hg.2.2 _ (List.getElem_mem i2)
    have i3 : l.1[p - 1] < W.tm.length := by rw [W.ht]; exact h5
    refine ⟨_, rfl, _, rfl, _, _, rfl, rfl, c3, _, _, .int r[p - 1], rfl, rfl, sqT hc3, ?_, ?_⟩
    · rw [e]; exact atI_nat (by simp [i1])
    · refine ⟨_, rfl, a, CW, dx, fs, _, rfl, hpp, c.cW, c.wTimes, k4, _, rfl, c1, _, 0, .ref c2, rfl, rfl, sqT hc1, atI_nat (j := 0) rfl, _, rfl, _, _, rfl, rfl, c2, _, _, .int ((l.1[p - 1] : Nat) : Int), rfl, rfl, sqT hc2, ?_, a3, _, _, .int ((W.tm[l.1[p - 1]] : Nat) : Int), rfl, rfl, sqT t3, ?_, _, _, rfl, rfl, q _⟩
      · rw [e]; exact atI_nat (by simp [i2])
      · exact atI_nat (by simp [i3])
def spIsEarly (CW : Addr) : Sp := fun vs H Q _ => ∃ (a : Addr) (W : WD) (x y : V) (ls : List Letter) (rs : List (List Int)), vs = [.ref a, x, y] ∧ WebAt CW H a W ∧ Td H x (dLets ls) ∧ Td H y (dRows rs) ∧ Fits ls rs ∧ (∀ l ∈ ls, GoodL l) ∧ ls.length ≤ 60 ∧ ∀ b H', Same H H' → Q (.bl b) H'
theorem ok_is_early (ev : Ev mg) (c : Cla K mg CW CD CS CP) (D : Def K mg "is_early" s_is_early) (h1 : Has P w K mg base CX0 1 "earliest" ["web", "letter", "hours", "place"] (spEarliest CW)) : Has P w K mg base CX0 2 "is_early" ["web", "letters", "hours"] (spIsEarly CW) := by
  refine .of D (fun _ _ _ _ _ _ us hl => match us, hl with | [_, _, _], _ => rfl) fun f fd F => F.ok sc_is_early (fun vs H Q E ⟨a, W, x, y, ls, rs, e, _⟩ => by rw [e]; rfl) fun cdv A outer s H vs Q E hr ⟨a, W, x, y, ls, rs, e, hW, hx, hy, hf, hg, h60, q⟩ => ?_
  subst e
  refine ⟨_, (PSs.nox (pss_cons (ps_for PassesOwn.never rfl (RZ.pi_zipA (by rfl) ev.zip (pa_cons (pv 1) (pa_cons (pv 2) pa_nil))) (pg_tup rfl (pgs_cons (pg_name (i := 3) sc_is_early.nd rfl (.inr rfl)) (pgs_cons (pg_name (i := 4) sc_is_early.nd rfl (.inr rfl)) pgs_nil))) (pss_one (ps_if (pt_val (pe_callB ((anyK (K := K) rfl rfl)) (by rfl) ev.any (by decide +kernel) (pa_cons (pe_lc (own := [("place", 5)]) rfl sc_is_early.nd (pi_range1 rfl ev.range (pa_cons (pe_callB (lenS (K := K) rfl) (by rfl) ev.len PySem.boot_len (pa_cons (pv 4) pa_nil)) pa_nil)) (blkOk_by (own := [("place", 5)]) (N := sc_is_early_N) (sc := sc_is_early_S) (by decide +kernel)) (fun _ _ _ _ _ => (pg_name (i := 5) sc_is_early.nd rfl (.inl rfl))) (fun _ _ _ _ _ => pts_nil) (fun _ _ _ _ _ => (pe_cmpR op_lt (pe_ix (ixT (K := K) rfl) (pv 4) (pv 5) (fun _ _ => rfl)) (pe_has h1 hr (by rfl) (pa_cons (pv 0) (pa_cons (pv 3) (pa_cons (pv 4) (pa_cons (pv 5) pa_nil))))) (nomark _)))) pa_nil))) (pss_one (ps_ret pe_bl)) pss_nil))) (pss_one (ps_ret pe_bl)))), ?_⟩
  obtain ⟨b, xs, rfl, hb, hal, hlx⟩ := tdLets hx
  obtain ⟨d, ys, rfl, hd, hbl, hly⟩ := tdRows hy
  refine ⟨_, rfl, _, rfl, b, d, xs, ys, rfl, .inr ⟨sqT hb, sqT hd, for_it (walk_zipT rfl) (fun i σ H' => Same H H' ∧ ∃ v3 v4, σ = [some (.ref a), some (.ref b), some (.ref d), v3, v4, none]) ⟨.refl H, _, _, rfl⟩ (fun i σ H' _ h => ⟨sqT (h.1 _ _ hb), sqT (h.1 _ _ hd)⟩) ?_ fun σ H' h => q false H' h.1⟩⟩
  rintro i x σ H1 H2 hi ⟨s1, v2, v3, rfl⟩ ⟨T, x1, x2, rfl, hT, rfl, e1, e2⟩
  obtain ⟨l, hl, tl⟩ := hal.map_got e1
  obtain ⟨r, hrr, tr⟩ := hbl.map_got e2
  have s2 : Same H (upd H1 T (.tup [x1, x2])) := same_upd s1 hT
  have hT2 : upd H1 T (.tup [x1, x2]) T = some (.tup [x1, x2]) := upd_same
  generalize upd H1 T (.tup [x1, x2]) = H2 at s2 hT2
  have hlen := hf.2 i l r hl hrr
  have hgl := hg l (List.mem_of_getElem? hl)
  have h8 := hgl.2.1
  obtain ⟨c3, rfl, hc3⟩ := (tr.keep (TK.of s2)).ints
  refine ⟨T, _, rfl, sqT hT2, rfl, _, _, rfl, _, _, rfl, rfl, ?_⟩
  have hl30 : ((r.map V.int).length : Int) = (r.length : Int) := by rw [List.length_map]
  refine ⟨_, rfl, c3, _, rfl, .inr (sqT hc3), _, rfl, by omega, by omega, fun D hD => ?_⟩
  rw [show ((r.map V.int).length : Int).toNat = r.length from by rw [List.length_map]; rfl]
  refine lc_range (lo := 0) (n := r.length) (fun i H' => Same H2 H' ∧ ∃ bs : List Bool, H' D = some (.lst (bs.map V.bl)) ∧ bs.length = i) ⟨same_new hD, [], upd_same, rfl⟩ (fun i H' hi ⟨s3, bs, e3, l3⟩ => ?_) fun H' ⟨s3, bs, e3, l3⟩ => ?_
  · have e : (0 + (i : Int)) = (i : Nat) := by omega
    refine ⟨rfl, _, rfl, _, rfl, c3, _, _, .int r[i], rfl, rfl, sqT (s3 _ _ hc3), ?_, ?_⟩
    · rw [e]; exact atI_nat (by simp [hi])
    · refine ⟨_, rfl, _, rfl, _, rfl, _, rfl, a, W, x1, .ref c3, l, r, i, by rw [e]; rfl, hW.keep (IK.of (s2.trans s3)), tl.keep (TK.of (s2.trans s3)), tr.keep (TK.of (s2.trans s3)), hgl, hlen, hi, fun z => ⟨_, _, rfl, rfl, _, e3, len_line (by rw [List.length_map]; omega), same_at s3 hD e3, bs ++ [decide (r[i] < z)], ?_, by rw [List.length_append]; simp [l3]⟩⟩
      rw [upd_same, ← bl_snoc]
  · refine ⟨D, _, rfl, sqL e3, _, rfl, ite2 (fun _ => q true H' (s2.trans s3)) fun _ => ⟨s2.trans s3, _, _, rfl⟩⟩
end
end Hc
end

section
set_option Elab.async false
set_option linter.all false
set_option maxRecDepth 100000
set_option maxHeartbeats 4000000
namespace Hc
open PySem PySem.Spec PyProof.Rows L2 HcR LamX
section
variable {P : Program} {w : World} {K : PySem.W.Frag} {mg : Str → Option Value} {base : Heap}

variable {CW CD CS CP : Addr}
theorem mem_putK {κ : Type} [DecidableEq κ] {kvs : List (κ × V)} {k : κ} {v : V} {x : κ × V} (h : x ∈ putK kvs k v) : x ∈ kvs ∨ x = (k, v) := by
  unfold putK at h
  split at h
  · obtain ⟨y, hy, e⟩ := List.mem_map.mp h
    by_cases q : y.1 = k
    · rw [if_pos q] at e
      exact .inr (by rw [← e, q])
    · rw [if_neg q] at e
      exact .inl (e ▸ hy)
  · rcases List.mem_append.mp h with h | h
    · exact .inl h
    · exact .inr (List.mem_singleton.mp h)
theorem len_putK {κ : Type} [DecidableEq κ] (kvs : List (κ × V)) (k : κ) (v : V) : (putK kvs k v).length ≤ kvs.length + 1 := by
  unfold putK
  split
  · rw [List.length_map]; omega
  · rw [List.length_append]; simp
theorem valV_at {κ : Type} [DecidableEq κ] {kvs : List (κ × V)} {k : κ} {v : V} (h : (k, v) ∈ kvs) : ∃ v', valV kvs k = some v' ∧ (k, v') ∈ kvs := by
  unfold valV
  cases e : kvs.find? fun kv => decide (kv.1 = k) with
  | none => exact absurd (List.find?_eq_none.mp e (k, v) h) (by simp)
  | some x =>
    have h1 := List.mem_of_find?_eq_some e
    have h2 : x.1 = k := by simpa using List.find?_some e
    refine ⟨x.2, rfl, ?_⟩
    rw [← h2]; exact h1
/-- the counts: road and hour to a number -/
def Cnt (H0 H : Hp) (d n : Nat) : Prop := Same H0 H ∧ H0 d = none ∧ ∃ kvs : List (List Key × V), H d = some (.dT kvs) ∧ kvs.length ≤ n ∧ ∀ kv ∈ kvs, ∃ (r : Nat) (h z : Int), kv = ([Sum.inl (r : Int), Sum.inl h], .int z) ∧ r < 5
theorem Cnt.new {H0 H : Hp} {d n q : Nat} {o : HO} (h : Cnt H0 H d n) (hq : H q = none) : Cnt H0 (upd H q o) d n := by
  obtain ⟨a, b, kvs, c, e, f⟩ := h
  exact ⟨same_upd a hq, b, kvs, by rw [upd_ne (ne_of_none c hq)]; exact c, e, f⟩
theorem Cnt.mono {H0 H : Hp} {d n m : Nat} (h : Cnt H0 H d n) (l : n ≤ m) : Cnt H0 H d m := by
  obtain ⟨a, b, kvs, c, e, f⟩ := h
  exact ⟨a, b, kvs, c, Nat.le_trans e l, f⟩
def spIsFull (CW : Addr) : Sp := fun vs H Q _ => ∃ (a : Addr) (W : WD) (x y : V) (ls : List Letter) (rs : List (List Int)), vs = [.ref a, x, y] ∧ WebAt CW H a W ∧ Td H x (dLets ls) ∧ Td H y (dRows rs) ∧ Fits ls rs ∧ (∀ l ∈ ls, GoodL l) ∧ ls.length ≤ 60 ∧ ∀ b H', Same H H' → Q (.bl b) H'
theorem ok_is_full (ev : Ev mg) (c : Cla K mg CW CD CS CP) (D : Def K mg "is_full" s_is_full) : Has P w K mg base CX0 1 "is_full" ["web", "letters", "hours"] (spIsFull CW) := by
  refine .of D (fun _ _ _ _ _ _ us hl => match us, hl with | [_, _, _], _ => rfl) fun f fd F => F.ok sc_is_full (fun vs H Q E ⟨a, W, x, y, ls, rs, e, _⟩ => by rw [e]; rfl) fun cdv A outer s H vs Q E hr ⟨a, W, x, y, ls, rs, e, hW, hx, hy, hf, hg, h60, q⟩ => ?_
  subst e
  have hu := hu_of hr
  refine ⟨_, (PSs.nox (pss_cons (ps_set (i := 3) sc_is_full.nd rfl (.inr rfl) pe_dnewT) (pss_cons (ps_for PassesOwn.never rfl (RZ.pi_zipA (by rfl) ev.zip (pa_cons (pv 1) (pa_cons (pv 2) pa_nil))) (pg_tup rfl (pgs_cons (pg_name (i := 4) sc_is_full.nd rfl (.inl rfl)) (pgs_cons (pg_name (i := 5) sc_is_full.nd rfl (.inl rfl)) pgs_nil))) (pss_one (ps_for PassesOwn.never rfl (RZ.pi_zipA (by rfl) ev.zip (pa_cons (pe_ix (ixT (K := K) rfl) (pv 4) pe_int (fun _ _ => rfl)) (pa_cons (pv 5) pa_nil))) (pg_tup rfl (pgs_cons (pg_name (i := 6) sc_is_full.nd rfl (.inl rfl)) (pgs_cons (pg_name (i := 7) sc_is_full.nd rfl (.inl rfl)) pgs_nil))) (pss_one (ps_dput hu (pv 3) (pe_tup (pa_cons (pv 6) (pa_cons (pv 7) pa_nil))) (pe_op op_add (pe_dget2 hu (pv 3) (pe_tup (pa_cons (pv 6) (pa_cons (pv 7) pa_nil))) pe_int ⟨rfl, rfl, rfl, rfl⟩) pe_int) rfl))))) (pss_one (ps_ret (pe_callB ((anyK (K := K) rfl rfl)) (by rfl) ev.any (by decide +kernel) (pa_cons (pe_lock (pe_lc (own := [("key", 8)]) rfl sc_is_full.nd (pi_keys (pv 3)) (blkOk_by (own := [("key", 8)]) (N := sc_is_full_N) (sc := sc_is_full_S) (by decide +kernel)) (fun _ _ _ _ _ => (pg_name (i := 8) sc_is_full.nd rfl (.inl rfl))) (fun _ _ _ _ _ => pts_nil) (fun _ _ _ _ _ => (pe_cmpR op_gt (pe_dget hu (pv 3) (pv 8) (fun _ _ => rfl)) (pe_ix (ixT (K := K) rfl) (pe_fldK (K := K) rfl (pv 0) rfl) (pe_ix (ixT (K := K) rfl) (pv 8) pe_int (fun _ _ => rfl)) (fun _ _ => rfl)) (nomark _))))) pa_nil))))))), ?_⟩
  obtain ⟨b, xs, rfl, hb, hal, hlx⟩ := tdLets hx
  obtain ⟨b2, ys, rfl, hb2, hbl, hly⟩ := tdRows hy
  intro d hd
  have L0 : Cnt H (upd H d (.dT [])) d 0 := ⟨same_new hd, hd, [], upd_same, Nat.le_refl _, fun _ z => nomatch z⟩
  refine ⟨_, rfl, _, rfl, b, b2, xs, ys, rfl, .inr ⟨sqT (L0.1 _ _ hb), sqT (L0.1 _ _ hb2), for_it (walk_zipT rfl) (fun i σ H' => Cnt H H' d (8 * i) ∧ ∃ v4 v5 v6 v7, σ = [some (.ref a), some (.ref b), some (.ref b2), some (.ref d), v4, v5, v6, v7, none]) ⟨L0, _, _, _, _, rfl⟩ (fun i σ H' _ h => ⟨sqT (h.1.1 _ _ hb), sqT (h.1.1 _ _ hb2)⟩) ?_ ?_⟩⟩
  · rintro i x σ H1 H2 hi ⟨L1, v4, v5, v6, v7, rfl⟩ ⟨T, x1, x2, rfl, hT, rfl, e1, e2⟩
    obtain ⟨l, hl, tl⟩ := hal.map_got e1
    obtain ⟨r, hrr, tr⟩ := hbl.map_got e2
    have Lb := L1.new (o := .tup [x1, x2]) hT
    have hT2 : upd H1 T (.tup [x1, x2]) T = some (.tup [x1, x2]) := upd_same
    generalize upd H1 T (.tup [x1, x2]) = H2 at Lb hT2
    have hlen := hf.2 i l r hl hrr
    have hgl := hg l (List.mem_of_getElem? hl)
    obtain ⟨c1, c2, rfl, hc1, hc2⟩ := td_let (tl.keep (TK.of Lb.1))
    obtain ⟨c3, rfl, hc3⟩ := (tr.keep (TK.of Lb.1)).ints
    refine ⟨T, _, rfl, sqT hT2, rfl, _, _, rfl, _, _, rfl, rfl, ?_⟩
    have base2 : ∀ {H' : Hp}, Same H2 H' → H' c2 = some (.tup (l.1.map fun n : Nat => V.int (n : Int))) ∧ H' c3 = some (.tup (r.map V.int)) := fun e => ⟨e _ _ hc2, e _ _ hc3⟩
    refine ⟨_, rfl, c1, _, 0, .ref c2, rfl, rfl, sqT hc1, atI_nat (j := 0) rfl, _, rfl, c2, c3, _, _, rfl, .inr ⟨sqT hc2, sqT hc3, for_it (walk_zipT rfl) (fun j σ H' => (Cnt H H' d (8 * i + j) ∧ TK H2 H') ∧ ∃ v6 v7, σ = [some (.ref a), some (.ref b), some (.ref b2), some (.ref d), some (.ref c1), some (.ref c3), v6, v7, none]) ⟨⟨Lb, TK.refl _⟩, _, _, rfl⟩ (fun j σ H' _ h => ⟨sqT (h.1.2 _ _ hc2), sqT (h.1.2 _ _ hc3)⟩) ?_ ?_⟩⟩
    · rintro j x σ H3 H4 hj ⟨⟨L3, k3⟩, v6, v7, rfl⟩ ⟨T2, y1, y2, rfl, hT3, rfl, f1, f2⟩
      replace f1 : (l.1.map fun n : Nat => V.int (n : Int))[j]? = some y1 := f1
      replace f2 : (r.map V.int)[j]? = some y2 := f2
      rw [List.getElem?_map] at f1 f2
      obtain ⟨ro, hro, rfl⟩ := Option.map_eq_some_iff.mp f1
      obtain ⟨ho, hho, rfl⟩ := Option.map_eq_some_iff.mp f2
      have r5 := hgl.2.2 ro (List.mem_of_getElem? hro)
      have hj8 : j < 8 := by
        have h8 := hgl.2.1
        have h9 := (List.getElem?_eq_some_iff.mp hro).1
        omega
      have hi60 : i < 60 := by
        have h9 := (List.getElem?_eq_some_iff.mp hl).1
        omega
      have L4 := L3.new (o := .tup [V.int (ro : Int), .int ho]) hT3
      have k4 : TK H2 (upd H3 T2 (.tup [V.int (ro : Int), .int ho])) := k3.trans (TK.of (same_new hT3))
      have hT4 : upd H3 T2 (.tup [V.int (ro : Int), .int ho]) T2 = some (.tup [V.int (ro : Int), .int ho]) := upd_same
      generalize upd H3 T2 (.tup [V.int (ro : Int), .int ho]) = H4 at L4 hT4 k4
      obtain ⟨s4, hd0, kvs, hk, hkl, hkv⟩ := id L4
      refine ⟨T2, _, rfl, sqT hT4, rfl, _, _, rfl, _, _, rfl, rfl, ?_⟩
      refine ⟨_, rfl, d, rfl, .inr ⟨kvs, .inl hk⟩, _, rfl, _, rfl, by show 2 ≤ sizeLine; decide, fun t ht => ?_⟩
      have L5 := L4.new (o := .tup [V.int (ro : Int), .int ho]) ht
      have k5 : TK H4 (upd H4 t (.tup [V.int (ro : Int), .int ho])) := TK.of (same_new ht)
      have ht5 : upd H4 t (.tup [V.int (ro : Int), .int ho]) t = some (.tup [V.int (ro : Int), .int ho]) := upd_same
      have hk5 : upd H4 t (.tup [V.int (ro : Int), .int ho]) d = some (.dT kvs) := by rw [upd_ne (ne_of_none hk ht)]; exact hk
      generalize upd H4 t (.tup [V.int (ro : Int), .int ho]) = H5 at L5 k5 ht5 hk5
      have kk : ([Sum.inl (ro : Int), Sum.inl ho] : List Key).map kV = [V.int (ro : Int), .int ho] := rfl
      refine ⟨_, DGet.t (k := [Sum.inl (ro : Int), Sum.inl ho]) hk5 (by rw [kk]; exact ht5), ?_⟩
      have iv : ∃ z : Int, (valV kvs [Sum.inl (ro : Int), Sum.inl ho]).getD (.int 0) = .int z := by
        cases e : valV kvs [Sum.inl (ro : Int), Sum.inl ho] with
        | none => exact ⟨0, rfl⟩
        | some v =>
          unfold valV at e
          obtain ⟨x, hx, e3⟩ := Option.map_eq_some_iff.mp e
          obtain ⟨r', h', z, e4, _⟩ := hkv x (List.mem_of_find?_eq_some hx)
          rw [e4] at e3
          exact ⟨z, e3.symm⟩
      obtain ⟨z, hz⟩ := iv
      rw [hz]
      refine ⟨_, _, rfl, rfl, _, rfl, _, rfl, _, rfl, by show 2 ≤ sizeLine; decide, fun t2 ht2 => ?_⟩
      have L6 := L5.new (o := .tup [V.int (ro : Int), .int ho]) ht2
      have k6 : TK H5 (upd H5 t2 (.tup [V.int (ro : Int), .int ho])) := TK.of (same_new ht2)
      have ht6 : upd H5 t2 (.tup [V.int (ro : Int), .int ho]) t2 = some (.tup [V.int (ro : Int), .int ho]) := upd_same
      have hk6 : upd H5 t2 (.tup [V.int (ro : Int), .int ho]) d = some (.dT kvs) := by rw [upd_ne (ne_of_none hk5 ht2)]; exact hk5
      generalize upd H5 t2 (.tup [V.int (ro : Int), .int ho]) = H6 at L6 k6 ht6 hk6
      refine ⟨d, _, rfl, DPut.t (k := [Sum.inl (ro : Int), Sum.inl ho]) hk6 (by rw [kk]; exact ht6) (len_line (by omega)), ?_⟩
      refine ⟨⟨⟨same_at L6.1 hd0 hk6, hd0, _, upd_same, by have := len_putK kvs [Sum.inl (ro : Int), Sum.inl ho] (V.int (z + 1)); exact Nat.le_trans this (by omega), fun kv hm => ?_⟩, fun bb zs e => ?_⟩, _, _, rfl⟩
      · rcases mem_putK hm with hm | hm
        · exact hkv kv hm
        · exact ⟨ro, ho, z + 1, hm, r5⟩
      · rw [upd_ne (ne_of (k6 _ _ (k5 _ _ (k4 _ _ e))) hk6 (fun z => by cases z))]
        exact k6 _ _ (k5 _ _ (k4 _ _ e))
    · rintro σ H3 ⟨⟨L3, k3⟩, v6, v7, rfl⟩
      refine ⟨L3.mono ?_, _, _, _, _, rfl⟩
      rw [List.length_map, List.length_map]
      have := hgl.2.1
      omega
  · rintro σ H1 ⟨⟨s1, hd0, kvs, hk, hkl, hkv⟩, v4, v5, v6, v7, rfl⟩
    refine ⟨d, .dT kvs, hk, True.intro, fun od => ?_⟩
    have hn60 : min xs.length ys.length ≤ 60 := by omega
    have fr : upd H1 d (.frz od (.dT kvs)) d = some (.frz od (.dT kvs)) := upd_same
    have ik : ∀ b u, b ≠ d → H1 b = some u → upd H1 d (.frz od (.dT kvs)) b = some u := fun b u hb e => by rw [upd_ne hb]; exact e
    generalize upd H1 d (.frz od (.dT kvs)) = H2 at fr ik
    refine ⟨_, rfl, d, od, rfl, .inr ⟨kvs, fr, fun D hD => lc_it walk_keysT (fun i H' => Same H2 H' ∧ ∃ bs : List Bool, H' D = some (.lst (bs.map V.bl)) ∧ bs.length = i) ⟨same_new hD, [], upd_same, rfl⟩ (fun i H' _ h => h.1 _ _ fr) (fun i x H' H'' hi ⟨s3, bs, e3, l3⟩ hy => ?_) fun H' ⟨s3, bs, e3, l3⟩ => ?_⟩⟩
    · obtain ⟨rfl, k, v, kq, hkk, rfl, hkq⟩ := hy
      obtain ⟨r', h', z, e4, r5⟩ := hkv _ (List.mem_of_getElem? hkk)
      injection e4 with e5 e6
      subst e5 e6
      obtain ⟨v', hv', hm'⟩ := valV_at (List.mem_of_getElem? hkk)
      obtain ⟨r2, h2, z2, e7, _⟩ := hkv _ hm'
      injection e7 with _ e8
      subst e8
      have hW2 : WebAt CW H'' a W := hW.keep ⟨fun b zs e => s3 _ _ (ik _ _ (ne_of_none e hd0) (s1 _ _ e)), fun b C dx fs e => s3 _ _ (ik _ _ (ne_of_none e hd0) (s1 _ _ e))⟩
      obtain ⟨dx, fs, a1, a2, a3, a4, hpp, k1, k2, t1, k3, t2, k4, t3, k5, t4⟩ := hW2
      have i3 : r' < W.rm.length := by rw [W.hr]; exact r5
      refine ⟨rfl, _, rfl, _, rfl, d, .int z2, rfl, .inr ⟨kvs, _, kq, .inr ⟨od, s3 _ _ fr⟩, rfl, hkq, hv'.symm⟩, _, rfl, a, CW, dx, fs, _, rfl, hpp, c.cW, c.wRooms, k3, _, rfl, kq, _, 0, .int (r' : Int), rfl, rfl, sqT hkq, atI_nat (j := 0) rfl, a2, _, _, .int ((W.rm[r'] : Nat) : Int), rfl, rfl, sqT t2, atI_nat (by simp [i3]), _, _, rfl, rfl, _, e3, len_line (by rw [List.length_map]; omega), same_at s3 hD e3, bs ++ [decide (((W.rm[r'] : Nat) : Int) < z2)], ?_, by rw [List.length_append]; simp [l3]⟩
      rw [upd_same, ← bl_snoc]
    · have nD : D ≠ d := fun z => by rw [z, fr] at hD; cases hD
      refine ⟨s3 _ _ fr, D, bs, rfl, sqL (by rw [upd_ne nD]; exact e3), q _ _ fun b u e => ?_⟩
      have nb : b ≠ d := ne_of_none e hd0
      rw [upd_ne nb]
      exact s3 _ _ (ik _ _ nb (s1 _ _ e))
end
end Hc
end

section
set_option Elab.async false
set_option linter.all false
set_option maxRecDepth 100000
set_option maxHeartbeats 4000000
namespace Hc
open PySem PySem.Spec PyProof.Rows L2 HcR LamX
section
variable {P : Program} {w : World} {K : PySem.W.Frag} {mg : Str → Option Value} {base : Heap}

variable {CW CD CS CP CB : Addr}
/-- the class BadDay: what a raise of it asks -/
def BadD (P : Program) (w : World) (K : PySem.W.Frag) (mg : Str → Option Value) (base : Heap) (CB : Addr) : Prop := OexC K CB ∧ mg "BadDay" = some (.ref CB) ∧
  ∃ f fd, PySem.W.findIn K (.ref CB) "__init__" = some (some (.ref f)) ∧ PySem.W.typeIn K (.ref f) = some (.type "function") ∧ FnOk P w K mg base CX0 1 f fd ["self", "part"] (spSup CB "part") ∧ L2.Binds K fd ["self", "part"] []
def spDayInit (CW CD CB : Addr) : Sp := fun vs H Q E => ∃ (p dx wa : Addr) (W : WD) (x y : V) (ls : List Letter) (rs : List (List Int)), vs = [.ref p, .ref wa, x, y] ∧ H p = some (.ins CD dx []) ∧ WebAt CW H wa W ∧ Td H x (dLets ls) ∧ Td H y (dRows rs) ∧ Fits ls rs ∧ (∀ l ∈ ls, GoodL l) ∧ ls.length ≤ 60 ∧
  (∀ H', But p H H' → DayAt CD H' p wa ls rs → Q .non H') ∧ ∀ d H', Same H H' → E (.ref CB) (some d) H'
theorem raised {CB : Addr} {t : Str} {H : Hp} {E : XK} (q : ∀ d H', Same H H' → E (.ref CB) (some d) H') (σ : L2.St) : tMkO CB (spSup CB "part") [] (tCons (tC (.str t)) tNil) σ H E := by
  refine ⟨by show 1 ≤ 1000; decide, fun a ha => ⟨a, .str t, rfl, upd_same, fun dx hdx hne => ⟨rfl, dx, _, upd_same, by rw [upd_ne hne, upd_same], by rw [upd_ne hne] at hdx; exact hdx, q _ _ fun b o e => ?_⟩⟩⟩
  have h1 : b ≠ a := ne_of_none e ha
  rw [upd_ne hne] at hdx
  have h2 : b ≠ dx := ne_of_none e hdx
  rw [upd_ne h2, del_ne h1, upd_ne h1, upd_ne h2, upd_ne h1]
  exact e
theorem ok_day_init {f : Addr} {fd : FuncData} (c : Cla K mg CW CD CS CP) (bd : BadD P w K mg base CB) (F : FnM K "__init__" "Day.__init__" s_Day_init f fd)
    (h1 : Has P w K mg base CX0 6 "are_letters" ["web", "thing"] (spAreLetters CW)) (h2 : Has P w K mg base CX0 2 "are_hours" ["letters", "thing"] spAreHours) (h3 : Has P w K mg base CX0 2 "is_early" ["web", "letters", "hours"] (spIsEarly CW)) (h4 : Has P w K mg base CX0 1 "is_full" ["web", "letters", "hours"] (spIsFull CW)) :
    FnOk P w K mg base (L2.CX P w) 7 f fd ["self", "web", "letters", "hours"] (spDayInit CW CD CB) := by
  obtain ⟨oT, gB, fI, fdI, iC, tI, FI, bI⟩ := bd
  refine F.ok sc_Day_init (fun vs H Q E ⟨p, dx, wa, W, x, y, ls, rs, e, _⟩ => by rw [e]; rfl) fun cdv A outer s H vs Q E hr ⟨p, dx, wa, W, x, y, ls, rs, e, hp, hW, hx, hy, hf, hg, h60, q, qe⟩ => ?_
  subst e
  refine ⟨_, (pss_cons (ps_if (pt_not (pt_val (pe_has h1 hr (by rfl) (pa_cons (pv 1) (pa_cons (pv 2) pa_nil))))) (pss_one (ps_raise rfl (takes_of rfl rfl rfl rfl) (pmk_oex oT iC tI FI (hr.mono (by decide)) bI .nil pass0 (by rfl) gB (pa_cons pe_str pa_nil)))) pss_nil) (pss_cons (ps_if (pt_not (pt_val (pe_has h2 (hr.mono (by decide)) (by rfl) (pa_cons (pv 2) (pa_cons (pv 3) pa_nil))))) (pss_one (ps_raise rfl (takes_of rfl rfl rfl rfl) (pmk_oex oT iC tI FI (hr.mono (by decide)) bI .nil pass0 (by rfl) gB (pa_cons pe_str pa_nil)))) pss_nil) (pss_cons (ps_if (pt_val (pe_has h3 (hr.mono (by decide)) (by rfl) (pa_cons (pv 1) (pa_cons (pv 2) (pa_cons (pv 3) pa_nil))))) (pss_one (ps_raise rfl (takes_of rfl rfl rfl rfl) (pmk_oex oT iC tI FI (hr.mono (by decide)) bI .nil pass0 (by rfl) gB (pa_cons pe_str pa_nil)))) pss_nil) (pss_cons (ps_if (pt_val (pe_has h4 (hr.mono (by decide)) (by rfl) (pa_cons (pv 1) (pa_cons (pv 2) (pa_cons (pv 3) pa_nil))))) (pss_one (ps_raise rfl (takes_of rfl rfl rfl rfl) (pmk_oex oT iC tI FI (hr.mono (by decide)) bI .nil pass0 (by rfl) gB (pa_cons pe_str pa_nil)))) pss_nil) (pss_cons (ps_fld (pv 0) (pv 1) rfl) (pss_cons (ps_fld (pv 0) (pv 2) rfl) (pss_cons (ps_fld (pv 0) (pv 3) rfl) (pss_one (ps_fld (pv 0) (pv 3) rfl))))))))), ?_⟩
  obtain ⟨xa, xxs, rfl, _, _, _⟩ := tdLets hx
  obtain ⟨ya, yxs, rfl, _, _, _⟩ := tdRows hy
  refine ⟨_, rfl, _, rfl, wa, _, W, ls, rfl, hW, hx, hg, h60, fun b1 H1 s1 => ⟨b1, rfl, ?_⟩⟩
  cases b1 with
  | false => exact iteT (raised (fun d H' e => qe d H' (s1.trans e)) _)
  | true =>
    refine iteF ?_
    have ik1 := IK.of s1
    refine ⟨_, rfl, _, rfl, _, _, ls, rs, rfl, hx.keep ik1.1, hy.keep ik1.1, hf, hg, h60, fun b2 H2 s2 => ⟨b2, rfl, ?_⟩⟩
    have s12 := s1.trans s2
    cases b2 with
    | false => exact iteT (raised (fun d H' e => qe d H' (s12.trans e)) _)
    | true =>
      refine iteF ?_
      have ik2 := IK.of s12
      refine ⟨_, rfl, _, rfl, _, rfl, wa, W, _, _, ls, rs, rfl, hW.keep ik2, hx.keep ik2.1, hy.keep ik2.1, hf, hg, h60, fun b3 H3 s3 => ⟨b3, rfl, ?_⟩⟩
      have s13 := s12.trans s3
      cases b3 with
      | true => exact iteT (raised (fun d H' e => qe d H' (s13.trans e)) _)
      | false =>
        refine iteF ?_
        have ik3 := IK.of s13
        refine ⟨_, rfl, _, rfl, _, rfl, wa, W, _, _, ls, rs, rfl, hW.keep ik3, hx.keep ik3.1, hy.keep ik3.1, hf, hg, h60, fun b4 H4 s4 => ⟨b4, rfl, ?_⟩⟩
        have s14 := s13.trans s4
        cases b4 with
        | true => exact iteT (raised (fun d H' e => qe d H' (s14.trans e)) _)
        | false =>
          refine iteF ?_
          refine ⟨_, rfl, _, rfl, p, CD, dx, [], rfl, s14 _ _ hp, c.cD, c.dWeb, by decide, ?_⟩
          refine ⟨_, rfl, _, rfl, p, CD, dx, _, rfl, upd_same, c.cD, c.dLetters, few (putF_le (Nat.zero_le 0)) (by decide), ?_⟩
          refine ⟨_, rfl, _, rfl, p, CD, dx, _, rfl, upd_same, c.cD, c.dHours, few (putF_le (putF_le (Nat.zero_le 0))) (by decide), ?_⟩
          refine ⟨_, rfl, _, rfl, p, CD, dx, _, rfl, upd_same, c.cD, c.dKept, few (putF_le (putF_le (putF_le (Nat.zero_le 0)))) (by decide), ?_⟩
          have hB := ((((But.refl p H).same s14).put (o := .ins CD dx (putF "web" (.ref wa) []))).put (o := .ins CD dx (putF "letters" (.ref xa) (putF "web" (.ref wa) [])))).put (o := .ins CD dx (putF "hours" (.ref ya) (putF "letters" (.ref xa) (putF "web" (.ref wa) []))))
          have hB2 := hB.put (o := .ins CD dx (putF "kept_hours" (.ref ya) (putF "hours" (.ref ya) (putF "letters" (.ref xa) (putF "web" (.ref wa) [])))))
          exact q _ hB2 ⟨dx, _, xa, ya, upd_same, lk_ne (by decide) (lk_ne (by decide) (lk_ne (by decide) lk_same)), lk_ne (by decide) (lk_ne (by decide) lk_same), hx.keep (hB2.tk hp), lk_ne (by decide) lk_same, lk_same, hy.keep (hB2.tk hp)⟩
end
end Hc
end

section
set_option Elab.async false
set_option linter.all false
set_option maxRecDepth 100000
set_option maxHeartbeats 4000000
namespace Hc
open PySem PySem.Spec PyProof.Rows L2 HcR LamX
section
variable {P : Program} {w : World} {K : PySem.W.Frag} {mg : Str → Option Value} {base : Heap}

variable {CW CD CS CP : Addr}
theorem tsum_sum (tm : Nat → Int) : ∀ l : List Nat, tsum tm l = (l.map tm).sum
  | [] => rfl
  | r :: l => by
    show tm r + tsum tm l = _
    rw [tsum_sum tm l, List.map_cons, List.sum_cons]
theorem WD.T_get (W : WD) {r : Nat} (h : r < 5) : (W.tm.map fun n : Nat => V.int (n : Int))[r]? = some (.int (W.T r)) := by
  have h2 : r < W.tm.length := by rw [W.ht]; exact h
  rw [List.getElem?_map, List.getElem?_eq_getElem h2]
  unfold WD.T
  simp [h2]
theorem WD.R_get (W : WD) {r : Nat} (h : r < 5) : (W.rm.map fun n : Nat => V.int (n : Int))[r]? = some (.int ((W.R r : Nat) : Int)) := by
  have h2 : r < W.rm.length := by rw [W.hr]; exact h
  rw [List.getElem?_map, List.getElem?_eq_getElem h2]
  unfold WD.R
  simp [h2]
theorem TdAll.map_got' {α : Type} {H : Hp} {xs : List V} {f : α → PyData} {ls : List α} (h : TdAll H xs (ls.map f)) {i : Nat} {l : α} (e : ls[i]? = some l) : ∃ x, xs[i]? = some x ∧ Td H x (f l) :=
  h.get (by rw [List.getElem?_map, e]; rfl)
def spIsLost (CW : Addr) : Sp := fun vs H Q _ => ∃ (a : Addr) (W : WD) (x : V) (t : Int) (S : List Lt), vs = [.ref a, x, .int t] ∧ WebAt CW H a W ∧ Td H x (dSt S) ∧ GoodS S ∧ ∀ b H', Same H H' → (b = true ↔ Late W.T t S) → Q (.bl b) H'
theorem ok_is_lost (ev : Ev mg) (c : Cla K mg CW CD CS CP) (D : Def K mg "is_lost" s_is_lost) : Has P w K mg base CX0 1 "is_lost" ["web", "state", "tick"] (spIsLost CW) := by
  refine .of D (fun _ _ _ _ _ _ us hl => match us, hl with | [_, _, _], _ => rfl) fun f fd F => F.ok sc_is_lost (fun vs H Q E ⟨a, W, x, t, S, e, _⟩ => by rw [e]; rfl) fun cdv A outer s H vs Q E hr ⟨a, W, x, t, S, e, hW, hx, hg, q⟩ => ?_
  subst e
  refine ⟨_, (PSs.nox (pss_cons (ps_for PassesOwn.never rfl (pi_tup (pv 1)) (pg_tup rfl (pgs_cons (pg_name (i := 3) sc_is_lost.nd rfl (.inl rfl)) (pgs_cons (pg_name (i := 4) sc_is_lost.nd rfl (.inl rfl)) (pgs_cons (pg_name (i := 5) sc_is_lost.nd rfl (.inl rfl)) pgs_nil)))) (pss_one (ps_if (pt_cmpR op_gt (pe_op op_add (pe_callB ((call_max2 rfl)) (by rfl) ev.max (by decide +kernel) (pa_cons (pv 4) (pa_cons (pv 2) pa_nil))) (pe_callB ((sumK (K := K) rfl rfl)) (by rfl) ev.sum (by decide +kernel) (pa_cons (pe_lc (own := [("road", 6)]) rfl sc_is_lost.nd (pi_tup (pe_slice slU (pv 3) po_none (po_some (pe_un un_neg pe_int)))) (blkOk_by (own := [("road", 6)]) (N := sc_is_lost_N) (sc := sc_is_lost_S) (by decide +kernel)) (fun _ _ _ _ _ => (pg_name (i := 6) sc_is_lost.nd rfl (.inl rfl))) (fun _ _ _ _ _ => pts_nil) (fun _ _ _ _ _ => (pe_ix (ixT (K := K) rfl) (pe_fldK (K := K) rfl (pv 0) rfl) (pv 6) (fun _ _ => rfl)))) pa_nil))) (pv 5) (nomark _)) (pss_one (ps_ret pe_bl)) pss_nil))) (pss_one (ps_ret pe_bl)))), ?_⟩
  obtain ⟨b, xs, rfl, hb, hal, hlx⟩ := td_st hx
  refine ⟨_, rfl, b, rfl, ⟨_, sqT hb⟩, for_tup (xs := xs) (fun i σ H' => Same H H' ∧ (∀ j x, j < i → S[j]? = some x → ¬ LateL W.T t x) ∧ ∃ v3 v4 v5, σ = [some (.ref a), some (.ref b), some (.int t), v3, v4, v5, none]) ⟨.refl H, fun j x hj => absurd hj (Nat.not_lt_zero j), _, _, _, rfl⟩ (fun i σ H' _ h => sqT (h.1 _ _ hb)) ?_ fun σ H' h => q false H' h.1 ⟨(fun z => Bool.noConfusion z), fun ⟨x, hx, hl⟩ => ?_⟩⟩
  · rintro i x σ H1 hx1 ⟨s1, hn, v3, v4, v5, rfl⟩
    obtain ⟨l, hl, tl⟩ := hal.map_got hx1
    obtain ⟨c1, c2, rfl, hc1, hc2⟩ := td_lt (tl.keep (TK.of s1))
    have hgl := hg.1 l (List.mem_of_getElem? hl)
    refine ⟨c1, _, rfl, sqT hc1, rfl, _, _, rfl, _, _, rfl, _, _, rfl, rfl, ?_⟩
    refine ⟨_, rfl, _, rfl, _, _, rfl, _, rfl, _, rfl, _, rfl, c2, _, rfl, hc2, fun d H2 s2 hd => ?_⟩
    have s12 := s1.trans s2
    have hd' : H2 d = some (.tup (l.rest.dropLast.map fun n : Nat => V.int (n : Int))) := by
      rw [hd, List.map_dropLast]
      exact congrArg (fun z => some (HO.tup z)) (cut_init _)
    refine ⟨d, rfl, ⟨_, sqT hd'⟩, fun D hD => lc_tup (xs := l.rest.dropLast.map fun n : Nat => V.int (n : Int)) (fun i H' => Same H2 H' ∧ H' D = some (.lst (((l.rest.dropLast.take i).map W.T).map V.int))) ⟨same_new hD, upd_same⟩ (fun i H' _ h => sqT (h.1 _ _ hd')) (fun j y H' hy ⟨s3, e3⟩ => ?_) fun H' ⟨s3, e3⟩ => ?_⟩
    · rw [List.getElem?_map] at hy
      obtain ⟨r, hr', rfl⟩ := Option.map_eq_some_iff.mp hy
      have r5 : r < 5 := hgl.2.2 r ((List.dropLast_sublist _).subset (List.mem_of_getElem? hr'))
      have hj : j < l.rest.dropLast.length := (List.getElem?_eq_some_iff.mp hr').1
      rw [List.length_dropLast] at hj
      obtain ⟨dx, fs, a1, a2, a3, a4, hpp, k1, k2, t1, k3, t2, k4, t3, k5, t4⟩ := hW.keep (IK.of (s12.trans s3))
      refine ⟨rfl, _, rfl, a, CW, dx, fs, _, rfl, hpp, c.cW, c.wTimes, k4, _, rfl, a3, _, _, .int (W.T r), rfl, rfl, sqT t3, atI_nat (W.T_get r5), _, e3, len_line (by rw [List.length_map, List.length_map, List.length_take]; omega), same_at s3 hD e3, ?_⟩
      rw [upd_same, take_snoc hr', List.map_append, List.map_append]
      rfl
    · rw [List.length_map, List.take_length] at e3
      refine ⟨D, _, rfl, sqL e3, _, _, rfl, rfl, _, rfl, _, _, rfl, rfl, _, rfl, ?_⟩
      rw [← tsum_sum]
      have hm : (if t > l.ready then t else l.ready) = max l.ready t := by split <;> omega
      refine ite2 (fun hc => ?_) fun hc => ?_
      · refine q true H' (s12.trans s3) ⟨fun _ => ⟨l, List.mem_of_getElem? hl, hgl.1, ?_⟩, fun _ => rfl⟩
        have h2 := of_decide_eq_true hc
        show l.limit < max l.ready t + tsum W.T l.rest.dropLast
        rw [← hm]; exact h2
      · refine ⟨s12.trans s3, fun j y hj hy => ?_, _, _, _, rfl⟩
        rcases Nat.lt_succ_iff_lt_or_eq.mp hj with h | h
        · exact hn j y h hy
        · subst h
          rw [hl] at hy
          cases hy
          intro hL
          refine hc (decide_eq_true ?_)
          have h2 := hL.2
          show l.limit < (if t > l.ready then t else l.ready) + tsum W.T l.rest.dropLast
          rw [hm]; exact h2
  · obtain ⟨j, hj, e⟩ := List.mem_iff_getElem.mp hx
    exact absurd hl (h.2.1 j x (by omega) (by rw [← e]; exact List.getElem?_eq_getElem hj))
end
end Hc
end

section
set_option Elab.async false
set_option linter.all false
set_option maxRecDepth 100000
set_option maxHeartbeats 4000000
namespace Hc
open PySem PySem.Spec PyProof.Rows L2 HcR LamX
section
variable {P : Program} {w : World} {K : PySem.W.Frag} {mg : Str → Option Value} {base : Heap}

theorem slLK {X : Cx} (h : X.K = K) : SlR X (rSlL K) := by subst h; exact sl_list
theorem Has.none {k : Nat} {x : Str} {ps : List Str} {st : Stmt} (D : Def K mg x st) (hb : ∀ (kV doc pm : Value) (an : Option Addr) (cdv ct : Value) (us : List Value), us.length = ps.length → bindArgs (PySem.W.fnOf x x (defArgs st) (defBody st) (defScope st) .none kV doc pm an cdv ct) ⟨us, []⟩ = pure (ps.zip us)) :
    Has P w K mg base CX0 k x ps (fun _ _ _ _ => False) := .of D hb fun f fd F => ⟨fun _ _ _ _ h => h.elim, fun _ _ _ _ _ _ _ _ _ _ _ _ _ h => h.elim⟩
abbrev iN (n : Nat) : V := .int (n : Int)
/-- lists of numbers -/
def GL (H : Hp) (xs : List V) (gs : List (List Nat)) : Prop := xs.length = gs.length ∧ ∀ (i : Nat) (g : List Nat), gs[i]? = some g → ∃ l, xs[i]? = some (.ref l) ∧ H l = some (.lst (g.map iN))
theorem GL.same {H H' : Hp} {xs : List V} {gs : List (List Nat)} (e : Same H H') (h : GL H xs gs) : GL H' xs gs := ⟨h.1, fun i g hg => let ⟨l, h1, h2⟩ := h.2 i g hg; ⟨l, h1, e _ _ h2⟩⟩
theorem GL.tail {H : Hp} {xs : List V} {g : List Nat} {gs : List (List Nat)} (h : GL H xs (g :: gs)) : GL H (xs.drop 1) gs := by
  refine ⟨by rw [List.length_drop, h.1]; simp, fun i g' hg => ?_⟩
  obtain ⟨l, h1, h2⟩ := h.2 (i + 1) g' (by simpa using hg)
  exact ⟨l, by rw [List.getElem?_drop, Nat.add_comm]; exact h1, h2⟩
/-- a list of picks, each a tuple of numbers -/
def PickL (H : Hp) (p : Addr) (os : List (List Nat)) : Prop := ∃ xs, H p = some (.lst xs) ∧ TdAll H xs (os.map dWay)
theorem ways_few : ∀ (gs : List (List Nat)) (m : Nat), (ways gs m).length ≤ 2 ^ gs.flatten.length
  | [], m => by
    unfold ways
    split <;> simp
  | g :: gs, m => by
    have h : ∀ l : List Nat, (l.flatMap fun c => (ways gs (m - c)).map fun o => g.take c ++ o).length ≤ l.length * 2 ^ gs.flatten.length := by
      intro l
      induction l with
      | nil => simp
      | cons c l ih =>
        rw [List.flatMap_cons, List.length_append, List.length_map, List.length_cons, Nat.succ_mul]
        have := ways_few gs (m - c)
        omega
    have h2 := h (List.range (min m g.length + 1))
    rw [List.length_range] at h2
    have h3 : min m g.length + 1 ≤ 2 ^ g.length := by
      have : g.length < 2 ^ g.length := Nat.lt_two_pow_self
      omega
    show ((List.range (min m g.length + 1)).flatMap _).length ≤ _
    rw [List.flatten_cons, List.length_append, Nat.pow_add]
    exact Nat.le_trans h2 (Nat.mul_le_mul_right _ h3)
def spWays : Nat → Sp
  | 0 => fun _ _ _ _ => False
  | n + 1 => fun vs H Q _ => ∃ (a : Addr) (m : Nat) (xs : List V) (gs : List (List Nat)), vs = [.ref a, .int m] ∧ H a = some (.lst xs) ∧ GL H xs gs ∧ gs.length ≤ n ∧ gs.flatten.length ≤ 20 ∧ m ≤ 1000 ∧ ∀ p H', Same H H' → H p = none → PickL H' p (ways gs m) → Q (.ref p) H'
theorem dp_cat (a b : List Nat) : (a.map iN) ++ (b.map iN) = (a ++ b).map iN := by rw [List.map_append]
theorem ways_step {k n : Nat} (ev : Ev mg) (D : Def K mg "ways_to_pick" s_ways_to_pick) (h : Has P w K mg base CX0 k "ways_to_pick" ["groups", "many"] (spWays n)) : Has P w K mg base CX0 (k + 1) "ways_to_pick" ["groups", "many"] (spWays (n + 1)) := by
  refine .of D (fun _ _ _ _ _ _ us hl => match us, hl with | [_, _], _ => rfl) fun f fd F => F.ok sc_ways_to_pick (fun vs H Q E ⟨a, m, xs, gs, e, _⟩ => by rw [e]; rfl) fun cdv A outer s H vs Q E hr ⟨a, m, xs, gs, e, ha, hg, hn, h20, hm, q⟩ => ?_
  subst e
  refine ⟨_, (PSs.nox (pss_cons (ps_if (pt_cmpR op_eq (pe_callB (lenS (K := K) rfl) (by rfl) ev.len PySem.boot_len (pa_cons (pv 0) pa_nil)) pe_int (nomark _)) (pss_one (ps_ret (pe_ifExp (pt_cmpR op_eq (pv 1) pe_int (nomark _)) (pe_lst (pa_cons (pe_tup pa_nil) pa_nil)) (pe_lst pa_nil)))) pss_nil) (pss_cons (ps_set (i := 2) sc_ways_to_pick.nd rfl (.inl rfl) (pe_lst pa_nil)) (pss_cons (ps_for PassesOwn.never rfl (pi_range1 rfl ev.range (pa_cons (pe_op op_add (pe_callB ((call_min2 rfl)) (by rfl) ev.min (by decide +kernel) (pa_cons (pv 1) (pa_cons (pe_callB (lenS (K := K) rfl) (by rfl) ev.len PySem.boot_len (pa_cons (pe_ix (ixL (K := K) rfl) (pv 0) pe_int (fun _ _ => rfl)) pa_nil)) pa_nil))) pe_int) pa_nil)) (pg_name (i := 3) sc_ways_to_pick.nd rfl (.inr rfl)) (pss_one (ps_expr (pe_bm PySem.F.plainAttrs_list PySem.F.slot_list_extend PySem.F.type_list_extend mt_extend (pv 2) (pa_cons (pe_lc (own := [("others", 4)]) rfl sc_ways_to_pick.nd (pi_list (pe_has h hr (by rfl) (pa_cons (pe_slice sl_list (pv 0) (po_some pe_int) po_none) (pa_cons (pe_op op_sub (pv 1) (pv 3)) pa_nil)))) (blkOk_by (own := [("others", 4)]) (N := sc_ways_to_pick_N) (sc := sc_ways_to_pick_S) (by decide +kernel)) (fun _ _ _ _ _ => (pg_name (i := 4) sc_ways_to_pick.nd rfl (.inl rfl))) (fun _ _ _ _ _ => pts_nil) (fun _ _ _ _ _ => (pe_op opCatU (pe_callTy ((tupOf (K := K) rfl)) (by rfl) ev.tuple (by decide +kernel) (pa_cons (pe_slice (slLK (K := K) rfl) (pe_ix (ixL (K := K) rfl) (pv 0) pe_int (fun _ _ => rfl)) po_none (po_some (pv 3))) pa_nil)) (pv 4)))) pa_nil))))) (pss_one (ps_ret (pv 2))))))), ?_⟩
  refine ⟨_, rfl, a, _, rfl, .inl (sqL ha), rfl, _, rfl, ?_⟩
  cases gs with
  | nil =>
    have hx : xs = [] := List.length_eq_zero_iff.mp hg.1
    subst hx
    refine ifT (decide_eq_true rfl) ⟨_, rfl, rfl, _, rfl, ite2 (fun hc => ?_) fun hc => ?_⟩
    · have h0 : m = 0 := by
        have h2 := V.int.inj (of_decide_eq_true hc)
        omega
      subst h0
      refine ⟨by show 0 ≤ sizeLine; exact Nat.zero_le _, fun t ht => ⟨by show 1 ≤ sizeLine; decide, fun l hl => ?_⟩⟩
      have s1 : Same H (upd H t (.tup [])) := same_new ht
      refine q l _ (same_upd s1 hl) (s1.free hl) ⟨_, upd_same, .cons (td_way (l := []) ?_) .nil⟩
      rw [upd_ne (ne_of_none upd_same hl), upd_same]
      rfl
    · have h0 : m ≠ 0 := fun z => hc (by rw [z]; exact decide_eq_true rfl)
      refine ⟨by show 0 ≤ sizeLine; exact Nat.zero_le _, fun l hl => q l _ (same_new hl) hl ⟨[], upd_same, ?_⟩⟩
      show TdAll _ [] ((if m = 0 then [[]] else []).map dWay)
      rw [if_neg h0]
      exact .nil
  | cons g gs =>
    have hlx : xs.length = gs.length + 1 := hg.1
    refine ifF (decide_eq_false fun z => ?_) ?_
    · have h2 := V.int.inj z
      omega
    obtain ⟨n, rfl⟩ : ∃ n', n = n' + 1 := ⟨n - 1, by have : gs.length + 1 ≤ n := hn; omega⟩
    obtain ⟨l, hl0, hl⟩ := hg.2 0 g rfl
    refine ⟨by show 0 ≤ sizeLine; exact Nat.zero_le _, fun p hp => ?_⟩
    have s1 : Same H (upd H p (.lst [])) := same_new hp
    have hp1 : upd H p (.lst []) p = some (.lst []) := upd_same
    generalize upd H p (.lst []) = H1 at s1 hp1
    have h20' : g.length + gs.flatten.length ≤ 20 := by
      rw [List.flatten_cons, List.length_append] at h20; exact h20
    have p20 : (2 : Nat) ^ (g.length + gs.flatten.length) ≤ 2 ^ 20 := Nat.pow_le_pow_right (by decide) h20'
    have total : ∀ i, i ≤ min m g.length + 1 → ((List.range i).flatMap fun c => (ways gs (m - c)).map fun o => g.take c ++ o).length ≤ 2 ^ 20 := by
      intro i hi
      have hw := ways_few (g :: gs) m
      rw [List.flatten_cons, List.length_append] at hw
      have : ((List.range i).flatMap fun c => (ways gs (m - c)).map fun o => g.take c ++ o).length ≤ (ways (g :: gs) m).length := by
        show _ ≤ ((List.range (min m g.length + 1)).flatMap _).length
        have e : List.range i = (List.range (min m g.length + 1)).take i := by rw [List.take_range, Nat.min_eq_left hi]
        rw [e]
        conv => rhs; rw [← List.take_append_drop i (List.range (min m g.length + 1))]
        rw [List.flatMap_append, List.length_append]
        omega
      omega
    refine ⟨_, rfl, _, rfl, a, xs, 0, .ref l, rfl, rfl, sqL (s1 _ _ ha), atI_nat (j := 0) hl0, l, _, rfl, .inl (sqL (s1 _ _ hl)), _, _, rfl, _, _, rfl, rfl, _, rfl, ?_, ?_, ?_⟩
    · split <;> omega
    · rw [List.length_map]; split <;> omega
    have hj : ((if (((g.map iN).length : Nat) : Int) < (m : Int) then (((g.map iN).length : Nat) : Int) else (m : Int)) + 1).toNat = min m g.length + 1 := by
      rw [List.length_map]; split <;> omega
    rw [hj]
    have fin : ∀ {H' : Hp}, But p H1 H' → Same H H' := fun b2 b o e => b2 b o (s1 _ _ e) (ne_of_none e hp)
    refine for_range (lo := 0) (n := min m g.length + 1) (fun i σ H' => But p H1 H' ∧ (∃ ys, H' p = some (.lst ys) ∧ TdAll H' ys (((List.range i).flatMap fun c => (ways gs (m - c)).map fun o => g.take c ++ o).map dWay)) ∧ ∃ v3 v4, σ = [some (.ref a), some (.int (m : Int)), some (.ref p), v3, v4]) ⟨But.refl p H1, ⟨[], hp1, .nil⟩, _, _, rfl⟩ ?_ ?_
    · rintro i σ H2 hi ⟨b2, ⟨ys, hy, hyt⟩, v3, v4, rfl⟩
      have him : i ≤ m := by omega
      have hig : i ≤ g.length := by omega
      have s2 : Same H H2 := fin b2
      have hyl : ys.length ≤ 2 ^ 20 := by
        rw [hyt.len, List.length_map]; exact total i (by omega)
      refine ⟨_, rfl, tyL hy, _, rfl, _, rfl, a, xs, rfl, sqL (s2 _ _ ha), fun b hb => ?_⟩
      have s3 : Same H2 (upd H2 b (.lst (cutV xs (some 1) none))) := same_new hb
      have hb3 : upd H2 b (.lst (cutV xs (some 1) none)) b = some (.lst (xs.drop 1)) := by rw [upd_same, show (some (1 : Int)) = some ((1 : Nat) : Int) from rfl, cut_from]
      generalize upd H2 b (.lst (cutV xs (some 1) none)) = H3 at s3 hb3
      refine ⟨_, rfl, _, rfl, _, _, rfl, rfl, b, m - i, _, gs, ?_, hb3, (hg.tail).same (s2.trans s3), by have : gs.length + 1 ≤ n + 1 := hn; omega, by omega, by omega, fun p2 H4 s4 hp2 ⟨zs, hz, hzt⟩ => ?_⟩
      · have e : ((m : Int) - (0 + (i : Int))) = ((m - i : Nat) : Int) := by omega
        show [V.ref b, V.int ((m : Int) - (0 + (i : Int)))] = _
        rw [e]
      have s24 := s3.trans s4
      have zlen : zs.length ≤ 2 ^ 20 := by
        have h1 := ways_few gs (m - i)
        have h2 : (2 : Nat) ^ gs.flatten.length ≤ 2 ^ 20 := Nat.pow_le_pow_right (by decide) (by omega)
        rw [hzt.len, List.length_map]; omega
      refine ⟨p2, rfl, ⟨_, sqL hz⟩, fun D hD => lc_list (xs := zs) (fun j H' => Same H4 H' ∧ ∃ us, H' D = some (.lst us) ∧ TdAll H' us ((((ways gs (m - i)).take j).map fun o => g.take i ++ o).map dWay)) ⟨same_new hD, [], upd_same, .nil⟩ (fun j H' _ h => sqL (h.1 _ _ hz)) (fun j z H5 hz5 ⟨s5, us, hu5, hut⟩ => ?_) fun H5 ⟨s5, us, hu5, hut⟩ => ?_⟩
      · obtain ⟨o, ho, to⟩ := hzt.map_got hz5
        obtain ⟨c1, rfl, hc1⟩ := to.way
        have hjl : j < zs.length := (List.getElem?_eq_some_iff.mp hz5).1
        have oW := List.mem_of_getElem? ho
        have ol := (ways_len oW).1
        have s15 := (s2.trans s24).trans s5
        refine ⟨rfl, _, rfl, a, xs, 0, .ref l, rfl, rfl, sqL (s15 _ _ ha), atI_nat (j := 0) hl0, _, rfl, _, rfl, l, _, rfl, sqL (s15 _ _ hl), fun q1 hq1 => ?_⟩
        have e6 : upd H5 q1 (.lst (cutV (g.map iN) none (some (0 + (i : Int))))) q1 = some (.lst ((g.take i).map iN)) := by
          rw [upd_same, show (0 + (i : Int)) = ((i : Nat) : Int) by omega, cut_to, List.map_take]
        have s6 : Same H5 (upd H5 q1 (.lst (cutV (g.map iN) none (some (0 + (i : Int)))))) := same_new hq1
        generalize upd H5 q1 (.lst (cutV (g.map iN) none (some (0 + (i : Int))))) = H6 at s6 e6
        refine ⟨q1, _, rfl, .inl ⟨sqL e6, fun t ht => ?_⟩⟩
        have s7 : Same H6 (upd H6 t (.tup ((g.take i).map iN))) := same_new ht
        have e7 : upd H6 t (.tup ((g.take i).map iN)) t = some (.tup ((g.take i).map iN)) := upd_same
        generalize upd H6 t (.tup ((g.take i).map iN)) = H7 at s7 e7
        refine ⟨_, rfl, t, c1, _, _, rfl, rfl, e7, s7 _ _ (s6 _ _ (s5 _ _ hc1)), ?_, fun r H8 s8 h8 => ?_⟩
        · rw [List.length_map, List.length_map, List.length_take]
          refine Nat.le_of_lt (len_line ?_)
          omega
        · have s58 := s6.trans (s7.trans s8)
          have hD4 : H4 D = none := hD
          have hu8 := s58 _ _ hu5
          refine ⟨_, hu8, ?_, same_at (s5.trans s58) hD4 hu8, _, upd_same, ?_⟩
          · have h9 := hut.len
            rw [List.length_map, List.length_map, List.length_take] at h9
            rw [sizeLine_eq]
            have : zs.length ≤ 1048576 := zlen
            omega
          · have tk9 : TK H8 (upd H8 D (.lst (us ++ [.ref r]))) := fun b zs e => by rw [upd_ne (ne_of e hu8 (fun z => by cases z))]; exact e
            rw [take_snoc ho, List.map_append, List.map_append]
            refine ((hut.keep (TK.of s58)).keep tk9).snoc ?_
            refine td_way (tk9 _ _ ?_)
            rw [h8, List.map_append]
      · have e9 : (ways gs (m - i)).take zs.length = ways gs (m - i) := by
          refine List.take_of_length_le ?_
          rw [hzt.len, List.length_map]; exact Nat.le_refl _
        rw [e9] at hut
        have s25 := s24.trans s5
        have hy5 := s25 _ _ hy
        refine ⟨p, D, ys, us, rfl, rfl, hy5, hu5, ?_, fun b o e nb => ?_, ⟨_, upd_same, ?_⟩, _, _, rfl⟩
        · have h9 := hut.len
          rw [List.length_map, List.length_map] at h9
          have h10 := ways_few gs (m - i)
          have h2 : (2 : Nat) ^ gs.flatten.length ≤ 2 ^ 20 := Nat.pow_le_pow_right (by decide) (by omega)
          rw [sizeLine_eq]
          have e20 : (2 : Nat) ^ 20 = 1048576 := by decide
          omega
        · rw [upd_ne nb]
          exact s25 _ _ (b2 b o e nb)
        · have tk9 : TK H5 (upd H5 p (.lst (ys ++ us))) := fun b zs e => by rw [upd_ne (ne_of e hy5 (fun z => by cases z))]; exact e
          rw [List.range_succ, List.flatMap_append, List.map_append]
          refine ((hyt.keep (TK.of s25)).keep tk9).app ?_
          rw [List.flatMap_singleton]
          exact hut.keep tk9
    · rintro σ H2 ⟨b2, ⟨ys, hy, hyt⟩, v3, v4, rfl⟩
      exact ⟨_, rfl, q p H2 (fin b2) hp ⟨ys, hy, hyt⟩⟩
theorem ok_ways (ev : Ev mg) (D : Def K mg "ways_to_pick" s_ways_to_pick) : ∀ n, Has P w K mg base CX0 (n + 1) "ways_to_pick" ["groups", "many"] (spWays n)
  | 0 => Has.none D (fun _ _ _ _ _ _ us hl => match us, hl with | [_, _], _ => rfl)
  | n + 1 => ways_step ev D (ok_ways ev D n)
end
end Hc
end

section
set_option Elab.async false
set_option linter.all false
set_option maxRecDepth 100000
set_option maxHeartbeats 4000000
namespace Hc
open PySem PySem.Spec PyProof.Rows L2 HcR LamX
section
variable {P : Program} {w : World} {K : PySem.W.Frag} {mg : Str → Option Value} {base : Heap}

/-! ### the waiting ones, as they lie in the heap -/
structure Leaf where
  rest : List Nat
  k : Addr
  l : Addr
  ns : List Nat
structure Node where
  road : Nat
  e : Addr
  lv : List Leaf
def Leaf.ent (f : Leaf) : NEnt := (KInts (nI f.rest), f.k, .ref f.l)
def Node.kv (n : Node) : Key × V := (Sum.inl (n.road : Int), .ref n.e)
structure Rep (P : Program) (w : World) (H0 H : Hp) (d : Addr) (T : List Node) : Prop where
  ext : Same H0 H
  d0 : H0 d = none
  dk : H d = some (.dK (T.map Node.kv))
  nd : ∀ n ∈ T, H n.e = some (NdO P w n.e (n.lv.map Leaf.ent)) ∧ H0 n.e = none
  lf : ∀ n ∈ T, ∀ f ∈ n.lv, H f.k = some (.tup (f.rest.map iN)) ∧ H f.l = some (.lst (f.ns.map iN)) ∧ H0 f.l = none
  es : (T.map Node.e).Nodup
  ls : ((T.flatMap Node.lv).map Leaf.l).Nodup
  rs : (T.map Node.road).Nodup
  hs : ∀ n ∈ T, (n.lv.map Leaf.rest).Nodup
section
variable {H0 H : Hp} {d : Addr} {T : List Node}
theorem extN_at {H H' : Hp} {D : Addr} {u v : HO} (e : ExtN H H') (hD : H D = none) (h : H' D = some u) : ExtN H (upd H' D v) := fun b o eb n => by
  rw [upd_ne (ne_of_none eb hD)]
  exact e b o eb n
theorem Rep.same {H' : Hp} (r : Rep P w H0 H d T) (e : Same H H') : Rep P w H0 H' d T :=
  ⟨r.ext.trans e, r.d0, e _ _ r.dk, fun n hn => ⟨e _ _ (r.nd n hn).1, (r.nd n hn).2⟩, fun n hn f hf => let ⟨a, b, c⟩ := r.lf n hn f hf; ⟨e _ _ a, e _ _ b, c⟩, r.es, r.ls, r.rs, r.hs⟩
theorem Rep.extN {H' : Hp} (r : Rep P w H0 H d T) (e : ExtN H H') : Rep P w (fun _ => Option.none) H' d T :=
  ⟨(fun _ _ z => nomatch z), rfl, e _ _ r.dk (fun _ z => by cases z), fun n hn => ⟨e _ _ (r.nd n hn).1 (fun _ z => by unfold NdO at z; cases z), rfl⟩, fun n hn f hf => let ⟨a, b, c⟩ := r.lf n hn f hf; ⟨e _ _ a (fun _ z => by cases z), e _ _ b (fun _ z => by cases z), rfl⟩, r.es, r.ls, r.rs, r.hs⟩
theorem Rep.keys (r : Rep P w H0 H d T) {n : Node} (hn : n ∈ T) : NKs K H (n.lv.map Leaf.ent) := by
  intro x hx
  obtain ⟨f, hf, rfl⟩ := List.mem_map.mp hx
  have h := (r.lf n hn f hf).1
  refine ⟨?_, ?_⟩
  · show Dp K H (.ref f.k) (KInts (nI f.rest)).data
    rw [kints_data]
    exact (td_way h).dp
  · show (KInts (nI f.rest)).depth ≤ 8
    rw [kints_depth]; decide
theorem ndO_ne {P : Program} {w : World} {a : Addr} {xs : List NEnt} {o : HO} (h : ∀ φ, o ≠ .ext φ) : NdO P w a xs ≠ o := fun z => h _ z.symm
theorem valV_kv {T : List Node} {r : Nat} {v : V} (h : valV (T.map Node.kv) (Sum.inl (r : Int)) = some v) : ∃ n ∈ T, n.road = r ∧ v = .ref n.e := by
  unfold valV at h
  obtain ⟨x, hx, e⟩ := Option.map_eq_some_iff.mp h
  obtain ⟨n, hn, e2⟩ := List.mem_map.mp (List.mem_of_find?_eq_some hx)
  have h3 : x.1 = Sum.inl (r : Int) := by simpa using List.find?_some hx
  refine ⟨n, hn, ?_, by rw [← e, ← e2]; rfl⟩
  rw [← e2] at h3
  have h4 : (n.road : Int) = (r : Int) := Sum.inl.inj h3
  omega
theorem valV_kv_none {T : List Node} {r : Nat} (h : valV (T.map Node.kv) (Sum.inl (r : Int)) = none) : r ∉ T.map Node.road := by
  intro z
  obtain ⟨n, hn, e⟩ := List.mem_map.mp z
  unfold valV at h
  have h := List.find?_eq_none.mp (Option.map_eq_none_iff.mp h) _ (List.mem_map.mpr ⟨n, hn, rfl⟩)
  refine h ?_
  simp only [decide_eq_true_eq]
  show (Sum.inl (n.road : Int) : Key) = Sum.inl (r : Int)
  rw [e]
theorem nI_inj {a b : List Nat} (h : nI a = nI b) : a = b := by
  have := congrArg (List.map Int.toNat) h
  unfold nI at this
  rw [List.map_map, List.map_map] at this
  have e : (Int.toNat ∘ Int.ofNat) = id := by funext n; rfl
  rw [e, List.map_id, List.map_id] at this
  exact this
theorem kInts_inj {a b : List Nat} (h : KInts (nI a) = KInts (nI b)) : a = b := by
  have h2 := congrArg NestedKey.data h
  rw [kints_data, kints_data] at h2
  have h3 : (nI a).map PyData.int = (nI b).map PyData.int := PyData.tuple.inj h2
  have : ∀ {x y : List Int}, x.map PyData.int = y.map PyData.int → x = y := by
    intro x
    induction x with
    | nil => intro y h; cases y with
      | nil => rfl
      | cons _ _ => cases h
    | cons p x ih => intro y h; cases y with
      | nil => cases h
      | cons q y =>
        rw [List.map_cons, List.map_cons] at h
        injection h with h1 h2
        injection h1 with h1
        rw [h1, ih h2]
  exact nI_inj (this h3)
theorem atN_ent {lv : List Leaf} {ρ : List Nat} {v : V} (h : atN (lv.map Leaf.ent) (KInts (nI ρ)) = some v) : ∃ f ∈ lv, f.rest = ρ ∧ v = .ref f.l := by
  obtain ⟨b, hb⟩ := atN_mem h
  obtain ⟨f, hf, e⟩ := List.mem_map.mp hb
  injection e with e1 e2
  injection e2 with e2 e3
  exact ⟨f, hf, kInts_inj e1, e3.symm⟩
theorem atN_ent_none {lv : List Leaf} {ρ : List Nat} (h : atN (lv.map Leaf.ent) (KInts (nI ρ)) = none) : ρ ∉ lv.map Leaf.rest := by
  intro z
  obtain ⟨f, hf, e⟩ := List.mem_map.mp z
  unfold atN at h
  have h := List.find?_eq_none.mp (Option.map_eq_none_iff.mp h) _ (List.mem_map.mpr ⟨f, hf, rfl⟩)
  refine h ?_
  simp only [decide_eq_true_eq]
  show KInts (nI f.rest) = KInts (nI ρ)
  rw [e]
theorem putN_none {xs : List NEnt} {k : NestedKey} {a : Addr} {v : V} (h : atN xs k = none) : putN xs k a v = xs ++ [(k, a, v)] := by
  unfold putN
  rw [h]
  rfl
/-- a road that is new -/
theorem Rep.addNode {r : Nat} {e0 : Addr} (R : Rep P w H0 H d T) (he : H e0 = some (NdO P w e0 [])) (h0 : H0 e0 = none) (hn : e0 ∉ T.map Node.e) (hr : r ∉ T.map Node.road) :
    Rep P w H0 (upd H d (.dK (T.map Node.kv ++ [(Sum.inl (r : Int), .ref e0)]))) d (T ++ [⟨r, e0, []⟩]) := by
  have ne : ∀ {b : Addr} {o : HO}, H b = some o → (∀ kvs, o ≠ .dK kvs) → b ≠ d := fun h1 h2 => ne_of h1 R.dk (h2 _)
  refine ⟨same_at R.ext R.d0 R.dk, R.d0, by rw [upd_same, List.map_append]; rfl, fun n hn' => ?_, fun n hn' f hf => ?_, ?_, ?_, ?_, fun n hn' => ?_⟩
  · rcases List.mem_append.mp hn' with h | h
    · obtain ⟨a, b⟩ := R.nd n h
      exact ⟨by rw [upd_ne (ne a (fun kvs z => by cases z))]; exact a, b⟩
    · rw [List.mem_singleton.mp h]
      exact ⟨by rw [upd_ne (ne he (fun kvs z => by cases z))]; exact he, h0⟩
  · rcases List.mem_append.mp hn' with h | h
    · obtain ⟨a, b, c⟩ := R.lf n h f hf
      exact ⟨by rw [upd_ne (ne a (fun kvs z => by cases z))]; exact a, by rw [upd_ne (ne b (fun kvs z => by cases z))]; exact b, c⟩
    · rw [List.mem_singleton.mp h] at hf
      exact nomatch hf
  · rw [List.map_append, List.nodup_append]
    exact ⟨R.es, by simp, fun a ha b hb => by rw [show b = e0 by simpa using hb]; exact fun z => hn (z ▸ ha)⟩
  · rw [List.flatMap_append]
    simpa using R.ls
  · rw [List.map_append, List.nodup_append]
    exact ⟨R.rs, by simp, fun a ha b hb => by rw [show b = r by simpa using hb]; exact fun z => hr (z ▸ ha)⟩
  · rcases List.mem_append.mp hn' with h | h
    · exact R.hs n h
    · rw [List.mem_singleton.mp h]
      exact List.nodup_nil
/-- a rest that is new under its road -/
theorem Rep.addLeaf {T1 T2 : List Node} {n : Node} {ρ : List Nat} {k l0 : Addr} (R : Rep P w H0 H d (T1 ++ n :: T2)) (hl : H l0 = some (.lst [])) (h0 : H0 l0 = none) (hk : H k = some (.tup (ρ.map iN))) (hn : l0 ∉ (((T1 ++ n :: T2).flatMap Node.lv).map Leaf.l)) (hr : ρ ∉ n.lv.map Leaf.rest) :
    Rep P w H0 (upd H n.e (NdO P w n.e (n.lv.map Leaf.ent ++ [(KInts (nI ρ), k, .ref l0)]))) d (T1 ++ ⟨n.road, n.e, n.lv ++ [(⟨ρ, k, l0, []⟩ : Leaf)]⟩ :: T2) := by
  have hm : n ∈ T1 ++ n :: T2 := List.mem_append_right _ (List.mem_cons_self ..)
  obtain ⟨he, he0⟩ := R.nd n hm
  have ne : ∀ {b : Addr} {o : HO}, H b = some o → (∀ φ, o ≠ .ext φ) → b ≠ n.e := fun h1 h2 => ne_of h1 he (h2 _)
  have es := R.es
  rw [List.map_append, List.map_cons] at es
  obtain ⟨e1, e2, e3⟩ := List.nodup_append.mp es
  have oth : ∀ m : Node, m ∈ T1 ∨ m ∈ T2 → m.e ≠ n.e := fun m hm => by
    rcases hm with h | h
    · exact e3 _ (List.mem_map.mpr ⟨m, h, rfl⟩) _ (List.mem_cons_self ..)
    · exact fun z => (List.nodup_cons.mp e2).1 (z ▸ List.mem_map.mpr ⟨m, h, rfl⟩)
  have old : ∀ m : Node, m ∈ T1 ∨ m ∈ T2 → m ∈ T1 ++ n :: T2 := fun m hm => by
    rcases hm with h | h
    · exact List.mem_append_left _ h
    · exact List.mem_append_right _ (List.mem_cons_of_mem _ h)
  have mem : ∀ {m : Node}, m ∈ T1 ++ ⟨n.road, n.e, n.lv ++ [(⟨ρ, k, l0, []⟩ : Leaf)]⟩ :: T2 → (m ∈ T1 ∨ m ∈ T2) ∨ m = ⟨n.road, n.e, n.lv ++ [(⟨ρ, k, l0, []⟩ : Leaf)]⟩ := fun h => by
    rcases List.mem_append.mp h with h | h
    · exact .inl (.inl h)
    · rcases List.mem_cons.mp h with h | h
      · exact .inr h
      · exact .inl (.inr h)
  have leaf : ∀ f : Leaf, H f.k = some (.tup (f.rest.map iN)) ∧ H f.l = some (.lst (f.ns.map iN)) ∧ H0 f.l = none → upd H n.e (NdO P w n.e (n.lv.map Leaf.ent ++ [(KInts (nI ρ), k, .ref l0)])) f.k = some (.tup (f.rest.map iN)) ∧ upd H n.e (NdO P w n.e (n.lv.map Leaf.ent ++ [(KInts (nI ρ), k, .ref l0)])) f.l = some (.lst (f.ns.map iN)) ∧ H0 f.l = none := fun f ⟨a, b, c⟩ =>
    ⟨by rw [upd_ne (ne a (fun φ z => by cases z))]; exact a, by rw [upd_ne (ne b (fun φ z => by cases z))]; exact b, c⟩
  refine ⟨same_at R.ext he0 he, R.d0, ?_, fun m hm' => ?_, fun m hm' f hf => ?_, ?_, ?_, ?_, fun m hm' => ?_⟩
  · rw [upd_ne (ne R.dk (fun φ z => by cases z)), R.dk, List.map_append, List.map_append, List.map_cons, List.map_cons]
    rfl
  · rcases mem hm' with h | h
    · obtain ⟨a, b⟩ := R.nd m (old m h)
      exact ⟨by rw [upd_ne (oth m h)]; exact a, b⟩
    · rw [h]
      refine ⟨?_, he0⟩
      show upd H n.e _ n.e = _
      rw [upd_same, List.map_append]
      rfl
  · rcases mem hm' with h | h
    · exact leaf f (R.lf m (old m h) f hf)
    · rw [h] at hf
      rcases List.mem_append.mp hf with hf | hf
      · exact leaf f (R.lf n hm f hf)
      · rw [List.mem_singleton.mp hf]
        exact leaf (⟨ρ, k, l0, []⟩ : Leaf) ⟨hk, hl, h0⟩
  · rw [List.map_append, List.map_cons]; exact es
  · have ls := R.ls
    rw [List.flatMap_append, List.flatMap_cons] at ls hn ⊢
    have hp : ((T1.flatMap Node.lv) ++ ((n.lv ++ [(⟨ρ, k, l0, []⟩ : Leaf)]) ++ T2.flatMap Node.lv)).Perm ((⟨ρ, k, l0, []⟩ : Leaf) :: (T1.flatMap Node.lv ++ (n.lv ++ T2.flatMap Node.lv))) := by
      rw [List.append_assoc, ← List.append_assoc, List.singleton_append]
      refine List.perm_middle.trans ?_
      rw [List.append_assoc]
    refine (hp.map Leaf.l).nodup_iff.mpr ?_
    rw [List.map_cons]
    exact List.nodup_cons.mpr ⟨hn, ls⟩
  · have rs := R.rs
    rw [List.map_append, List.map_cons] at rs ⊢
    exact rs
  · rcases mem hm' with h | h
    · exact R.hs m (old m h)
    · rw [h]
      show ((n.lv ++ [(⟨ρ, k, l0, []⟩ : Leaf)]).map Leaf.rest).Nodup
      rw [List.map_append, List.nodup_append]
      exact ⟨R.hs n hm, by simp, fun a ha b hb => by rw [show b = ρ by simpa using hb]; exact fun z => hr (z ▸ ha)⟩
/-- a number put to its leaf -/
theorem Rep.push {T1 T2 : List Node} {n : Node} {L1 L2 : List Leaf} {f : Leaf} {i : Nat} (R : Rep P w H0 H d (T1 ++ n :: T2)) (hf : n.lv = L1 ++ f :: L2) :
    Rep P w H0 (upd H f.l (.lst (f.ns.map iN ++ [iN i]))) d (T1 ++ ⟨n.road, n.e, L1 ++ ⟨f.rest, f.k, f.l, f.ns ++ [i]⟩ :: L2⟩ :: T2) := by
  have hm : n ∈ T1 ++ n :: T2 := List.mem_append_right _ (List.mem_cons_self ..)
  have hfm : f ∈ n.lv := by rw [hf]; exact List.mem_append_right _ (List.mem_cons_self ..)
  obtain ⟨fk, fl, f0⟩ := R.lf n hm f hfm
  have ne : ∀ {b : Addr} {o : HO}, H b = some o → (∀ xs, o ≠ .lst xs) → b ≠ f.l := fun h1 h2 => ne_of h1 fl (h2 _)
  have ls := R.ls
  rw [List.flatMap_append, List.flatMap_cons, hf] at ls
  have hp : (T1.flatMap Node.lv ++ (L1 ++ f :: L2 ++ T2.flatMap Node.lv)).Perm (f :: (T1.flatMap Node.lv ++ (L1 ++ L2 ++ T2.flatMap Node.lv))) := by
    rw [List.append_assoc, List.cons_append, ← List.append_assoc]
    refine List.perm_middle.trans ?_
    rw [List.append_assoc, List.append_assoc]
  have ls2 := (hp.map Leaf.l).nodup_iff.mp ls
  rw [List.map_cons] at ls2
  have oth : ∀ g : Leaf, g ∈ T1.flatMap Node.lv ++ (L1 ++ L2 ++ T2.flatMap Node.lv) → g.l ≠ f.l := fun g hg z => (List.nodup_cons.mp ls2).1 (z ▸ List.mem_map.mpr ⟨g, hg, rfl⟩)
  have mem : ∀ {m : Node}, m ∈ T1 ++ ⟨n.road, n.e, L1 ++ ⟨f.rest, f.k, f.l, f.ns ++ [i]⟩ :: L2⟩ :: T2 → (m ∈ T1 ∨ m ∈ T2) ∨ m = ⟨n.road, n.e, L1 ++ ⟨f.rest, f.k, f.l, f.ns ++ [i]⟩ :: L2⟩ := fun h => by
    rcases List.mem_append.mp h with h | h
    · exact .inl (.inl h)
    · rcases List.mem_cons.mp h with h | h
      · exact .inr h
      · exact .inl (.inr h)
  have old : ∀ m : Node, m ∈ T1 ∨ m ∈ T2 → m ∈ T1 ++ n :: T2 := fun m hm => by
    rcases hm with h | h
    · exact List.mem_append_left _ h
    · exact List.mem_append_right _ (List.mem_cons_of_mem _ h)
  have leaf : ∀ g : Leaf, g.l ≠ f.l → H g.k = some (.tup (g.rest.map iN)) ∧ H g.l = some (.lst (g.ns.map iN)) ∧ H0 g.l = none → upd H f.l (.lst (f.ns.map iN ++ [iN i])) g.k = some (.tup (g.rest.map iN)) ∧ upd H f.l (.lst (f.ns.map iN ++ [iN i])) g.l = some (.lst (g.ns.map iN)) ∧ H0 g.l = none := fun g hg ⟨a, b, c⟩ =>
    ⟨by rw [upd_ne (ne a (fun φ z => by cases z))]; exact a, by rw [upd_ne hg]; exact b, c⟩
  have es := R.es
  have entn : (L1 ++ ⟨f.rest, f.k, f.l, f.ns ++ [i]⟩ :: L2).map Leaf.ent = n.lv.map Leaf.ent := by
    rw [hf, List.map_append, List.map_append, List.map_cons, List.map_cons]
    rfl
  refine ⟨same_at R.ext f0 fl, R.d0, ?_, fun m hm' => ?_, fun m hm' g hg => ?_, ?_, ?_, ?_, fun m hm' => ?_⟩
  · rw [upd_ne (ne R.dk (fun φ z => by cases z)), R.dk, List.map_append, List.map_append, List.map_cons, List.map_cons]
    rfl
  · rcases mem hm' with h | h
    · obtain ⟨a, b⟩ := R.nd m (old m h)
      exact ⟨by rw [upd_ne (ne a (fun φ z => by cases z))]; exact a, b⟩
    · rw [h]
      obtain ⟨a, b⟩ := R.nd n hm
      refine ⟨?_, b⟩
      show upd H f.l _ n.e = some (NdO P w n.e ((L1 ++ ⟨f.rest, f.k, f.l, f.ns ++ [i]⟩ :: L2).map Leaf.ent))
      rw [upd_ne (ne a (fun φ z => by cases z)), entn]
      exact a
  · rcases mem hm' with h | h
    · refine leaf g (oth g ?_) (R.lf m (old m h) g hg)
      rcases h with h | h
      · exact List.mem_append_left _ (List.mem_flatMap.mpr ⟨m, h, hg⟩)
      · exact List.mem_append_right _ (List.mem_append_right _ (List.mem_flatMap.mpr ⟨m, h, hg⟩))
    · rw [h] at hg
      have hg : g ∈ L1 ++ ⟨f.rest, f.k, f.l, f.ns ++ [i]⟩ :: L2 := hg
      rcases List.mem_append.mp hg with h2 | h2
      · exact leaf g (oth g (List.mem_append_right _ (List.mem_append_left _ (List.mem_append_left _ h2)))) (R.lf n hm g (by rw [hf]; exact List.mem_append_left _ h2))
      · rcases List.mem_cons.mp h2 with h2 | h2
        · rw [h2]
          refine ⟨by rw [upd_ne (ne fk (fun φ z => by cases z))]; exact fk, ?_, f0⟩
          show upd H f.l _ f.l = _
          rw [upd_same, List.map_append]
          rfl
        · exact leaf g (oth g (List.mem_append_right _ (List.mem_append_left _ (List.mem_append_right _ h2)))) (R.lf n hm g (by rw [hf]; exact List.mem_append_right _ (List.mem_cons_of_mem _ h2)))
  · rw [List.map_append, List.map_cons] at es ⊢
    exact es
  · have e : ((T1 ++ ⟨n.road, n.e, L1 ++ ⟨f.rest, f.k, f.l, f.ns ++ [i]⟩ :: L2⟩ :: T2).flatMap Node.lv).map Leaf.l = (T1.flatMap Node.lv ++ (L1 ++ f :: L2 ++ T2.flatMap Node.lv)).map Leaf.l := by
      rw [List.flatMap_append, List.flatMap_cons]
      simp only [List.map_append, List.map_cons]
    rw [e]; exact ls
  · have rs := R.rs
    rw [List.map_append, List.map_cons] at rs ⊢
    exact rs
  · rcases mem hm' with h | h
    · exact R.hs m (old m h)
    · rw [h]
      have hh := R.hs n hm
      rw [hf] at hh
      show ((L1 ++ ⟨f.rest, f.k, f.l, f.ns ++ [i]⟩ :: L2).map Leaf.rest).Nodup
      rw [List.map_append, List.map_cons] at hh ⊢
      exact hh
end
end
end Hc
end

section
set_option Elab.async false
set_option linter.all false
set_option maxRecDepth 100000
set_option maxHeartbeats 4000000
namespace Hc
open PySem PySem.Spec PyProof.Rows L2 HcR LamX
section
variable {P : Program} {w : World} {K : PySem.W.Frag} {mg : Str → Option Value} {base : Heap}

/-- what the tree holds, in plain words: the waiting numbers below i -/
structure TG (S : List Lt) (t : Int) (i a b : Nat) (T : List Node) : Prop where
  perm : (T.flatMap fun n => n.lv.flatMap Leaf.ns).Perm ((List.range i).filter fun j => decide ((atS S j).ready ≤ t))
  at_ : ∀ n ∈ T, ∀ f ∈ n.lv, f.rest.head? = some n.road ∧ ∀ j ∈ f.ns, (atS S j).rest = f.rest
  few : T.length ≤ a ∧ (T.flatMap Node.lv).length ≤ b
  lt : ∀ n ∈ T, n.road < 5
theorem TG.mono {S : List Lt} {t : Int} {i a b a' b' : Nat} {T : List Node} (h : TG S t i a b T) (ha : a ≤ a') (hb : b ≤ b') : TG S t i a' b' T := ⟨h.perm, h.at_, ⟨Nat.le_trans h.few.1 ha, Nat.le_trans h.few.2 hb⟩, h.lt⟩
theorem TG.skip {S : List Lt} {t : Int} {i a b : Nat} {T : List Node} (h : TG S t i a b T) (hn : ¬ (atS S i).ready ≤ t) : TG S t (i + 1) a b T := by
  refine ⟨?_, h.at_, h.few, h.lt⟩
  rw [List.range_succ, List.filter_append]
  have e : ([i].filter fun j => decide ((atS S j).ready ≤ t)) = [] := by
    rw [List.filter_cons_of_neg (by simpa using hn)]; rfl
  rw [e, List.append_nil]
  exact h.perm
theorem TG.addNode {S : List Lt} {t : Int} {i a b r : Nat} {e0 : Addr} {T : List Node} (h : TG S t i a b T) (h5 : r < 5) : TG S t i (a + 1) b (T ++ [⟨r, e0, []⟩]) := by
  refine ⟨?_, fun n hn f hf => ?_, ⟨?_, ?_⟩, fun n hn => ?_⟩
  · rw [List.flatMap_append]
    simpa using h.perm
  · rcases List.mem_append.mp hn with hn | hn
    · exact h.at_ n hn f hf
    · rw [List.mem_singleton.mp hn] at hf
      exact nomatch hf
  · rw [List.length_append]
    have := h.few.1
    simp; omega
  · rw [List.flatMap_append]
    simpa using h.few.2
  · rcases List.mem_append.mp hn with hn | hn
    · exact h.lt n hn
    · rw [List.mem_singleton.mp hn]; exact h5
theorem TG.addLeaf {S : List Lt} {t : Int} {i a b : Nat} {T1 T2 : List Node} {n : Node} {ρ : List Nat} {k l0 : Addr} (h : TG S t i a b (T1 ++ n :: T2)) (hr : ρ.head? = some n.road) :
    TG S t i a (b + 1) (T1 ++ ⟨n.road, n.e, n.lv ++ [(⟨ρ, k, l0, []⟩ : Leaf)]⟩ :: T2) := by
  refine ⟨?_, fun m hm f hf => ?_, ⟨?_, ?_⟩, fun m hm => ?_⟩
  · have e : (T1 ++ (⟨n.road, n.e, n.lv ++ [(⟨ρ, k, l0, []⟩ : Leaf)]⟩ : Node) :: T2).flatMap (fun n => n.lv.flatMap Leaf.ns) = (T1 ++ n :: T2).flatMap (fun n => n.lv.flatMap Leaf.ns) := by
      rw [List.flatMap_append, List.flatMap_append, List.flatMap_cons, List.flatMap_cons]
      simp
    rw [e]; exact h.perm
  · have hn := h.at_ n (List.mem_append_right _ (List.mem_cons_self ..))
    rcases List.mem_append.mp hm with h2 | h2
    · exact h.at_ m (List.mem_append_left _ h2) f hf
    · rcases List.mem_cons.mp h2 with h2 | h2
      · rw [h2] at hf ⊢
        rcases List.mem_append.mp hf with hf | hf
        · exact hn f hf
        · rw [List.mem_singleton.mp hf]
          exact ⟨hr, fun _ z => nomatch z⟩
      · exact h.at_ m (List.mem_append_right _ (List.mem_cons_of_mem _ h2)) f hf
  · have := h.few.1
    rw [List.length_append, List.length_cons] at this ⊢
    exact this
  · have := h.few.2
    rw [List.flatMap_append, List.flatMap_cons, List.length_append, List.length_append] at this ⊢
    rw [List.length_append]
    show _ + ((n.lv.length + 1) + _) ≤ _
    omega
  · rcases List.mem_append.mp hm with h2 | h2
    · exact h.lt m (List.mem_append_left _ h2)
    · rcases List.mem_cons.mp h2 with h2 | h2
      · rw [h2]; exact h.lt n (List.mem_append_right _ (List.mem_cons_self ..))
      · exact h.lt m (List.mem_append_right _ (List.mem_cons_of_mem _ h2))
theorem TG.push {S : List Lt} {t : Int} {i a b : Nat} {T1 T2 : List Node} {n : Node} {L1 L2 : List Leaf} {f : Leaf} (h : TG S t i a b (T1 ++ n :: T2)) (hf : n.lv = L1 ++ f :: L2) (hr : (atS S i).rest = f.rest) (hi : (atS S i).ready ≤ t) :
    TG S t (i + 1) a b (T1 ++ ⟨n.road, n.e, L1 ++ ⟨f.rest, f.k, f.l, f.ns ++ [i]⟩ :: L2⟩ :: T2) := by
  have hn := h.at_ n (List.mem_append_right _ (List.mem_cons_self ..))
  refine ⟨?_, fun m hm g hg => ?_, ⟨?_, ?_⟩, fun m hm => ?_⟩
  · rw [List.range_succ, List.filter_append]
    have e : ([i].filter fun j => decide ((atS S j).ready ≤ t)) = [i] := by
      rw [List.filter_cons_of_pos (by simpa using hi)]; rfl
    rw [e]
    have hp := h.perm
    rw [List.flatMap_append, List.flatMap_cons, hf, List.flatMap_append, List.flatMap_cons] at hp
    refine List.Perm.trans ?_ (hp.append_right [i])
    rw [List.flatMap_append, List.flatMap_cons, List.flatMap_append, List.flatMap_cons]
    simp only [List.append_assoc]
    refine List.Perm.append_left _ (List.Perm.append_left _ (List.Perm.append_left _ ?_))
    rw [← List.append_assoc (List.flatMap Leaf.ns L2)]
    exact List.perm_append_comm
  · rcases List.mem_append.mp hm with h2 | h2
    · exact h.at_ m (List.mem_append_left _ h2) g hg
    · rcases List.mem_cons.mp h2 with h2 | h2
      · rw [h2] at hg ⊢
        have hg : g ∈ L1 ++ ⟨f.rest, f.k, f.l, f.ns ++ [i]⟩ :: L2 := hg
        rw [hf] at hn
        rcases List.mem_append.mp hg with hg | hg
        · exact hn g (List.mem_append_left _ hg)
        · rcases List.mem_cons.mp hg with hg | hg
          · rw [hg]
            obtain ⟨x, y⟩ := hn f (List.mem_append_right _ (List.mem_cons_self ..))
            refine ⟨x, fun j hj => ?_⟩
            rcases List.mem_append.mp hj with hj | hj
            · exact y j hj
            · rw [List.mem_singleton.mp hj]; exact hr
          · exact hn g (List.mem_append_right _ (List.mem_cons_of_mem _ hg))
      · exact h.at_ m (List.mem_append_right _ (List.mem_cons_of_mem _ h2)) g hg
  · have := h.few.1
    rw [List.length_append, List.length_cons] at this ⊢
    exact this
  · have := h.few.2
    rw [List.flatMap_append, List.flatMap_cons, List.length_append, List.length_append, hf, List.length_append, List.length_cons] at this
    rw [List.flatMap_append, List.flatMap_cons, List.length_append, List.length_append]
    show _ + ((L1 ++ _ :: L2).length + _) ≤ _
    rw [List.length_append, List.length_cons]
    exact this
  · rcases List.mem_append.mp hm with h2 | h2
    · exact h.lt m (List.mem_append_left _ h2)
    · rcases List.mem_cons.mp h2 with h2 | h2
      · rw [h2]; exact h.lt n (List.mem_append_right _ (List.mem_cons_self ..))
      · exact h.lt m (List.mem_append_right _ (List.mem_cons_of_mem _ h2))
/-- a leaf's numbers are few -/
theorem TG.len {S : List Lt} {t : Int} {i a b : Nat} {T : List Node} (h : TG S t i a b T) {n : Node} {f : Leaf} (hn : n ∈ T) (hf : f ∈ n.lv) : f.ns.length ≤ i := by
  have h1 := h.perm.length_eq
  have h2 : ((List.range i).filter fun j => decide ((atS S j).ready ≤ t)).length ≤ i := Nat.le_trans (List.length_filter_le _ _) (by rw [List.length_range]; exact Nat.le_refl _)
  obtain ⟨T1, T2, rfl⟩ := List.append_of_mem hn
  obtain ⟨L1, L2, e⟩ := List.append_of_mem hf
  rw [List.flatMap_append, List.flatMap_cons, e, List.flatMap_append, List.flatMap_cons] at h1
  simp only [List.length_append] at h1
  omega
/-! ### from the tree to the groups -/
def GOne (S : List Lt) (f : Leaf) (g : List Nat) : Prop := g.Perm f.ns ∧ g.Pairwise fun i j => (atS S i).limit ≤ (atS S j).limit
def GNode (S : List Lt) (n : Node) (p : Nat × List (List Nat)) : Prop := p.1 = n.road ∧ ∃ lv', lv'.Perm n.lv ∧ Paired (GOne S) lv' p.2
theorem paired_flat {α β : Type} {R : α → β → Prop} {f : α → List Nat} {g : β → List Nat} (h : ∀ a b, R a b → (g b).Perm (f a)) {xs : List α} {ys : List β} (p : Paired R xs ys) : (ys.flatMap g).Perm (xs.flatMap f) := by
  induction p with
  | nil => exact .refl _
  | cons r _ ih =>
    rw [List.flatMap_cons, List.flatMap_cons]
    exact (h _ _ r).append ih
theorem paired_mem {α β : Type} {R : α → β → Prop} {xs : List α} {ys : List β} (p : Paired R xs ys) : ∀ y ∈ ys, ∃ x ∈ xs, R x y := by
  induction p with
  | nil => exact fun _ z => nomatch z
  | @cons a b as bs r _ ih =>
    intro y hy
    rcases List.mem_cons.mp hy with e | hy
    · rw [e]; exact ⟨a, List.mem_cons_self .., r⟩
    · obtain ⟨x, hx, q⟩ := ih y hy
      exact ⟨x, List.mem_cons_of_mem _ hx, q⟩
theorem paired_road {S : List Lt} {T : List Node} {gr : List (Nat × List (List Nat))} (h : Paired (GNode S) T gr) : gr.map (·.1) = T.map Node.road := by
  induction h with
  | nil => rfl
  | cons r _ ih => rw [List.map_cons, List.map_cons, r.1, ih]
theorem GNode.flat {S : List Lt} {n : Node} {p : Nat × List (List Nat)} (h : GNode S n p) : p.2.flatten.Perm (n.lv.flatMap Leaf.ns) := by
  obtain ⟨_, lv', hp, hg⟩ := h
  have h1 := paired_flat (g := fun g : List Nat => g) (f := Leaf.ns) (fun a b r => r.1) hg
  have e : p.2.flatMap (fun g : List Nat => g) = p.2.flatten := by rw [List.flatMap_def]; simp
  rw [e] at h1
  exact h1.trans (hp.flatMap_right _)
theorem grp_of {S : List Lt} {t : Int} {a b : Nat} {T T' : List Node} {gr : List (Nat × List (List Nat))} (h : TG S t S.length a b T) (hp : T'.Perm T) (hr : (T.map Node.road).Nodup) (hg : Paired (GNode S) T' gr) : Grp S t gr := by
  have hm : ∀ p ∈ gr, ∃ n ∈ T, GNode S n p := fun p hpp => by
    obtain ⟨n, hn, q⟩ := paired_mem hg p hpp
    exact ⟨n, hp.mem_iff.mp hn, q⟩
  have hl : ∀ p ∈ gr, ∀ g ∈ p.2, ∃ n ∈ T, ∃ f ∈ n.lv, p.1 = n.road ∧ GOne S f g := fun p hpp g hgg => by
    obtain ⟨n, hn, e, lv', hp', q⟩ := hm p hpp
    obtain ⟨f, hf, r⟩ := paired_mem q g hgg
    exact ⟨n, hn, f, hp'.mem_iff.mp hf, e, r⟩
  refine ⟨?_, fun p hpp g hgg i hi => ?_, fun p hpp g hgg i hi j hj => ?_, fun p hpp g hgg => ?_, ?_⟩
  · exact (paired_flat (f := fun n => n.lv.flatMap Leaf.ns) (fun n p q => q.flat) hg).trans ((hp.flatMap_right _).trans h.perm)
  · obtain ⟨n, hn, f, hf, e, r⟩ := hl p hpp g hgg
    obtain ⟨x, y⟩ := h.at_ n hn f hf
    rw [y i (r.1.mem_iff.mp hi), e]; exact x
  · obtain ⟨n, hn, f, hf, e, r⟩ := hl p hpp g hgg
    obtain ⟨x, y⟩ := h.at_ n hn f hf
    rw [y i (r.1.mem_iff.mp hi), y j (r.1.mem_iff.mp hj)]
  · obtain ⟨n, hn, f, hf, e, r⟩ := hl p hpp g hgg
    exact r.2
  · have e : gr.map (·.1) = T'.map Node.road := paired_road hg
    rw [e]
    exact (hp.map Node.road).nodup_iff.mpr hr
end
end Hc
end

section
set_option Elab.async false
set_option linter.all false
set_option maxRecDepth 100000
set_option maxHeartbeats 4000000
namespace Hc
open PySem PySem.Spec PyProof.Rows L2 HcR LamX
section
variable {P : Program} {w : World} {K : PySem.W.Frag} {mg : Str → Option Value} {base : Heap}

theorem ngetK {X : Cx} {o i : Expr} {pos : Pos} {td ty : TE} (hP : X.prog = P) (hw : X.w = w) (hK : X.K = K) (hu : X.A.units + 64 < cLine) (ho : PE X o td) (hi : PE X i ty) (hs : NoSl i) : PE X (.Subscript o i pos) (tNGet P w K td ty) := by
  subst hP hw hK
  exact pe_nget hu ho hi hs
/-- the rest of the inner setdefault, its dict known -/
def nRest (P : Program) (w : World) (K : PySem.W.Frag) (ty tx : TE) (σ : L2.St) (x : V) (H1 : Hp) (Q : VK) : Prop :=
  ∃ a xs0, x = .ref a ∧ H1 a = some (NdO P w a xs0) ∧ ty σ H1 fun y H2 => tx σ H2 fun z H3 => ∃ b xs k, NAt P w K H3 x y a b xs k ∧ xs.length < sizeLine ∧ (∀ v, atN xs k = some v → Q v H3) ∧ (atN xs k = none → Q z (upd H3 a (NdO P w a (putN xs k b z))))
theorem leaf_setd {H0 H : Hp} {d c : Addr} {σ : L2.St} {S : List Lt} {t : Int} {i a b : Nat} {T : List Node} {n : Node} {ρ : List Nat} {Q : VK} (R : Rep P w H0 H d T) (G : TG S t i a b T) (hn : n ∈ T) (hb : b ≤ 900) (hc : H c = some (.tup (ρ.map iN))) (hσ : σ[5]? = some (some (.ref c))) (hr : ρ.head? = some n.road)
    (q : ∀ H' T1 T2 (m : Node) L1 L2 (f : Leaf), Rep P w H0 H' d (T1 ++ m :: T2) → TG S t i a (b + 1) (T1 ++ m :: T2) → m.lv = L1 ++ f :: L2 → f.rest = ρ → Q (.ref f.l) H') : nRest P w K (tVar 5) (tLst tNil) σ (.ref n.e) H Q := by
  refine ⟨n.e, _, rfl, (R.nd n hn).1, _, hσ, by show 0 ≤ sizeLine; exact Nat.zero_le _, fun l0 hl0 => ?_⟩
  have s1 : Same H (upd H l0 (.lst [])) := same_new hl0
  have R1 := R.same s1
  have hl1 : upd H l0 (.lst []) l0 = some (.lst []) := upd_same
  have h00 : H0 l0 = none := R.ext.free hl0
  have hc1 := s1 _ _ hc
  have nl : l0 ∉ (T.flatMap Node.lv).map Leaf.l := fun z => by
    obtain ⟨f, hf, e⟩ := List.mem_map.mp z
    obtain ⟨n', hn', hf⟩ := List.mem_flatMap.mp hf
    have h := (R.lf n' hn' f hf).2.1
    rw [e, hl0] at h
    cases h
  generalize upd H l0 (.lst []) = H1 at R1 hl1 hc1 ⊢
  obtain ⟨T1, T2, rfl⟩ := List.append_of_mem hn
  have hlv : n.lv.length ≤ b := by
    have h := G.few.2
    rw [List.flatMap_append, List.flatMap_cons, List.length_append, List.length_append] at h
    omega
  refine ⟨c, n.lv.map Leaf.ent, KInts (nI ρ), ⟨rfl, rfl, (R1.nd n hn).1, R1.keys hn, ?_, by rw [kints_depth]; decide⟩, len_line (by rw [List.length_map]; omega), fun v hv => ?_, fun hv => ?_⟩
  · rw [kints_data]; exact (td_way hc1).dp
  · obtain ⟨f, hf, e, rfl⟩ := atN_ent hv
    obtain ⟨L1, L2, hL⟩ := List.append_of_mem hf
    exact q _ T1 T2 n L1 L2 f R1 (G.mono (Nat.le_refl _) (Nat.le_succ _)) hL e
  · rw [putN_none hv]
    have R2 := R1.addLeaf hl1 h00 hc1 nl (atN_ent_none hv)
    exact q _ T1 T2 _ n.lv [] (⟨ρ, c, l0, []⟩ : Leaf) R2 (G.addLeaf hr) rfl rfl
/-- waits.setdefault(rest[0], {}).setdefault(rest, []) -/
theorem tree_setd {H0 H : Hp} {d c : Addr} {σ : L2.St} {S : List Lt} {t : Int} {i a b : Nat} {T : List Node} {r : Nat} {ρ : List Nat} {Q : VK} (R : Rep P w H0 H d T) (G : TG S t i a b T) (hb : b ≤ 900) (ha : a ≤ 900) (hc : H c = some (.tup (ρ.map iN))) (h3 : σ[3]? = some (some (.ref d))) (h5 : σ[5]? = some (some (.ref c))) (hr : ρ.head? = some r) (hr5 : r < 5)
    (q : ∀ H' T1 T2 (m : Node) L1 L2 (f : Leaf), Rep P w H0 H' d (T1 ++ m :: T2) → TG S t i (a + 1) (b + 1) (T1 ++ m :: T2) → m.lv = L1 ++ f :: L2 → f.rest = ρ → Q (.ref f.l) H') : tNSetd P w K (tDSetd (tVar 3) (tOp (rIxT K) (tVar 5) (tC (.int 0))) (tNNew P w)) (tVar 5) (tLst tNil) σ H Q := by
  show tDSetd (tVar 3) (tOp (rIxT K) (tVar 5) (tC (.int 0))) (tNNew P w) σ H fun x H1 => nRest P w K (tVar 5) (tLst tNil) σ x H1 Q
  have h0 : (ρ.map iN)[0]? = some (iN r) := by
    cases ρ with
    | nil => cases hr
    | cons x l => cases hr; rfl
  refine ⟨_, h3, d, rfl, .inl ⟨_, .inl R.dk⟩, _, h5, c, _, 0, iN r, rfl, rfl, sqT hc, atI_nat (j := 0) h0, fun e0 he0 => ?_⟩
  have s1 : Same H (upd H e0 (NdO P w e0 [])) := same_new he0
  have R1 := R.same s1
  have he1 : upd H e0 (NdO P w e0 []) e0 = some (NdO P w e0 []) := upd_same
  have h00 : H0 e0 = none := R.ext.free he0
  have hc1 := s1 _ _ hc
  have ne : e0 ∉ T.map Node.e := fun z => by
    obtain ⟨n', hn', e⟩ := List.mem_map.mp z
    have h := (R.nd n' hn').1
    rw [e, he0] at h
    cases h
  generalize upd H e0 (NdO P w e0 []) = H1 at R1 he1 hc1 ⊢
  have hlen := G.few.1
  refine ⟨_, Sum.inl (r : Int), R1.dk, rfl, len_line (by rw [List.length_map]; omega), fun v hv => ?_, fun hv => ?_⟩
  · obtain ⟨n, hn, e, rfl⟩ := valV_kv hv
    exact leaf_setd R1 (G.mono (Nat.le_succ _) (Nat.le_refl _)) hn hb hc1 h5 (by rw [e]; exact hr) q
  · rw [putK_none hv]
    have R2 := R1.addNode he1 h00 ne (valV_kv_none hv)
    refine leaf_setd (n := ⟨r, e0, []⟩) R2 (G.addNode hr5) (List.mem_append_right _ (List.mem_cons_self ..)) hb ?_ h5 hr q
    rw [upd_ne (ne_of hc1 R1.dk (fun z => by cases z))]
    exact hc1
end
end Hc
end

section
set_option Elab.async false
set_option linter.all false
set_option maxRecDepth 100000
set_option maxHeartbeats 4000000
namespace Hc
open PySem PySem.Spec PyProof.Rows L2 HcR LamX
section
variable {P : Program} {w : World} {K : PySem.W.Frag} {mg : Str → Option Value} {base : Heap}

/-- a def of the text whose code object makes lambdas: its table -/
def DefC (K : PySem.W.Frag) (mg : Str → Option Value) (base : Heap) (x : Str) (st : Stmt) (c Pt : Addr) : Prop := ∃ (f : Addr) (oc : Value) (od : Option Addr) (kV doc pm : Value) (an : Option Addr) (ct : Value) (osl : Array (Option Value)),
  K.lookup f = some ⟨oc, od, .func (PySem.W.fnOf x x (defArgs st) (defBody st) (defScope st) .none kV doc pm an (.ref c) ct), osl⟩ ∧ PySem.W.codeIn K (.ref c) x = true ∧ PySem.W.keepIn K (.ref f) = true ∧ mg x = some (.ref f) ∧ TabB base mg c Pt
/-- the lambda's full name -/
abbrev lamQ : Str := ("picks_by_road" : Str) ++ ".<locals>." ++ "<lambda>"
abbrev TbL (Pt : Addr) : List (Addr × Str) := [(Pt, lamQ)]
theorem sortKK {X : Cx} {T : List (Addr × Str)} {c P : Addr} {a n : Str} {i : Nat} {e : Expr} {te : TE} {p p0 p1 p2 p3 p4 p5 pos lpos kpos : Pos} (hK : X.K = K) (hu : X.A.depth < recursionLimit) (hg : Gl X "sorted") (hm : X.mg "sorted" = none) (he : PE X e te)
    (TB : TabB X.base X.mg c P) (hcode : X.env.code = .ref c) (hmT : (P, X.env.qual ++ "<lambda>") ∈ T) (huT : ∀ p ∈ T, p.1 = P → p.2 = X.env.qual ++ "<lambda>")
    (hN : X.N[i]? = some a) (hva : X.env.scope.names.lookup a = some .cell ∨ X.env.scope.names.lookup a = some .free) (hna : n ≠ a)
    (hbind : ∀ (q : Str) (cl : List (Str × Addr)) (pm cv ctv v : Value), bindArgs (PySem.W.kla_fn "<lambda>" q (kArgs n p) (kBody a n p1 p2 p3 p4 p5) (kScope a n) cl pm cv ctv) ⟨[v], []⟩ = pure [(n, v)])
    (d1 : (n == ("__debug__" : Str)) = false := by decide) (d2 : (a == ("__debug__" : Str)) = false := by decide) (d3 : (a == ("__classdict__" : Str)) = false := by decide)
    (hb : backTo pos (starEach [e] X.env) = (false, eval e X.env) :: backTo pos (starEach [] X.env) := by rfl) (hpl : (backTo pos (starEach [e] X.env)).any (·.1) = false := by rfl) :
    PE X (.Call (.Name "sorted" p0) [e] [⟨some "key", .Lambda (kArgs n p) (kBody a n p1 p2 p3 p4 p5) (kScope a n) lpos, kpos⟩] pos) (tSortK K T i te) := by
  subst hK
  exact pe_sortK hu hg hm he TB hcode hmT huT hN hva hna hbind d1 d2 d3 hb hpl
theorem valV_node {T : List Node} (h : (T.map Node.road).Nodup) {n : Node} (hn : n ∈ T) : valV (T.map Node.kv) (Sum.inl (n.road : Int)) = some (.ref n.e) := by
  obtain ⟨v, hv, hm⟩ := valV_at (List.mem_map.mpr ⟨n, hn, rfl⟩ : n.kv ∈ T.map Node.kv)
  obtain ⟨n', hn', e, rfl⟩ := valV_kv hv
  have : n' = n := by
    obtain ⟨i, hi, e1⟩ := List.mem_iff_getElem.mp hn
    obtain ⟨j, hj, e2⟩ := List.mem_iff_getElem.mp hn'
    have e3 : (T.map Node.road)[i]'(by simpa using hi) = (T.map Node.road)[j]'(by simpa using hj) := by
      simp only [List.getElem_map, e1, e2, e]
    have := (List.getElem_inj h).mp e3
    subst this
    rw [← e1, ← e2]
  rw [this] at hv
  exact hv
theorem atN_leaf {lv : List Leaf} (h : (lv.map Leaf.rest).Nodup) {f : Leaf} (hf : f ∈ lv) : atN (lv.map Leaf.ent) (KInts (nI f.rest)) = some (.ref f.l) := by
  cases e : atN (lv.map Leaf.ent) (KInts (nI f.rest)) with
  | none => exact absurd (List.mem_map.mpr ⟨f, hf, rfl⟩) (atN_ent_none e)
  | some v =>
    obtain ⟨f', hf', e2, rfl⟩ := atN_ent e
    have : f' = f := by
      obtain ⟨i, hi, e1⟩ := List.mem_iff_getElem.mp hf
      obtain ⟨j, hj, e4⟩ := List.mem_iff_getElem.mp hf'
      have e3 : (lv.map Leaf.rest)[i]'(by simpa using hi) = (lv.map Leaf.rest)[j]'(by simpa using hj) := by
        simp only [List.getElem_map, e1, e4, e2]
      have := (List.getElem_inj h).mp e3
      subst this
      rw [← e1, ← e4]
    rw [this]
theorem WebAt.extN {C : Addr} {H H' : Hp} {a : Addr} {W : WD} (h : WebAt C H a W) (e : ExtN H H') : WebAt C H' a W := h.keep ⟨TK.ext e, fun b C dx fs q => e _ _ q (fun _ z => by cases z)⟩
theorem SKeyed.of {H : Hp} {b : Addr} {xs : List V} {S : List Lt} (hb : H b = some (.tup xs)) (hal : TdAll H xs (S.map dLt)) {ns : List Nat} (hn : ∀ n ∈ ns, n < S.length) : SKeyed K H b ns (fun n => (atS S n).limit) := by
  refine ⟨xs, sqT hb, fun n h => ?_⟩
  have hS : S[n]? = some (atS S n) := by
    have := hn n h
    rw [List.getElem?_eq_getElem this]
    simp [atS, this]
  obtain ⟨x, hx, tx⟩ := hal.map_got' hS
  obtain ⟨c1, c2, rfl, h1, h2⟩ := td_lt tx
  exact ⟨c1, .ref c2, _, hx, sqT h1⟩
theorem Rep.updl {H0 H : Hp} {d p : Addr} {T : List Node} {xs : List V} {ys : List V} (R : Rep P w H0 H d T) (h : H p = some (.lst xs)) (hn : ∀ n ∈ T, ∀ f ∈ n.lv, f.l ≠ p) : Rep P w (fun _ => Option.none) (upd H p (.lst ys)) d T :=
  ⟨(fun _ _ z => nomatch z), rfl, by rw [upd_ne (ne_of R.dk h (fun z => by cases z))]; exact R.dk, fun n hm => ⟨by rw [upd_ne (ne_of (R.nd n hm).1 h (fun z => by unfold NdO at z; cases z))]; exact (R.nd n hm).1, rfl⟩,
    fun n hm f hf => let ⟨a, b, c⟩ := R.lf n hm f hf; ⟨by rw [upd_ne (ne_of a h (fun z => by cases z))]; exact a, by rw [upd_ne (hn n hm f hf)]; exact b, rfl⟩, R.es, R.ls, R.rs, R.hs⟩
theorem tabs_lst {T : List (Addr × Str)} {H : Hp} {D : Addr} {xs : List V} {o : HO} (t : Tabs T H) (h : H D = some (.lst xs)) : Tabs T (upd H D o) := fun p hp => by
  obtain ⟨ps, h1, h2, h3⟩ := t p hp
  refine ⟨ps, by rw [upd_ne (ne_of h1 h (fun z => by cases z))]; exact h1, h2, fun pos cv hc => ?_⟩
  obtain ⟨c, e1, e2⟩ := h3 pos cv hc
  exact ⟨c, e1, by rw [upd_ne (ne_of e2 h (fun z => by unfold CodeO at z; cases z))]; exact e2⟩
theorem Paired.snoc {α β : Type} {R : α → β → Prop} {xs : List α} {ys : List β} (h : Paired R xs ys) {x : α} {y : β} (r : R x y) : Paired R (xs ++ [x]) (ys ++ [y]) := by
  induction h with
  | nil => exact .cons r .nil
  | cons r' _ ih => exact .cons r' ih
theorem GL.snoc {H : Hp} {us : List V} {gs : List (List Nat)} (h : GL H us gs) {p : Addr} {g : List Nat} (hp : H p = some (.lst (g.map iN))) : GL H (us ++ [.ref p]) (gs ++ [g]) := by
  refine ⟨by rw [List.length_append, List.length_append, h.1]; rfl, fun i g' hg => ?_⟩
  by_cases hi : i < gs.length
  · rw [List.getElem?_append_left hi] at hg
    obtain ⟨l, h1, h2⟩ := h.2 i g' hg
    exact ⟨l, by rw [List.getElem?_append_left (by rw [h.1]; exact hi)]; exact h1, h2⟩
  · have e : i = gs.length := by
      have := (List.getElem?_eq_some_iff.mp hg).1
      rw [List.length_append] at this
      simp at this
      omega
    subst e
    rw [List.getElem?_append_right (Nat.le_refl _), Nat.sub_self] at hg
    cases hg
    exact ⟨p, by rw [List.getElem?_append_right (by rw [h.1]; exact Nat.le_refl _), h.1, Nat.sub_self]; rfl, hp⟩
theorem GL.keep {H H' : Hp} {us : List V} {gs : List (List Nat)} (h : GL H us gs) (k : ∀ l xs, V.ref l ∈ us → H l = some (.lst xs) → H' l = some (.lst xs)) : GL H' us gs :=
  ⟨h.1, fun i g hg => let ⟨l, h1, h2⟩ := h.2 i g hg; ⟨l, h1, k l _ (List.mem_of_getElem? h1) h2⟩⟩
theorem flat_sum : ∀ gs : List (List Nat), ((gs.map fun g => ((g.length : Nat) : Int)).sum) = ((gs.flatten.length : Nat) : Int)
  | [] => rfl
  | g :: gs => by
    rw [List.map_cons, List.sum_cons, flat_sum gs, List.flatten_cons, List.length_append]
    omega
variable {CW CD CS CP : Addr}
/-- the picks' lists, one a road -/
def PLs (H : Hp) (xs : List V) (pss : List (List (List Nat))) : Prop := xs.length = pss.length ∧ ∀ (i : Nat) (ps : List (List Nat)), pss[i]? = some ps → ∃ l, xs[i]? = some (.ref l) ∧ PickL H l ps
theorem PickL.keep {H H' : Hp} {l : Addr} {ps : List (List Nat)} (h : PickL H l ps) (k : TK H H') (kl : ∀ xs, H l = some (.lst xs) → H' l = some (.lst xs)) : PickL H' l ps := let ⟨xs, h1, h2⟩ := h; ⟨xs, kl _ h1, h2.keep k⟩
theorem PLs.keep {H H' : Hp} {us : List V} {pss : List (List (List Nat))} (h : PLs H us pss) (k : TK H H') (kl : ∀ l xs, V.ref l ∈ us → H l = some (.lst xs) → H' l = some (.lst xs)) : PLs H' us pss :=
  ⟨h.1, fun i ps hp => let ⟨l, h1, h2⟩ := h.2 i ps hp; ⟨l, h1, h2.keep k fun xs => kl l xs (List.mem_of_getElem? h1)⟩⟩
theorem PLs.snoc {H : Hp} {us : List V} {pss : List (List (List Nat))} (h : PLs H us pss) {p : Addr} {ps : List (List Nat)} (hp : PickL H p ps) : PLs H (us ++ [.ref p]) (pss ++ [ps]) := by
  refine ⟨by rw [List.length_append, List.length_append, h.1]; rfl, fun i g' hg => ?_⟩
  by_cases hi : i < pss.length
  · rw [List.getElem?_append_left hi] at hg
    obtain ⟨l, h1, h2⟩ := h.2 i g' hg
    exact ⟨l, by rw [List.getElem?_append_left (by rw [h.1]; exact hi)]; exact h1, h2⟩
  · have e : i = pss.length := by
      have := (List.getElem?_eq_some_iff.mp hg).1
      rw [List.length_append] at this
      simp at this
      omega
    subst e
    rw [List.getElem?_append_right (Nat.le_refl _), Nat.sub_self] at hg
    cases hg
    exact ⟨p, by rw [List.getElem?_append_right (by rw [h.1]; exact Nat.le_refl _), h.1, Nat.sub_self]; rfl, hp⟩
def spPBR (CW Pt : Addr) : Sp := fun vs H Q _ => ∃ (a : Addr) (W : WD) (x : V) (t : Int) (S : List Lt), vs = [.ref a, x, .int t] ∧ WebAt CW H a W ∧ Td H x (dSt S) ∧ GoodS S ∧ Tabs (TbL Pt) H ∧
  ∀ p H' gr xs, ExtN H H' → Tabs (TbL Pt) H' → Grp S t gr → gr.length ≤ 20 → H' p = some (.lst xs) → PLs H' xs (allPicks W.R gr) → Q (.ref p) H'
theorem ok_pbr {c0 Pt : Addr} (ev : Ev mg) (c : Cla K mg CW CD CS CP) (D : DefC K mg base "picks_by_road" s_picks_by_road c0 Pt) (hw : Has P w K mg base CX0 22 "ways_to_pick" ["groups", "many"] (spWays 21)) :
    Has P w K mg base CX0 23 "picks_by_road" ["web", "state", "tick"] (spPBR CW Pt) := by
  obtain ⟨f, oc, od, kD, doc, pm, an, ct, osl, lk, hcd, kp, gF, TB⟩ := D
  refine ⟨f, PySem.W.fnOf "picks_by_road" "picks_by_road" (defArgs s_picks_by_road) (defBody s_picks_by_road) (defScope s_picks_by_road) .none kD doc pm an (.ref c0) ct, ?_, gF, kp, .all fun us hl => match us, hl with | [_, _, _], _ => rfl⟩
  refine fn_of lk hcd sc_picks_by_road (fun vs H Q E ⟨a, W, x, t, S, e, _⟩ => by rw [e]; rfl) fun A outer s H vs Q E hr ⟨a, W, x, t, S, e, hW, hx, hg, hT, q⟩ => ?_
  subst e
  have hu := hr.units
  have hu1 := hu_of hr
  refine ⟨_, (PSs.nox (pss_cons (ps_set (i := 3) sc_picks_by_road.nd rfl (.inr rfl) pe_dnewK) (pss_cons (ps_for PassesOwn.never rfl (pi_enumT (by rfl) ev.enumerate (pa_cons (pv 1) pa_nil)) (pg_tup rfl (pgs_cons (pg_name (i := 4) sc_picks_by_road.nd rfl (.inl rfl)) (pgs_cons (pg_tup rfl (pgs_cons (pg_name (i := 5) sc_picks_by_road.nd rfl (.inl rfl)) (pgs_cons (pg_name (i := 6) sc_picks_by_road.nd rfl (.inl rfl)) (pgs_cons (pg_name (i := 7) sc_picks_by_road.nd rfl (.inl rfl)) pgs_nil)))) pgs_nil))) (pss_one (ps_if (pt_cmpR op_le (pv 6) (pv 2) (nomark _)) (pss_one (ps_expr (pe_bm PySem.F.plainAttrs_list PySem.F.slot_list_append PySem.F.type_list_append mt_append (pe_nsetd hu (pe_dsetd (pv 3) (pe_ix (ixT (K := K) rfl) (pv 5) pe_int (fun _ _ => rfl)) pe_nnew ⟨rfl, rfl, rfl, rfl⟩) (pv 5) (pe_lst pa_nil) ⟨rfl, rfl, rfl, rfl⟩) (pa_cons (pv 4) pa_nil)))) pss_nil))) (pss_cons (ps_set (i := 8) sc_picks_by_road.nd rfl (.inl rfl) (pe_lst pa_nil)) (pss_cons (ps_for PassesOwn.never rfl (pi_list (pe_callB (cr_sortedI) (by rfl) ev.sorted (by decide +kernel) (pa_cons (pe_callTy ((call_list_dK rfl)) (by rfl) ev.list (by decide +kernel) (pa_cons (pv 3) pa_nil)) pa_nil))) (pg_name (i := 9) sc_picks_by_road.nd rfl (.inr rfl)) (pss_cons (ps_setLc (i := 10) (own := [("rest", 5)]) rfl sc_picks_by_road.nd rfl rfl (sw_true rfl rfl rfl (by decide +kernel)) (pi_list (pe_callB ((cr_sortedD hu)) (by rfl) ev.sorted (by decide +kernel) (pa_cons (pe_callTy ((call_list_N rfl)) (by rfl) ev.list (by decide +kernel) (pa_cons (pe_dget hu1 (pv 3) (pv 9) (fun _ _ => rfl)) pa_nil)) pa_nil))) (blkOk_by (own := [("rest", 5)]) (N := sc_picks_by_road_N) (sc := sc_picks_by_road_S) (by decide +kernel)) (fun _ _ _ _ _ => (pg_name (i := 5) sc_picks_by_road.nd rfl (.inl rfl))) (fun _ _ _ _ _ => pts_nil) (fun _ _ _ _ _ => (sortKK (T := TbL Pt) (i := 1) (K := K) rfl hr.depth (by rfl) ev.sorted (ngetK (P := P) (w := w) (K := K) rfl rfl rfl hu (pe_dget hu1 (pv 3) (pv 9) (fun _ _ => rfl)) (pv 5) (fun _ _ => rfl)) TB rfl (List.mem_cons_self ..) (fun p hp _ => by rw [List.mem_singleton.mp hp]; rfl) rfl (.inl rfl) (by decide) (fun _ _ _ _ _ _ => rfl)))) (pss_cons (ps_set (i := 11) sc_picks_by_road.nd rfl (.inl rfl) (pe_callB ((call_min2 rfl)) (by rfl) ev.min (by decide +kernel) (pa_cons (pe_ix (ixT (K := K) rfl) (pe_fldK (K := K) rfl (pv 0) rfl) (pv 9) (fun _ _ => rfl)) (pa_cons (pe_callB ((sumK (K := K) rfl rfl)) (by rfl) ev.sum (by decide +kernel) (pa_cons (pe_lc (own := [("group", 12)]) rfl sc_picks_by_road.nd (pi_list (pv 10)) (blkOk_by (own := [("group", 12)]) (N := sc_picks_by_road_N) (sc := sc_picks_by_road_S) (by decide +kernel)) (fun _ _ _ _ _ => (pg_name (i := 12) sc_picks_by_road.nd rfl (.inl rfl))) (fun _ _ _ _ _ => pts_nil) (fun _ _ _ _ _ => (pe_callB (lenS (K := K) rfl) (by rfl) ev.len PySem.boot_len (pa_cons (pv 12) pa_nil)))) pa_nil)) pa_nil)))) (pss_one (ps_expr (pe_bm PySem.F.plainAttrs_list PySem.F.slot_list_append PySem.F.type_list_append mt_append (pv 8) (pa_cons (pe_has hw hr (by rfl) (pa_cons (pv 10) (pa_cons (pv 11) pa_nil))) pa_nil))))))) (pss_one (ps_ret (pv 8)))))))), ?_⟩
  obtain ⟨b, xs, rfl, hb, hal, hlx⟩ := td_st hx
  intro d hd
  have R0 : Rep P w H (upd H d (.dK [])) d [] := ⟨same_new hd, hd, upd_same, fun _ z => (nomatch z), fun _ z => (nomatch z), List.nodup_nil, List.nodup_nil, List.nodup_nil, fun _ z => (nomatch z)⟩
  have G0 : TG S t 0 0 0 [] := ⟨.refl _, fun _ z => (nomatch z), ⟨Nat.le_refl _, Nat.le_refl _⟩, fun _ z => (nomatch z)⟩
  refine ⟨_, rfl, b, xs, rfl, sqT (R0.ext _ _ hb), for_it walk_enumT (fun i σ H' => (∃ T, Rep P w H H' d T ∧ TG S t i i i T) ∧ ∃ v4 v5 v6 v7, σ = [some (.ref a), some (.ref b), some (.int t), some (.ref d), v4, v5, v6, v7, none, none, none, none, none]) ⟨⟨[], R0, G0⟩, _, _, _, _, rfl⟩ (fun i σ H' _ h => let ⟨T, r, _⟩ := h.1; sqT (r.ext _ _ hb)) ?_ ?_⟩
  · rintro i x σ H1 H2 hi ⟨⟨T, R1, G1⟩, v4, v5, v6, v7, rfl⟩ ⟨T0, x1, x2, rfl, hT0, rfl, e1, e2⟩
    cases e1
    replace e2 : xs[i]? = some x2 := e2
    obtain ⟨l, hl, tl⟩ := hal.map_got e2
    have R2 := R1.same (same_new (o := .tup [V.int (i : Nat), x2]) hT0)
    have hT2 : upd H1 T0 (.tup [V.int (i : Nat), x2]) T0 = some (.tup [V.int (i : Nat), x2]) := upd_same
    generalize upd H1 T0 (.tup [V.int (i : Nat), x2]) = H2 at R2 hT2
    obtain ⟨c1, c2, rfl, hc1, hc2⟩ := td_lt (tl.keep (TK.of R2.ext))
    have hgl := hg.1 l (List.mem_of_getElem? hl)
    have hiS : i < S.length := (List.getElem?_eq_some_iff.mp hl).1
    have hat : atS S i = l := by
      have := (List.getElem?_eq_some_iff.mp hl).2
      simp [atS, hiS, this]
    have i20 : i < 20 := Nat.lt_of_lt_of_le hiS hg.2
    refine ⟨T0, _, rfl, sqT hT2, rfl, _, _, rfl, _, _, rfl, c1, _, rfl, sqT hc1, rfl, _, _, rfl, _, _, rfl, _, _, rfl, rfl, rfl, ?_⟩
    refine ⟨_, rfl, _, rfl, _, _, rfl, rfl, _, rfl, ite2 (fun hc => ?_) fun hc => ?_⟩
    · have hready : (atS S i).ready ≤ t := by rw [hat]; exact of_decide_eq_true hc
      obtain ⟨r, hr1⟩ : ∃ r, l.rest.head? = some r := by
        cases e : l.rest with
        | nil => exact absurd e hgl.1
        | cons r _ => exact ⟨r, rfl⟩
      have r5 : r < 5 := hgl.2.2 r (List.mem_of_mem_head? hr1)
      refine tree_setd R2 G1 (by omega) (by omega) hc2 rfl rfl hr1 r5 fun H' T1 T2 m L1 L2 f R' G' hm hf => ?_
      have hmT : m ∈ T1 ++ m :: T2 := List.mem_append_right _ (List.mem_cons_self ..)
      have hfm : f ∈ m.lv := by rw [hm]; exact List.mem_append_right _ (List.mem_cons_self ..)
      obtain ⟨fk, fl, f0⟩ := R'.lf m hmT f hfm
      have fln := G'.len hmT hfm
      exact ⟨tyL fl, _, rfl, f.l, _, _, rfl, rfl, fl, len_line (by rw [List.length_map]; omega), ⟨_, R'.push hm, G'.push hm (by rw [hat, hf]) hready⟩, _, _, _, _, rfl⟩
    · have hready : ¬ (atS S i).ready ≤ t := by rw [hat]; exact fun z => hc (decide_eq_true z)
      exact ⟨⟨T, R2, (G1.skip hready).mono (Nat.le_succ _) (Nat.le_succ _)⟩, _, _, _, _, rfl⟩
  · rintro σ H1 ⟨⟨T, R1, G1⟩, v4, v5, v6, v7, rfl⟩
    rw [hlx] at G1
    have hS20 := hg.2
    refine ⟨by show 0 ≤ sizeLine; exact Nat.zero_le _, fun p hp => ?_⟩
    have s1 : Same H (upd H1 p (.lst [])) := same_upd R1.ext hp
    have hpH : H p = none := R1.ext.free hp
    have hfp : ∀ n ∈ T, ∀ f ∈ n.lv, f.l ≠ p := fun n hn f hf z => by
      have h := (R1.lf n hn f hf).2.1
      rw [z, hp] at h
      cases h
    have R2 := R1.same (same_new (o := .lst []) hp)
    have hp2 : upd H1 p (.lst []) p = some (.lst []) := upd_same
    generalize upd H1 p (.lst []) = H2 at R2 hp2 s1
    have ekv : (T.map Node.kv).map (fun kv => kV kv.1) = (T.map fun n => (n.road : Int)).map V.int := by
      rw [List.map_map, List.map_map]; rfl
    refine ⟨_, rfl, d, _, rfl, R2.dk, fun l1 hl1 => ?_⟩
    have s2 : Same H2 (upd H2 l1 (.lst ((T.map Node.kv).map fun kv => kV kv.1))) := same_new hl1
    have hl1' : upd H2 l1 (.lst ((T.map Node.kv).map fun kv => kV kv.1)) l1 = some (.lst ((T.map fun n => (n.road : Int)).map V.int)) := by rw [upd_same, ekv]
    generalize upd H2 l1 (.lst ((T.map Node.kv).map fun kv => kV kv.1)) = H3 at s2 hl1' ⊢
    refine ⟨l1, T.map fun n => (n.road : Int), rfl, sqL hl1', fun ns' l2 hperm _ hl2 => ?_⟩
    have s3 : Same H3 (upd H3 l2 (.lst (ns'.map V.int))) := same_new hl2
    have hl2' : upd H3 l2 (.lst (ns'.map V.int)) l2 = some (.lst (ns'.map V.int)) := upd_same
    generalize upd H3 l2 (.lst (ns'.map V.int)) = H4 at s3 hl2' ⊢
    obtain ⟨T', eT', hT'⟩ := perm_lift (fun n : Node => (n.road : Int)) hperm T rfl
    have s24 := s2.trans s3
    have n2p : l2 ≠ p := fun z => by rw [z, s2 _ _ hp2] at hl2; cases hl2
    have R4 : Rep P w (fun _ => none) H4 d T := R2.extN (ExtN.of s24)
    have T4 : Tabs (TbL Pt) H4 := hT.ext (s1.trans s24)
    have lenT : T'.length = ns'.length := by rw [← eT', List.length_map]
    have lenT2 : T'.length ≤ 20 := by rw [hT'.length_eq]; exact Nat.le_trans G1.few.1 hS20
    refine ⟨l2, rfl, ⟨_, sqL hl2'⟩, for_list (xs := ns'.map V.int) (fun k σ H' => ExtN H H' ∧ Tabs (TbL Pt) H' ∧ Rep P w (fun _ => none) H' d T ∧ H' l2 = some (.lst (ns'.map V.int)) ∧
      (∃ gr us, Paired (GNode S) (T'.take k) gr ∧ H' p = some (.lst us) ∧ V.ref p ∉ us ∧ PLs H' us (allPicks W.R gr)) ∧ ∃ v4 v5 v6 v7 v9 v10 v11, σ = [some (.ref a), some (.ref b), some (.int t), some (.ref d), v4, v5, v6, v7, some (.ref p), v9, v10, v11, none])
      ⟨ExtN.of (s1.trans s24), T4, R4, hl2', ⟨[], [], .nil, s24 _ _ hp2, (fun z => nomatch z), rfl, fun _ _ z => by simp [allPicks] at z⟩, _, _, _, _, _, _, _, rfl⟩ (fun k σ H' _ h => sqL h.2.2.2.1) ?_ ?_⟩
    · rintro k x σ H5 hx5 ⟨e5, T5, R5, l5, ⟨gr, us, hgr, hp5, np5, hpl⟩, v4, v5, v6, v7, v9, v10, v11, rfl⟩
      rw [List.getElem?_map] at hx5
      obtain ⟨rr, hrr, rfl⟩ := Option.map_eq_some_iff.mp hx5
      rw [← eT', List.getElem?_map] at hrr
      obtain ⟨n, hnk, rfl⟩ := Option.map_eq_some_iff.mp hrr
      have hnT : n ∈ T := hT'.mem_iff.mp (List.mem_of_getElem? hnk)
      have r5 := G1.lt n hnT
      have hk20 : k < 20 := by
        have := (List.getElem?_eq_some_iff.mp hnk).1
        omega
      have hval := valV_node R5.rs hnT
      have hkeys := R5.keys (K := K) hnT
      have hlvS : n.lv.length ≤ 20 := by
        obtain ⟨A1, A2, e⟩ := List.append_of_mem hnT
        have h := G1.few.2
        rw [e, List.flatMap_append, List.flatMap_cons, List.length_append, List.length_append] at h
        omega
      refine ⟨_, rfl, _, rfl, d, .ref n.e, rfl, .inl ⟨_, Sum.inl (n.road : Int), .inl R5.dk, rfl, hval.symm⟩, n.e, _, rfl, .inl (R5.nd n hnT).1, fun l3 hl3 => ?_⟩
      have e6 : Same H5 (upd H5 l3 (.lst ((n.lv.map Leaf.ent).map fun x => V.ref x.2.1))) := same_new hl3
      have l3' : upd H5 l3 (.lst ((n.lv.map Leaf.ent).map fun x => V.ref x.2.1)) l3 = some (.lst (n.lv.map fun f => V.ref f.k)) := by rw [upd_same, List.map_map]; rfl
      generalize upd H5 l3 (.lst ((n.lv.map Leaf.ent).map fun x => V.ref x.2.1)) = H6 at e6 l3' ⊢
      have R6 := R5.extN (ExtN.of e6)
      refine ⟨l3, n.lv.map fun f => V.ref f.k, rfl, .inl (sqL l3'), .inl fun x hx => ?_, fun ys l4 hys hl4 => ?_⟩
      · obtain ⟨f, hf, rfl⟩ := List.mem_map.mp hx
        obtain ⟨h1, h2, h3⟩ := R6.lf n hnT f hf
        refine ⟨nI f.rest, fun z => ?_, (td_way h1).dp⟩
        have hh := (G1.at_ n hnT f hf).1
        have : f.rest = [] := by
          have h4 := congrArg List.length z
          rw [nI_len] at h4
          exact List.length_eq_zero_iff.mp h4
        rw [this] at hh
        cases hh
      obtain ⟨lv', elv, hlv⟩ := perm_lift (fun f : Leaf => V.ref f.k) hys n.lv rfl
      have e7 : Same H6 (upd H6 l4 (.lst ys)) := same_new hl4
      have l4' : upd H6 l4 (.lst ys) l4 = some (.lst ys) := upd_same
      generalize upd H6 l4 (.lst ys) = H7 at e7 l4' ⊢
      have R7 := R6.extN (ExtN.of e7)
      have e57 : ExtN H5 H7 := ExtN.of (e6.trans e7)
      have T7 : Tabs (TbL Pt) H7 := T5.ext (e6.trans e7)
      have lvl : ys.length = lv'.length := by rw [← elv, List.length_map]
      refine ⟨l4, rfl, ⟨_, sqL l4'⟩, fun D hD => lc_list (xs := ys) (fun j H' => ExtN H7 H' ∧ Tabs (TbL Pt) H' ∧ ∃ gs ws, H' D = some (.lst ws) ∧ GL H' ws gs ∧ V.ref D ∉ ws ∧ Paired (GOne S) (lv'.take j) gs) ⟨ExtN.of (same_new hD), T7.ext (same_new hD), [], [], upd_same, ⟨rfl, fun _ _ z => by simp at z⟩, (fun z => nomatch z), .nil⟩ (fun j H' _ h => sqL (h.1 _ _ l4' (fun _ z => by cases z))) (fun j y H8 hy ⟨e8, T8, gs, ws, hws, hgl, nD, hpd⟩ => ?_) fun H8 ⟨e8, T8, gs, ws, hws, hgl, nD, hpd⟩ => ?_⟩
      · rw [← elv, List.getElem?_map] at hy
        obtain ⟨f, hf, rfl⟩ := Option.map_eq_some_iff.mp hy
        have hfn : f ∈ n.lv := hlv.mem_iff.mp (List.mem_of_getElem? hf)
        have R8 := R7.extN e8
        obtain ⟨fk, fl, _⟩ := R8.lf n hnT f hfn
        have e08 : ExtN H H8 := e5.trans (e57.trans e8)
        have fnl := G1.len hnT hfn
        have hat := (G1.at_ n hnT f hfn).2
        have inS : ∀ m ∈ f.ns, m < S.length := fun m hm => by
          have h1 : m ∈ T.flatMap fun n => n.lv.flatMap Leaf.ns := List.mem_flatMap.mpr ⟨n, hnT, List.mem_flatMap.mpr ⟨f, hfn, hm⟩⟩
          exact List.mem_range.mp (List.mem_filter.mp (G1.perm.mem_iff.mp h1)).1
        have hbT : ∀ {Hx : Hp}, ExtN H Hx → Hx b = some (.tup xs) ∧ TdAll Hx xs (S.map dLt) := fun e => ⟨e _ _ hb (fun _ z => by cases z), hal.keep (TK.ext e)⟩
        refine ⟨rfl, _, rfl, _, rfl, d, .ref n.e, rfl, .inl ⟨_, Sum.inl (n.road : Int), .inl R8.dk, rfl, hval.symm⟩, _, rfl, n.e, f.k, n.lv.map Leaf.ent, KInts (nI f.rest), .ref f.l, ⟨rfl, rfl, (R8.nd n hnT).1, R8.keys hnT, by rw [kints_data]; exact (td_way fk).dp, by rw [kints_depth]; decide⟩, atN_leaf (R8.hs n hnT) hfn, T8, f.l, b, f.ns, fun m => (atS S m).limit, rfl, sqL fl, by omega, rfl, SKeyed.of (hbT e08).1 (hbT e08).2 inS, fun H9 q9 ms e9 T9 hq9 hms hsort => ?_⟩
        have hws9 := e9 _ _ hws (fun _ z => by cases z)
        have nq : D ≠ q9 := ne_of_none hws9 hq9
        have hwl : ws.length < 1000 := by
          rw [hgl.1, ← Paired.length hpd]
          rw [List.length_take]
          have h3 := hlv.length_eq
          omega
        refine ⟨ws, by rw [upd_ne nq]; exact hws9, len_line (by omega), ?_, ?_, gs ++ [ms], ws ++ [.ref q9], upd_same, ?_, ?_, ?_⟩
        · refine extN_at (e8.trans (e9.trans (ExtN.of (same_new hq9)))) hD (by rw [upd_ne nq]; exact hws9)
        · exact tabs_lst (T9.ext (same_new hq9)) (by rw [upd_ne nq]; exact hws9)
        · refine GL.snoc (hgl.keep fun l zs hl hz => ?_) (by rw [upd_ne (Ne.symm nq), upd_same])
          have nl : l ≠ D := fun z => nD (z ▸ hl)
          have h9 := e9 _ _ hz (fun _ z => by cases z)
          rw [upd_ne nl, upd_ne (ne_of_none h9 hq9)]
          exact h9
        · intro z
          rcases List.mem_append.mp z with z | z
          · exact nD z
          · exact nq (V.ref.inj (List.mem_singleton.mp z))
        · rw [take_snoc hf]
          exact hpd.snoc ⟨hms, hsort⟩
      · rw [lvl, List.take_length] at hpd
        have R8 := R7.extN e8
        have e08 : ExtN H H8 := e5.trans (e57.trans e8)
        have e58 : ExtN H5 H8 := e57.trans e8
        obtain ⟨dx, fs, a1, a2, a3, a4, hpp, k1, k2, t1, k3, t2, k4, t3, k5, t4⟩ := hW.extN e08
        have wsl : ws.length = gs.length := hgl.1
        have gsl : gs.length ≤ 20 := by rw [← Paired.length hpd, hlv.length_eq]; exact hlvS
        refine ⟨_, rfl, a, CW, dx, fs, _, rfl, hpp, c.cW, c.wRooms, k3, _, rfl, a2, _, _, .int ((W.R n.road : Nat) : Int), rfl, rfl, sqT t2, atI_nat (W.R_get r5), _, rfl, D, rfl, ⟨_, sqL hws⟩, fun D2 hD2 => lc_list (xs := ws) (fun j H' => Same H8 H' ∧ H' D2 = some (.lst (((gs.take j).map fun g => ((g.length : Nat) : Int)).map V.int))) ⟨same_new hD2, upd_same⟩ (fun j H' _ h => sqL (h.1 _ _ hws)) (fun j y H9 hy ⟨s9, h9⟩ => ?_) fun H9 ⟨s9, h9⟩ => ?_⟩
        · have hj : j < gs.length := by rw [← wsl]; exact (List.getElem?_eq_some_iff.mp hy).1
          have hgj : gs[j]? = some gs[j] := List.getElem?_eq_getElem hj
          obtain ⟨l, h1, h2⟩ := hgl.2 j _ hgj
          rw [hy] at h1
          cases h1
          refine ⟨rfl, _, rfl, l, _, rfl, .inl (sqL (s9 _ _ h2)), _, h9, len_line (by rw [List.length_map, List.length_map, List.length_take]; omega), same_at s9 hD2 h9, ?_⟩
          rw [upd_same, take_snoc hgj, List.map_append, List.map_append, List.length_map]
          rfl
        · rw [wsl, List.take_length] at h9
          have e09 : ExtN H H9 := e08.trans (ExtN.of s9)
          have R9 := R8.extN (ExtN.of s9)
          have hp9 : H9 p = some (.lst us) := s9 _ _ (e58 _ _ hp5 (fun _ z => by cases z))
          have hflat : gs.flatten.Perm (n.lv.flatMap Leaf.ns) := GNode.flat (S := S) (n := n) (p := (n.road, gs)) ⟨rfl, lv', hlv, hpd⟩
          have f20 : gs.flatten.length ≤ 20 := by
            rw [hflat.length_eq]
            obtain ⟨A1, A2, e⟩ := List.append_of_mem hnT
            have h := G1.perm.length_eq
            have h2 : ((List.range S.length).filter fun j => decide ((atS S j).ready ≤ t)).length ≤ S.length := Nat.le_trans (List.length_filter_le _ _) (by rw [List.length_range]; exact Nat.le_refl _)
            rw [e, List.flatMap_append, List.flatMap_cons, List.length_append, List.length_append] at h
            omega
          have hsum := flat_sum gs
          refine ⟨D2, _, rfl, sqL h9, _, _, rfl, ?_⟩
          rw [hsum]
          have hm : (if ((gs.flatten.length : Nat) : Int) < ((W.R n.road : Nat) : Int) then ((gs.flatten.length : Nat) : Int) else ((W.R n.road : Nat) : Int)) = ((min (W.R n.road) gs.flatten.length : Nat) : Int) := by
            split <;> omega
          rw [hm]
          refine ⟨_, rfl, tyL hp9, _, rfl, _, rfl, D, min (W.R n.road) gs.flatten.length, ws, gs, rfl, s9 _ _ hws, hgl.same s9, gsl, f20, by omega, fun p2 H10 s10 hp2' hP => ?_⟩
          have hp10 : H10 p = some (.lst us) := s10 _ _ hp9
          have np2 : p2 ≠ p := fun z => by rw [z, hp9] at hp2'; cases hp2'
          have e010 := e09.trans (ExtN.of s10)
          have e510 : ExtN H5 H10 := e58.trans (ExtN.of (s9.trans s10))
          have usl : us.length ≤ 20 := by
            rw [hpl.1]
            show (allPicks W.R gr).length ≤ 20
            unfold allPicks
            rw [List.length_map, ← Paired.length hgr, List.length_take]
            omega
          have tkp : TK H10 (upd H10 p (.lst (us ++ [.ref p2]))) := fun q zs e => by rw [upd_ne (ne_of e hp10 (fun z => by cases z))]; exact e
          refine ⟨p, us, .ref p2, rfl, rfl, hp10, len_line (by omega), extN_at e010 hpH hp10, tabs_lst (T8.ext (s9.trans s10)) hp10, (R9.extN (ExtN.of s10)).updl hp10 hfp, ?_, ⟨gr ++ [(n.road, gs)], us ++ [.ref p2], ?_, upd_same, ?_, ?_⟩, _, _, _, _, _, _, _, rfl⟩
          · rw [upd_ne n2p]
            exact e510 _ _ l5 (fun _ z => by cases z)
          · rw [take_snoc hnk]
            exact hgr.snoc ⟨rfl, lv', hlv, hpd⟩
          · intro z
            rcases List.mem_append.mp z with z | z
            · exact np5 z
            · exact np2 (V.ref.inj (List.mem_singleton.mp z)).symm
          · have ea : allPicks W.R (gr ++ [(n.road, gs)]) = allPicks W.R gr ++ [ways gs (min (W.R n.road) gs.flatten.length)] := by
              unfold allPicks
              rw [List.map_append]; rfl
            rw [ea]
            refine PLs.snoc (hpl.keep ((TK.ext e510).trans tkp) fun l zs hl hz => ?_) (hP.keep tkp fun zs hz => ?_)
            · have nl : l ≠ p := fun z => np5 (z ▸ hl)
              rw [upd_ne nl]
              exact e510 _ _ hz (fun _ z => by cases z)
            · rw [upd_ne np2]; exact hz
    · rintro σ H5 ⟨e5, T5, R5, l5, ⟨gr, us, hgr, hp5, np5, hpl⟩, v4, v5, v6, v7, v9, v10, v11, rfl⟩
      rw [List.length_map, ← lenT, List.take_length] at hgr
      have G : Grp S t gr := grp_of G1 hT' R5.rs hgr
      have hlen : gr.length ≤ 20 := by rw [← Paired.length hgr]; exact lenT2
      exact ⟨_, rfl, q p H5 gr us e5 T5 G hlen hp5 hpl⟩
end
end Hc
end

section
set_option Elab.async false
set_option linter.all false
set_option maxRecDepth 100000
set_option maxHeartbeats 4000000
namespace Hc
open PySem PySem.Spec PyProof.Rows L2 HcR LamX
section
variable {P : Program} {w : World} {K : PySem.W.Frag} {mg : Str → Option Value} {base : Heap}

theorem pi_listK {X : Cx} {tg e : Expr} {te : TE} (h : X.K = K) (he : PE X e te) : PI X tg e (iList K te) := by subst h; exact pi_list he
/-- a walk, turn by turn, whatever a turn asks -/
theorem it_any {J : It} {n : Nat} {G : Hp → Prop} {Y : Nat → Hp → V → Hp → Prop} (wk : Walk J n G Y) {B : V → Hp → (Hp → Prop) → Prop} {H0 : Hp} {Qd : Hp → Prop} (Pv : Nat → Hp → Prop) (h0 : Pv 0 H0) (hG : ∀ i H, i ≤ n → Pv i H → G H)
    (hs : ∀ i x H H', i < n → Pv i H → Y i H x H' → B x H' (Pv (i + 1))) (hd : ∀ H, Pv n H → Qd H) :
    ∃ W : Nat → Nat → Hp → Prop, (∃ m, W 0 m H0) ∧ ∀ i m H, W i m H → (J.stop i H ∧ Qd H) ∨ (J.go i H ∧ ∃ Nx : Hp → Prop, (∀ H', Nx H' → ∃ m', m' < m ∧ W (i + 1) m' H') ∧ ∀ x H', J.yld i H x H' → B x H' Nx) := by
  refine ⟨fun i m H => m = n - i ∧ i ≤ n ∧ Pv i H, ⟨n, by simp, Nat.zero_le _, h0⟩, ?_⟩
  rintro i m H ⟨rfl, hi, p⟩
  have q := hG i H hi p
  by_cases hlt : i < n
  · exact .inr ⟨wk.goes i H hlt q, Pv (i + 1), fun H' p' => ⟨n - (i + 1), by omega, rfl, hlt, p'⟩, fun x H' y => hs i x H H' hlt p (wk.yields i H x H' hlt q y)⟩
  · have e : i = n := by omega
    subst e
    exact .inl ⟨wk.stops H q, hd H p⟩
theorem prodStep_len (a b : List (List Nat)) : (prodStep a b).length = a.length * b.length := by
  unfold prodStep
  induction a with
  | nil => simp
  | cons x a ih =>
    rw [List.flatMap_cons, List.length_append, ih, List.length_map, List.length_cons, Nat.succ_mul]
    omega
theorem prods_few (rm : Nat → Nat) : ∀ (gr : List (Nat × List (List Nat))) (acc : List (List Nat)), ((allPicks rm gr).foldl prodStep acc).length ≤ acc.length * 2 ^ (gr.flatMap fun p => p.2.flatten).length
  | [], acc => by simp [allPicks]
  | p :: gr, acc => by
    show (((allPicks rm gr)).foldl prodStep (prodStep acc (ways p.2 (min (rm p.1) p.2.flatten.length)))).length ≤ _
    have h := prods_few rm gr (prodStep acc (ways p.2 (min (rm p.1) p.2.flatten.length)))
    rw [prodStep_len] at h
    have h2 := ways_few p.2 (min (rm p.1) p.2.flatten.length)
    rw [List.flatMap_cons, List.length_append, Nat.pow_add, ← Nat.mul_assoc]
    exact Nat.le_trans h (Nat.mul_le_mul_right _ (Nat.mul_le_mul_left _ h2))
theorem grp_small {S : List Lt} {t : Int} {gr : List (Nat × List (List Nat))} (G : Grp S t gr) (h : S.length ≤ 20) : (gr.flatMap fun p => p.2.flatten).length ≤ 20 := by
  rw [G.perm.length_eq]
  exact Nat.le_trans (List.length_filter_le _ _) (by rw [List.length_range]; exact h)
theorem chs_len {rm : Nat → Nat} : ∀ {gr : List (Nat × List (List Nat))} {o : List Nat}, Chs (allPicks rm gr) o → o.length ≤ (gr.flatMap fun p => p.2.flatten).length
  | [], o, h => by
    have h : o = [] := h
    subst h
    exact Nat.zero_le _
  | p :: gr, o, h => by
    obtain ⟨o1, h1, o2, h2, rfl⟩ := h
    have := (ways_len h1).1
    have := chs_len h2
    rw [List.flatMap_cons, List.length_append, List.length_append]
    omega
theorem flat_take {gr : List (Nat × List (List Nat))} (k : Nat) : ((gr.take k).flatMap fun p => p.2.flatten).length ≤ (gr.flatMap fun p => p.2.flatten).length := by
  conv => rhs; rw [← List.take_append_drop k gr]
  rw [List.flatMap_append, List.length_append]
  omega
theorem prodStep_snoc (F ps : List (List Nat)) {i : Nat} {o : List Nat} (h : F[i]? = some o) : prodStep (F.take (i + 1)) ps = prodStep (F.take i) ps ++ ps.map fun p => o ++ p := by
  unfold prodStep
  rw [take_snoc h, List.flatMap_append, List.flatMap_singleton]
variable {CW CD CS CP : Addr}
def spPicks (CW Pt : Addr) : Sp := fun vs H Q _ => ∃ (a : Addr) (W : WD) (x : V) (t : Int) (S : List Lt), vs = [.ref a, x, .int t] ∧ WebAt CW H a W ∧ Td H x (dSt S) ∧ GoodS S ∧ Tabs (TbL Pt) H ∧
  ∀ p H' gr, ExtN H H' → Tabs (TbL Pt) H' → Grp S t gr → PickL H' p (prods (allPicks W.R gr)) → Q (.ref p) H'
theorem ok_picks {Pt : Addr} (D : Def K mg "picks_of" s_picks_of) (h1 : Has P w K mg base CX0 23 "picks_by_road" ["web", "state", "tick"] (spPBR CW Pt)) : Has P w K mg base CX0 24 "picks_of" ["web", "state", "tick"] (spPicks CW Pt) := by
  refine .of D (fun _ _ _ _ _ _ us hl => match us, hl with | [_, _, _], _ => rfl) fun f fd F => F.ok sc_picks_of (fun vs H Q E ⟨a, W, x, t, S, e, _⟩ => by rw [e]; rfl) fun cdv A outer s H vs Q E hr ⟨a, W, x, t, S, e, hW, hx, hg, hT, q⟩ => ?_
  subst e
  refine ⟨_, (PSs.nox (pss_cons (ps_set (i := 3) sc_picks_of.nd rfl (.inl rfl) (pe_lst (pa_cons (pe_tup pa_nil) pa_nil))) (pss_cons (ps_for PassesOwn.never rfl (pi_list (pe_has h1 hr (by rfl) (pa_cons (pv 0) (pa_cons (pv 1) (pa_cons (pv 2) pa_nil))))) (pg_name (i := 4) sc_picks_of.nd rfl (.inr rfl)) (pss_one (ps_setLc2 (i := 3) (own := [("ahead", 5), ("pick", 6)]) (vs1 := [6]) rfl sc_picks_of.nd rfl rfl (sw_true rfl rfl rfl (by decide +kernel)) (pi_list (pv 3)) (blkOk_by (own := [("ahead", 5), ("pick", 6)]) (N := sc_picks_of_N) (sc := sc_picks_of_S) (by decide +kernel)) (by decide) (fun _ _ _ _ _ => (pg_name (i := 5) sc_picks_of.nd rfl (.inl rfl))) (fun _ _ _ _ _ => pts_nil) (fun _ _ _ _ _ => pi_listK (K := K) rfl (pv 4)) (fun _ _ _ _ _ => (pg_name (i := 6) sc_picks_of.nd rfl (.inl rfl))) (fun _ _ _ _ _ => pts_nil) (fun _ _ _ _ _ => pe_op opCatU (pv 5) (pv 6))))) (pss_one (ps_ret (pv 3)))))), ?_⟩
  have hS20 := hg.2
  refine ⟨by show 0 ≤ sizeLine; exact Nat.zero_le _, fun t0 ht0 => ⟨by show 1 ≤ sizeLine; decide, fun l0 hl0 => ?_⟩⟩
  have s0 : Same H (upd H t0 (.tup [])) := same_new ht0
  have s1 : Same H (upd (upd H t0 (.tup [])) l0 (.lst [.ref t0])) := same_upd s0 hl0
  have hl1 : upd (upd H t0 (.tup [])) l0 (.lst [.ref t0]) l0 = some (.lst [.ref t0]) := upd_same
  have ht1 : upd (upd H t0 (.tup [])) l0 (.lst [.ref t0]) t0 = some (.tup []) := by rw [upd_ne (ne_of_none upd_same hl0), upd_same]
  generalize upd (upd H t0 (.tup [])) l0 (.lst [.ref t0]) = H1 at s1 hl1 ht1
  refine ⟨_, rfl, _, rfl, _, rfl, a, W, x, t, S, rfl, hW.keep (IK.of s1), hx.keep (TK.of s1), hg, hT.ext s1, fun p H2 gr xs e2 T2 G hlen hp hpl => ?_⟩
  have G20 := grp_small G hS20
  have pl0 : PickL H2 l0 [[]] := ⟨_, e2 _ _ hl1 (fun _ z => by cases z), .cons (td_way (l := []) (e2 _ _ ht1 (fun _ z => by cases z))) .nil⟩
  refine ⟨p, rfl, ⟨_, sqL hp⟩, for_list (xs := xs) (fun k σ H' => Same H2 H' ∧ ∃ lf, PickL H' lf (((allPicks W.R gr).take k).foldl prodStep [[]]) ∧ ∃ v4 v5 v6, σ = [some (.ref a), some x, some (.int t), some (.ref lf), v4, v5, v6]) ⟨.refl H2, l0, pl0, _, _, _, rfl⟩ (fun k σ H' _ h => sqL (h.1 _ _ hp)) ?_ ?_⟩
  · rintro k y σ H3 hy ⟨s3, lf, ⟨ys, hys, hyt⟩, v4, v5, v6, rfl⟩
    have hk : k < (allPicks W.R gr).length := by rw [← hpl.1]; exact (List.getElem?_eq_some_iff.mp hy).1
    have hps : (allPicks W.R gr)[k]? = some (allPicks W.R gr)[k] := List.getElem?_eq_getElem hk
    generalize hF : ((allPicks W.R gr).take k).foldl prodStep [[]] = F at hyt
    obtain ⟨l, e1, zs, hzs, hzt⟩ := hpl.2 k _ hps
    rw [hy] at e1
    cases e1
    generalize hpk : (allPicks W.R gr)[k] = ps at hps hzt
    have ek : (allPicks W.R gr).take k = allPicks W.R (gr.take k) := by unfold allPicks; rw [List.map_take]
    have Flen : F.length ≤ 2 ^ 20 := by
      have h := prods_few W.R (gr.take k) [[]]
      rw [← ek, hF, List.length_singleton, Nat.one_mul] at h
      exact Nat.le_trans h (Nat.pow_le_pow_right (by decide) (Nat.le_trans (flat_take k) G20))
    have Plen : (prodStep F ps).length ≤ 2 ^ 20 := by
      have h := prods_few W.R (gr.take (k + 1)) [[]]
      have ek1 : (allPicks W.R gr).take (k + 1) = allPicks W.R (gr.take (k + 1)) := by unfold allPicks; rw [List.map_take]
      rw [← ek1, take_snoc hps, List.foldl_append, hF, List.length_singleton, Nat.one_mul] at h
      exact Nat.le_trans h (Nat.pow_le_pow_right (by decide) (Nat.le_trans (flat_take (k + 1)) G20))
    have Fo : ∀ o ∈ F, o.length ≤ 20 := fun o ho => by
      rw [← hF, ek] at ho
      obtain ⟨o0, h0, o', hc, e⟩ := mem_foldl_prod.mp ho
      have : o0 = [] := by simpa using h0
      rw [e, this, List.nil_append]
      exact Nat.le_trans (chs_len hc) (Nat.le_trans (flat_take k) G20)
    have Po : ∀ o ∈ ps, o.length ≤ 20 := fun o ho => by
      have h1 : ps ∈ allPicks W.R gr := List.mem_of_getElem? hps
      obtain ⟨q, hq, rfl⟩ := List.mem_map.mp h1
      have h2 := (ways_len ho).1
      obtain ⟨A1, A2, e⟩ := List.append_of_mem hq
      have h3 := G20
      rw [e, List.flatMap_append, List.flatMap_cons, List.length_append, List.length_append] at h3
      omega
    have hzs3 := s3 _ _ hzs
    have ezt3 := hzt.keep (TK.of s3)
    have ysl : ys.length = F.length := by rw [hyt.len, List.length_map]
    have zsl : zs.length = ps.length := by rw [hzt.len, List.length_map]
    refine ⟨_, rfl, lf, rfl, ⟨_, sqL hys⟩, fun D hD => it_any (walk_list (xs := ys)) (fun i H' => Same H3 H' ∧ ∃ us, H' D = some (.lst us) ∧ TdAll H' us ((prodStep (F.take i) ps).map dWay)) ⟨same_new hD, [], upd_same, .nil⟩ (fun i H' _ h => sqL (h.1 _ _ hys)) ?_ ?_⟩
    · rintro i y H4 H4' hi ⟨s4, us, hus, hut⟩ ⟨rfl, hyi⟩
      obtain ⟨o, ho, to⟩ := hyt.map_got hyi
      obtain ⟨c1, rfl, hc1⟩ := to.way
      refine ⟨rfl, _, rfl, l, rfl, ⟨_, sqL (s4 _ _ hzs3)⟩, it_any (walk_list (xs := zs)) (fun j H' => Same H3 H' ∧ ∃ us, H' D = some (.lst us) ∧ TdAll H' us ((prodStep (F.take i) ps ++ (ps.take j).map fun p => o ++ p).map dWay)) ⟨s4, us, hus, by simpa using hut⟩ (fun j H' _ h => sqL (h.1 _ _ hzs3)) ?_ ?_⟩
      · rintro j z H5 H5' hj ⟨s5, us5, hu5, hut5⟩ ⟨rfl, hzj⟩
        obtain ⟨pk, hpj, tp⟩ := ezt3.map_got hzj
        obtain ⟨c2, rfl, hc2⟩ := tp.way
        refine ⟨rfl, _, rfl, _, rfl, c1, c2, _, _, rfl, rfl, s5 _ _ hc1, s5 _ _ hc2, ?_, fun r H6 s6 h6 => ?_⟩
        · rw [List.length_map, List.length_map]
          have h1 := Fo o (List.mem_of_getElem? ho)
          have h2 := Po pk (List.mem_of_getElem? hpj)
          exact Nat.le_of_lt (len_line (by omega))
        · have hu6 := s6 _ _ hu5
          have tk6 : TK H6 (upd H6 D (.lst (us5 ++ [.ref r]))) := fun b zs e => by rw [upd_ne (ne_of e hu6 (fun z => by cases z))]; exact e
          have hD3 : H3 D = none := hD
          refine ⟨us5, hu6, ?_, same_at (s5.trans s6) hD3 hu6, _, upd_same, ?_⟩
          · have h1 := hut5.len
            rw [List.length_map, List.length_append, List.length_map, List.length_take] at h1
            have h2 : (prodStep (F.take i) ps).length + ps.length ≤ (prodStep F ps).length := by
              rw [prodStep_len, prodStep_len, List.length_take]
              have h3 : i + 1 ≤ F.length := by rw [← ysl]; exact hi
              rw [Nat.min_eq_left (by omega), ← Nat.succ_mul]
              exact Nat.mul_le_mul_right _ h3
            rw [sizeLine_eq]
            have e20 : (2 : Nat) ^ 20 = 1048576 := by decide
            omega
          · rw [take_snoc hpj, List.map_append (l₁ := ps.take j), ← List.append_assoc, List.map_append (f := dWay)]
            refine ((hut5.keep (TK.of s6)).keep tk6).snoc (td_way (tk6 _ _ ?_))
            rw [h6, List.map_append]
      · rintro H5 ⟨s5, us5, hu5, hut5⟩
        rw [zsl, List.take_length] at hut5
        refine ⟨s5, us5, hu5, ?_⟩
        rw [prodStep_snoc F ps ho]
        exact hut5
    · rintro H4 ⟨s4, us, hus, hut⟩
      rw [ysl, List.take_length] at hut
      refine ⟨s3.trans s4, D, ⟨us, hus, ?_⟩, _, _, _, rfl⟩
      rw [take_snoc hps, List.foldl_append, hF]
      exact hut
  · rintro σ H3 ⟨s3, lf, hpl3, v4, v5, v6, rfl⟩
    rw [hpl.1, List.take_length] at hpl3
    refine ⟨_, rfl, q lf H3 gr (fun b o e n => s3 _ _ (e2 _ _ (s1 _ _ e) n)) (T2.ext s3) G hpl3⟩
end
end Hc
end

section
set_option Elab.async false
set_option linter.all false
set_option maxRecDepth 100000
set_option maxHeartbeats 4000000
namespace Hc
open PySem PySem.Spec PyProof.Rows L2 HcR LamX
section
variable {P : Program} {w : World} {K : PySem.W.Frag} {mg : Str → Option Value} {base : Heap}

theorem td_perm {α : Type} {H : Hp} {f : α → PyData} {xs ys : List V} (p : ys.Perm xs) : ∀ {B : List α}, TdAll H xs (B.map f) → ∃ B' : List α, B'.Perm B ∧ TdAll H ys (B'.map f) := by
  induction p with
  | nil => intro B h; exact ⟨B, .refl _, h⟩
  | @cons x l1 l2 _ ih =>
    intro B h
    cases B with
    | nil => cases h
    | cons b B =>
      rw [List.map_cons] at h
      cases h with
      | cons h1 h2 =>
        obtain ⟨B', q1, q2⟩ := ih h2
        exact ⟨b :: B', .cons _ q1, .cons h1 q2⟩
  | swap x y l =>
    intro B h
    match B, h with
    | b1 :: b2 :: B, h =>
      rw [List.map_cons, List.map_cons] at h
      cases h with
      | cons h1 h2 => cases h2 with
        | cons h2 h3 => exact ⟨b2 :: b1 :: B, .swap _ _ _, .cons h2 (.cons h1 h3)⟩
  | trans _ _ i j =>
    intro B h
    obtain ⟨B1, q1, q2⟩ := j h
    obtain ⟨B2, q3, q4⟩ := i q2
    exact ⟨B2, q3.trans q1, q4⟩
/-! ### the order of a state -/
def kLt (x : Lt) : Tri := (nI x.rest, x.ready, x.limit)
theorem kLt_inj (x y : Lt) (h : kLt x = kLt y) : x = y := by
  obtain ⟨a, b, c⟩ := x
  obtain ⟨a', b', c'⟩ := y
  unfold kLt at h
  injection h with h1 h2
  injection h2 with h2 h3
  have h1 := nI_inj h1
  subst h1
  have h2 : b = b' := h2
  have h3 : c = c' := h3
  subst h2 h3
  rfl
def Srt (S : List Lt) : Prop := S.Pairwise fun x y => lt3 (kLt y) (kLt x) = false
theorem srt_uniq {S S' : List Lt} (h : Srt S) (h' : Srt S') (p : S.Perm S') : S = S' := lt3_uniq (k := kLt) kLt_inj h h' p
theorem td_inj {H : Hp} {v : V} {x y : Lt} (h : Td H v (dLt x)) (g : Td H v (dLt y)) : x = y := by
  obtain ⟨a, b, e, h1, h2⟩ := td_lt h
  obtain ⟨a', b', e', h1', h2'⟩ := td_lt g
  rw [e] at e'
  cases e'
  rw [h1] at h1'
  have e1 := HO.tup.inj (Option.some.inj h1')
  injection e1 with e2 e3
  injection e3 with e3 e4
  injection e4 with e4 e5
  have e2 := V.ref.inj e2
  subst e2
  rw [h2] at h2'
  have e6 := HO.tup.inj (Option.some.inj h2')
  have e7 : nI x.rest = nI y.rest := by
    have := congrArg (List.map fun v => match v with | V.int i => i | _ => 0) e6
    rw [List.map_map, List.map_map] at this
    exact this
  refine kLt_inj x y ?_
  unfold kLt
  rw [e7, V.int.inj e3, V.int.inj e4]
open Classical in
noncomputable def kOf (H : Hp) (v : V) : Tri := if h : ∃ d : Lt, Td H v (dLt d) then kLt (Classical.choose h) else ([], 0, 0)
theorem kOf_eq {H : Hp} {v : V} {d : Lt} (h : Td H v (dLt d)) : kOf H v = kLt d := by
  have h2 : ∃ d : Lt, Td H v (dLt d) := ⟨d, h⟩
  unfold kOf
  rw [dif_pos h2, td_inj (Classical.choose_spec h2) h]
theorem kOf_dp {H : Hp} {xs : List V} {B : List Lt} (h : TdAll H xs (B.map dLt)) : ∀ x ∈ xs, Dp K H x (dT3 (kOf H x).1 (kOf H x).2.1 (kOf H x).2.2) := fun x hx => by
  obtain ⟨d, hd, td⟩ := h.mem hx
  obtain ⟨l, _, rfl⟩ := List.mem_map.mp hd
  rw [kOf_eq td]
  exact td.dp
theorem srt_of {H : Hp} : ∀ {ys : List V} {S : List Lt}, TdAll H ys (S.map dLt) → ys.Pairwise (fun x y => lt3 (kOf H y) (kOf H x) = false) → Srt S
  | _, [], _, _ => List.Pairwise.nil
  | _, x :: S, h, p => by
    rw [List.map_cons] at h
    cases h with
    | @cons v vs _ _ h1 h2 =>
      obtain ⟨p1, p2⟩ := List.pairwise_cons.mp p
      refine List.pairwise_cons.mpr ⟨fun y hy => ?_, srt_of h2 p2⟩
      obtain ⟨i, hi, e⟩ := List.mem_iff_getElem.mp hy
      obtain ⟨u, hu, tu⟩ := h2.map_got' (i := i) (l := y) (by rw [← e]; exact List.getElem?_eq_getElem hi)
      have := p1 u (List.mem_of_getElem? hu)
      rw [kOf_eq tu, kOf_eq h1] at this
      exact this
theorem inV_nat (i : Nat) (o : List Nat) : inV (iN i) (o.map iN) = decide (i ∈ o) := by
  unfold inV
  rw [List.any_map]
  rw [Bool.eq_iff_iff, List.any_eq_true, decide_eq_true_eq]
  constructor
  · rintro ⟨x, hx, e⟩
    have e2 : ((x : Int) == (i : Int)) = true := e
    have : (x : Int) = (i : Int) := by simpa using e2
    have : x = i := by omega
    exact this ▸ hx
  · intro h
    refine ⟨i, h, ?_⟩
    show ((i : Int) == (i : Int)) = true
    simp
theorem allflat (o : List Nat) : (o.map iN).all flatV = true := by
  rw [List.all_eq_true]
  intro x hx
  obtain ⟨n, _, rfl⟩ := List.mem_map.mp hx
  rfl
variable {CW CD CS CP : Addr}
/-- the first i letters, passed by o, those that are home gone -/
def bh (W : WD) (t : Int) (S : List Lt) (o : List Nat) (i : Nat) : List Lt := ((List.range i).map fun j => stp W.T t (decide (j ∈ o), atS S j)).filter fun x => !x.rest.isEmpty
theorem bh_all (W : WD) (t : Int) (S : List Lt) (o : List Nat) : bh W t S o S.length = behind W.T t (pk S o) := by
  unfold bh behind pk
  rw [List.map_map]
  rfl
theorem bh_succ (W : WD) (t : Int) (S : List Lt) (o : List Nat) (i : Nat) : bh W t S o (i + 1) = bh W t S o i ++ (if (stp W.T t (decide (i ∈ o), atS S i)).rest.isEmpty then [] else [stp W.T t (decide (i ∈ o), atS S i)]) := by
  unfold bh
  rw [List.range_succ, List.map_append, List.filter_append]
  congr 1
  rw [List.map_cons, List.map_nil]
  cases h : (stp W.T t (decide (i ∈ o), atS S i)).rest.isEmpty with
  | true => rw [List.filter_cons_of_neg (by simp [h])]; rfl
  | false => rw [List.filter_cons_of_pos (by simp [h])]; rfl
theorem bh_len (W : WD) (t : Int) (S : List Lt) (o : List Nat) (i : Nat) : (bh W t S o i).length ≤ i := by
  unfold bh
  refine Nat.le_trans (List.length_filter_le _ _) ?_
  rw [List.length_map, List.length_range]
  exact Nat.le_refl _
def spBehind (CW : Addr) : Sp := fun vs H Q _ => ∃ (a : Addr) (W : WD) (x y : V) (t : Int) (S : List Lt) (o : List Nat), vs = [.ref a, x, .int t, y] ∧ WebAt CW H a W ∧ Td H x (dSt S) ∧ Td H y (dWay o) ∧ GoodS S ∧
  ∀ p H' S', Same H H' → S'.Perm (behind W.T t (pk S o)) → Srt S' → Td H' (.ref p) (dSt S') → Q (.ref p) H'
theorem ok_behind (ev : Ev mg) (c : Cla K mg CW CD CS CP) (D : Def K mg "state_behind" s_state_behind) : Has P w K mg base CX0 1 "state_behind" ["web", "state", "tick", "picked"] (spBehind CW) := by
  refine .of D (fun _ _ _ _ _ _ us hl => match us, hl with | [_, _, _, _], _ => rfl) fun f fd F => F.ok sc_state_behind (fun vs H Q E ⟨a, W, x, y, t, S, o, e, _⟩ => by rw [e]; rfl) fun cdv A outer s H vs Q E hr ⟨a, W, x, y, t, S, o, e, hW, hx, hy, hg, q⟩ => ?_
  subst e
  have hu := hr.units
  refine ⟨_, (PSs.nox (pss_cons (ps_set (i := 4) sc_state_behind.nd rfl (.inl rfl) (pe_lst pa_nil)) (pss_cons (ps_for PassesOwn.never rfl (pi_enumT (by rfl) ev.enumerate (pa_cons (pv 1) pa_nil)) (pg_tup rfl (pgs_cons (pg_name (i := 5) sc_state_behind.nd rfl (.inl rfl)) (pgs_cons (pg_tup rfl (pgs_cons (pg_name (i := 6) sc_state_behind.nd rfl (.inl rfl)) (pgs_cons (pg_name (i := 7) sc_state_behind.nd rfl (.inl rfl)) (pgs_cons (pg_name (i := 8) sc_state_behind.nd rfl (.inl rfl)) pgs_nil)))) pgs_nil))) (pss_one (ps_if (pt_cmpR (opNotInK (K := K) rfl) (pv 5) (pv 3) (by rfl)) (pss_one (ps_expr (pe_bm PySem.F.plainAttrs_list PySem.F.slot_list_append PySem.F.type_list_append mt_append (pv 4) (pa_cons (pe_tup (pa_cons (pv 6) (pa_cons (pe_callB ((call_max2 rfl)) (by rfl) ev.max (by decide +kernel) (pa_cons (pv 7) (pa_cons (pe_op op_add (pv 2) pe_int) pa_nil))) (pa_cons (pv 8) pa_nil)))) pa_nil)))) (pss_one (ps_if (pt_cmpR op_gt (pe_callB (lenS (K := K) rfl) (by rfl) ev.len PySem.boot_len (pa_cons (pv 6) pa_nil)) pe_int (nomark _)) (pss_one (ps_expr (pe_bm PySem.F.plainAttrs_list PySem.F.slot_list_append PySem.F.type_list_append mt_append (pv 4) (pa_cons (pe_tup (pa_cons (pe_slice slU (pv 6) (po_some pe_int) po_none) (pa_cons (pe_op op_add (pv 2) (pe_ix (ixT (K := K) rfl) (pe_fldK (K := K) rfl (pv 0) rfl) (pe_ix (ixT (K := K) rfl) (pv 6) pe_int (fun _ _ => rfl)) (fun _ _ => rfl))) (pa_cons (pv 8) pa_nil)))) pa_nil)))) pss_nil))))) (pss_one (ps_ret (pe_callTy ((tupOf (K := K) rfl)) (by rfl) ev.tuple (by decide +kernel) (pa_cons (pe_callB ((cr_sorted3 hu)) (by rfl) ev.sorted (by decide +kernel) (pa_cons (pv 4) pa_nil)) pa_nil))))))), ?_⟩
  obtain ⟨b, xs, rfl, hb, hal, hlx⟩ := td_st hx
  obtain ⟨pa, rfl, hpa⟩ := hy.way
  have hS20 := hg.2
  refine ⟨by show 0 ≤ sizeLine; exact Nat.zero_le _, fun p hp => ?_⟩
  have s1 : Same H (upd H p (.lst [])) := same_new hp
  have hp1 : upd H p (.lst []) p = some (.lst []) := upd_same
  generalize upd H p (.lst []) = H1 at s1 hp1
  refine ⟨_, rfl, b, xs, rfl, sqT (s1 _ _ hb), for_it walk_enumT (fun i σ H' => (Same H H' ∧ ∃ ys, H' p = some (.lst ys) ∧ TdAll H' ys ((bh W t S o i).map dLt)) ∧ ∃ v5 v6 v7 v8, σ = [some (.ref a), some (.ref b), some (.int t), some (.ref pa), some (.ref p), v5, v6, v7, v8]) ⟨⟨s1, [], hp1, .nil⟩, _, _, _, _, rfl⟩ (fun i σ H' _ h => sqT (h.1.1 _ _ hb)) ?_ ?_⟩
  · rintro i x σ H2 H3 hi ⟨⟨s2, ys, hys, hyt⟩, v5, v6, v7, v8, rfl⟩ ⟨T0, x1, x2, rfl, hT0, rfl, e1, e2⟩
    cases e1
    replace e2 : xs[i]? = some x2 := e2
    obtain ⟨l, hl, tl⟩ := hal.map_got e2
    have s3 : Same H2 (upd H2 T0 (.tup [V.int (i : Nat), x2])) := same_new hT0
    have hT2 : upd H2 T0 (.tup [V.int (i : Nat), x2]) T0 = some (.tup [V.int (i : Nat), x2]) := upd_same
    generalize upd H2 T0 (.tup [V.int (i : Nat), x2]) = H3 at s3 hT2
    have s03 := s2.trans s3
    obtain ⟨c1, c2, rfl, hc1, hc2⟩ := td_lt (tl.keep (TK.of s03))
    have hgl := hg.1 l (List.mem_of_getElem? hl)
    have hiS : i < S.length := (List.getElem?_eq_some_iff.mp hl).1
    have hat : atS S i = l := by
      have := (List.getElem?_eq_some_iff.mp hl).2
      simp [atS, hiS, this]
    have hys3 := s3 _ _ hys
    have hyt3 := hyt.keep (TK.of s3)
    have ysl : ys.length ≤ 20 := by
      have := hyt.len
      rw [List.length_map] at this
      have := bh_len W t S o i
      omega
    have hp0 : H p = none := hp
    have push : ∀ {H4 : Hp} {z : Addr} {lt : Lt}, Same H3 H4 → Td H4 (.ref z) (dLt lt) → (Same H (upd H4 p (.lst (ys ++ [.ref z]))) ∧ ∃ us, upd H4 p (.lst (ys ++ [.ref z])) p = some (.lst us) ∧ TdAll (upd H4 p (.lst (ys ++ [.ref z]))) us ((bh W t S o i ++ [lt]).map dLt)) := fun {H4 z lt} s4 tz => by
      have hy4 := s4 _ _ hys3
      have tk4 : TK H4 (upd H4 p (.lst (ys ++ [.ref z]))) := fun b zs e => by rw [upd_ne (ne_of e hy4 (fun z => by cases z))]; exact e
      refine ⟨same_at (s03.trans s4) hp0 hy4, _, upd_same, ?_⟩
      rw [List.map_append]
      exact ((hyt3.keep (TK.of s4)).keep tk4).snoc (tz.keep tk4)
    refine ⟨T0, _, rfl, sqT hT2, rfl, _, _, rfl, _, _, rfl, c1, _, rfl, sqT hc1, rfl, _, _, rfl, _, _, rfl, _, _, rfl, rfl, rfl, ?_⟩
    refine ⟨_, rfl, _, rfl, pa, _, rfl, .inr (sqT (s03 _ _ hpa)), rfl, allflat o, _, rfl, ?_⟩
    show if (!inV (iN i) (o.map iN)) = true then _ else _
    rw [inV_nat]
    refine ite2 (fun hc => ?_) fun hc => ?_
    · have hni : i ∉ o := by simpa using hc
      have e : bh W t S o (i + 1) = bh W t S o i ++ [⟨l.rest, max l.ready (t + 1), l.limit⟩] := by
        rw [bh_succ, hat]
        have : stp W.T t (decide (i ∈ o), l) = ⟨l.rest, max l.ready (t + 1), l.limit⟩ := by unfold stp; simp [hni]
        rw [this, if_neg (by simpa using hgl.1)]
      refine ⟨_, rfl, tyL hys3, _, rfl, _, rfl, _, rfl, _, _, rfl, rfl, _, _, rfl, _, rfl, by show 3 ≤ sizeLine; decide, fun z hz => ?_⟩
      have hm : (if t + 1 > l.ready then t + 1 else l.ready) = max l.ready (t + 1) := by split <;> omega
      have s4 : Same H3 (upd H3 z (.tup [.ref c2, .int (if t + 1 > l.ready then t + 1 else l.ready), .int l.limit])) := same_new hz
      have tz : Td (upd H3 z (.tup [.ref c2, .int (if t + 1 > l.ready then t + 1 else l.ready), .int l.limit])) (.ref z) (dLt ⟨l.rest, max l.ready (t + 1), l.limit⟩) := by
        refine mk_lt (b := c2) ?_ (s4 _ _ hc2)
        rw [upd_same, hm]
      have hyz := s4 _ _ hys3
      have pp := push s4 tz
      refine ⟨p, ys, .ref z, rfl, rfl, hyz, len_line (by omega), ?_, _, _, _, _, rfl⟩
      rw [e]; exact pp
    · have hio : i ∈ o := by simpa using hc
      have est : stp W.T t (decide (i ∈ o), l) = ⟨l.rest.tail, t + W.T (l.rest.headD 0), l.limit⟩ := by unfold stp; simp [hio]
      refine ⟨_, rfl, c2, _, rfl, .inr (sqT hc2), _, _, rfl, rfl, _, rfl, ite2 (fun h2 => ?_) fun h2 => ?_⟩
      · have hlen : 1 < l.rest.length := by
          have := of_decide_eq_true h2
          rw [List.length_map] at this
          omega
        obtain ⟨r0, r1, rs, er⟩ : ∃ r0 r1 rs, l.rest = r0 :: r1 :: rs := by
          match h : l.rest, hlen with
          | r0 :: r1 :: rs, _ => exact ⟨r0, r1, rs, rfl⟩
        have r5 : r0 < 5 := hgl.2.2 r0 (by rw [er]; exact List.mem_cons_self ..)
        have e : bh W t S o (i + 1) = bh W t S o i ++ [⟨l.rest.tail, t + W.T (l.rest.headD 0), l.limit⟩] := by
          rw [bh_succ, hat, est, if_neg (by rw [er]; simp)]
        refine ⟨_, rfl, tyL hys3, _, rfl, _, rfl, c2, _, rfl, hc2, fun z1 H4 s4 hz1 => ?_⟩
        have hc24 := s4 _ _ hc2
        obtain ⟨dx, fs, a1, a2, a3, a4, hpp, k1, k2, t1, k3, t2, k4, t3, k5, t4⟩ := hW.keep (IK.of (s03.trans s4))
        have g0 : (l.rest.map fun n : Nat => V.int (n : Int))[0]? = some (iN r0) := by rw [er]; rfl
        refine ⟨_, rfl, _, rfl, a, CW, dx, fs, _, rfl, hpp, c.cW, c.wTimes, k4, _, rfl, c2, _, 0, iN r0, rfl, rfl, sqT hc24, atI_nat (j := 0) g0, a3, _, _, .int (W.T r0), rfl, rfl, sqT t3, atI_nat (W.T_get r5), _, _, rfl, rfl, _, rfl, by show 3 ≤ sizeLine; decide, fun z hz => ?_⟩
        have ez1 : H4 z1 = some (.tup (l.rest.tail.map fun n : Nat => V.int (n : Int))) := by
          rw [hz1, show (some (1 : Int)) = some ((1 : Nat) : Int) from rfl, cut_from, List.drop_one, List.map_tail]
        have s5 : Same H4 (upd H4 z (.tup [.ref z1, .int (t + W.T r0), .int l.limit])) := same_new hz
        have tz : Td (upd H4 z (.tup [.ref z1, .int (t + W.T r0), .int l.limit])) (.ref z) (dLt ⟨l.rest.tail, t + W.T (l.rest.headD 0), l.limit⟩) := by
          refine mk_lt (b := z1) ?_ (s5 _ _ ez1)
          rw [upd_same, er]
          rfl
        have hyz := (s4.trans s5) _ _ hys3
        have pp := push (s4.trans s5) tz
        refine ⟨p, ys, .ref z, rfl, rfl, hyz, len_line (by omega), ?_, _, _, _, _, rfl⟩
        rw [e]; exact pp
      · have hlen : l.rest.tail = [] := by
          have h3 : ¬ 1 < (((l.rest.map fun n : Nat => V.int (n : Int)).length : Nat) : Int) := fun z => h2 (decide_eq_true z)
          rw [List.length_map] at h3
          have : l.rest.tail.length = 0 := by rw [List.length_tail]; omega
          exact List.length_eq_zero_iff.mp this
        have e : bh W t S o (i + 1) = bh W t S o i := by
          rw [bh_succ, hat, est, if_pos (by rw [hlen]; rfl), List.append_nil]
        refine ⟨?_, _, _, _, _, rfl⟩
        rw [e]
        exact ⟨s03, ys, hys3, hyt3⟩
  · rintro σ H2 ⟨⟨s2, ys, hys, hyt⟩, v5, v6, v7, v8, rfl⟩
    rw [hlx, bh_all] at hyt
    refine ⟨_, rfl, p, ys, kOf H2, rfl, sqL hys, kOf_dp hyt, fun zs l1 hperm hsort hl1 => ?_⟩
    have s3 : Same H2 (upd H2 l1 (.lst zs)) := same_new hl1
    have hl1' : upd H2 l1 (.lst zs) l1 = some (.lst zs) := upd_same
    generalize upd H2 l1 (.lst zs) = H3 at s3 hl1'
    obtain ⟨S', hS', tS0⟩ := td_perm hperm hyt
    have hsrt := srt_of tS0 hsort
    have tS := tS0.keep (TK.of s3)
    refine ⟨l1, zs, rfl, .inl ⟨sqL hl1', fun l2 hl2 => q l2 _ S' (s2.trans (s3.trans (same_new hl2))) hS' hsrt (.tup upd_same (tS.keep (TK.of (same_new hl2))))⟩⟩
end
end Hc
end

section
set_option autoImplicit false
set_option linter.all false
namespace Hc
/-! ### the states that a search may come to -/
/-- at tick t every letter of L is home, or at its first place, or further on and ready within two ticks -/
inductive Sts (t : Int) : List Lt → List Lt → Prop
  | nil : Sts t [] []
  | gone {x L S} : Sts t L S → Sts t (x :: L) S
  | start {x L S} : Sts t L S → Sts t (x :: L) (⟨x.rest, max x.ready t, x.limit⟩ :: S)
  | on {x L S} (k : Nat) (d : Nat) : k + 1 < x.rest.length → d ≤ 2 → Sts t L S → Sts t (x :: L) (⟨x.rest.drop (k + 1), t + d, x.limit⟩ :: S)
theorem Sts.append {t : Int} {L S L' S' : List Lt} (h : Sts t L S) (g : Sts t L' S') : Sts t (L ++ L') (S ++ S') := by
  induction h with
  | nil => exact g
  | gone _ ih => exact .gone ih
  | start _ ih => exact .start ih
  | on k d h1 h2 _ ih => exact .on k d h1 h2 ih
theorem Sts.first {t : Int} : ∀ {L : List Lt}, (∀ x ∈ L, t ≤ x.ready) → Sts t L L
  | [], _ => .nil
  | x :: L, h => by
    have h1 := h x (List.mem_cons_self ..)
    have e : (⟨x.rest, max x.ready t, x.limit⟩ : Lt) = x := by
      rw [show max x.ready t = x.ready by omega]
    have := Sts.start (x := x) (Sts.first (L := L) fun y hy => h y (List.mem_cons_of_mem _ hy))
    rw [e] at this
    exact this
theorem Sts.mem {t : Int} {L S : List Lt} (h : Sts t L S) : ∀ y ∈ S, ∃ x ∈ L, (y.rest = x.rest ∨ ∃ k, k + 1 < x.rest.length ∧ y.rest = x.rest.drop (k + 1)) ∧ y.limit = x.limit ∧ t ≤ y.ready ∧ y.ready ≤ max x.ready (t + 2) := by
  induction h with
  | nil => exact fun _ z => nomatch z
  | gone _ ih => exact fun y hy => let ⟨x, hx, r⟩ := ih y hy; ⟨x, List.mem_cons_of_mem _ hx, r⟩
  | @start x L S _ ih =>
    intro y hy
    rcases List.mem_cons.mp hy with rfl | hy
    · exact ⟨x, List.mem_cons_self .., .inl rfl, rfl, by show t ≤ max x.ready t; omega, by show max x.ready t ≤ _; omega⟩
    · let ⟨x, hx, r⟩ := ih y hy
      exact ⟨x, List.mem_cons_of_mem _ hx, r⟩
  | @on x L S k d h1 h2 _ ih =>
    intro y hy
    rcases List.mem_cons.mp hy with rfl | hy
    · exact ⟨x, List.mem_cons_self .., .inr ⟨k, h1, rfl⟩, rfl, by show t ≤ t + (d : Int); omega, by show t + (d : Int) ≤ _; omega⟩
    · let ⟨x, hx, r⟩ := ih y hy
      exact ⟨x, List.mem_cons_of_mem _ hx, r⟩
theorem Sts.len {t : Int} {L S : List Lt} (h : Sts t L S) : S.length ≤ L.length := by
  induction h with
  | nil => exact Nat.le_refl _
  | gone _ ih => exact Nat.le_succ_of_le ih
  | start _ ih => exact Nat.succ_le_succ ih
  | on _ _ _ _ _ ih => exact Nat.succ_le_succ ih
theorem Sts.jump {t t' : Int} {L S : List Lt} (h : Sts t L S) (l : t ≤ t') (hr : ∀ x ∈ S, t' ≤ x.ready) : Sts t' L S := by
  by_cases e : t = t'
  · subst e; exact h
  have l : t < t' := by omega
  clear e
  induction h with
  | nil => exact .nil
  | gone _ ih => exact .gone (ih hr)
  | @start x L S _ ih =>
    have h1 : t' ≤ max x.ready t := hr _ (List.mem_cons_self ..)
    have e : max x.ready t = max x.ready t' := by omega
    rw [e]
    exact .start (ih fun y hy => hr y (List.mem_cons_of_mem _ hy))
  | @on x L S k d h1 h2 _ ih =>
    have h3 : t' ≤ t + (d : Int) := hr _ (List.mem_cons_self ..)
    have e : t + (d : Int) = t' + ((t + d - t').toNat : Int) := by omega
    rw [e]
    exact .on k _ h1 (by omega) (ih fun y hy => hr y (List.mem_cons_of_mem _ hy))
theorem Sts.none {t : Int} : ∀ L : List Lt, Sts t L []
  | [] => .nil
  | _ :: L => .gone (Sts.none L)
theorem behind_cons (tm : Nat → Int) (t : Int) (p : Bool × Lt) (P : List (Bool × Lt)) : behind tm t (p :: P) = if (stp tm t p).rest = [] then behind tm t P else stp tm t p :: behind tm t P := by
  unfold behind
  rw [List.map_cons]
  by_cases h : (stp tm t p).rest = []
  · rw [if_pos h, List.filter_cons_of_neg (by simp [h])]
  · rw [if_neg h, List.filter_cons_of_pos (by simp [h])]
theorem Sts.step {tm : Nat → Int} (hT : ∀ r, 1 ≤ tm r ∧ tm r ≤ 3) {t : Int} {L S : List Lt} (h : Sts t L S) : ∀ P : List (Bool × Lt), P.map (·.2) = S → Sts (t + 1) L (behind tm t P) := by
  induction h with
  | nil =>
    intro P e
    have : P = [] := by simpa using e
    subst this
    exact .nil
  | gone _ ih => exact fun P e => .gone (ih P e)
  | @start x L S _ ih =>
    intro P e
    match P, e with
    | (b, y) :: Q, e =>
      rw [List.map_cons] at e
      injection e with e1 e2
      have e1 : y = ⟨x.rest, max x.ready t, x.limit⟩ := e1
      subst e1
      have i2 := ih Q e2
      rw [behind_cons]
      cases b with
      | false =>
        have es : stp tm t (false, (⟨x.rest, max x.ready t, x.limit⟩ : Lt)) = ⟨x.rest, max x.ready (t + 1), x.limit⟩ := by
          show (⟨x.rest, max (max x.ready t) (t + 1), x.limit⟩ : Lt) = _
          rw [show max (max x.ready t) (t + 1) = max x.ready (t + 1) by omega]
        rw [es]
        split
        · exact .gone i2
        · exact .start i2
      | true =>
        have es : stp tm t (true, (⟨x.rest, max x.ready t, x.limit⟩ : Lt)) = ⟨x.rest.drop (0 + 1), t + tm (x.rest.headD 0), x.limit⟩ := by
          show (⟨x.rest.tail, t + tm (x.rest.headD 0), x.limit⟩ : Lt) = _
          rw [← List.drop_one]
        rw [es]
        split
        · exact .gone i2
        · rename_i hne
          have h1 : 0 + 1 < x.rest.length := by
            refine Nat.lt_of_not_le fun z => hne ?_
            exact List.drop_of_length_le z
          have := hT (x.rest.headD 0)
          rw [show t + tm (x.rest.headD 0) = t + 1 + (((tm (x.rest.headD 0)) - 1).toNat : Int) by omega]
          exact .on 0 _ h1 (by omega) i2
  | @on x L S k d h1 h2 _ ih =>
    intro P e
    match P, e with
    | (b, y) :: Q, e =>
      rw [List.map_cons] at e
      injection e with e1 e2
      have e1 : y = ⟨x.rest.drop (k + 1), t + d, x.limit⟩ := e1
      subst e1
      have i2 := ih Q e2
      rw [behind_cons]
      cases b with
      | false =>
        have es : stp tm t (false, (⟨x.rest.drop (k + 1), t + d, x.limit⟩ : Lt)) = ⟨x.rest.drop (k + 1), t + 1 + ((d - 1 : Nat) : Int), x.limit⟩ := by
          show (⟨x.rest.drop (k + 1), max (t + (d : Int)) (t + 1), x.limit⟩ : Lt) = _
          rw [show max (t + (d : Int)) (t + 1) = t + 1 + ((d - 1 : Nat) : Int) by omega]
        rw [es]
        split
        · exact .gone i2
        · exact .on k _ h1 (by omega) i2
      | true =>
        have es : stp tm t (true, (⟨x.rest.drop (k + 1), t + d, x.limit⟩ : Lt)) = ⟨x.rest.drop (k + 1 + 1), t + tm ((x.rest.drop (k + 1)).headD 0), x.limit⟩ := by
          show (⟨(x.rest.drop (k + 1)).tail, t + tm ((x.rest.drop (k + 1)).headD 0), x.limit⟩ : Lt) = _
          rw [List.tail_drop]
        rw [es]
        split
        · exact .gone i2
        · rename_i hne
          have h3 : k + 1 + 1 < x.rest.length := by
            refine Nat.lt_of_not_le fun z => hne ?_
            exact List.drop_of_length_le z
          have := hT ((x.rest.drop (k + 1)).headD 0)
          rw [show t + tm ((x.rest.drop (k + 1)).headD 0) = t + 1 + (((tm ((x.rest.drop (k + 1)).headD 0)) - 1).toNat : Int) by omega]
          exact .on (k + 1) _ h3 (by omega) i2
/-- the choices of one letter -/
def chs (t : Int) (x : Lt) : List (List Lt) := [] :: [⟨x.rest, max x.ready t, x.limit⟩] :: ((List.range (x.rest.length - 1)).flatMap fun k => (List.range 3).map fun d : Nat => [⟨x.rest.drop (k + 1), t + (d : Int), x.limit⟩])
def enumS (t : Int) : List Lt → List (List Lt)
  | [] => [[]]
  | x :: L => (chs t x).flatMap fun c => (enumS t L).map fun S => c ++ S
def wtS : List Lt → Nat
  | [] => 1
  | x :: L => (2 + 3 * (x.rest.length - 1)) * wtS L
theorem flatMap_len {α β : Type} (f : α → List β) (n : Nat) : ∀ l : List α, (∀ x ∈ l, (f x).length = n) → (l.flatMap f).length = l.length * n
  | [], _ => by simp
  | x :: l, h => by
    rw [List.flatMap_cons, List.length_append, h x (List.mem_cons_self ..), flatMap_len f n l fun y hy => h y (List.mem_cons_of_mem _ hy), List.length_cons, Nat.succ_mul, Nat.add_comm]
theorem chs_length (t : Int) (x : Lt) : (chs t x).length = 2 + 3 * (x.rest.length - 1) := by
  unfold chs
  rw [List.length_cons, List.length_cons, flatMap_len _ 3 _ (fun k _ => by rw [List.length_map, List.length_range]), List.length_range]
  omega
theorem enumS_length (t : Int) : ∀ L : List Lt, (enumS t L).length = wtS L
  | [] => rfl
  | x :: L => by
    show ((chs t x).flatMap fun c => (enumS t L).map fun S => c ++ S).length = _
    rw [flatMap_len _ (wtS L) _ (fun c _ => by rw [List.length_map, enumS_length t L]), chs_length]
    rfl
theorem Sts.enum {t : Int} {L S : List Lt} (h : Sts t L S) : S ∈ enumS t L := by
  induction h with
  | nil => exact List.mem_singleton.mpr rfl
  | @gone x L S _ ih => exact List.mem_flatMap.mpr ⟨[], List.mem_cons_self .., List.mem_map.mpr ⟨S, ih, rfl⟩⟩
  | @start x L S _ ih => exact List.mem_flatMap.mpr ⟨_, List.mem_cons_of_mem _ (List.mem_cons_self ..), List.mem_map.mpr ⟨S, ih, rfl⟩⟩
  | @on x L S k d h1 h2 _ ih =>
    refine List.mem_flatMap.mpr ⟨[⟨x.rest.drop (k + 1), t + (d : Int), x.limit⟩], List.mem_cons_of_mem _ (List.mem_cons_of_mem _ (List.mem_flatMap.mpr ⟨k, List.mem_range.mpr (by omega), List.mem_map.mpr ⟨d, List.mem_range.mpr (by omega), rfl⟩⟩)), List.mem_map.mpr ⟨S, ih, rfl⟩⟩
open Classical in
/-- those letters, sorted -/
noncomputable def canonS (S0 : List Lt) : List Lt := if h : ∃ S, S.Perm S0 ∧ Srt S then Classical.choose h else []
theorem canon_eq {S S0 : List Lt} (p : S.Perm S0) (h : Srt S) : canonS S0 = S := by
  have h2 : ∃ S, S.Perm S0 ∧ Srt S := ⟨S, p, h⟩
  unfold canonS
  rw [dif_pos h2]
  obtain ⟨a, b⟩ := Classical.choose_spec h2
  exact srt_uniq b h (a.trans p.symm)
end Hc
end

section
set_option Elab.async false
set_option linter.all false
set_option maxRecDepth 100000
set_option maxHeartbeats 4000000
namespace Hc
open PySem PySem.Spec PyProof.Rows L2 HcR LamX
section
variable {P : Program} {w : World} {K : PySem.W.Frag} {mg : Str → Option Value} {base : Heap}

theorem pgTupK {X : Cx} {es : List Expr} {k : Nat} {t : TGs} {n : Nat} {pos : Pos} (hK : X.K = K) (hc : X.calm = true) (h : PGs X es t) (hn : (assignEach es X.env).length = n) (hst : (assignEach es X.env).findIdx? (·.1) = Option.none) : PG X (.Tuple es k pos) (gTup K n t) := by
  subst hK
  exact pg_tup hc h hn hst
/-! ### the memo -/
def ltK (x : Lt) : NestedKey := .tup [KInts (nI x.rest), .num x.ready, .num x.limit]
def keyOf (S : List Lt) (t : Int) : NestedKey := .tup [.tup (S.map ltK), .num t]
theorem datas_map {α : Type} (f : α → NestedKey) : ∀ l : List α, NestedKey.datas (l.map f) = l.map fun x => (f x).data
  | [] => rfl
  | x :: l => by
    show (f x).data :: NestedKey.datas (l.map f) = _
    rw [datas_map f l]; rfl
theorem ltK_data (x : Lt) : (ltK x).data = dLt x := by
  show PyData.tuple [(KInts (nI x.rest)).data, .int x.ready, .int x.limit] = _
  rw [kints_data]; rfl
theorem keyOf_data (S : List Lt) (t : Int) : (keyOf S t).data = .tuple [dSt S, .int t] := by
  show PyData.tuple [PyData.tuple (NestedKey.datas (S.map ltK)), .int t] = _
  rw [datas_map]
  have : (S.map fun x => (ltK x).data) = S.map dLt := List.map_congr_left fun x _ => ltK_data x
  rw [this]; rfl
theorem dLt_inj {x y : Lt} (h : dLt x = dLt y) : x = y := by
  have h := PyData.tuple.inj h
  injection h with h1 h2
  injection h2 with h2 h3
  injection h3 with h3 h4
  have h1 : (nI x.rest).map PyData.int = (nI y.rest).map PyData.int := PyData.tuple.inj h1
  have e : nI x.rest = nI y.rest := by
    have := congrArg (List.map fun d => match d with | PyData.int i => i | _ => 0) h1
    rw [List.map_map, List.map_map] at this
    have id' : ((fun d => match d with | PyData.int i => i | _ => 0) ∘ PyData.int) = (id : Int → Int) := by funext i; rfl
    rw [id', List.map_id, List.map_id] at this
    exact this
  refine kLt_inj x y ?_
  unfold kLt
  rw [e, PyData.int.inj h2, PyData.int.inj h3]
theorem map_inj' {α β : Type} {f : α → β} (hf : ∀ x y, f x = f y → x = y) : ∀ {l m : List α}, l.map f = m.map f → l = m
  | [], [], _ => rfl
  | [], _ :: _, h => by cases h
  | _ :: _, [], h => by cases h
  | x :: l, y :: m, h => by
    rw [List.map_cons, List.map_cons] at h
    injection h with h1 h2
    rw [hf x y h1, map_inj' hf h2]
theorem keyOf_inj {S S' : List Lt} {t t' : Int} (h : keyOf S t = keyOf S' t') : S = S' ∧ t = t' := by
  have h := congrArg NestedKey.data h
  rw [keyOf_data, keyOf_data] at h
  have h := PyData.tuple.inj h
  injection h with h1 h2
  injection h2 with h2 h3
  exact ⟨map_inj' (fun x y => dLt_inj) (PyData.tuple.inj h1), PyData.int.inj h2⟩
theorem depthAll_le {n : Nat} : ∀ {l : List NestedKey}, (∀ k ∈ l, k.depth ≤ n) → NestedKey.depthAll l ≤ n
  | [], _ => Nat.zero_le _
  | k :: l, h => by
    have h1 := h k (List.mem_cons_self ..)
    have h2 := depthAll_le (l := l) fun k' hk => h k' (List.mem_cons_of_mem _ hk)
    show max k.depth (NestedKey.depthAll l) ≤ n
    omega
theorem keyOf_depth (S : List Lt) (t : Int) : (keyOf S t).depth ≤ 8 := by
  have h1 : ∀ x : Lt, (ltK x).depth ≤ 2 := fun x => by
    show NestedKey.depthAll [KInts (nI x.rest), .num x.ready, .num x.limit] + 1 ≤ 2
    have : NestedKey.depthAll [KInts (nI x.rest), .num x.ready, .num x.limit] ≤ 1 := depthAll_le fun k hk => by
      simp only [List.mem_cons, List.not_mem_nil, or_false] at hk
      rcases hk with rfl | rfl | rfl
      · rw [kints_depth]; exact Nat.le_refl _
      · exact Nat.zero_le _
      · exact Nat.zero_le _
    omega
  have h2 : NestedKey.depthAll (S.map ltK) ≤ 2 := depthAll_le fun k hk => by
    obtain ⟨x, _, rfl⟩ := List.mem_map.mp hk
    exact h1 x
  show NestedKey.depthAll [.tup (S.map ltK), .num t] + 1 ≤ 8
  have : NestedKey.depthAll [.tup (S.map ltK), .num t] ≤ 3 := depthAll_le fun k hk => by
    simp only [List.mem_cons, List.not_mem_nil, or_false] at hk
    rcases hk with rfl | rfl
    · show NestedKey.depthAll (S.map ltK) + 1 ≤ 3; omega
    · exact Nat.zero_le _
  omega
/-- every entry is right, its key among those of U -/
structure Memo (A : Int → List Lt → Prop) (U : List NestedKey) (ents : List NEnt) : Prop where
  right : ∀ e ∈ ents, ∃ S t b, e.1 = keyOf S t ∧ e.2.2 = .bl b ∧ (b = true ↔ A t S)
  inU : ∀ e ∈ ents, e.1 ∈ U
  nodup : (ents.map (·.1)).Nodup
theorem nodup_len {α : Type} : ∀ {l u : List α}, l.Nodup → (∀ x ∈ l, x ∈ u) → l.length ≤ u.length
  | [], _, _, _ => Nat.zero_le _
  | x :: l, u, h, hs => by
    obtain ⟨u1, u2, e⟩ := List.append_of_mem (hs x (List.mem_cons_self ..))
    obtain ⟨h1, h2⟩ := List.nodup_cons.mp h
    have := nodup_len (l := l) (u := u1 ++ u2) h2 fun y hy => by
      have hy2 := hs y (List.mem_cons_of_mem _ hy)
      rw [e] at hy2
      rcases List.mem_append.mp hy2 with z | z
      · exact List.mem_append_left _ z
      · rcases List.mem_cons.mp z with z | z
        · exact absurd (z ▸ hy) h1
        · exact List.mem_append_right _ z
    rw [List.length_append] at this
    have e2 : u.length = u1.length + (u2.length + 1) := by rw [e, List.length_append, List.length_cons]
    rw [e2]
    show l.length + 1 ≤ _
    omega
theorem Memo.len {A : Int → List Lt → Prop} {U : List NestedKey} {ents : List NEnt} (m : Memo A U ents) : ents.length ≤ U.length := by
  have := nodup_len m.nodup (u := U) fun k hk => by
    obtain ⟨e, he, rfl⟩ := List.mem_map.mp hk
    exact m.inU e he
  rwa [List.length_map] at this
theorem Memo.get {A : Int → List Lt → Prop} {U : List NestedKey} {ents : List NEnt} (m : Memo A U ents) {S : List Lt} {t : Int} {v : V} (h : atN ents (keyOf S t) = some v) : ∃ b, v = .bl b ∧ (b = true ↔ A t S) := by
  obtain ⟨a, ha⟩ := atN_mem h
  obtain ⟨S', t', b, e1, e2, e3⟩ := m.right _ ha
  obtain ⟨rfl, rfl⟩ := keyOf_inj e1
  exact ⟨b, e2, e3⟩
theorem putN_keys (xs : List NEnt) (k : NestedKey) (a : Addr) (v : V) (h : (xs.map (·.1)).Nodup) : ((putN xs k a v).map (·.1)).Nodup := by
  unfold putN
  split
  · have e : (xs.map (fun x => if x.1 = k then (x.1, x.2.1, v) else x)).map (·.1) = xs.map (·.1) := by
      rw [List.map_map]
      refine List.map_congr_left fun x _ => ?_
      show (if x.1 = k then (x.1, x.2.1, v) else x).1 = x.1
      split <;> rfl
    rw [e]; exact h
  · rename_i hn
    rw [List.map_append, List.nodup_append]
    refine ⟨h, by simp, fun x hx y hy => ?_⟩
    have hy : y = k := by simpa using hy
    intro e
    rw [e, hy] at hx
    obtain ⟨z, hz, e⟩ := List.mem_map.mp hx
    refine hn ?_
    unfold atN
    cases q : xs.find? fun x => decide (x.1 = k) with
    | none =>
      have := List.find?_eq_none.mp q z hz
      exact absurd e (by simpa using this)
    | some _ => rfl
theorem Memo.put {A : Int → List Lt → Prop} {U : List NestedKey} {ents : List NEnt} (m : Memo A U ents) {S : List Lt} {t : Int} {b : Bool} {a : Addr} (hU : keyOf S t ∈ U) (hb : b = true ↔ A t S) : Memo A U (putN ents (keyOf S t) a (.bl b)) := by
  refine ⟨fun e he => ?_, fun e he => ?_, putN_keys _ _ _ _ m.nodup⟩
  · rcases mem_putN he with h | ⟨h1, h2⟩
    · exact m.right e h
    · exact ⟨S, t, b, h1, h2, hb⟩
  · rcases mem_putN he with h | ⟨h1, h2⟩
    · exact m.inU e h
    · rw [h1]; exact hU
/-- all but k and the tables is kept -/
def ExtD (k : Addr) (H H' : Hp) : Prop := ∀ b o, H b = some o → b ≠ k → (∀ ps, o ≠ .tbl ps) → H' b = some o
theorem ExtD.refl (k : Addr) (H : Hp) : ExtD k H H := fun _ _ h _ _ => h
theorem ExtD.trans {k : Addr} {H H1 H2 : Hp} (a : ExtD k H H1) (b : ExtD k H1 H2) : ExtD k H H2 := fun c o h n m => b c o (a c o h n m) n m
theorem ExtD.of {k : Addr} {H H' : Hp} (e : ExtN H H') : ExtD k H H' := fun b o h _ m => e b o h m
theorem ExtD.same {k : Addr} {H H' : Hp} (e : Same H H') : ExtD k H H' := fun b o h _ _ => e b o h
theorem ExtD.put {k : Addr} {H H' : Hp} {o : HO} (e : ExtD k H H') : ExtD k H (upd H' k o) := fun b u h n m => by rw [upd_ne n]; exact e b u h n m
theorem ExtD.ik {k : Addr} {H H' : Hp} {P : Program} {w : World} {xs : List NEnt} (e : ExtD k H H') (h : H k = some (NdO P w k xs)) : IK H H' :=
  ⟨fun b ys hb => e b _ hb (ne_of hb h (fun z => by unfold NdO at z; cases z)) (fun _ z => by cases z), fun b C dx fs hb => e b _ hb (ne_of hb h (fun z => by unfold NdO at z; cases z)) (fun _ z => by cases z)⟩
theorem heap_of : ∀ n : Nat, ∃ h : Heap, h.objs.size = n
  | 0 => ⟨{ objs := #[] }, rfl⟩
  | n + 1 => let ⟨h, e⟩ := heap_of n; ⟨h.push { cls := .none, data := .fields #[] }, by rw [Heap.size_push, e]⟩
/-- a code object is no such dict -/
theorem code_nd {P : Program} {w : World} {k : Addr} {q : Str} {xs : List NEnt} : NdO P w k xs ≠ CodeO k q := fun z => by
  unfold NdO CodeO at z
  have z2 := HO.ext.inj z
  obtain ⟨h, hs⟩ := heap_of k
  have hg : (h.push { cls := .none, data := .fields #[.none, .str q 0] }).get? k = some { cls := .none, data := .fields #[.none, .str q 0] } := by
    have := Heap.get?_push_size h (o := { cls := .none, data := .fields #[.none, .str q 0] }) rfl
    rw [hs] at this
    exact this
  have h1 : (∃ (oc : Obj) (vs : Array Value) (t : Tok), (h.push { cls := .none, data := .fields #[.none, .str q 0] }).get? k = some oc ∧ oc.data = .fields vs ∧ vs[1]? = some (.str q t)) := ⟨_, _, 0, hg, rfl, rfl⟩
  have h2 := congrFun z2 (h.push { cls := .none, data := .fields #[.none, .str q 0] })
  rw [← h2] at h1
  obtain ⟨_, _, vs, _, o, es, ep, g1, g2, g3, _⟩ := h1
  rw [hg] at g1
  cases g1
  cases g3
theorem tabs_nd {T : List (Addr × Str)} {H : Hp} {P : Program} {w : World} {k : Addr} {xs : List NEnt} {o : HO} (t : Tabs T H) (hk : H k = some (NdO P w k xs)) : Tabs T (upd H k o) := fun p hp => by
  obtain ⟨ps, h1, h2, h3⟩ := t p hp
  refine ⟨ps, by rw [upd_ne (ne_of h1 hk (fun z => by unfold NdO at z; cases z))]; exact h1, h2, fun pos cv hcv => ?_⟩
  obtain ⟨c, e1, e2⟩ := h3 pos cv hcv
  refine ⟨c, e1, ?_⟩
  rw [upd_ne (fun z => by
    subst z
    rw [hk] at e2
    exact code_nd (Option.some.inj e2))]
  exact e2
end
end Hc
end

section
set_option Elab.async false
set_option linter.all false
set_option maxRecDepth 100000
set_option maxHeartbeats 4000000
namespace Hc
open PySem PySem.Spec PyProof.Rows L2 HcR LamX
section
variable {P : Program} {w : World} {K : PySem.W.Frag} {mg : Str → Option Value} {base : Heap}

variable {CW CD CS CP : Addr}
/-- the memo's dict, standing -/
structure Mem (P : Program) (w : World) (K : PySem.W.Frag) (A : Int → List Lt → Prop) (U : List NestedKey) (H : Hp) (kd : Addr) (ents : List NEnt) : Prop where
  stand : H kd = some (NdO P w kd ents)
  ks : NKs K H ents
  memo : Memo A U ents
theorem nd_ne {kd : Addr} {xs : List NEnt} {o : HO} (h : ∀ φ, o ≠ .ext φ) : o ≠ NdO P w kd xs := fun z => h _ z
theorem ExtD.sqT {k : Addr} {xs : List NEnt} {H H' : Hp} (e : ExtD k H H') (hk : H k = some (NdO P w k xs)) {a : Addr} {ys : List V} (q : SqT K H a ys) : SqT K H' a ys := by
  rcases q with (q | ⟨ob, q⟩) | q
  · exact .inl (.inl (e _ _ q (ne_of q hk (nd_ne fun _ z => by cases z)) (fun _ z => by cases z)))
  · exact .inl (.inr ⟨ob, e _ _ q (ne_of q hk (nd_ne fun _ z => by cases z)) (fun _ z => by cases z)⟩)
  · exact .inr q
theorem ExtD.sqL {k : Addr} {xs : List NEnt} {H H' : Hp} (e : ExtD k H H') (hk : H k = some (NdO P w k xs)) {a : Addr} {ys : List V} (q : SqL K H a ys) : SqL K H' a ys := by
  rcases q with (q | ⟨ob, q⟩) | q
  · exact .inl (.inl (e _ _ q (ne_of q hk (nd_ne fun _ z => by cases z)) (fun _ z => by cases z)))
  · exact .inl (.inr ⟨ob, e _ _ q (ne_of q hk (nd_ne fun _ z => by cases z)) (fun _ z => by cases z)⟩)
  · exact .inr q
theorem extN_sqT {H H' : Hp} (e : ExtN H H') {a : Addr} {ys : List V} (q : SqT K H a ys) : SqT K H' a ys := by
  rcases q with (q | ⟨ob, q⟩) | q
  · exact .inl (.inl (e _ _ q (fun _ z => by cases z)))
  · exact .inl (.inr ⟨ob, e _ _ q (fun _ z => by cases z)⟩)
  · exact .inr q
theorem extN_sqL {H H' : Hp} (e : ExtN H H') {a : Addr} {ys : List V} (q : SqL K H a ys) : SqL K H' a ys := by
  rcases q with (q | ⟨ob, q⟩) | q
  · exact .inl (.inl (e _ _ q (fun _ z => by cases z)))
  · exact .inl (.inr ⟨ob, e _ _ q (fun _ z => by cases z)⟩)
  · exact .inr q
theorem ndO_tbl {kd : Addr} {xs : List NEnt} (ps : _) : NdO P w kd xs ≠ .tbl ps := fun z => by unfold NdO at z; cases z
section
variable {A : Int → List Lt → Prop} {U : List NestedKey} {H H' : Hp} {kd : Addr} {ents : List NEnt}
theorem Mem.extN (m : Mem P w K A U H kd ents) (e : ExtN H H') : Mem P w K A U H' kd ents :=
  ⟨e _ _ m.stand ndO_tbl, fun x hx => ⟨Dp.keep (fun _ _ q => extN_sqL e q) (fun _ _ q => extN_sqT e q) (m.ks x hx).1, (m.ks x hx).2⟩, m.memo⟩
theorem Mem.same (m : Mem P w K A U H kd ents) (e : Same H H') : Mem P w K A U H' kd ents := m.extN fun b o h _ => e b o h
theorem Mem.ext {k : Addr} {xs : List NEnt} (m : Mem P w K A U H kd ents) (e : ExtD k H H') (hk : H k = some (NdO P w k xs)) (n : kd ≠ k) : Mem P w K A U H' kd ents :=
  ⟨e _ _ m.stand n ndO_tbl, fun x hx => ⟨Dp.keep (fun _ _ q => e.sqL hk q) (fun _ _ q => e.sqT hk q) (m.ks x hx).1, (m.ks x hx).2⟩, m.memo⟩
theorem Mem.put (m : Mem P w K A U H kd ents) {S : List Lt} {t : Int} {b : Bool} {a : Addr} (ha : Dp K H (.ref a) (keyOf S t).data) (hU : keyOf S t ∈ U) (hb : b = true ↔ A t S) :
    Mem P w K A U (upd H kd (NdO P w kd (putN ents (keyOf S t) a (.bl b)))) kd (putN ents (keyOf S t) a (.bl b)) :=
  ⟨upd_same, (m.ks.put ha (keyOf_depth S t)).upd m.stand True.intro, m.memo.put hU hb⟩
end
/-- a Search stands at sa -/
def SchAt (CW CS : Addr) (H : Hp) (sa wa kd : Addr) (W : WD) : Prop := (∃ dx fs, H sa = some (.ins CS dx fs) ∧ fs.lookup ("web" : Str) = some (.ref wa) ∧ fs.lookup ("known" : Str) = some (.ref kd) ∧ fs.lookup ("can_save" : Str) = none ∧ fs.lookup ("tried" : Str) = none) ∧ WebAt CW H wa W
theorem SchAt.keep {H H' : Hp} {sa wa kd : Addr} {W : WD} (k : IK H H') (h : SchAt CW CS H sa wa kd W) : SchAt CW CS H' sa wa kd W := by
  obtain ⟨⟨dx, fs, e, r⟩, h2⟩ := h
  exact ⟨⟨dx, fs, k.2 _ _ _ _ e, r⟩, h2.keep k⟩
/-- the tick to which the search goes -/
def IsJ (t : Int) (S : List Lt) (t' : Int) : Prop := ∃ m, (∃ x ∈ S, x.ready = m) ∧ (∀ x ∈ S, m ≤ x.ready) ∧ t' = max t m
/-- where the search may come -/
structure Domn (W : WD) (U : List NestedKey) (Dom : Int → List Lt → Prop) : Prop where
  few : U.length < 8000000
  good : ∀ t S, Dom t S → GoodS S
  key : ∀ t S t', Dom t S → S ≠ [] → IsJ t S t' → keyOf S t' ∈ U
  step : ∀ t S t' gr o S', Dom t S → S ≠ [] → IsJ t S t' → ¬ Late W.T t' S → Grp S t' gr → o ∈ prods (allPicks W.R gr) → S'.Perm (behind W.T t' (pk S o)) → Srt S' → Dom (t' + 1) S'
theorem IsJ.le {t t' : Int} {S : List Lt} (h : IsJ t S t') : t ≤ t' := by obtain ⟨m, _, _, e⟩ := h; omega
theorem IsJ.sav {W : WD} {t t' : Int} {S : List Lt} (h : IsJ t S t') : Sav W.T W.R t S ↔ Sav W.T W.R t' S := by
  obtain ⟨m, h1, h2, e⟩ := h
  rcases Int.le_total t m with l | l
  · have e : t' = m := by omega
    subst e
    exact sav_jump l h2
  · have e : t' = t := by omega
    subst e
    exact Iff.rfl
theorem late_past {W : WD} {t : Int} {S : List Lt} (hS : ∀ x ∈ S, x.rest ≠ []) (hne : S ≠ []) (hl : ∀ x ∈ S, x.limit < t) : Late W.T t S := by
  obtain ⟨x, hx⟩ := List.exists_mem_of_ne_nil S hne
  refine ⟨x, hx, hS x hx, ?_⟩
  have h1 := tsum_nonneg (tm := W.T) (fun r => (W.T1 r).1) x.rest.dropLast
  have h2 := hl x hx
  unfold due
  omega
def spTried (P : Program) (w : World) (K : PySem.W.Frag) (CW CS Pt : Addr) (n : Nat) : Sp := fun vs H Q _ => ∃ (sa wa kd : Addr) (W : WD) (U : List NestedKey) (ents : List NEnt) (x : V) (t0 t : Int) (S : List Lt) (Dom : Int → List Lt → Prop), vs = [.ref sa, x, .int t] ∧ SchAt CW CS H sa wa kd W ∧
  Mem P w K (Sav W.T W.R) U H kd ents ∧ Td H x (dSt S) ∧ Domn W U Dom ∧ Dom t0 S ∧ IsJ t0 S t ∧ S ≠ [] ∧ Tabs (TbL Pt) H ∧ (∀ y ∈ S, y.limit < t + n) ∧
  ∀ b H' ents', ExtD kd H H' → Tabs (TbL Pt) H' → Mem P w K (Sav W.T W.R) U H' kd ents' → (b = true ↔ Sav W.T W.R t S) → Q (.bl b) H'
def spCan (P : Program) (w : World) (K : PySem.W.Frag) (CW CS Pt : Addr) : Nat → Sp
  | 0 => fun _ _ _ _ => False
  | n + 1 => fun vs H Q _ => ∃ (sa wa kd : Addr) (W : WD) (U : List NestedKey) (ents : List NEnt) (x : V) (t : Int) (S : List Lt) (Dom : Int → List Lt → Prop), vs = [.ref sa, x, .int t] ∧ SchAt CW CS H sa wa kd W ∧
    Mem P w K (Sav W.T W.R) U H kd ents ∧ Td H x (dSt S) ∧ Domn W U Dom ∧ Dom t S ∧ Tabs (TbL Pt) H ∧ (∀ y ∈ S, y.limit < t + n) ∧
    ∀ b H' ents', ExtD kd H H' → Tabs (TbL Pt) H' → Mem P w K (Sav W.T W.R) U H' kd ents' → (b = true ↔ Sav W.T W.R t S) → Q (.bl b) H'
/-- the methods of Search -/
structure SMs (K : PySem.W.Frag) (CS fC fT : Addr) (gC gT : FuncData) : Prop where
  mC : Meth K CS "can_save" fC
  FC : FnM K "can_save" "Search.can_save" s_Search_can_save fC gC
  bC : L2.Binds K gC ["self", "state", "tick"] []
  mT : Meth K CS "tried" fT
  FT : FnM K "tried" "Search.tried" s_Search_tried fT gT
  bT : L2.Binds K gT ["self", "state", "tick"] []
theorem ok_tried {n : Nat} {Pt fC fT : Addr} {gC gT : FuncData} (c : Cla K mg CW CD CS CP) (sm : SMs K CS fC fT gC gT) (hl : Has P w K mg base CX0 1 "is_lost" ["web", "state", "tick"] (spIsLost CW)) (hp : Has P w K mg base CX0 24 "picks_of" ["web", "state", "tick"] (spPicks CW Pt))
    (hb : Has P w K mg base CX0 1 "state_behind" ["web", "state", "tick", "picked"] (spBehind CW)) (hc : FnOk P w K mg base CX0 (25 + 2 * n) fC gC ["self", "state", "tick"] (spCan P w K CW CS Pt n)) :
    FnOk P w K mg base CX0 (26 + 2 * n) fT gT ["self", "state", "tick"] (spTried P w K CW CS Pt n) := by
  rw [show 26 + 2 * n = (25 + 2 * n) + 1 by omega]
  refine sm.FT.ok sc_Search_tried (fun vs H Q E ⟨sa, wa, kd, W, U, ents, x, t0, t, S, Dom, e, _⟩ => by rw [e]; rfl) fun cdv A outer s H vs Q E hr ⟨sa, wa, kd, W, U, ents, x, t0, t, S, Dom, e, hs, hm, hx, dm, hD, hJ, hne, hT, hlim, q⟩ => ?_
  subst e
  refine ⟨_, (PSs.nox (pss_cons (ps_if (pt_val (pe_has hl (hr.mono (by omega)) (by rfl) (pa_cons (pe_fldK (K := K) rfl (pv 0) rfl) (pa_cons (pv 1) (pa_cons (pv 2) pa_nil))))) (pss_one (ps_ret pe_bl)) pss_nil) (pss_cons (ps_for PassesOwn.never rfl (pi_list (pe_has hp (hr.mono (by omega)) (by rfl) (pa_cons (pe_fldK (K := K) rfl (pv 0) rfl) (pa_cons (pv 1) (pa_cons (pv 2) pa_nil))))) (pg_name (i := 3) sc_Search_tried.nd rfl (.inl rfl)) (pss_one (ps_if (pt_val (pe_meth (pv 0) c.cS sm.mC hc hr sm.bC .nil pass0 (pa_cons (pe_has hb (hr.mono (by omega)) (by rfl) (pa_cons (pe_fldK (K := K) rfl (pv 0) rfl) (pa_cons (pv 1) (pa_cons (pv 2) (pa_cons (pv 3) pa_nil))))) (pa_cons (pe_op op_add (pv 2) pe_int) pa_nil)))) (pss_one (ps_ret pe_bl)) pss_nil))) (pss_one (ps_ret pe_bl))))), ?_⟩
  have hg := dm.good _ _ hD
  have hS : ∀ y ∈ S, y.rest ≠ [] := fun y hy => (hg.1 y hy).1
  obtain ⟨b, xs, rfl, hbx, hal, hlx⟩ := td_st hx
  obtain ⟨⟨dx, fs, hsa, k1, k2, k3, k4⟩, hW⟩ := id hs
  refine ⟨_, rfl, sa, CS, dx, fs, _, rfl, hsa, c.cS, c.sWeb, k1, _, rfl, _, rfl, wa, W, _, t, S, rfl, hW, hx, hg, fun b1 H1 s1 hb1 => ⟨b1, rfl, ite2 (fun hc1 => ?_) fun hc1 => ?_⟩⟩
  · refine q false H1 ents (.same s1) (hT.ext s1) (hm.same s1) ⟨(fun z => Bool.noConfusion z), fun z => absurd (hb1.mp hc1) z.not_late⟩
  · have hnl : ¬ Late W.T t S := fun z => hc1 (hb1.mpr z)
    cases n with
    | zero => exact absurd (late_past hS hne fun y hy => by have := hlim y hy; omega) hnl
    | succ n =>
    have hm1 := hm.same s1
    have hs1 := hs.keep (IK.of s1)
    obtain ⟨_, hW1⟩ := id hs1
    refine ⟨_, rfl, sa, CS, dx, fs, _, rfl, s1 _ _ hsa, c.cS, c.sWeb, k1, _, rfl, _, rfl, wa, W, _, t, S, rfl, hW1, hx.keep (TK.of s1), hg, hT.ext s1, fun p H2 gr e2 T2 G hpl => ?_⟩
    obtain ⟨ys, hys, hyt⟩ := hpl
    have hm2 := hm1.extN e2
    have ik2 : IK H1 H2 := ⟨TK.ext e2, fun b C dx fs h => e2 _ _ h (fun _ z => by cases z)⟩
    have hs2 := hs1.keep ik2
    have hx2 := (hx.keep (TK.of s1)).keep ik2.1
    refine ⟨p, rfl, ⟨_, sqL hys⟩, for_list (xs := ys) (fun i σ H' => (ExtD kd H2 H' ∧ Tabs (TbL Pt) H' ∧ ∃ es, Mem P w K (Sav W.T W.R) U H' kd es) ∧ (∀ j o, j < i → (prods (allPicks W.R gr))[j]? = some o → ¬ Sav W.T W.R (t + 1) (behind W.T t (pk S o))) ∧ ∃ v3, σ = [some (.ref sa), some (.ref b), some (.int t), v3]) ⟨⟨.refl _ _, T2, _, hm2⟩, fun j o h => absurd h (Nat.not_lt_zero j), _, rfl⟩ (fun i σ H' _ h => h.1.1.sqL hm2.stand (sqL hys)) ?_ ?_⟩
    · rintro i y σ H3 hy ⟨⟨e3, T3, es, hm3⟩, hn, v3, rfl⟩
      obtain ⟨o, ho, to⟩ := hyt.map_got hy
      have ik3 := e3.ik hm2.stand
      have hs3 := hs2.keep ik3
      have hx3 := hx2.keep ik3.1
      have to3 := to.keep ik3.1
      obtain ⟨⟨dx3, fs3, hsa3, k13, k23, k33, k43⟩, hW3⟩ := id hs3
      refine ⟨_, rfl, sa, dx3, fs3, rfl, hsa3, k33, _, rfl, sa, CS, dx3, fs3, _, rfl, hsa3, c.cS, c.sWeb, k13, _, rfl, _, rfl, _, rfl, wa, W, _, y, t, S, o, rfl, hW3, hx3, to3, hg, fun p4 H4 S' s4 hperm hsrt hS' => ?_⟩
      have hm4 := hm3.same s4
      have om : o ∈ prods (allPicks W.R gr) := List.mem_of_getElem? ho
      have hD' := dm.step _ _ _ _ _ _ hD hne hJ hnl G om hperm hsrt
      have hlim' : ∀ y ∈ S', y.limit < t + 1 + (n : Int) := fun y hy => by
        have h1 := hperm.mem_iff.mp hy
        obtain ⟨z, hz, rfl⟩ := List.mem_map.mp (List.mem_filter.mp h1).1
        obtain ⟨bb, lt⟩ := z
        have h2 : lt ∈ S := by
          rw [← pk_snd S o]
          exact List.mem_map.mpr ⟨_, hz, rfl⟩
        have h3 := hlim lt h2
        have e : (stp W.T t (bb, lt)).limit = lt.limit := by cases bb <;> rfl
        rw [e]; omega
      refine ⟨_, rfl, _, _, rfl, rfl, sa, wa, kd, W, U, es, _, _, S', Dom, rfl, hs3.keep (IK.of s4), hm4, hS', dm, hD', T3.ext s4, hlim', fun b5 H5 es5 e5 T5 hm5 hb5 => ⟨b5, rfl, ?_⟩⟩
      have hbe : Sav W.T W.R (t + 1) S' ↔ Sav W.T W.R (t + 1) (behind W.T t (pk S o)) := ⟨fun z => z.mono (fun r => (W.T1 r).1) (.perm hperm.symm), fun z => z.mono (fun r => (W.T1 r).1) (.perm hperm)⟩
      have e35 : ExtD kd H3 H5 := (ExtD.same s4).trans e5
      refine ite2 (fun h5 => ?_) fun h5 => ?_
      · refine q true H5 es5 ((ExtD.same s1).trans ((ExtD.of e2).trans (e3.trans e35))) T5 hm5 ⟨fun _ => ?_, fun _ => rfl⟩
        exact (sav_tried (fun r => (W.T1 r).1) G hS hne hnl).mpr ⟨o, om, hbe.mp (hb5.mp h5)⟩
      · refine ⟨⟨e3.trans e35, T5, es5, hm5⟩, fun j o' hj ho' => ?_, _, rfl⟩
        rcases Nat.lt_succ_iff_lt_or_eq.mp hj with h | h
        · exact hn j o' h ho'
        · subst h
          rw [ho] at ho'
          cases ho'
          exact fun z => h5 (hb5.mpr (hbe.mpr z))
    · rintro σ H3 ⟨⟨e3, T3, es, hm3⟩, hn, v3, rfl⟩
      refine q false H3 es ((ExtD.same s1).trans ((ExtD.of e2).trans e3)) T3 hm3 ⟨(fun z => Bool.noConfusion z), fun z => ?_⟩
      obtain ⟨o, om, so⟩ := (sav_tried (fun r => (W.T1 r).1) G hS hne hnl).mp z
      obtain ⟨j, hj, e⟩ := List.mem_iff_getElem.mp om
      refine absurd so (hn j o ?_ (by rw [← e]; exact List.getElem?_eq_getElem hj))
      rw [hyt.len, List.length_map]; exact hj
theorem ok_can {n : Nat} {Pt fC fT : Addr} {gC gT : FuncData} (ev : Ev mg) (c : Cla K mg CW CD CS CP) (sm : SMs K CS fC fT gC gT) (ht : FnOk P w K mg base CX0 (26 + 2 * n) fT gT ["self", "state", "tick"] (spTried P w K CW CS Pt n)) :
    FnOk P w K mg base CX0 (27 + 2 * n) fC gC ["self", "state", "tick"] (spCan P w K CW CS Pt (n + 1)) := by
  rw [show 27 + 2 * n = (26 + 2 * n) + 1 by omega]
  refine sm.FC.ok sc_Search_can_save (fun vs H Q E ⟨sa, wa, kd, W, U, ents, x, t, S, Dom, e, _⟩ => by rw [e]; rfl) fun cdv A outer s H vs Q E hr ⟨sa, wa, kd, W, U, ents, x, t, S, Dom, e, hs, hm, hx, dm, hD, hT, hlim, q⟩ => ?_
  subst e
  have hu := hr.units
  refine ⟨_, (PSs.nox (pss_cons (ps_if (pt_cmpR op_eq (pe_callB (lenS (K := K) rfl) (by rfl) ev.len PySem.boot_len (pa_cons (pv 1) pa_nil)) pe_int (nomark _)) (pss_one (ps_ret pe_bl)) pss_nil) (pss_cons (ps_set (i := 2) sc_Search_can_save.nd rfl (.inl rfl) (pe_callB ((call_max2 rfl)) (by rfl) ev.max (by decide +kernel) (pa_cons (pv 2) (pa_cons (pe_callB ((minK (K := K) rfl rfl)) (by rfl) ev.min (by decide +kernel) (pa_cons (pe_lc (own := [("rest", 3), ("ready", 4), ("limit", 5)]) rfl sc_Search_can_save.nd (pi_tup (pv 1)) (blkOk_by (own := [("rest", 3), ("ready", 4), ("limit", 5)]) (N := sc_Search_can_save_N) (sc := sc_Search_can_save_S) (by decide +kernel)) (fun _ _ _ _ _ => (pgTupK (K := K) (n := 3) rfl rfl (pgs_cons (pg_name (i := 3) sc_Search_can_save.nd rfl (.inl rfl)) (pgs_cons (pg_name (i := 4) sc_Search_can_save.nd rfl (.inl rfl)) (pgs_cons (pg_name (i := 5) sc_Search_can_save.nd rfl (.inl rfl)) pgs_nil))) rfl rfl)) (fun _ _ _ _ _ => pts_nil) (fun _ _ _ _ _ => (pv 4))) pa_nil)) pa_nil)))) (pss_cons (ps_set (i := 6) sc_Search_can_save.nd rfl (.inl rfl) (pe_tup (pa_cons (pv 1) (pa_cons (pv 2) pa_nil)))) (pss_cons (ps_if (pt_cmp (pc_nnotin hu (pv 6) (pe_fldK (K := K) rfl (pv 0) rfl)) (by rfl)) (pss_one (ps_nput hu (pe_fldK (K := K) rfl (pv 0) rfl) (pv 6) (pe_meth (pv 0) c.cS sm.mT ht hr sm.bT .nil pass0 (pa_cons (pv 1) (pa_cons (pv 2) pa_nil))) rfl)) pss_nil) (pss_one (ps_ret (pe_nget hu (pe_fldK (K := K) rfl (pv 0) rfl) (pv 6) (fun _ _ => rfl))))))))), ?_⟩
  have hg := dm.good _ _ hD
  obtain ⟨b, xs, rfl, hbx, hal, hlx⟩ := td_st hx
  obtain ⟨⟨dx, fs, hsa, k1, k2, k3, k4⟩, hW⟩ := id hs
  refine ⟨_, rfl, b, _, rfl, .inr (sqT hbx), rfl, _, rfl, ite2 (fun hc1 => ?_) fun hc1 => ?_⟩
  · have h0 : S = [] := by
      have h2 := V.int.inj (of_decide_eq_true hc1)
      have : S.length = 0 := by omega
      exact List.length_eq_zero_iff.mp this
    subst h0
    exact q true H ents (.refl _ _) hT hm ⟨fun _ => .done (fun _ z => nomatch z), fun _ => rfl⟩
  · have hne : S ≠ [] := fun z => by
      subst z
      refine hc1 (decide_eq_true ?_)
      rw [hlx]; rfl
    have hS0 : 0 < S.length := List.length_pos_iff.mpr hne
    have hS20 := hg.2
    refine ⟨_, rfl, _, rfl, b, rfl, ⟨_, sqT hbx⟩, fun D hD0 => lc_tup (xs := xs) (fun i H' => Same H H' ∧ H' D = some (.lst (((S.take i).map Lt.ready).map V.int))) ⟨same_new hD0, upd_same⟩ (fun i H' _ h => sqT (h.1 _ _ hbx)) (fun j y H' hy ⟨s3, e3⟩ => ?_) fun H1 ⟨s1, e1⟩ => ?_⟩
    · obtain ⟨l, hl, tl⟩ := hal.map_got hy
      obtain ⟨c1, c2, rfl, hc1, hc2⟩ := td_lt (tl.keep (TK.of s3))
      refine ⟨c1, _, rfl, sqT hc1, rfl, _, _, rfl, _, _, rfl, _, _, rfl, rfl, rfl, _, rfl, _, e3, len_line (by rw [List.length_map, List.length_map, List.length_take]; omega), same_at s3 hD0 e3, ?_⟩
      rw [upd_same, take_snoc hl, List.map_append, List.map_append]
      rfl
    · rw [hlx, List.take_length] at e1
      refine ⟨D, S.map Lt.ready, rfl, sqL e1, by rw [List.length_map]; exact hS0, fun m hm1 hm2 => ⟨_, _, rfl, ?_⟩⟩
      have hmx : (if m > t then m else t) = max t m := by split <;> omega
      have hJ : IsJ t S (max t m) := by
        obtain ⟨x, hx, e⟩ := List.mem_map.mp hm1
        exact ⟨m, ⟨x, hx, e⟩, fun x hx => hm2 _ (List.mem_map.mpr ⟨x, hx, rfl⟩), rfl⟩
      rw [hmx]
      have hJl := hJ.le
      generalize max t m = t' at hJ hJl
      refine ⟨_, rfl, _, rfl, by show 2 ≤ sizeLine; decide, fun kp hkp => ?_⟩
      have s2 : Same H1 (upd H1 kp (.tup [.ref b, .int t'])) := same_new hkp
      have hk2 : upd H1 kp (.tup [.ref b, .int t']) kp = some (.tup [.ref b, .int t']) := upd_same
      generalize upd H1 kp (.tup [.ref b, .int t']) = H2 at s2 hk2
      have s02 := s1.trans s2
      have hm2 := hm.same s02
      have hs2 := hs.keep (IK.of s02)
      have hx2 := hx.keep (TK.of s02)
      have hT2 := hT.ext s02
      have kdp : ∀ {H' : Hp}, TK H2 H' → Dp K H' (.ref kp) (keyOf S t').data := fun {H'} k => by
        rw [keyOf_data]
        exact (Td.tup (k _ _ hk2) (.cons (hx2.keep k) (.cons (.int t') .nil))).dp
      have hU := dm.key _ _ _ hD hne hJ
      have fin : ∀ {H3 : Hp} {es : List NEnt} {v : V}, ExtD kd H2 H3 → Tabs (TbL Pt) H3 → Mem P w K (Sav W.T W.R) U H3 kd es → atN es (keyOf S t') = some v → Q v H3 := fun {H3 es v} e3 T3 m3 hv => by
        obtain ⟨bb, rfl, hbb⟩ := m3.memo.get hv
        exact q bb H3 es ((ExtD.same s02).trans e3) T3 m3 (hbb.trans hJ.sav.symm)
      have ret : ∀ {H3 : Hp} {es : List NEnt} {v : V}, ExtD kd H2 H3 → Tabs (TbL Pt) H3 → Mem P w K (Sav W.T W.R) U H3 kd es → atN es (keyOf S t') = some v → tNGet P w K (tFld K (tVar 0) "known") (tVar 6) [some (.ref sa), some (.ref b), some (.int t'), none, none, none, some (.ref kp)] H3 Q := fun {H3 es v} e3 T3 m3 hv => by
        have ik3 := e3.ik hm2.stand
        obtain ⟨⟨dx3, fs3, hsa3, k13, k23, k33, k43⟩, hW3⟩ := hs2.keep ik3
        exact ⟨_, rfl, sa, CS, dx3, fs3, _, rfl, hsa3, c.cS, c.sKnown, k23, _, rfl, kd, kp, es, keyOf S t', v, ⟨rfl, rfl, m3.stand, m3.ks, kdp ik3.1, keyOf_depth S t'⟩, hv, fin e3 T3 m3 hv⟩
      obtain ⟨⟨dx2, fs2, hsa2, k12, k22, k32, k42⟩, hW2⟩ := id hs2
      refine ⟨_, rfl, _, rfl, sa, CS, dx2, fs2, _, rfl, hsa2, c.cS, c.sKnown, k22, kd, kp, ents, keyOf S t', ⟨rfl, rfl, hm2.stand, hm2.ks, kdp (TK.refl _), keyOf_depth S t'⟩, _, rfl, ite2 (fun hn => ?_) fun hn => ?_⟩
      · refine ⟨_, rfl, sa, dx2, fs2, rfl, hsa2, k42, _, rfl, _, rfl, sa, wa, kd, W, U, ents, _, t, t', S, Dom, rfl, hs2, hm2, hx2, dm, hD, hJ, hne, hT2, fun y hy => by have := hlim y hy; omega, fun b3 H3 es3 e3 T3 m3 hb3 => ?_⟩
        have ik3 := e3.ik hm2.stand
        obtain ⟨⟨dx3, fs3, hsa3, k13, k23, k33, k43⟩, hW3⟩ := hs2.keep ik3
        have hlen : es3.length < sizeLine := by
          have h1 := m3.memo.len
          have h2 := dm.few
          rw [sizeLine_eq]; omega
        refine ⟨_, rfl, sa, CS, dx3, fs3, _, rfl, hsa3, c.cS, c.sKnown, k23, _, rfl, kd, kp, es3, keyOf S t', ⟨rfl, rfl, m3.stand, m3.ks, kdp ik3.1, keyOf_depth S t'⟩, hlen, ?_⟩
        exact ret (e3.put) (tabs_nd T3 m3.stand) (m3.put (kdp ik3.1) hU hb3) (atN_put_self _ _ _ _)
      · have hv : (atN ents (keyOf S t')).isSome = true := by
          cases h : (atN ents (keyOf S t')).isSome with
          | true => rfl
          | false => exact absurd (by rw [h]; rfl) hn
        obtain ⟨v, hv⟩ := Option.isSome_iff_exists.mp hv
        exact ret (.refl _ _) hT2 hm2 hv
theorem FnOk.nothing {k : Nat} {f : Addr} {fd : FuncData} {x q : Str} {st : Stmt} {ps : List Str} (F : FnM K x q st f fd) : FnOk P w K mg base CX0 k f fd ps (fun _ _ _ _ => False) := ⟨fun _ _ _ _ h => h.elim, fun _ _ _ _ _ _ _ _ _ _ _ _ _ h => h.elim⟩
theorem search_ok {Pt fC fT : Addr} {gC gT : FuncData} (ev : Ev mg) (c : Cla K mg CW CD CS CP) (sm : SMs K CS fC fT gC gT) (hl : Has P w K mg base CX0 1 "is_lost" ["web", "state", "tick"] (spIsLost CW)) (hp : Has P w K mg base CX0 24 "picks_of" ["web", "state", "tick"] (spPicks CW Pt))
    (hb : Has P w K mg base CX0 1 "state_behind" ["web", "state", "tick", "picked"] (spBehind CW)) : ∀ n : Nat, FnOk P w K mg base CX0 (25 + 2 * n) fC gC ["self", "state", "tick"] (spCan P w K CW CS Pt n)
  | 0 => FnOk.nothing sm.FC
  | n + 1 => by
    rw [show 25 + 2 * (n + 1) = 27 + 2 * n by omega]
    exact ok_can ev c sm (ok_tried c sm hl hp hb (search_ok ev c sm hl hp hb n))
end
end Hc
end

section
set_option Elab.async false
set_option linter.all false
set_option maxRecDepth 100000
set_option maxHeartbeats 4000000
namespace Hc
open PySem PySem.Spec PyProof.Rows L2 HcR LamX
section
variable {P : Program} {w : World} {K : PySem.W.Frag} {mg : Str → Option Value} {base : Heap}

/-- letters at their start -/
structure GoodI (L : List Lt) : Prop where
  letters : ∀ x ∈ L, (x.rest ≠ [] ∧ x.rest.length ≤ 8 ∧ ∀ r ∈ x.rest, r < 5) ∧ 1 ≤ x.ready ∧ x.ready ≤ 30 ∧ x.limit ≤ 30
  len : L.length ≤ 20
  wt : wtS L ≤ 100000
def DomS (Ls : List (List Lt)) (t : Int) (S : List Lt) : Prop := 1 ≤ t ∧ t ≤ 31 ∧ Srt S ∧ ∃ L ∈ Ls, ∃ S0, S.Perm S0 ∧ Sts t L S0
noncomputable def keysS (Ls : List (List Lt)) : List NestedKey := (List.range 34).flatMap fun t : Nat => Ls.flatMap fun L => (enumS (t : Int) L).map fun S0 => keyOf (canonS S0) (t : Int)
theorem flatMap_le {α β : Type} (f : α → List β) (n : Nat) : ∀ l : List α, (∀ x ∈ l, (f x).length ≤ n) → (l.flatMap f).length ≤ l.length * n
  | [], _ => by simp
  | x :: l, h => by
    have h1 := h x (List.mem_cons_self ..)
    have h2 := flatMap_le f n l fun y hy => h y (List.mem_cons_of_mem _ hy)
    rw [List.flatMap_cons, List.length_append, List.length_cons, Nat.succ_mul]
    omega
theorem GoodI.state {L S0 S : List Lt} {t : Int} (g : GoodI L) (h : Sts t L S0) (p : S.Perm S0) : GoodS S := by
  refine ⟨fun y hy => ?_, by rw [p.length_eq]; exact Nat.le_trans h.len g.len⟩
  obtain ⟨x, hx, hr, _, _, _⟩ := h.mem y (p.mem_iff.mp hy)
  obtain ⟨⟨h1, h2, h3⟩, _⟩ := g.letters x hx
  rcases hr with e | ⟨k, hk, e⟩
  · rw [e]; exact ⟨h1, h2, h3⟩
  · rw [e]
    refine ⟨fun z => ?_, by rw [List.length_drop]; omega, fun r hr => h3 r (List.mem_of_mem_drop hr)⟩
    have := congrArg List.length z
    rw [List.length_drop] at this
    simp at this
    omega
theorem domn (W : WD) {Ls : List (List Lt)} (h : ∀ L ∈ Ls, GoodI L) (hn : Ls.length ≤ 2) : Domn W (keysS Ls) (DomS Ls) := by
  refine ⟨?_, ?_, ?_, ?_⟩
  · unfold keysS
    have h1 : ∀ t ∈ List.range 34, (Ls.flatMap fun L => (enumS (t : Int) L).map fun S0 => keyOf (canonS S0) (t : Int)).length ≤ 200000 := fun t _ => by
      have := flatMap_le (fun L => (enumS (t : Int) L).map fun S0 => keyOf (canonS S0) (t : Int)) 100000 Ls fun L hL => by
        rw [List.length_map, enumS_length]; exact (h L hL).wt
      omega
    have := flatMap_le _ 200000 _ h1
    rw [List.length_range] at this
    omega
  · rintro t S ⟨_, _, _, L, hL, S0, p, hs⟩
    exact (h L hL).state hs p
  · rintro t S t' ⟨h1, h2, hsrt, L, hL, S0, p, hs⟩ hne hJ
    have hl := hJ.le
    obtain ⟨m, ⟨x, hx, hxm⟩, hm, e⟩ := hJ
    have hs' := hs.jump hl fun y hy => by
      obtain ⟨z, hz, _, _, h3, _⟩ := hs.mem y hy
      have := hm y (p.mem_iff.mpr hy)
      omega
    obtain ⟨z, hz, _, _, _, h4⟩ := hs.mem x (p.mem_iff.mp hx)
    obtain ⟨_, _, h5, _⟩ := (h L hL).letters z hz
    refine List.mem_flatMap.mpr ⟨t'.toNat, List.mem_range.mpr (by omega), List.mem_flatMap.mpr ⟨L, hL, List.mem_map.mpr ⟨S0, ?_, ?_⟩⟩⟩
    · rw [show (t'.toNat : Int) = t' by omega]; exact hs'.enum
    · rw [show (t'.toNat : Int) = t' by omega, canon_eq p hsrt]
  · rintro t S t' gr o S' ⟨h1, h2, hsrt, L, hL, S0, p, hs⟩ hne hJ hnl G ho hp' hsrt'
    have hl := hJ.le
    obtain ⟨m, ⟨x, hx, hxm⟩, hm, e⟩ := hJ
    have hs' := hs.jump hl fun y hy => by
      obtain ⟨z, hz, _, _, h3, _⟩ := hs.mem y hy
      have := hm y (p.mem_iff.mpr hy)
      omega
    have hgs := (h L hL).state hs p
    have ht30 : t' ≤ 30 := by
      obtain ⟨z, hz, _, hzl, _, _⟩ := hs.mem x (p.mem_iff.mp hx)
      obtain ⟨_, _, _, h5⟩ := (h L hL).letters z hz
      refine Int.not_lt.mp fun hlt => hnl ⟨x, hx, (hgs.1 x hx).1, ?_⟩
      have h6 := tsum_nonneg (tm := W.T) (fun r => (W.T1 r).1) x.rest.dropLast
      unfold due
      omega
    obtain ⟨P0, e0, pp⟩ := perm_lift (fun q : Bool × Lt => q.2) p.symm (pk S o) (pk_snd S o)
    refine ⟨by omega, by omega, hsrt', L, hL, behind W.T t' P0, hp'.trans ?_, hs'.step (fun r => W.T1 r) P0 e0⟩
    exact ((pp.map _).filter _).symm
/-- from the first stage to the second -/
theorem domS_join {early later : List Lt} {u t : Int} {S S' : List Lt} {Ls : List (List Lt)} (hd : DomS [early] t S) (ht : t ≤ u + 1) (hu : 0 ≤ u) (hu2 : u ≤ 30) (hr : ∀ x ∈ S, u + 1 ≤ x.ready) (hm : early ++ later ∈ Ls) (hl : ∀ x ∈ later, u + 1 ≤ x.ready) (hp : S'.Perm (S ++ later)) (hs : Srt S') : DomS Ls (u + 1) S' := by
  obtain ⟨h1, h2, hsrt, L, hL, S0, p, hst⟩ := hd
  have hL : L = early := by simpa using hL
  subst hL
  refine ⟨by omega, by omega, hs, _, hm, S0 ++ later, hp.trans (p.append_right _), ?_⟩
  exact (hst.jump ht fun y hy => hr y (p.mem_iff.mpr hy)).append (.first hl)
theorem domS_first {early S : List Lt} (hp : S.Perm early) (hs : Srt S) (h1 : ∀ x ∈ early, 1 ≤ x.ready) : DomS [early] 1 S := ⟨by omega, by omega, hs, early, List.mem_singleton.mpr rfl, early, hp, .first h1⟩
end
end Hc
end

section
set_option Elab.async false
set_option linter.all false
set_option maxRecDepth 100000
set_option maxHeartbeats 4000000
namespace Hc
open PySem PySem.Spec PyProof.Rows L2 HcR LamX
section
variable {P : Program} {w : World} {K : PySem.W.Frag} {mg : Str → Option Value} {base : Heap}

variable {CW CD CS CP : Addr}
/-- what a Pair is about -/
structure PD where
  W : WD
  u : Int
  ls : List (List Lt)
  early : List Lt
def PD.G (d : PD) (S : List Lt) : Prop := ∀ l ∈ d.ls, Sav d.W.T d.W.R (d.u + 1) (S ++ l)
def PD.B (d : PD) (t : Int) (S : List Lt) : Prop := Both d.W.T d.W.R d.u d.G t S
def PD.Ls (d : PD) : List (List Lt) := d.ls.map fun l => d.early ++ l
structure GoodP (d : PD) : Prop where
  u1 : 1 ≤ d.u
  u2 : d.u ≤ 30
  two : d.ls.length ≤ 2
  one : 0 < d.ls.length
  early : GoodI d.early
  ls : ∀ l ∈ d.ls, GoodI (d.early ++ l)
  late : ∀ l ∈ d.ls, ∀ x ∈ l, d.u + 1 ≤ x.ready
theorem PD.G_R {d : PD} {S S' : List Lt} (r : R d.W.T (d.u + 1) S S') (h : d.G S') : d.G S := fun l hl => (h l hl).mono (fun r => (d.W.T1 r).1) (r.append_right l)
theorem PD.G_late {d : PD} (g : GoodP d) {S : List Lt} (h : d.G S) : ¬ Late d.W.T (d.u + 1) S := by
  obtain ⟨l, hl⟩ := List.exists_mem_of_ne_nil d.ls (List.length_pos_iff.mp g.one)
  rintro ⟨x, hx, hq⟩
  exact (h l hl).not_late ⟨x, List.mem_append_left _ hx, hq⟩
theorem PD.B_past {d : PD} (g : GoodP d) {t : Int} {S : List Lt} (ht : t ≤ d.u + 1) (h : ∀ x ∈ S, d.u + 1 ≤ x.ready) : d.B t S ↔ d.G S := by
  have e : t + ((d.u + 1 - t).toNat : Int) = d.u + 1 := by omega
  have h2 := both_jump (tm := d.W.T) (rm := d.W.R) (u := d.u) (G := d.G) (fun S h => PD.G_late g h) (S := S) (d.u + 1 - t).toNat (t := t) (by omega) (fun x hx => by have := h x hx; omega)
  rw [e] at h2
  exact h2.trans (both_past rfl)
theorem PD.B_jump {d : PD} (g : GoodP d) {t t' : Int} {S : List Lt} (hJ : IsJ t S t') (ht : t' ≤ d.u) : d.B t S ↔ d.B t' S := by
  obtain ⟨m, h1, h2, e⟩ := hJ
  rcases Int.le_total t m with l | l
  · have em : t' = m := by omega
    subst em
    have e : t + ((t' - t).toNat : Int) = t' := by omega
    have h3 := both_jump (tm := d.W.T) (rm := d.W.R) (u := d.u) (G := d.G) (fun S h => PD.G_late g h) (S := S) (t' - t).toNat (t := t) (by omega) (fun x hx => by have := h2 x hx; omega)
    rw [e] at h3
    exact h3
  · have e : t' = t := by omega
    subst e
    exact Iff.rfl
/-- all but k1, k2 and the tables is kept -/
def Ext2 (k1 k2 : Addr) (H H' : Hp) : Prop := ∀ b o, H b = some o → b ≠ k1 → b ≠ k2 → (∀ ps, o ≠ .tbl ps) → H' b = some o
section
variable {k1 k2 : Addr} {H H1 H' : Hp}
theorem Ext2.refl (k1 k2 : Addr) (H : Hp) : Ext2 k1 k2 H H := fun _ _ h _ _ _ => h
theorem Ext2.trans (a : Ext2 k1 k2 H H1) (b : Ext2 k1 k2 H1 H') : Ext2 k1 k2 H H' := fun c o h n m q => b c o (a c o h n m q) n m q
theorem Ext2.of (e : ExtN H H') : Ext2 k1 k2 H H' := fun b o h _ _ m => e b o h m
theorem Ext2.same (e : Same H H') : Ext2 k1 k2 H H' := fun b o h _ _ _ => e b o h
theorem Ext2.left (e : ExtD k1 H H') : Ext2 k1 k2 H H' := fun b o h n _ m => e b o h n m
theorem Ext2.put {o : HO} (e : Ext2 k1 k2 H H') : Ext2 k1 k2 H (upd H' k2 o) := fun b u h n m q => by rw [upd_ne m]; exact e b u h n m q
theorem Ext2.ik {xs ys : List NEnt} (e : Ext2 k1 k2 H H') (h1 : H k1 = some (NdO P w k1 xs)) (h2 : H k2 = some (NdO P w k2 ys)) : IK H H' :=
  ⟨fun b ys hb => e b _ hb (ne_of hb h1 (nd_ne fun _ z => by cases z)) (ne_of hb h2 (nd_ne fun _ z => by cases z)) (fun _ z => by cases z), fun b C dx fs hb => e b _ hb (ne_of hb h1 (nd_ne fun _ z => by cases z)) (ne_of hb h2 (nd_ne fun _ z => by cases z)) (fun _ z => by cases z)⟩
theorem Ext2.lst {xs ys : List NEnt} {p : Addr} {zs : List V} (e : Ext2 k1 k2 H H') (h1 : H k1 = some (NdO P w k1 xs)) (h2 : H k2 = some (NdO P w k2 ys)) (hp : H p = some (.lst zs)) : H' p = some (.lst zs) :=
  e p _ hp (ne_of hp h1 (nd_ne fun _ z => by cases z)) (ne_of hp h2 (nd_ne fun _ z => by cases z)) (fun _ z => by cases z)
end
/-- the two memos -/
structure PSt (P : Program) (w : World) (K : PySem.W.Frag) (d : PD) (H : Hp) (kd sd : Addr) (e1 e2 : List NEnt) : Prop where
  ne : kd ≠ sd
  m1 : Mem P w K (Sav d.W.T d.W.R) (keysS d.Ls) H kd e1
  m2 : Mem P w K d.B (keysS [d.early]) H sd e2
section
variable {d : PD} {H H' : Hp} {kd sd : Addr} {e1 e2 : List NEnt}
theorem PSt.extN (m : PSt P w K d H kd sd e1 e2) (e : ExtN H H') : PSt P w K d H' kd sd e1 e2 := ⟨m.ne, m.m1.extN e, m.m2.extN e⟩
theorem PSt.same (m : PSt P w K d H kd sd e1 e2) (e : Same H H') : PSt P w K d H' kd sd e1 e2 := ⟨m.ne, m.m1.same e, m.m2.same e⟩
theorem PSt.left {e1' : List NEnt} (m : PSt P w K d H kd sd e1 e2) (e : ExtD kd H H') (m1 : Mem P w K (Sav d.W.T d.W.R) (keysS d.Ls) H' kd e1') : PSt P w K d H' kd sd e1' e2 := ⟨m.ne, m1, m.m2.ext e m.m1.stand (Ne.symm m.ne)⟩
theorem PSt.put (m : PSt P w K d H kd sd e1 e2) {S : List Lt} {t : Int} {b : Bool} {a : Addr} (ha : Dp K H (.ref a) (keyOf S t).data) (hU : keyOf S t ∈ keysS [d.early]) (hb : b = true ↔ d.B t S) :
    PSt P w K d (upd H sd (NdO P w sd (putN e2 (keyOf S t) a (.bl b)))) kd sd e1 (putN e2 (keyOf S t) a (.bl b)) :=
  ⟨m.ne, m.m1.ext ((ExtD.refl sd H).put) m.m2.stand m.ne, m.m2.put ha hU hb⟩
end
/-- a Pair stands at pa -/
def PrAt (CW CS CP : Addr) (d : PD) (H : Hp) (pa sa wa kd sd : Addr) : Prop := (∃ dx fs la xs, H pa = some (.ins CP dx fs) ∧ fs.lookup ("search" : Str) = some (.ref sa) ∧ fs.lookup ("later" : Str) = some (.ref la) ∧ fs.lookup ("until" : Str) = some (.int d.u) ∧ fs.lookup ("seen" : Str) = some (.ref sd) ∧
  fs.lookup ("both_saved" : Str) = none ∧ fs.lookup ("saved_behind" : Str) = none ∧ fs.lookup ("both_tried" : Str) = none ∧ H la = some (.tup xs) ∧ TdAll H xs (d.ls.map dSt)) ∧ SchAt CW CS H sa wa kd d.W
theorem PrAt.keep {d : PD} {H H' : Hp} {pa sa wa kd sd : Addr} (k : IK H H') (h : PrAt CW CS CP d H pa sa wa kd sd) : PrAt CW CS CP d H' pa sa wa kd sd := by
  obtain ⟨⟨dx, fs, la, xs, e, h1, h2, h3, h4, h5, h6, h7, h8, h9⟩, hs⟩ := h
  exact ⟨⟨dx, fs, la, xs, k.2 _ _ _ _ e, h1, h2, h3, h4, h5, h6, h7, k.1 _ _ h8, h9.keep k.1⟩, hs.keep k⟩
/-- what every method of a Pair asks, and what it leaves -/
def spPair (P : Program) (w : World) (K : PySem.W.Frag) (CW CS CP Pt : Addr) (R : PD → List V → Addr → V → List Lt → Prop) (A : PD → List V → List Lt → Prop) : Sp := fun vs H Q _ => ∃ (d : PD) (pa sa wa kd sd : Addr) (e1 e2 : List NEnt) (x : V) (S : List Lt), GoodP d ∧ PrAt CW CS CP d H pa sa wa kd sd ∧ PSt P w K d H kd sd e1 e2 ∧ Td H x (dSt S) ∧ Tabs (TbL Pt) H ∧
  R d vs pa x S ∧ ∀ b H' e1' e2', Ext2 kd sd H H' → Tabs (TbL Pt) H' → PSt P w K d H' kd sd e1' e2' → (b = true ↔ A d vs S) → Q (.bl b) H'
def spSB (P : Program) (w : World) (K : PySem.W.Frag) (CW CS CP Pt : Addr) : Sp := spPair P w K CW CS CP Pt (fun d vs pa x S => vs = [.ref pa, x] ∧ (∃ t, DomS [d.early] t S ∧ t ≤ d.u + 1) ∧ ∀ y ∈ S, d.u + 1 ≤ y.ready) (fun d _ S => d.G S)
def spBS (P : Program) (w : World) (K : PySem.W.Frag) (CW CS CP Pt : Addr) (n : Nat) : Sp := spPair P w K CW CS CP Pt (fun d vs pa x S => ∃ t, vs = [.ref pa, x, .int t] ∧ DomS [d.early] t S ∧ t ≤ d.u + 1 ∧ d.u + 1 ≤ t + n) (fun d vs S => ∀ pa x t, vs = [pa, x, .int t] → d.B t S)
def spBT (P : Program) (w : World) (K : PySem.W.Frag) (CW CS CP Pt : Addr) (n : Nat) : Sp := spPair P w K CW CS CP Pt (fun d vs pa x S => ∃ t0 t, vs = [.ref pa, x, .int t] ∧ DomS [d.early] t0 S ∧ IsJ t0 S t ∧ S ≠ [] ∧ t ≤ d.u ∧ d.u + 1 ≤ t + n) (fun d vs S => ∀ pa x t, vs = [pa, x, .int t] → d.B t S)
theorem all_vs {d : PD} {S : List Lt} {a x : V} {t : Int} : (∀ pa y t', ([a, x, .int t] : List V) = [pa, y, .int t'] → d.B t' S) ↔ d.B t S :=
  ⟨fun h => h _ _ _ rfl, fun h pa y t' e => by
    injection e with _ e
    injection e with _ e
    injection e with e _
    cases e
    exact h⟩
/-- the methods of Pair -/
structure PMs (K : PySem.W.Frag) (CP fS fB fT : Addr) (gS gB gT : FuncData) : Prop where
  mS : Meth K CP "saved_behind" fS
  FS : FnM K "saved_behind" "Pair.saved_behind" s_Pair_saved_behind fS gS
  bS : L2.Binds K gS ["self", "state"] []
  mB : Meth K CP "both_saved" fB
  FB : FnM K "both_saved" "Pair.both_saved" s_Pair_both_saved fB gB
  bB : L2.Binds K gB ["self", "state", "tick"] []
  mT : Meth K CP "both_tried" fT
  FT : FnM K "both_tried" "Pair.both_tried" s_Pair_both_tried fT gT
  bT : L2.Binds K gT ["self", "state", "tick"] []
theorem sts_limit {L S S0 : List Lt} {t : Int} (g : GoodI L) (h : Sts t L S0) (p : S.Perm S0) : ∀ y ∈ S, y.limit ≤ 30 := fun y hy => by
  obtain ⟨x, hx, _, e, _⟩ := h.mem y (p.mem_iff.mp hy)
  have := (g.letters x hx).2.2.2
  omega
theorem ok_saved_behind {Pt fC fT0 fS fB fT : Addr} {gC gT0 gS gB gT : FuncData} (c : Cla K mg CW CD CS CP) (sm : SMs K CS fC fT0 gC gT0) (pm : PMs K CP fS fB fT gS gB gT)
    (hc : FnOk P w K mg base CX0 87 fC gC ["self", "state", "tick"] (spCan P w K CW CS Pt 31)) (ev : Ev mg) : FnOk P w K mg base CX0 88 fS gS ["self", "state"] (spSB P w K CW CS CP Pt) := by
  refine pm.FS.ok sc_Pair_saved_behind (fun vs H Q E ⟨d, pa, sa, wa, kd, sd, e1, e2, x, S, _, _, _, _, _, ⟨e, _⟩, _⟩ => by rw [e]; rfl) fun cdv A outer s H vs Q E hr ⟨d, pa, sa, wa, kd, sd, e1, e2, x, S, gp, hp, hm, hx, hT, ⟨e, ⟨t, hD, ht⟩, hrd⟩, q⟩ => ?_
  subst e
  have hu := hr.units
  refine ⟨_, (PSs.nox (pss_cons (ps_for PassesOwn.never rfl (pi_tup (pe_fldK (K := K) rfl (pv 0) rfl)) (pg_name (i := 2) sc_Pair_saved_behind.nd rfl (.inl rfl)) (pss_one (ps_if (pt_not (pt_val (pe_meth (pe_fldK (K := K) rfl (pv 0) rfl) c.cS sm.mC hc hr sm.bC .nil pass0 (pa_cons (pe_callTy ((tupOf (K := K) rfl)) (by rfl) ev.tuple (by decide +kernel) (pa_cons (pe_callB ((cr_sortT3 hu)) (by rfl) ev.sorted (by decide +kernel) (pa_cons (pe_op opCatU (pv 1) (pv 2)) pa_nil)) pa_nil)) (pa_cons (pe_op op_add (pe_fldK (K := K) rfl (pv 0) rfl) pe_int) pa_nil))))) (pss_one (ps_ret pe_bl)) pss_nil))) (pss_one (ps_ret pe_bl)))), ?_⟩
  have hdom := domn d.W (Ls := d.Ls) (fun L hL => by
    obtain ⟨l, hl, rfl⟩ := List.mem_map.mp hL
    exact gp.ls l hl) (by unfold PD.Ls; rw [List.length_map]; exact gp.two)
  obtain ⟨b, xs, rfl, hb, hal, hlx⟩ := td_st hx
  obtain ⟨⟨dx, fs, la, ys, hpa, k1, k2, k3, k4, k5, k6, k7, hla, hly⟩, hs⟩ := id hp
  refine ⟨_, rfl, pa, CP, dx, fs, _, rfl, hpa, c.cP, c.pLater, k2, la, rfl, ⟨_, sqT hla⟩, for_tup (xs := ys) (fun i σ H' => (ExtD kd H H' ∧ Tabs (TbL Pt) H' ∧ ∃ es, Mem P w K (Sav d.W.T d.W.R) (keysS d.Ls) H' kd es) ∧ (∀ j l, j < i → d.ls[j]? = some l → Sav d.W.T d.W.R (d.u + 1) (S ++ l)) ∧ ∃ v2, σ = [some (.ref pa), some (.ref b), v2]) ⟨⟨.refl _ _, hT, _, hm.m1⟩, fun j l h => absurd h (Nat.not_lt_zero j), _, rfl⟩ (fun i σ H' _ h => h.1.1.sqT hm.m1.stand (sqT hla)) ?_ ?_⟩
  · rintro i y σ H1 hy ⟨⟨e1, T1, es, hm1⟩, hn, v2, rfl⟩
    obtain ⟨l, hl, tl⟩ := hly.map_got hy
    have ik1 := e1.ik hm.m1.stand
    have tl1 := tl.keep ik1.1
    obtain ⟨lb, lxs, rfl, hlb, hlal, hllx⟩ := td_st tl1
    have hlm : l ∈ d.ls := List.mem_of_getElem? hl
    have hs1 := hs.keep ik1
    obtain ⟨⟨dx1, fs1, hsa1, j1, j2, j3, j4⟩, hW1⟩ := id hs1
    obtain ⟨h1, h2, hsrt, L, hL, S0, pp, hst⟩ := id hD
    have hL : L = d.early := by simpa using hL
    subst hL
    have szS : S.length + l.length ≤ 40 := by
      have a1 := (gp.early.state hst pp).2
      have a2 := (gp.ls l hlm).len
      rw [List.length_append] at a2
      omega
    refine ⟨_, rfl, pa, CP, dx, fs, _, rfl, ik1.2 _ _ _ _ hpa, c.cP, c.pSearch, k1, sa, dx1, fs1, rfl, hsa1, j3, _, rfl, _, rfl, b, lb, _, _, rfl, rfl, ik1.1 _ _ hb, hlb, by rw [sizeLine_eq]; omega, fun p2 H2 s2 hp2 => ?_⟩
    have tcat : TdAll H2 (xs ++ lxs) ((S ++ l).map dLt) := by
      rw [List.map_append]
      exact ((hal.keep ik1.1).keep (TK.of s2)).app (hlal.keep (TK.of s2))
    refine ⟨p2, _, kOf H2, rfl, sqT hp2, kOf_dp tcat, fun zs l1 hperm hsort hl1 => ?_⟩
    have s3 : Same H2 (upd H2 l1 (.lst zs)) := same_new hl1
    have hl1' : upd H2 l1 (.lst zs) l1 = some (.lst zs) := upd_same
    generalize upd H2 l1 (.lst zs) = H3 at s3 hl1'
    obtain ⟨S', hS', tS0⟩ := td_perm hperm tcat
    have hsrt' := srt_of tS0 hsort
    have tS := tS0.keep (TK.of s3)
    refine ⟨l1, zs, rfl, .inl ⟨sqL hl1', fun l2 hl2 => ?_⟩⟩
    have s4 : Same H3 (upd H3 l2 (.tup zs)) := same_new hl2
    have s14 := (s2.trans s3).trans s4
    have tS' : Td (upd H3 l2 (.tup zs)) (.ref l2) (dSt S') := .tup upd_same (tS.keep (TK.of s4))
    generalize upd H3 l2 (.tup zs) = H4 at s4 s14 tS'
    have hD' : DomS d.Ls (d.u + 1) S' := domS_join hD ht (by have := gp.u1; omega) gp.u2 hrd (List.mem_map.mpr ⟨l, hlm, rfl⟩) (gp.late l hlm) hS' hsrt'
    have hlim : ∀ y ∈ S', y.limit < d.u + 1 + ((30 : Nat) : Int) := fun y hy => by
      have := gp.u1
      rcases List.mem_append.mp (hS'.mem_iff.mp hy) with h | h
      · have := sts_limit gp.early hst pp y h
        omega
      · have := ((gp.ls l hlm).letters y (List.mem_append_right _ h)).2.2.2
        omega
    refine ⟨_, rfl, pa, CP, dx, fs, _, rfl, s14 _ _ (ik1.2 _ _ _ _ hpa), c.cP, c.pUntil, k3, _, _, rfl, rfl, sa, wa, kd, d.W, keysS d.Ls, es, _, _, S', DomS d.Ls, rfl, hs1.keep (IK.of s14), hm1.same s14, tS', hdom, hD', T1.ext s14, hlim, fun b5 H5 es5 e5 T5 hm5 hb5 => ⟨b5, rfl, ?_⟩⟩
    have hbe : Sav d.W.T d.W.R (d.u + 1) S' ↔ Sav d.W.T d.W.R (d.u + 1) (S ++ l) := ⟨fun z => z.mono (fun r => (d.W.T1 r).1) (.perm hS'.symm), fun z => z.mono (fun r => (d.W.T1 r).1) (.perm hS')⟩
    have e05 : ExtD kd H H5 := e1.trans ((ExtD.same s14).trans e5)
    cases b5 with
    | false =>
      refine iteT ?_
      refine q false H5 es5 e2 (.left e05) T5 (hm.left e05 hm5) ⟨(fun z => Bool.noConfusion z), fun z => ?_⟩
      exact hb5.mpr (hbe.mpr (z l hlm))
    | true =>
      refine iteF ?_
      refine ⟨⟨e05, T5, es5, hm5⟩, fun j l' hj hl' => ?_, _, rfl⟩
      rcases Nat.lt_succ_iff_lt_or_eq.mp hj with h | h
      · exact hn j l' h hl'
      · subst h
        rw [hl] at hl'
        cases hl'
        exact hbe.mp (hb5.mp rfl)
  · rintro σ H1 ⟨⟨e1, T1, es, hm1⟩, hn, v2, rfl⟩
    refine q true H1 es e2 (.left e1) T1 (hm.left e1 hm1) ⟨fun _ l hl => ?_, fun _ => rfl⟩
    obtain ⟨j, hj, e⟩ := List.mem_iff_getElem.mp hl
    refine hn j l ?_ (by rw [← e]; exact List.getElem?_eq_getElem hj)
    rw [hly.len, List.length_map]; exact hj
end
end Hc
end

section
set_option Elab.async false
set_option linter.all false
set_option maxRecDepth 100000
set_option maxHeartbeats 4000000
namespace Hc
open PySem PySem.Spec PyProof.Rows L2 HcR LamX
section
variable {P : Program} {w : World} {K : PySem.W.Frag} {mg : Str → Option Value} {base : Heap}

variable {CW CD CS CP : Addr}
theorem ok_both_tried {n : Nat} {Pt fS fB fT : Addr} {gS gB gT : FuncData} (c : Cla K mg CW CD CS CP) (pm : PMs K CP fS fB fT gS gB gT) (hl : Has P w K mg base CX0 1 "is_lost" ["web", "state", "tick"] (spIsLost CW)) (hp : Has P w K mg base CX0 24 "picks_of" ["web", "state", "tick"] (spPicks CW Pt))
    (hb : Has P w K mg base CX0 1 "state_behind" ["web", "state", "tick", "picked"] (spBehind CW)) (hc : FnOk P w K mg base CX0 (89 + 2 * n) fB gB ["self", "state", "tick"] (spBS P w K CW CS CP Pt n)) :
    FnOk P w K mg base CX0 (90 + 2 * n) fT gT ["self", "state", "tick"] (spBT P w K CW CS CP Pt (n + 1)) := by
  rw [show 90 + 2 * n = (89 + 2 * n) + 1 by omega]
  refine pm.FT.ok sc_Pair_both_tried (fun vs H Q E ⟨d, pa, sa, wa, kd, sd, e1, e2, x, S, _, _, _, _, _, ⟨t0, t, e, _⟩, _⟩ => by rw [e]; rfl) fun cdv A outer s H vs Q E hr ⟨d, pa, sa, wa, kd, sd, e1, e2, x, S, gp, hP, hm, hx, hT, ⟨t0, t, e, hD, hJ, hne, htu, hn0⟩, q⟩ => ?_
  subst e
  replace q : ∀ b H' e1' e2', Ext2 kd sd H H' → Tabs (TbL Pt) H' → PSt P w K d H' kd sd e1' e2' → (b = true ↔ d.B t S) → Q (.bl b) H' := fun b H' e1' e2' a1 a2 a3 a4 => q b H' e1' e2' a1 a2 a3 (a4.trans all_vs.symm)
  refine ⟨_, (PSs.nox (pss_cons (ps_if (pt_val (pe_has hl (hr.mono (by omega)) (by rfl) (pa_cons (pe_fldK (K := K) rfl (pe_fldK (K := K) rfl (pv 0) rfl) rfl) (pa_cons (pv 1) (pa_cons (pv 2) pa_nil))))) (pss_one (ps_ret pe_bl)) pss_nil) (pss_cons (ps_for PassesOwn.never rfl (pi_list (pe_has hp (hr.mono (by omega)) (by rfl) (pa_cons (pe_fldK (K := K) rfl (pe_fldK (K := K) rfl (pv 0) rfl) rfl) (pa_cons (pv 1) (pa_cons (pv 2) pa_nil))))) (pg_name (i := 3) sc_Pair_both_tried.nd rfl (.inl rfl)) (pss_one (ps_if (pt_val (pe_meth (pv 0) c.cP pm.mB hc hr pm.bB .nil pass0 (pa_cons (pe_has hb (hr.mono (by omega)) (by rfl) (pa_cons (pe_fldK (K := K) rfl (pe_fldK (K := K) rfl (pv 0) rfl) rfl) (pa_cons (pv 1) (pa_cons (pv 2) (pa_cons (pv 3) pa_nil))))) (pa_cons (pe_op op_add (pv 2) pe_int) pa_nil)))) (pss_one (ps_ret pe_bl)) pss_nil))) (pss_one (ps_ret pe_bl))))), ?_⟩
  have dm := domn d.W (Ls := [d.early]) (fun L hL => by
    have : L = d.early := by simpa using hL
    subst this; exact gp.early) (by show 1 ≤ 2; decide)
  have hg := dm.good _ _ hD
  have hS : ∀ y ∈ S, y.rest ≠ [] := fun y hy => (hg.1 y hy).1
  have hT1 : ∀ r, 1 ≤ d.W.T r := fun r => (d.W.T1 r).1
  obtain ⟨b, xs, rfl, hbx, hal, hlx⟩ := td_st hx
  obtain ⟨⟨dx, fs, la, ls, hpa, k1, k2, k3, k4, k5, k6, k7, hla, hly⟩, ⟨ix, is, hsa, j1, j2, j3, j4⟩, hW⟩ := id hP
  refine ⟨_, rfl, pa, CP, dx, fs, _, rfl, hpa, c.cP, c.pSearch, k1, sa, CS, ix, is, _, rfl, hsa, c.cS, c.sWeb, j1, _, rfl, _, rfl, wa, d.W, _, t, S, rfl, hW, hx, hg, fun b1 H1 s1 hb1 => ⟨b1, rfl, ite2 (fun hc1 => ?_) fun hc1 => ?_⟩⟩
  · refine q false H1 e1 e2 (.same s1) (hT.ext s1) (hm.same s1) ⟨(fun z => Bool.noConfusion z), fun z => ?_⟩
    exact absurd (hb1.mp hc1) (Both.not_late (fun S h => PD.G_late gp h) z)
  · have hnl : ¬ Late d.W.T t S := fun z => hc1 (hb1.mpr z)
    have hm1 := hm.same s1
    have hP1 := hP.keep (IK.of s1)
    have hW1 := hW.keep (IK.of s1)
    refine ⟨_, rfl, pa, CP, dx, fs, _, rfl, s1 _ _ hpa, c.cP, c.pSearch, k1, sa, CS, ix, is, _, rfl, s1 _ _ hsa, c.cS, c.sWeb, j1, _, rfl, _, rfl, wa, d.W, _, t, S, rfl, hW1, hx.keep (TK.of s1), hg, hT.ext s1, fun p H2 gr x2 T2 G hpl => ?_⟩
    obtain ⟨ys, hys, hyt⟩ := hpl
    have hm2 := hm1.extN x2
    have ik2 : IK H1 H2 := ⟨TK.ext x2, fun b C dx fs h => x2 _ _ h (fun _ z => by cases z)⟩
    have hP2 := hP1.keep ik2
    have hx2 := (hx.keep (TK.of s1)).keep ik2.1
    have tried := both_tried (rm := d.W.R) hT1 (u := d.u) (G := d.G) (fun S S' r h => PD.G_R r h) G hS htu hnl
    refine ⟨p, rfl, ⟨_, sqL hys⟩, for_list (xs := ys) (fun i σ H' => (Ext2 kd sd H2 H' ∧ Tabs (TbL Pt) H' ∧ ∃ f1 f2, PSt P w K d H' kd sd f1 f2) ∧ (∀ j o, j < i → (prods (allPicks d.W.R gr))[j]? = some o → ¬ d.B (t + 1) (behind d.W.T t (pk S o))) ∧ ∃ v3, σ = [some (.ref pa), some (.ref b), some (.int t), v3]) ⟨⟨.refl _ _ _, T2, _, _, hm2⟩, fun j o h => absurd h (Nat.not_lt_zero j), _, rfl⟩ (fun i σ H' _ h => sqL (h.1.1.lst hm2.m1.stand hm2.m2.stand hys)) ?_ ?_⟩
    · rintro i y σ H3 hy ⟨⟨x3, T3, f1, f2, hm3⟩, hn, v3, rfl⟩
      obtain ⟨o, ho, to⟩ := hyt.map_got hy
      have ik3 := x3.ik hm2.m1.stand hm2.m2.stand
      have hP3 := hP2.keep ik3
      have hx3 := hx2.keep ik3.1
      have to3 := to.keep ik3.1
      obtain ⟨⟨dx3, fs3, la3, ls3, hpa3, k13, k23, k33, k43, k53, k63, k73, hla3, hly3⟩, ⟨ix3, is3, hsa3, j13, j23, j33, j43⟩, hW3⟩ := id hP3
      refine ⟨_, rfl, pa, dx3, fs3, rfl, hpa3, k53, _, rfl, pa, CP, dx3, fs3, _, rfl, hpa3, c.cP, c.pSearch, k13, sa, CS, ix3, is3, _, rfl, hsa3, c.cS, c.sWeb, j13, _, rfl, _, rfl, _, rfl, wa, d.W, _, y, t, S, o, rfl, hW3, hx3, to3, hg, fun p4 H4 S' s4 hperm hsrt hS' => ?_⟩
      have hm4 := hm3.same s4
      have om : o ∈ prods (allPicks d.W.R gr) := List.mem_of_getElem? ho
      have hD' := dm.step _ _ _ _ _ _ hD hne hJ hnl G om hperm hsrt
      have q4 : ∀ b H' e1' e2', Ext2 kd sd H4 H' → Tabs (TbL Pt) H' → PSt P w K d H' kd sd e1' e2' → (b = true ↔ d.B (t + 1) S') → tB (fun _ H Q => Q (.bl b) H) [] H' (fun c H5 => c = b ∧ H5 = H') := fun b H' _ _ _ _ _ _ => ⟨b, rfl, rfl, rfl⟩
      clear q4
      refine ⟨_, rfl, _, _, rfl, rfl, d, pa, sa, wa, kd, sd, f1, f2, _, S', gp, hP3.keep (IK.of s4), hm4, hS', T3.ext s4, ⟨_, rfl, hD', by omega, by omega⟩, fun b5 H5 g1 g2 x5 T5 hm5 hb5 => ⟨b5, rfl, ?_⟩⟩
      replace hb5 : b5 = true ↔ d.B (t + 1) S' := hb5.trans all_vs
      have hbe : d.B (t + 1) S' ↔ d.B (t + 1) (behind d.W.T t (pk S o)) := ⟨fun z => z.mono hT1 (fun S S' r h => PD.G_R r h) (.perm hperm.symm), fun z => z.mono hT1 (fun S S' r h => PD.G_R r h) (.perm hperm)⟩
      have e35 : Ext2 kd sd H3 H5 := (Ext2.same s4).trans x5
      refine ite2 (fun h5 => ?_) fun h5 => ?_
      · refine q true H5 g1 g2 ((Ext2.same s1).trans ((Ext2.of x2).trans (x3.trans e35))) T5 hm5 ⟨fun _ => ?_, fun _ => rfl⟩
        exact tried.mpr ⟨o, om, hbe.mp (hb5.mp h5)⟩
      · refine ⟨⟨x3.trans e35, T5, g1, g2, hm5⟩, fun j o' hj ho' => ?_, _, rfl⟩
        rcases Nat.lt_succ_iff_lt_or_eq.mp hj with h | h
        · exact hn j o' h ho'
        · subst h
          rw [ho] at ho'
          cases ho'
          exact fun z => h5 (hb5.mpr (hbe.mpr z))
    · rintro σ H3 ⟨⟨x3, T3, f1, f2, hm3⟩, hn, v3, rfl⟩
      refine q false H3 f1 f2 ((Ext2.same s1).trans ((Ext2.of x2).trans x3)) T3 hm3 ⟨(fun z => Bool.noConfusion z), fun z => ?_⟩
      obtain ⟨o, om, so⟩ := tried.mp z
      obtain ⟨j, hj, e⟩ := List.mem_iff_getElem.mp om
      refine absurd so (hn j o ?_ (by rw [← e]; exact List.getElem?_eq_getElem hj))
      rw [hyt.len, List.length_map]; exact hj
theorem ok_both_saved {n : Nat} {Pt fS fB fT : Addr} {gS gB gT : FuncData} (ev : Ev mg) (c : Cla K mg CW CD CS CP) (pm : PMs K CP fS fB fT gS gB gT) (hs : FnOk P w K mg base CX0 88 fS gS ["self", "state"] (spSB P w K CW CS CP Pt))
    (ht : FnOk P w K mg base CX0 (88 + 2 * n) fT gT ["self", "state", "tick"] (spBT P w K CW CS CP Pt n)) : FnOk P w K mg base CX0 (89 + 2 * n) fB gB ["self", "state", "tick"] (spBS P w K CW CS CP Pt n) := by
  rw [show 89 + 2 * n = (88 + 2 * n) + 1 by omega]
  refine pm.FB.ok sc_Pair_both_saved (fun vs H Q E ⟨d, pa, sa, wa, kd, sd, e1, e2, x, S, _, _, _, _, _, ⟨t, e, _⟩, _⟩ => by rw [e]; rfl) fun cdv A outer s H vs Q E hr ⟨d, pa, sa, wa, kd, sd, e1, e2, x, S, gp, hP, hm, hx, hT, ⟨t, e, hD, htu, hn0⟩, q⟩ => ?_
  subst e
  replace q : ∀ b H' e1' e2', Ext2 kd sd H H' → Tabs (TbL Pt) H' → PSt P w K d H' kd sd e1' e2' → (b = true ↔ d.B t S) → Q (.bl b) H' := fun b H' e1' e2' a1 a2 a3 a4 => q b H' e1' e2' a1 a2 a3 (a4.trans all_vs.symm)
  have hu := hr.units
  refine ⟨_, (PSs.nox (pss_cons (ps_if (pt_cmpR op_gt (pe_callB (lenS (K := K) rfl) (by rfl) ev.len PySem.boot_len (pa_cons (pv 1) pa_nil)) pe_int (nomark _)) (pss_one (ps_set (i := 2) sc_Pair_both_saved.nd rfl (.inl rfl) (pe_callB ((call_max2 rfl)) (by rfl) ev.max (by decide +kernel) (pa_cons (pv 2) (pa_cons (pe_callB ((minK (K := K) rfl rfl)) (by rfl) ev.min (by decide +kernel) (pa_cons (pe_lc (own := [("rest", 3), ("ready", 4), ("limit", 5)]) rfl sc_Pair_both_saved.nd (pi_tup (pv 1)) (blkOk_by (own := [("rest", 3), ("ready", 4), ("limit", 5)]) (N := sc_Pair_both_saved_N) (sc := sc_Pair_both_saved_S) (by decide +kernel)) (fun _ _ _ _ _ => (pgTupK (K := K) (n := 3) rfl rfl (pgs_cons (pg_name (i := 3) sc_Pair_both_saved.nd rfl (.inl rfl)) (pgs_cons (pg_name (i := 4) sc_Pair_both_saved.nd rfl (.inl rfl)) (pgs_cons (pg_name (i := 5) sc_Pair_both_saved.nd rfl (.inl rfl)) pgs_nil))) rfl rfl)) (fun _ _ _ _ _ => pts_nil) (fun _ _ _ _ _ => (pv 4))) pa_nil)) pa_nil))))) pss_nil) (pss_cons (ps_if (PW.pt (pw_or (pt_cmpR op_eq (pe_callB (lenS (K := K) rfl) (by rfl) ev.len PySem.boot_len (pa_cons (pv 1) pa_nil)) pe_int (nomark _)) (pw_or1 (pt_cmpR op_gt (pv 2) (pe_fldK (K := K) rfl (pv 0) rfl) (nomark _))))) (pss_one (ps_ret (pe_meth (pv 0) c.cP pm.mS hs (hr.mono (by omega)) pm.bS .nil pass0 (pa_cons (pv 1) pa_nil)))) pss_nil) (pss_cons (ps_set (i := 6) sc_Pair_both_saved.nd rfl (.inl rfl) (pe_tup (pa_cons (pv 1) (pa_cons (pv 2) pa_nil)))) (pss_cons (ps_if (pt_cmp (pc_nnotin hu (pv 6) (pe_fldK (K := K) rfl (pv 0) rfl)) (by rfl)) (pss_one (ps_nput hu (pe_fldK (K := K) rfl (pv 0) rfl) (pv 6) (pe_meth (pv 0) c.cP pm.mT ht hr pm.bT .nil pass0 (pa_cons (pv 1) (pa_cons (pv 2) pa_nil))) rfl)) pss_nil) (pss_one (ps_ret (pe_nget hu (pe_fldK (K := K) rfl (pv 0) rfl) (pv 6) (fun _ _ => rfl))))))))), ?_⟩
  have dm := domn d.W (Ls := [d.early]) (fun L hL => by
    have : L = d.early := by simpa using hL
    subst this; exact gp.early) (by show 1 ≤ 2; decide)
  have hg := dm.good _ _ hD
  obtain ⟨b, xs, rfl, hbx, hal, hlx⟩ := td_st hx
  obtain ⟨⟨dx, fs, la, ls, hpa, k1, k2, k3, k4, k5, k6, k7, hla, hly⟩, ⟨ix, is, hsa, j1, j2, j3, j4⟩, hW⟩ := id hP
  refine ⟨_, rfl, b, _, rfl, .inr (sqT hbx), _, _, rfl, rfl, _, rfl, ite2 (fun hc1 => ?_) fun hc1 => ?_⟩
  · have hS0 : 0 < S.length := by
      have := of_decide_eq_true hc1
      omega
    have hne : S ≠ [] := List.length_pos_iff.mp hS0
    have hS20 := hg.2
    refine ⟨_, rfl, _, rfl, b, rfl, ⟨_, sqT hbx⟩, fun D hD0 => lc_tup (xs := xs) (fun i H' => Same H H' ∧ H' D = some (.lst (((S.take i).map Lt.ready).map V.int))) ⟨same_new hD0, upd_same⟩ (fun i H' _ h => sqT (h.1 _ _ hbx)) (fun j y H' hy ⟨s3, e3⟩ => ?_) fun H1 ⟨s1, e1'⟩ => ?_⟩
    · obtain ⟨l, hl, tl⟩ := hal.map_got hy
      obtain ⟨c1, c2, rfl, hc1, hc2⟩ := td_lt (tl.keep (TK.of s3))
      refine ⟨c1, _, rfl, sqT hc1, rfl, _, _, rfl, _, _, rfl, _, _, rfl, rfl, rfl, _, rfl, _, e3, len_line (by rw [List.length_map, List.length_map, List.length_take]; omega), same_at s3 hD0 e3, ?_⟩
      rw [upd_same, take_snoc hl, List.map_append, List.map_append]
      rfl
    · rw [hlx, List.take_length] at e1'
      refine ⟨D, S.map Lt.ready, rfl, sqL e1', by rw [List.length_map]; exact hS0, fun m hm1 hm2 => ⟨_, _, rfl, ?_⟩⟩
      have hmx : (if m > t then m else t) = max t m := by split <;> omega
      have hJ : IsJ t S (max t m) := by
        obtain ⟨x, hx, e⟩ := List.mem_map.mp hm1
        exact ⟨m, ⟨x, hx, e⟩, fun x hx => hm2 _ (List.mem_map.mpr ⟨x, hx, rfl⟩), rfl⟩
      have hJr : ∀ y ∈ S, max t m ≤ y.ready := fun y hy => by
        obtain ⟨h1, h2, hsrt, L, hL, S0, pp, hst⟩ := id hD
        obtain ⟨_, _, _, _, h3, _⟩ := hst.mem y (pp.mem_iff.mp hy)
        have := hm2 _ (List.mem_map.mpr ⟨y, hy, rfl⟩)
        omega
      rw [hmx]
      have hJl := hJ.le
      generalize max t m = t' at hJ hJl hJr
      have hm1' := hm.same s1
      have hP1 := hP.keep (IK.of s1)
      have hx1 := hx.keep (TK.of s1)
      have hlen0 : ¬ ((V.int (xs.length : Int)) = V.int 0) := fun z => by
        have := V.int.inj z
        omega
      refine ⟨_, rfl, b, _, rfl, .inr (sqT (s1 _ _ hbx)), rfl, _, rfl, ifF (decide_eq_false hlen0) ⟨_, rfl, _, rfl, pa, CP, dx, fs, _, rfl, s1 _ _ hpa, c.cP, c.pUntil, k3, _, _, rfl, rfl, _, rfl, ite2 (fun hc2 => ?_) fun hc2 => ?_⟩⟩
      · have hgt : d.u < t' := of_decide_eq_true hc2
        have hr1 : ∀ y ∈ S, d.u + 1 ≤ y.ready := fun y hy => by have := hJr y hy; omega
        refine ⟨_, rfl, pa, dx, fs, rfl, s1 _ _ hpa, k6, _, rfl, d, pa, sa, wa, kd, sd, e1, e2, _, S, gp, hP1, hm1', hx1, hT.ext s1, ⟨rfl, ⟨t, hD, htu⟩, hr1⟩, fun b5 H5 g1 g2 x5 T5 hm5 hb5 => ?_⟩
        exact q b5 H5 g1 g2 ((Ext2.same s1).trans x5) T5 hm5 (hb5.trans (PD.B_past gp htu hr1).symm)
      · have hle : t' ≤ d.u := by
          refine Int.not_lt.mp fun z => hc2 (decide_eq_true ?_)
          exact z
        refine ⟨_, rfl, _, rfl, by show 2 ≤ sizeLine; decide, fun kp hkp => ?_⟩
        have s2 : Same H1 (upd H1 kp (.tup [.ref b, .int t'])) := same_new hkp
        have hk2 : upd H1 kp (.tup [.ref b, .int t']) kp = some (.tup [.ref b, .int t']) := upd_same
        generalize upd H1 kp (.tup [.ref b, .int t']) = H2 at s2 hk2
        have s02 := s1.trans s2
        have hm2' := hm.same s02
        have hP2 := hP.keep (IK.of s02)
        have hx2 := hx.keep (TK.of s02)
        have hT2 := hT.ext s02
        have kdp : ∀ {H' : Hp}, TK H2 H' → Dp K H' (.ref kp) (keyOf S t').data := fun {H'} k => by
          rw [keyOf_data]
          exact (Td.tup (k _ _ hk2) (.cons (hx2.keep k) (.cons (.int t') .nil))).dp
        have hU := dm.key _ _ _ hD hne hJ
        have ret : ∀ {H3 : Hp} {f1 f2 : List NEnt} {v : V}, Ext2 kd sd H2 H3 → Tabs (TbL Pt) H3 → PSt P w K d H3 kd sd f1 f2 → atN f2 (keyOf S t') = some v → tNGet P w K (tFld K (tVar 0) "seen") (tVar 6) [some (.ref pa), some (.ref b), some (.int t'), none, none, none, some (.ref kp)] H3 Q := fun {H3 f1 f2 v} x3 T3 m3 hv => by
          have ik3 := x3.ik hm2'.m1.stand hm2'.m2.stand
          obtain ⟨⟨dx3, fs3, la3, ls3, hpa3, k13, k23, k33, k43, k53, k63, k73, hla3, hly3⟩, _⟩ := hP2.keep ik3
          refine ⟨_, rfl, pa, CP, dx3, fs3, _, rfl, hpa3, c.cP, c.pSeen, k43, _, rfl, sd, kp, f2, keyOf S t', v, ⟨rfl, rfl, m3.m2.stand, m3.m2.ks, kdp ik3.1, keyOf_depth S t'⟩, hv, ?_⟩
          obtain ⟨bb, rfl, hbb⟩ := m3.m2.memo.get hv
          exact q bb H3 f1 f2 ((Ext2.same s02).trans x3) T3 m3 (hbb.trans (PD.B_jump gp hJ hle).symm)
        refine ⟨_, rfl, _, rfl, pa, CP, dx, fs, _, rfl, s02 _ _ hpa, c.cP, c.pSeen, k4, sd, kp, e2, keyOf S t', ⟨rfl, rfl, hm2'.m2.stand, hm2'.m2.ks, kdp (TK.refl _), keyOf_depth S t'⟩, _, rfl, ite2 (fun hn => ?_) fun hn => ?_⟩
        · cases n with
          | zero => omega
          | succ n =>
          refine ⟨_, rfl, pa, dx, fs, rfl, s02 _ _ hpa, k7, _, rfl, _, rfl, d, pa, sa, wa, kd, sd, e1, e2, _, S, gp, hP2, hm2', hx2, hT2, ⟨t, t', rfl, hD, hJ, hne, hle, by omega⟩, fun b3 H3 g1 g2 x3 T3 m3 hb3 => ?_⟩
          replace hb3 : b3 = true ↔ d.B t' S := hb3.trans all_vs
          have ik3 := x3.ik hm2'.m1.stand hm2'.m2.stand
          obtain ⟨⟨dx3, fs3, la3, ls3, hpa3, k13, k23, k33, k43, k53, k63, k73, hla3, hly3⟩, _⟩ := hP2.keep ik3
          have hlen : g2.length < sizeLine := by
            have h1 := m3.m2.memo.len
            have h2 := dm.few
            rw [sizeLine_eq]; omega
          refine ⟨_, rfl, pa, CP, dx3, fs3, _, rfl, hpa3, c.cP, c.pSeen, k43, _, rfl, sd, kp, g2, keyOf S t', ⟨rfl, rfl, m3.m2.stand, m3.m2.ks, kdp ik3.1, keyOf_depth S t'⟩, hlen, ?_⟩
          exact ret x3.put (tabs_nd T3 m3.m2.stand) (m3.put (kdp ik3.1) hU hb3) (atN_put_self _ _ _ _)
        · have hv : (atN e2 (keyOf S t')).isSome = true := by
            cases h : (atN e2 (keyOf S t')).isSome with
            | true => rfl
            | false => exact absurd (by rw [h]; rfl) hn
          obtain ⟨v, hv⟩ := Option.isSome_iff_exists.mp hv
          exact ret (.refl _ _ _) hT2 hm2' hv
  · have h0 : S = [] := by
      have h2 : ¬ 0 < ((xs.length : Nat) : Int) := fun z => hc1 (decide_eq_true z)
      have : S.length = 0 := by omega
      exact List.length_eq_zero_iff.mp this
    have hr1 : ∀ y ∈ S, d.u + 1 ≤ y.ready := fun y hy => by rw [h0] at hy; exact nomatch hy
    have hx0 : xs.length = 0 := by rw [hlx, h0]; rfl
    refine ⟨_, rfl, b, _, rfl, .inr (sqT hbx), rfl, _, rfl, ifT (decide_eq_true (by rw [hx0]; rfl)) ?_⟩
    refine ⟨_, rfl, pa, dx, fs, rfl, hpa, k6, _, rfl, d, pa, sa, wa, kd, sd, e1, e2, _, S, gp, hP, hm, hx, hT, ⟨rfl, ⟨t, hD, htu⟩, hr1⟩, fun b5 H5 g1 g2 x5 T5 hm5 hb5 => ?_⟩
    exact q b5 H5 g1 g2 x5 T5 hm5 (hb5.trans (PD.B_past gp htu hr1).symm)
theorem pair_ok {Pt fS fB fT : Addr} {gS gB gT : FuncData} (ev : Ev mg) (c : Cla K mg CW CD CS CP) (pm : PMs K CP fS fB fT gS gB gT) (hl : Has P w K mg base CX0 1 "is_lost" ["web", "state", "tick"] (spIsLost CW)) (hp : Has P w K mg base CX0 24 "picks_of" ["web", "state", "tick"] (spPicks CW Pt))
    (hb : Has P w K mg base CX0 1 "state_behind" ["web", "state", "tick", "picked"] (spBehind CW)) (hs : FnOk P w K mg base CX0 88 fS gS ["self", "state"] (spSB P w K CW CS CP Pt)) : ∀ n : Nat, FnOk P w K mg base CX0 (89 + 2 * n) fB gB ["self", "state", "tick"] (spBS P w K CW CS CP Pt n)
  | 0 => ok_both_saved ev c pm hs (n := 0) ⟨fun vs H Q E ⟨d, pa, sa, wa, kd, sd, e1, e2, x, S, _, _, _, _, _, ⟨t0, t, _, _, _, _, h1, h2⟩, _⟩ => absurd h1 (by omega), fun A outer f s H vs Q E hr h1 h2 h3 h4 ⟨d, pa, sa, wa, kd, sd, e1, e2, x, S, _, _, _, _, _, ⟨t0, t, _, _, _, _, h5, h6⟩, _⟩ => absurd h5 (by omega)⟩
  | n + 1 => ok_both_saved ev c pm hs (by
    rw [show 88 + 2 * (n + 1) = 90 + 2 * n by omega]
    exact ok_both_tried c pm hl hp hb (pair_ok ev c pm hl hp hb hs n))
end
end Hc
end

section
set_option Elab.async false
set_option linter.all false
set_option maxRecDepth 100000
set_option maxHeartbeats 4000000
namespace Hc
open PySem PySem.Spec PyProof.Rows L2 HcR LamX
section
variable {P : Program} {w : World} {K : PySem.W.Frag} {mg : Str → Option Value} {base : Heap}

variable {CW CD CS CP : Addr}
theorem mem_nil {A : Int → List Lt → Prop} {U : List NestedKey} {H : Hp} {kd : Addr} (h : H kd = some (NdO P w kd [])) : Mem P w K A U H kd [] := ⟨h, (fun _ z => nomatch z), ⟨(fun _ z => nomatch z), (fun _ z => nomatch z), List.nodup_nil⟩⟩
theorem WebAt.but {H H' : Hp} {p C dx wa : Addr} {W : WD} (h : WebAt CW H wa W) (b : But p H H') (hp : H p = some (.ins C dx [])) : WebAt CW H' wa W := by
  obtain ⟨dx', fs, a1, a2, a3, a4, e, h1, h2, t2, h3, t3, h4, t4, h5, t5⟩ := h
  have k := b.tk hp
  refine ⟨dx', fs, a1, a2, a3, a4, b _ _ e (fun z => ?_), h1, h2, t2.keep k, h3, k _ _ t3, h4, k _ _ t4, h5, t5.keep k⟩
  subst z
  rw [hp] at e
  cases e
  cases h1
def spSchInit (P : Program) (w : World) (CW CS : Addr) : Sp := fun vs H Q _ => ∃ (p dx wa : Addr) (W : WD), vs = [.ref p, .ref wa] ∧ H p = some (.ins CS dx []) ∧ WebAt CW H wa W ∧ ∀ H' kd, But p H H' → H kd = none → SchAt CW CS H' p wa kd W → H' kd = some (NdO P w kd []) → Q .non H'
theorem ok_sch_init {f : Addr} {fd : FuncData} (c : Cla K mg CW CD CS CP) (F : FnM K "__init__" "Search.__init__" s_Search_init f fd) : FnOk P w K mg base CX0 1 f fd ["self", "web"] (spSchInit P w CW CS) := by
  refine F.ok sc_Search_init (fun vs H Q E ⟨p, dx, wa, W, e, _⟩ => by rw [e]; rfl) fun cdv A outer s H vs Q E hr ⟨p, dx, wa, W, e, hp, hW, q⟩ => ?_
  subst e
  refine ⟨_, (PSs.nox (pss_cons (ps_fld (pv 0) (pv 1) rfl) (pss_one (ps_fld (pv 0) pe_nnew rfl)))), ?_⟩
  refine ⟨_, rfl, _, rfl, p, CS, dx, [], rfl, hp, c.cS, c.sWeb, by decide, ?_⟩
  have b1 : But p H (upd H p (.ins CS dx (putF "web" (.ref wa) []))) := (But.refl p H).put
  have h1 : upd H p (.ins CS dx (putF "web" (.ref wa) [])) p = some (.ins CS dx (putF "web" (.ref wa) [])) := upd_same
  have e1 : ∀ b, upd H p (.ins CS dx (putF "web" (.ref wa) [])) b = none → H b = none := fun b hb => by
    by_cases z : b = p
    · subst z; rw [upd_same] at hb; cases hb
    · rw [upd_ne z] at hb; exact hb
  generalize upd H p (.ins CS dx (putF "web" (.ref wa) [])) = H1 at b1 h1 e1
  intro kd hkd
  have b2 : But p H (upd H1 kd (NdO P w kd [])) := b1.new hkd
  have h2 : upd H1 kd (NdO P w kd []) p = some (.ins CS dx (putF "web" (.ref wa) [])) := by rw [upd_ne (ne_of_none h1 hkd)]; exact h1
  have h3 : upd H1 kd (NdO P w kd []) kd = some (NdO P w kd []) := upd_same
  have npk : kd ≠ p := Ne.symm (ne_of_none h1 hkd)
  have b3 : But p H (upd (upd H1 kd (NdO P w kd [])) p (.ins CS dx (putF "known" (.ref kd) (putF "web" (.ref wa) [])))) := b2.put
  refine ⟨_, rfl, p, CS, dx, _, rfl, h2, c.cS, c.sKnown, few (putF_le (Nat.zero_le 0)) (by decide), ?_⟩
  exact q _ kd b3 (e1 kd hkd) ⟨⟨dx, _, upd_same, lk_ne (by decide) lk_same, lk_same, rfl, rfl⟩, hW.but b3 hp⟩ (by rw [upd_ne npk]; exact h3)
/-- the day's letters, those of the numbers -/
def stOf (ks : List Letter) (hs : List Int) (slack : Int) : List Lt := (ks.zip hs).map fun p => ⟨p.1.1, p.1.2, p.2 + slack⟩
def spStateOf (CW : Addr) : Sp := fun vs H Q _ => ∃ (wa pl ph pr : Addr) (W : WD) (slack : Int) (ks : List Letter) (hs : List Int) (xs rows : List V), vs = [.ref wa, .ref pl, .ref ph, .ref pr, .int slack] ∧ WebAt CW H wa W ∧ H pl = some (.lst xs) ∧ TdAll H xs (ks.map dLet) ∧
  H ph = some (.lst (hs.map V.int)) ∧ H pr = some (.lst rows) ∧ (∀ v ∈ rows, ∃ e, v = .ref e ∧ H e = some (.tup [])) ∧ hs.length = ks.length ∧ rows.length = ks.length ∧ ks.length ≤ 20 ∧ (∀ k ∈ ks, GoodL k) ∧
  ∀ p H' S', Same H H' → S'.Perm (stOf ks hs slack) → Srt S' → Td H' (.ref p) (dSt S') → Q (.ref p) H'
theorem ok_state_of (ev : Ev mg) (c : Cla K mg CW CD CS CP) (D : Def K mg "state_of" s_state_of) : Has P w K mg base CX0 1 "state_of" ["web", "letters", "homes", "hours", "slack"] (spStateOf CW) := by
  refine .of D (fun _ _ _ _ _ _ us hl => match us, hl with | [_, _, _, _, _], _ => rfl) fun f fd F => F.ok sc_state_of (fun vs H Q E ⟨wa, pl, ph, pr, W, slack, ks, hs, xs, rows, e, _⟩ => by rw [e]; rfl) fun cdv A outer s H vs Q E hr ⟨wa, pl, ph, pr, W, slack, ks, hs, xs, rows, e, hW, hpl, hxs, hph, hpr, hrow, l1, l2, l20, hg, q⟩ => ?_
  subst e
  have hu := hr.units
  refine ⟨_, (PSs.nox (pss_cons (ps_set (i := 5) sc_state_of.nd rfl (.inl rfl) (pe_lst pa_nil)) (pss_cons (ps_for PassesOwn.never rfl (pi_zip3 (by rfl) ev.zip (pa_cons (pv 1) (pa_cons (pv 2) (pa_cons (pv 3) pa_nil)))) (pg_tup rfl (pgs_cons (pg_name (i := 6) sc_state_of.nd rfl (.inl rfl)) (pgs_cons (pg_name (i := 7) sc_state_of.nd rfl (.inl rfl)) (pgs_cons (pg_name (i := 8) sc_state_of.nd rfl (.inl rfl)) pgs_nil)))) (pss_cons (ps_set (i := 9) sc_state_of.nd rfl (.inl rfl) (pe_callB (lenS (K := K) rfl) (by rfl) ev.len PySem.boot_len (pa_cons (pe_lc (own := [("hour", 10)]) rfl sc_state_of.nd (pi_tup (pv 8)) (blkOk_by (own := [("hour", 10)]) (N := sc_state_of_N) (sc := sc_state_of_S) (by decide +kernel)) (fun _ _ _ _ _ => (pg_name (i := 10) sc_state_of.nd rfl (.inl rfl))) (fun _ _ _ _ _ => (pts_one (pt_cmp (pc_notN (pv 10)) (by rfl)))) (fun _ _ _ _ _ => (pv 10))) pa_nil))) (pss_one (ps_if (pt_cmpR op_lt (pv 9) (pe_callB (lenS (K := K) rfl) (by rfl) ev.len PySem.boot_len (pa_cons (pe_ix (ixT (K := K) rfl) (pv 6) pe_int (fun _ _ => rfl)) pa_nil)) (nomark _)) (pss_cons (ps_set (i := 11) sc_state_of.nd rfl (.inl rfl) (pe_ifExp (pt_cmpR op_eq (pv 9) pe_int (nomark _)) (pe_ix (ixT (K := K) rfl) (pv 6) pe_int (fun _ _ => rfl)) (pe_op op_add (pe_ix (ixT (K := K) rfl) (pv 8) (pe_op op_sub (pv 9) pe_int) (fun _ _ => rfl)) (pe_ix (ixT (K := K) rfl) (pe_fldK (K := K) rfl (pv 0) rfl) (pe_ix (ixT (K := K) rfl) (pe_ix (ixT (K := K) rfl) (pv 6) pe_int (fun _ _ => rfl)) (pe_op op_sub (pv 9) pe_int) (fun _ _ => rfl)) (fun _ _ => rfl))))) (pss_one (ps_expr (pe_bm PySem.F.plainAttrs_list PySem.F.slot_list_append PySem.F.type_list_append mt_append (pv 5) (pa_cons (pe_tup (pa_cons (pe_slice slU (pe_ix (ixT (K := K) rfl) (pv 6) pe_int (fun _ _ => rfl)) (po_some (pv 9)) po_none) (pa_cons (pv 11) (pa_cons (pe_op op_add (pv 7) (pv 4)) pa_nil)))) pa_nil))))) pss_nil)))) (pss_one (ps_ret (pe_callTy ((tupOf (K := K) rfl)) (by rfl) ev.tuple (by decide +kernel) (pa_cons (pe_callB ((cr_sorted3 hu)) (by rfl) ev.sorted (by decide +kernel) (pa_cons (pv 5) pa_nil)) pa_nil))))))), ?_⟩
  have xl : xs.length = ks.length := by rw [hxs.len, List.length_map]
  refine ⟨by show 0 ≤ sizeLine; exact Nat.zero_le _, fun fp hfp => ?_⟩
  have s1 : Same H (upd H fp (.lst [])) := same_new hfp
  have hf1 : upd H fp (.lst []) fp = some (.lst []) := upd_same
  generalize upd H fp (.lst []) = H1 at s1 hf1
  have hfp0 : H fp = none := hfp
  refine ⟨_, rfl, _, rfl, _, rfl, pl, ph, pr, xs, hs.map V.int, rows, rfl, ⟨sqL (s1 _ _ hpl), sqL (s1 _ _ hph), sqL (s1 _ _ hpr)⟩, by rw [List.length_map]; omega, by omega, for_it walk_zip3 (fun i σ H' => (Same H H' ∧ ∃ ys, H' fp = some (.lst ys) ∧ TdAll H' ys (((stOf ks hs slack).take i).map dLt)) ∧ ∃ v6 v7 v8 v9 v11, σ = [some (.ref wa), some (.ref pl), some (.ref ph), some (.ref pr), some (.int slack), some (.ref fp), v6, v7, v8, v9, none, v11]) ⟨⟨s1, [], hf1, .nil⟩, _, _, _, _, _, rfl⟩ (fun i σ H' _ h => ⟨sqL (h.1.1 _ _ hpl), sqL (h.1.1 _ _ hph), sqL (h.1.1 _ _ hpr)⟩) ?_ ?_⟩
  · rintro i x σ H2 H3 hi ⟨⟨s2, ys, hys, hyt⟩, v6, v7, v8, v9, v11, rfl⟩ ⟨T0, x1, x2, x3, rfl, hT0, rfl, g1, g2, g3⟩
    obtain ⟨l, hl, tl⟩ := hxs.map_got g1
    rw [List.getElem?_map] at g2
    obtain ⟨h, hh, rfl⟩ := Option.map_eq_some_iff.mp g2
    obtain ⟨ee, rfl, hee⟩ := hrow x3 (List.mem_of_getElem? g3)
    have s3 : Same H2 (upd H2 T0 (.tup [x1, V.int h, .ref ee])) := same_new hT0
    have hT2 : upd H2 T0 (.tup [x1, V.int h, .ref ee]) T0 = some (.tup [x1, V.int h, .ref ee]) := upd_same
    generalize upd H2 T0 (.tup [x1, V.int h, .ref ee]) = H3 at s3 hT2
    have s03 := s2.trans s3
    obtain ⟨c1, c2, rfl, hc1, hc2⟩ := td_let (tl.keep (TK.of s03))
    have hgl := hg l (List.mem_of_getElem? hl)
    have hst : (stOf ks hs slack)[i]? = some ⟨l.1, l.2, h + slack⟩ := by
      unfold stOf
      rw [List.getElem?_map, (List.getElem?_zip_eq_some (z := (l, h))).mpr ⟨hl, hh⟩]
      rfl
    refine ⟨T0, _, rfl, sqT hT2, rfl, _, _, rfl, _, _, rfl, _, _, rfl, rfl, ?_⟩
    refine ⟨_, rfl, ee, rfl, ⟨_, sqT (s03 _ _ hee)⟩, fun D hD => lc_tup (xs := []) (fun i H' => Same H3 H' ∧ H' D = some (.lst [])) ⟨same_new hD, upd_same⟩ (fun i H' _ h => sqT (h.1 _ _ (s03 _ _ hee))) (fun j y H' hy _ => by simp at hy) fun H4 ⟨s4, e4⟩ => ?_⟩
    have s04 := s03.trans s4
    have hl0 : 0 < l.1.length := List.length_pos_iff.mpr hgl.1
    have hc14 := s4 _ _ hc1
    have hc24 := s4 _ _ hc2
    have hys4 := s4 _ _ (s3 _ _ hys)
    refine ⟨D, _, rfl, .inl (sqL e4), _, rfl, _, rfl, c1, _, 0, .ref c2, rfl, rfl, sqT hc14, atI_nat (j := 0) rfl, c2, _, rfl, .inr (sqT hc24), _, _, rfl, rfl, _, rfl, ifT (decide_eq_true (by rw [List.length_map]; show (0 : Int) < _; omega)) ?_⟩
    refine ⟨_, rfl, rfl, _, rfl, ifT rfl ⟨_, rfl, c1, _, 1, .int l.2, rfl, rfl, sqT hc14, atI_nat (j := 1) rfl, ?_⟩⟩
    refine ⟨_, rfl, tyL hys4, _, rfl, c1, _, 0, .ref c2, rfl, rfl, sqT hc14, atI_nat (j := 0) rfl, _, rfl, 0, rfl, c2, _, rfl, hc24, fun z1 H5 s5 hz1 => ?_⟩
    refine ⟨_, rfl, _, rfl, _, rfl, _, _, rfl, rfl, by show 3 ≤ sizeLine; decide, fun z hz => ?_⟩
    have ez1 : H5 z1 = some (.tup (l.1.map fun n : Nat => V.int (n : Int))) := by
      rw [hz1]
      exact congrArg (fun y => some (HO.tup y)) (cut_from _ 0)
    have s6 : Same H5 (upd H5 z (.tup [.ref z1, .int l.2, .int (h + slack)])) := same_new hz
    have tz : Td (upd H5 z (.tup [.ref z1, .int l.2, .int (h + slack)])) (.ref z) (dLt ⟨l.1, l.2, h + slack⟩) := mk_lt (b := z1) upd_same (s6 _ _ ez1)
    have hy6 := (s5.trans s6) _ _ hys4
    have ysl : ys.length ≤ 20 := by
      have := hyt.len
      rw [List.length_map, List.length_take] at this
      omega
    refine ⟨fp, ys, .ref z, rfl, rfl, hy6, len_line (by omega), ⟨same_at ((s04.trans s5).trans s6) hfp0 hy6, _, upd_same, ?_⟩, _, _, _, _, _, rfl⟩
    have tk6 : TK (upd H5 z (.tup [.ref z1, .int l.2, .int (h + slack)])) (upd (upd H5 z (.tup [.ref z1, .int l.2, .int (h + slack)])) fp (.lst (ys ++ [.ref z]))) := fun b zs e => by rw [upd_ne (ne_of e hy6 (fun z => by cases z))]; exact e
    rw [take_snoc hst, List.map_append]
    exact (((((hyt.keep (TK.of s3)).keep (TK.of s4)).keep (TK.of s5)).keep (TK.of s6)).keep tk6).snoc (tz.keep tk6)
  · rintro σ H2 ⟨⟨s2, ys, hys, hyt⟩, v6, v7, v8, v9, v11, rfl⟩
    have hln : (stOf ks hs slack).length ≤ xs.length := by
      unfold stOf
      rw [List.length_map, List.length_zip]
      omega
    rw [List.take_of_length_le hln] at hyt
    refine ⟨_, rfl, fp, ys, kOf H2, rfl, sqL hys, kOf_dp hyt, fun zs z1 hperm hsort hz1 => ?_⟩
    have s3 : Same H2 (upd H2 z1 (.lst zs)) := same_new hz1
    have hz1' : upd H2 z1 (.lst zs) z1 = some (.lst zs) := upd_same
    generalize upd H2 z1 (.lst zs) = H3 at s3 hz1'
    obtain ⟨S', hS', tS0⟩ := td_perm hperm hyt
    have hsrt := srt_of tS0 hsort
    have tS := tS0.keep (TK.of s3)
    refine ⟨z1, zs, rfl, .inl ⟨sqL hz1', fun l2 hl2 => q l2 _ S' (s2.trans (s3.trans (same_new hl2))) hS' hsrt (.tup upd_same (tS.keep (TK.of (same_new hl2))))⟩⟩
end
end Hc
end

section
set_option Elab.async false
set_option linter.all false
set_option maxRecDepth 100000
set_option maxHeartbeats 4000000
namespace Hc
open PySem PySem.Spec PyProof.Rows L2 HcR LamX
section
variable {P : Program} {w : World} {K : PySem.W.Frag} {mg : Str → Option Value} {base : Heap}

variable {CW CD CS CP : Addr}
theorem WebAt.butne {H H' : Hp} {p wa : Addr} {W : WD} (h : WebAt CW H wa W) (b : But p H H') (n : wa ≠ p) (k : TK H H') : WebAt CW H' wa W := by
  obtain ⟨dx', fs, a1, a2, a3, a4, e, h1, h2, t2, h3, t3, h4, t4, h5, t5⟩ := h
  exact ⟨dx', fs, a1, a2, a3, a4, b _ _ e n, h1, h2, t2.keep k, h3, k _ _ t3, h4, k _ _ t4, h5, t5.keep k⟩
theorem SchAt.butne {H H' : Hp} {p sa wa kd : Addr} {W : WD} (h : SchAt CW CS H sa wa kd W) (b : But p H H') (n1 : sa ≠ p) (n2 : wa ≠ p) (k : TK H H') : SchAt CW CS H' sa wa kd W := by
  obtain ⟨⟨dx, fs, e, r⟩, hw⟩ := h
  exact ⟨⟨dx, fs, b _ _ e n1, r⟩, hw.butne b n2 k⟩
theorem web_ne {H : Hp} {p C dx wa : Addr} {W : WD} (h : WebAt CW H wa W) (hp : H p = some (.ins C dx [])) : wa ≠ p := by
  obtain ⟨dx', fs, a1, a2, a3, a4, e, h1, _⟩ := h
  intro z
  subst z
  rw [hp] at e
  cases e
  cases h1
def spPairInit (P : Program) (w : World) (K : PySem.W.Frag) (CW CS CP : Addr) : Sp := fun vs H Q _ => ∃ (d : PD) (p dx wa la : Addr) (xs : List V), vs = [.ref p, .ref wa, .ref la, .int d.u] ∧ H p = some (.ins CP dx []) ∧ WebAt CW H wa d.W ∧ H la = some (.tup xs) ∧ TdAll H xs (d.ls.map dSt) ∧
  ∀ H' sa kd sd, But p H H' → H kd = none → H sd = none → PrAt CW CS CP d H' p sa wa kd sd → PSt P w K d H' kd sd [] [] → Q .non H'
theorem ok_pair_init {f fs : Addr} {fd fds : FuncData} (c : Cla K mg CW CD CS CP) (F : FnM K "__init__" "Pair.__init__" s_Pair_init f fd) (M : Mk K CS fs) (G : FnOk P w K mg base CX0 1 fs fds ["self", "web"] (spSchInit P w CW CS)) (bG : L2.Binds K fds ["self", "web"] []) :
    FnOk P w K mg base CX0 3 f fd ["self", "web", "later", "until"] (spPairInit P w K CW CS CP) := by
  refine F.ok sc_Pair_init (fun vs H Q E ⟨d, p, dx, wa, la, xs, e, _⟩ => by rw [e]; rfl) fun cdv A outer s H vs Q E hr ⟨d, p, dx, wa, la, xs, e, hp, hW, hla, hxs, q⟩ => ?_
  subst e
  refine ⟨_, (PSs.nox (pss_cons (ps_fld (pv 0) (pe_make M G hr (by rfl) c.gS bG .nil pass0 (pa_cons (pv 1) pa_nil)) rfl) (pss_cons (ps_fld (pv 0) (pv 2) rfl) (pss_cons (ps_fld (pv 0) (pv 3) rfl) (pss_one (ps_fld (pv 0) pe_nnew rfl)))))), ?_⟩
  refine ⟨_, rfl, fun x xd hx hxd hne => ?_⟩
  have s1 : Same H (upd (upd H xd (.own x)) x (.ins CS xd [])) := fun b o e => by
    rw [upd_ne (ne_of_none e hx), upd_ne (ne_of_none e hxd)]; exact e
  have h1 : upd (upd H xd (.own x)) x (.ins CS xd []) x = some (.ins CS xd []) := upd_same
  generalize upd (upd H xd (.own x)) x (.ins CS xd []) = H1 at s1 h1
  refine ⟨x, xd, wa, d.W, rfl, h1, hW.keep (IK.of s1), fun H2 kd b2 hkd hs2 hk2 => ⟨rfl, ?_⟩⟩
  have s2 : Same H H2 := fun b o e => b2 b o (s1 b o e) (ne_of_none e hx)
  have npx : x ≠ p := Ne.symm (ne_of_none hp hx)
  have npw : wa ≠ p := web_ne hW hp
  have hp2 := s2 _ _ hp
  refine ⟨_, rfl, p, CP, dx, [], rfl, hp2, c.cP, c.pSearch, by decide, ?_⟩
  refine ⟨_, rfl, _, rfl, p, CP, dx, _, rfl, upd_same, c.cP, c.pLater, few (putF_le (Nat.zero_le 0)) (by decide), ?_⟩
  refine ⟨_, rfl, _, rfl, p, CP, dx, _, rfl, upd_same, c.cP, c.pUntil, few (putF_le (putF_le (Nat.zero_le 0))) (by decide), ?_⟩
  have b3 := (((But.refl p H2).put (o := .ins CP dx (putF "search" (.ref x) []))).put (o := .ins CP dx (putF "later" (.ref la) (putF "search" (.ref x) [])))).put (o := .ins CP dx (putF "until" (.int d.u) (putF "later" (.ref la) (putF "search" (.ref x) []))))
  have h3 : upd (upd (upd H2 p (.ins CP dx (putF "search" (.ref x) []))) p (.ins CP dx (putF "later" (.ref la) (putF "search" (.ref x) [])))) p (.ins CP dx (putF "until" (.int d.u) (putF "later" (.ref la) (putF "search" (.ref x) [])))) p = some (.ins CP dx (putF "until" (.int d.u) (putF "later" (.ref la) (putF "search" (.ref x) [])))) := upd_same
  refine fun sd hsd => ?_
  replace hsd : upd (upd (upd H2 p (.ins CP dx (putF "search" (.ref x) []))) p (.ins CP dx (putF "later" (.ref la) (putF "search" (.ref x) [])))) p (.ins CP dx (putF "until" (.int d.u) (putF "later" (.ref la) (putF "search" (.ref x) [])))) sd = none := hsd
  show (_ : Prop)
  generalize upd (upd (upd H2 p (.ins CP dx (putF "search" (.ref x) []))) p (.ins CP dx (putF "later" (.ref la) (putF "search" (.ref x) [])))) p (.ins CP dx (putF "until" (.int d.u) (putF "later" (.ref la) (putF "search" (.ref x) [])))) = H3 at b3 h3 hsd ⊢
  have nkp : kd ≠ p := ne_of hk2 hp2 (fun z => by unfold NdO at z; cases z)
  have h4 : upd H3 sd (NdO P w sd []) p = some (.ins CP dx (putF "until" (.int d.u) (putF "later" (.ref la) (putF "search" (.ref x) [])))) := by rw [upd_ne (ne_of_none h3 hsd)]; exact h3
  have nsp : sd ≠ p := Ne.symm (ne_of_none h3 hsd)
  have nks : kd ≠ sd := ne_of_none (b3 _ _ hk2 nkp) hsd
  have b5 : But p H2 (upd (upd H3 sd (NdO P w sd [])) p (.ins CP dx (putF "seen" (.ref sd) (putF "until" (.int d.u) (putF "later" (.ref la) (putF "search" (.ref x) [])))))) := (b3.new hsd).put
  refine ⟨_, rfl, p, CP, dx, _, rfl, h4, c.cP, c.pSeen, few (putF_le (putF_le (putF_le (Nat.zero_le 0)))) (by decide), ?_⟩
  have k5 : TK H2 _ := b5.tk hp2
  have hsd0 : H sd = none := by
    cases z : H sd with
    | none => rfl
    | some o =>
      have := b3 _ _ (s2 _ _ z) nsp
      rw [hsd] at this
      cases this
  refine q _ x kd sd (fun b o e n => b5 b o (s2 b o e) n) (s1.free hkd) hsd0 ⟨⟨dx, _, la, xs, upd_same, lk_ne (by decide) (lk_ne (by decide) (lk_ne (by decide) lk_same)), lk_ne (by decide) (lk_ne (by decide) lk_same), lk_ne (by decide) lk_same, lk_same, rfl, rfl, rfl, k5 _ _ (s2 _ _ hla), (hxs.keep (TK.of s2)).keep k5⟩, hs2.butne b5 npx npw k5⟩ ⟨nks, mem_nil (b5 _ _ hk2 nkp), mem_nil ?_⟩
  rw [upd_ne nsp, upd_same]; rfl
theorem pi_enumTK {X : Cx} {e : Expr} {ta : TA} {p pos tpos : Pos} {elts : List Expr} {kk : Nat} (hK : X.K = K) (hg : Gl X "enumerate") (hm : X.mg "enumerate" = none) (ha : PA X [e] ta) (hs : starEach [e] X.env = [(false, eval e X.env)]) : PI X (.Tuple elts kk tpos) (.Call (.Name "enumerate" p) [e] [] pos) (iEnumT K ta) := by
  subst hK
  exact pi_enumT hg hm ha hs
def atL (ls : List Letter) (m : Nat) : Letter := ls.getD m ([], 0)
def homeAt (rs : List (List Int)) (m : Nat) : Int := (rs.getD m []).getLastD 0
def numsOf (ls : List Letter) (u : Int) (b : Bool) (i : Nat) : List Nat := (List.range i).filter fun m => decide (u < (atL ls m).2) == b
def ltAt (ls : List Letter) (rs : List (List Int)) (slack : Int) (m : Nat) : Lt := ⟨(atL ls m).1, (atL ls m).2, homeAt rs m + slack⟩
/-- a day's letters that come behind u (b), or that come till u -/
def partOf (ls : List Letter) (rs : List (List Int)) (u slack : Int) (b : Bool) : List Lt := (numsOf ls u b ls.length).map (ltAt ls rs slack)
theorem numsOf_succ (ls : List Letter) (u : Int) (b : Bool) (i : Nat) : numsOf ls u b (i + 1) = numsOf ls u b i ++ (if (decide (u < (atL ls i).2) == b) = true then [i] else []) := by
  unfold numsOf
  rw [List.range_succ, List.filter_append]
  congr 1
  cases h : (decide (u < (atL ls i).2) == b) with
  | true => rw [List.filter_cons_of_pos (by rw [h])]; rfl
  | false => rw [List.filter_cons_of_neg (by rw [h]; decide)]; rfl
theorem numsOf_lt {ls : List Letter} {u : Int} {b : Bool} {i m : Nat} (h : m ∈ numsOf ls u b i) : m < i := List.mem_range.mp (List.mem_filter.mp h).1
theorem numsOf_len (ls : List Letter) (u : Int) (b : Bool) (i : Nat) : (numsOf ls u b i).length ≤ i := by
  unfold numsOf
  refine Nat.le_trans (List.length_filter_le _ _) ?_
  rw [List.length_range]
  exact Nat.le_refl _
theorem atL_get {ls : List Letter} {m : Nat} (h : m < ls.length) : ls[m]? = some (atL ls m) := by
  rw [List.getElem?_eq_getElem h]
  unfold atL
  simp [h]
theorem stOf_nums (ls : List Letter) (rs : List (List Int)) (slack : Int) : ∀ ns : List Nat, stOf (ns.map (atL ls)) (ns.map (homeAt rs)) slack = ns.map (ltAt ls rs slack)
  | [] => rfl
  | n :: ns => by
    show (⟨_, _, _⟩ : Lt) :: stOf (ns.map (atL ls)) (ns.map (homeAt rs)) slack = _
    rw [stOf_nums ls rs slack ns]; rfl
theorem atI_lastD {r : List Int} (h : r ≠ []) : atI (r.map V.int) (-1) = some (.int (r.getLastD 0)) := by
  obtain ⟨q, z, rfl⟩ : ∃ q z, r = q ++ [z] := ⟨_, _, (List.dropLast_concat_getLast h).symm⟩
  rw [List.map_append]
  have := atI_last (q.map V.int) (.int z)
  rw [show (q ++ [z]).getLastD 0 = z by simp]
  exact this
def spSplit (CW CD : Addr) : Sp := fun vs H Q _ => ∃ (da wa : Addr) (W : WD) (u slack : Int) (ls : List Letter) (rs : List (List Int)), vs = [.ref da, .int u, .int slack] ∧ DayAt CD H da wa ls rs ∧ WebAt CW H wa W ∧ Fits ls rs ∧ (∀ l ∈ ls, GoodL l) ∧ ls.length ≤ 20 ∧
  ∀ p p0 p1 H' S0 S1, Same H H' → H' p = some (.lst [.ref p0, .ref p1]) → S0.Perm (partOf ls rs u slack false) → Srt S0 → Td H' (.ref p0) (dSt S0) → S1.Perm (partOf ls rs u slack true) → Srt S1 → Td H' (.ref p1) (dSt S1) → Q (.ref p) H'
theorem ok_split (ev : Ev mg) (c : Cla K mg CW CD CS CP) (D : Def K mg "split_state" s_split_state) (h1 : Has P w K mg base CX0 1 "state_of" ["web", "letters", "homes", "hours", "slack"] (spStateOf CW)) : Has P w K mg base CX0 2 "split_state" ["day", "until", "slack"] (spSplit CW CD) := by
  refine .of D (fun _ _ _ _ _ _ us hl => match us, hl with | [_, _, _], _ => rfl) fun f fd F => F.ok sc_split_state (fun vs H Q E ⟨da, wa, W, u, slack, ls, rs, e, _⟩ => by rw [e]; rfl) fun cdv A outer s H vs Q E hr ⟨da, wa, W, u, slack, ls, rs, e, hda, hW, hf, hg, l20, q⟩ => ?_
  subst e
  refine ⟨_, (PSs.nox (pss_cons (ps_set (i := 3) sc_split_state.nd rfl (.inl rfl) (pe_lst pa_nil)) (pss_cons (ps_for PassesOwn.never rfl (pi_tup (pe_tup (pa_cons pe_bl (pa_cons pe_bl pa_nil)))) (pg_name (i := 4) sc_split_state.nd rfl (.inr rfl)) (pss_cons (ps_setLc (i := 5) (own := [("number", 6), ("letter", 7)]) rfl sc_split_state.nd rfl rfl (sw_true rfl rfl rfl (by decide +kernel)) (pi_enumTK (K := K) rfl (by rfl) ev.enumerate (pa_cons (pe_fldK (K := K) rfl (pv 0) rfl) pa_nil) rfl) (blkOk_by (own := [("number", 6), ("letter", 7)]) (N := sc_split_state_N) (sc := sc_split_state_S) (by decide +kernel)) (fun _ _ _ _ _ => (pgTupK (K := K) (n := 2) rfl rfl (pgs_cons (pg_name (i := 6) sc_split_state.nd rfl (.inl rfl)) (pgs_cons (pg_name (i := 7) sc_split_state.nd rfl (.inl rfl)) pgs_nil)) rfl rfl)) (fun _ _ _ _ _ => (pts_one (pt_cmpR op_eq (pe_cmpR op_gt (pe_ix (ixT (K := K) rfl) (pv 7) pe_int (fun _ _ => rfl)) (pv 1) (nomark _)) (pv 4) (nomark _)))) (fun _ _ _ _ _ => (pv 6))) (pss_cons (ps_setLc (i := 8) (own := [("number", 6)]) rfl sc_split_state.nd rfl rfl (sw_true rfl rfl rfl (by decide +kernel)) (pi_list (pv 5)) (blkOk_by (own := [("number", 6)]) (N := sc_split_state_N) (sc := sc_split_state_S) (by decide +kernel)) (fun _ _ _ _ _ => (pg_name (i := 6) sc_split_state.nd rfl (.inl rfl))) (fun _ _ _ _ _ => pts_nil) (fun _ _ _ _ _ => (pe_ix (ixT (K := K) rfl) (pe_fldK (K := K) rfl (pv 0) rfl) (pv 6) (fun _ _ => rfl)))) (pss_cons (ps_setLc (i := 9) (own := [("number", 6)]) rfl sc_split_state.nd rfl rfl (sw_true rfl rfl rfl (by decide +kernel)) (pi_list (pv 5)) (blkOk_by (own := [("number", 6)]) (N := sc_split_state_N) (sc := sc_split_state_S) (by decide +kernel)) (fun _ _ _ _ _ => (pg_name (i := 6) sc_split_state.nd rfl (.inl rfl))) (fun _ _ _ _ _ => pts_nil) (fun _ _ _ _ _ => (pe_ix (ixT (K := K) rfl) (pe_ix (ixT (K := K) rfl) (pe_fldK (K := K) rfl (pv 0) rfl) (pv 6) (fun _ _ => rfl)) (pe_un un_neg pe_int) (fun _ _ => rfl)))) (pss_one (ps_expr (pe_bm PySem.F.plainAttrs_list PySem.F.slot_list_append PySem.F.type_list_append mt_append (pv 3) (pa_cons (pe_has h1 hr (by rfl) (pa_cons (pe_fldK (K := K) rfl (pv 0) rfl) (pa_cons (pv 8) (pa_cons (pv 9) (pa_cons (pe_lc (own := [("number", 6)]) rfl sc_split_state.nd (pi_list (pv 5)) (blkOk_by (own := [("number", 6)]) (N := sc_split_state_N) (sc := sc_split_state_S) (by decide +kernel)) (fun _ _ _ _ _ => (pg_name (i := 6) sc_split_state.nd rfl (.inl rfl))) (fun _ _ _ _ _ => pts_nil) (fun _ _ _ _ _ => (pe_tup pa_nil))) (pa_cons (pv 2) pa_nil)))))) pa_nil)))))))) (pss_one (ps_ret (pv 3)))))), ?_⟩
  obtain ⟨dx, fs, a1, a2, hdd, k1, k2, t2, k3, k4, t4⟩ := id hda
  obtain ⟨_, xs, e, hb, hal, hlx⟩ := tdLets t2
  cases e
  obtain ⟨_, ys, e, hb2, hbl, hly⟩ := tdRows t4
  cases e
  refine ⟨by show 0 ≤ sizeLine; exact Nat.zero_le _, fun sp hsp => ?_⟩
  have s1 : Same H (upd H sp (.lst [])) := same_new hsp
  have hs1 : upd H sp (.lst []) sp = some (.lst []) := upd_same
  have hsp0 : H sp = none := hsp
  generalize upd H sp (.lst []) = H1 at s1 hs1
  refine ⟨by show 2 ≤ sizeLine; decide, fun tp htp => ?_⟩
  have s2 : Same H1 (upd H1 tp (.tup [.bl false, .bl true])) := same_new htp
  have ht2 : upd H1 tp (.tup [.bl false, .bl true]) tp = some (.tup [.bl false, .bl true]) := upd_same
  generalize upd H1 tp (.tup [.bl false, .bl true]) = H2 at s2 ht2
  have s02 := s1.trans s2
  refine ⟨tp, rfl, ⟨_, sqT ht2⟩, for_tup (xs := [.bl false, .bl true]) (fun i σ H' => (Same H H' ∧ H' tp = some (.tup [.bl false, .bl true]) ∧ ∃ zs : List V, H' sp = some (.lst zs) ∧ zs.length = i ∧ ∀ (j : Nat) (z : V), zs[j]? = some z → ∃ p S, z = .ref p ∧ S.Perm (partOf ls rs u slack (j == 1)) ∧ Srt S ∧ Td H' (.ref p) (dSt S)) ∧ ∃ v4 v5 v8 v9, σ = [some (.ref da), some (.int u), some (.int slack), some (.ref sp), v4, v5, none, none, v8, v9]) ⟨⟨s02, ht2, [], s2 _ _ hs1, rfl, fun j z h => by simp at h⟩, _, _, _, _, rfl⟩ (fun i σ H' _ h => sqT h.1.2.1) ?_ ?_⟩
  · rintro i x σ H3 hx ⟨⟨s3, htp3, zs, hzs, hzl, hz⟩, v4, v5, v8, v9, rfl⟩
    have hxb : x = .bl (i == 1) ∧ i < 2 := by
      match i, hx with
      | 0, hx => exact ⟨(Option.some.inj hx).symm, by omega⟩
      | 1, hx => exact ⟨(Option.some.inj hx).symm, by omega⟩
    obtain ⟨rfl, hi2⟩ := hxb
    generalize hbe : (i == 1) = bb
    refine ⟨_, rfl, da, CD, dx, fs, _, rfl, s3 _ _ hdd, c.cD, c.dLetters, k2, a1, xs, rfl, sqT (s3 _ _ hb), fun D hD => lc_it walk_enumT (fun m H' => Same H3 H' ∧ H' D = some (.lst ((numsOf ls u bb m).map iN))) ⟨same_new hD, upd_same⟩ (fun m H' _ h => sqT (h.1 _ _ (s3 _ _ hb))) (fun m y H' H'' hm ⟨s4, e4⟩ hy => ?_) fun H4 ⟨s4, e4⟩ => ?_⟩
    · obtain ⟨T0, x1, x2, rfl, hT0, rfl, g1, g2⟩ := hy
      cases g1
      replace g2 : xs[m]? = some x2 := g2
      obtain ⟨l, hl, tl⟩ := hal.map_got g2
      have hml : m < ls.length := (List.getElem?_eq_some_iff.mp hl).1
      have eal : atL ls m = l := Option.some.inj ((atL_get hml).symm.trans hl)
      have s5 : Same H' (upd H' T0 (.tup [V.int (m : Nat), x2])) := same_new hT0
      have hT5 : upd H' T0 (.tup [V.int (m : Nat), x2]) T0 = some (.tup [V.int (m : Nat), x2]) := upd_same
      generalize upd H' T0 (.tup [V.int (m : Nat), x2]) = H5 at s5 hT5
      obtain ⟨c1, c2, rfl, hc1, hc2⟩ := td_let (tl.keep (TK.of ((s3.trans s4).trans s5)))
      have hnl := numsOf_len ls u bb m
      refine ⟨T0, _, rfl, sqT hT5, rfl, _, _, rfl, _, _, rfl, rfl, rfl, _, rfl, c1, _, 1, .int l.2, rfl, rfl, sqT hc1, atI_nat (j := 1) rfl, _, rfl, _, _, rfl, rfl, _, rfl, rfl, _, rfl, ?_⟩
      rw [numsOf_succ, eal]
      have edc : decide (V.bl (decide (u < l.2)) = V.bl bb) = (decide (u < l.2) == bb) := by
        cases decide (u < l.2) <;> cases bb <;> rfl
      rw [edc]
      refine ite2 (fun hc => ?_) fun hc => ?_
      · rw [if_pos hc]
        refine ⟨_, rfl, _, s5 _ _ e4, len_line (by rw [List.length_map]; omega), same_at (s4.trans s5) hD (s5 _ _ e4), ?_⟩
        rw [upd_same, List.map_append]; rfl
      · rw [if_neg hc, List.append_nil]
        exact ⟨s4.trans s5, s5 _ _ e4⟩
    · rw [hlx] at e4
      have s34 := s3.trans s4
      have hNl := numsOf_len ls u bb ls.length
      have hNm : ∀ m ∈ numsOf ls u bb ls.length, m < ls.length := fun m h => numsOf_lt h
      have hpo : partOf ls rs u slack bb = (numsOf ls u bb ls.length).map (ltAt ls rs slack) := rfl
      generalize numsOf ls u bb ls.length = N at e4 hNl hNm hpo
      refine ⟨_, rfl, D, rfl, ⟨_, sqL e4⟩, fun D2 hD2 => lc_list (xs := N.map iN) (fun j H' => Same H4 H' ∧ ∃ ws, H' D2 = some (.lst ws) ∧ TdAll H' ws (((N.take j).map (atL ls)).map dLet)) ⟨same_new hD2, [], upd_same, .nil⟩ (fun j H' _ h => sqL (h.1 _ _ e4)) (fun j y H' hy ⟨s5, ws, e5, w5⟩ => ?_) fun H5 ⟨s5, ws, e5, w5⟩ => ?_⟩
      · rw [List.getElem?_map] at hy
        obtain ⟨m, hm, rfl⟩ := Option.map_eq_some_iff.mp hy
        have hml := hNm m (List.mem_of_getElem? hm)
        obtain ⟨x, hx, tx⟩ := hal.map_got' (atL_get hml)
        have wl : ws.length ≤ 20 := by
          have := w5.len
          rw [List.length_map, List.length_map, List.length_take] at this
          omega
        have tk5 : TK H' (upd H' D2 (.lst (ws ++ [x]))) := fun b zs e => by rw [upd_ne (ne_of e e5 (fun z => by cases z))]; exact e
        refine ⟨rfl, _, rfl, da, CD, dx, fs, _, rfl, (s34.trans s5) _ _ hdd, c.cD, c.dLetters, k2, _, rfl, a1, _, _, x, rfl, rfl, sqT ((s34.trans s5) _ _ hb), atI_nat hx, _, e5, len_line (by omega), same_at s5 hD2 e5, _, upd_same, ?_⟩
        rw [take_snoc hm, List.map_append, List.map_append]
        exact (w5.keep tk5).snoc ((tx.keep (TK.of (s34.trans s5))).keep tk5)
      · rw [List.length_map, List.take_length] at w5
        have s35 := s34.trans s5
        refine ⟨_, rfl, D, rfl, ⟨_, sqL (s5 _ _ e4)⟩, fun D3 hD3 => lc_list (xs := N.map iN) (fun j H' => Same H5 H' ∧ H' D3 = some (.lst (((N.take j).map (homeAt rs)).map V.int))) ⟨same_new hD3, upd_same⟩ (fun j H' _ h => sqL (h.1 _ _ (s5 _ _ e4))) (fun j y H' hy ⟨s6, e6⟩ => ?_) fun H6 ⟨s6, e6⟩ => ?_⟩
        · rw [List.getElem?_map] at hy
          obtain ⟨m, hm, rfl⟩ := Option.map_eq_some_iff.mp hy
          have hml := hNm m (List.mem_of_getElem? hm)
          have hmr : m < rs.length := by rw [hf.1]; exact hml
          have hrm : rs[m]? = some (rs.getD m []) := by
            rw [List.getElem?_eq_getElem hmr]
            simp [hmr]
          obtain ⟨x, hx, tx⟩ := hbl.map_got' hrm
          obtain ⟨rc, rfl, hrc⟩ := (tx.keep (TK.of (s35.trans s6))).ints
          have hne : rs.getD m [] ≠ [] := fun z => by
            have h5 := hf.2 m _ _ (atL_get hml) hrm
            rw [z] at h5
            have h6 := (hg _ (List.mem_of_getElem? (atL_get hml))).1
            exact h6 (List.length_eq_zero_iff.mp h5.symm)
          refine ⟨rfl, _, rfl, da, CD, dx, fs, _, rfl, (s35.trans s6) _ _ hdd, c.cD, c.dKept, k4, _, rfl, a2, _, _, .ref rc, rfl, rfl, sqT ((s35.trans s6) _ _ hb2), atI_nat hx, _, rfl, rc, _, _, _, rfl, rfl, sqT hrc, atI_lastD hne, _, e6, len_line (by rw [List.length_map, List.length_map, List.length_take]; omega), same_at s6 hD3 e6, ?_⟩
          rw [upd_same, take_snoc hm, List.map_append, List.map_append]; rfl
        · rw [List.length_map, List.take_length] at e6
          have s36 := s35.trans s6
          have hzs3 : H3 sp = some (.lst zs) := hzs
          have hzs6 : H6 sp = some (.lst zs) := s6 _ _ (s5 _ _ (s4 _ _ hzs3))
          have wl : ws.length = N.length := by rw [w5.len, List.length_map, List.length_map]
          refine ⟨_, rfl, tyL hzs6, _, rfl, da, CD, dx, fs, _, rfl, s36 _ _ hdd, c.cD, c.dWeb, k1, _, rfl, _, rfl, _, rfl, D, rfl, ⟨_, sqL (s6 _ _ (s5 _ _ e4))⟩, fun D4 hD4 => lc_list (xs := N.map iN) (fun j H' => Same H6 H' ∧ ∃ us, H' D4 = some (.lst us) ∧ us.length = j ∧ ∀ v ∈ us, ∃ e, v = .ref e ∧ H' e = some (.tup [])) ⟨same_new hD4, [], upd_same, rfl, fun _ z => nomatch z⟩ (fun j H' _ h => sqL (h.1 _ _ (s6 _ _ (s5 _ _ e4)))) (fun j y H' hy ⟨s7, us, e7, u7, h7⟩ => ?_) fun H7 ⟨s7, us, e7, u7, h7⟩ => ?_⟩
          · have hjl : j < N.length := by
              have := (List.getElem?_eq_some_iff.mp hy).1
              rw [List.length_map] at this
              exact this
            refine ⟨rfl, by show 0 ≤ sizeLine; exact Nat.zero_le _, fun t ht => ?_⟩
            have s8 : Same H' (upd H' t (.tup [])) := same_new ht
            have ht8 : upd H' t (.tup []) t = some (.tup []) := upd_same
            generalize upd H' t (.tup []) = H8 at s8 ht8
            have e8 := s8 _ _ e7
            have tk8 : ∀ b zs, H8 b = some (.tup zs) → upd H8 D4 (.lst (us ++ [.ref t])) b = some (.tup zs) := fun b zs e => by rw [upd_ne (ne_of e e8 (fun z => by cases z))]; exact e
            refine ⟨us, e8, len_line (by omega), same_at (s7.trans s8) hD4 e8, _, upd_same, by rw [List.length_append, u7]; rfl, fun v hv => ?_⟩
            rcases List.mem_append.mp hv with hv | hv
            · obtain ⟨e, rfl, he⟩ := h7 v hv
              exact ⟨e, rfl, tk8 _ _ (s8 _ _ he)⟩
            · exact ⟨t, List.mem_singleton.mp hv, tk8 _ _ ht8⟩
          · have s37 := s36.trans s7
            refine ⟨_, rfl, wa, D2, D3, D4, W, slack, N.map (atL ls), N.map (homeAt rs), ws, us, rfl, hW.keep (IK.of s37), s7 _ _ (s6 _ _ e5), (w5.keep (TK.of s6)).keep (TK.of s7), s7 _ _ e6, e7, h7, by rw [List.length_map, List.length_map], by rw [u7, List.length_map, List.length_map], by rw [List.length_map]; omega, fun k hk => ?_, fun p H8 S' s8 hS' hsrt' tS' => ?_⟩
            · obtain ⟨m, hm, rfl⟩ := List.mem_map.mp hk
              exact hg _ (List.mem_of_getElem? (atL_get (hNm m hm)))
            · rw [stOf_nums, ← hpo] at hS'
              have hzs8 := s8 _ _ (s7 _ _ hzs6)
              have s38 := s37.trans s8
              have tk8 : TK H8 (upd H8 sp (.lst (zs ++ [.ref p]))) := fun b zs e => by rw [upd_ne (ne_of e hzs8 (fun z => by cases z))]; exact e
              refine ⟨sp, zs, .ref p, rfl, rfl, hzs8, len_line (by omega), ⟨same_at s38 hsp0 hzs8, tk8 _ _ (((((s4.trans s5).trans s6).trans s7).trans s8) _ _ htp3), _, upd_same, by rw [List.length_append, hzl]; rfl, fun j z hjz => ?_⟩, _, _, _, _, rfl⟩
              by_cases hj : j < zs.length
              · rw [List.getElem?_append_left hj] at hjz
                obtain ⟨p', S0, rfl, q1, q2, q3⟩ := hz j z hjz
                exact ⟨p', S0, rfl, q1, q2, (q3.keep (TK.of ((((s4.trans s5).trans s6).trans s7).trans s8))).keep tk8⟩
              · have ej : j = zs.length := by
                  have := (List.getElem?_eq_some_iff.mp hjz).1
                  rw [List.length_append, List.length_singleton] at this
                  omega
                subst ej
                rw [List.getElem?_append_right (Nat.le_refl _), Nat.sub_self] at hjz
                cases hjz
                refine ⟨p, S', rfl, ?_, hsrt', tS'.keep tk8⟩
                rw [hzl, hbe]; exact hS'
  · rintro σ H3 ⟨⟨s3, htp3, zs, hzs, hzl, hz⟩, v4, v5, v8, v9, rfl⟩
    obtain ⟨z0, z1, rfl⟩ : ∃ z0 z1, zs = [z0, z1] := by
      match zs, hzl with
      | [a, b], _ => exact ⟨a, b, rfl⟩
    obtain ⟨p0, S0, rfl, a1, a2, a3⟩ := hz 0 z0 rfl
    obtain ⟨p1, S1, rfl, b1, b2, b3⟩ := hz 1 z1 rfl
    exact ⟨_, rfl, q sp p0 p1 H3 S0 S1 s3 hzs a1 a2 a3 b1 b2 b3⟩
end
end Hc
end

section
set_option Elab.async false
set_option linter.all false
set_option maxRecDepth 100000
set_option maxHeartbeats 4000000
namespace Hc
open PySem PySem.Spec PyProof.Rows L2 HcR LamX
section
variable {P : Program} {w : World} {K : PySem.W.Frag} {mg : Str → Option Value} {base : Heap}

variable {CW CD CS CP : Addr}
theorem wtS_perm {L L' : List Lt} (p : L.Perm L') : wtS L = wtS L' := by
  induction p with
  | nil => rfl
  | cons x _ ih => show _ * wtS _ = _ * wtS _; rw [ih]
  | swap x y l => show _ * (_ * wtS l) = _ * (_ * wtS l); rw [← Nat.mul_assoc, ← Nat.mul_assoc, Nat.mul_comm (2 + 3 * (y.rest.length - 1))]
  | trans _ _ i j => exact i.trans j
theorem GoodI.perm {L L' : List Lt} (g : GoodI L) (p : L'.Perm L) : GoodI L' := ⟨fun x hx => g.letters x (p.mem_iff.mp hx), by rw [p.length_eq]; exact g.len, by rw [wtS_perm p]; exact g.wt⟩
theorem Both.congr {tm : Nat → Int} {rm : Nat → Nat} {u t : Int} {G G' : List Lt → Prop} (h : ∀ S, G S → G' S) {S : List Lt} (b : Both tm rm u G t S) : Both tm rm u G' t S := by
  induction b with
  | fin g => exact .fin (h _ g)
  | step P ht hl e ok _ ih => exact .step P ht hl e ok ih
/-- what both_lost is about -/
def lostPD (W : WD) (u slack : Int) (ls ls' : List Letter) (rs rs' : List (List Int)) : PD := ⟨W, u, [partOf ls rs u slack true, partOf ls' rs' u slack true], partOf ls rs u slack false⟩
theorem PD.B_perm {W : WD} {u : Int} {E E' L0 L0' L1 L1' : List Lt} (pe : E'.Perm E) (p0 : L0'.Perm L0) (p1 : L1'.Perm L1) (h : (⟨W, u, [L0, L1], E⟩ : PD).B 1 E) : (⟨W, u, [L0', L1'], E'⟩ : PD).B 1 E' := by
  have hT1 : ∀ r, 1 ≤ W.T r := fun r => (W.T1 r).1
  have h2 : (⟨W, u, [L0, L1], E⟩ : PD).B 1 E' := Both.mono hT1 (fun S S' r h => PD.G_R (d := ⟨W, u, [L0, L1], E⟩) r h) h (.perm pe)
  refine Both.congr (fun S g l hl => ?_) h2
  have hl : l = L0' ∨ l = L1' := by simpa using hl
  rcases hl with rfl | rfl
  · exact (g L0 (by show L0 ∈ [L0, L1]; simp)).mono hT1 (.perm (p0.append_left S))
  · exact (g L1 (by show L1 ∈ [L0, L1]; simp)).mono hT1 (.perm (p1.append_left S))
theorem GoodP.perm {W : WD} {u : Int} {E E' L0 L0' L1 L1' : List Lt} (g : GoodP ⟨W, u, [L0, L1], E⟩) (pe : E'.Perm E) (p0 : L0'.Perm L0) (p1 : L1'.Perm L1) : GoodP ⟨W, u, [L0', L1'], E'⟩ := by
  have m0 : L0 ∈ [L0, L1] := by simp
  have m1 : L1 ∈ [L0, L1] := by simp
  refine ⟨g.u1, g.u2, Nat.le_refl _, by show 0 < 2; decide, g.early.perm pe, fun l hl => ?_, fun l hl x hx => ?_⟩
  · have hl : l = L0' ∨ l = L1' := by simpa using hl
    rcases hl with rfl | rfl
    · exact (g.ls L0 m0).perm (pe.append p0)
    · exact (g.ls L1 m1).perm (pe.append p1)
  · have hl : l = L0' ∨ l = L1' := by simpa using hl
    rcases hl with rfl | rfl
    · exact g.late L0 m0 x (p0.mem_iff.mp hx)
    · exact g.late L1 m1 x (p1.mem_iff.mp hx)
def spBothLost (CW CD Pt : Addr) : Sp := fun vs H Q _ => ∃ (da db wa : Addr) (W : WD) (u late : Int) (ls ls' : List Letter) (rs rs' : List (List Int)), vs = [.ref da, .ref db, .int u, .int late] ∧ DayAt CD H da wa ls rs ∧ DayAt CD H db wa ls' rs' ∧ WebAt CW H wa W ∧ Fits ls rs ∧ Fits ls' rs' ∧ (∀ l ∈ ls, GoodL l) ∧ (∀ l ∈ ls', GoodL l) ∧
  ls.length ≤ 20 ∧ ls'.length ≤ 20 ∧ GoodP (lostPD W u (late - 1) ls ls' rs rs') ∧ Tabs (TbL Pt) H ∧ ∀ b H', ExtN H H' → Tabs (TbL Pt) H' → (b = true ↔ ¬ (lostPD W u (late - 1) ls ls' rs rs').B 1 (lostPD W u (late - 1) ls ls' rs rs').early) → Q (.bl b) H'
theorem ok_both_lost {Pt fS fB fT fi : Addr} {gS gB gT gi : FuncData} (ev : Ev mg) (c : Cla K mg CW CD CS CP) (D : Def K mg "both_lost" s_both_lost) (pm : PMs K CP fS fB fT gS gB gT) (h2 : Has P w K mg base CX0 2 "split_state" ["day", "until", "slack"] (spSplit CW CD)) (M : Mk K CP fi) (G : FnOk P w K mg base CX0 3 fi gi ["self", "web", "later", "until"] (spPairInit P w K CW CS CP)) (bG : L2.Binds K gi ["self", "web", "later", "until"] [])
    (hB : FnOk P w K mg base CX0 149 fB gB ["self", "state", "tick"] (spBS P w K CW CS CP Pt 30)) : Has P w K mg base CX0 150 "both_lost" ["day", "other", "until", "late"] (spBothLost CW CD Pt) := by
  refine .of D (fun _ _ _ _ _ _ us hl => match us, hl with | [_, _, _, _], _ => rfl) fun f fd F => F.ok sc_both_lost (fun vs H Q E ⟨da, db, wa, W, u, late, ls, ls', rs, rs', e, _⟩ => by rw [e]; rfl) fun cdv A outer s H vs Q E hr ⟨da, db, wa, W, u, late, ls, ls', rs, rs', e, hda, hdb, hW, hf, hf', hg, hg', l20, l20', gp, hT, q⟩ => ?_
  subst e
  refine ⟨_, (PSs.nox (pss_cons (ps_set (i := 4) sc_both_lost.nd rfl (.inl rfl) (pe_op op_sub (pv 3) pe_int)) (pss_cons (ps_asg (pe_has h2 (hr.mono (by decide)) (by rfl) (pa_cons (pv 0) (pa_cons (pv 2) (pa_cons (pv 4) pa_nil)))) (pg_lst (n := 2) rfl (pgs_cons (pg_name (i := 5) sc_both_lost.nd rfl (.inl rfl)) (pgs_cons (pg_name (i := 6) sc_both_lost.nd rfl (.inl rfl)) pgs_nil)))) (pss_cons (ps_set (i := 7) sc_both_lost.nd rfl (.inl rfl) (pe_ix (ixL (K := K) rfl) (pe_has h2 (hr.mono (by decide)) (by rfl) (pa_cons (pv 1) (pa_cons (pv 2) (pa_cons (pv 4) pa_nil)))) pe_int (fun _ _ => rfl))) (pss_one (ps_ret (pe_not (pe_meth (pe_make M G (hr.mono (by decide)) (by rfl) c.gP bG .nil pass0 (pa_cons (pe_fldK (K := K) rfl (pv 0) rfl) (pa_cons (pe_tup (pa_cons (pv 6) (pa_cons (pv 7) pa_nil))) (pa_cons (pv 2) pa_nil)))) c.cP pm.mB hB hr pm.bB .nil pass0 (pa_cons (pv 5) (pa_cons pe_int pa_nil)))))))))), ?_⟩
  refine ⟨_, rfl, _, _, rfl, rfl, ?_⟩
  refine ⟨_, rfl, _, rfl, _, rfl, da, wa, W, u, late - 1, ls, rs, rfl, hda, hW, hf, hg, l20, fun p p0 p1 H1 S0 S1 s1 hp pS0 sS0 tS0 pS1 sS1 tS1 => ?_⟩
  refine ⟨p, _, rfl, sqL hp, rfl, _, _, rfl, _, _, rfl, rfl, ?_⟩
  refine ⟨_, rfl, _, rfl, _, rfl, db, wa, W, u, late - 1, ls', rs', rfl, hdb.keep (IK.of s1), hW.keep (IK.of s1), hf', hg', l20', fun p' p0' p1' H2 S0' S1' s2 hp' pS0' sS0' tS0' pS1' sS1' tS1' => ?_⟩
  refine ⟨p', _, 1, .ref p1', rfl, rfl, sqL hp', atI_nat (j := 1) rfl, ?_⟩
  have s02 := s1.trans s2
  obtain ⟨dx, fs, a1, a2, hdd, k1, k2, t2, k3, k4, t4⟩ := hda.keep (IK.of s02)
  refine ⟨_, rfl, da, CD, dx, fs, _, rfl, hdd, c.cD, c.dWeb, k1, _, rfl, _, rfl, by show 2 ≤ sizeLine; decide, fun tp htp => ⟨_, rfl, fun x xd hx hxd hne => ?_⟩⟩
  have s3 : Same H2 (upd H2 tp (.tup [.ref p1, .ref p1'])) := same_new htp
  have ht3 : upd H2 tp (.tup [.ref p1, .ref p1']) tp = some (.tup [.ref p1, .ref p1']) := upd_same
  generalize upd H2 tp (.tup [.ref p1, .ref p1']) = H3 at s3 ht3 hx hxd ⊢
  have s4 : Same H3 (upd (upd H3 xd (.own x)) x (.ins CP xd [])) := fun b o e => by
    rw [upd_ne (ne_of_none e hx), upd_ne (ne_of_none e hxd)]; exact e
  have h4 : upd (upd H3 xd (.own x)) x (.ins CP xd []) x = some (.ins CP xd []) := upd_same
  generalize upd (upd H3 xd (.own x)) x (.ins CP xd []) = H4 at s4 h4 ⊢
  have s24 := s3.trans s4
  have s04 := s02.trans s24
  refine ⟨⟨W, u, [S1, S1'], S0⟩, x, xd, wa, tp, [.ref p1, .ref p1'], rfl, h4, hW.keep (IK.of s04), s4 _ _ ht3, .cons ((tS1.keep (TK.of s2)).keep (TK.of s24)) (.cons (tS1'.keep (TK.of s24)) .nil), fun H5 sa kd sd b5 nk ns pr ps => ⟨rfl, ?_⟩⟩
  have s35 : Same H3 H5 := fun b o e => b5 b o (s4 b o e) (ne_of_none e hx)
  have s05 := s02.trans (s3.trans s35)
  have gp' : GoodP ⟨W, u, [S1, S1'], S0⟩ := gp.perm pS0 pS1 pS1'
  obtain ⟨⟨dx5, fs5, la5, xs5, h5, _, _, _, _, z5, _⟩, _⟩ := id pr
  refine ⟨x, dx5, fs5, rfl, h5, z5, _, rfl, ⟨W, u, [S1, S1'], S0⟩, x, sa, wa, kd, sd, [], [], _, S0, gp', pr, ps, (tS0.keep (TK.of s2)).keep (TK.of (s3.trans s35)), hT.ext s05, ⟨1, rfl, domS_first (.refl _) sS0 (fun x hx => (gp'.early.letters x hx).2.1), by have := gp.u1; show 1 ≤ u + 1; have : 1 ≤ u := this; omega, by have := gp.u2; have : u ≤ 30 := this; show u + 1 ≤ 1 + ((30 : Nat) : Int); omega⟩, fun b6 H6 g1 g2 x6 T6 m6 hb6 => ⟨b6, rfl, ?_⟩⟩
  replace hb6 : b6 = true ↔ (⟨W, u, [S1, S1'], S0⟩ : PD).B 1 S0 := hb6.trans all_vs
  refine q _ H6 (fun b o e n => x6 b o (s05 b o e) ?_ ?_ n) T6 ?_
  · intro z
    subst z
    rw [s04 _ _ e] at nk
    cases nk
  · intro z
    subst z
    rw [s04 _ _ e] at ns
    cases ns
  · have hbe : (⟨W, u, [S1, S1'], S0⟩ : PD).B 1 S0 ↔ (lostPD W u (late - 1) ls ls' rs rs').B 1 (lostPD W u (late - 1) ls ls' rs rs').early := ⟨fun z => PD.B_perm pS0.symm pS1.symm pS1'.symm z, fun z => PD.B_perm pS0 pS1 pS1' z⟩
    rw [← hbe, ← hb6]
    cases b6 <;> simp
end
end Hc
end

section
set_option Elab.async false
set_option linter.all false
set_option maxRecDepth 100000
set_option maxHeartbeats 4000000
namespace Hc
open PySem PySem.Spec PyProof.Rows L2 HcR LamX
section
variable {P : Program} {w : World} {K : PySem.W.Frag} {mg : Str → Option Value} {base : Heap}

variable {CW CD CS CP : Addr}
def dPlan (pl : List (List Nat)) : PyData := .tuple (pl.map dWay)
structure GoodPlan (pl : List (List Nat)) : Prop where
  len : pl.length = 8
  asc : ∀ (i : Nat) (l : List Nat), pl[i]? = some l → l.Pairwise (· < ·)
  lt : ∀ (i : Nat) (l : List Nat), pl[i]? = some l → ∀ m ∈ l, m < i + 1
  last : ∀ (i : Nat) (l : List Nat), pl[i]? = some l → i ∈ l
  few : ∀ (i : Nat) (l : List Nat), pl[i]? = some l → l.length ≤ 8
def spPlaces : Sp := fun vs H Q _ => ∃ (x : V) (n : Nat) (l : List Nat), vs = [x, .int ((n : Int) + 1)] ∧ Td H x (dWay l) ∧ l.Pairwise (· < ·) ∧ (∀ m ∈ l, m < n + 1) ∧ n ∈ l ∧ l.length ≤ 8 ∧ ∀ H', Same H H' → Q (.bl true) H'
theorem ok_places (ev : Ev mg) (D : Def K mg "are_plan_places" s_are_plan_places) (h1 : Has P w K mg base CX0 2 "is_within" ["thing", "least", "most"] spIsWithin) (h2 : Has P w K mg base CX0 1 "are_ascending" ["numbers"] spAscending) : Has P w K mg base CX0 3 "are_plan_places" ["thing", "length"] spPlaces := by
  refine .of D (fun _ _ _ _ _ _ us hl => match us, hl with | [_, _], _ => rfl) fun f fd F => F.ok sc_are_plan_places (fun vs H Q E ⟨x, n, l, e, _⟩ => by rw [e]; rfl) fun cdv A outer s H vs Q E hr ⟨x, n, l, e, hx, ha, hlt, hm, h8, q⟩ => ?_
  subst e
  refine ⟨_, (PSs.nox (pss_cons (ps_if (PW.pt (pw_or (pt_not (pt_val (pe_callB ((isiK (K := K) rfl)) (by rfl) ev.isinstance (by decide +kernel) (pa_cons (pv 0) (pa_cons (pe_bltn (v := .ty "tuple") (by rfl) ev.tuple (by decide +kernel) rfl) pa_nil))))) (pw_or1 (pt_not (pt_val (pe_callB ((allK (K := K) rfl rfl)) (by rfl) ev.all (by decide +kernel) (pa_cons (pe_lc (own := [("place", 2)]) rfl sc_are_plan_places.nd (pi_tup (pv 0)) (blkOk_by (own := [("place", 2)]) (N := sc_are_plan_places_N) (sc := sc_are_plan_places_S) (by decide +kernel)) (fun _ _ _ _ _ => (pg_name (i := 2) sc_are_plan_places.nd rfl (.inl rfl))) (fun _ _ _ _ _ => pts_nil) (fun _ _ _ _ _ => (pe_has h1 hr (by rfl) (pa_cons (pv 2) (pa_cons pe_int (pa_cons (pe_op op_sub (pv 1) pe_int) pa_nil)))))) pa_nil))))))) (pss_one (ps_ret pe_bl)) pss_nil) (pss_one (ps_ret (pe_and (pe_has h2 (hr.mono (by decide)) (by rfl) (pa_cons (pv 0) pa_nil)) (pe_one (pe_cmpR (opInK (K := K) rfl) (pe_op op_sub (pv 1) pe_int) (pv 0) (by rfl)))))))), ?_⟩
  obtain ⟨a, rfl, hxa⟩ := hx.way
  refine ⟨_, rfl, _, _, _, _, true, rfl, .ty _, .base (.tup hxa), kit_ty (by decide +kernel), true, rfl, iteF ?_⟩
  refine ⟨_, rfl, a, rfl, ⟨_, sqT hxa⟩, fun D hD => lc_tup (xs := l.map iN) (fun i H' => Same H H' ∧ H' D = some (.lst ((List.replicate i true).map V.bl))) ⟨same_new hD, upd_same⟩ (fun i H' _ h => sqT (h.1 _ _ hxa)) (fun i y H' hy ⟨s1, e1⟩ => ?_) fun H1 ⟨s1, e1⟩ => ?_⟩
  · rw [List.getElem?_map] at hy
    obtain ⟨m, hm', rfl⟩ := Option.map_eq_some_iff.mp hy
    have hb := hlt m (List.mem_of_getElem? hm')
    have hi : i < l.length := (List.getElem?_eq_some_iff.mp hm').1
    refine ⟨rfl, _, rfl, _, rfl, _, _, rfl, rfl, (m : Int), 0, (n : Int) + 1 - 1, rfl, _, e1, len_line (by simp; omega), same_at s1 hD e1, ?_⟩
    rw [upd_same, decide_eq_true (by omega), bl_snoc, List.replicate_succ']
  · refine ⟨D, _, rfl, sqL e1, ?_⟩
    rw [all_rep]
    refine ⟨true, rfl, iteF ?_⟩
    have hxa1 := s1 _ _ hxa
    refine ⟨_, rfl, a, nI l, rfl, by rw [nI_map]; exact hxa1, List.pairwise_map.mpr (ha.imp fun h => Int.ofNat_lt.mpr h), by rw [nI_len]; omega, true, rfl, ?_⟩
    refine ⟨_, rfl, _, _, rfl, rfl, _, rfl, a, _, rfl, .inr (sqT hxa1), rfl, allflat l, ?_⟩
    have e : inV (V.int ((n : Int) + 1 - 1)) (l.map iN) = true := by
      rw [show ((n : Int) + 1 - 1) = (n : Int) by omega]
      exact (inV_nat n l).trans (decide_eq_true hm)
    show Q (.bl (inV (V.int ((n : Int) + 1 - 1)) (l.map iN))) _
    rw [e]
    exact q _ s1
def spIsPlan : Sp := fun vs H Q _ => ∃ (x : V) (pl : List (List Nat)), vs = [x] ∧ Td H x (dPlan pl) ∧ GoodPlan pl ∧ ∀ H', Same H H' → Q (.bl true) H'
theorem ok_is_plan (ev : Ev mg) (kn : Kn mg) (D : Def K mg "is_plan" s_is_plan) (h1 : Has P w K mg base CX0 3 "are_plan_places" ["thing", "length"] spPlaces) : Has P w K mg base CX0 4 "is_plan" ["thing"] spIsPlan := by
  obtain ⟨tW, gW⟩ := kn.way
  refine .of D (fun _ _ _ _ _ _ us hl => match us, hl with | [_], _ => rfl) fun f fd F => F.ok sc_is_plan (fun vs H Q E ⟨x, pl, e, _⟩ => by rw [e]; rfl) fun cdv A outer s H vs Q E hr ⟨x, pl, e, hx, hg, q⟩ => ?_
  subst e
  refine ⟨_, (PSs.nox (pss_cons (ps_if (PW.pt (pw_or (pt_not (pt_val (pe_callB ((isiK (K := K) rfl)) (by rfl) ev.isinstance (by decide +kernel) (pa_cons (pv 0) (pa_cons (pe_bltn (v := .ty "tuple") (by rfl) ev.tuple (by decide +kernel) rfl) pa_nil))))) (pw_or1 (pt_cmpR op_ne (pe_callB (lenS (K := K) rfl) (by rfl) ev.len PySem.boot_len (pa_cons (pv 0) pa_nil)) (pe_glob (x := "MOST_WAY") (v := .int 8) (by rfl) gW ⟨_, rfl⟩) (nomark _))))) (pss_one (ps_ret pe_bl)) pss_nil) (pss_one (ps_ret (pe_callB ((allK (K := K) rfl rfl)) (by rfl) ev.all (by decide +kernel) (pa_cons (pe_lc (own := [("at", 1), ("places", 2)]) rfl sc_is_plan.nd (pi_enumTK (K := K) rfl (by rfl) ev.enumerate (pa_cons (pv 0) pa_nil) rfl) (blkOk_by (own := [("at", 1), ("places", 2)]) (N := sc_is_plan_N) (sc := sc_is_plan_S) (by decide +kernel)) (fun _ _ _ _ _ => (pgTupK (K := K) (n := 2) rfl rfl (pgs_cons (pg_name (i := 1) sc_is_plan.nd rfl (.inl rfl)) (pgs_cons (pg_name (i := 2) sc_is_plan.nd rfl (.inl rfl)) pgs_nil)) rfl rfl)) (fun _ _ _ _ _ => pts_nil) (fun _ _ _ _ _ => (pe_has h1 hr (by rfl) (pa_cons (pv 2) (pa_cons (pe_op op_add (pv 1) pe_int) pa_nil))))) pa_nil)))))), ?_⟩
  obtain ⟨a, xs, rfl, hxa, hal⟩ := hx.tuple
  have hxl : xs.length = 8 := by rw [hal.len, List.length_map, hg.len]
  refine ⟨_, rfl, _, _, _, _, true, rfl, .ty _, .base (.tup hxa), kit_ty (by decide +kernel), true, rfl, iteF ?_⟩
  refine ⟨_, rfl, a, _, rfl, .inr (sqT hxa), rfl, false, by rw [hxl]; rfl, iteF ?_⟩
  refine ⟨_, rfl, a, xs, rfl, sqT hxa, fun D hD => lc_it walk_enumT (fun i H' => Same H H' ∧ H' D = some (.lst ((List.replicate i true).map V.bl))) ⟨same_new hD, upd_same⟩ (fun i H' _ h => sqT (h.1 _ _ hxa)) (fun i y H' H'' hi ⟨s1, e1⟩ hy => ?_) fun H1 ⟨s1, e1⟩ => ?_⟩
  · obtain ⟨T0, x1, x2, rfl, hT0, rfl, g1, g2⟩ := hy
    cases g1
    replace g2 : xs[i]? = some x2 := g2
    obtain ⟨l, hl, tl⟩ := hal.map_got g2
    have s2 : Same H' (upd H' T0 (.tup [V.int (i : Nat), x2])) := same_new hT0
    have hT2 : upd H' T0 (.tup [V.int (i : Nat), x2]) T0 = some (.tup [V.int (i : Nat), x2]) := upd_same
    generalize upd H' T0 (.tup [V.int (i : Nat), x2]) = H2 at s2 hT2
    have s12 := s1.trans s2
    refine ⟨T0, _, rfl, sqT hT2, rfl, _, _, rfl, _, _, rfl, rfl, rfl, _, rfl, _, rfl, _, _, rfl, rfl, _, i, l, rfl, tl.keep (TK.of s12), hg.asc i l hl, hg.lt i l hl, hg.last i l hl, hg.few i l hl, fun H3 s3 => ?_⟩
    have e3 := s3 _ _ (s2 _ _ e1)
    refine ⟨_, e3, len_line (by simp; omega), same_at (s12.trans s3) hD e3, ?_⟩
    rw [upd_same, bl_snoc, List.replicate_succ']
  · refine ⟨D, _, rfl, sqL e1, ?_⟩
    rw [all_rep]
    exact q _ s1
def spCheckPlan : Sp := fun vs H Q _ => ∃ (x : V) (pl : List (List Nat)), vs = [x] ∧ Td H x (dPlan pl) ∧ GoodPlan pl ∧ ∀ H', Same H H' → Q .non H'
theorem ok_check_plan (D : Def K mg "check_plan" s_check_plan) (h1 : Has P w K mg base CX0 4 "is_plan" ["thing"] spIsPlan) : Has P w K mg base CX0 5 "check_plan" ["thing"] spCheckPlan := by
  refine .of D (fun _ _ _ _ _ _ us hl => match us, hl with | [_], _ => rfl) fun f fd F => F.ok sc_check_plan (fun vs H Q E ⟨x, pl, e, _⟩ => by rw [e]; rfl) fun cdv A outer s H vs Q E hr ⟨x, pl, e, hx, hg, q⟩ => ?_
  subst e
  refine ⟨_, (PSs.nox (pss_one (ps_if (pt_not (pt_val (pe_has h1 hr (by rfl) (pa_cons (pv 0) pa_nil)))) (pss_one ps_never) pss_nil))), ?_⟩
  exact ⟨_, rfl, x, pl, rfl, hx, hg, fun H' s1 => ⟨true, rfl, iteF (q H' s1)⟩⟩
end
end Hc
end

section
set_option Elab.async false
set_option linter.all false
set_option maxRecDepth 100000
set_option maxHeartbeats 4000000
namespace Hc
open PySem PySem.Spec PyProof.Rows L2 HcR LamX
section
variable {P : Program} {w : World} {K : PySem.W.Frag} {mg : Str → Option Value} {base : Heap}

variable {CW CD CS CP : Addr}
def rowAt (rs : List (List Int)) (m : Nat) : List Int := rs.getD m []
def toldOf (pl : List (List Nat)) (l : Letter) (r : List Int) (i : Nat) : PyData := if i ∈ pl.getD (l.1.length - 1) [] then .int (r.getD i 0) else .none
def dCard (pl : List (List Nat)) (l : Letter) (r : List Int) : PyData := .tuple [dWay l.1, .int l.2, .int (r.getLastD 0), .tuple ((List.range r.length).map (toldOf pl l r))]
def cardAt (pl : List (List Nat)) (ls : List Letter) (rs : List (List Int)) (m : Nat) : PyData := dCard pl (atL ls m) (rowAt rs m)
def dCards (pl : List (List Nat)) (ls : List Letter) (rs : List (List Int)) : PyData := .tuple ((List.range ls.length).map (cardAt pl ls rs))
theorem rowAt_get {rs : List (List Int)} {m : Nat} (h : m < rs.length) : rs[m]? = some (rowAt rs m) := by
  rw [List.getElem?_eq_getElem h]
  unfold rowAt
  simp [h]
theorem plan_get {pl : List (List Nat)} (g : GoodPlan pl) {n : Nat} (h : n < 8) : pl[n]? = some (pl.getD n []) := by
  have h2 : n < pl.length := by rw [g.len]; exact h
  rw [List.getElem?_eq_getElem h2]
  simp [h2]
def spPlanCard : Sp := fun vs H Q _ => ∃ (x y z : V) (l : Letter) (r : List Int) (pl : List (List Nat)), vs = [x, y, z] ∧ Td H x (dLet l) ∧ Td H y (dInts r) ∧ Td H z (dPlan pl) ∧ GoodL l ∧ r.length = l.1.length ∧ GoodPlan pl ∧ ∀ p H', Same H H' → Td H' (.ref p) (dCard pl l r) → Q (.ref p) H'
theorem ok_plan_card (ev : Ev mg) (D : Def K mg "plan_card" s_plan_card) : Has P w K mg base CX0 1 "plan_card" ["letter", "row", "plan"] spPlanCard := by
  refine .of D (fun _ _ _ _ _ _ us hl => match us, hl with | [_, _, _], _ => rfl) fun f fd F => F.ok sc_plan_card (fun vs H Q E ⟨x, y, z, l, r, pl, e, _⟩ => by rw [e]; rfl) fun cdv A outer s H vs Q E hr ⟨x, y, z, l, r, pl, e, hx, hy, hz, hl, hrl, hp, q⟩ => ?_
  subst e
  refine ⟨_, (PSs.nox (pss_cons (ps_asg (pv 0) (pg_tup rfl (pgs_cons (pg_name (i := 3) sc_plan_card.nd rfl (.inl rfl)) (pgs_cons (pg_name (i := 4) sc_plan_card.nd rfl (.inl rfl)) pgs_nil)))) (pss_cons (ps_set (i := 5) sc_plan_card.nd rfl (.inr rfl) (pe_ix (ixT (K := K) rfl) (pv 2) (pe_op op_sub (pe_callB (lenS (K := K) rfl) (by rfl) ev.len PySem.boot_len (pa_cons (pv 3) pa_nil)) pe_int) (fun _ _ => rfl))) (pss_cons (ps_set (i := 6) sc_plan_card.nd rfl (.inl rfl) (pe_callTy ((tupOf (K := K) rfl)) (by rfl) ev.tuple (by decide +kernel) (pa_cons (pe_lc (own := [("place", 7), ("hour", 8)]) rfl sc_plan_card.nd (pi_enumTK (K := K) rfl (by rfl) ev.enumerate (pa_cons (pv 1) pa_nil) rfl) (blkOk_by (own := [("place", 7), ("hour", 8)]) (N := sc_plan_card_N) (sc := sc_plan_card_S) (by decide +kernel)) (fun _ _ _ _ _ => (pgTupK (K := K) (n := 2) rfl rfl (pgs_cons (pg_name (i := 7) sc_plan_card.nd rfl (.inl rfl)) (pgs_cons (pg_name (i := 8) sc_plan_card.nd rfl (.inl rfl)) pgs_nil)) rfl rfl)) (fun _ _ _ _ _ => pts_nil) (fun _ _ _ _ _ => (pe_ifExp (pt_cmpR (opInK (K := K) rfl) (pv 7) (pv 5) (by rfl)) (pv 8) pe_non))) pa_nil))) (pss_one (ps_ret (pe_tup (pa_cons (pv 3) (pa_cons (pv 4) (pa_cons (pe_ix (ixT (K := K) rfl) (pv 1) (pe_un un_neg pe_int) (fun _ _ => rfl)) (pa_cons (pv 6) pa_nil))))))))))), ?_⟩
  obtain ⟨c1, c2, rfl, hc1, hc2⟩ := td_let hx
  obtain ⟨c3, rfl, hc3⟩ := hy.ints
  obtain ⟨c4, zs, rfl, hc4, hzl⟩ := hz.tuple
  have hl0 : 0 < l.1.length := List.length_pos_iff.mpr hl.1
  have hl8 := hl.2.1
  have hpg := plan_get hp (n := l.1.length - 1) (by omega)
  obtain ⟨pv, hpv, tpv⟩ := hzl.map_got' hpg
  obtain ⟨c5, rfl, hc5⟩ := tpv.way
  have hrne : r ≠ [] := fun z => by rw [z] at hrl; exact absurd hrl (by show ¬ 0 = _; omega)
  refine ⟨_, rfl, c1, _, rfl, sqT hc1, rfl, _, _, rfl, _, _, rfl, rfl, ?_⟩
  have elen : (((l.1.map fun n : Nat => V.int (n : Int)).length : Nat) : Int) - 1 = ((l.1.length - 1 : Nat) : Int) := by rw [List.length_map]; omega
  refine ⟨_, rfl, _, rfl, c2, _, rfl, .inr (sqT hc2), _, _, rfl, rfl, c4, zs, _, .ref c5, rfl, rfl, sqT hc4, by rw [elen]; exact atI_nat hpv, ?_⟩
  refine ⟨_, rfl, c3, _, rfl, sqT hc3, fun D hD => lc_it walk_enumT (fun i H' => Same H H' ∧ ∃ ws, H' D = some (.lst ws) ∧ TdAll H' ws ((List.range i).map (toldOf pl l r))) ⟨same_new hD, [], upd_same, .nil⟩ (fun i H' _ h => sqT (h.1 _ _ hc3)) (fun i y H' H'' hi ⟨s1, ws, e1, w1⟩ hy => ?_) fun H1 ⟨s1, ws, e1, w1⟩ => ?_⟩
  · obtain ⟨T0, x1, x2, rfl, hT0, rfl, g1, g2⟩ := hy
    cases g1
    replace g2 : (r.map V.int)[i]? = some x2 := g2
    rw [List.getElem?_map] at g2
    obtain ⟨h, hh, rfl⟩ := Option.map_eq_some_iff.mp g2
    have hir : i < r.length := (List.getElem?_eq_some_iff.mp hh).1
    have hgd : r.getD i 0 = h := by
      have := (List.getElem?_eq_some_iff.mp hh).2
      simp [hir, this]
    have s2 : Same H' (upd H' T0 (.tup [V.int (i : Nat), .int h])) := same_new hT0
    have hT2 : upd H' T0 (.tup [V.int (i : Nat), .int h]) T0 = some (.tup [V.int (i : Nat), .int h]) := upd_same
    generalize upd H' T0 (.tup [V.int (i : Nat), .int h]) = H2 at s2 hT2
    have s12 := s1.trans s2
    have e2 := s2 _ _ e1
    have wl : ws.length = i := by rw [w1.len, List.length_map, List.length_range]
    have fin : ∀ v : V, Td H2 v (toldOf pl l r i) → ∃ acc, H2 D = some (.lst acc) ∧ acc.length < sizeLine ∧ (Same H (upd H2 D (.lst (acc ++ [v]))) ∧ ∃ us, upd H2 D (.lst (acc ++ [v])) D = some (.lst us) ∧ TdAll (upd H2 D (.lst (acc ++ [v]))) us ((List.range (i + 1)).map (toldOf pl l r))) := fun v tv => by
      have tk : TK H2 (upd H2 D (.lst (ws ++ [v]))) := fun b zs e => by rw [upd_ne (ne_of e e2 (fun z => by cases z))]; exact e
      refine ⟨ws, e2, len_line (by omega), same_at s12 hD e2, _, upd_same, ?_⟩
      rw [List.range_succ, List.map_append]
      exact ((w1.keep (TK.of s2)).keep tk).snoc (tv.keep tk)
    refine ⟨T0, _, rfl, sqT hT2, rfl, _, _, rfl, _, _, rfl, rfl, rfl, _, rfl, _, rfl, c5, _, rfl, .inr (sqT (s12 _ _ hc5)), rfl, allflat _, _, rfl, ?_⟩
    show if inV (iN i) ((pl.getD (l.1.length - 1) []).map iN) = true then _ else _
    rw [inV_nat]
    refine ite2 (fun hc => ⟨_, rfl, fin _ ?_⟩) fun hc => fin _ ?_
    · have : toldOf pl l r i = .int h := by unfold toldOf; rw [if_pos (of_decide_eq_true hc), hgd]
      rw [this]; exact .int h
    · have : toldOf pl l r i = .none := by unfold toldOf; rw [if_neg (fun z => hc (decide_eq_true z))]
      rw [this]; exact .non
  · rw [List.length_map] at w1
    refine ⟨D, ws, rfl, .inl ⟨sqL e1, fun tp htp => ?_⟩⟩
    have s2 : Same H1 (upd H1 tp (.tup ws)) := same_new htp
    have ht2 : upd H1 tp (.tup ws) tp = some (.tup ws) := upd_same
    generalize upd H1 tp (.tup ws) = H2 at s2 ht2
    have s02 := s1.trans s2
    refine ⟨_, rfl, _, rfl, _, rfl, _, rfl, c3, _, _, _, rfl, rfl, sqT (s02 _ _ hc3), atI_lastD hrne, _, rfl, by show 4 ≤ sizeLine; decide, fun p hp' => ?_⟩
    have s3 := same_new (o := .tup [.ref c2, .int l.2, .int (r.getLastD 0), .ref tp]) hp'
    refine q p _ (s02.trans s3) (.tup upd_same (.cons ((td_way (s02 _ _ hc2)).keep (TK.of s3)) (.cons (.int _) (.cons (.int _) (.cons ?_ .nil)))))
    exact .tup (s3 _ _ ht2) ((w1.keep (TK.of s2)).keep (TK.of s3))
def spPlanCards (CD : Addr) : Sp := fun vs H Q _ => ∃ (da wa : Addr) (z : V) (ls : List Letter) (rs : List (List Int)) (pl : List (List Nat)), vs = [.ref da, z] ∧ DayAt CD H da wa ls rs ∧ Fits ls rs ∧ (∀ l ∈ ls, GoodL l) ∧ ls.length ≤ 20 ∧ Td H z (dPlan pl) ∧ GoodPlan pl ∧ ∀ p H', Same H H' → Td H' (.ref p) (dCards pl ls rs) → Q (.ref p) H'
theorem ok_plan_cards (ev : Ev mg) (c : Cla K mg CW CD CS CP) (D : Def K mg "plan_cards" s_plan_cards) (h1 : Has P w K mg base CX0 5 "check_plan" ["thing"] spCheckPlan) (h2 : Has P w K mg base CX0 1 "plan_card" ["letter", "row", "plan"] spPlanCard) : Has P w K mg base CX0 6 "plan_cards" ["day", "plan"] (spPlanCards CD) := by
  refine .of D (fun _ _ _ _ _ _ us hl => match us, hl with | [_, _], _ => rfl) fun f fd F => F.ok sc_plan_cards (fun vs H Q E ⟨da, wa, z, ls, rs, pl, e, _⟩ => by rw [e]; rfl) fun cdv A outer s H vs Q E hr ⟨da, wa, z, ls, rs, pl, e, hd, hf, hg, l20, hz, hp, q⟩ => ?_
  subst e
  refine ⟨_, (PSs.nox (pss_cons (ps_expr (pe_has h1 hr (by rfl) (pa_cons (pv 1) pa_nil))) (pss_one (ps_ret (pe_callTy ((tupOf (K := K) rfl)) (by rfl) ev.tuple (by decide +kernel) (pa_cons (pe_lc (own := [("letter", 2), ("row", 3)]) rfl sc_plan_cards.nd (RZ.pi_zipA (by rfl) ev.zip (pa_cons (pe_fldK (K := K) rfl (pv 0) rfl) (pa_cons (pe_fldK (K := K) rfl (pv 0) rfl) pa_nil))) (blkOk_by (own := [("letter", 2), ("row", 3)]) (N := sc_plan_cards_N) (sc := sc_plan_cards_S) (by decide +kernel)) (fun _ _ _ _ _ => (pgTupK (K := K) (n := 2) rfl rfl (pgs_cons (pg_name (i := 2) sc_plan_cards.nd rfl (.inl rfl)) (pgs_cons (pg_name (i := 3) sc_plan_cards.nd rfl (.inl rfl)) pgs_nil)) rfl rfl)) (fun _ _ _ _ _ => pts_nil) (fun _ _ _ _ _ => (pe_has h2 (hr.mono (by decide)) (by rfl) (pa_cons (pv 2) (pa_cons (pv 3) (pa_cons (pv 1) pa_nil)))))) pa_nil)))))), ?_⟩
  refine ⟨_, rfl, z, pl, rfl, hz, hp, fun H1 s1 => ?_⟩
  obtain ⟨dx, fs, a1, a2, hdd, k1, k2, t2, k3, k4, t4⟩ := hd.keep (IK.of s1)
  obtain ⟨_, xs, e, hb, hal, hlx⟩ := tdLets t2
  cases e
  obtain ⟨_, ys, e, hb2, hbl, hly⟩ := tdRows t4
  cases e
  have hfl := hf.1
  have hmin : min xs.length ys.length = ls.length := by omega
  refine ⟨_, rfl, da, CD, dx, fs, _, rfl, hdd, c.cD, c.dLetters, k2, _, rfl, da, CD, dx, fs, _, rfl, hdd, c.cD, c.dKept, k4, a1, a2, xs, ys, rfl, .inr ⟨sqT hb, sqT hb2, fun D hD => lc_it (walk_zipT rfl) (fun i H' => Same H1 H' ∧ ∃ ws, H' D = some (.lst ws) ∧ TdAll H' ws ((List.range i).map (cardAt pl ls rs))) ⟨same_new hD, [], upd_same, .nil⟩ (fun i H' _ h => ⟨sqT (h.1 _ _ hb), sqT (h.1 _ _ hb2)⟩) (fun i y H' H'' hi ⟨s2, ws, e2, w2⟩ hy => ?_) fun H2 ⟨s2, ws, e2, w2⟩ => ?_⟩⟩
  · obtain ⟨T0, x1, x2, rfl, hT0, rfl, g1, g2⟩ := hy
    obtain ⟨l, hl, tl⟩ := hal.map_got g1
    obtain ⟨r, hr', tr⟩ := hbl.map_got g2
    have hil : i < ls.length := (List.getElem?_eq_some_iff.mp hl).1
    have el : atL ls i = l := Option.some.inj ((atL_get hil).symm.trans hl)
    have er : rowAt rs i = r := Option.some.inj ((rowAt_get (by omega)).symm.trans hr')
    have s3 : Same H' (upd H' T0 (.tup [x1, x2])) := same_new hT0
    have hT3 : upd H' T0 (.tup [x1, x2]) T0 = some (.tup [x1, x2]) := upd_same
    generalize upd H' T0 (.tup [x1, x2]) = H3 at s3 hT3
    have s13 := s2.trans s3
    refine ⟨T0, _, rfl, sqT hT3, rfl, _, _, rfl, _, _, rfl, rfl, rfl, _, rfl, _, rfl, _, rfl, x1, x2, z, l, r, pl, rfl, tl.keep (TK.of s13), tr.keep (TK.of s13), hz.keep (TK.of (s1.trans s13)), hg l (List.mem_of_getElem? hl), hf.2 i l r hl hr', hp, fun p H4 s4 tp => ?_⟩
    have e4 := s4 _ _ (s3 _ _ e2)
    have wl : ws.length = i := by rw [w2.len, List.length_map, List.length_range]
    have tk : TK H4 (upd H4 D (.lst (ws ++ [.ref p]))) := fun b zs e => by rw [upd_ne (ne_of e e4 (fun z => by cases z))]; exact e
    refine ⟨ws, e4, len_line (by omega), same_at (s13.trans s4) hD e4, _, upd_same, ?_⟩
    rw [List.range_succ, List.map_append]
    refine (((w2.keep (TK.of s3)).keep (TK.of s4)).keep tk).snoc ?_
    show Td _ _ (dCard pl (atL ls i) (rowAt rs i))
    rw [el, er]
    exact tp.keep tk
  · rw [hmin] at w2
    refine ⟨D, ws, rfl, .inl ⟨sqL e2, fun tp htp => ?_⟩⟩
    exact q tp _ ((s1.trans s2).trans (same_new htp)) (.tup upd_same (w2.keep (TK.of (same_new htp))))
/-- the cards of those that come till tick, each with its number -/
def earlyD (pl : List (List Nat)) (ls : List Letter) (rs : List (List Int)) (tick : Int) (n : Nat) : List PyData := ((List.range n).filter fun i => decide ((atL ls i).2 ≤ tick)).map fun i : Nat => .tuple [.int (i : Int), cardAt pl ls rs i]
def spEarlyCards (CD : Addr) : Sp := fun vs H Q _ => ∃ (da wa : Addr) (z : V) (tick : Int) (ls : List Letter) (rs : List (List Int)) (pl : List (List Nat)), vs = [.ref da, z, .int tick] ∧ DayAt CD H da wa ls rs ∧ Fits ls rs ∧ (∀ l ∈ ls, GoodL l) ∧ ls.length ≤ 20 ∧ Td H z (dPlan pl) ∧ GoodPlan pl ∧
  ∀ p H' ws, Same H H' → H' p = some (.lst ws) → TdAll H' ws (earlyD pl ls rs tick ls.length) → Q (.ref p) H'
theorem ok_early_cards (ev : Ev mg) (D : Def K mg "early_cards" s_early_cards) (h1 : Has P w K mg base CX0 6 "plan_cards" ["day", "plan"] (spPlanCards CD)) : Has P w K mg base CX0 7 "early_cards" ["day", "plan", "tick"] (spEarlyCards CD) := by
  refine .of D (fun _ _ _ _ _ _ us hl => match us, hl with | [_, _, _], _ => rfl) fun f fd F => F.ok sc_early_cards (fun vs H Q E ⟨da, wa, z, tick, ls, rs, pl, e, _⟩ => by rw [e]; rfl) fun cdv A outer s H vs Q E hr ⟨da, wa, z, tick, ls, rs, pl, e, hd, hf, hg, l20, hz, hp, q⟩ => ?_
  subst e
  refine ⟨_, (PSs.nox (pss_one (ps_ret (pe_lc (own := [("number", 3), ("card", 4)]) rfl sc_early_cards.nd (pi_enumTK (K := K) rfl (by rfl) ev.enumerate (pa_cons (pe_has h1 hr (by rfl) (pa_cons (pv 0) (pa_cons (pv 1) pa_nil))) pa_nil) rfl) (blkOk_by (own := [("number", 3), ("card", 4)]) (N := sc_early_cards_N) (sc := sc_early_cards_S) (by decide +kernel)) (fun _ _ _ _ _ => (pgTupK (K := K) (n := 2) rfl rfl (pgs_cons (pg_name (i := 3) sc_early_cards.nd rfl (.inl rfl)) (pgs_cons (pg_name (i := 4) sc_early_cards.nd rfl (.inl rfl)) pgs_nil)) rfl rfl)) (fun _ _ _ _ _ => (pts_one (pt_cmpR op_le (pe_ix (ixT (K := K) rfl) (pv 4) pe_int (fun _ _ => rfl)) (pv 2) (nomark _)))) (fun _ _ _ _ _ => (pe_tup (pa_cons (pv 3) (pa_cons (pv 4) pa_nil)))))))), ?_⟩
  refine ⟨_, rfl, _, rfl, da, wa, z, ls, rs, pl, rfl, hd, hf, hg, l20, hz, hp, fun p H1 s1 tp => ?_⟩
  obtain ⟨_, xs, e, hxs, hal⟩ := tp.tuple
  cases e
  have hxl : xs.length = ls.length := by rw [hal.len, List.length_map, List.length_range]
  refine ⟨p, xs, rfl, sqT hxs, fun D hD => lc_it walk_enumT (fun i H' => Same H1 H' ∧ ∃ ws, H' D = some (.lst ws) ∧ TdAll H' ws (earlyD pl ls rs tick i) ∧ ws.length ≤ i) ⟨same_new hD, [], upd_same, .nil, Nat.le_refl _⟩ (fun i H' _ h => sqT (h.1 _ _ hxs)) (fun i y H' H'' hi ⟨s2, ws, e2, w2, wl⟩ hy => ?_) fun H2 ⟨s2, ws, e2, w2, wl⟩ => ?_⟩
  · obtain ⟨T0, x1, x2, rfl, hT0, rfl, g1, g2⟩ := hy
    cases g1
    replace g2 : xs[i]? = some x2 := g2
    obtain ⟨m, hm, tm⟩ := hal.map_got g2
    have hmi : m = i := by
      obtain ⟨hm1, hm2⟩ := List.getElem?_eq_some_iff.mp hm
      rw [List.getElem_range] at hm2
      exact hm2.symm
    subst hmi
    have s3 : Same H' (upd H' T0 (.tup [V.int (m : Nat), x2])) := same_new hT0
    have hT3 : upd H' T0 (.tup [V.int (m : Nat), x2]) T0 = some (.tup [V.int (m : Nat), x2]) := upd_same
    generalize upd H' T0 (.tup [V.int (m : Nat), x2]) = H3 at s3 hT3
    have s13 := s2.trans s3
    have tm3 := tm.keep (TK.of s13)
    obtain ⟨ca, cxs, e, hcx, hcl⟩ := Td.tuple (ds := [dWay (atL ls m).1, .int (atL ls m).2, .int ((rowAt rs m).getLastD 0), .tuple ((List.range (rowAt rs m).length).map (toldOf pl (atL ls m) (rowAt rs m)))]) tm3
    subst e
    obtain ⟨v1, hv1, tv1⟩ := hcl.get (i := 1) (d := .int (atL ls m).2) rfl
    have := tv1.int'
    subst this
    have e3 := s3 _ _ e2
    have esucc : earlyD pl ls rs tick (m + 1) = earlyD pl ls rs tick m ++ (if decide ((atL ls m).2 ≤ tick) = true then [.tuple [.int (m : Int), cardAt pl ls rs m]] else []) := by
      unfold earlyD
      rw [List.range_succ, List.filter_append, List.map_append]
      congr 1
      cases h : decide ((atL ls m).2 ≤ tick) with
      | true => rw [List.filter_cons_of_pos (by rw [h])]; rfl
      | false => rw [List.filter_cons_of_neg (by rw [h]; decide)]; rfl
    refine ⟨T0, _, rfl, sqT hT3, rfl, _, _, rfl, _, _, rfl, rfl, rfl, _, rfl, _, _, 1, _, rfl, rfl, sqT hcx, atI_nat (j := 1) hv1, _, rfl, _, _, rfl, rfl, _, rfl, ?_⟩
    rw [esucc]
    refine ite2 (fun hc => ?_) fun hc => ?_
    · rw [if_pos hc]
      refine ⟨_, rfl, _, rfl, by show 2 ≤ sizeLine; decide, fun t ht => ?_⟩
      have s4 := same_new (o := .tup [V.int (m : Nat), .ref ca]) ht
      have ht4 : upd H3 t (.tup [V.int (m : Nat), .ref ca]) t = some (.tup [V.int (m : Nat), .ref ca]) := upd_same
      refine ⟨ws, s4 _ _ e3, len_line (by omega), same_at (s13.trans s4) hD (s4 _ _ e3), _, upd_same, ?_, by rw [List.length_append, List.length_singleton]; omega⟩
      have tk : TK (upd H3 t (.tup [V.int (m : Nat), .ref ca])) (upd (upd H3 t (.tup [V.int (m : Nat), .ref ca])) D (.lst (ws ++ [.ref t]))) := fun b zs e => by rw [upd_ne (ne_of e (s4 _ _ e3) (fun z => by cases z))]; exact e
      exact (((w2.keep (TK.of s3)).keep (TK.of s4)).keep tk).snoc ((Td.tup ht4 (.cons (.int _) (.cons (tm3.keep (TK.of s4)) .nil))).keep tk)
    · rw [if_neg hc, List.append_nil]
      exact ⟨s13, ws, e3, w2.keep (TK.of s3), by omega⟩
  · rw [hxl] at w2
    exact q D H2 ws (s1.trans s2) e2 w2
end
end Hc
end

section
set_option Elab.async false
set_option linter.all false
set_option maxRecDepth 100000
set_option maxHeartbeats 4000000
namespace Hc
open PySem PySem.Spec PyProof.Rows L2 HcR LamX
section
variable {P : Program} {w : World} {K : PySem.W.Frag} {mg : Str → Option Value} {base : Heap}

variable {CW CD CS CP : Addr}
theorem nice_told {pl : List (List Nat)} {l : Letter} {r : List Int} {n : Nat} (i : Nat) : Nice n (toldOf pl l r i) := by
  unfold toldOf
  split
  · exact nice_int _
  · exact nice_none
theorem nice_card {pl : List (List Nat)} {l : Letter} {r : List Int} : Nice 3 (dCard pl l r) := by
  refine nice_tup fun d hd => ?_
  simp only [List.mem_cons, List.not_mem_nil, or_false] at hd
  rcases hd with rfl | rfl | rfl | rfl
  · exact (nice_ints (n := 0) _).mono (by decide)
  · exact nice_int _
  · exact nice_int _
  · refine (nice_tup (n := 0) fun d hd => ?_).mono (by decide)
    obtain ⟨i, _, rfl⟩ := List.mem_map.mp hd
    exact nice_told i
theorem nice_early {pl : List (List Nat)} {ls : List Letter} {rs : List (List Int)} {tick : Int} {n : Nat} : Nice 5 (.list (earlyD pl ls rs tick n)) := by
  refine nice_lst fun d hd => ?_
  obtain ⟨i, _, rfl⟩ := List.mem_map.mp hd
  refine nice_tup fun d hd => ?_
  simp only [List.mem_cons, List.not_mem_nil, or_false] at hd
  rcases hd with rfl | rfl
  · exact nice_int _
  · exact nice_card
def spWebDays (CW CD : Addr) : Sp := fun vs H Q _ => ∃ (th wa da db : Addr) (W : WD) (u : Int) (ls ls' : List Letter) (rs rs' : List (List Int)), vs = [.ref th] ∧ H th = some (.tup [.ref wa, .ref da, .ref db, .int u]) ∧ WebAt CW H wa W ∧ DayAt CD H da wa ls rs ∧ DayAt CD H db wa ls' rs' ∧ 1 ≤ u ∧ u ≤ 1000000 ∧ ∀ H', Same H H' → Q (.bl true) H'
theorem ok_web_days {fe : Addr} {ge : FuncData} (ev : Ev mg) (kn : Kn mg) (c : Cla K mg CW CD CS CP) (icW : C8.InsC K CW) (icD : C8.InsC K CD) (FE : FnOk P w K mg base CX0 1 fe ge ["self", "other"] (spEq (WebR CW))) (qe : PySem.W.findIn K (.ref CW) "__eq__" = some (some (.ref fe))) (fe1 : PySem.W.isFn K (.ref fe) = true) (be : L2.Binds K ge ["self", "other"] [])
    (D : Def K mg "is_web_with_days" s_is_web_with_days) (h1 : Has P w K mg base CX0 2 "is_within" ["thing", "least", "most"] spIsWithin) : Has P w K mg base CX0 3 "is_web_with_days" ["thing"] (spWebDays CW CD) := by
  obtain ⟨tT, gT⟩ := kn.tick
  refine .of D (fun _ _ _ _ _ _ us hl => match us, hl with | [_], _ => rfl) fun f fd F => F.ok sc_is_web_with_days (fun vs H Q E ⟨th, wa, da, db, W, u, ls, ls', rs, rs', e, _⟩ => by rw [e]; rfl) fun cdv A outer s H vs Q E hr ⟨th, wa, da, db, W, u, ls, ls', rs, rs', e, hth, hW, hda, hdb, u1, u2, q⟩ => ?_
  subst e
  refine ⟨_, (PSs.nox (pss_cons (ps_if (PW.pt (pw_or (pt_not (pt_val (pe_callB ((isiK (K := K) rfl)) (by rfl) ev.isinstance (by decide +kernel) (pa_cons (pv 0) (pa_cons (pe_bltn (v := .ty "tuple") (by rfl) ev.tuple (by decide +kernel) rfl) pa_nil))))) (pw_or (pt_cmpR op_ne (pe_callB (lenS (K := K) rfl) (by rfl) ev.len PySem.boot_len (pa_cons (pv 0) pa_nil)) pe_int (nomark _)) (pw_or1 (pt_not (pt_val (pe_callB ((C8.call_isC icW)) (by rfl) ev.isinstance (by decide +kernel) (pa_cons (pe_ix (ixT (K := K) rfl) (pv 0) pe_int (fun _ _ => rfl)) (pa_cons (pe_glob (x := "Web") (v := .ref CW) (by rfl) c.gW rfl) pa_nil))))))))) (pss_one (ps_ret pe_bl)) pss_nil) (pss_cons (ps_if (pt_not (pt_val (pe_callB ((allK (K := K) rfl rfl)) (by rfl) ev.all (by decide +kernel) (pa_cons (pe_lc (own := [("day", 1)]) rfl sc_is_web_with_days.nd (pi_tup (pe_slice slU (pv 0) (po_some pe_int) (po_some pe_int))) (blkOk_by (own := [("day", 1)]) (N := sc_is_web_with_days_N) (sc := sc_is_web_with_days_S) (by decide +kernel)) (fun _ _ _ _ _ => (pg_name (i := 1) sc_is_web_with_days.nd rfl (.inl rfl))) (fun _ _ _ _ _ => pts_nil) (fun _ _ _ _ _ => (pe_and (pe_callB ((C8.call_isC icD)) (by rfl) ev.isinstance (by decide +kernel) (pa_cons (pv 1) (pa_cons (pe_glob (x := "Day") (v := .ref CD) (by rfl) c.gD rfl) pa_nil))) (pe_one (pe_cmpR (op_eqG (rcG_ins FE qe fe1 be pass0) (hr.mono (by decide))) (pe_fldK (K := K) rfl (pv 1) rfl) (pe_ix (ixT (K := K) rfl) (pv 0) pe_int (fun _ _ => rfl)) (nomark _)))))) pa_nil)))) (pss_one (ps_ret pe_bl)) pss_nil) (pss_one (ps_ret (pe_has h1 hr (by rfl) (pa_cons (pe_ix (ixT (K := K) rfl) (pv 0) pe_int (fun _ _ => rfl)) (pa_cons pe_int (pa_cons (pe_glob (x := "MOST_TICK") (v := .int 1000000) (by rfl) gT ⟨_, rfl⟩) pa_nil))))))))), ?_⟩
  obtain ⟨wdx, wfs, w1, w2, w3, w4, hwa, wr⟩ := id hW
  refine ⟨_, rfl, _, _, _, _, true, rfl, .ty _, .base (.tup hth), kit_ty (by decide +kernel), true, rfl, iteF ?_⟩
  refine ⟨_, rfl, th, _, rfl, .inr (sqT hth), rfl, false, rfl, iteF ?_⟩
  refine ⟨_, rfl, th, _, 0, .ref wa, rfl, rfl, sqT hth, atI_nat (j := 0) rfl, wa, wdx, wfs, rfl, hwa, true, rfl, iteF ?_⟩
  have day : ∀ {d : Addr} {xs : List Letter} {ys : List (List Int)} {H' : Hp}, DayAt CD H d wa xs ys → Same H H' → ∃ dx fs, H' d = some (.ins CD dx fs) ∧ fs.lookup ("web" : Str) = some (.ref wa) := fun h s => by
    obtain ⟨dx, fs, a1, a2, e, k1, _⟩ := h
    exact ⟨dx, fs, s _ _ e, k1⟩
  refine ⟨_, rfl, _, rfl, _, rfl, th, _, rfl, hth, fun sp H1 s1 hsp => ?_⟩
  replace hsp : H1 sp = some (.tup [.ref da, .ref db]) := hsp
  refine ⟨sp, rfl, ⟨_, sqT hsp⟩, fun D hD => lc_tup (xs := [.ref da, .ref db]) (fun i H' => Same H1 H' ∧ H' D = some (.lst ((List.replicate i true).map V.bl))) ⟨same_new hD, upd_same⟩ (fun i H' _ h => sqT (h.1 _ _ hsp)) (fun i y H' hy ⟨s2, e2⟩ => ?_) fun H2 ⟨s2, e2⟩ => ?_⟩
  · have s12 := s1.trans s2
    have hd : ∃ d dx fs, y = .ref d ∧ H' d = some (.ins CD dx fs) ∧ fs.lookup ("web" : Str) = some (.ref wa) ∧ i < 2 := by
      match i, hy with
      | 0, hy =>
        obtain ⟨dx, fs, e, k⟩ := day hda s12
        exact ⟨da, dx, fs, (Option.some.inj hy).symm, e, k, by decide⟩
      | 1, hy =>
        obtain ⟨dx, fs, e, k⟩ := day hdb s12
        exact ⟨db, dx, fs, (Option.some.inj hy).symm, e, k, by decide⟩
    obtain ⟨d, dx, fs, rfl, hdd, k1, hi⟩ := hd
    refine ⟨rfl, _, rfl, d, dx, fs, rfl, hdd, true, rfl, ?_⟩
    refine ⟨_, rfl, d, CD, dx, fs, _, rfl, hdd, c.cD, c.dWeb, k1, _, rfl, th, _, 0, .ref wa, rfl, rfl, sqT (s12 _ _ hth), atI_nat (j := 0) rfl, ⟨wa, wa, wdx, wdx, wfs, wfs, rfl, rfl, s12 _ _ hwa, s12 _ _ hwa, rfl, W, hW.keep (IK.of s12)⟩, fun H3 s3 => ?_⟩
    have e3 := s3 _ _ e2
    refine ⟨_, e3, len_line (by simp; omega), same_at (s2.trans s3) hD e3, ?_⟩
    rw [upd_same, bl_snoc, List.replicate_succ']
  · refine ⟨D, _, rfl, sqL e2, ?_⟩
    rw [all_rep]
    refine ⟨true, rfl, iteF ?_⟩
    have s12 := s1.trans s2
    refine ⟨_, rfl, th, _, 3, .int u, rfl, rfl, sqT (s12 _ _ hth), atI_nat (j := 3) rfl, u, 1, 1000000, rfl, ?_⟩
    rw [decide_eq_true ⟨u1, u2⟩]
    exact q _ s12
def spTrap (CW CD Pt : Addr) : Sp := fun vs H Q _ => ∃ (z : V) (th wa da db : Addr) (W : WD) (u ahead : Int) (ls ls' : List Letter) (rs rs' : List (List Int)) (pl : List (List Nat)), vs = [z, .int ahead, .ref th] ∧ Td H z (dPlan pl) ∧ GoodPlan pl ∧ 0 ≤ ahead ∧ H th = some (.tup [.ref wa, .ref da, .ref db, .int u]) ∧ WebAt CW H wa W ∧ DayAt CD H da wa ls rs ∧ DayAt CD H db wa ls' rs' ∧ 1 ≤ u ∧ u ≤ 1000000 ∧
  Fits ls rs ∧ Fits ls' rs' ∧ (∀ l ∈ ls, GoodL l) ∧ (∀ l ∈ ls', GoodL l) ∧ ls.length ≤ 12 ∧ ls'.length ≤ 12 ∧ Tabs (TbL Pt) H ∧
  (PyData.eqv (.list (earlyD pl ls rs (u + ahead) ls.length)) (.list (earlyD pl ls' rs' (u + ahead) ls'.length)) = true → GoodP (lostPD W u (1 - 1) ls ls' rs rs')) ∧
  ∀ b H', ExtN H H' → Tabs (TbL Pt) H' → (b = true ↔ PyData.eqv (.list (earlyD pl ls rs (u + ahead) ls.length)) (.list (earlyD pl ls' rs' (u + ahead) ls'.length)) = true ∧ ¬ (lostPD W u (1 - 1) ls ls' rs rs').B 1 (lostPD W u (1 - 1) ls ls' rs rs').early) → Q (.bl b) H'
theorem ok_trap {Pt : Addr} (ev : Ev mg) (kn : Kn mg) (c : Cla K mg CW CD CS CP) (D : Def K mg "is_plan_trap" s_is_plan_trap) (h1 : Has P w K mg base CX0 5 "check_plan" ["thing"] spCheckPlan) (h2 : Has P w K mg base CX0 2 "check_from" ["thing", "least"] spCheckFrom) (h3 : Has P w K mg base CX0 3 "is_web_with_days" ["thing"] (spWebDays CW CD))
    (h4 : Has P w K mg base CX0 7 "early_cards" ["day", "plan", "tick"] (spEarlyCards CD)) (h5 : Has P w K mg base CX0 150 "both_lost" ["day", "other", "until", "late"] (spBothLost CW CD Pt)) : Has P w K mg base CX0 151 "is_plan_trap" ["plan", "ahead", "thing"] (spTrap CW CD Pt) := by
  obtain ⟨tS, gS⟩ := kn.searched
  refine .of D (fun _ _ _ _ _ _ us hl => match us, hl with | [_, _, _], _ => rfl) fun f fd F => F.ok sc_is_plan_trap (fun vs H Q E ⟨z, th, wa, da, db, W, u, ahead, ls, ls', rs, rs', pl, e, _⟩ => by rw [e]; rfl) fun cdv A outer s H vs Q E hr ⟨z, th, wa, da, db, W, u, ahead, ls, ls', rs, rs', pl, e, hz, hp, ha, hth, hW, hda, hdb, u1, u2, hf, hf', hg, hg', l12, l12', hT, gp, q⟩ => ?_
  subst e
  have hu := hr.units
  refine ⟨_, (PSs.nox (pss_cons (ps_expr (pe_has h1 (hr.mono (by decide)) (by rfl) (pa_cons (pv 0) pa_nil))) (pss_cons (ps_expr (pe_has h2 (hr.mono (by decide)) (by rfl) (pa_cons (pv 1) (pa_cons pe_int pa_nil)))) (pss_cons (ps_if (pt_not (pt_val (pe_has h3 (hr.mono (by decide)) (by rfl) (pa_cons (pv 2) pa_nil)))) (pss_one (ps_ret pe_bl)) pss_nil) (pss_cons (ps_set (i := 3) sc_is_plan_trap.nd rfl (.inl rfl) (pe_slice slU (pv 2) (po_some pe_int) (po_some pe_int))) (pss_cons (ps_if (pt_val (pe_callB ((anyK (K := K) rfl rfl)) (by rfl) ev.any (by decide +kernel) (pa_cons (pe_lc (own := [("day", 4)]) rfl sc_is_plan_trap.nd (pi_tup (pv 3)) (blkOk_by (own := [("day", 4)]) (N := sc_is_plan_trap_N) (sc := sc_is_plan_trap_S) (by decide +kernel)) (fun _ _ _ _ _ => (pg_name (i := 4) sc_is_plan_trap.nd rfl (.inl rfl))) (fun _ _ _ _ _ => pts_nil) (fun _ _ _ _ _ => (pe_cmpR op_gt (pe_callB (lenS (K := K) rfl) (by rfl) ev.len PySem.boot_len (pa_cons (pe_fldK (K := K) rfl (pv 4) rfl) pa_nil)) (pe_glob (x := "MOST_SEARCHED") (v := .int 12) (by rfl) gS ⟨_, rfl⟩) (nomark _)))) pa_nil))) (pss_one ps_never) pss_nil) (pss_cons (ps_set (i := 5) sc_is_plan_trap.nd rfl (.inl rfl) (pe_op op_add (pe_ix (ixT (K := K) rfl) (pv 2) pe_int (fun _ _ => rfl)) (pv 1))) (pss_cons (ps_if (pt_cmpR (op_neD hu) (pe_has h4 (hr.mono (by decide)) (by rfl) (pa_cons (pe_ix (ixT (K := K) rfl) (pv 3) pe_int (fun _ _ => rfl)) (pa_cons (pv 0) (pa_cons (pv 5) pa_nil)))) (pe_has h4 (hr.mono (by decide)) (by rfl) (pa_cons (pe_ix (ixT (K := K) rfl) (pv 3) pe_int (fun _ _ => rfl)) (pa_cons (pv 0) (pa_cons (pv 5) pa_nil)))) (nomark _)) (pss_one (ps_ret pe_bl)) pss_nil) (pss_one (ps_ret (pe_has h5 hr (by rfl) (pa_cons (pe_ix (ixT (K := K) rfl) (pv 3) pe_int (fun _ _ => rfl)) (pa_cons (pe_ix (ixT (K := K) rfl) (pv 3) pe_int (fun _ _ => rfl)) (pa_cons (pe_ix (ixT (K := K) rfl) (pv 2) pe_int (fun _ _ => rfl)) (pa_cons pe_int pa_nil))))))))))))))), ?_⟩
  refine ⟨_, rfl, z, pl, rfl, hz, hp, fun H1 s1 => ?_⟩
  refine ⟨_, rfl, ahead, 0, rfl, ha, ?_⟩
  refine ⟨_, rfl, th, wa, da, db, W, u, ls, ls', rs, rs', rfl, s1 _ _ hth, hW.keep (IK.of s1), hda.keep (IK.of s1), hdb.keep (IK.of s1), u1, u2, fun H2 s2 => ⟨true, rfl, iteF ?_⟩⟩
  have s12 := s1.trans s2
  refine ⟨_, rfl, _, rfl, _, rfl, th, _, rfl, s12 _ _ hth, fun sp H3 s3 hsp => ?_⟩
  replace hsp : H3 sp = some (.tup [.ref da, .ref db]) := hsp
  have s13 := s12.trans s3
  have day : ∀ {d : Addr} {xs : List Letter} {ys : List (List Int)} {H' : Hp}, DayAt CD H d wa xs ys → xs.length ≤ 12 → Same H H' → ∃ dx fs a1 zs, H' d = some (.ins CD dx fs) ∧ fs.lookup ("letters" : Str) = some (.ref a1) ∧ H' a1 = some (.tup zs) ∧ zs.length ≤ 12 := fun h h12 s => by
    obtain ⟨dx, fs, a1, a2, e, k1, k2, t2, _⟩ := h
    obtain ⟨_, zs, e2, hz, _, hl⟩ := tdLets t2
    cases e2
    exact ⟨dx, fs, a1, zs, s _ _ e, k2, s _ _ hz, by omega⟩
  refine ⟨_, rfl, sp, rfl, ⟨_, sqT hsp⟩, fun D hD => lc_tup (xs := [.ref da, .ref db]) (fun i H' => Same H3 H' ∧ H' D = some (.lst ((List.replicate i false).map V.bl))) ⟨same_new hD, upd_same⟩ (fun i H' _ h => sqT (h.1 _ _ hsp)) (fun i y H' hy ⟨s4, e4⟩ => ?_) fun H4 ⟨s4, e4⟩ => ?_⟩
  · have s14 := s13.trans s4
    have hd : ∃ d dx fs a1 zs, y = .ref d ∧ H' d = some (.ins CD dx fs) ∧ fs.lookup ("letters" : Str) = some (.ref a1) ∧ H' a1 = some (.tup zs) ∧ zs.length ≤ 12 ∧ i < 2 := by
      match i, hy with
      | 0, hy =>
        obtain ⟨dx, fs, a1, zs, e, k⟩ := day hda l12 s14
        exact ⟨da, dx, fs, a1, zs, (Option.some.inj hy).symm, e, k.1, k.2.1, k.2.2, by decide⟩
      | 1, hy =>
        obtain ⟨dx, fs, a1, zs, e, k⟩ := day hdb l12' s14
        exact ⟨db, dx, fs, a1, zs, (Option.some.inj hy).symm, e, k.1, k.2.1, k.2.2, by decide⟩
    obtain ⟨d, dx, fs, a1, zs, rfl, hdd, k1, hzs, hzl, hi⟩ := hd
    refine ⟨rfl, _, rfl, d, CD, dx, fs, _, rfl, hdd, c.cD, c.dLetters, k1, a1, zs, rfl, .inr (sqT hzs), _, _, rfl, rfl, _, e4, len_line (by simp; omega), same_at s4 hD e4, ?_⟩
    have ed : decide ((12 : Int) < (zs.length : Int)) = false := decide_eq_false (by omega)
    rw [upd_same]
    show some (HO.lst ((List.replicate i false).map V.bl ++ [V.bl (decide ((12 : Int) < (zs.length : Int)))])) = _
    rw [ed, bl_snoc, List.replicate_succ']
  · refine ⟨D, _, rfl, sqL e4, false, rfl, iteF ?_⟩
    have s14 := s13.trans s4
    have hth4 := s14 _ _ hth
    have hsp4 := s4 _ _ hsp
    refine ⟨_, rfl, th, _, 3, .int u, rfl, rfl, sqT hth4, atI_nat (j := 3) rfl, _, rfl, _, _, rfl, rfl, ?_⟩
    refine ⟨_, rfl, sp, _, 0, .ref da, rfl, rfl, sqT hsp4, atI_nat (j := 0) rfl, _, rfl, _, rfl, da, wa, z, u + ahead, ls, rs, pl, rfl, hda.keep (IK.of s14), hf, hg, by omega, hz.keep (TK.of s14), hp, fun p5 H5 ws5 s5 hp5 tw5 => ?_⟩
    have s15 := s14.trans s5
    refine ⟨_, rfl, sp, _, 1, .ref db, rfl, rfl, sqT (s5 _ _ hsp4), atI_nat (j := 1) rfl, _, rfl, _, rfl, db, wa, z, u + ahead, ls', rs', pl, rfl, hdb.keep (IK.of s15), hf', hg', by omega, hz.keep (TK.of s15), hp, fun p6 H6 ws6 s6 hp6 tw6 => ?_⟩
    have s16 := s15.trans s6
    refine ⟨_, _, .lst (sqL (s6 _ _ hp5)) (tw5.keep (TK.of s6)).dp, .lst (sqL hp6) tw6.dp, nice_early.shaped (by decide), nice_early.shaped (by decide), _, rfl, ?_⟩
    cases heq : PyData.eqv (.list (earlyD pl ls rs (u + ahead) ls.length)) (.list (earlyD pl ls' rs' (u + ahead) ls'.length)) with
    | false =>
      refine ifT rfl ?_
      refine q false H6 (fun b o e _ => s16 b o e) (hT.ext s16) ⟨(fun z => Bool.noConfusion z), fun z => ?_⟩
      rw [heq] at z
      exact z.1
    | true =>
      refine ifF rfl ?_
      have hsp6 := s6 _ _ (s5 _ _ hsp4)
      refine ⟨_, rfl, sp, _, 0, .ref da, rfl, rfl, sqT hsp6, atI_nat (j := 0) rfl, _, rfl, sp, _, 1, .ref db, rfl, rfl, sqT hsp6, atI_nat (j := 1) rfl, _, rfl, th, _, 3, .int u, rfl, rfl, sqT (s16 _ _ hth), atI_nat (j := 3) rfl, da, db, wa, W, u, 1, ls, ls', rs, rs', rfl, hda.keep (IK.of s16), hdb.keep (IK.of s16), hW.keep (IK.of s16), hf, hf', hg, hg', by omega, by omega, gp heq, hT.ext s16, fun b H7 x7 T7 hb => ?_⟩
      refine q b H7 (fun b o e n => x7 b o (s16 b o e) n) T7 (hb.trans ⟨fun z => ⟨heq, z⟩, fun z => z.2⟩)
end
end Hc
end

section
set_option Elab.async false
set_option linter.all false
set_option maxRecDepth 100000
set_option maxHeartbeats 4000000
namespace Hc
open PySem PySem.Spec PyProof.Rows L2 HcR LamX
section
variable {P : Program} {w : World} {K : PySem.W.Frag} {mg : Str → Option Value} {base : Heap}

/-- the law's hand: the cells, and four numbers -/
def HandAt (H : Hp) (a l : Addr) : Prop := ∃ (ns : List Int) (i x s m : Int), H a = some (.lst [.ref l, .int i, .int x, .int s, .int m]) ∧ H l = some (.lst (ns.map V.int)) ∧ 0 ≤ i ∧ ns.length ≤ 63
theorem HandAt.same {H H' : Hp} {a l : Addr} (h : HandAt H a l) (e : Same H H') : HandAt H' a l := by
  obtain ⟨ns, i, x, s, m, h1, h2, h3, h4⟩ := h
  exact ⟨ns, i, x, s, m, e _ _ h1, e _ _ h2, h3, h4⟩
theorem HandAt.upd {H : Hp} {a l T : Addr} {o : HO} (h : HandAt H a l) (n1 : T ≠ a) (n2 : T ≠ l) : HandAt (upd H T o) a l := by
  obtain ⟨ns, i, x, s, m, h1, h2, h3, h4⟩ := h
  exact ⟨ns, i, x, s, m, by rw [upd_ne n1.symm]; exact h1, by rw [upd_ne n2.symm]; exact h2, h3, h4⟩
theorem But.trans {p : Addr} {H H1 H' : Hp} (a : But p H H1) (b : But p H1 H') : But p H H' := fun c o h n => b c o (a c o h n) n
theorem But.of {p : Addr} {H H' : Hp} (e : Same H H') : But p H H' := fun c o h _ => e c o h
def spHand (K : PySem.W.Frag) : Sp := fun vs H Q _ => ∃ (a : Addr) (ns : List Int), vs = [.ref a] ∧ SqL K H a (ns.map V.int) ∧ ns.length ≤ 63 ∧ ∀ p l H', Same H H' → H p = none → H l = none → HandAt H' p l → Q (.ref p) H'
theorem ok_hand (ev : Ev mg) (D : Def K mg "_law_hand" s_law_hand) : Has P w K mg base CX0 1 "_law_hand" ["_law_script"] (spHand K) := by
  refine .of D (fun _ _ _ _ _ _ us hl => match us, hl with | [_], _ => rfl) fun f fd F => F.ok sc_law_hand (fun vs H Q E ⟨a, ns, e, _⟩ => by rw [e]; rfl) fun cdv A outer s H vs Q E hr ⟨a, ns, e, ha, h63, q⟩ => ?_
  subst e
  refine ⟨_, (PSs.nox (pss_cons (ps_setLc (i := 1) (own := [("_law_cell", 2)]) rfl sc_law_hand.nd rfl rfl (sw_true rfl rfl rfl (by decide +kernel)) (pi_list (pe_slice sl_list (pv 0) po_none (po_some pe_int))) (blkOk_by (own := [("_law_cell", 2)]) (N := sc_law_hand_N) (sc := sc_law_hand_S) (by decide +kernel)) (fun _ _ _ _ _ => (pg_name (i := 2) sc_law_hand.nd rfl (.inl rfl))) (fun _ _ _ _ _ => pts_nil) (fun _ _ _ _ _ => (pe_callB (call_abs) (by rfl) ev.abs (by decide +kernel) (pa_cons (pe_callTy (call_int1) (by rfl) ev.int (by decide +kernel) (pa_cons (pv 2) pa_nil)) pa_nil)))) (pss_one (ps_ret (pe_lst (pa_cons (pv 1) (pa_cons pe_int (pa_cons pe_int (pa_cons (pe_op op_add pe_int (pe_callB (lenS (K := K) rfl) (by rfl) ev.len PySem.boot_len (pa_cons (pv 1) pa_nil))) (pa_cons pe_int pa_nil)))))))))), ?_⟩
  refine ⟨_, rfl, _, rfl, a, _, rfl, ha, fun p hp => ?_⟩
  have s1 : Same H (upd H p (.lst (cutV (ns.map V.int) none (some 63)))) := same_new hp
  have hp1 : upd H p (.lst (cutV (ns.map V.int) none (some 63))) p = some (.lst (ns.map V.int)) := by
    rw [upd_same]
    have e : cutV (ns.map V.int) none (some ((63 : Nat) : Int)) = ns.map V.int := by
      rw [cut_to, List.take_of_length_le (by rw [List.length_map]; exact h63)]
    exact congrArg (fun z => some (HO.lst z)) e
  generalize upd H p (.lst (cutV (ns.map V.int) none (some 63))) = H1 at s1 hp1
  refine ⟨p, rfl, ⟨_, sqL hp1⟩, fun D hD => lc_list (xs := ns.map V.int) (fun i H' => Same H1 H' ∧ ∃ ms : List Int, H' D = some (.lst (ms.map V.int)) ∧ ms.length = i) ⟨same_new hD, [], upd_same, rfl⟩ (fun i H' _ h => sqL (h.1 _ _ hp1)) (fun i y H' hy ⟨s2, ms, e2, l2⟩ => ?_) fun H2 ⟨s2, ms, e2, l2⟩ => ?_⟩
  · rw [List.getElem?_map] at hy
    obtain ⟨n, hn, rfl⟩ := Option.map_eq_some_iff.mp hy
    have hi : i < ns.length := (List.getElem?_eq_some_iff.mp hn).1
    refine ⟨rfl, _, rfl, .inl ⟨n, rfl, n, rfl, _, e2, len_line (by rw [List.length_map]; omega), same_at s2 hD e2, ms ++ [if n < 0 then -n else n], ?_, by rw [List.length_append, l2]; rfl⟩⟩
    rw [upd_same, List.map_append]; rfl
  · rw [List.length_map] at l2
    refine ⟨_, rfl, _, rfl, D, _, rfl, .inl (sqL e2), _, _, rfl, rfl, by show 5 ≤ sizeLine; decide, fun h hh => ?_⟩
    have s3 := same_new (o := .lst [.ref D, .int 0, .int 0, .int (1 + ((ms.map V.int).length : Nat)), .int 0]) hh
    refine q h D _ ((s1.trans s2).trans s3) ((s1.trans s2).free hh) (s1.free hD) ⟨ms, 0, 0, _, 0, upd_same, s3 _ _ e2, by decide, by omega⟩
def spDraw : Sp := fun vs H Q _ => ∃ (a l : Addr) (many : Int), vs = [.ref a, .int many] ∧ HandAt H a l ∧ 0 < many ∧ many < 1000000 ∧ ∀ d H', 0 ≤ d → d < many → But a H H' → HandAt H' a l → Q (.int d) H'
theorem ok_draw (ev : Ev mg) (D : Def K mg "_law_draw" s_law_draw) : Has P w K mg base CX0 1 "_law_draw" ["_law_hand_here", "_law_many"] spDraw := by
  refine .of D (fun _ _ _ _ _ _ us hl => match us, hl with | [_, _], _ => rfl) fun f fd F => F.ok sc_law_draw (fun vs H Q E ⟨a, l, many, e, _⟩ => by rw [e]; rfl) fun cdv A outer s H vs Q E hr ⟨a, l, many, e, ha, m0, m1, q⟩ => ?_
  subst e
  refine ⟨_, (PSs.nox (C8.pss_cut (ps_if (PW.pt (pw_and (pt_cmpR op_eq (pe_ix (ixL (K := K) rfl) (pv 0) pe_int (fun _ _ => rfl)) pe_int (nomark _)) (pw_and1 (pt_cmpR op_lt (pe_ix (ixL (K := K) rfl) (pv 0) pe_int (fun _ _ => rfl)) (pe_callB (lenS (K := K) rfl) (by rfl) ev.len PySem.boot_len (pa_cons (pe_ix (ixL (K := K) rfl) (pv 0) pe_int (fun _ _ => rfl)) pa_nil)) (nomark _))))) (pss_cons (ps_set (i := 2) sc_law_draw.nd rfl (.inl rfl) (pe_ix (ixL (K := K) rfl) (pe_ix (ixL (K := K) rfl) (pv 0) pe_int (fun _ _ => rfl)) (pe_ix (ixL (K := K) rfl) (pv 0) pe_int (fun _ _ => rfl)) (fun _ _ => rfl))) (pss_cons (ps_asg (pe_op op_add (pe_ix (ixL (K := K) rfl) (pv 0) pe_int (fun _ _ => rfl)) pe_int) (pg_sub (pv 0) pe_int set_list)) (pss_cons (ps_asg (pe_op op_mod (pe_callTy (call_int1) (by rfl) ev.int (by decide +kernel) (pa_cons (pe_op op_add (pe_op op_add (pe_op op_mul (pe_ix (ixL (K := K) rfl) (pv 0) pe_int (fun _ _ => rfl)) pe_int) (pv 2)) pe_int) pa_nil)) pe_int) (pg_sub (pv 0) pe_int set_list)) (pss_one (ps_if (pt_cmpR op_ge (pv 2) (pe_op op_pow pe_int pe_int) (nomark _)) (pss_one (ps_asg (pv 2) (pg_sub (pv 0) pe_int set_list))) pss_nil))))) pss_nil)
    (pss_cons (ps_if (pt_cmpR op_gt (pe_ix (ixL (K := K) rfl) (pv 0) pe_int (fun _ _ => rfl)) pe_int (nomark _)) (pss_cons (ps_set (i := 3) sc_law_draw.nd rfl (.inl rfl) (pe_op op_mod (pe_callTy (call_int1) (by rfl) ev.int (by decide +kernel) (pa_cons (pe_ix (ixL (K := K) rfl) (pv 0) pe_int (fun _ _ => rfl)) pa_nil)) (pv 1))) (pss_cons (ps_asg (pe_op op_fdiv (pe_ix (ixL (K := K) rfl) (pv 0) pe_int (fun _ _ => rfl)) (pv 1)) (pg_sub (pv 0) pe_int set_list)) (pss_one (ps_ret (pv 3))))) pss_nil) (pss_cons (ps_asg (pe_op op_add (pe_ix (ixL (K := K) rfl) (pv 0) pe_int (fun _ _ => rfl)) pe_int) (pg_sub (pv 0) pe_int set_list)) (pss_cons (ps_set (i := 4) sc_law_draw.nd rfl (.inl rfl) (pe_op op_mod (pe_callTy (call_int1) (by rfl) ev.int (by decide +kernel) (pa_cons (pe_op op_mul (pe_callTy (call_int1) (by rfl) ev.int (by decide +kernel) (pa_cons (pe_op op_add (pe_ix (ixL (K := K) rfl) (pv 0) pe_int (fun _ _ => rfl)) (pe_op op_mul pe_int (pe_ix (ixL (K := K) rfl) (pv 0) pe_int (fun _ _ => rfl)))) pa_nil)) pe_int) pa_nil)) pe_int)) (pss_cons (ps_set (i := 4) sc_law_draw.nd rfl (.inl rfl) (pe_op op_mod (pe_callTy (call_int1) (by rfl) ev.int (by decide +kernel) (pa_cons (pe_op op_mul (pv 4) (pe_op op_add (pe_op op_fdiv (pv 4) pe_int) pe_int)) pa_nil)) pe_int)) (pss_cons (ps_set (i := 4) sc_law_draw.nd rfl (.inl rfl) (pe_op op_mod (pe_callTy (call_int1) (by rfl) ev.int (by decide +kernel) (pa_cons (pe_op op_mul (pv 4) (pe_op op_add (pe_op op_fdiv (pv 4) pe_int) pe_int)) pa_nil)) pe_int)) (pss_one (ps_ret (pe_op op_mod (pe_callTy (call_int1) (by rfl) ev.int (by decide +kernel) (pa_cons (pe_op op_fdiv (pv 4) pe_int) pa_nil)) (pv 1))))))))))), ?_⟩
  obtain ⟨ns, i, x, st, m, ha1, hl1, hi0, h63⟩ := ha
  have nla : l ≠ a := fun z => by
    subst z
    rw [ha1] at hl1
    have e := HO.lst.inj (Option.some.inj hl1)
    cases ns with
    | nil => cases e
    | cons n ns => cases e
  have up : ∀ {H' : Hp} (i x s m : Int), But a H H' → But a H (upd H' a (.lst [.ref l, .int i, .int x, .int s, .int m])) := fun i x s m b => b.put
  have atl : ∀ {H' : Hp}, But a H H' → H' l = some (.lst (ns.map V.int)) := fun b => b _ _ hl1 nla
  refine ⟨fun σ H' => ∃ i x s m v2, (But a H H' ∧ H' a = some (.lst [.ref l, .int i, .int x, .int s, .int m])) ∧ 0 ≤ i ∧ σ = [some (.ref a), some (.int many), v2, none, none], ?_, ?_⟩
  · have stay : ∃ i' x' s' m' v2, (But a H H ∧ H a = some (.lst [.ref l, .int i', .int x', .int s', .int m'])) ∧ 0 ≤ i' ∧ [some (V.ref a), some (.int many), none, none, none] = [some (V.ref a), some (.int many), v2, none, none] := ⟨i, x, st, m, none, ⟨.refl _ _, ha1⟩, hi0, rfl⟩
    refine ⟨_, rfl, a, _, 2, .int x, rfl, rfl, sqL ha1, atI_nat (j := 2) rfl, rfl, _, rfl, ite2 (fun h1 => ?_) fun h1 => stay⟩
    refine ⟨_, rfl, a, _, 1, .int i, rfl, rfl, sqL ha1, atI_nat (j := 1) rfl, _, rfl, a, _, 0, .ref l, rfl, rfl, sqL ha1, atI_nat (j := 0) rfl, l, _, rfl, .inl (sqL hl1), _, _, rfl, rfl, _, rfl, ite2 (fun h2 => ?_) fun h2 => stay⟩
    have hlt : i < ((ns.map V.int).length : Nat) := of_decide_eq_true h2
    rw [List.length_map] at hlt
    have hin : i.toNat < ns.length := by omega
    have hat : atI (ns.map V.int) i = some (.int ns[i.toNat]) := by
      have := atI_nat (xs := ns.map V.int) (j := i.toNat) (v := .int ns[i.toNat]) (by simp [hin])
      rw [show ((i.toNat : Nat) : Int) = i by omega] at this
      exact this
    generalize ns[i.toNat] = cell at hat
    refine ⟨_, rfl, a, _, 0, .ref l, rfl, rfl, sqL ha1, atI_nat (j := 0) rfl, _, rfl, a, _, 1, .int i, rfl, rfl, sqL ha1, atI_nat (j := 1) rfl, l, _, i, .int cell, rfl, rfl, sqL hl1, hat, ?_⟩
    refine ⟨_, rfl, a, _, 1, .int i, rfl, rfl, sqL ha1, atI_nat (j := 1) rfl, _, _, rfl, rfl, _, rfl, a, _, 1, 1, rfl, rfl, ha1, rfl, ?_⟩
    have b1 := up (i + 1) x st m (.refl a H)
    have e1 : upd H a (.lst [.ref l, .int (i + 1), .int x, .int st, .int m]) a = some (.lst [.ref l, .int (i + 1), .int x, .int st, .int m]) := upd_same
    refine ⟨_, rfl, a, _, 3, .int st, rfl, rfl, sqL e1, atI_nat (j := 3) rfl, _, _, rfl, rfl, .inr ⟨by decide, by decide⟩, _, rfl, _, _, rfl, rfl, _, _, rfl, rfl, .inl ⟨_, rfl, _, _, rfl, rfl, (show (0 : Int) < 2147483629 by decide), _, rfl, a, _, 3, 3, rfl, rfl, e1, rfl, ?_⟩⟩
    have b2 := up (i + 1) x ((st * 69621 + cell + 11) % 2147483629) m b1
    have e2 : upd (upd H a (.lst [.ref l, .int (i + 1), .int x, .int st, .int m])) a (.lst [.ref l, .int (i + 1), .int x, .int ((st * 69621 + cell + 11) % 2147483629), .int m]) a = some (.lst [.ref l, .int (i + 1), .int x, .int ((st * 69621 + cell + 11) % 2147483629), .int m]) := upd_same
    refine ⟨_, rfl, _, _, rfl, rfl, ⟨by decide, by decide, by decide⟩, _, _, rfl, rfl, _, rfl, ite2 (fun h3 => ?_) fun h3 => ⟨i + 1, x, _, m, _, ⟨b2, e2⟩, by omega, rfl⟩⟩
    exact ⟨_, rfl, _, rfl, a, _, 2, 2, rfl, rfl, e2, rfl, i + 1, cell, _, m, _, ⟨up (i + 1) cell _ m b2, upd_same⟩, by omega, rfl⟩
  · rintro σ H1 ⟨i, x, st, m, v2, ⟨b1, e1⟩, hi0, rfl⟩
    refine ⟨_, rfl, a, _, 2, .int x, rfl, rfl, sqL e1, atI_nat (j := 2) rfl, _, _, rfl, rfl, _, rfl, ite2 (fun h1 => ?_) fun h1 => ?_⟩
    · refine ⟨_, rfl, a, _, 2, .int x, rfl, rfl, sqL e1, atI_nat (j := 2) rfl, .inl ⟨_, rfl, _, rfl, _, _, rfl, rfl, m0, ?_⟩⟩
      refine ⟨_, rfl, a, _, 2, .int x, rfl, rfl, sqL e1, atI_nat (j := 2) rfl, _, rfl, _, _, rfl, rfl, ⟨m0, by omega⟩, _, rfl, a, _, 2, 2, rfl, rfl, e1, rfl, ?_⟩
      exact ⟨_, rfl, q _ _ (Int.emod_nonneg _ (by omega)) (Int.emod_lt_of_pos _ m0) (up i (x / many) st m b1) ⟨ns, i, x / many, st, m, upd_same, atl (up i (x / many) st m b1), hi0, h63⟩⟩
    · refine ⟨_, rfl, a, _, 4, .int m, rfl, rfl, sqL e1, atI_nat (j := 4) rfl, _, _, rfl, rfl, _, rfl, a, _, 4, 4, rfl, rfl, e1, rfl, ?_⟩
      have b2 := up i x st (m + 1) b1
      have e2 : upd H1 a (.lst [.ref l, .int i, .int x, .int st, .int (m + 1)]) a = some (.lst [.ref l, .int i, .int x, .int st, .int (m + 1)]) := upd_same
      have md : ∀ z : Int, 0 ≤ z % 2147483647 ∧ z % 2147483647 < 2147483647 := fun z => ⟨Int.emod_nonneg _ (by decide), Int.emod_lt_of_pos _ (by decide)⟩
      have cm : ∀ z y : Int, CMul (z % 2147483647) y := fun z y => .inl ⟨by have := (md z).1; omega, by have := (md z).2; omega⟩
      refine ⟨_, rfl, a, _, 3, .int st, rfl, rfl, sqL e2, atI_nat (j := 3) rfl, _, rfl, a, _, 4, .int (m + 1), rfl, rfl, sqL e2, atI_nat (j := 4) rfl, _, _, rfl, rfl, .inl ⟨by decide, by decide⟩, _, _, rfl, rfl, .inl ⟨_, rfl, _, _, rfl, rfl, .inr ⟨by decide, by decide⟩, .inl ⟨_, rfl, _, _, rfl, rfl, (show (0 : Int) < 2147483647 by decide), ?_⟩⟩⟩
      have dv : ∀ z y : Int, 0 < y → y < 1000000 → CDiv z y := fun z y h1 h2 => ⟨h1, by omega⟩
      refine ⟨_, rfl, _, rfl, _, _, rfl, rfl, dv _ _ (by decide) (by decide), _, _, rfl, rfl, _, _, rfl, rfl, cm _ _, .inl ⟨_, rfl, _, _, rfl, rfl, (show (0 : Int) < 2147483647 by decide), ?_⟩⟩
      refine ⟨_, rfl, _, rfl, _, _, rfl, rfl, dv _ _ (by decide) (by decide), _, _, rfl, rfl, _, _, rfl, rfl, cm _ _, .inl ⟨_, rfl, _, _, rfl, rfl, (show (0 : Int) < 2147483399 by decide), ?_⟩⟩
      refine ⟨_, rfl, _, _, rfl, rfl, dv _ _ (by decide) (by decide), .inl ⟨_, rfl, _, rfl, _, _, rfl, rfl, m0, ?_⟩⟩
      exact q _ _ (Int.emod_nonneg _ (by omega)) (Int.emod_lt_of_pos _ m0) b2 ⟨ns, i, x, st, m + 1, e2, atl b2, hi0, h63⟩
end
end Hc
end

section
set_option Elab.async false
set_option linter.all false
set_option maxRecDepth 100000
set_option maxHeartbeats 4000000
namespace Hc
open PySem PySem.Spec PyProof.Rows L2 HcR LamX
section
variable {P : Program} {w : World} {K : PySem.W.Frag} {mg : Str → Option Value} {base : Heap}

def spFlag : Sp := fun vs H Q _ => ∃ t d : Bool, vs = [.bl t, .bl d] ∧ Q (.bl (decide (t = d))) H
theorem ok_flag (ev : Ev mg) (D : Def K mg "_law_flag" s_law_flag) : Has P w K mg base CX0 1 "_law_flag" ["_law_told", "_law_due"] spFlag := by
  refine .of D (fun _ _ _ _ _ _ us hl => match us, hl with | [_, _], _ => rfl) fun f fd F => F.ok sc_law_flag (fun vs H Q E ⟨t, d, e, _⟩ => by rw [e]; rfl) fun cdv A outer s H vs Q E hr ⟨t, d, e, q⟩ => ?_
  subst e
  refine ⟨_, (PSs.nox (pss_one (ps_ret (pe_and (pe_callB ((isiK (K := K) rfl)) (by rfl) ev.isinstance (by decide +kernel) (pa_cons (pv 0) (pa_cons (pe_bltn (v := .ty "bool") (by rfl) ev.bool (by decide +kernel) rfl) pa_nil))) (pe_one (pe_cmpR op_eq (pv 0) (pv 1) (nomark _))))))), ?_⟩
  refine ⟨_, rfl, _, _, _, _, true, rfl, .ty _, .base (.bl t), kit_ty (by decide +kernel), true, rfl, ?_⟩
  refine ⟨_, rfl, _, rfl, rfl, ?_⟩
  show Q (.bl (decide (V.bl t = V.bl d))) H
  rw [show decide (V.bl t = V.bl d) = decide (t = d) by cases t <;> cases d <;> rfl]
  exact q
def spPut : Sp := fun vs H Q _ => ∃ (a : Addr) (i : Nat) (y : V) (xs : List V), vs = [.ref a, .int i, y] ∧ H a = some (.tup xs) ∧ i < xs.length ∧ xs.length ≤ 1000 ∧ ∀ p H', Same H H' → H' p = some (.tup (xs.set i y)) → Q (.ref p) H'
theorem ok_put (D : Def K mg "_law_put" s_law_put) : Has P w K mg base CX0 1 "_law_put" ["_law_thing", "_law_at", "_law_item"] spPut := by
  refine .of D (fun _ _ _ _ _ _ us hl => match us, hl with | [_, _, _], _ => rfl) fun f fd F => F.ok sc_law_put (fun vs H Q E ⟨a, i, y, xs, e, _⟩ => by rw [e]; rfl) fun cdv A outer s H vs Q E hr ⟨a, i, y, xs, e, ha, hi, hl, q⟩ => ?_
  subst e
  refine ⟨_, (PSs.nox (pss_one (ps_ret (pe_op opCatU (pe_op opCatU (pe_slice slU (pv 0) po_none (po_some (pv 1))) (pe_tup (pa_cons (pv 2) pa_nil))) (pe_slice slU (pv 0) (po_some (pe_op op_add (pv 1) pe_int)) po_none))))), ?_⟩
  refine ⟨_, rfl, _, rfl, _, rfl, a, _, rfl, ha, fun p1 H1 s1 h1 => ⟨_, rfl, by show 1 ≤ sizeLine; decide, fun p2 hp2 => ?_⟩⟩
  rw [cut_to] at h1
  have s2 := same_new (o := .tup [y]) hp2
  have h2 : upd H1 p2 (.tup [y]) p2 = some (.tup [y]) := upd_same
  refine ⟨p1, p2, _, _, rfl, rfl, s2 _ _ h1, h2, by rw [sizeLine_eq, List.length_take]; show _ + 1 ≤ _; omega, fun p3 H3 s3 h3 => ?_⟩
  have s03 := (s1.trans s2).trans s3
  refine ⟨_, rfl, _, rfl, _, _, rfl, rfl, _, rfl, a, _, rfl, s03 _ _ ha, fun p4 H4 s4 h4 => ?_⟩
  have h4' : H4 p4 = some (.tup (xs.drop (i + 1))) := by
    rw [h4]
    exact congrArg (fun z => some (HO.tup z)) (cut_from xs (i + 1))
  refine ⟨p3, p4, _, _, rfl, rfl, s4 _ _ h3, h4', by rw [sizeLine_eq, List.length_append, List.length_take, List.length_drop]; show _ + 1 + _ ≤ _; omega, fun p5 H5 s5 h5 => ?_⟩
  refine q p5 H5 ((s03.trans s4).trans s5) ?_
  rw [h5, List.set_eq_take_append_cons_drop, if_pos hi, List.append_assoc]
  rfl
end
end Hc
end

section
set_option Elab.async false
set_option linter.all false
set_option maxRecDepth 100000
set_option maxHeartbeats 4000000
namespace Hc
open PySem PySem.Spec PyProof.Rows L2 HcR LamX
section
variable {P : Program} {w : World} {K : PySem.W.Frag} {mg : Str → Option Value} {base : Heap}

theorem earlyD_succ (pl : List (List Nat)) (ls : List Letter) (rs : List (List Int)) (u : Int) (m : Nat) : earlyD pl ls rs u (m + 1) = earlyD pl ls rs u m ++ (if decide ((atL ls m).2 ≤ u) = true then [.tuple [.int (m : Int), cardAt pl ls rs m]] else []) := by
  unfold earlyD
  rw [List.range_succ, List.filter_append, List.map_append]
  congr 1
  cases h : decide ((atL ls m).2 ≤ u) with
  | true => rw [List.filter_cons_of_pos (by rw [h])]; rfl
  | false => rw [List.filter_cons_of_neg (by rw [h]; decide)]; rfl
/-- a card, its come -/
theorem td_card {H : Hp} {v : V} {pl : List (List Nat)} {l : Letter} {r : List Int} (h : Td H v (dCard pl l r)) : ∃ ca cxs, v = .ref ca ∧ H ca = some (.tup cxs) ∧ cxs[1]? = some (.int l.2) := by
  obtain ⟨ca, cxs, e, hcx, hcl⟩ := h.tuple
  obtain ⟨v1, hv1, tv1⟩ := hcl.get (i := 1) (d := .int l.2) rfl
  have := tv1.int'
  subst this
  exact ⟨ca, cxs, e, hcx, hv1⟩
def spLEarly : Sp := fun vs H Q _ => ∃ (a : Addr) (u : Int) (xs : List V) (pl : List (List Nat)) (ls : List Letter) (rs : List (List Int)), vs = [.ref a, .int u] ∧ H a = some (.lst xs) ∧ TdAll H xs ((List.range ls.length).map (cardAt pl ls rs)) ∧ ls.length ≤ 20 ∧
  ∀ p H' ws, Same H H' → H p = none → H' p = some (.lst ws) → TdAll H' ws (earlyD pl ls rs u ls.length) → Q (.ref p) H'
theorem ok_learly (ev : Ev mg) (D : Def K mg "_law_early" s_law_early) : Has P w K mg base CX0 1 "_law_early" ["_law_cards", "_law_until"] spLEarly := by
  refine .of D (fun _ _ _ _ _ _ us hl => match us, hl with | [_, _], _ => rfl) fun f fd F => F.ok sc_law_early (fun vs H Q E ⟨a, u, xs, pl, ls, rs, e, _⟩ => by rw [e]; rfl) fun cdv A outer s H vs Q E hr ⟨a, u, xs, pl, ls, rs, e, ha, hal, l20, q⟩ => ?_
  subst e
  refine ⟨_, (PSs.nox (pss_one (ps_ret (pe_lc (own := [("_law_k", 2)]) rfl sc_law_early.nd (pi_range1 rfl ev.range (pa_cons (pe_callB (lenS (K := K) rfl) (by rfl) ev.len PySem.boot_len (pa_cons (pv 0) pa_nil)) pa_nil)) (blkOk_by (own := [("_law_k", 2)]) (N := sc_law_early_N) (sc := sc_law_early_S) (by decide +kernel)) (fun _ _ _ _ _ => (pg_name (i := 2) sc_law_early.nd rfl (.inl rfl))) (fun _ _ _ _ _ => (pts_one (pt_cmpR op_le (pe_ix (ixT (K := K) rfl) (pe_ix (ixL (K := K) rfl) (pv 0) (pv 2) (fun _ _ => rfl)) pe_int (fun _ _ => rfl)) (pv 1) (nomark _)))) (fun _ _ _ _ _ => (pe_tup (pa_cons (pv 2) (pa_cons (pe_ix (ixL (K := K) rfl) (pv 0) (pv 2) (fun _ _ => rfl)) pa_nil)))))))), ?_⟩
  have hxl : xs.length = ls.length := by rw [hal.len, List.length_map, List.length_range]
  refine ⟨_, rfl, a, _, rfl, .inl (sqL ha), (xs.length : Int), rfl, by omega, by omega, fun D hD => ?_⟩
  rw [show ((xs.length : Int)).toNat = ls.length by omega]
  refine lc_range (lo := 0) (n := ls.length) (fun i H' => Same H H' ∧ ∃ ws, H' D = some (.lst ws) ∧ TdAll H' ws (earlyD pl ls rs u i) ∧ ws.length ≤ i) ⟨same_new hD, [], upd_same, .nil, Nat.le_refl _⟩ (fun i H' hi ⟨s2, ws, e2, w2, wl⟩ => ?_) fun H2 ⟨s2, ws, e2, w2, wl⟩ => ?_
  · have hxi : xs[i]? = some (xs[i]'(by omega)) := List.getElem?_eq_getElem _
    obtain ⟨m, hm, tm⟩ := hal.map_got hxi
    have hmi : m = i := by
      obtain ⟨hm1, hm2⟩ := List.getElem?_eq_some_iff.mp hm
      rw [List.getElem_range] at hm2
      exact hm2.symm
    subst hmi
    have tm2 := tm.keep (TK.of s2)
    obtain ⟨ca, cxs, e, hcx, hv1⟩ := td_card tm2
    have e0 : (0 + (m : Int)) = (m : Nat) := by omega
    have hat : atI xs (0 + (m : Int)) = some (.ref ca) := by rw [e0, ← e]; exact atI_nat hxi
    rw [e] at tm2
    have ha2 := s2 _ _ ha
    refine ⟨rfl, _, rfl, _, rfl, a, _, _, .ref ca, rfl, rfl, sqL ha2, hat, ca, cxs, 1, _, rfl, rfl, sqT hcx, atI_nat (j := 1) hv1, _, rfl, _, _, rfl, rfl, _, rfl, ?_⟩
    rw [earlyD_succ]
    refine ite2 (fun hc => ?_) fun hc => ?_
    · rw [if_pos hc]
      refine ⟨_, rfl, _, rfl, _, rfl, a, _, _, .ref ca, rfl, rfl, sqL ha2, hat, by show 2 ≤ sizeLine; decide, fun t ht => ?_⟩
      have s4 := same_new (o := .tup [V.int (0 + (m : Int)), .ref ca]) ht
      have ht4 : upd H' t (.tup [V.int (0 + (m : Int)), .ref ca]) t = some (.tup [V.int (0 + (m : Int)), .ref ca]) := upd_same
      refine ⟨ws, s4 _ _ e2, len_line (by omega), same_at (s2.trans s4) hD (s4 _ _ e2), _, upd_same, ?_, by rw [List.length_append, List.length_singleton]; omega⟩
      have tk : TK (upd H' t (.tup [V.int (0 + (m : Int)), .ref ca])) (upd (upd H' t (.tup [V.int (0 + (m : Int)), .ref ca])) D (.lst (ws ++ [.ref t]))) := fun b zs e => by rw [upd_ne (ne_of e (s4 _ _ e2) (fun z => by cases z))]; exact e
      refine ((w2.keep (TK.of s4)).keep tk).snoc ((Td.tup ht4 (.cons ?_ (.cons (tm2.keep (TK.of s4)) .nil))).keep tk)
      rw [e0]; exact .int _
    · rw [if_neg hc, List.append_nil]
      exact ⟨s2, ws, e2, w2, by omega⟩
  · exact q D H2 ws s2 hD e2 w2
theorem ok_lplan_card (ev : Ev mg) (D : Def K mg "_law_plan_card" s_law_plan_card) : Has P w K mg base CX0 1 "_law_plan_card" ["_law_letter", "_law_row", "_law_plan_here"] spPlanCard := by
  refine .of D (fun _ _ _ _ _ _ us hl => match us, hl with | [_, _, _], _ => rfl) fun f fd F => F.ok sc_law_plan_card (fun vs H Q E ⟨x, y, z, l, r, pl, e, _⟩ => by rw [e]; rfl) fun cdv A outer s H vs Q E hr ⟨x, y, z, l, r, pl, e, hx, hy, hz, hl, hrl, hp, q⟩ => ?_
  subst e
  refine ⟨_, (PSs.nox (pss_cons (ps_set (i := 3) sc_law_plan_card.nd rfl (.inl rfl) (pe_callTy ((tupOf (K := K) rfl)) (by rfl) ev.tuple (by decide +kernel) (pa_cons (pe_lc (own := [("_law_at", 4)]) rfl sc_law_plan_card.nd (pi_range1 rfl ev.range (pa_cons (pe_callB (lenS (K := K) rfl) (by rfl) ev.len PySem.boot_len (pa_cons (pv 1) pa_nil)) pa_nil)) (blkOk_by (own := [("_law_at", 4)]) (N := sc_law_plan_card_N) (sc := sc_law_plan_card_S) (by decide +kernel)) (fun _ _ _ _ _ => (pg_name (i := 4) sc_law_plan_card.nd rfl (.inl rfl))) (fun _ _ _ _ _ => pts_nil) (fun _ _ _ _ _ => (pe_ifExp (pt_cmpR (opInK (K := K) rfl) (pv 4) (pe_ix (ixT (K := K) rfl) (pv 2) (pe_op op_sub (pe_callB (lenS (K := K) rfl) (by rfl) ev.len PySem.boot_len (pa_cons (pv 1) pa_nil)) pe_int) (fun _ _ => rfl)) (by rfl)) (pe_ix (ixT (K := K) rfl) (pv 1) (pv 4) (fun _ _ => rfl)) pe_non))) pa_nil))) (pss_one (ps_ret (pe_tup (pa_cons (pe_ix (ixT (K := K) rfl) (pv 0) pe_int (fun _ _ => rfl)) (pa_cons (pe_ix (ixT (K := K) rfl) (pv 0) pe_int (fun _ _ => rfl)) (pa_cons (pe_ix (ixT (K := K) rfl) (pv 1) (pe_un un_neg pe_int) (fun _ _ => rfl)) (pa_cons (pv 3) pa_nil))))))))), ?_⟩
  obtain ⟨c1, c2, rfl, hc1, hc2⟩ := td_let hx
  obtain ⟨c3, rfl, hc3⟩ := hy.ints
  obtain ⟨c4, zs, rfl, hc4, hzl⟩ := hz.tuple
  have hl0 : 0 < l.1.length := List.length_pos_iff.mpr hl.1
  have hl8 := hl.2.1
  have hpg := plan_get hp (n := l.1.length - 1) (by omega)
  obtain ⟨pv, hpv, tpv⟩ := hzl.map_got' hpg
  obtain ⟨c5, rfl, hc5⟩ := tpv.way
  have hrne : r ≠ [] := fun z => by rw [z] at hrl; exact absurd hrl (by show ¬ 0 = _; omega)
  have elen : (((r.map V.int).length : Nat) : Int) - 1 = ((l.1.length - 1 : Nat) : Int) := by rw [List.length_map]; omega
  refine ⟨_, rfl, c3, _, rfl, .inr (sqT hc3), ((r.map V.int).length : Nat), rfl, by rw [List.length_map]; omega, by rw [List.length_map]; omega, fun D hD => ?_⟩
  rw [show (((r.map V.int).length : Nat) : Int).toNat = r.length by rw [List.length_map]; omega]
  refine lc_range (lo := 0) (n := r.length) (fun i H' => Same H H' ∧ ∃ ws, H' D = some (.lst ws) ∧ TdAll H' ws ((List.range i).map (toldOf pl l r))) ⟨same_new hD, [], upd_same, .nil⟩ (fun i H' hi ⟨s1, ws, e1, w1⟩ => ?_) fun H1 ⟨s1, ws, e1, w1⟩ => ?_
  · have e0 : (0 + (i : Int)) = (i : Nat) := by omega
    have wl : ws.length = i := by rw [w1.len, List.length_map, List.length_range]
    have fin : ∀ v : V, Td H' v (toldOf pl l r i) → ∃ acc, H' D = some (.lst acc) ∧ acc.length < sizeLine ∧ (Same H (upd H' D (.lst (acc ++ [v]))) ∧ ∃ us, upd H' D (.lst (acc ++ [v])) D = some (.lst us) ∧ TdAll (upd H' D (.lst (acc ++ [v]))) us ((List.range (i + 1)).map (toldOf pl l r))) := fun v tv => by
      have tk : TK H' (upd H' D (.lst (ws ++ [v]))) := fun b zs e => by rw [upd_ne (ne_of e e1 (fun z => by cases z))]; exact e
      refine ⟨ws, e1, len_line (by omega), same_at s1 hD e1, _, upd_same, ?_⟩
      rw [List.range_succ, List.map_append]
      exact (w1.keep tk).snoc (tv.keep tk)
    have hc33 := s1 _ _ hc3
    refine ⟨rfl, _, rfl, _, rfl, _, rfl, c3, _, rfl, .inr (sqT hc33), _, _, rfl, rfl, c4, zs, _, .ref c5, rfl, rfl, sqT (s1 _ _ hc4), by rw [elen]; exact atI_nat hpv, c5, _, rfl, .inr (sqT (s1 _ _ hc5)), rfl, allflat _, _, rfl, ?_⟩
    show if inV (V.int (0 + (i : Int))) ((pl.getD (l.1.length - 1) []).map iN) = true then _ else _
    have einv : inV (V.int (0 + (i : Int))) ((pl.getD (l.1.length - 1) []).map iN) = decide (i ∈ pl.getD (l.1.length - 1) []) := by
      rw [e0]; exact inV_nat i _
    rw [einv]
    refine ite2 (fun hc => ⟨_, rfl, _, rfl, c3, _, _, .int (r.getD i 0), rfl, rfl, sqT hc33, ?_, fin _ ?_⟩) fun hc => fin _ ?_
    · rw [e0]; exact atI_nat (by simp [hi])
    · have : toldOf pl l r i = .int (r.getD i 0) := by unfold toldOf; rw [if_pos (of_decide_eq_true hc)]
      rw [this]; exact .int _
    · have : toldOf pl l r i = .none := by unfold toldOf; rw [if_neg (fun z => hc (decide_eq_true z))]
      rw [this]; exact .non
  · refine ⟨D, ws, rfl, .inl ⟨sqL e1, fun tp htp => ?_⟩⟩
    have s2 : Same H1 (upd H1 tp (.tup ws)) := same_new htp
    have ht2 : upd H1 tp (.tup ws) tp = some (.tup ws) := upd_same
    generalize upd H1 tp (.tup ws) = H2 at s2 ht2
    have s02 := s1.trans s2
    refine ⟨_, rfl, c1, _, 0, .ref c2, rfl, rfl, sqT (s02 _ _ hc1), atI_nat (j := 0) rfl, _, rfl, c1, _, 1, .int l.2, rfl, rfl, sqT (s02 _ _ hc1), atI_nat (j := 1) rfl, _, rfl, _, rfl, c3, _, _, _, rfl, rfl, sqT (s02 _ _ hc3), atI_lastD hrne, _, rfl, by show 4 ≤ sizeLine; decide, fun p hp' => ?_⟩
    have s3 := same_new (o := .tup [.ref c2, .int l.2, .int (r.getLastD 0), .ref tp]) hp'
    refine q p _ (s02.trans s3) (.tup upd_same (.cons ((td_way (s02 _ _ hc2)).keep (TK.of s3)) (.cons (.int _) (.cons (.int _) (.cons ?_ .nil)))))
    exact .tup (s3 _ _ ht2) ((w1.keep (TK.of s2)).keep (TK.of s3))
end
end Hc
end

section
set_option Elab.async false
set_option linter.all false
set_option maxRecDepth 100000
set_option maxHeartbeats 4000000
namespace Hc
open PySem PySem.Spec PyProof.Rows L2 HcR LamX
section
variable {P : Program} {w : World} {K : PySem.W.Frag} {mg : Str → Option Value} {base : Heap}

theorem But.at {p T : Addr} {H H' : Hp} {o : HO} (b : But p H H') (h : H T = none) : But p H (upd H' T o) := fun c u e n => by rw [upd_ne (ne_of_none e h)]; exact b c u e n
theorem But.tkl {p : Addr} {H H' : Hp} {xs : List V} (h : But p H H') (hp : H p = some (.lst xs)) : TK H H' := fun b zs e => h b _ e (ne_of e hp (fun z => by cases z))
def GoodRow (j : Nat) (l : List Nat) : Prop := l.Pairwise (· < ·) ∧ (∀ m ∈ l, m < j + 1) ∧ j ∈ l ∧ l.length ≤ 8
theorem goodPlan_of {pl : List (List Nat)} (h : pl.length = 8) (g : ∀ (j : Nat) (l : List Nat), pl[j]? = some l → GoodRow j l) : GoodPlan pl := ⟨h, fun i l e => (g i l e).1, fun i l e => (g i l e).2.1, fun i l e => (g i l e).2.2.1, fun i l e => (g i l e).2.2.2⟩
def spLPlan : Sp := fun vs H Q _ => ∃ (a l : Addr), vs = [.ref a, .bl true] ∧ HandAt H a l ∧ ∀ p H' pl, But a H H' → HandAt H' a l → GoodPlan pl → Td H' (.ref p) (dPlan pl) → Q (.ref p) H'
theorem ok_lplan (ev : Ev mg) (D : Def K mg "_law_plan" s_law_plan) (h1 : Has P w K mg base CX0 1 "_law_draw" ["_law_hand_here", "_law_many"] spDraw) : Has P w K mg base CX0 2 "_law_plan" ["_law_hand_here", "_law_gaps"] spLPlan := by
  refine .of D (fun _ _ _ _ _ _ us hl => match us, hl with | [_, _], _ => rfl) fun f fd F => F.ok sc_law_plan (fun vs H Q E ⟨a, l, e, _⟩ => by rw [e]; rfl) fun cdv A outer s H vs Q E hr ⟨a, l, e, ha, q⟩ => ?_
  subst e
  refine ⟨_, (PSs.nox (pss_cons (ps_set (i := 2) sc_law_plan.nd rfl (.inl rfl) (pe_lst pa_nil)) (pss_cons (ps_for PassesOwn.never rfl (pi_range2 rfl ev.range (pa_cons pe_int (pa_cons pe_int pa_nil))) (pg_name (i := 3) sc_law_plan.nd rfl (.inl rfl)) (pss_cons (ps_set (i := 4) sc_law_plan.nd rfl (.inl rfl) (pe_lst pa_nil)) (pss_cons (ps_for PassesOwn.never rfl (pi_range1 rfl ev.range (pa_cons (pv 3) pa_nil)) (pg_name (i := 5) sc_law_plan.nd rfl (.inl rfl)) (pss_cons (ps_set (i := 6) sc_law_plan.nd rfl (.inl rfl) (pe_or (pe_cmpR op_eq (pv 5) (pe_op op_sub (pv 3) pe_int) (nomark _)) (pe_one (pe_and (pe_not (pv 1)) (pe_and (pe_cmpR op_gt (pv 5) pe_int (nomark _)) (pe_one (pe_cmpR (opNotInK (K := K) rfl) (pe_op op_sub (pv 5) pe_int) (pv 4) (by rfl)))))))) (pss_one (ps_if (PW.pt (pw_or (pt_val (pv 6)) (pw_or1 (pt_cmpR op_eq (pe_has h1 hr (by rfl) (pa_cons (pv 0) (pa_cons pe_int pa_nil))) pe_int (nomark _))))) (pss_one (ps_expr (pe_bm PySem.F.plainAttrs_list PySem.F.slot_list_append PySem.F.type_list_append mt_append (pv 4) (pa_cons (pv 5) pa_nil)))) pss_nil)))) (pss_one (ps_expr (pe_bm PySem.F.plainAttrs_list PySem.F.slot_list_append PySem.F.type_list_append mt_append (pv 2) (pa_cons (pe_callTy ((tupOf (K := K) rfl)) (by rfl) ev.tuple (by decide +kernel) (pa_cons (pv 4) pa_nil)) pa_nil))))))) (pss_one (ps_ret (pe_callTy ((tupOf (K := K) rfl)) (by rfl) ev.tuple (by decide +kernel) (pa_cons (pv 2) pa_nil))))))), ?_⟩
  have hal : ∃ xs zs, H a = some (.lst xs) ∧ H l = some (.lst zs) := by
    obtain ⟨ns, i, x, st, m, e1, e2, _⟩ := ha
    exact ⟨_, _, e1, e2⟩
  obtain ⟨axs, lxs, hA, hLl⟩ := hal
  refine ⟨by show 0 ≤ sizeLine; exact Nat.zero_le _, fun L hL => ?_⟩
  have nLa : L ≠ a := Ne.symm (ne_of_none hA hL)
  have nLl : L ≠ l := Ne.symm (ne_of_none hLl hL)
  have b1 : But a H (upd H L (.lst [])) := (But.refl a H).at hL
  have a1 : HandAt (upd H L (.lst [])) a l := ha.upd nLa nLl
  have hL1 : upd H L (.lst []) L = some (.lst []) := upd_same
  generalize upd H L (.lst []) = H1 at b1 a1 hL1
  refine ⟨1, 9, rfl, ⟨by decide, by decide, by decide, by decide⟩, for_range (lo := 1) (n := 8) (fun i σ H' => (But a H H' ∧ HandAt H' a l ∧ ∃ ys pls, H' L = some (.lst ys) ∧ TdAll H' ys (pls.map dWay) ∧ pls.length = i ∧ ∀ (j : Nat) (r : List Nat), pls[j]? = some r → GoodRow j r) ∧ ∃ v3 v4 v5 v6, σ = [some (.ref a), some (.bl true), some (.ref L), v3, v4, v5, v6]) ⟨⟨b1, a1, [], [], hL1, .nil, rfl, fun j r h => by simp at h⟩, _, _, _, _, rfl⟩ ?_ ?_⟩
  · rintro i σ H2 hi ⟨⟨b2, a2, ys, pls, hL2, w2, l2, g2⟩, v3, v4, v5, v6, rfl⟩
    refine ⟨by show 0 ≤ sizeLine; exact Nat.zero_le _, fun T hT => ?_⟩
    have hT0 : H T = none := by
      cases z : H T with
      | none => rfl
      | some o =>
        by_cases e : T = a
        · subst e
          obtain ⟨ns, i, x, st, m, e1, _⟩ := a2
          rw [hT] at e1; cases e1
        · have := b2 T o z e
          rw [hT] at this; cases this
    have nTa : T ≠ a := Ne.symm (ne_of_none hA hT0)
    have nTl : T ≠ l := Ne.symm (ne_of_none hLl hT0)
    have nTL : T ≠ L := Ne.symm (ne_of_none hL2 hT)
    have tk2 : TK H2 (upd H2 T (.lst [])) := TK.of (same_new hT)
    have b3 : But a H (upd H2 T (.lst [])) := b2.at hT0
    have a3 : HandAt (upd H2 T (.lst [])) a l := a2.upd nTa nTl
    have hL3 : upd H2 T (.lst []) L = some (.lst ys) := by rw [upd_ne nTL.symm]; exact hL2
    have w3 := w2.keep tk2
    have hT3 : upd H2 T (.lst []) T = some (.lst []) := upd_same
    generalize upd H2 T (.lst []) = H3 at b3 a3 hL3 w3 hT3
    refine ⟨_, rfl, 1 + (i : Int), rfl, by omega, by omega, ?_⟩
    rw [show (1 + (i : Int)).toNat = i + 1 by omega]
    refine for_range (lo := 0) (n := i + 1) (fun m σ H' => (But a H H' ∧ HandAt H' a l ∧ H' L = some (.lst ys) ∧ TdAll H' ys (pls.map dWay) ∧ ∃ ms : List Nat, H' T = some (.lst (ms.map iN)) ∧ ms.Pairwise (· < ·) ∧ (∀ x ∈ ms, x < m) ∧ ms.length ≤ m ∧ (m = i + 1 → i ∈ ms)) ∧ ∃ v5 v6, σ = [some (.ref a), some (.bl true), some (.ref L), some (.int (1 + (i : Int))), some (.ref T), v5, v6]) ⟨⟨b3, a3, hL3, w3, [], hT3, .nil, (fun _ z => nomatch z), Nat.zero_le _, fun z => by omega⟩, _, _, rfl⟩ ?_ ?_
    · rintro m σ H4 hm ⟨⟨b4, a4, hL4, w4, ms, hT4, p4, lt4, l4, last4⟩, v5, v6, rfl⟩
      have em : (0 + (m : Int)) = (m : Nat) := by omega
      have push : ∀ {H5 : Hp}, But a H H5 → HandAt H5 a l → H5 L = some (.lst ys) → TdAll H5 ys (pls.map dWay) → H5 T = some (.lst (ms.map iN)) →
          ∃ (p : Addr) (us : List V) (v : V), V.ref T = .ref p ∧ v = .int (0 + (m : Int)) ∧ H5 p = some (.lst us) ∧ us.length < sizeLine ∧ (But a H (upd H5 p (.lst (us ++ [v]))) ∧ HandAt (upd H5 p (.lst (us ++ [v]))) a l ∧ upd H5 p (.lst (us ++ [v])) L = some (.lst ys) ∧ TdAll (upd H5 p (.lst (us ++ [v]))) ys (pls.map dWay) ∧ ∃ ms' : List Nat, upd H5 p (.lst (us ++ [v])) T = some (.lst (ms'.map iN)) ∧ ms'.Pairwise (· < ·) ∧ (∀ x ∈ ms', x < m + 1) ∧ ms'.length ≤ m + 1 ∧ (m + 1 = i + 1 → i ∈ ms')) := fun {H5} b5 a5 hL5 w5 hT5 => by
        have tk : TK H5 (upd H5 T (.lst (ms.map iN ++ [.int (0 + (m : Int))]))) := fun b zs e => by rw [upd_ne (ne_of e hT5 (fun z => by cases z))]; exact e
        refine ⟨T, _, _, rfl, rfl, hT5, len_line (by rw [List.length_map]; omega), b5.at hT0, a5.upd nTa nTl, by rw [upd_ne nTL.symm]; exact hL5, w5.keep tk, ms ++ [m], ?_, ?_, fun x hx => ?_, by rw [List.length_append, List.length_singleton]; omega, fun e => ?_⟩
        · rw [upd_same, List.map_append, em]; rfl
        · rw [List.pairwise_append]
          exact ⟨p4, List.pairwise_singleton _ _, fun x hx y hy => by rw [List.mem_singleton.mp hy]; exact lt4 x hx⟩
        · rcases List.mem_append.mp hx with hx | hx
          · exact Nat.lt_succ_of_lt (lt4 x hx)
          · rw [List.mem_singleton.mp hx]; exact Nat.lt_succ_self _
        · have : m = i := by omega
          subst this
          exact List.mem_append_right _ (List.mem_singleton.mpr rfl)
      refine ⟨_, rfl, _, rfl, _, _, rfl, rfl, rfl, _, rfl, ite2 (fun hc => ?_) fun hc => ?_⟩
      · refine ⟨_, rfl, _, rfl, ifT rfl ⟨_, rfl, tyL hT4, _, rfl, ?_⟩⟩
        obtain ⟨p, us, v, e1, rfl, e3, e4, e5⟩ := push b4 a4 hL4 w4 hT4
        exact ⟨p, us, _, e1, rfl, e3, e4, e5, _, _, rfl⟩
      · have hne : m ≠ i := fun z => hc (decide_eq_true (by rw [z]; exact congrArg V.int (by omega)))
        refine ⟨_, rfl, true, rfl, false, rfl, ifF rfl ?_⟩
        refine ⟨_, rfl, false, rfl, ifF rfl ?_⟩
        refine ⟨_, rfl, a, l, 2, rfl, a4, by decide, by decide, fun d H5 d0 d1 b5 a5 => ⟨rfl, _, rfl, ite2 (fun h5 => ?_) fun h5 => ?_⟩⟩
        · have nL := nLa
          have hL5 := b5 _ _ hL4 nLa
          have hT5 := b5 _ _ hT4 nTa
          have tk5 : TK H4 H5 := by
            obtain ⟨ns, i, x, st, m, e1, _⟩ := a4
            exact b5.tkl e1
          refine ⟨_, rfl, tyL hT5, _, rfl, ?_⟩
          obtain ⟨p, us, v, e1, rfl, e3, e4, e5⟩ := push (b4.trans b5) a5 hL5 (w4.keep tk5) hT5
          exact ⟨p, us, _, e1, rfl, e3, e4, e5, _, _, rfl⟩
        · have hL5 := b5 _ _ hL4 nLa
          have hT5 := b5 _ _ hT4 nTa
          have tk5 : TK H4 H5 := by
            obtain ⟨ns, i, x, st, m, e1, _⟩ := a4
            exact b5.tkl e1
          exact ⟨⟨b4.trans b5, a5, hL5, w4.keep tk5, ms, hT5, p4, fun x hx => Nat.lt_succ_of_lt (lt4 x hx), by omega, fun z => by omega⟩, _, _, rfl⟩
    · rintro σ H4 ⟨⟨b4, a4, hL4, w4, ms, hT4, p4, lt4, l4, last4⟩, v5, v6, rfl⟩
      have h8 : ys.length ≤ 8 := by
        have := w4.len
        rw [List.length_map] at this
        omega
      refine ⟨_, rfl, tyL hL4, _, rfl, T, _, rfl, .inl ⟨sqL hT4, fun tp htp => ?_⟩⟩
      have s5 := same_new (o := .tup (ms.map iN)) htp
      have ht5 : upd H4 tp (.tup (ms.map iN)) tp = some (.tup (ms.map iN)) := upd_same
      generalize upd H4 tp (.tup (ms.map iN)) = H5 at s5 ht5
      have hL5 := s5 _ _ hL4
      have tk : TK H5 (upd H5 L (.lst (ys ++ [.ref tp]))) := fun b zs e => by rw [upd_ne (ne_of e hL5 (fun z => by cases z))]; exact e
      refine ⟨L, ys, .ref tp, rfl, rfl, hL5, len_line (by omega), ⟨(b4.trans (.of s5)).at hL, (a4.same s5).upd nLa nLl, _, pls ++ [ms], upd_same, ?_, by rw [List.length_append, l2]; rfl, fun j r hj => ?_⟩, _, _, _, _, rfl⟩
      · rw [List.map_append]
        exact ((w4.keep (TK.of s5)).keep tk).snoc ((td_way ht5).keep tk)
      · by_cases hjl : j < pls.length
        · rw [List.getElem?_append_left hjl] at hj
          exact g2 j r hj
        · have ej : j = pls.length := by
            have := (List.getElem?_eq_some_iff.mp hj).1
            rw [List.length_append, List.length_singleton] at this
            omega
          subst ej
          rw [List.getElem?_append_right (Nat.le_refl _), Nat.sub_self] at hj
          cases hj
          rw [l2]
          exact ⟨p4, lt4, last4 rfl, by omega⟩
  · rintro σ H2 ⟨⟨b2, a2, ys, pls, hL2, w2, l2, g2⟩, v3, v4, v5, v6, rfl⟩
    refine ⟨_, rfl, L, ys, rfl, .inl ⟨sqL hL2, fun tp htp => ?_⟩⟩
    have s3 := same_new (o := .tup ys) htp
    have s3' : But a H2 (upd H2 tp (.tup ys)) := But.of s3
    exact q tp _ pls (b2.trans s3') (a2.same s3) (goodPlan_of l2 g2) (.tup upd_same (w2.keep (TK.of s3)))
end
end Hc
end

section
set_option Elab.async false
set_option linter.all false
set_option maxRecDepth 100000
set_option maxHeartbeats 4000000
namespace Hc
open PySem PySem.Spec PyProof.Rows L2 HcR LamX
section
variable {P : Program} {w : World} {K : PySem.W.Frag} {mg : Str → Option Value} {base : Heap}

theorem HandAt.lst {H : Hp} {a l : Addr} (h : HandAt H a l) : (∃ xs, H a = some (.lst xs)) ∧ ∃ zs, H l = some (.lst zs) := by
  obtain ⟨ns, i, x, st, m, e1, e2, _⟩ := h
  exact ⟨⟨_, e1⟩, _, e2⟩
theorem HandAt.tk {H H' : Hp} {a l : Addr} (h : HandAt H a l) (b : But a H H') : TK H H' := by
  obtain ⟨⟨xs, e⟩, _⟩ := h.lst
  exact b.tkl e
/-- fresh behind a step: fresh before -/
theorem But.free {a T : Addr} {H H' : Hp} (b : But a H H') {l : Addr} (h : HandAt H' a l) (hT : H' T = none) : H T = none := by
  cases z : H T with
  | none => rfl
  | some o =>
    by_cases e : T = a
    · subst e
      obtain ⟨⟨xs, e1⟩, _⟩ := h.lst
      rw [hT] at e1; cases e1
    · have := b T o z e
      rw [hT] at this; cases this
abbrev DRow := Letter × List Int
def dRow (r : DRow) : PyData := .tuple [dLet r.1, dInts r.2]
/-- a letter of one road, passed as it comes -/
def Short (r : DRow) : Prop := (r.1.1 = [0] ∨ r.1.1 = [1]) ∧ 1 ≤ r.1.2 ∧ r.1.2 ≤ 7 ∧ r.2 = [r.1.2]
def spShorts : Sp := fun vs H Q _ => ∃ (a l : Addr), vs = [.ref a] ∧ HandAt H a l ∧ ∀ p H' xs (rows : List DRow), But a H H' → HandAt H' a l → H p = none → H' p = some (.lst xs) → TdAll H' xs (rows.map dRow) → (∀ r ∈ rows, Short r) → rows.length ≤ 4 → Q (.ref p) H'
theorem ok_shorts (ev : Ev mg) (D : Def K mg "_law_shorts" s_law_shorts) (h1 : Has P w K mg base CX0 1 "_law_draw" ["_law_hand_here", "_law_many"] spDraw) : Has P w K mg base CX0 2 "_law_shorts" ["_law_hand_here"] spShorts := by
  refine .of D (fun _ _ _ _ _ _ us hl => match us, hl with | [_], _ => rfl) fun f fd F => F.ok sc_law_shorts (fun vs H Q E ⟨a, l, e, _⟩ => by rw [e]; rfl) fun cdv A outer s H vs Q E hr ⟨a, l, e, ha, q⟩ => ?_
  subst e
  refine ⟨_, (PSs.nox (pss_cons (ps_set (i := 1) sc_law_shorts.nd rfl (.inl rfl) (pe_lst pa_nil)) (pss_cons (ps_for PassesOwn.never rfl (pi_range1 rfl ev.range (pa_cons (pe_has h1 hr (by rfl) (pa_cons (pv 0) (pa_cons pe_int pa_nil))) pa_nil)) (pg_name (i := 2) sc_law_shorts.nd rfl (.inl rfl)) (pss_cons (ps_set (i := 3) sc_law_shorts.nd rfl (.inl rfl) (pe_op op_add pe_int (pe_has h1 hr (by rfl) (pa_cons (pv 0) (pa_cons pe_int pa_nil))))) (pss_cons (ps_set (i := 4) sc_law_shorts.nd rfl (.inl rfl) (pe_tup (pa_cons (pe_ix (ixL (K := K) rfl) (pe_lst (pa_cons pe_int (pa_cons pe_int (pa_cons pe_int pa_nil)))) (pe_has h1 hr (by rfl) (pa_cons (pv 0) (pa_cons pe_int pa_nil))) (fun _ _ => rfl)) pa_nil))) (pss_one (ps_expr (pe_bm PySem.F.plainAttrs_list PySem.F.slot_list_append PySem.F.type_list_append mt_append (pv 1) (pa_cons (pe_tup (pa_cons (pe_tup (pa_cons (pv 4) (pa_cons (pv 3) pa_nil))) (pa_cons (pe_tup (pa_cons (pv 3) pa_nil)) pa_nil))) pa_nil))))))) (pss_one (ps_ret (pv 1)))))), ?_⟩
  obtain ⟨⟨axs, hA⟩, lxs, hLl⟩ := ha.lst
  refine ⟨by show 0 ≤ sizeLine; exact Nat.zero_le _, fun L hL => ?_⟩
  have hL0 : H L = none := hL
  have nLa : L ≠ a := Ne.symm (ne_of_none hA hL0)
  have nLl : L ≠ l := Ne.symm (ne_of_none hLl hL0)
  have b1 : But a H (upd H L (.lst [])) := (But.refl a H).at hL
  have a1 : HandAt (upd H L (.lst [])) a l := ha.upd nLa nLl
  have hL1 : upd H L (.lst []) L = some (.lst []) := upd_same
  generalize upd H L (.lst []) = H1 at b1 a1 hL1
  refine ⟨_, rfl, a, l, 5, rfl, a1, by decide, by decide, fun d H2 d0 d5 b2 a2 => ⟨d, rfl, by omega, by omega, for_range (lo := 0) (n := d.toNat) (fun i σ H' => (But a H H' ∧ HandAt H' a l ∧ ∃ xs rows, H' L = some (.lst xs) ∧ TdAll H' xs (rows.map dRow) ∧ (∀ r ∈ rows, Short r) ∧ rows.length = i) ∧ ∃ v2 v3 v4, σ = [some (.ref a), some (.ref L), v2, v3, v4]) ⟨⟨b1.trans b2, a2, [], [], b2 _ _ hL1 nLa, .nil, (fun _ z => nomatch z), rfl⟩, _, _, _, rfl⟩ ?_ ?_⟩⟩
  · rintro i σ H3 hi ⟨⟨b3, a3, xs, rows, hL3, w3, g3, l3⟩, v2, v3, v4, rfl⟩
    refine ⟨_, rfl, a, l, 7, rfl, a3, by decide, by decide, fun e H4 e0 e7 b4 a4 => ⟨_, _, rfl, rfl, ?_⟩⟩
    refine ⟨by show 3 ≤ sizeLine; decide, fun z hz => ?_⟩
    have s5 := same_new (o := .lst [.int 0, .int 0, .int 1]) hz
    have hz5 : upd H4 z (.lst [.int 0, .int 0, .int 1]) z = some (.lst [.int 0, .int 0, .int 1]) := upd_same
    generalize upd H4 z (.lst [.int 0, .int 0, .int 1]) = H5 at s5 hz5
    refine ⟨_, rfl, a, l, 3, rfl, a4.same s5, by decide, by decide, fun g H6 g0 g3' b6 a6 => ?_⟩
    have nza : z ≠ a := fun e => by
      subst e
      obtain ⟨⟨xs, e1⟩, _⟩ := a4.lst
      rw [hz] at e1; cases e1
    have hz6 := b6 _ _ hz5 nza
    have b36 : But a H3 H6 := (b4.trans (.of s5)).trans b6
    have tk36 : TK H3 H6 := a3.tk b36
    have hL6 := b36 _ _ hL3 nLa
    have hg : ∃ r : Nat, atI [V.int 0, .int 0, .int 1] g = some (.int (r : Int)) ∧ (r = 0 ∨ r = 1) := by
      have : g = 0 ∨ g = 1 ∨ g = 2 := by omega
      rcases this with rfl | rfl | rfl
      · exact ⟨0, rfl, .inl rfl⟩
      · exact ⟨0, rfl, .inl rfl⟩
      · exact ⟨1, rfl, .inr rfl⟩
    obtain ⟨r, hgr, hr01⟩ := hg
    refine ⟨z, _, g, .int (r : Int), rfl, rfl, sqL hz6, hgr, by show 1 ≤ sizeLine; decide, fun t1 ht1 => ?_⟩
    have s7 := same_new (o := .tup [V.int (r : Int)]) ht1
    have ht7 : upd H6 t1 (.tup [V.int (r : Int)]) t1 = some (.tup [V.int (r : Int)]) := upd_same
    generalize upd H6 t1 (.tup [V.int (r : Int)]) = H7 at s7 ht7
    refine ⟨_, rfl, tyL (s7 _ _ hL6), _, rfl, _, rfl, by show 2 ≤ sizeLine; decide, fun t2 ht2 => ?_⟩
    have s8 := same_new (o := .tup [.ref t1, .int (1 + e)]) ht2
    have ht8 : upd H7 t2 (.tup [.ref t1, .int (1 + e)]) t2 = some (.tup [.ref t1, .int (1 + e)]) := upd_same
    generalize upd H7 t2 (.tup [.ref t1, .int (1 + e)]) = H8 at s8 ht8
    refine ⟨_, rfl, by show 1 ≤ sizeLine; decide, fun t3 ht3 => ?_⟩
    have s9 := same_new (o := .tup [V.int (1 + e)]) ht3
    have ht9 : upd H8 t3 (.tup [V.int (1 + e)]) t3 = some (.tup [V.int (1 + e)]) := upd_same
    generalize upd H8 t3 (.tup [V.int (1 + e)]) = H9 at s9 ht9
    refine ⟨by show 2 ≤ sizeLine; decide, fun t4 ht4 => ?_⟩
    have s10 := same_new (o := .tup [.ref t2, .ref t3]) ht4
    have ht10 : upd H9 t4 (.tup [.ref t2, .ref t3]) t4 = some (.tup [.ref t2, .ref t3]) := upd_same
    generalize upd H9 t4 (.tup [.ref t2, .ref t3]) = H10 at s10 ht10
    have s610 := ((s7.trans s8).trans s9).trans s10
    have hL10 := s610 _ _ hL6
    have tk : TK H10 (upd H10 L (.lst (xs ++ [.ref t4]))) := fun b zs e => by rw [upd_ne (ne_of e hL10 (fun z => by cases z))]; exact e
    have xl : xs.length = rows.length := by rw [w3.len, List.length_map]
    have trow : Td H10 (.ref t4) (dRow (([r], 1 + e), [1 + e])) := .tup ht10 (.cons (.tup (s10 _ _ (s9 _ _ ht8)) (.cons (td_way (l := [r]) (s10 _ _ (s9 _ _ (s8 _ _ ht7)))) (.cons (.int _) .nil))) (.cons (td_ints (ns := [1 + e]) (s10 _ _ ht9)) .nil))
    refine ⟨L, xs, .ref t4, rfl, rfl, hL10, len_line (by omega), ⟨((b3.trans b36).trans (.of s610)).at hL0, (a6.same s610).upd nLa nLl, _, rows ++ [(([r], 1 + e), [1 + e])], upd_same, ?_, fun q hq => ?_, by rw [List.length_append, l3]; rfl⟩, _, _, _, rfl⟩
    · rw [List.map_append]
      exact (((w3.keep tk36).keep (TK.of s610)).keep tk).snoc (trow.keep tk)
    · rcases List.mem_append.mp hq with hq | hq
      · exact g3 q hq
      · rw [List.mem_singleton.mp hq]
        refine ⟨?_, by show 1 ≤ 1 + e; omega, by show 1 + e ≤ 7; omega, rfl⟩
        rcases hr01 with rfl | rfl
        · exact .inl rfl
        · exact .inr rfl
  · rintro σ H3 ⟨⟨b3, a3, xs, rows, hL3, w3, g3, l3⟩, v2, v3, v4, rfl⟩
    exact ⟨_, rfl, q L H3 xs rows b3 a3 hL0 hL3 w3 g3 (by omega)⟩
def spLong : Sp := fun vs H Q _ => ∃ (a l wp tp : Addr) (W : WD) (r0 r1 r2 : Nat) (home : Int), vs = [.ref a, .ref wp, .ref tp, .int home] ∧ HandAt H a l ∧ H wp = some (.tup [iN r0, iN r1, iN r2]) ∧ r0 < 5 ∧ r1 < 5 ∧ H tp = some (.tup (W.tm.map fun n : Nat => V.int (n : Int))) ∧
  ∀ p H' f g, But a H H' → HandAt H' a l → Td H' (.ref p) (dRow (([r0, r1, r2], 1), [f, g, home])) → Q (.ref p) H'
theorem ok_long (ev : Ev mg) (D : Def K mg "_law_long" s_law_long) (h1 : Has P w K mg base CX0 1 "_law_draw" ["_law_hand_here", "_law_many"] spDraw) : Has P w K mg base CX0 2 "_law_long" ["_law_hand_here", "_law_way", "_law_times", "_law_home"] spLong := by
  refine .of D (fun _ _ _ _ _ _ us hl => match us, hl with | [_, _, _, _], _ => rfl) fun f fd F => F.ok sc_law_long (fun vs H Q E ⟨a, l, wp, tp, W, r0, r1, r2, home, e, _⟩ => by rw [e]; rfl) fun cdv A outer s H vs Q E hr ⟨a, l, wp, tp, W, r0, r1, r2, home, e, ha, hw, h50, h51, ht, q⟩ => ?_
  subst e
  refine ⟨_, (PSs.nox (pss_cons (ps_set (i := 4) sc_law_long.nd rfl (.inl rfl) (pe_op op_add pe_int (pe_has h1 hr (by rfl) (pa_cons (pv 0) (pa_cons pe_int pa_nil))))) (pss_cons (ps_set (i := 5) sc_law_long.nd rfl (.inl rfl) (pe_op op_add (pe_op op_add (pv 4) (pe_ix (ixT (K := K) rfl) (pv 2) (pe_ix (ixT (K := K) rfl) (pv 1) pe_int (fun _ _ => rfl)) (fun _ _ => rfl))) (pe_has h1 hr (by rfl) (pa_cons (pv 0) (pa_cons pe_int pa_nil))))) (pss_one (ps_ret (pe_tup (pa_cons (pe_tup (pa_cons (pv 1) (pa_cons pe_int pa_nil))) (pa_cons (pe_tup (pa_cons (pv 4) (pa_cons (pe_callB ((call_min2 rfl)) (by rfl) ev.min (by decide +kernel) (pa_cons (pv 5) (pa_cons (pe_op op_sub (pv 3) (pe_ix (ixT (K := K) rfl) (pv 2) (pe_ix (ixT (K := K) rfl) (pv 1) pe_int (fun _ _ => rfl)) (fun _ _ => rfl))) pa_nil))) (pa_cons (pv 3) pa_nil)))) pa_nil)))))))), ?_⟩
  refine ⟨_, rfl, a, l, 4, rfl, ha, by decide, by decide, fun d H1 d0 d4 b1 a1 => ⟨_, _, rfl, rfl, ?_⟩⟩
  have k1 := ha.tk b1
  refine ⟨_, rfl, _, rfl, _, rfl, wp, _, 0, iN r0, rfl, rfl, sqT (k1 _ _ hw), atI_nat (j := 0) rfl, tp, _, _, .int (W.T r0), rfl, rfl, sqT (k1 _ _ ht), atI_nat (W.T_get h50), _, _, rfl, rfl, _, rfl, a, l, 4, rfl, a1, by decide, by decide, fun e H2 e0 e4 b2 a2 => ⟨_, _, rfl, rfl, ?_⟩⟩
  have b12 := b1.trans b2
  have k2 := ha.tk b12
  refine ⟨_, rfl, by show 2 ≤ sizeLine; decide, fun t1 ht1 => ?_⟩
  have s3 := same_new (o := .tup [.ref wp, .int 1]) ht1
  have ht3 : upd H2 t1 (.tup [.ref wp, .int 1]) t1 = some (.tup [.ref wp, .int 1]) := upd_same
  generalize upd H2 t1 (.tup [.ref wp, .int 1]) = H3 at s3 ht3
  refine ⟨_, rfl, _, rfl, _, rfl, _, rfl, _, rfl, wp, _, 1, iN r1, rfl, rfl, sqT (s3 _ _ (k2 _ _ hw)), atI_nat (j := 1) rfl, tp, _, _, .int (W.T r1), rfl, rfl, sqT (s3 _ _ (k2 _ _ ht)), atI_nat (W.T_get h51), _, _, rfl, rfl, _, _, rfl, _, rfl, by show 3 ≤ sizeLine; decide, fun t2 ht2 => ?_⟩
  have s4 := same_new (o := .tup [V.int (1 + d), V.int (if home - W.T r1 < 1 + d + W.T r0 + e then home - W.T r1 else 1 + d + W.T r0 + e), .int home]) ht2
  have ht4 : upd H3 t2 (.tup [V.int (1 + d), V.int (if home - W.T r1 < 1 + d + W.T r0 + e then home - W.T r1 else 1 + d + W.T r0 + e), .int home]) t2 = some (.tup [V.int (1 + d), V.int (if home - W.T r1 < 1 + d + W.T r0 + e then home - W.T r1 else 1 + d + W.T r0 + e), .int home]) := upd_same
  refine ⟨by show 2 ≤ sizeLine; decide, fun t3 ht5 => ?_⟩
  have s5 := same_new (o := .tup [.ref t1, .ref t2]) ht5
  refine q t3 _ (1 + d) (if home - W.T r1 < 1 + d + W.T r0 + e then home - W.T r1 else 1 + d + W.T r0 + e) (((b12.trans (.of s3)).trans (.of s4)).trans (.of s5)) (((a2.same s3).same s4).same s5) (.tup upd_same (.cons (.tup (s5 _ _ (s4 _ _ ht3)) (.cons (td_way (l := [r0, r1, r2]) (s5 _ _ (s4 _ _ (s3 _ _ (k2 _ _ hw))))) (.cons (.int 1) .nil))) (.cons (td_ints (ns := [1 + d, _, home]) (s5 _ _ ht4)) .nil)))
end
end Hc
end

section
set_option Elab.async false
set_option linter.all false
set_option maxRecDepth 100000
set_option maxHeartbeats 4000000
namespace Hc
open PySem PySem.Spec PyProof.Rows L2 HcR LamX
section
variable {P : Program} {w : World} {K : PySem.W.Frag} {mg : Str → Option Value} {base : Heap}

variable {CW CD CS CP CB : Addr}
def rowsL (rows : List DRow) : List Letter := rows.map (·.1)
def rowsR (rows : List DRow) : List (List Int) := rows.map (·.2)
def GoodRows (rows : List DRow) : Prop := ∀ r ∈ rows, GoodL r.1 ∧ r.2.length = r.1.1.length
theorem GoodRows.fits {rows : List DRow} (g : GoodRows rows) : Fits (rowsL rows) (rowsR rows) := by
  refine ⟨by unfold rowsL rowsR; rw [List.length_map, List.length_map], fun i l r hl hr => ?_⟩
  unfold rowsL at hl
  unfold rowsR at hr
  rw [List.getElem?_map] at hl hr
  obtain ⟨x, hx, rfl⟩ := Option.map_eq_some_iff.mp hl
  rw [hx] at hr
  cases hr
  exact (g x (List.mem_of_getElem? hx)).2
theorem GoodRows.letters {rows : List DRow} (g : GoodRows rows) : ∀ l ∈ rowsL rows, GoodL l := fun l hl => by
  obtain ⟨x, hx, rfl⟩ := List.mem_map.mp hl
  exact (g x hx).1
def spMade (CW CD : Addr) : Sp := fun vs H Q _ => ∃ (wa rp : Addr) (W : WD) (xs : List V) (rows : List DRow), vs = [.ref wa, .ref rp] ∧ WebAt CW H wa W ∧ H rp = some (.lst xs) ∧ TdAll H xs (rows.map dRow) ∧ GoodRows rows ∧ rows.length ≤ 20 ∧
  (∀ H', Same H H' → Q .non H') ∧ ∀ p H', Same H H' → DayAt CD H' p wa (rowsL rows) (rowsR rows) → Q (.ref p) H'
theorem ok_made {f0 : Addr} {g0 : FuncData} (ev : Ev mg) (c : Cla K mg CW CD CS CP) (gB : mg "BadDay" = some (.ref CB)) (eB : PySem.W.exmOne K (.ref CB) (.ref CB) = some true) (D : Def K mg "_law_made" s_law_made) (M : Mk K CD f0) (F0 : FnOk P w K mg base (L2.CX P w) 7 f0 g0 ["self", "web", "letters", "hours"] (spDayInit CW CD CB)) (b0 : L2.Binds K g0 ["self", "web", "letters", "hours"] []) :
    Has P w K mg base CX0 9 "_law_made" ["_law_web", "_law_rows"] (spMade CW CD) := by
  refine .of D (fun _ _ _ _ _ _ us hl => match us, hl with | [_, _], _ => rfl) fun f fd F => F.ok sc_law_made (fun vs H Q E ⟨wa, rp, W, xs, rows, e, _⟩ => by rw [e]; rfl) fun cdv A outer s H vs Q E hr ⟨wa, rp, W, xs, rows, e, hW, hrp, hxs, hg, l20, q1, q2⟩ => ?_
  subst e
  refine ⟨_, (pss_cons (ps_set (i := 2) sc_law_made.nd rfl (.inl rfl) pe_non) (pss_cons (ps_try_only rfl rfl ⟨rfl, by decide, .inl gB⟩ L2.takes0 (fun W pn xe tk _ => (pss_one (ps_set (i := 2) sc_law_made.nd rfl (.inl rfl) (pe_makeS M F0 hr (by rfl) c.gD b0 (fun σ => passAt tk σ) (pa_cons (pv 0) (pa_cons (pe_callTy ((tupOf (K := K) rfl)) (by rfl) ev.tuple (by decide +kernel) (pa_cons (pe_lc (own := [("_law_row", 3)]) rfl sc_law_made.nd (pi_listK (K := K) rfl (pv 1)) (blkOk_by (own := [("_law_row", 3)]) (N := sc_law_made_N) (sc := sc_law_made_S) (by decide +kernel)) (fun _ _ _ _ _ => (pg_name (i := 3) sc_law_made.nd rfl (.inl rfl))) (fun _ _ _ _ _ => pts_nil) (fun _ _ _ _ _ => (pe_ix (ixT (K := K) rfl) (pv 3) pe_int (fun _ _ => rfl)))) pa_nil)) (pa_cons (pe_callTy ((tupOf (K := K) rfl)) (by rfl) ev.tuple (by decide +kernel) (pa_cons (pe_lc (own := [("_law_row", 3)]) rfl sc_law_made.nd (pi_listK (K := K) rfl (pv 1)) (blkOk_by (own := [("_law_row", 3)]) (N := sc_law_made_N) (sc := sc_law_made_S) (by decide +kernel)) (fun _ _ _ _ _ => (pg_name (i := 3) sc_law_made.nd rfl (.inl rfl))) (fun _ _ _ _ _ => pts_nil) (fun _ _ _ _ _ => (pe_ix (ixT (K := K) rfl) (pv 3) pe_int (fun _ _ => rfl)))) pa_nil)) pa_nil))))))) (fun a oe cls d pn _ _ => (pss_one (ps_set (i := 2) sc_law_made.nd rfl (.inl rfl) pe_non)))) (pss_one (ps_ret (pv 2))))), ?_⟩
  have hrow : ∀ {H' : Hp} {j : Nat} {y : V} {r : DRow}, TK H H' → xs[j]? = some y → rows[j]? = some r → ∃ (t : Addr) (v0 v1 : V), y = .ref t ∧ H' t = some (.tup [v0, v1]) ∧ Td H' v0 (dLet r.1) ∧ Td H' v1 (dInts r.2) := fun {H' j y r} k hy hr => by
    obtain ⟨r', hr', tr⟩ := hxs.map_got hy
    rw [hr] at hr'
    cases hr'
    obtain ⟨t, zs, e, hz, hall⟩ := (tr.keep k).tuple
    cases hall with
    | cons t1 hall => cases hall with
      | cons t2 hall =>
        cases hall
        exact ⟨t, _, _, e, hz, t1, t2⟩
  have xl : xs.length = rows.length := by rw [hxs.len, List.length_map]
  refine ⟨_, rfl, _, rfl, rp, rfl, ⟨_, sqL hrp⟩, fun D1 hD1 => lc_list (xs := xs) (fun i H' => Same H H' ∧ ∃ ws, H' D1 = some (.lst ws) ∧ TdAll H' ws (((rowsL rows).take i).map dLet)) ⟨same_new hD1, [], upd_same, .nil⟩ (fun i H' _ h => sqL (h.1 _ _ hrp)) (fun j y H' hy ⟨s1, ws, e1, w1⟩ => ?_) fun H1 ⟨s1, ws, e1, w1⟩ => ?_⟩
  · have hj : j < rows.length := by rw [← xl]; exact (List.getElem?_eq_some_iff.mp hy).1
    obtain ⟨t, v0, v1, rfl, ht, t0, t1⟩ := hrow (TK.of s1) hy (List.getElem?_eq_getElem hj)
    have wl : ws.length ≤ 20 := by
      have := w1.len
      rw [List.length_map, List.length_take] at this
      omega
    have tk : TK H' (upd H' D1 (.lst (ws ++ [v0]))) := fun b zs e => by rw [upd_ne (ne_of e e1 (fun z => by cases z))]; exact e
    refine ⟨rfl, _, rfl, t, _, 0, v0, rfl, rfl, sqT ht, atI_nat (j := 0) rfl, ws, e1, len_line (by omega), same_at s1 hD1 e1, _, upd_same, ?_⟩
    rw [take_snoc (x := rows[j].1) (by unfold rowsL; rw [List.getElem?_map, List.getElem?_eq_getElem hj]; rfl), List.map_append]
    exact (w1.keep tk).snoc (t0.keep tk)
  · rw [List.take_of_length_le (by unfold rowsL; rw [List.length_map]; omega)] at w1
    refine ⟨D1, ws, rfl, .inl ⟨sqL e1, fun p1 hp1 => ?_⟩⟩
    have s2 := same_new (o := .tup ws) hp1
    have hp1' : upd H1 p1 (.tup ws) p1 = some (.tup ws) := upd_same
    have w2 := w1.keep (TK.of s2)
    generalize upd H1 p1 (.tup ws) = H2 at s2 hp1' w2
    have s12 := s1.trans s2
    refine ⟨_, rfl, rp, rfl, ⟨_, sqL (s12 _ _ hrp)⟩, fun D2 hD2 => lc_list (xs := xs) (fun i H' => Same H2 H' ∧ ∃ us, H' D2 = some (.lst us) ∧ TdAll H' us (((rowsR rows).take i).map dInts)) ⟨same_new hD2, [], upd_same, .nil⟩ (fun i H' _ h => sqL (h.1 _ _ (s12 _ _ hrp))) (fun j y H' hy ⟨s3, us, e3, w3⟩ => ?_) fun H3 ⟨s3, us, e3, w3⟩ => ?_⟩
    · have hj : j < rows.length := by rw [← xl]; exact (List.getElem?_eq_some_iff.mp hy).1
      obtain ⟨t, v0, v1, rfl, ht, t0, t1⟩ := hrow (TK.of (s12.trans s3)) hy (List.getElem?_eq_getElem hj)
      have wl : us.length ≤ 20 := by
        have := w3.len
        rw [List.length_map, List.length_take] at this
        omega
      have tk : TK H' (upd H' D2 (.lst (us ++ [v1]))) := fun b zs e => by rw [upd_ne (ne_of e e3 (fun z => by cases z))]; exact e
      refine ⟨rfl, _, rfl, t, _, 1, v1, rfl, rfl, sqT ht, atI_nat (j := 1) rfl, us, e3, len_line (by omega), same_at s3 hD2 e3, _, upd_same, ?_⟩
      rw [take_snoc (x := rows[j].2) (by unfold rowsR; rw [List.getElem?_map, List.getElem?_eq_getElem hj]; rfl), List.map_append]
      exact (w3.keep tk).snoc (t1.keep tk)
    · rw [List.take_of_length_le (by unfold rowsR; rw [List.length_map]; omega)] at w3
      refine ⟨D2, us, rfl, .inl ⟨sqL e3, fun p2 hp2 => ?_⟩⟩
      have s4 := same_new (o := .tup us) hp2
      have hp2' : upd H3 p2 (.tup us) p2 = some (.tup us) := upd_same
      have w4 := w3.keep (TK.of s4)
      generalize upd H3 p2 (.tup us) = H4 at s4 hp2' w4
      have s34 := s3.trans s4
      have s04 := s12.trans s34
      refine fun x dx hx hdx hne => ?_
      have s5 : Same H4 (upd (upd H4 dx (.own x)) x (.ins CD dx [])) := fun b o e => by
        rw [upd_ne (ne_of_none e hx), upd_ne (ne_of_none e hdx)]; exact e
      have h5 : upd (upd H4 dx (.own x)) x (.ins CD dx []) x = some (.ins CD dx []) := upd_same
      generalize upd (upd H4 dx (.own x)) x (.ins CD dx []) = H5 at s5 h5 ⊢
      refine ⟨x, dx, wa, W, .ref p1, .ref p2, rowsL rows, rowsR rows, rfl, h5, hW.keep (IK.of (s04.trans s5)), .tup (s5 _ _ (s34 _ _ hp1')) ((w2.keep (TK.of s34)).keep (TK.of s5)), .tup (s5 _ _ hp2') (w4.keep (TK.of s5)), hg.fits, hg.letters, by unfold rowsL; rw [List.length_map]; omega, fun H6 b6 d6 => ?_, fun d H6 s6 => ?_⟩
      · refine ⟨rfl, _, rfl, q2 x H6 (fun b o e => ?_) d6⟩
        have e4 := s04 _ _ e
        exact b6 _ _ (s5 _ _ e4) (ne_of_none e4 hx)
      · exact ⟨true, eB, fun _ z hz => ⟨_, rfl, q1 H6 ((s04.trans s5).trans s6)⟩, (fun z => nomatch z)⟩
end
end Hc
end

section
set_option Elab.async false
set_option linter.all false
set_option maxRecDepth 100000
set_option maxHeartbeats 4000000
namespace Hc
open PySem PySem.Spec PyProof.Rows L2 HcR LamX
section
variable {P : Program} {w : World} {K : PySem.W.Frag} {mg : Str → Option Value} {base : Heap}

variable {CW CD CS CP CB : Addr}
theorem HandAt.ik {H H' : Hp} {a l : Addr} (h : HandAt H a l) (b : But a H H') : IK H H' := by
  obtain ⟨⟨xs, e⟩, _⟩ := h.lst
  exact ⟨b.tkl e, fun c C dx fs e2 => b c _ e2 (ne_of e2 e (fun z => by cases z))⟩
/-- a day's drawn rows: two of three roads, some of one -/
def Drawn (rows : List DRow) : Prop := ∃ (f g f' g' h0 h1 : Int) (sh : List DRow), rows = [(([0, 1, 2], 1), [f, g, h0]), (([0, 3, 4], 1), [f', g', h1])] ++ sh ∧ (∀ r ∈ sh, Short r) ∧ sh.length ≤ 8 ∧ h0 ≤ 30 ∧ h1 ≤ 30
theorem goodL_abc : GoodL ([0, 1, 2], 1) := ⟨by decide, by decide, by decide⟩
theorem goodL_ade : GoodL ([0, 3, 4], 1) := ⟨by decide, by decide, by decide⟩
theorem goodL_one (n : Int) : GoodL ([0], n) := ⟨(by decide : ([0] : List Nat) ≠ []), (by decide : ([0] : List Nat).length ≤ 8), (by decide : ∀ r ∈ ([0] : List Nat), r < 5)⟩
theorem goodL_two (n : Int) : GoodL ([1], n) := ⟨(by decide : ([1] : List Nat) ≠ []), (by decide : ([1] : List Nat).length ≤ 8), (by decide : ∀ r ∈ ([1] : List Nat), r < 5)⟩
theorem Drawn.good {rows : List DRow} (d : Drawn rows) : GoodRows rows := by
  obtain ⟨f, g, f', g', h0, h1, sh, rfl, hs, _⟩ := d
  intro r hr
  rcases List.mem_append.mp hr with hr | hr
  · have hr : r = (([0, 1, 2], 1), [f, g, h0]) ∨ r = (([0, 3, 4], 1), [f', g', h1]) := by simpa using hr
    rcases hr with rfl | rfl
    · exact ⟨goodL_abc, rfl⟩
    · exact ⟨goodL_ade, rfl⟩
  · obtain ⟨⟨w, n⟩, q⟩ := r
    obtain ⟨h1, h2, h3, h4⟩ := hs _ hr
    replace h1 : w = [0] ∨ w = [1] := h1
    replace h4 : q = [n] := h4
    subst h4
    rcases h1 with rfl | rfl
    · exact ⟨goodL_one n, rfl⟩
    · exact ⟨goodL_two n, rfl⟩
theorem Drawn.len {rows : List DRow} (d : Drawn rows) : rows.length ≤ 10 := by
  obtain ⟨f, g, f', g', h0, h1, sh, rfl, hs, hl, _⟩ := d
  rw [List.length_append]
  show 2 + sh.length ≤ 10
  omega
/-- a drawn day, or None -/
def DayV (CD : Addr) (H : Hp) (v : V) (wa : Addr) : Prop := v = .non ∨ ∃ d rows, v = .ref d ∧ DayAt CD H d wa (rowsL rows) (rowsR rows) ∧ Drawn rows
theorem DayV.keep {H H' : Hp} {v : V} {wa : Addr} (h : DayV CD H v wa) (k : IK H H') : DayV CD H' v wa := h.elim .inl fun ⟨d, rows, e, h, g⟩ => .inr ⟨d, rows, e, h.keep k, g⟩
def spDays (CW CD : Addr) : Sp := fun vs H Q _ => ∃ (a l wa tp : Addr) (W : WD) (late : Int), vs = [.ref a, .ref wa, .ref tp, .int late] ∧ HandAt H a l ∧ WebAt CW H wa W ∧ H tp = some (.tup (W.tm.map fun n : Nat => V.int (n : Int))) ∧
  ∀ p v0 v1 H', But a H H' → HandAt H' a l → H' p = some (.lst [v0, v1]) → DayV CD H' v0 wa → DayV CD H' v1 wa → Q (.ref p) H'
theorem ok_days (ev : Ev mg) (D : Def K mg "_law_days" s_law_days) (h1 : Has P w K mg base CX0 1 "_law_draw" ["_law_hand_here", "_law_many"] spDraw) (h2 : Has P w K mg base CX0 2 "_law_shorts" ["_law_hand_here"] spShorts) (h3 : Has P w K mg base CX0 2 "_law_long" ["_law_hand_here", "_law_way", "_law_times", "_law_home"] spLong)
    (h4 : Has P w K mg base CX0 9 "_law_made" ["_law_web", "_law_rows"] (spMade CW CD)) : Has P w K mg base CX0 10 "_law_days" ["_law_hand_here", "_law_web", "_law_times", "_law_late"] (spDays CW CD) := by
  refine .of D (fun _ _ _ _ _ _ us hl => match us, hl with | [_, _, _, _], _ => rfl) fun f fd F => F.ok sc_law_days (fun vs H Q E ⟨a, l, wa, tp, W, late, e, _⟩ => by rw [e]; rfl) fun cdv A outer s H vs Q E hr ⟨a, l, wa, tp, W, late, e, ha, hW, ht, q⟩ => ?_
  subst e
  refine ⟨_, (PSs.nox (pss_cons (ps_set (i := 4) sc_law_days.nd rfl (.inl rfl) (pe_lst (pa_cons (pe_op op_add (pe_op op_add pe_int (pe_ix (ixT (K := K) rfl) (pv 2) pe_int (fun _ _ => rfl))) (pe_has h1 (hr.mono (by decide)) (by rfl) (pa_cons (pv 0) (pa_cons pe_int pa_nil)))) (pa_cons (pe_op op_add (pe_op op_add pe_int (pe_ix (ixT (K := K) rfl) (pv 2) pe_int (fun _ _ => rfl))) (pe_has h1 (hr.mono (by decide)) (by rfl) (pa_cons (pv 0) (pa_cons pe_int pa_nil)))) pa_nil)))) (pss_cons (ps_setLc (i := 5) (own := [("_law_row", 6)]) rfl sc_law_days.nd rfl rfl (sw_true rfl rfl rfl (by decide +kernel)) (pi_list (pe_has h2 (hr.mono (by decide)) (by rfl) (pa_cons (pv 0) pa_nil))) (blkOk_by (own := [("_law_row", 6)]) (N := sc_law_days_N) (sc := sc_law_days_S) (by decide +kernel)) (fun _ _ _ _ _ => (pg_name (i := 6) sc_law_days.nd rfl (.inl rfl))) (fun _ _ _ _ _ => (pts_one (pt_cmpR op_le (pe_ix (ixT (K := K) rfl) (pe_ix (ixT (K := K) rfl) (pv 6) pe_int (fun _ _ => rfl)) pe_int (fun _ _ => rfl)) (pv 3) (nomark _)))) (fun _ _ _ _ _ => (pv 6))) (pss_cons (ps_set (i := 7) sc_law_days.nd rfl (.inl rfl) (pe_lst pa_nil)) (pss_cons (ps_for PassesOwn.never rfl (pi_range1 rfl ev.range (pa_cons pe_int pa_nil)) (pg_name (i := 8) sc_law_days.nd rfl (.inl rfl)) (pss_cons (ps_set (i := 9) sc_law_days.nd rfl (.inl rfl) (pe_lst (pa_cons (pe_has h3 (hr.mono (by decide)) (by rfl) (pa_cons (pv 0) (pa_cons (pe_tup (pa_cons pe_int (pa_cons pe_int (pa_cons pe_int pa_nil)))) (pa_cons (pv 2) (pa_cons (pe_op op_add (pe_ix (ixL (K := K) rfl) (pv 4) pe_int (fun _ _ => rfl)) pe_int) pa_nil))))) (pa_cons (pe_has h3 (hr.mono (by decide)) (by rfl) (pa_cons (pv 0) (pa_cons (pe_tup (pa_cons pe_int (pa_cons pe_int (pa_cons pe_int pa_nil)))) (pa_cons (pv 2) (pa_cons (pe_op op_add (pe_ix (ixL (K := K) rfl) (pv 4) pe_int (fun _ _ => rfl)) pe_int) pa_nil))))) pa_nil)))) (pss_cons (ps_setLc (i := 10) (own := [("_law_row", 6)]) rfl sc_law_days.nd rfl rfl (sw_true rfl rfl rfl (by decide +kernel)) (pi_list (pe_has h2 (hr.mono (by decide)) (by rfl) (pa_cons (pv 0) pa_nil))) (blkOk_by (own := [("_law_row", 6)]) (N := sc_law_days_N) (sc := sc_law_days_S) (by decide +kernel)) (fun _ _ _ _ _ => (pg_name (i := 6) sc_law_days.nd rfl (.inl rfl))) (fun _ _ _ _ _ => (pts_one (PW.pt (pw_or (pt_cmpR op_gt (pe_ix (ixT (K := K) rfl) (pe_ix (ixT (K := K) rfl) (pv 6) pe_int (fun _ _ => rfl)) pe_int (fun _ _ => rfl)) (pv 3) (nomark _)) (pw_or1 (pt_cmpR op_eq (pe_has h1 (hr.mono (by decide)) (by rfl) (pa_cons (pv 0) (pa_cons pe_int pa_nil))) pe_int (nomark _))))))) (fun _ _ _ _ _ => (pv 6))) (pss_one (ps_expr (pe_bm PySem.F.plainAttrs_list PySem.F.slot_list_append PySem.F.type_list_append mt_append (pv 7) (pa_cons (pe_has h4 hr (by rfl) (pa_cons (pv 1) (pa_cons (pe_op op_cat (pe_op op_cat (pv 9) (pv 5)) (pv 10)) pa_nil))) pa_nil))))))) (pss_one (ps_ret (pv 7)))))))), ?_⟩
  have T0b := W.T1 0
  refine ⟨_, rfl, tp, _, 0, .int (W.T 0), rfl, rfl, sqT ht, atI_nat (W.T_get (by decide)), _, _, rfl, rfl, _, rfl, a, l, 5, rfl, ha, by decide, by decide, fun d H1 d0 d5 b1 a1 => ⟨_, _, rfl, rfl, ?_⟩⟩
  have k1 := ha.ik b1
  refine ⟨_, rfl, tp, _, 0, .int (W.T 0), rfl, rfl, sqT (k1.1 _ _ ht), atI_nat (W.T_get (by decide)), _, _, rfl, rfl, _, rfl, a, l, 5, rfl, a1, by decide, by decide, fun e H2 e0 e5 b2 a2 => ⟨_, _, rfl, rfl, by show 2 ≤ sizeLine; decide, fun hl hhl => ?_⟩⟩
  have b12 := b1.trans b2
  have s3 := same_new (o := .lst [V.int (3 + W.T 0 + d), .int (3 + W.T 0 + e)]) hhl
  have hl3 : upd H2 hl (.lst [V.int (3 + W.T 0 + d), .int (3 + W.T 0 + e)]) hl = some (.lst [V.int (3 + W.T 0 + d), .int (3 + W.T 0 + e)]) := upd_same
  have a3 := a2.same s3
  have b13 := b12.trans (.of (p := a) s3)
  have nhla : hl ≠ a := fun z => by
    subst z
    obtain ⟨⟨xs, e1⟩, _⟩ := a2.lst
    rw [hhl] at e1; cases e1
  refine ⟨_, rfl, a, l, rfl, a3, fun p4 H4 xs4 sh4 b4 a4 hp4n hp4 w4 g4 l4 => ?_⟩
  have np4a : p4 ≠ a := fun z => by
    subst z
    obtain ⟨⟨xs, e1⟩, _⟩ := a3.lst
    exact absurd (e1.symm.trans hp4n) (fun z => by cases z)
  have hl4 : H4 hl = some (.lst [V.int (3 + W.T 0 + d), .int (3 + W.T 0 + e)]) := b4 _ _ hl3 nhla
  have b14 : But a H H4 := b13.trans b4
  generalize hz0 : 3 + W.T 0 + d = z0 at hl4
  generalize hz1 : 3 + W.T 0 + e = z1 at hl4
  clear b4 hp4n b13 a3 hl3 s3
  refine ⟨p4, rfl, ⟨_, sqL hp4⟩, fun D5 hD5 => lc_list (xs := xs4) (fun i H' => Same H4 H' ∧ ∃ us rows, H' D5 = some (.lst us) ∧ TdAll H' us (rows.map dRow) ∧ (∀ r ∈ rows, Short r) ∧ rows.length ≤ i) ⟨same_new hD5, [], [], upd_same, .nil, (fun _ z => nomatch z), Nat.le_refl _⟩ (fun i H' _ h => sqL (h.1 _ _ hp4)) (fun j y H' hy ⟨s5, us, rows, e5, w5, g5, l5⟩ => ?_) fun H5 ⟨s5, us, rows, e5, w5, g5, l5⟩ => ?_⟩
  · obtain ⟨r, hr', tr⟩ := w4.map_got hy
    have tr' := tr.keep (TK.of s5)
    obtain ⟨t, zs, e, hz, hall⟩ := tr'.tuple
    cases hall with
    | cons t1 hall => cases hall with
      | cons t2 hall =>
        cases hall
        obtain ⟨c1, c2, rfl, hc1, hc2⟩ := td_let t1
        subst e
        have rl := (List.getElem?_eq_some_iff.mp hr').1
        have ul : us.length = rows.length := by rw [w5.len, List.length_map]
        have hjl : j < sh4.length := rl
        refine ⟨rfl, _, rfl, t, _, 0, .ref c1, rfl, rfl, sqT hz, atI_nat (j := 0) rfl, c1, _, 1, .int r.1.2, rfl, rfl, sqT hc1, atI_nat (j := 1) rfl, _, rfl, _, _, rfl, rfl, _, rfl, ite2 (fun hc => ?_) fun hc => ?_⟩
        · have tk : TK H' (upd H' D5 (.lst (us ++ [.ref t]))) := fun b zs e => by rw [upd_ne (ne_of e e5 (fun z => by cases z))]; exact e
          refine ⟨_, rfl, us, e5, len_line (by omega), same_at s5 hD5 e5, _, rows ++ [r], upd_same, ?_, fun q hq => ?_, by rw [List.length_append, List.length_singleton]; omega⟩
          · rw [List.map_append]
            exact (w5.keep tk).snoc (tr'.keep tk)
          · rcases List.mem_append.mp hq with hq | hq
            · exact g5 q hq
            · rw [List.mem_singleton.mp hq]; exact g4 r (List.mem_of_getElem? hr')
        · exact ⟨s5, us, rows, e5, w5, g5, by omega⟩
  · have b15 : But a H H5 := b14.trans (.of s5)
    have a5 := a4.same s5
    have hl5 := s5 _ _ hl4
    have rl4 : rows.length ≤ 4 := by
      have : xs4.length = sh4.length := by rw [w4.len, List.length_map]
      omega
    obtain ⟨⟨axs, hA⟩, lxs, hLl⟩ := ha.lst
    have nDa : D5 ≠ a := fun z => by
      subst z
      obtain ⟨⟨xs, e1⟩, _⟩ := a4.lst
      exact absurd (e1.symm.trans hD5) (fun z => by cases z)
    refine ⟨by show 0 ≤ sizeLine; exact Nat.zero_le _, fun L hL => ?_⟩
    have hL0 : H L = none := b15.free a5 hL
    have nLa : L ≠ a := Ne.symm (ne_of_none hA hL0)
    have nLl : L ≠ l := Ne.symm (ne_of_none hLl hL0)
    have nLD : L ≠ D5 := Ne.symm (ne_of_none e5 hL)
    have nLh : L ≠ hl := Ne.symm (ne_of_none hl5 hL)
    have tk5 : TK H5 (upd H5 L (.lst [])) := TK.of (same_new hL)
    have b16 : But a H (upd H5 L (.lst [])) := b15.at hL0
    have a6 : HandAt (upd H5 L (.lst [])) a l := a5.upd nLa nLl
    have hL6 : upd H5 L (.lst []) L = some (.lst []) := upd_same
    have hl6 : upd H5 L (.lst []) hl = some (.lst [.int z0, .int z1]) := by rw [upd_ne nLh.symm]; exact hl5
    have e6 : upd H5 L (.lst []) D5 = some (.lst us) := by rw [upd_ne nLD.symm]; exact e5
    have w6 := w5.keep tk5
    refine ⟨2, rfl, by decide, by decide, for_range (lo := 0) (n := 2) (fun i σ H' => (But a H H' ∧ HandAt H' a l ∧ H' hl = some (.lst [.int z0, .int z1]) ∧ H' D5 = some (.lst us) ∧ TdAll H' us (rows.map dRow) ∧ ∃ vs : List V, H' L = some (.lst vs) ∧ vs.length = i ∧ ∀ v ∈ vs, DayV CD H' v wa) ∧ ∃ v8 v9 v10, σ = [some (.ref a), some (.ref wa), some (.ref tp), some (.int late), some (.ref hl), some (.ref D5), none, some (.ref L), v8, v9, v10]) ⟨⟨b16, a6, hl6, e6, w6, [], hL6, rfl, (fun _ z => nomatch z)⟩, _, _, _, rfl⟩ ?_ ?_⟩
    · rintro i σ H7 hi ⟨⟨b7, a7, hl7, e7, w7, vs, hL7, vl, hvs⟩, v8, v9, v10, rfl⟩
      refine ⟨_, rfl, by show 3 ≤ sizeLine; decide, fun t1 ht1 => ⟨_, rfl, _, rfl, hl, _, 0, .int z0, rfl, rfl, sqL (same_new ht1 _ _ hl7), atI_nat (j := 0) rfl, _, _, rfl, rfl, a, l, t1, tp, W, 0, 1, 2, z0 + 2, rfl, a7.same (same_new ht1), upd_same, by decide, by decide, same_new ht1 _ _ ((ha.ik b7).1 _ _ ht), fun q1 H8 fa ga b8 a8 tr1 => ?_⟩⟩
      have b78 : But a H7 H8 := (But.of (same_new ht1)).trans b8
      have b08 := b7.trans b78
      have hhl : hl ≠ a := nhla
      refine ⟨_, rfl, by show 3 ≤ sizeLine; decide, fun t2 ht2 => ⟨_, rfl, _, rfl, hl, _, 1, .int z1, rfl, rfl, sqL (same_new ht2 _ _ (b78 _ _ hl7 hhl)), atI_nat (j := 1) rfl, _, _, rfl, rfl, a, l, t2, tp, W, 0, 3, 4, z1 + 1, rfl, a8.same (same_new ht2), upd_same, by decide, by decide, same_new ht2 _ _ ((ha.ik b08).1 _ _ ht), fun q2 H9 ff gg b9 a9 tr2 => ?_⟩⟩
      have b89 : But a H8 H9 := (But.of (same_new ht2)).trans b9
      have b79 := b78.trans b89
      have b09 := b08.trans b89
      refine ⟨by show 2 ≤ sizeLine; decide, fun R hR => ?_⟩
      have tr1' := tr1.keep (a8.tk b89)
      have nRa : R ≠ a := fun z => by
        subst z
        obtain ⟨⟨xs, e1⟩, _⟩ := a9.lst
        exact absurd (e1.symm.trans hR) (fun z => by cases z)
      refine ⟨_, rfl, a, l, rfl, a9.same (same_new hR), fun p11 H11 xs11 sh11 b11 a11 hpn hp11 w11 g11 l11 => ?_⟩
      have b911 : But a H9 H11 := (But.of (same_new hR)).trans b11
      have b711 := b79.trans b911
      have b011 := b09.trans b911
      have hR11 : H11 R = some (.lst [.ref q1, .ref q2]) := b11 _ _ upd_same nRa
      have tr1'' := tr1'.keep (a9.tk b911)
      have tr2'' := tr2.keep (a9.tk b911)
      have np11 : p11 ≠ a := fun z => by
        subst z
        obtain ⟨⟨xs, e1⟩, _⟩ := (a9.same (same_new (o := .lst [.ref q1, .ref q2]) hR)).lst
        exact absurd (e1.symm.trans hpn) (fun z => by cases z)
      obtain ⟨⟨bxs, hA11⟩, mxs, hL11⟩ := a11.lst
      refine ⟨p11, rfl, ⟨_, sqL hp11⟩, fun D12 hD12 => lc_list (xs := xs11) (fun i H' => (But a H11 H' ∧ HandAt H' a l) ∧ ∃ us' rows', H' D12 = some (.lst us') ∧ TdAll H' us' (rows'.map dRow) ∧ (∀ r ∈ rows', Short r) ∧ rows'.length ≤ i) ⟨⟨(But.refl a H11).at hD12, a11.upd (Ne.symm (ne_of_none hA11 hD12)) (Ne.symm (ne_of_none hL11 hD12))⟩, [], [], upd_same, .nil, (fun _ z => nomatch z), Nat.le_refl _⟩ (fun i H' _ h => sqL (h.1.1 _ _ hp11 np11)) (fun j y H' hy ⟨⟨bb, aa⟩, us', rows', e', w', g', l'⟩ => ?_) fun H12 ⟨⟨b12', a12⟩, us', rows', e', w', g', l'⟩ => ?_⟩
      · have nDa2 : D12 ≠ a := Ne.symm (ne_of_none hA11 hD12)
        have nDl2 : D12 ≠ l := Ne.symm (ne_of_none hL11 hD12)
        obtain ⟨r, hr', tr⟩ := w11.map_got hy
        have tr' := tr.keep (a11.tk bb)
        have hjl : j < sh11.length := (List.getElem?_eq_some_iff.mp hr').1
        have ul : us'.length = rows'.length := by rw [w'.len, List.length_map]
        have app : ∀ {X : Hp}, But a H' X → HandAt X a l → ∃ acc, X D12 = some (.lst acc) ∧ acc.length < sizeLine ∧ ((But a H11 (upd X D12 (.lst (acc ++ [y]))) ∧ HandAt (upd X D12 (.lst (acc ++ [y]))) a l) ∧ ∃ (us' : List V) (rows' : List DRow), upd X D12 (.lst (acc ++ [y])) D12 = some (.lst us') ∧ TdAll (upd X D12 (.lst (acc ++ [y]))) us' (rows'.map dRow) ∧ (∀ r ∈ rows', Short r) ∧ rows'.length ≤ j + 1) := fun {X} bx ax => by
          have ex := bx _ _ e' nDa2
          have tk : TK X (upd X D12 (.lst (us' ++ [y]))) := fun b zs e => by rw [upd_ne (ne_of e ex (fun z => by cases z))]; exact e
          refine ⟨us', ex, len_line (by omega), ⟨(bb.trans bx).at hD12, ax.upd nDa2 nDl2⟩, _, rows' ++ [r], upd_same, ?_, fun q hq => ?_, by rw [List.length_append, List.length_singleton]; omega⟩
          · rw [List.map_append]
            exact ((w'.keep (aa.tk bx)).keep tk).snoc ((tr'.keep (aa.tk bx)).keep tk)
          · rcases List.mem_append.mp hq with hq | hq
            · exact g' q hq
            · rw [List.mem_singleton.mp hq]; exact g11 r (List.mem_of_getElem? hr')
        obtain ⟨t, zs, e, hz, hall⟩ := tr'.tuple
        cases hall with
        | cons t1 hall => cases hall with
          | cons t2 hall =>
            cases hall
            obtain ⟨c1, c2, rfl, hc1, hc2⟩ := td_let t1
            subst e
            refine ⟨rfl, _, rfl, t, _, 0, .ref c1, rfl, rfl, sqT hz, atI_nat (j := 0) rfl, c1, _, 1, .int r.1.2, rfl, rfl, sqT hc1, atI_nat (j := 1) rfl, _, rfl, _, _, rfl, rfl, _, rfl, ite2 (fun hc => ⟨_, rfl, app (.refl _ _) aa⟩) fun hc => ?_⟩
            refine ⟨_, rfl, a, l, 9, rfl, aa, by decide, by decide, fun d2 H'' d20 d29 b'' a'' => ⟨rfl, _, rfl, ite2 (fun hc2 => ⟨_, rfl, app b'' a''⟩) fun hc2 => ?_⟩⟩
            exact ⟨⟨bb.trans b'', a''⟩, us', rows', b'' _ _ e' nDa2, w'.keep (aa.tk b''), g', by omega⟩
      · have b712 := b711.trans b12'
        have b012 := b011.trans b12'
        have hL12 := b712 _ _ hL7 nLa
        have hl12 := b712 _ _ hl7 hhl
        have e12 := b712 _ _ e7 nDa
        have w12 := w7.keep (a7.tk b712)
        have hR12 := b12' _ _ hR11 nRa
        have t1' := tr1''.keep (a11.tk b12')
        have t2' := tr2''.keep (a11.tk b12')
        have rl' : rows'.length ≤ 4 := by
          have : xs11.length = sh11.length := by rw [w11.len, List.length_map]
          omega
        have usl : us.length = rows.length := by rw [w12.len, List.length_map]
        have usl' : us'.length = rows'.length := by rw [w'.len, List.length_map]
        have fin : ∀ {H' : Hp} {v : V}, Same H12 H' → DayV CD H' v wa → ∃ (p : Addr) (ws : List V) (u : V), V.ref L = .ref p ∧ u = v ∧ H' p = some (.lst ws) ∧ ws.length < sizeLine ∧ (But a H (upd H' p (.lst (ws ++ [u]))) ∧ HandAt (upd H' p (.lst (ws ++ [u]))) a l ∧ upd H' p (.lst (ws ++ [u])) hl = some (.lst [.int z0, .int z1]) ∧ upd H' p (.lst (ws ++ [u])) D5 = some (.lst us) ∧ TdAll (upd H' p (.lst (ws ++ [u]))) us (rows.map dRow) ∧ ∃ vs : List V, upd H' p (.lst (ws ++ [u])) L = some (.lst vs) ∧ vs.length = i + 1 ∧ ∀ v ∈ vs, DayV CD (upd H' p (.lst (ws ++ [u]))) v wa) := fun {H' v} s' dv => by
          have hL' := s' _ _ hL12
          have tk : IK H' (upd H' L (.lst (vs ++ [v]))) := ⟨fun b zs e => by rw [upd_ne (ne_of e hL' (fun z => by cases z))]; exact e, fun b C dx fs e => by rw [upd_ne (ne_of e hL' (fun z => by cases z))]; exact e⟩
          refine ⟨L, vs, v, rfl, rfl, hL', len_line (by omega), (b012.trans (.of s')).at hL0, (a12.same s').upd nLa nLl, by rw [upd_ne nLh.symm]; exact s' _ _ hl12, by rw [upd_ne nLD.symm]; exact s' _ _ e12, (w12.keep (TK.of s')).keep tk.1, _, upd_same, by rw [List.length_append, vl]; rfl, fun u hu => ?_⟩
          rcases List.mem_append.mp hu with hu | hu
          · exact (((hvs u hu).keep (a7.ik b712)).keep (IK.of s')).keep tk
          · rw [List.mem_singleton.mp hu]; exact dv.keep tk
        refine ⟨_, rfl, tyL hL12, _, rfl, _, rfl, _, rfl, R, D5, _, _, rfl, rfl, hR12, e12, by rw [sizeLine_eq]; show 2 + us.length ≤ _; omega, fun x1 hx1 => ?_⟩
        refine ⟨_, rfl, x1, D12, _, _, rfl, rfl, upd_same, same_new hx1 _ _ e', by rw [sizeLine_eq, List.length_append]; show 2 + us.length + us'.length ≤ _; omega, fun x2 hx2 => ?_⟩
        have sx := (same_new (o := .lst ([V.ref q1, .ref q2] ++ us)) hx1).trans (same_new (o := .lst ([V.ref q1, .ref q2] ++ us ++ us')) hx2)
        have dr : Drawn ([(([0, 1, 2], 1), [fa, ga, z0 + 2]), (([0, 3, 4], 1), [ff, gg, z1 + 1])] ++ (rows ++ rows')) := ⟨fa, ga, ff, gg, z0 + 2, z1 + 1, rows ++ rows', rfl, fun r hr => (List.mem_append.mp hr).elim (g5 r) (g' r), by rw [List.length_append]; omega, by omega, by omega⟩
        have tall : TdAll H12 ([V.ref q1, .ref q2] ++ us ++ us') (([(([0, 1, 2], 1), [fa, ga, z0 + 2]), (([0, 3, 4], 1), [ff, gg, z1 + 1])] ++ (rows ++ rows')).map dRow) := by
          rw [List.append_assoc, List.map_append, List.map_append]
          exact TdAll.app (.cons t1' (.cons t2' .nil)) (w12.app w')
        refine ⟨wa, x2, W, _, _, rfl, (hW.keep (ha.ik b012)).keep (IK.of sx), upd_same, tall.keep (TK.of sx), dr.good, Nat.le_trans dr.len (by decide), fun H' s' => ?_, fun p H' s' dd => ?_⟩
        · obtain ⟨p, ws, u, e1, rfl, e3, e4, e5⟩ := fin (sx.trans s') (v := .non) (.inl rfl)
          exact ⟨p, ws, _, e1, rfl, e3, e4, e5, _, _, _, rfl⟩
        · obtain ⟨p, ws, u, e1, rfl, e3, e4, e5⟩ := fin (sx.trans s') (v := .ref p) (.inr ⟨p, _, rfl, dd, dr⟩)
          exact ⟨p, ws, _, e1, rfl, e3, e4, e5, _, _, _, rfl⟩
    · rintro σ H7 ⟨⟨b7, a7, hl7, e7, w7, vs, hL7, vl, hvs⟩, v8, v9, v10, rfl⟩
      obtain ⟨v0, v1, rfl⟩ : ∃ v0 v1, vs = [v0, v1] := by
        match vs, vl with
        | [x, y], _ => exact ⟨x, y, rfl⟩
      exact ⟨_, rfl, q L v0 v1 H7 b7 a7 hL7 (hvs v0 (List.mem_cons_self ..)) (hvs v1 (List.mem_cons_of_mem _ (List.mem_cons_self ..)))⟩
end
end Hc
end

section
set_option Elab.async false
set_option linter.all false
set_option maxRecDepth 100000
set_option maxHeartbeats 4000000
namespace Hc
open PySem PySem.Spec PyProof.Rows L2 HcR LamX
section
variable {P : Program} {w : World} {K : PySem.W.Frag} {mg : Str → Option Value} {base : Heap}

theorem cut_mid (xs : List V) (p : Nat) (h : p < xs.length) : cutV xs (some (p : Int)) (some (-1)) = (xs.drop p).dropLast := by
  unfold cutV
  have e : HT.sIx xs.length xs.length (some (-1)) = xs.length - 1 := by
    show (if (-1 : Int) < 0 then ((-1 : Int) + (xs.length : Int)).toNat else min (-1 : Int).toNat xs.length) = _
    rw [if_pos (by decide)]
    omega
  rw [e, HT.sIx_nat, Nat.min_eq_left (by omega), List.dropLast_eq_take, List.length_drop]
  congr 1
  omega
/-- the law's state, as letters on their way (those at home kept) -/
def stL (ls : List Letter) (hs : List Int) (ps : List Nat) (rd : List Int) : List Lt := (List.range ls.length).map fun k => ⟨(atL ls k).1.drop (ps.getD k 0), rd.getD k 0, hs.getD k 0⟩
theorem ixAny {X : Cx} (h : X.K = K) : IxR X (rIx K) := by subst h; exact ix_seq
/-- the letters, in a list or a tuple -/
def SqA (K : PySem.W.Frag) (H : Hp) (a : Addr) (xs : List V) : Prop := SqL K H a xs ∨ SqT K H a xs
theorem anyIx {H : Hp} {a : Addr} {xs : List V} {i : Int} {v : V} {Q : VK} (h : SqA K H a xs) (e : atI xs i = some v) (q : Q v H) : rIx K (.ref a) (.int i) H Q := h.elim (fun h => .inl ⟨a, xs, i, v, rfl, rfl, h, e, q⟩) fun h => .inr (.inl ⟨a, xs, i, v, rfl, rfl, h, e, q⟩)
theorem SqA.same {H H' : Hp} {a : Addr} {xs : List V} (h : SqA K H a xs) (e : Same H H') : SqA K H' a xs := h.elim (fun h => .inl (extN_sqL (fun b o q _ => e b o q) h)) fun h => .inr (extN_sqT (fun b o q _ => e b o q) h)
def spAnyLate (K : PySem.W.Frag) : Sp := fun vs H Q _ => ∃ (la ha tp sp p1 p2 : Addr) (W : WD) (xs : List V) (ls : List Letter) (hs : List Int) (ps : List Nat) (rd : List Int) (t : Int), vs = [.ref la, .ref ha, .ref tp, .ref sp, .int t] ∧ SqA K H la xs ∧ TdAll H xs (ls.map dLet) ∧ H ha = some (.lst (hs.map V.int)) ∧ H tp = some (.tup (W.tm.map iN)) ∧
  H sp = some (.tup [.ref p1, .ref p2]) ∧ H p1 = some (.tup (ps.map iN)) ∧ H p2 = some (.tup (rd.map V.int)) ∧ hs.length = ls.length ∧ ps.length = ls.length ∧ rd.length = ls.length ∧ ls.length ≤ 20 ∧ (∀ l ∈ ls, GoodL l) ∧ ∀ b H', Same H H' → (b = true ↔ Late W.T t (stL ls hs ps rd)) → Q (.bl b) H'
theorem ok_any_late (ev : Ev mg) (D : Def K mg "_law_any_late" s_law_any_late) : Has P w K mg base CX0 1 "_law_any_late" ["_law_letters", "_law_homes", "_law_times", "_law_state", "_law_tick"] (spAnyLate K) := by
  refine .of D (fun _ _ _ _ _ _ us hl => match us, hl with | [_, _, _, _, _], _ => rfl) fun f fd F => F.ok sc_law_any_late (fun vs H Q E ⟨la, ha, tp, sp, p1, p2, W, xs, ls, hs, ps, rd, t, e, _⟩ => by rw [e]; rfl) fun cdv A outer s H vs Q E hr ⟨la, ha, tp, sp, p1, p2, W, xs, ls, hs, ps, rd, t, e, hla, hxs, hha, htp, hsp, hp1, hp2, lh, lp, lr, l20, hg, q⟩ => ?_
  subst e
  refine ⟨_, (PSs.nox (pss_cons (ps_asg (pv 3) (pg_tup rfl (pgs_cons (pg_name (i := 5) sc_law_any_late.nd rfl (.inl rfl)) (pgs_cons (pg_name (i := 6) sc_law_any_late.nd rfl (.inl rfl)) pgs_nil)))) (pss_cons (ps_for PassesOwn.never rfl (pi_range1 rfl ev.range (pa_cons (pe_callB (lenS (K := K) rfl) (by rfl) ev.len PySem.boot_len (pa_cons (pv 0) pa_nil)) pa_nil)) (pg_name (i := 7) sc_law_any_late.nd rfl (.inl rfl)) (pss_one (ps_if (pt_cmpR op_lt (pe_ix (ixT (K := K) rfl) (pv 5) (pv 7) (fun _ _ => rfl)) (pe_callB (lenS (K := K) rfl) (by rfl) ev.len PySem.boot_len (pa_cons (pe_ix (ixT (K := K) rfl) (pe_ix (ixAny (K := K) rfl) (pv 0) (pv 7) (fun _ _ => rfl)) pe_int (fun _ _ => rfl)) pa_nil)) (nomark _)) (pss_cons (ps_set (i := 8) sc_law_any_late.nd rfl (.inl rfl) (pe_callB ((sumK (K := K) rfl rfl)) (by rfl) ev.sum (by decide +kernel) (pa_cons (pe_lc (own := [("_law_road", 9)]) rfl sc_law_any_late.nd (pi_tup (pe_slice slU (pe_ix (ixT (K := K) rfl) (pe_ix (ixAny (K := K) rfl) (pv 0) (pv 7) (fun _ _ => rfl)) pe_int (fun _ _ => rfl)) (po_some (pe_ix (ixT (K := K) rfl) (pv 5) (pv 7) (fun _ _ => rfl))) (po_some (pe_un un_neg pe_int)))) (blkOk_by (own := [("_law_road", 9)]) (N := sc_law_any_late_N) (sc := sc_law_any_late_S) (by decide +kernel)) (fun _ _ _ _ _ => (pg_name (i := 9) sc_law_any_late.nd rfl (.inl rfl))) (fun _ _ _ _ _ => pts_nil) (fun _ _ _ _ _ => (pe_ix (ixT (K := K) rfl) (pv 2) (pv 9) (fun _ _ => rfl)))) pa_nil))) (pss_one (ps_if (pt_cmpR op_gt (pe_op op_add (pe_callB ((call_max2 rfl)) (by rfl) ev.max (by decide +kernel) (pa_cons (pv 4) (pa_cons (pe_ix (ixT (K := K) rfl) (pv 6) (pv 7) (fun _ _ => rfl)) pa_nil))) (pv 8)) (pe_ix (ixL (K := K) rfl) (pv 1) (pv 7) (fun _ _ => rfl)) (nomark _)) (pss_one (ps_ret pe_bl)) pss_nil))) pss_nil))) (pss_one (ps_ret pe_bl))))), ?_⟩
  have xl : xs.length = ls.length := by rw [hxs.len, List.length_map]
  refine ⟨_, rfl, sp, _, rfl, sqT hsp, rfl, _, _, rfl, _, _, rfl, rfl, ?_⟩
  refine ⟨_, rfl, la, xs, rfl, hla, (xs.length : Int), rfl, by omega, by omega, ?_⟩
  rw [show ((xs.length : Int)).toNat = ls.length by omega]
  refine for_range (lo := 0) (n := ls.length) (fun i σ H' => (Same H H' ∧ ∀ j, j < i → ¬ LateL W.T t ⟨(atL ls j).1.drop (ps.getD j 0), rd.getD j 0, hs.getD j 0⟩) ∧ ∃ v7 v8, σ = [some (.ref la), some (.ref ha), some (.ref tp), some (.ref sp), some (.int t), some (.ref p1), some (.ref p2), v7, v8, none]) ⟨⟨.refl H, fun j h => absurd h (Nat.not_lt_zero j)⟩, _, _, rfl⟩ ?_ ?_
  · rintro i σ H1 hi ⟨⟨s1, hn⟩, v7, v8, rfl⟩
    have e0 : (0 + (i : Int)) = (i : Nat) := by omega
    obtain ⟨x, hx, tx⟩ := hxs.map_got' (atL_get hi)
    obtain ⟨c1, c2, rfl, hc1, hc2⟩ := td_let (tx.keep (TK.of s1))
    have hla1 := hla.same s1
    have atx : atI xs (0 + (i : Int)) = some (.ref c1) := by rw [e0]; exact atI_nat hx
    have atp : atI (ps.map iN) (0 + (i : Int)) = some (iN (ps.getD i 0)) := by
      rw [e0]; exact atI_nat (by simp [show i < ps.length by omega])
    have atr : atI (rd.map V.int) (0 + (i : Int)) = some (.int (rd.getD i 0)) := by
      rw [e0]; exact atI_nat (by simp [show i < rd.length by omega])
    have ath : atI (hs.map V.int) (0 + (i : Int)) = some (.int (hs.getD i 0)) := by
      rw [e0]; exact atI_nat (by simp [show i < hs.length by omega])
    refine ⟨_, rfl, _, rfl, p1, _, _, iN (ps.getD i 0), rfl, rfl, sqT (s1 _ _ hp1), atp, _, rfl, _, rfl, anyIx hla1 atx ⟨c1, _, 0, .ref c2, rfl, rfl, sqT hc1, atI_nat (j := 0) rfl, c2, _, rfl, .inr (sqT hc2), _, _, rfl, rfl, _, rfl, ite2 (fun hc => ?_) fun hc => ?_⟩⟩
    · have hlt : ps.getD i 0 < (atL ls i).1.length := by
        have h2 := of_decide_eq_true hc
        rw [List.length_map] at h2
        exact Int.ofNat_lt.mp h2
      refine ⟨_, rfl, _, rfl, anyIx hla1 atx ⟨c1, _, 0, .ref c2, rfl, rfl, sqT hc1, atI_nat (j := 0) rfl, _, rfl, _, rfl, p1, _, _, iN (ps.getD i 0), rfl, rfl, sqT (s1 _ _ hp1), atp, _, rfl, _, rfl, _, rfl, c2, _, rfl, hc2, fun d H2 s2 hd => ?_⟩⟩
      have s12 := s1.trans s2
      generalize hR : (atL ls i).1.drop (ps.getD i 0) = R
      have hd' : H2 d = some (.tup (R.dropLast.map fun n : Nat => V.int (n : Int))) := by
        rw [hd, ← hR]
        refine congrArg (fun z => some (HO.tup z)) ?_
        rw [List.map_dropLast, List.map_drop]
        exact cut_mid _ _ (by rw [List.length_map]; exact hlt)
      have hR5 : ∀ r ∈ R, r < 5 := fun r hr => (hg _ (List.mem_of_getElem? (atL_get hi))).2.2 r (by rw [← hR] at hr; exact List.mem_of_mem_drop hr)
      have hR8 : R.length ≤ 8 := by
        have := (hg _ (List.mem_of_getElem? (atL_get hi))).2.1
        rw [← hR, List.length_drop]; omega
      have hRne : R ≠ [] := fun z => by
        have := congrArg List.length (hR.trans z)
        rw [List.length_drop, List.length_nil] at this
        omega
      refine ⟨d, rfl, ⟨_, sqT hd'⟩, fun D hD => lc_tup (xs := R.dropLast.map fun n : Nat => V.int (n : Int)) (fun i H' => Same H2 H' ∧ H' D = some (.lst (((R.dropLast.take i).map W.T).map V.int))) ⟨same_new hD, upd_same⟩ (fun i H' _ h => sqT (h.1 _ _ hd')) (fun j y H' hy ⟨s3, e3⟩ => ?_) fun H3 ⟨s3, e3⟩ => ?_⟩
      · rw [List.getElem?_map] at hy
        obtain ⟨r, hr', rfl⟩ := Option.map_eq_some_iff.mp hy
        have r5 : r < 5 := hR5 r ((List.dropLast_sublist _).subset (List.mem_of_getElem? hr'))
        have hj : j < R.dropLast.length := (List.getElem?_eq_some_iff.mp hr').1
        rw [List.length_dropLast] at hj
        refine ⟨rfl, _, rfl, _, rfl, tp, _, _, .int (W.T r), rfl, rfl, sqT ((s12.trans s3) _ _ htp), atI_nat (W.T_get r5), _, e3, len_line (by rw [List.length_map, List.length_map, List.length_take]; omega), same_at s3 hD e3, ?_⟩
        rw [upd_same, take_snoc hr', List.map_append, List.map_append]
        rfl
      · rw [List.length_map, List.take_length] at e3
        have s13 := s12.trans s3
        refine ⟨D, _, rfl, sqL e3, ?_⟩
        refine ⟨_, rfl, _, rfl, _, rfl, p2, _, _, .int (rd.getD i 0), rfl, rfl, sqT (s13 _ _ hp2), atr, _, _, rfl, _, rfl, _, _, rfl, rfl, _, rfl, _, rfl, ha, _, _, .int (hs.getD i 0), rfl, rfl, sqL (s13 _ _ hha), ath, _, _, rfl, rfl, _, rfl, ?_⟩
        rw [← tsum_sum]
        have hm : (if rd.getD i 0 > t then rd.getD i 0 else t) = max (rd.getD i 0) t := by split <;> omega
        have hmem : (⟨R, rd.getD i 0, hs.getD i 0⟩ : Lt) ∈ stL ls hs ps rd := by
          unfold stL
          exact List.mem_map.mpr ⟨i, List.mem_range.mpr hi, by rw [hR]⟩
        refine ite2 (fun h2 => ?_) fun h2 => ?_
        · have h3 := of_decide_eq_true h2
          refine q true H3 s13 ⟨fun _ => ⟨_, hmem, hRne, ?_⟩, fun _ => rfl⟩
          show hs.getD i 0 < max (rd.getD i 0) t + tsum W.T R.dropLast
          rw [← hm]; exact h3
        · refine ⟨⟨s13, fun j hj => ?_⟩, _, _, rfl⟩
          rcases Nat.lt_succ_iff_lt_or_eq.mp hj with h | h
          · exact hn j h
          · subst h
            rw [hR]
            intro hL
            refine h2 (decide_eq_true ?_)
            show hs.getD j 0 < (if rd.getD j 0 > t then rd.getD j 0 else t) + tsum W.T R.dropLast
            rw [hm]; exact hL.2
    · have hge : (atL ls i).1.length ≤ ps.getD i 0 := by
        have h2 : ¬ ((ps.getD i 0 : Nat) : Int) < ((((atL ls i).1.map fun n : Nat => V.int (n : Int)).length : Nat) : Int) := fun z => hc (decide_eq_true z)
        rw [List.length_map] at h2
        omega
      refine ⟨⟨s1, fun j hj => ?_⟩, _, _, rfl⟩
      rcases Nat.lt_succ_iff_lt_or_eq.mp hj with h | h
      · exact hn j h
      · subst h
        rintro ⟨h1, _⟩
        exact h1 (List.drop_of_length_le hge)
  · rintro σ H1 ⟨⟨s1, hn⟩, v7, v8, rfl⟩
    refine q false H1 s1 ⟨(fun z => Bool.noConfusion z), ?_⟩
    rintro ⟨x, hx, hl⟩
    unfold stL at hx
    obtain ⟨k, hk, rfl⟩ := List.mem_map.mp hx
    exact absurd hl (hn k (List.mem_range.mp hk))
end
end Hc
end

section
/-! Plain law: the breadth-first search over marks. -/
set_option autoImplicit false
set_option linter.all false
namespace Hc
abbrev St2 := List Nat × List Int
structure PS3 where
  ps : List Nat
  rd : List Int
  us : List Nat
abbrev Lts := List (List Nat × Int)
section
variable (T : Nat → Int) (R : Nat → Nat) (ls : Lts) (hs : List Int) (t : Int)
def wayK (k : Nat) : List Nat := (ls.getD k ([], 0)).1
def ltK4 (s : St2) (k : Nat) : Lt := ⟨(wayK ls k).drop (s.1.getD k 0), s.2.getD k 0, hs.getD k 0⟩
def stS (s : St2) : List Lt := (List.range ls.length).map (ltK4 ls hs s)
def roadK (ps : List Nat) (k : Nat) : Nat := (wayK ls k).getD (ps.getD k 0) 0
def mayGo (k : Nat) (p : PS3) : Prop := (p.ps.getD k 0 < (wayK ls k).length ∧ p.rd.getD k 0 ≤ t) ∧ p.us.count (roadK ls p.ps k) < R (roadK ls p.ps k)
instance (k : Nat) (p : PS3) : Decidable (mayGo R ls t k p) := by unfold mayGo; exact inferInstance
def moved (k : Nat) (p : PS3) : PS3 := ⟨p.ps.set k (p.ps.getD k 0 + 1), p.rd.set k (t + T (roadK ls p.ps k)), p.us ++ [roadK ls p.ps k]⟩
def goOn (k : Nat) (p : PS3) : List PS3 := if mayGo R ls t k p then [p, moved T ls t k p] else [p]
def passL (s : St2) : Nat → List PS3
  | 0 => [⟨s.1, s.2, []⟩]
  | k + 1 => (passL s k).flatMap (goOn T R ls t k)
def aft (p : PS3) : St2 := (p.ps, p.rd.map fun r => max r (t + 1))
def stepS (s s1 : St2) : Prop := ¬ Late T t (stS ls hs s) ∧ (∃ p ∈ passL T R ls t s ls.length, s1 = aft t p) ∧ ¬ Late T (t + 1) (stS ls hs s1)
end
section
variable (T : Nat → Int) (R : Nat → Nat) (ls : Lts) (hs : List Int)
def LedF : Int → Nat → St2 → St2 → Prop
  | _, 0, s, s' => s' = s
  | t, n + 1, s, s' => ∃ s1, stepS T R ls hs t s s1 ∧ LedF (t + 1) n s1 s'
def WF (s : St2) : Prop := s.1.length = ls.length ∧ s.2.length = ls.length
end
section
variable {T : Nat → Int} {R : Nat → Nat} {ls : Lts} {hs : List Int}
theorem LedF.snoc : ∀ {n : Nat} {t : Int} {s s' : St2}, LedF T R ls hs t (n + 1) s s' ↔ ∃ s1, LedF T R ls hs t n s s1 ∧ stepS T R ls hs (t + n) s1 s'
  | 0, t, s, s' => by
    constructor
    · rintro ⟨s1, h, e⟩
      have e : s' = s1 := e
      subst e
      exact ⟨s, rfl, by simpa using h⟩
    · rintro ⟨s1, e, h⟩
      have e : s1 = s := e
      subst e
      exact ⟨s', by simpa using h, rfl⟩
  | n + 1, t, s, s' => by
    have ih := fun s1 => LedF.snoc (n := n) (t := t + 1) (s := s1) (s' := s')
    have e : t + 1 + (n : Int) = t + ((n + 1 : Nat) : Int) := by omega
    constructor
    · rintro ⟨s1, h, h2⟩
      obtain ⟨s2, h3, h4⟩ := (ih s1).mp h2
      rw [e] at h4
      exact ⟨s2, ⟨s1, h, h3⟩, h4⟩
    · rintro ⟨s2, ⟨s1, h, h3⟩, h4⟩
      rw [← e] at h4
      exact ⟨s1, h, (ih s1).mpr ⟨s2, h3, h4⟩⟩

/-! ### the marks -/
def mkP (T : Nat → Int) (ls : Lts) (t : Int) (s : St2) (m : Nat → Bool) : Nat → PS3
  | 0 => ⟨s.1, s.2, []⟩
  | k + 1 => if m k = true then moved T ls t k (mkP T ls t s m k) else mkP T ls t s m k
theorem mkP_congr {t : Int} {s : St2} {m m' : Nat → Bool} : ∀ {k : Nat}, (∀ j, j < k → m j = m' j) → mkP T ls t s m k = mkP T ls t s m' k
  | 0, _ => rfl
  | k + 1, h => by
    have ih : mkP T ls t s m k = mkP T ls t s m' k := mkP_congr fun j hj => h j (by omega)
    show (if m k = true then _ else _) = (if m' k = true then _ else _)
    rw [ih, h k (by omega)]
theorem mem_passL {t : Int} {s : St2} : ∀ {k : Nat} {p : PS3}, p ∈ passL T R ls t s k ↔ ∃ m : Nat → Bool, (∀ j, j < k → m j = true → mayGo R ls t j (mkP T ls t s m j)) ∧ p = mkP T ls t s m k
  | 0, p => by
    constructor
    · intro h
      exact ⟨fun _ => false, fun j h => absurd h (Nat.not_lt_zero j), List.mem_singleton.mp h⟩
    · rintro ⟨m, _, e⟩
      rw [e]; exact List.mem_singleton.mpr rfl
  | k + 1, p => by
    have ih := fun q => mem_passL (t := t) (s := s) (k := k) (p := q)
    constructor
    · intro h
      obtain ⟨q, hq, hp⟩ := List.mem_flatMap.mp h
      obtain ⟨m, hm, e⟩ := (ih q).mp hq
      have go : ∀ b : Bool, (b = true → mayGo R ls t k q) → p = (if b = true then moved T ls t k q else q) → ∃ m : Nat → Bool, (∀ j, j < k + 1 → m j = true → mayGo R ls t j (mkP T ls t s m j)) ∧ p = mkP T ls t s m (k + 1) := fun b hb hp => by
        have cg : ∀ j, j ≤ k → mkP T ls t s (fun i => if i = k then b else m i) j = mkP T ls t s m j := fun j hj => mkP_congr fun i hi => by rw [if_neg (by omega)]
        refine ⟨fun i => if i = k then b else m i, fun j hj hmj => ?_, ?_⟩
        · rw [cg j (by omega)]
          have hmj : (if j = k then b else m j) = true := hmj
          by_cases e2 : j = k
          · subst e2
            rw [if_pos rfl] at hmj
            rw [← e]; exact hb hmj
          · rw [if_neg e2] at hmj
            exact hm j (by omega) hmj
        · show p = if (if k = k then b else m k) = true then moved T ls t k (mkP T ls t s _ k) else mkP T ls t s _ k
          rw [cg k (Nat.le_refl _), if_pos rfl, ← e]; exact hp
      unfold goOn at hp
      by_cases hg : mayGo R ls t k q
      · rw [if_pos hg] at hp
        rcases List.mem_cons.mp hp with h | h
        · exact go false (fun z => nomatch z) h
        · exact go true (fun _ => hg) (List.mem_singleton.mp h)
      · rw [if_neg hg] at hp
        exact go false (fun z => nomatch z) (List.mem_singleton.mp hp)
    · rintro ⟨m, hm, e⟩
      refine List.mem_flatMap.mpr ⟨mkP T ls t s m k, (ih _).mpr ⟨m, fun j hj => hm j (by omega), rfl⟩, ?_⟩
      have e : p = if m k = true then moved T ls t k (mkP T ls t s m k) else mkP T ls t s m k := e
      unfold goOn
      by_cases h : m k = true
      · rw [if_pos h] at e
        rw [if_pos (hm k (by omega) h), e]
        exact List.mem_cons_of_mem _ (List.mem_singleton.mpr rfl)
      · rw [if_neg h] at e
        rw [e]
        split
        · exact List.mem_cons_self ..
        · exact List.mem_singleton.mpr rfl
theorem getD_set {α : Type} (l : List α) (k j : Nat) (a d : α) : (l.set k a).getD j d = if k = j ∧ k < l.length then a else l.getD j d := by
  rw [List.getD_eq_getElem?_getD, List.getD_eq_getElem?_getD, List.getElem?_set]
  by_cases h : k = j
  · subst h
    by_cases h2 : k < l.length
    · rw [if_pos rfl, if_pos h2, if_pos ⟨rfl, h2⟩]; rfl
    · rw [if_pos rfl, if_neg h2, if_neg (fun z => h2 z.2), List.getElem?_eq_none (Nat.le_of_not_lt h2)]
  · rw [if_neg h, if_neg (fun z => h z.1)]
/-- what the marks make of a state -/
structure MkF (T : Nat → Int) (ls : Lts) (t : Int) (s : St2) (m : Nat → Bool) (k : Nat) (p : PS3) : Prop where
  lp : p.ps.length = ls.length
  lr : p.rd.length = ls.length
  ps : ∀ j, p.ps.getD j 0 = if j < k ∧ m j = true then s.1.getD j 0 + 1 else s.1.getD j 0
  rd : ∀ j, p.rd.getD j 0 = if j < k ∧ m j = true then t + T (roadK ls s.1 j) else s.2.getD j 0
  us : p.us = ((List.range k).filter m).map (roadK ls s.1)
theorem mkF {t : Int} {s : St2} (h : WF ls s) {m : Nat → Bool} : ∀ {k : Nat}, k ≤ ls.length → MkF T ls t s m k (mkP T ls t s m k)
  | 0, _ => ⟨h.1, h.2, fun j => by rw [if_neg (fun z => absurd z.1 (Nat.not_lt_zero j))]; rfl, fun j => by rw [if_neg (fun z => absurd z.1 (Nat.not_lt_zero j))]; rfl, rfl⟩
  | k + 1, hk => by
    have ih := mkF h (m := m) (k := k) (t := t) (by omega)
    have hp0 : (mkP T ls t s m k).ps.getD k 0 = s.1.getD k 0 := by rw [ih.ps, if_neg (fun z => by omega)]
    have hr0 : roadK ls (mkP T ls t s m k).ps k = roadK ls s.1 k := by unfold roadK; rw [hp0]
    by_cases hm : m k = true
    · have e : mkP T ls t s m (k + 1) = moved T ls t k (mkP T ls t s m k) := if_pos hm
      rw [e]
      refine ⟨by show (List.set _ _ _).length = _; rw [List.length_set]; exact ih.lp, by show (List.set _ _ _).length = _; rw [List.length_set]; exact ih.lr, fun j => ?_, fun j => ?_, ?_⟩
      · show (List.set _ _ _).getD j 0 = _
        rw [getD_set, hp0, ih.ps]
        by_cases e2 : k = j
        · subst e2
          rw [if_pos ⟨rfl, by rw [ih.lp]; omega⟩, if_pos ⟨by omega, hm⟩]
        · rw [if_neg (fun z => e2 z.1)]
          by_cases hj : j < k ∧ m j = true
          · rw [if_pos hj, if_pos ⟨by omega, hj.2⟩]
          · rw [if_neg hj, if_neg (fun z => hj ⟨by omega, z.2⟩)]
      · show (List.set _ _ _).getD j 0 = _
        rw [getD_set, hr0, ih.rd]
        by_cases e2 : k = j
        · subst e2
          rw [if_pos ⟨rfl, by rw [ih.lr]; omega⟩, if_pos ⟨by omega, hm⟩]
        · rw [if_neg (fun z => e2 z.1)]
          by_cases hj : j < k ∧ m j = true
          · rw [if_pos hj, if_pos ⟨by omega, hj.2⟩]
          · rw [if_neg hj, if_neg (fun z => hj ⟨by omega, z.2⟩)]
      · show (mkP T ls t s m k).us ++ [roadK ls (mkP T ls t s m k).ps k] = _
        rw [hr0, ih.us, List.range_succ, List.filter_append, List.filter_cons_of_pos hm, List.map_append]
        rfl
    · have e : mkP T ls t s m (k + 1) = mkP T ls t s m k := if_neg hm
      rw [e]
      refine ⟨ih.lp, ih.lr, fun j => ?_, fun j => ?_, ?_⟩
      · rw [ih.ps]
        by_cases hj : j < k ∧ m j = true
        · rw [if_pos hj, if_pos ⟨by omega, hj.2⟩]
        · rw [if_neg hj, if_neg (fun z => by
            by_cases e2 : j = k
            · subst e2; exact hm z.2
            · exact hj ⟨by omega, z.2⟩)]
      · rw [ih.rd]
        by_cases hj : j < k ∧ m j = true
        · rw [if_pos hj, if_pos ⟨by omega, hj.2⟩]
        · rw [if_neg hj, if_neg (fun z => by
            by_cases e2 : j = k
            · subst e2; exact hm z.2
            · exact hj ⟨by omega, z.2⟩)]
      · rw [ih.us, List.range_succ, List.filter_append, List.filter_cons_of_neg hm, List.filter_nil, List.append_nil]
/-- the marks, as a list -/
def mkL (ls : Lts) (hs : List Int) (s : St2) (m : Nat → Bool) : List (Bool × Lt) := (List.range ls.length).map fun j => (m j, ltK4 ls hs s j)
theorem mkL_snd (s : St2) (m : Nat → Bool) : (mkL ls hs s m).map (·.2) = stS ls hs s := by
  unfold mkL stS
  rw [List.map_map]; rfl
theorem getD_map_max (l : List Int) (j : Nat) (h : j < l.length) (f : Int → Int) : (l.map f).getD j 0 = f (l.getD j 0) := by
  simp [h]
theorem aft_marks {t : Int} (h1 : ∀ r, 1 ≤ T r) {s : St2} (h : WF ls s) (m : Nat → Bool) (hm : ∀ j, j < ls.length → m j = true → s.1.getD j 0 < (wayK ls j).length) : WF ls (aft t (mkP T ls t s m ls.length)) ∧ stS ls hs (aft t (mkP T ls t s m ls.length)) = (mkL ls hs s m).map (stp T t) := by
  have F := mkF (T := T) (t := t) h (m := m) (k := ls.length) (Nat.le_refl _)
  refine ⟨⟨F.lp, by show (List.map _ _).length = _; rw [List.length_map]; exact F.lr⟩, ?_⟩
  unfold stS mkL
  rw [List.map_map]
  refine List.map_congr_left fun j hj => ?_
  have hj := List.mem_range.mp hj
  show ltK4 ls hs (aft t (mkP T ls t s m ls.length)) j = stp T t (m j, ltK4 ls hs s j)
  have e1 : (aft t (mkP T ls t s m ls.length)).1.getD j 0 = if m j = true then s.1.getD j 0 + 1 else s.1.getD j 0 := by
    show (mkP T ls t s m ls.length).ps.getD j 0 = _
    rw [F.ps]
    by_cases q : m j = true
    · rw [if_pos ⟨hj, q⟩, if_pos q]
    · rw [if_neg (fun z => q z.2), if_neg q]
  have e2 : (aft t (mkP T ls t s m ls.length)).2.getD j 0 = if m j = true then t + T (roadK ls s.1 j) else max (s.2.getD j 0) (t + 1) := by
    show ((mkP T ls t s m ls.length).rd.map fun r => max r (t + 1)).getD j 0 = _
    rw [getD_map_max _ _ (by rw [F.lr]; exact hj), F.rd]
    by_cases q : m j = true
    · rw [if_pos ⟨hj, q⟩, if_pos q]
      have := h1 (roadK ls s.1 j)
      omega
    · rw [if_neg (fun z => q z.2), if_neg q]
  unfold ltK4
  rw [e1, e2]
  unfold stp
  by_cases q : m j = true
  · rw [if_pos q, if_pos q, if_pos q]
    have hlt := hm j hj q
    have e3 : ((wayK ls j).drop (s.1.getD j 0)).tail = (wayK ls j).drop (s.1.getD j 0 + 1) := by rw [List.tail_drop]
    have e4 : ((wayK ls j).drop (s.1.getD j 0)).headD 0 = roadK ls s.1 j := by
      unfold roadK
      rw [List.headD_eq_head?_getD, List.head?_drop]
      exact (List.getD_eq_getElem?_getD ..).symm
    show (⟨_, _, _⟩ : Lt) = ⟨_, _, _⟩
    rw [e3, e4]
  · rw [if_neg q, if_neg q, if_neg q]
def cK (ls : Lts) (s : St2) (m : Nat → Bool) (k r : Nat) : Nat := (((List.range k).filter m).map (roadK ls s.1)).count r
theorem cK_succ (s : St2) (m : Nat → Bool) (k r : Nat) : cK ls s m (k + 1) r = cK ls s m k r + if m k = true ∧ roadK ls s.1 k = r then 1 else 0 := by
  unfold cK
  rw [List.range_succ, List.filter_append, List.map_append, List.count_append]
  congr 1
  by_cases h : m k = true
  · rw [List.filter_cons_of_pos h]
    show List.count r [roadK ls s.1 k] = _
    by_cases h2 : roadK ls s.1 k = r
    · rw [if_pos ⟨h, h2⟩, h2]; simp
    · rw [if_neg (fun z => h2 z.2), List.count_eq_zero]
      intro z
      exact h2 (List.mem_singleton.mp z).symm
  · rw [List.filter_cons_of_neg h, if_neg (fun z => h z.1)]; rfl
theorem may_iff {s : St2} {m : Nat → Bool} : ∀ {k : Nat}, (∀ j, j < k → m j = true → cK ls s m j (roadK ls s.1 j) < R (roadK ls s.1 j)) ↔ ∀ r, cK ls s m k r ≤ R r
  | 0 => ⟨fun _ r => Nat.zero_le _, fun _ j h => absurd h (Nat.not_lt_zero j)⟩
  | k + 1 => by
    have ih := may_iff (s := s) (m := m) (k := k)
    constructor
    · intro h r
      have h1 := ih.mp (fun j hj => h j (by omega)) r
      rw [cK_succ]
      by_cases q : m k = true ∧ roadK ls s.1 k = r
      · have := h k (by omega) q.1
        rw [q.2] at this
        rw [if_pos q]; omega
      · rw [if_neg q]; omega
    · intro h j hj hm
      by_cases e : j = k
      · subst e
        have := h (roadK ls s.1 j)
        rw [cK_succ, if_pos ⟨hm, rfl⟩] at this
        omega
      · refine ih.mpr (fun r => ?_) j (by omega) hm
        have := h r
        rw [cK_succ] at this
        omega
theorem cnt_mkL {s : St2} {m : Nat → Bool} (hm : ∀ j, j < ls.length → m j = true → s.1.getD j 0 < (wayK ls j).length) (r : Nat) : cnt r (mkL ls hs s m) = cK ls s m ls.length r := by
  unfold cnt mkL cK
  rw [List.countP_map, List.count, List.countP_map, List.countP_filter]
  refine List.countP_congr fun j hj => ?_
  have hj := List.mem_range.mp hj
  show (mkd r (m j, ltK4 ls hs s j)) = true ↔ ((roadK ls s.1 j == r) && m j) = true
  unfold mkd
  cases q : m j with
  | false => simp
  | true =>
    have hlt := hm j hj q
    have e : ((wayK ls j).drop (s.1.getD j 0)).head? = some (roadK ls s.1 j) := by
      rw [List.head?_drop]
      unfold roadK
      generalize s.1.getD j 0 = i at hlt ⊢
      simp [hlt]
    show (true && decide (((wayK ls j).drop (s.1.getD j 0)).head? = some r)) = true ↔ _
    rw [e]
    simp
theorem okp_mkL {t : Int} {s : St2} (h : WF ls s) {m : Nat → Bool} : (∀ j, j < ls.length → m j = true → mayGo R ls t j (mkP T ls t s m j)) ↔ Okp R t (mkL ls hs s m) := by
  have may : ∀ j, j < ls.length → (mayGo R ls t j (mkP T ls t s m j) ↔ (s.1.getD j 0 < (wayK ls j).length ∧ s.2.getD j 0 ≤ t) ∧ cK ls s m j (roadK ls s.1 j) < R (roadK ls s.1 j)) := fun j hj => by
    have F := mkF (T := T) (t := t) h (m := m) (k := j) (by omega)
    have e1 : (mkP T ls t s m j).ps.getD j 0 = s.1.getD j 0 := by rw [F.ps, if_neg (fun z => by omega)]
    have e2 : (mkP T ls t s m j).rd.getD j 0 = s.2.getD j 0 := by rw [F.rd, if_neg (fun z => by omega)]
    have e3 : roadK ls (mkP T ls t s m j).ps j = roadK ls s.1 j := by unfold roadK; rw [e1]
    unfold mayGo
    rw [e1, e2, e3, F.us]
    exact Iff.rfl
  have mem : ∀ j, j < ls.length → (m j, ltK4 ls hs s j) ∈ mkL ls hs s m := fun j hj => List.mem_map.mpr ⟨j, List.mem_range.mpr hj, rfl⟩
  constructor
  · intro hm
    have hm' := fun j hj q => (may j hj).mp (hm j hj q)
    refine ⟨fun p hp hp1 => ?_, fun r => ?_⟩
    · unfold mkL at hp
      obtain ⟨j, hj, rfl⟩ := List.mem_map.mp hp
      have hj := List.mem_range.mp hj
      obtain ⟨⟨a, b⟩, _⟩ := hm' j hj hp1
      refine ⟨fun z => ?_, b⟩
      have := congrArg List.length (show (wayK ls j).drop (s.1.getD j 0) = [] from z)
      rw [List.length_drop, List.length_nil] at this
      omega
    · rw [cnt_mkL (fun j hj q => (hm' j hj q).1.1)]
      exact may_iff.mp (fun j hj q => (hm' j hj q).2) r
  · rintro ⟨a, b⟩
    have ha : ∀ j, j < ls.length → m j = true → s.1.getD j 0 < (wayK ls j).length ∧ s.2.getD j 0 ≤ t := fun j hj q => by
      obtain ⟨x, y⟩ := a _ (mem j hj) q
      refine ⟨Nat.lt_of_not_le fun z => x ?_, y⟩
      exact List.drop_of_length_le z
    intro j hj q
    refine (may j hj).mpr ⟨ha j hj q, ?_⟩
    refine may_iff.mpr (fun r => ?_) j hj q
    rw [← cnt_mkL (hs := hs) (fun j hj q => (ha j hj q).1)]
    exact b r
theorem marks_mkL {s : St2} {P : List (Bool × Lt)} (e : P.map (·.2) = stS ls hs s) : P = mkL ls hs s fun j => (P.getD j default).1 := by
  have l : P.length = ls.length := by
    have := congrArg List.length e
    rw [List.length_map] at this
    unfold stS at this
    rw [List.length_map, List.length_range] at this
    exact this
  refine List.ext_getElem (by unfold mkL; rw [List.length_map, List.length_range, l]) fun j h1 h2 => ?_
  have hx : (P.map (·.2))[j]'(by rw [List.length_map]; exact h1) = (stS ls hs s)[j]'(by rw [← e, List.length_map]; exact h1) := by simp only [e]
  rw [List.getElem_map] at hx
  have e3 : (mkL ls hs s fun j => (P.getD j default).1)[j] = ((P.getD j default).1, ltK4 ls hs s j) := by
    simp only [mkL, List.getElem_map, List.getElem_range]
  rw [e3]
  have hd : P.getD j default = P[j] := by simp [h1]
  show P[j] = ((P.getD j default).1, ltK4 ls hs s j)
  rw [hd]
  refine Prod.ext rfl ?_
  rw [hx]
  simp only [stS, List.getElem_map, List.getElem_range]
/-- a step of the search is a step of the letters -/
theorem step_fwd {t : Int} (h1 : ∀ r, 1 ≤ T r) {s s1 : St2} (h : WF ls s) (q : stepS T R ls hs t s s1) : WF ls s1 ∧ ∃ P, P.map (·.2) = stS ls hs s ∧ Okp R t P ∧ stS ls hs s1 = P.map (stp T t) := by
  obtain ⟨_, ⟨p, hp, rfl⟩, _⟩ := q
  obtain ⟨m, hm, rfl⟩ := mem_passL.mp hp
  have ok := (okp_mkL (hs := hs) h).mp hm
  have hlt : ∀ j, j < ls.length → m j = true → s.1.getD j 0 < (wayK ls j).length := fun j hj q => by
    have F := mkF (T := T) (t := t) h (m := m) (k := j) (by omega)
    have := (hm j hj q).1.1
    rw [F.ps, if_neg (fun z => by omega)] at this
    exact this
  obtain ⟨w, e⟩ := aft_marks (hs := hs) h1 h m hlt
  exact ⟨w, _, mkL_snd s m, ok, e⟩
theorem step_bwd {t : Int} (h1 : ∀ r, 1 ≤ T r) {s : St2} (h : WF ls s) {P : List (Bool × Lt)} (e : P.map (·.2) = stS ls hs s) (ok : Okp R t P) : ∃ p ∈ passL T R ls t s ls.length, WF ls (aft t p) ∧ stS ls hs (aft t p) = P.map (stp T t) := by
  have e2 := marks_mkL e
  generalize (fun j => (P.getD j default).1) = m at e2
  subst e2
  have hm := (okp_mkL (T := T) (hs := hs) h).mpr ok
  have hlt : ∀ j, j < ls.length → m j = true → s.1.getD j 0 < (wayK ls j).length := fun j hj q => by
    have F := mkF (T := T) (t := t) h (m := m) (k := j) (by omega)
    have := (hm j hj q).1.1
    rw [F.ps, if_neg (fun z => by omega)] at this
    exact this
  obtain ⟨w, e⟩ := aft_marks (hs := hs) h1 h m hlt
  exact ⟨_, mem_passL.mpr ⟨m, hm, rfl⟩, w, e⟩
theorem Both.inv {u : Int} {G : List Lt → Prop} {t : Int} {S : List Lt} (b : Both T R u G t S) : (t = u + 1 ∧ G S) ∨ (t ≤ u ∧ ¬ Late T t S ∧ ∃ P, P.map (·.2) = S ∧ Okp R t P ∧ Both T R u G (t + 1) (P.map (stp T t))) := by
  cases b with
  | fin g => exact .inl ⟨rfl, g⟩
  | step P hl nl e ok b => exact .inr ⟨hl, nl, P, e, ok, b⟩
theorem Both.nl {u : Int} {G : List Lt → Prop} (hG : ∀ S, G S → ¬ Late T (u + 1) S) {t : Int} {S : List Lt} (b : Both T R u G t S) : ¬ Late T t S := by
  rcases b.inv with ⟨e, g⟩ | ⟨_, nl, _⟩
  · rw [e]; exact hG _ g
  · exact nl
/-- the first stage -/
theorem led_both (h1 : ∀ r, 1 ≤ T r) {u : Int} {G : List Lt → Prop} (hG : ∀ S, G S → ¬ Late T (u + 1) S) : ∀ (n : Nat) {t : Int} {s : St2}, t + n = u + 1 → WF ls s → (Both T R u G t (stS ls hs s) ↔ ∃ s', LedF T R ls hs t n s s' ∧ G (stS ls hs s'))
  | 0, t, s, ht, h => by
    constructor
    · intro b
      rcases b.inv with ⟨_, g⟩ | ⟨hl, _⟩
      · exact ⟨s, rfl, g⟩
      · omega
    · rintro ⟨s', e, g⟩
      have e : s' = s := e
      subst e
      have ht : t = u + 1 := by omega
      rw [ht]
      exact .fin g
  | n + 1, t, s, ht, h => by
    constructor
    · intro b
      rcases b.inv with ⟨_, g⟩ | ⟨hl, nl, P, e, ok, b⟩
      · omega
      · obtain ⟨p, hp, w, e2⟩ := step_bwd h1 h e ok
        rw [← e2] at b
        obtain ⟨s', l, g⟩ := (led_both h1 hG n (by omega) w).mp b
        exact ⟨s', ⟨_, ⟨nl, ⟨p, hp, rfl⟩, b.nl hG⟩, l⟩, g⟩
    · rintro ⟨s', ⟨s1, st, l⟩, g⟩
      obtain ⟨w, P, e, ok, e2⟩ := step_fwd h1 h st
      have b := (led_both h1 hG n (by omega) w).mpr ⟨s', l, g⟩
      rw [e2] at b
      exact .step P (by omega) st.1 e ok b
theorem home_of {t : Int} (h1 : ∀ r, 1 ≤ T r) {S : List Lt} (hl : ∀ x ∈ S, x.limit < t) (nl : ¬ Late T t S) : Home S := fun x hx => by
  refine Decidable.byContradiction fun hne => nl ⟨x, hx, hne, ?_⟩
  have := tsum_nonneg h1 x.rest.dropLast
  have := hl x hx
  unfold due
  omega
/-- the second stage -/
theorem led_sav (h1 : ∀ r, 1 ≤ T r) : ∀ (n : Nat) {t : Int} {s : St2}, WF ls s → (∀ x ∈ stS ls hs s, x.limit < t + n) → ¬ Late T t (stS ls hs s) → (Sav T R t (stS ls hs s) ↔ ∃ s', LedF T R ls hs t n s s')
  | 0, t, s, h, hl, nl => by
    refine ⟨fun _ => ⟨s, rfl⟩, fun _ => .done (home_of h1 (fun x hx => by have := hl x hx; omega) nl)⟩
  | n + 1, t, s, h, hl, nl => by
    have lims : ∀ {P : List (Bool × Lt)} {s1 : St2}, P.map (·.2) = stS ls hs s → stS ls hs s1 = P.map (stp T t) → ∀ x ∈ stS ls hs s1, x.limit < t + 1 + n := fun {P s1} e e2 x hx => by
      rw [e2] at hx
      obtain ⟨p, hp, rfl⟩ := List.mem_map.mp hx
      have := hl p.2 (by rw [← e]; exact List.mem_map.mpr ⟨p, hp, rfl⟩)
      have e3 : (stp T t p).limit = p.2.limit := by unfold stp; split <;> rfl
      rw [e3]; omega
    have go : ∀ P : List (Bool × Lt), P.map (·.2) = stS ls hs s → Okp R t P → Sav T R (t + 1) (P.map (stp T t)) → ∃ s', LedF T R ls hs t (n + 1) s s' := fun P e ok sv => by
      obtain ⟨p, hp, w, e2⟩ := step_bwd h1 h e ok
      rw [← e2] at sv
      obtain ⟨s', l⟩ := (led_sav h1 n w (lims e e2) sv.not_late).mp sv
      exact ⟨s', _, ⟨nl, ⟨p, hp, rfl⟩, sv.not_late⟩, l⟩
    constructor
    · intro sv
      cases sv with
      | done hh =>
        refine go _ (map_snd_false _) (okp_false t _) (.done fun x hx => ?_)
        rw [List.map_map] at hx
        obtain ⟨y, hy, rfl⟩ := List.mem_map.mp hx
        exact hh y hy
      | step P _ e ok sv => exact go P e ok sv
    · rintro ⟨s', s1, st, l⟩
      obtain ⟨w, P, e, ok, e2⟩ := step_fwd h1 h st
      have sv := (led_sav h1 n w (lims e e2) st.2.2).mpr ⟨s', l⟩
      rw [e2] at sv
      exact .step P nl e ok sv
theorem LedF.wf (h1 : ∀ r, 1 ≤ T r) : ∀ {n : Nat} {t : Int} {s s' : St2}, LedF T R ls hs t n s s' → WF ls s → WF ls s'
  | 0, t, s, s', e, h => by
    have e : s' = s := e
    subst e; exact h
  | n + 1, t, s, s', ⟨s1, st, l⟩, h => LedF.wf h1 l (step_fwd h1 h st).1
theorem LedF.not_late : ∀ {n : Nat} {t : Int} {s s' : St2}, LedF T R ls hs t n s s' → (0 < n ∨ ¬ Late T t (stS ls hs s)) → ¬ Late T (t + n) (stS ls hs s')
  | 0, t, s, s', e, h => by
    have e : s' = s := e
    subst e
    rcases h with h | h
    · exact absurd h (Nat.lt_irrefl 0)
    · simpa using h
  | n + 1, t, s, s', ⟨s1, st, l⟩, h => by
    have := LedF.not_late l (.inr st.2.2)
    rw [show t + 1 + (n : Int) = t + ((n + 1 : Nat) : Int) by omega] at this
    exact this
end
end Hc
end

section
set_option Elab.async false
set_option linter.all false
set_option maxRecDepth 100000
set_option maxHeartbeats 4000000
namespace Hc
open PySem PySem.Spec PyProof.Rows L2 HcR LamX
section
variable {P : Program} {w : World} {K : PySem.W.Frag} {mg : Str → Option Value} {base : Heap}

/-! ### lists, place by place -/
theorem Paired.snoc' {α β : Type} {F : α → β → Prop} : ∀ {l : List α} {m : List β} {x : α} {y : β}, Paired F l m → F x y → Paired F (l ++ [x]) (m ++ [y])
  | _, _, _, _, .nil, h => .cons h .nil
  | _, _, _, _, .cons a t, h => .cons a (Paired.snoc' t h)
theorem Paired.get' {α β : Type} {F : α → β → Prop} : ∀ {l : List α} {m : List β}, Paired F l m → ∀ {i : Nat} {x : α}, l[i]? = some x → ∃ y, m[i]? = some y ∧ F x y
  | _, _, .nil, i, x, h => by simp at h
  | _, _, .cons a t, 0, x, h => by
    simp only [List.getElem?_cons_zero, Option.some.injEq] at h
    subst h
    exact ⟨_, rfl, a⟩
  | _, _, .cons a t, i + 1, x, h => by
    simp only [List.getElem?_cons_succ] at h ⊢
    exact Paired.get' t h
/-! ### the marks of a step -/
def dS2 (s : St2) : PyData := .tuple [dWay s.1, dInts s.2]
theorem td_s2 {H : Hp} {v : V} {s : St2} (h : Td H v (dS2 s)) : ∃ a p1 p2, v = .ref a ∧ H a = some (.tup [.ref p1, .ref p2]) ∧ H p1 = some (.tup (s.1.map iN)) ∧ H p2 = some (.tup (s.2.map V.int)) := by
  obtain ⟨a, xs, e, h1, h2⟩ := h.tuple
  cases h2 with
  | cons t1 h2 => cases h2 with
    | cons t2 h2 =>
      cases h2
      obtain ⟨b, rfl, hb⟩ := t1.way
      obtain ⟨c, rfl, hc⟩ := t2.ints
      exact ⟨a, b, c, e, h1, hb, hc⟩
theorem mk_s2 {H : Hp} {a p1 p2 : Addr} {s : St2} (h : H a = some (.tup [.ref p1, .ref p2])) (h1 : H p1 = some (.tup (s.1.map iN))) (h2 : H p2 = some (.tup (s.2.map V.int))) : Td H (.ref a) (dS2 s) := .tup h (.cons (td_way h1) (.cons (td_ints h2) .nil))
def PsAt (H : Hp) (v : V) (p : PS3) : Prop := ∃ a p1 p2 p3, v = .ref a ∧ H a = some (.tup [.ref p1, .ref p2, .ref p3]) ∧ H p1 = some (.tup (p.ps.map iN)) ∧ H p2 = some (.tup (p.rd.map V.int)) ∧ FzT H p3 (p.us.map iN)
theorem FzT.cast {H : Hp} {p : Addr} {xs ys : List V} (h : FzT H p xs) (e : xs = ys) : FzT H p ys := e ▸ h
/-- all but lists -/
def NL (H H' : Hp) : Prop := ∀ b o, H b = some o → (∀ xs, o ≠ .lst xs) → H' b = some o
theorem NL.of {H H' : Hp} (e : Same H H') : NL H H' := fun b o h _ => e b o h
theorem NL.put {H : Hp} {L : Addr} {xs : List V} {o : HO} (h : H L = some (.lst xs)) : NL H (upd H L o) := fun b u e n => by rw [upd_ne (fun z => by subst z; rw [h] at e; cases e; exact n xs rfl)]; exact e
theorem NL.trans {H H1 H' : Hp} (a : NL H H1) (b : NL H1 H') : NL H H' := fun c o h n => b c o (a c o h n) n
theorem NL.fz {H H' : Hp} {p : Addr} {xs : List V} (k : NL H H') (h : FzT H p xs) : FzT H' p xs := let ⟨ob, d, e⟩ := h; ⟨ob, d, k _ _ e (fun _ z => nomatch z)⟩
theorem PsAt.keep {H H' : Hp} {v : V} {p : PS3} (k : NL H H') (h : PsAt H v p) : PsAt H' v p := by
  obtain ⟨a, p1, p2, p3, e, h0, h1, h2, h3⟩ := h
  exact ⟨a, p1, p2, p3, e, k _ _ h0 (fun _ z => nomatch z), k _ _ h1 (fun _ z => nomatch z), k _ _ h2 (fun _ z => nomatch z), k.fz h3⟩
theorem passL_inv {T : Nat → Int} {R : Nat → Nat} {ls : Lts} {t : Int} {s : St2} : ∀ {k : Nat} {p : PS3}, p ∈ passL T R ls t s k → p.ps.length = s.1.length ∧ p.rd.length = s.2.length ∧ p.us.length ≤ k
  | 0, p, h => by
    rw [List.mem_singleton.mp h]
    exact ⟨rfl, rfl, Nat.le_refl _⟩
  | k + 1, p, h => by
    obtain ⟨q, hq, hp⟩ := List.mem_flatMap.mp h
    obtain ⟨a, b, c⟩ := passL_inv hq
    have h0 : p = q ∨ p = moved T ls t k q := by
      unfold goOn at hp
      split at hp
      · simpa using hp
      · exact .inl (List.mem_singleton.mp hp)
    rcases h0 with rfl | rfl
    · exact ⟨a, b, Nat.le_succ_of_le c⟩
    · refine ⟨?_, ?_, ?_⟩
      · show (List.set _ _ _).length = _; rw [List.length_set]; exact a
      · show (List.set _ _ _).length = _; rw [List.length_set]; exact b
      · show (_ ++ [_]).length ≤ _; rw [List.length_append, List.length_singleton]; omega
theorem goOn_len {T : Nat → Int} {R : Nat → Nat} {ls : Lts} {t : Int} {k : Nat} (p : PS3) : (goOn T R ls t k p).length ≤ 2 := by
  unfold goOn
  split <;> simp
theorem flat_le {T : Nat → Int} {R : Nat → Nat} {ls : Lts} {t : Int} {k : Nat} : ∀ l : List PS3, (l.flatMap (goOn T R ls t k)).length ≤ 2 * l.length
  | [] => Nat.le_refl _
  | p :: l => by
    have := goOn_len (T := T) (R := R) (ls := ls) (t := t) (k := k) p
    have := flat_le (T := T) (R := R) (ls := ls) (t := t) (k := k) l
    rw [List.flatMap_cons, List.length_append, List.length_cons]
    omega
theorem passL_len {T : Nat → Int} {R : Nat → Nat} {ls : Lts} {t : Int} {s : St2} : ∀ k : Nat, (passL T R ls t s k).length ≤ 2 ^ k
  | 0 => Nat.le_refl _
  | k + 1 => by
    have := passL_len (T := T) (R := R) (ls := ls) (t := t) (s := s) k
    have h2 := flat_le (T := T) (R := R) (ls := ls) (t := t) (k := k) (passL T R ls t s k)
    show ((passL T R ls t s k).flatMap (goOn T R ls t k)).length ≤ _
    rw [Nat.pow_succ]; omega
theorem cnt_nI (us : List Nat) (k : Nat) : (nI us).count (k : Int) = us.count k := by
  unfold nI
  induction us with
  | nil => rfl
  | cons u us ih =>
    rw [List.map_cons, List.count_cons, List.count_cons, ih]
    congr 1
    by_cases h : u = k
    · subst h; simp
    · have h2 : ¬ (Int.ofNat u = (k : Int)) := fun z => h (Int.ofNat.inj z)
      rw [beq_false_of_ne h2, beq_false_of_ne h]
theorem len20 {n : Nat} (h : n ≤ 2 ^ 23) : n < sizeLine := by rw [sizeLine_eq]; omega
theorem roadK_get {ls : Lts} {ps : List Nat} {k : Nat} (h : ps.getD k 0 < (wayK ls k).length) : (wayK ls k)[ps.getD k 0]? = some (roadK ls ps k) := by
  unfold roadK
  generalize ps.getD k 0 = i at h ⊢
  simp [h]
def spPassings (K : PySem.W.Frag) : Sp := fun vs H Q _ => ∃ (la rp tp sp : Addr) (W : WD) (xs : List V) (ls : List Letter) (s : St2) (t : Int), vs = [.ref la, .ref rp, .ref tp, .ref sp, .int t] ∧ SqA K H la xs ∧ TdAll H xs (ls.map dLet) ∧ H rp = some (.tup (W.rm.map iN)) ∧ H tp = some (.tup (W.tm.map iN)) ∧
  Td H (.ref sp) (dS2 s) ∧ WF ls s ∧ ls.length ≤ 20 ∧ (∀ l ∈ ls, GoodL l) ∧ ∀ p H' ws, Same H H' → H' p = some (.lst ws) → TdAll H' ws ((passL W.T W.R ls t s ls.length).map fun p => dS2 (p.ps, p.rd)) → Q (.ref p) H'
theorem ok_passings (ev : Ev mg) (D : Def K mg "_law_passings" s_law_passings) (h1 : Has P w K mg base CX0 1 "_law_put" ["_law_thing", "_law_at", "_law_item"] spPut) : Has P w K mg base CX0 2 "_law_passings" ["_law_letters", "_law_rooms", "_law_times", "_law_state", "_law_tick"] (spPassings K) := by
  refine .of D (fun _ _ _ _ _ _ us hl => match us, hl with | [_, _, _, _, _], _ => rfl) fun f fd F => F.ok sc_law_passings (fun vs H Q E ⟨la, rp, tp, sp, W, xs, ls, s, t, e, _⟩ => by rw [e]; rfl) fun cdv A outer s' H vs Q E hr ⟨la, rp, tp, sp, W, xs, ls, s, t, e, hla, hxs, hrp, htp, hsp, hwf, l20, hg, q⟩ => ?_
  subst e
  refine ⟨_, (PSs.nox (pss_cons (ps_set (i := 5) sc_law_passings.nd rfl (.inl rfl) (pe_lst (pa_cons (pe_tup (pa_cons (pe_ix (ixT (K := K) rfl) (pv 3) pe_int (fun _ _ => rfl)) (pa_cons (pe_ix (ixT (K := K) rfl) (pv 3) pe_int (fun _ _ => rfl)) (pa_cons (pe_tupF pa_nil) pa_nil)))) pa_nil))) (pss_cons (ps_for PassesOwn.never rfl (pi_range1 rfl ev.range (pa_cons (pe_callB (lenS (K := K) rfl) (by rfl) ev.len PySem.boot_len (pa_cons (pv 0) pa_nil)) pa_nil)) (pg_name (i := 6) sc_law_passings.nd rfl (.inl rfl)) (pss_cons (ps_set (i := 7) sc_law_passings.nd rfl (.inl rfl) (pe_lst pa_nil)) (pss_cons (ps_for PassesOwn.never rfl (pi_list (pv 5)) (pg_tup rfl (pgs_cons (pg_name (i := 8) sc_law_passings.nd rfl (.inl rfl)) (pgs_cons (pg_name (i := 9) sc_law_passings.nd rfl (.inl rfl)) (pgs_cons (pg_name (i := 10) sc_law_passings.nd rfl (.inl rfl)) pgs_nil)))) (pss_cons (ps_expr (pe_bm PySem.F.plainAttrs_list PySem.F.slot_list_append PySem.F.type_list_append mt_append (pv 7) (pa_cons (pe_tup (pa_cons (pv 8) (pa_cons (pv 9) (pa_cons (pv 10) pa_nil)))) pa_nil))) (pss_one (ps_if (PW.pt (pw_and (pt_cmpR op_lt (pe_ix (ixT (K := K) rfl) (pv 8) (pv 6) (fun _ _ => rfl)) (pe_callB (lenS (K := K) rfl) (by rfl) ev.len PySem.boot_len (pa_cons (pe_ix (ixT (K := K) rfl) (pe_ix (ixAny (K := K) rfl) (pv 0) (pv 6) (fun _ _ => rfl)) pe_int (fun _ _ => rfl)) pa_nil)) (nomark _)) (pw_and1 (pt_cmpR op_le (pe_ix (ixT (K := K) rfl) (pv 9) (pv 6) (fun _ _ => rfl)) (pv 4) (nomark _))))) (pss_cons (ps_set (i := 11) sc_law_passings.nd rfl (.inl rfl) (pe_ix (ixT (K := K) rfl) (pe_ix (ixT (K := K) rfl) (pe_ix (ixAny (K := K) rfl) (pv 0) (pv 6) (fun _ _ => rfl)) pe_int (fun _ _ => rfl)) (pe_ix (ixT (K := K) rfl) (pv 8) (pv 6) (fun _ _ => rfl)) (fun _ _ => rfl))) (pss_one (ps_if (pt_cmpR op_lt (pe_tcount (pv 10) (pa_cons (pv 11) pa_nil)) (pe_ix (ixT (K := K) rfl) (pv 1) (pv 11) (fun _ _ => rfl)) (nomark _)) (pss_cons (ps_set (i := 12) sc_law_passings.nd rfl (.inl rfl) (pe_has h1 hr (by rfl) (pa_cons (pv 9) (pa_cons (pv 6) (pa_cons (pe_op op_add (pv 4) (pe_ix (ixT (K := K) rfl) (pv 2) (pv 11) (fun _ _ => rfl))) pa_nil))))) (pss_one (ps_expr (pe_bm PySem.F.plainAttrs_list PySem.F.slot_list_append PySem.F.type_list_append mt_append (pv 7) (pa_cons (pe_tup (pa_cons (pe_has h1 hr (by rfl) (pa_cons (pv 8) (pa_cons (pv 6) (pa_cons (pe_op op_add (pe_ix (ixT (K := K) rfl) (pv 8) (pv 6) (fun _ _ => rfl)) pe_int) pa_nil)))) (pa_cons (pv 12) (pa_cons (pe_op op_catF (pv 10) (pe_tupF (pa_cons (pv 11) pa_nil))) pa_nil)))) pa_nil))))) pss_nil))) pss_nil)))) (pss_one (ps_set (i := 5) sc_law_passings.nd rfl (.inl rfl) (pv 7)))))) (pss_one (ps_ret (pe_lc (own := [("_law_places", 8), ("_law_readies", 9), ("_law_used", 10)]) rfl sc_law_passings.nd (pi_list (pv 5)) (blkOk_by (own := [("_law_places", 8), ("_law_readies", 9), ("_law_used", 10)]) (N := sc_law_passings_N) (sc := sc_law_passings_S) (by decide +kernel)) (fun _ _ _ _ _ => (pgTupK (K := K) (n := 3) rfl rfl (pgs_cons (pg_name (i := 8) sc_law_passings.nd rfl (.inl rfl)) (pgs_cons (pg_name (i := 9) sc_law_passings.nd rfl (.inl rfl)) (pgs_cons (pg_name (i := 10) sc_law_passings.nd rfl (.inl rfl)) pgs_nil))) rfl rfl)) (fun _ _ _ _ _ => pts_nil) (fun _ _ _ _ _ => (pe_tup (pa_cons (pv 8) (pa_cons (pv 9) pa_nil)))))))))), ?_⟩
  have xl : xs.length = ls.length := by rw [hxs.len, List.length_map]
  obtain ⟨_, p1, p2, e, hsp', hp1, hp2⟩ := td_s2 hsp
  cases e
  refine ⟨_, rfl, sp, _, 0, .ref p1, rfl, rfl, sqT hsp', atI_nat (j := 0) rfl, _, rfl, sp, _, 1, .ref p2, rfl, rfl, sqT hsp', atI_nat (j := 1) rfl, by show 0 ≤ sizeLine; exact Nat.zero_le _, fun e0 He se he0 => ⟨by show 3 ≤ sizeLine; decide, fun t0 ht0 => ⟨by show 1 ≤ sizeLine; decide, fun F hF => ?_⟩⟩⟩
  have st := same_new (o := .tup [.ref p1, .ref p2, .ref e0]) ht0
  have ht1 : upd He t0 (.tup [.ref p1, .ref p2, .ref e0]) t0 = some (.tup [.ref p1, .ref p2, .ref e0]) := upd_same
  generalize upd He t0 (.tup [.ref p1, .ref p2, .ref e0]) = Ht at st ht1 hF ⊢
  have sF := same_new (o := .lst [.ref t0]) hF
  have hF1 : upd Ht F (.lst [.ref t0]) F = some (.lst [.ref t0]) := upd_same
  generalize upd Ht F (.lst [.ref t0]) = H1 at sF hF1
  have s01 : Same H H1 := (se.trans st).trans sF
  have P0 : Paired (PsAt H1) [.ref t0] (passL W.T W.R ls t s 0) := .cons ⟨t0, p1, p2, e0, rfl, sF _ _ ht1, s01 _ _ hp1, s01 _ _ hp2, (he0.same st).same sF⟩ .nil
  refine ⟨_, rfl, la, xs, rfl, hla.same s01, (xs.length : Int), rfl, by omega, by omega, ?_⟩
  rw [show ((xs.length : Int)).toNat = ls.length by omega]
  refine for_range (lo := 0) (n := ls.length) (fun k σ H' => Same H H' ∧ ∃ F ys, H' F = some (.lst ys) ∧ Paired (PsAt H') ys (passL W.T W.R ls t s k) ∧ ∃ v6 v7 v8 v9 v10 v11 v12, σ = [some (.ref la), some (.ref rp), some (.ref tp), some (.ref sp), some (.int t), some (.ref F), v6, v7, v8, v9, v10, v11, v12]) ⟨s01, F, _, hF1, P0, _, _, _, _, _, _, _, rfl⟩ ?_ ?_
  · rintro k σ H2 hk ⟨s2, F, ys, hF2, P2, v6, v7, v8, v9, v10, v11, v12, rfl⟩
    refine ⟨by show 0 ≤ sizeLine; exact Nat.zero_le _, fun L hL => ?_⟩
    have nFL : F ≠ L := ne_of_none hF2 hL
    have sL := same_new (o := .lst []) hL
    have hL3 : upd H2 L (.lst []) L = some (.lst []) := upd_same
    generalize upd H2 L (.lst []) = H3 at sL hL3
    have l2 := passL_len (T := W.T) (R := W.R) (ls := ls) (t := t) (s := s) k
    have lk : 2 ^ k ≤ 2 ^ 20 := Nat.pow_le_pow_right (by decide) (by omega)
    have yl : ys.length = (passL W.T W.R ls t s k).length := Paired.length P2
    have e0 : (0 + (k : Int)) = (k : Nat) := by omega
    have back : ∀ {H' : Hp}, But L H3 H' → Same H H' := fun b c o e => b c o (sL _ _ (s2 _ _ e)) (ne_of_none (s2 _ _ e) hL)
    refine ⟨_, rfl, F, rfl, ⟨_, sqL (sL _ _ hF2)⟩, for_list (xs := ys) (fun i σ H' => (But L H3 H' ∧ ∃ acc, H' L = some (.lst acc) ∧ Paired (PsAt H') acc (((passL W.T W.R ls t s k).take i).flatMap (goOn W.T W.R ls t k))) ∧ ∃ v8 v9 v10 v11 v12, σ = [some (.ref la), some (.ref rp), some (.ref tp), some (.ref sp), some (.int t), some (.ref F), some (.int (0 + (k : Int))), some (.ref L), v8, v9, v10, v11, v12]) ⟨⟨.refl _ _, [], hL3, .nil⟩, _, _, _, _, _, rfl⟩ (fun i σ H' _ h => sqL (h.1.1 _ _ (sL _ _ hF2) nFL)) ?_ ?_⟩
    · rintro i y σ H4 hy ⟨⟨b4, acc, hL4, Pa⟩, v8, v9, v10, v11, v12, rfl⟩
      obtain ⟨p, hp, y0⟩ := Paired.get' P2 hy
      have nl4 : NL H2 H4 := fun b o e _ => b4 _ _ (sL _ _ e) (ne_of_none e hL)
      obtain ⟨a, q1, q2, q3, rfl, ha, hq1, hq2, hq3⟩ := y0.keep nl4
      obtain ⟨il, ir, iu⟩ := passL_inv (List.mem_of_getElem? hp)
      have hi : i < (passL W.T W.R ls t s k).length := (List.getElem?_eq_some_iff.mp hp).1
      have al : acc.length ≤ 2 * i := by
        have := flat_le (T := W.T) (R := W.R) (ls := ls) (t := t) (k := k) ((passL W.T W.R ls t s k).take i)
        rw [List.length_take] at this
        have := Paired.length Pa
        omega
      refine ⟨a, _, rfl, sqT ha, rfl, _, _, rfl, _, _, rfl, _, _, rfl, rfl, ?_⟩
      refine ⟨_, rfl, tyL hL4, _, rfl, _, rfl, _, rfl, by show 3 ≤ sizeLine; decide, fun t1 ht1 => ?_⟩
      have sx := same_new (o := .tup [.ref q1, .ref q2, .ref q3]) ht1
      have hL5 : upd H4 t1 (.tup [.ref q1, .ref q2, .ref q3]) L = some (.lst acc) := sx _ _ hL4
      refine ⟨L, acc, .ref t1, rfl, rfl, hL5, len20 (by omega), ?_⟩
      have hx5 : upd H4 t1 (.tup [.ref q1, .ref q2, .ref q3]) t1 = some (.tup [.ref q1, .ref q2, .ref q3]) := upd_same
      have b5 := b4.trans (But.of (p := L) sx)
      generalize upd H4 t1 (.tup [.ref q1, .ref q2, .ref q3]) = H5 at sx hL5 hx5 b5 ⊢
      have nl56 : NL H5 (upd H5 L (.lst (acc ++ [.ref t1]))) := NL.put hL5
      have hL6 : upd H5 L (.lst (acc ++ [.ref t1])) L = some (.lst (acc ++ [.ref t1])) := upd_same
      have b6 : But L H3 (upd H5 L (.lst (acc ++ [.ref t1]))) := b5.put
      generalize upd H5 L (.lst (acc ++ [.ref t1])) = H6 at nl56 hL6 b6 ⊢
      have nl46 : NL H4 H6 := (NL.of sx).trans nl56
      have keep46 : ∀ {b : Addr} {zs : List V}, H4 b = some (.tup zs) → H6 b = some (.tup zs) := fun e => nl46 _ _ e (fun _ z => nomatch z)
      have hq1' := keep46 hq1
      have hq2' := keep46 hq2
      have hq3' := nl46.fz hq3
      have P6 : Paired (PsAt H6) (acc ++ [.ref t1]) ((((passL W.T W.R ls t s k).take i).flatMap (goOn W.T W.R ls t k)) ++ [p]) := Paired.snoc' (Paired.mapP Pa fun _ _ h => h.keep nl46) ⟨t1, q1, q2, q3, rfl, nl56 _ _ hx5 (fun _ z => nomatch z), hq1', hq2', hq3'⟩
      have s06 := back b6
      have stay : ¬ mayGo W.R ls t k p → (But L H3 H6 ∧ ∃ acc, H6 L = some (.lst acc) ∧ Paired (PsAt H6) acc (((passL W.T W.R ls t s k).take (i + 1)).flatMap (goOn W.T W.R ls t k))) := fun hn => by
        refine ⟨b6, _, hL6, ?_⟩
        rw [take_snoc hp, List.flatMap_append]
        have e : goOn W.T W.R ls t k p = [p] := if_neg hn
        rw [show ([p] : List PS3).flatMap (goOn W.T W.R ls t k) = goOn W.T W.R ls t k p by simp, e]
        exact P6
      obtain ⟨x, hx, tx⟩ := hxs.map_got' (atL_get hk)
      obtain ⟨c1, c2, rfl, hc1, hc2⟩ := td_let (tx.keep (TK.of s06))
      have hla6 := hla.same s06
      have atx : atI xs (0 + (k : Int)) = some (.ref c1) := by rw [e0]; exact atI_nat hx
      have hwl := hwf.1
      have hwr := hwf.2
      have atp : atI (p.ps.map iN) (0 + (k : Int)) = some (iN (p.ps.getD k 0)) := by
        rw [e0]; exact atI_nat (by simp [show k < p.ps.length by omega])
      have atr : atI (p.rd.map V.int) (0 + (k : Int)) = some (.int (p.rd.getD k 0)) := by
        rw [e0]; exact atI_nat (by simp [show k < p.rd.length by omega])
      have gl := hg _ (List.mem_of_getElem? (atL_get hk))
      refine ⟨_, rfl, _, rfl, q1, _, _, iN (p.ps.getD k 0), rfl, rfl, sqT hq1', atp, _, rfl, _, rfl, anyIx hla6 atx ⟨c1, _, 0, .ref c2, rfl, rfl, sqT hc1, atI_nat (j := 0) rfl, c2, _, rfl, .inr (sqT hc2), _, _, rfl, rfl, _, rfl, ite2 (fun hc => ?_) fun hc => ?_⟩⟩
      · have hlt : p.ps.getD k 0 < (atL ls k).1.length := by
          have h2 := of_decide_eq_true hc
          rw [List.length_map] at h2
          exact Int.ofNat_lt.mp h2
        refine ⟨_, rfl, _, rfl, q2, _, _, .int (p.rd.getD k 0), rfl, rfl, sqT hq2', atr, _, rfl, _, _, rfl, rfl, _, rfl, ite2 (fun hd2 => ?_) fun hd2 => ?_⟩
        · have hle : p.rd.getD k 0 ≤ t := of_decide_eq_true hd2
          have hr1 : (atL ls k).1[p.ps.getD k 0]? = some (roadK ls p.ps k) := roadK_get hlt
          generalize hrd : roadK ls p.ps k = r at hr1
          have r5 : r < 5 := gl.2.2 r (List.mem_of_getElem? hr1)
          have atw : atI ((atL ls k).1.map fun n : Nat => V.int (n : Int)) ((p.ps.getD k 0 : Nat) : Int) = some (.int (r : Nat)) := atI_nat (by rw [List.getElem?_map, hr1]; rfl)
          refine ⟨_, rfl, _, rfl, anyIx hla6 atx ⟨c1, _, 0, .ref c2, rfl, rfl, sqT hc1, atI_nat (j := 0) rfl, _, rfl, _, rfl, q1, _, _, iN (p.ps.getD k 0), rfl, rfl, sqT hq1', atp, c2, _, _, .int (r : Nat), rfl, rfl, sqT hc2, atw, ?_⟩⟩
          refine ⟨_, rfl, ⟨q3, _, rfl, hq3'⟩, _, rfl, q3, nI p.us, (r : Int), rfl, rfl, by rw [nI_map]; exact hq3'.sq, ?_⟩
          rw [cnt_nI]
          have hrp6 := s06 _ _ hrp
          have htp6 := s06 _ _ htp
          refine ⟨_, rfl, _, rfl, rp, _, _, .int (W.R r : Nat), rfl, rfl, sqT hrp6, atI_nat (W.R_get r5), _, _, rfl, rfl, _, rfl, ite2 (fun hc3 => ?_) fun hc3 => ?_⟩
          · have hmay : mayGo W.R ls t k p := ⟨⟨hlt, hle⟩, by rw [hrd]; exact Int.ofNat_lt.mp (of_decide_eq_true hc3)⟩
            refine ⟨_, rfl, _, rfl, _, rfl, _, rfl, _, rfl, tp, _, _, .int (W.T r), rfl, rfl, sqT htp6, atI_nat (W.T_get r5), _, _, rfl, rfl, q2, k, .int (t + W.T r), p.rd.map V.int, congrArg (fun z => [V.ref q2, V.int z, V.int (t + W.T r)]) e0, hq2', by rw [List.length_map]; omega, by rw [List.length_map]; omega, fun p9 H9 s9 h9 => ?_⟩
            have hL9 := s9 _ _ hL6
            refine ⟨_, rfl, tyL hL9, _, rfl, _, rfl, _, rfl, _, rfl, q1, _, _, iN (p.ps.getD k 0), rfl, rfl, sqT (s9 _ _ hq1'), atp, _, _, rfl, rfl, q1, k, .int (((p.ps.getD k 0 : Nat) : Int) + 1), p.ps.map iN, congrArg (fun z => [V.ref q1, V.int z, V.int (((p.ps.getD k 0 : Nat) : Int) + 1)]) e0, s9 _ _ hq1', by rw [List.length_map]; omega, by rw [List.length_map]; omega, fun p10 H10 s10 h10 => ?_⟩
            refine ⟨_, rfl, _, rfl, _, rfl, by show 1 ≤ sizeLine; decide, fun p11 H11 s11 h11 => ⟨q3, p11, _, _, rfl, rfl, (hq3'.same (s9.trans s10)).same s11, h11, by rw [sizeLine_eq, List.length_map]; show _ + 1 ≤ _; omega, fun p12 H12 s12 h12 => ⟨by show 3 ≤ sizeLine; decide, fun t13 ht13 => ?_⟩⟩⟩
            have s912 := ((s9.trans s10).trans s11).trans s12
            have sx13 := same_new (o := .tup [.ref p10, .ref p9, .ref p12]) ht13
            have hx13 : upd H12 t13 (.tup [.ref p10, .ref p9, .ref p12]) t13 = some (.tup [.ref p10, .ref p9, .ref p12]) := upd_same
            generalize upd H12 t13 (.tup [.ref p10, .ref p9, .ref p12]) = H13 at sx13 hx13 ⊢
            have s613 := s912.trans sx13
            have hL13 := s613 _ _ hL6
            have nl := NL.put (o := .lst ((acc ++ [.ref t1]) ++ [.ref t13])) hL13
            refine ⟨L, _, .ref t13, rfl, rfl, hL13, len20 (by rw [List.length_append, List.length_singleton]; omega), ⟨(b6.trans (But.of s613)).put, _, upd_same, ?_⟩, _, _, _, _, _, rfl⟩
            rw [take_snoc hp, List.flatMap_append]
            have e : goOn W.T W.R ls t k p = [p] ++ [moved W.T ls t k p] := if_pos hmay
            rw [show ([p] : List PS3).flatMap (goOn W.T W.R ls t k) = goOn W.T W.R ls t k p by simp, e, ← List.append_assoc]
            refine Paired.snoc' (Paired.mapP P6 fun _ _ h => h.keep ((NL.of s613).trans nl)) ?_
            have up : ∀ {b : Addr} {zs : List V}, H13 b = some (.tup zs) → upd H13 L (.lst ((acc ++ [.ref t1]) ++ [.ref t13])) b = some (.tup zs) := fun e => nl _ _ e (fun _ z => nomatch z)
            refine ⟨t13, p10, p9, p12, rfl, up hx13, up (sx13 _ _ (s12 _ _ (s11 _ _ ?_))), up (sx13 _ _ (s12 _ _ (s11 _ _ (s10 _ _ ?_)))), nl.fz (FzT.cast (h12.same sx13) ?_)⟩
            · rw [h10]
              show some (HO.tup _) = some (HO.tup ((p.ps.set k (p.ps.getD k 0 + 1)).map iN))
              rw [List.map_set]; rfl
            · rw [h9]
              show some (HO.tup _) = some (HO.tup ((p.rd.set k (t + W.T (roadK ls p.ps k))).map V.int))
              rw [List.map_set, hrd]
            · show _ = (p.us ++ [roadK ls p.ps k]).map iN
              rw [List.map_append, hrd]; rfl
          · exact ⟨stay fun z => hc3 (decide_eq_true (by have := z.2; rw [hrd] at this; exact Int.ofNat_lt.mpr this)), _, _, _, _, _, rfl⟩
        · exact ⟨stay fun z => hd2 (decide_eq_true z.1.2), _, _, _, _, _, rfl⟩
      · refine ⟨stay fun z => hc (decide_eq_true ?_), _, _, _, _, _, rfl⟩
        rw [List.length_map]
        exact Int.ofNat_lt.mpr z.1.1
    · rintro σ H4 ⟨⟨b4, acc, hL4, Pa⟩, v8, v9, v10, v11, v12, rfl⟩
      rw [yl, List.take_length] at Pa
      exact ⟨_, rfl, back b4, L, acc, hL4, Pa, _, _, _, _, _, _, _, rfl⟩
  · rintro σ H2 ⟨s2, F, ys, hF2, P2, v6, v7, v8, v9, v10, v11, v12, rfl⟩
    have l2 := passL_len (T := W.T) (R := W.R) (ls := ls) (t := t) (s := s) ls.length
    have lk : 2 ^ ls.length ≤ 2 ^ 20 := Nat.pow_le_pow_right (by decide) (by omega)
    have yl : ys.length = (passL W.T W.R ls t s ls.length).length := Paired.length P2
    refine ⟨_, rfl, F, rfl, ⟨_, sqL hF2⟩, fun D hD => lc_list (xs := ys) (fun i H' => Same H2 H' ∧ ∃ ws, H' D = some (.lst ws) ∧ TdAll H' ws (((passL W.T W.R ls t s ls.length).take i).map fun p => dS2 (p.ps, p.rd))) ⟨same_new hD, [], upd_same, .nil⟩ (fun i H' _ h => sqL (h.1 _ _ hF2)) (fun i y H' hy ⟨s3, ws, e3, w3⟩ => ?_) fun H3 ⟨s3, ws, e3, w3⟩ => ?_⟩
    · obtain ⟨p, hp, y0⟩ := Paired.get' P2 hy
      obtain ⟨a, q1, q2, q3, rfl, ha, hq1, hq2, hq3⟩ := y0.keep (NL.of s3)
      refine ⟨a, _, rfl, sqT ha, rfl, _, _, rfl, _, _, rfl, _, _, rfl, rfl, rfl, _, rfl, _, rfl, by show 2 ≤ sizeLine; decide, fun t1 ht1 => ?_⟩
      have sx := same_new (o := .tup [.ref q1, .ref q2]) ht1
      have hx : upd H' t1 (.tup [.ref q1, .ref q2]) t1 = some (.tup [.ref q1, .ref q2]) := upd_same
      generalize upd H' t1 (.tup [.ref q1, .ref q2]) = H4 at sx hx ⊢
      have e4 := sx _ _ e3
      have wl : ws.length ≤ 2 ^ 20 := by
        have := w3.len
        rw [List.length_map, List.length_take] at this
        omega
      have tk : TK H4 (upd H4 D (.lst (ws ++ [.ref t1]))) := fun b zs e => by rw [upd_ne (ne_of e e4 (fun z => by cases z))]; exact e
      refine ⟨ws, e4, len20 (by omega), same_at (s3.trans sx) hD e4, _, upd_same, ?_⟩
      rw [take_snoc hp, List.map_append]
      exact ((w3.keep (TK.of sx)).keep tk).snoc ((mk_s2 (s := (p.ps, p.rd)) hx (sx _ _ hq1) (sx _ _ hq2)).keep tk)
    · rw [yl, List.take_length] at w3
      exact q D H3 ws (s2.trans s3) e3 w3
end
end Hc
end

section
/-! Plain law: the states of the search are few. -/
set_option autoImplicit false
set_option linter.all false
namespace Hc
section
variable {T : Nat → Int} {R : Nat → Nat} {ls : Lts} {hs : List Int}
def DomK (ls : Lts) (s0 : St2) (τ : Int) (s : St2) : Prop := WF ls s ∧ ∀ k, k < ls.length → (s.1.getD k 0 = s0.1.getD k 0 ∧ s.2.getD k 0 = max (s0.2.getD k 0) τ) ∨ (s.1.getD k 0 ≤ (wayK ls k).length ∧ 1 ≤ s.1.getD k 0 ∧ ∃ d : Nat, d < 3 ∧ s.2.getD k 0 = τ + d)
def PreD (ls : Lts) (s0 : St2) (τ : Int) (s : St2) : Prop := WF ls s ∧ ∀ k, k < ls.length → (s.1.getD k 0 = s0.1.getD k 0 ∧ (s.2.getD k 0 = s0.2.getD k 0 ∨ s.2.getD k 0 = max (s0.2.getD k 0) τ)) ∨ (s.1.getD k 0 ≤ (wayK ls k).length ∧ 1 ≤ s.1.getD k 0 ∧ ∃ d : Nat, d < 3 ∧ s.2.getD k 0 = τ + d)
theorem DomK.pre {s0 s : St2} {τ : Int} (h : DomK ls s0 τ s) : PreD ls s0 τ s := ⟨h.1, fun k hk => (h.2 k hk).elim (fun ⟨a, b⟩ => .inl ⟨a, .inr b⟩) .inr⟩
theorem PreD.first {s : St2} {τ : Int} (h : WF ls s) : PreD ls s τ s := ⟨h, fun k hk => .inl ⟨rfl, .inl rfl⟩⟩
theorem PreD.step (hT : ∀ r, 1 ≤ T r ∧ T r ≤ 3) {s0 s : St2} {τ : Int} (h : PreD ls s0 τ s) {p : PS3} (hp : p ∈ passL T R ls τ s ls.length) : DomK ls s0 (τ + 1) (aft τ p) := by
  obtain ⟨m, hm, rfl⟩ := mem_passL.mp hp
  have F := mkF (T := T) (t := τ) h.1 (m := m) (k := ls.length) (Nat.le_refl _)
  refine ⟨⟨F.lp, by show (List.map _ _).length = _; rw [List.length_map]; exact F.lr⟩, fun k hk => ?_⟩
  have e1 : (aft τ (mkP T ls τ s m ls.length)).1.getD k 0 = if m k = true then s.1.getD k 0 + 1 else s.1.getD k 0 := by
    show (mkP T ls τ s m ls.length).ps.getD k 0 = _
    rw [F.ps]
    by_cases q : m k = true
    · rw [if_pos ⟨hk, q⟩, if_pos q]
    · rw [if_neg (fun z => q z.2), if_neg q]
  have e2 : (aft τ (mkP T ls τ s m ls.length)).2.getD k 0 = max (if m k = true then τ + T (roadK ls s.1 k) else s.2.getD k 0) (τ + 1) := by
    show ((mkP T ls τ s m ls.length).rd.map fun r => max r (τ + 1)).getD k 0 = _
    rw [getD_map_max _ _ (by rw [F.lr]; exact hk), F.rd]
    by_cases q : m k = true
    · rw [if_pos ⟨hk, q⟩, if_pos q]
    · rw [if_neg (fun z => q z.2), if_neg q]
  rw [e1, e2]
  by_cases q : m k = true
  · rw [if_pos q, if_pos q]
    have F2 := mkF (T := T) (t := τ) h.1 (m := m) (k := k) (by omega)
    have hlt := (hm k hk q).1.1
    rw [F2.ps, if_neg (fun z => by omega)] at hlt
    have := hT (roadK ls s.1 k)
    exact .inr ⟨hlt, by omega, (T (roadK ls s.1 k) - 1).toNat, by omega, by omega⟩
  · rw [if_neg q, if_neg q]
    rcases h.2 k hk with ⟨a, b⟩ | ⟨a, b, d, hd, c⟩
    · exact .inl ⟨a, by omega⟩
    · refine .inr ⟨a, b, d - 1, by omega, by omega⟩
theorem LedF.preD (hT : ∀ r, 1 ≤ T r ∧ T r ≤ 3) {s0 : St2} (h : WF ls s0) {t : Int} : ∀ {n : Nat} {s : St2}, LedF T R ls hs t n s0 s → PreD ls s0 (t + n) s
  | 0, s, e => by
    have e : s = s0 := e
    subst e
    exact .first h
  | n + 1, s, l => by
    obtain ⟨s1, l1, ⟨_, ⟨p, hp, e⟩, _⟩⟩ := LedF.snoc.mp l
    have := ((LedF.preD hT h l1).step hT hp).pre
    rw [← e, show t + (n : Int) + 1 = t + ((n + 1 : Nat) : Int) by omega] at this
    exact this
def chs4 (ls : Lts) (s0 : St2) (τ : Int) (k : Nat) : List (Nat × Int) := (s0.1.getD k 0, max (s0.2.getD k 0) τ) :: (List.range (wayK ls k).length).flatMap fun j => (List.range 3).map fun d : Nat => (j + 1, τ + (d : Int))
def prodL {α : Type} : List (List α) → List (List α)
  | [] => [[]]
  | c :: cs => c.flatMap fun x => (prodL cs).map (x :: ·)
theorem mem_prodL {α : Type} : ∀ {cs : List (List α)} {l : List α}, l.length = cs.length → (∀ (i : Nat) (x : α) (c : List α), l[i]? = some x → cs[i]? = some c → x ∈ c) → l ∈ prodL cs
  | [], [], _, _ => List.mem_singleton.mpr rfl
  | c :: cs, x :: l, h, f => List.mem_flatMap.mpr ⟨x, f 0 x c rfl rfl, List.mem_map.mpr ⟨l, mem_prodL (by simpa using h) fun i y d h1 h2 => f (i + 1) y d (by simpa using h1) (by simpa using h2), rfl⟩⟩
theorem flat_len {α β : Type} (f : α → List β) (n : Nat) : ∀ l : List α, (∀ x ∈ l, (f x).length = n) → (l.flatMap f).length = l.length * n
  | [], _ => by simp
  | x :: l, h => by
    rw [List.flatMap_cons, List.length_append, h x (List.mem_cons_self ..), flat_len f n l fun y hy => h y (List.mem_cons_of_mem _ hy), List.length_cons, Nat.succ_mul, Nat.add_comm]
theorem len_prodL {α : Type} : ∀ cs : List (List α), (prodL cs).length = (cs.map List.length).foldr (· * ·) 1
  | [] => rfl
  | c :: cs => by
    show (c.flatMap fun x => (prodL cs).map (x :: ·)).length = c.length * _
    rw [flat_len _ (prodL cs).length c (fun x _ => List.length_map ..), len_prodL cs]
def wtL (ls : Lts) : Nat := (ls.map fun l => 1 + 3 * l.1.length).foldr (· * ·) 1
theorem chs4_len (s0 : St2) (τ : Int) (k : Nat) : (chs4 ls s0 τ k).length = 1 + 3 * (wayK ls k).length := by
  unfold chs4
  rw [List.length_cons, flat_len _ 3 _ (fun j _ => by rw [List.length_map, List.length_range]), List.length_range]
  omega
def enumK (ls : Lts) (s0 : St2) (τ : Int) : List St2 := (prodL ((List.range ls.length).map (chs4 ls s0 τ))).map fun l => (l.map (·.1), l.map (·.2))
theorem range_getD {α : Type} (d : α) : ∀ l : List α, (List.range l.length).map (fun k => l.getD k d) = l := fun l => by
  refine List.ext_getElem (by simp) fun i h1 h2 => ?_
  simp [h2]
theorem enumK_len (s0 : St2) (τ : Int) : (enumK ls s0 τ).length = wtL ls := by
  unfold enumK
  rw [List.length_map, len_prodL, List.map_map]
  unfold wtL
  have e : (List.range ls.length).map (List.length ∘ chs4 ls s0 τ) = ls.map fun l => 1 + 3 * l.1.length := by
    have h := (congrArg (List.map fun l : List Nat × Int => 1 + 3 * l.1.length) (range_getD ([], (0 : Int)) ls)).symm
    rw [h, List.map_map]
    exact List.map_congr_left fun k hk => chs4_len s0 τ k
  rw [e]
theorem DomK.enum {s0 s : St2} {τ : Int} (h : DomK ls s0 τ s) : s ∈ enumK ls s0 τ := by
  obtain ⟨⟨h1, h2⟩, h3⟩ := h
  refine List.mem_map.mpr ⟨(List.range ls.length).map fun k => (s.1.getD k 0, s.2.getD k 0), mem_prodL (by simp) fun i x c hx hc => ?_, ?_⟩
  · rw [List.getElem?_map] at hx hc
    obtain ⟨k, hk, rfl⟩ := Option.map_eq_some_iff.mp hx
    rw [hk] at hc
    cases hc
    have hk' : k < ls.length := List.mem_range.mp (List.mem_of_getElem? hk)
    unfold chs4
    rcases h3 k hk' with ⟨a, b⟩ | ⟨a, b, d, hd, c⟩
    · rw [a, b]; exact List.mem_cons_self ..
    · refine List.mem_cons_of_mem _ (List.mem_flatMap.mpr ⟨s.1.getD k 0 - 1, List.mem_range.mpr (by omega), List.mem_map.mpr ⟨d, List.mem_range.mpr hd, ?_⟩⟩)
      rw [c, show s.1.getD k 0 - 1 + 1 = s.1.getD k 0 by omega]
  · refine Prod.ext ?_ ?_
    · show ((List.range ls.length).map fun k => (s.1.getD k 0, s.2.getD k 0)).map (·.1) = s.1
      rw [List.map_map, ← h1]
      exact range_getD 0 s.1
    · show ((List.range ls.length).map fun k => (s.1.getD k 0, s.2.getD k 0)).map (·.2) = s.2
      rw [List.map_map, ← h2]
      exact range_getD 0 s.2
theorem wtL_cons (l : List Nat × Int) (ls : Lts) : wtL (l :: ls) = (1 + 3 * l.1.length) * wtL ls := rfl
theorem wtL_pos : ∀ ls : Lts, 1 ≤ wtL ls
  | [] => Nat.le_refl _
  | l :: ls => by
    rw [wtL_cons]
    have := wtL_pos ls
    calc 1 ≤ wtL ls := this
      _ = 1 * wtL ls := (Nat.one_mul _).symm
      _ ≤ _ := Nat.mul_le_mul_right _ (by omega)
theorem wtL_filter (q : List Nat × Int → Bool) : ∀ ls : Lts, wtL (ls.filter q) ≤ wtL ls
  | [] => Nat.le_refl _
  | l :: ls => by
    have ih := wtL_filter q ls
    by_cases h : q l = true
    · rw [List.filter_cons_of_pos h, wtL_cons, wtL_cons]
      exact Nat.mul_le_mul_left _ ih
    · rw [List.filter_cons_of_neg h, wtL_cons]
      calc wtL (ls.filter q) ≤ wtL ls := ih
        _ = 1 * wtL ls := (Nat.one_mul _).symm
        _ ≤ _ := Nat.mul_le_mul_right _ (by omega)
end
end Hc
end

section
set_option Elab.async false
set_option linter.all false
set_option maxRecDepth 100000
set_option maxHeartbeats 4000000
namespace Hc
open PySem PySem.Spec PyProof.Rows L2 HcR LamX
section
variable {P : Program} {w : World} {K : PySem.W.Frag} {mg : Str → Option Value} {base : Heap}

/-! ### the keys of the search -/
def keyS (s : St2) : NestedKey := .tup [KInts (nI s.1), KInts s.2]
theorem keyS_data (s : St2) : (keyS s).data = dS2 s := by
  show PyData.tuple [(KInts (nI s.1)).data, (KInts s.2).data] = _
  rw [kints_data, kints_data]; rfl
theorem keyS_depth (s : St2) : (keyS s).depth ≤ 8 := by
  show NestedKey.depthAll [KInts (nI s.1), KInts s.2] + 1 ≤ 8
  have : NestedKey.depthAll [KInts (nI s.1), KInts s.2] ≤ 1 := depthAll_le fun k hk => by
    simp only [List.mem_cons, List.not_mem_nil, or_false] at hk
    rcases hk with rfl | rfl
    · rw [kints_depth]; exact Nat.le_refl _
    · rw [kints_depth]; exact Nat.le_refl _
  omega
theorem dInts_inj {a b : List Int} (h : dInts a = dInts b) : a = b := map_inj' (fun x y h => PyData.int.inj h) (PyData.tuple.inj h)
theorem dS2_inj {s s' : St2} (h : dS2 s = dS2 s') : s = s' := by
  have h := PyData.tuple.inj h
  injection h with h1 h2
  injection h2 with h2 h3
  refine Prod.ext (map_inj' (fun x y h => Int.ofNat.inj h) (dInts_inj h1)) (dInts_inj h2)
theorem keyS_inj {s s' : St2} (h : keyS s = keyS s') : s = s' := dS2_inj (by rw [← keyS_data, ← keyS_data, h])
theorem mem_putN2 {xs : List NEnt} {k : NestedKey} {a : Addr} {v : V} {x : NEnt} (h : x ∈ putN xs k a v) : (∃ y ∈ xs, y.1 = x.1 ∧ y.2.1 = x.2.1) ∨ (x.1 = k ∧ x.2.1 = a) := by
  unfold putN at h
  split at h
  · obtain ⟨y, hy, e⟩ := List.mem_map.mp h
    refine .inl ⟨y, hy, ?_⟩
    split at e
    · rw [← e]; exact ⟨rfl, rfl⟩
    · rw [e]; exact ⟨rfl, rfl⟩
  · rcases List.mem_append.mp h with h | h
    · exact .inl ⟨x, h, rfl, rfl⟩
    · rw [List.mem_singleton.mp h]
      exact .inr ⟨rfl, rfl⟩
/-- the dict of the states behind a tick -/
structure KS (H : Hp) (A : St2 → Prop) (ents : List NEnt) : Prop where
  sound : ∀ e ∈ ents, ∃ s, e.1 = keyS s ∧ A s ∧ Td H (.ref e.2.1) (dS2 s)
  full : ∀ s, A s → keyS s ∈ ents.map (·.1)
  nodup : (ents.map (·.1)).Nodup
theorem KS.keep {H H' : Hp} {A : St2 → Prop} {ents : List NEnt} (h : KS H A ents) (k : TK H H') : KS H' A ents := ⟨fun e he => let ⟨s, a, b, c⟩ := h.sound e he; ⟨s, a, b, c.keep k⟩, h.full, h.nodup⟩
theorem KS.congr {H : Hp} {A A' : St2 → Prop} {ents : List NEnt} (h : KS H A ents) (e : ∀ s, A s ↔ A' s) : KS H A' ents := ⟨fun x hx => let ⟨s, a, b, c⟩ := h.sound x hx; ⟨s, a, (e s).mp b, c⟩, fun s a => h.full s ((e s).mpr a), h.nodup⟩
theorem KS.nks {H : Hp} {A : St2 → Prop} {ents : List NEnt} (h : KS H A ents) : NKs K H ents := fun x hx => by
  obtain ⟨s, a, _, c⟩ := h.sound x hx
  rw [a, keyS_data]
  exact ⟨c.dp, keyS_depth s⟩
theorem KS.put {H : Hp} {A : St2 → Prop} {ents : List NEnt} (h : KS H A ents) {b : Addr} {s1 : St2} {v : V} (t : Td H (.ref b) (dS2 s1)) : KS H (fun s => A s ∨ s = s1) (putN ents (keyS s1) b v) := by
  refine ⟨fun e he => ?_, fun s hs => (keys_putN ents (keyS s1) b v (keyS s)).mpr ?_, putN_keys _ _ _ _ h.nodup⟩
  · rcases mem_putN2 he with ⟨y, hy, e1, e2⟩ | ⟨e1, e2⟩
    · obtain ⟨s, a, c, d⟩ := h.sound y hy
      rw [← e1, ← e2]
      exact ⟨s, a, .inl c, d⟩
    · rw [e1, e2]
      exact ⟨s1, rfl, .inr rfl, t⟩
  · rcases hs with hs | rfl
    · exact .inl (h.full s hs)
    · exact .inr rfl
theorem KS.len {H : Hp} {A : St2 → Prop} {ents : List NEnt} (h : KS H A ents) {U : List St2} (hU : ∀ s, A s → s ∈ U) : ents.length ≤ U.length := by
  have := nodup_len h.nodup (u := U.map keyS) fun k hk => by
    obtain ⟨e, he, rfl⟩ := List.mem_map.mp hk
    obtain ⟨s, a, b, _⟩ := h.sound e he
    exact List.mem_map.mpr ⟨s, hU s b, a.symm⟩
  rwa [List.length_map, List.length_map] at this
theorem pick_list {α β : Type} {F : α → β → Prop} : ∀ {l : List α}, (∀ x ∈ l, ∃ y, F x y) → ∃ m, Paired F l m
  | [], _ => ⟨[], .nil⟩
  | x :: l, h => by
    obtain ⟨y, hy⟩ := h x (List.mem_cons_self ..)
    obtain ⟨m, hm⟩ := pick_list (l := l) fun z hz => h z (List.mem_cons_of_mem _ hz)
    exact ⟨y :: m, .cons hy hm⟩
theorem Paired.right {α β : Type} {F : α → β → Prop} : ∀ {l : List α} {m : List β}, Paired F l m → ∀ y ∈ m, ∃ x ∈ l, F x y
  | _, _, .nil, y, h => nomatch h
  | _, _, .cons a t, y, h => by
    rcases List.mem_cons.mp h with rfl | h
    · exact ⟨_, List.mem_cons_self .., a⟩
    · obtain ⟨x, hx, f⟩ := Paired.right t y h
      exact ⟨x, List.mem_cons_of_mem _ hx, f⟩
theorem Paired.left {α β : Type} {F : α → β → Prop} : ∀ {l : List α} {m : List β}, Paired F l m → ∀ x ∈ l, ∃ y ∈ m, F x y
  | _, _, .nil, y, h => nomatch h
  | _, _, .cons a t, y, h => by
    rcases List.mem_cons.mp h with rfl | h
    · exact ⟨_, List.mem_cons_self .., a⟩
    · obtain ⟨x, hx, f⟩ := Paired.left t y h
      exact ⟨x, List.mem_cons_of_mem _ hx, f⟩
theorem KS.list {H : Hp} {A : St2 → Prop} {ents : List NEnt} (h : KS H A ents) : ∃ Ss : List St2, Paired (fun (e : NEnt) s => e.1 = keyS s ∧ A s ∧ Td H (.ref e.2.1) (dS2 s)) ents Ss ∧ ∀ s, s ∈ Ss ↔ A s := by
  obtain ⟨Ss, hp⟩ := pick_list h.sound
  refine ⟨Ss, hp, fun s => ⟨fun hs => ?_, fun hs => ?_⟩⟩
  · obtain ⟨_, _, _, a, _⟩ := Paired.right hp s hs
    exact a
  · obtain ⟨e, he, e1⟩ := List.mem_map.mp (h.full s hs)
    obtain ⟨s', hs', e2, _⟩ := Paired.left hp e he
    rw [keyS_inj (e1.symm.trans e2)]
    exact hs'
/-- the states behind a tick, from the first ones of a list -/
def Nx (W : WD) (ls : List Letter) (hs : List Int) (t : Int) (Xs : List St2) (s' : St2) : Prop := ∃ s ∈ Xs, ¬ Late W.T t (stS ls hs s) ∧ ∃ p ∈ passL W.T W.R ls t s ls.length, s' = aft t p
theorem nd_neT {P : Program} {w : World} {a : Addr} {xs : List NEnt} {ys : List V} : HO.tup ys ≠ NdO P w a xs := fun z => by unfold NdO at z; cases z
theorem nd_neL {P : Program} {w : World} {a : Addr} {xs : List NEnt} {ys : List V} : HO.lst ys ≠ NdO P w a xs := fun z => by unfold NdO at z; cases z
def spLedOn (K : PySem.W.Frag) : Sp := fun vs H Q _ => ∃ (la ha rp tp sl : Addr) (W : WD) (xs : List V) (v0 : V) (ls : List Letter) (hs : List Int) (s0 : St2) (first last : Int) (n : Nat), vs = [.ref la, .ref ha, .ref rp, .ref tp, .ref sl, .int first, .int last] ∧ SqA K H la xs ∧ TdAll H xs (ls.map dLet) ∧ H ha = some (.lst (hs.map V.int)) ∧ H rp = some (.tup (W.rm.map iN)) ∧ H tp = some (.tup (W.tm.map iN)) ∧
  H sl = some (.lst [v0]) ∧ Td H v0 (dS2 s0) ∧ WF ls s0 ∧ hs.length = ls.length ∧ ls.length ≤ 20 ∧ (∀ l ∈ ls, GoodL l) ∧ wtL ls ≤ 16000000 ∧ last + 1 = first + n ∧ 0 ≤ first ∧ last ≤ 1000 ∧ ∀ p H' ws (Xs : List St2), Same H H' → H' p = some (.lst ws) → TdAll H' ws (Xs.map dS2) → (∀ s, s ∈ Xs ↔ LedF W.T W.R ls hs first n s0 s) → Q (.ref p) H'
theorem ok_led_on (ev : Ev mg) (D : Def K mg "_law_led_on" s_law_led_on) (h1 : Has P w K mg base CX0 1 "_law_any_late" ["_law_letters", "_law_homes", "_law_times", "_law_state", "_law_tick"] (spAnyLate K)) (h2 : Has P w K mg base CX0 2 "_law_passings" ["_law_letters", "_law_rooms", "_law_times", "_law_state", "_law_tick"] (spPassings K)) :
    Has P w K mg base CX0 3 "_law_led_on" ["_law_letters", "_law_homes", "_law_rooms", "_law_times", "_law_states", "_law_first", "_law_last"] (spLedOn K) := by
  refine .of D (fun _ _ _ _ _ _ us hl => match us, hl with | [_, _, _, _, _, _, _], _ => rfl) fun f fd F => F.ok sc_law_led_on (fun vs H Q E ⟨la, ha, rp, tp, sl, W, xs, v0, ls, hs, s0, first, last, n, e, _⟩ => by rw [e]; rfl) fun cdv A outer s' H vs Q E hr ⟨la, ha, rp, tp, sl, W, xs, v0, ls, hs, s0, first, last, n, e, hla, hxs, hha, hrp, htp, hsl, hv0, hwf, lh, l20, hg, hwt, hn, hf0, hl0, q⟩ => ?_
  subst e
  have hu := hr.units
  refine ⟨_, (PSs.nox (pss_cons (ps_for PassesOwn.never rfl (pi_range2 rfl ev.range (pa_cons (pv 5) (pa_cons (pe_op op_add (pv 6) pe_int) pa_nil))) (pg_name (i := 7) sc_law_led_on.nd rfl (.inr rfl)) (pss_cons (ps_set (i := 8) sc_law_led_on.nd rfl (.inl rfl) pe_nnew) (pss_cons (ps_for PassesOwn.never rfl (pi_list (pv 4)) (pg_name (i := 9) sc_law_led_on.nd rfl (.inl rfl)) (pss_one (ps_if (pt_not (pt_val (pe_has h1 (hr.mono (by decide)) (by rfl) (pa_cons (pv 0) (pa_cons (pv 1) (pa_cons (pv 3) (pa_cons (pv 9) (pa_cons (pv 7) pa_nil)))))))) (pss_one (ps_for PassesOwn.never rfl (pi_list (pe_has h2 hr (by rfl) (pa_cons (pv 0) (pa_cons (pv 2) (pa_cons (pv 3) (pa_cons (pv 9) (pa_cons (pv 7) pa_nil))))))) (pg_tup rfl (pgs_cons (pg_name (i := 10) sc_law_led_on.nd rfl (.inl rfl)) (pgs_cons (pg_name (i := 11) sc_law_led_on.nd rfl (.inl rfl)) pgs_nil))) (pss_one (ps_nput hu (pv 8) (pe_tup (pa_cons (pv 10) (pa_cons (pe_callTy ((tupOf (K := K) rfl)) (by rfl) ev.tuple (by decide +kernel) (pa_cons (pe_lc (own := [("_law_ready", 12)]) rfl sc_law_led_on.nd (pi_tup (pv 11)) (blkOk_by (own := [("_law_ready", 12)]) (N := sc_law_led_on_N) (sc := sc_law_led_on_S) (by decide +kernel)) (fun _ _ _ _ _ => (pg_name (i := 12) sc_law_led_on.nd rfl (.inl rfl))) (fun _ _ _ _ _ => pts_nil) (fun _ _ _ _ _ => (pe_callB ((call_max2 rfl)) (by rfl) ev.max (by decide +kernel) (pa_cons (pv 12) (pa_cons (pe_op op_add (pv 7) pe_int) pa_nil))))) pa_nil)) pa_nil))) pe_bl rfl)))) pss_nil))) (pss_one (ps_lock (ps_setLc (i := 4) (own := [("_law_state", 9)]) rfl sc_law_led_on.nd rfl rfl (sw_true rfl rfl rfl (by decide +kernel)) (pi_nkeys (pv 8)) (blkOk_by (own := [("_law_state", 9)]) (N := sc_law_led_on_N) (sc := sc_law_led_on_S) (by decide +kernel)) (fun _ _ _ _ _ => (pg_name (i := 9) sc_law_led_on.nd rfl (.inl rfl))) (fun _ _ _ _ _ => (pts_one (pt_not (pt_val (pe_has h1 (hr.mono (by decide)) (by rfl) (pa_cons (pv 0) (pa_cons (pv 1) (pa_cons (pv 3) (pa_cons (pv 9) (pa_cons (pe_op op_add (pv 7) pe_int) pa_nil)))))))))) (fun _ _ _ _ _ => (pv 9)))))))) (pss_one (ps_ret (pv 4))))), ?_⟩
  have hT : ∀ r, 1 ≤ W.T r ∧ W.T r ≤ 3 := W.T1
  have hT1 : ∀ r, 1 ≤ W.T r := fun r => (hT r).1
  refine ⟨_, rfl, _, rfl, _, _, rfl, rfl, first, last + 1, rfl, ⟨by omega, by omega, by omega, by omega⟩, ?_⟩
  rw [show (last + 1 - first).toNat = n by omega]
  refine for_range (lo := first) (n := n) (fun i σ H' => Same H H' ∧ ∃ sl' ws, ∃ Xs : List St2, H' sl' = some (.lst ws) ∧ TdAll H' ws (Xs.map dS2) ∧ (∀ s, s ∈ Xs ↔ LedF W.T W.R ls hs first i s0 s) ∧ ∃ v7 v8 v9 v10 v11, σ = [some (.ref la), some (.ref ha), some (.ref rp), some (.ref tp), some (.ref sl'), some (.int first), some (.int last), v7, v8, v9, v10, v11, none]) ⟨.refl H, sl, [v0], [s0], hsl, .cons hv0 .nil, fun s => List.mem_singleton, _, _, _, _, _, rfl⟩ ?_ ?_
  · rintro i σ H1 hi ⟨s1, sl', ws, Xs, hsl', hws, hX, v7, v8, v9, v10, v11, rfl⟩
    generalize ht : first + (i : Int) = t
    have hwfX : ∀ s ∈ Xs, WF ls s := fun s hs' => LedF.wf hT1 ((hX s).mp hs') hwf
    have dom : ∀ s' , Nx W ls hs t Xs s' → s' ∈ enumK ls s0 (t + 1) := by
      rintro s' ⟨s, hs', _, p, hp, rfl⟩
      have := LedF.preD hT hwf ((hX s).mp hs')
      rw [ht] at this
      exact (this.step hT hp).enum
    refine fun kd hkd => ?_
    have sk := same_new (o := NdO P w kd []) hkd
    have hk2 : upd H1 kd (NdO P w kd []) kd = some (NdO P w kd []) := upd_same
    have wl : ws.length = Xs.length := by rw [hws.len, List.length_map]
    have from1 : ∀ {H' : Hp}, But kd (upd H1 kd (NdO P w kd [])) H' → Same H1 H' := fun b c o e => b _ _ (sk _ _ e) (ne_of_none e hkd)
    refine ⟨_, rfl, sl', rfl, ⟨_, sqL (sk _ _ hsl')⟩, for_list (xs := ws) (fun j σ H' => (But kd (upd H1 kd (NdO P w kd [])) H' ∧ ∃ ents, H' kd = some (NdO P w kd ents) ∧ KS H' (Nx W ls hs t (Xs.take j)) ents) ∧ ∃ v9 v10 v11, σ = [some (.ref la), some (.ref ha), some (.ref rp), some (.ref tp), some (.ref sl'), some (.int first), some (.int last), some (.int t), some (.ref kd), v9, v10, v11, none]) ⟨⟨.refl _ _, [], hk2, ⟨(fun _ z => nomatch z), fun s ⟨_, z, _⟩ => absurd z (by rw [List.take_zero]; exact List.not_mem_nil), List.nodup_nil⟩⟩, _, _, _, rfl⟩ (fun j σ H' _ h => sqL (h.1.1 _ _ (sk _ _ hsl') (ne_of_none hsl' hkd))) ?_ ?_⟩
    · rintro j y σ H3 hy ⟨⟨b3, ents, hk3, K3⟩, v9, v10, v11, rfl⟩
      obtain ⟨s, hs', ts⟩ := hws.map_got hy
      have smem := List.mem_of_getElem? hs'
      have swf := hwfX s smem
      have s13 := from1 b3
      have s03 := s1.trans s13
      have ts3 := ts.keep (TK.of s13)
      obtain ⟨sp, p1, p2, rfl, hsp, hp1, hp2⟩ := td_s2 ts3
      refine ⟨_, rfl, _, rfl, _, rfl, _, rfl, _, rfl, la, ha, tp, sp, p1, p2, W, xs, ls, hs, s.1, s.2, t, rfl, hla.same s03, hxs.keep (TK.of s03), s03 _ _ hha, s03 _ _ htp, hsp, hp1, hp2, lh, swf.1, swf.2, l20, hg, fun b H4 s4 hb => ⟨b, rfl, ite2 (fun hc => ?_) fun hc => ?_⟩⟩
      · have hnl : ¬ Late W.T t (stS ls hs s) := fun z => by
          have := hb.mpr z
          rw [this] at hc
          cases hc
        have s04 := s03.trans s4
        have hk4 := s4 _ _ hk3
        have K4 := K3.keep (TK.of s4)
        refine ⟨_, rfl, _, rfl, _, rfl, _, rfl, _, rfl, la, rp, tp, sp, W, xs, ls, s, t, rfl, hla.same s04, hxs.keep (TK.of s04), s04 _ _ hrp, s04 _ _ htp, ts3.keep (TK.of s4), swf, l20, hg, fun p5 H5 ws5 s5 hp5 hw5 => ?_⟩
        have s05 := s04.trans s5
        have hk5 := s5 _ _ hk4
        have K5 := K4.keep (TK.of s5)
        have b5 : But kd (upd H1 kd (NdO P w kd [])) H5 := (b3.trans (But.of s4)).trans (But.of s5)
        have wl5 : ws5.length = (passL W.T W.R ls t s ls.length).length := by rw [hw5.len, List.length_map]
        refine ⟨p5, rfl, ⟨_, sqL hp5⟩, for_list (xs := ws5) (fun m σ H' => (But kd H5 H' ∧ ∃ ents, H' kd = some (NdO P w kd ents) ∧ KS H' (fun s' => Nx W ls hs t (Xs.take j) s' ∨ ∃ p ∈ (passL W.T W.R ls t s ls.length).take m, s' = aft t p) ents) ∧ ∃ v10 v11, σ = [some (.ref la), some (.ref ha), some (.ref rp), some (.ref tp), some (.ref sl'), some (.int first), some (.int last), some (.int t), some (.ref kd), some (.ref sp), v10, v11, none]) ⟨⟨.refl _ _, ents, hk5, K5.congr fun s' => ⟨.inl, fun z => z.elim id fun ⟨_, z, _⟩ => absurd z (by rw [List.take_zero]; exact List.not_mem_nil)⟩⟩, _, _, rfl⟩ (fun m σ H' _ h => sqL (h.1.1 _ _ hp5 (ne_of hp5 hk5 nd_neL))) ?_ ?_⟩
        · rintro m y2 σ H6 hy2 ⟨⟨b6, ents6, hk6, K6⟩, v10, v11, rfl⟩
          obtain ⟨p, hp, tp2⟩ := hw5.map_got hy2
          have tk56 : TK H5 H6 := fun b zs e => b6 _ _ e (ne_of e hk5 nd_neT)
          obtain ⟨a, q1, q2, rfl, haq, hq1, hq2⟩ := td_s2 (tp2.keep tk56)
          replace hq1 : H6 q1 = some (.tup (p.ps.map iN)) := hq1
          replace hq2 : H6 q2 = some (.tup (p.rd.map V.int)) := hq2
          obtain ⟨il, ir, iu⟩ := passL_inv (List.mem_of_getElem? hp)
          have prl : p.rd.length ≤ 20 := by have := swf.2; omega
          refine ⟨a, _, rfl, sqT haq, rfl, _, _, rfl, _, _, rfl, rfl, ?_⟩
          refine ⟨_, rfl, _, rfl, _, rfl, q2, rfl, ⟨_, sqT hq2⟩, fun D hD => lc_tup (xs := p.rd.map V.int) (fun i H' => Same H6 H' ∧ H' D = some (.lst (((p.rd.take i).map fun r => max r (t + 1)).map V.int))) ⟨same_new hD, upd_same⟩ (fun i H' _ h => sqT (h.1 _ _ hq2)) (fun i y3 H' hy3 ⟨s7, e7⟩ => ?_) fun H7 ⟨s7, e7⟩ => ?_⟩
          · rw [List.getElem?_map] at hy3
            obtain ⟨r, hr', rfl⟩ := Option.map_eq_some_iff.mp hy3
            have hi3 : i < p.rd.length := (List.getElem?_eq_some_iff.mp hr').1
            refine ⟨rfl, _, rfl, _, rfl, _, _, rfl, rfl, _, _, rfl, _, e7, len_line (by rw [List.length_map, List.length_map, List.length_take]; omega), same_at s7 hD e7, ?_⟩
            rw [upd_same, take_snoc hr', List.map_append, List.map_append]
            have hm : (if t + 1 > r then t + 1 else r) = max r (t + 1) := by split <;> omega
            show some (HO.lst (_ ++ [V.int (if t + 1 > r then t + 1 else r)])) = _
            rw [hm]; rfl
          · rw [List.length_map, List.take_length] at e7
            refine ⟨D, _, rfl, .inl ⟨sqL e7, fun tq htq => ⟨by show 2 ≤ sizeLine; decide, fun kp hkp => ?_⟩⟩⟩
            have s8 := same_new (o := .tup ((p.rd.map fun r => max r (t + 1)).map V.int)) htq
            have h8 : upd H7 tq (.tup ((p.rd.map fun r => max r (t + 1)).map V.int)) tq = some (.tup ((p.rd.map fun r => max r (t + 1)).map V.int)) := upd_same
            generalize upd H7 tq (.tup ((p.rd.map fun r => max r (t + 1)).map V.int)) = H8 at s8 h8 hkp ⊢
            have s9 := same_new (o := .tup [.ref q1, .ref tq]) hkp
            have h9 : upd H8 kp (.tup [.ref q1, .ref tq]) kp = some (.tup [.ref q1, .ref tq]) := upd_same
            generalize upd H8 kp (.tup [.ref q1, .ref tq]) = H9 at s9 h9 ⊢
            have s69 := (s7.trans s8).trans s9
            have hk9 := s69 _ _ hk6
            have K9 := K6.keep (TK.of s69)
            have tkey : Td H9 (.ref kp) (dS2 (aft t p)) := mk_s2 (s := aft t p) h9 (s69 _ _ hq1) (s9 _ _ h8)
            have el : ents6.length < sizeLine := by
              have := K9.len (U := enumK ls s0 (t + 1)) fun s' z => by
                rcases z with ⟨s2, z1, z2⟩ | ⟨p', z1, rfl⟩
                · exact dom s' ⟨s2, List.mem_of_mem_take z1, z2⟩
                · exact dom _ ⟨s, smem, hnl, p', List.mem_of_mem_take z1, rfl⟩
              rw [enumK_len] at this
              rw [sizeLine_eq]; omega
            refine ⟨kd, kp, ents6, keyS (aft t p), ⟨rfl, rfl, hk9, K9.nks, by rw [keyS_data]; exact tkey.dp, keyS_depth _⟩, el, ⟨(b6.trans (But.of s69)).put, _, upd_same, ?_⟩, _, _, rfl⟩
            refine ((K9.put (v := .bl true) tkey).keep fun b zs e => by rw [upd_ne (ne_of e hk9 nd_neT)]; exact e).congr fun s' => ?_
            rw [take_snoc hp]
            constructor
            · rintro ((z | ⟨p', z, e⟩) | rfl)
              · exact .inl z
              · exact .inr ⟨p', List.mem_append_left _ z, e⟩
              · exact .inr ⟨p, List.mem_append_right _ (List.mem_singleton.mpr rfl), rfl⟩
            · rintro (z | ⟨p', z, e⟩)
              · exact .inl (.inl z)
              · rcases List.mem_append.mp z with z | z
                · exact .inl (.inr ⟨p', z, e⟩)
                · rw [List.mem_singleton.mp z] at e
                  exact .inr e
        · rintro σ H6 ⟨⟨b6, ents6, hk6, K6⟩, v10, v11, rfl⟩
          rw [wl5, List.take_length] at K6
          refine ⟨⟨b5.trans b6, ents6, hk6, K6.congr fun s' => ?_⟩, _, _, _, rfl⟩
          rw [take_snoc hs']
          constructor
          · rintro (⟨s2, z1, z2⟩ | ⟨p, z, e⟩)
            · exact ⟨s2, List.mem_append_left _ z1, z2⟩
            · exact ⟨s, List.mem_append_right _ (List.mem_singleton.mpr rfl), hnl, p, z, e⟩
          · rintro ⟨s2, z1, z2, z3⟩
            rcases List.mem_append.mp z1 with z1 | z1
            · exact .inl ⟨s2, z1, z2, z3⟩
            · rw [List.mem_singleton.mp z1] at z3
              exact .inr z3
      · have hl : Late W.T t (stS ls hs s) := hb.mp (by cases b with
          | true => rfl
          | false => exact absurd rfl hc)
        refine ⟨⟨b3.trans (But.of s4), ents, s4 _ _ hk3, (K3.keep (TK.of s4)).congr fun s' => ?_⟩, _, _, _, rfl⟩
        rw [take_snoc hs']
        constructor
        · rintro ⟨s2, z1, z2⟩
          exact ⟨s2, List.mem_append_left _ z1, z2⟩
        · rintro ⟨s2, z1, z2, z3⟩
          rcases List.mem_append.mp z1 with z1 | z1
          · exact ⟨s2, z1, z2, z3⟩
          · rw [List.mem_singleton.mp z1] at z2
            exact absurd hl z2
    · rintro σ H3 ⟨⟨b3, ents, hk3, K3⟩, v9, v10, v11, rfl⟩
      rw [wl, List.take_length] at K3
      have s13 := from1 b3
      have s03 := s1.trans s13
      obtain ⟨Ss, hPS, hSs⟩ := K3.list
      have hkd0 : H kd = none := s1.free hkd
      have el : ents.length ≤ 16000000 := by
        have := K3.len dom
        rw [enumK_len] at this
        omega
      refine ⟨kd, _, hk3, True.intro, fun od => ?_⟩
      have fr : upd H3 kd (.frz od (NdO P w kd ents)) kd = some (.frz od (NdO P w kd ents)) := upd_same
      have ik : ∀ b u, b ≠ kd → H3 b = some u → upd H3 kd (.frz od (NdO P w kd ents)) b = some u := fun b u hb e => by rw [upd_ne hb]; exact e
      generalize upd H3 kd (.frz od (NdO P w kd ents)) = H4 at fr ik
      have s04 : Same H H4 := fun b u e => ik _ _ (ne_of_none e hkd0) (s03 _ _ e)
      have tk34 : TK H3 H4 := fun b zs e => ik _ _ (ne_of e hk3 nd_neT) e
      refine ⟨_, rfl, kd, od, ents, rfl, fr, fun D hD => lc_it walk_nkeys (fun m H' => Same H4 H' ∧ ∃ us, ∃ Y : List St2, H' D = some (.lst us) ∧ TdAll H' us (Y.map dS2) ∧ us.length ≤ m ∧ ∀ s, s ∈ Y ↔ s ∈ Ss.take m ∧ ¬ Late W.T (t + 1) (stS ls hs s)) ⟨same_new hD, [], [], upd_same, .nil, Nat.le_refl _, fun s => by rw [List.take_zero]; simp⟩ (fun m H' _ h => h.1 _ _ fr) (fun m y H' H'' hm ⟨s5, us, Y, e5, w5, l5, hY⟩ hy => ?_) fun H5 ⟨s5, us, Y, e5, w5, l5, hY⟩ => ?_⟩
      · obtain ⟨rfl, e, he, rfl⟩ := hy
        obtain ⟨s, hs', _, hA, te⟩ := Paired.get' hPS he
        have te5 := (te.keep tk34).keep (TK.of s5)
        obtain ⟨sp, p1, p2, esp, hsp, hp1, hp2⟩ := td_s2 te5
        have s05 := s04.trans s5
        have swf : WF ls s := by
          obtain ⟨s2, z1, z2, p, z3, rfl⟩ := hA
          have := LedF.preD hT hwf ((hX s2).mp z1)
          rw [ht] at this
          exact (this.step hT z3).1
        refine ⟨rfl, _, rfl, _, rfl, _, rfl, _, rfl, _, rfl, _, _, rfl, rfl, la, ha, tp, sp, p1, p2, W, xs, ls, hs, s.1, s.2, t + 1, by rw [esp]; rfl, hla.same s05, hxs.keep (TK.of s05), s05 _ _ hha, s05 _ _ htp, hsp, hp1, hp2, lh, swf.1, swf.2, l20, hg, fun b H6 s6 hb => ⟨b, rfl, ite2 (fun hc => ?_) fun hc => ?_⟩⟩
        · have hnl : ¬ Late W.T (t + 1) (stS ls hs s) := fun z => by
            have := hb.mpr z
            rw [this] at hc
            cases hc
          have e6 := s6 _ _ e5
          have tk : TK H6 (upd H6 D (.lst (us ++ [.ref e.2.1]))) := fun b zs e => by rw [upd_ne (ne_of e e6 (fun z => by cases z))]; exact e
          refine ⟨_, rfl, us, e6, (by have : m < ents.length := hm; rw [sizeLine_eq]; omega), same_at (s5.trans s6) hD e6, _, Y ++ [s], upd_same, ?_, by rw [List.length_append, List.length_singleton]; omega, fun s' => ?_⟩
          · rw [List.map_append]
            exact ((w5.keep (TK.of s6)).keep tk).snoc ((te5.keep (TK.of s6)).keep tk)
          · rw [take_snoc hs', List.mem_append, List.mem_append, hY s', List.mem_singleton]
            constructor
            · rintro (⟨z1, z2⟩ | rfl)
              · exact ⟨.inl z1, z2⟩
              · exact ⟨.inr rfl, hnl⟩
            · rintro ⟨z1 | z1, z2⟩
              · exact .inl ⟨z1, z2⟩
              · exact .inr z1
        · have hl : Late W.T (t + 1) (stS ls hs s) := hb.mp (by cases b with
            | true => rfl
            | false => exact absurd rfl hc)
          refine ⟨s5.trans s6, us, Y, s6 _ _ e5, w5.keep (TK.of s6), by omega, fun s' => ?_⟩
          rw [take_snoc hs', List.mem_append, hY s', List.mem_singleton]
          constructor
          · rintro ⟨z1, z2⟩
            exact ⟨.inl z1, z2⟩
          · rintro ⟨z1 | rfl, z2⟩
            · exact ⟨z1, z2⟩
            · exact absurd hl z2
      · have nD : D ≠ kd := fun z => by rw [z, fr] at hD; cases hD
        have s06 : Same H (upd H5 kd (NdO P w kd ents)) := fun b u e => by
          rw [upd_ne (ne_of_none e hkd0)]
          exact s5 _ _ (s04 _ _ e)
        have fr5 := s5 _ _ fr
        refine ⟨fr5, s06, D, us, Y, by rw [upd_ne nD]; exact e5, w5.keep (fun b zs e => by rw [upd_ne (ne_of e fr5 (fun z => by cases z))]; exact e), fun s => ?_, _, _, _, _, _, rfl⟩
        rw [hY s, LedF.snoc, show ents.length = Ss.length from Paired.length hPS, List.take_length, hSs s, ht]
        constructor
        · rintro ⟨⟨s2, z1, z2, z3⟩, z4⟩
          exact ⟨s2, (hX s2).mp z1, z2, z3, z4⟩
        · rintro ⟨s2, z1, z2, z3, z4⟩
          exact ⟨⟨s2, (hX s2).mpr z1, z2, z3⟩, z4⟩
  · rintro σ H1 ⟨s1, sl', ws, Xs, hsl', hws, hX, v7, v8, v9, v10, v11, rfl⟩
    exact ⟨_, rfl, q sl' H1 ws Xs s1 hsl' hws hX⟩
end
end Hc
end

section
set_option Elab.async false
set_option linter.all false
set_option maxRecDepth 100000
set_option maxHeartbeats 4000000
namespace Hc
open PySem PySem.Spec PyProof.Rows L2 HcR LamX
section
variable {P : Program} {w : World} {K : PySem.W.Frag} {mg : Str → Option Value} {base : Heap}

/-! ### the law's both_lost -/
def homesOf (rs : List (List Int)) : List Int := rs.map fun r => r.getLastD 0
def lastOf (hs : List Int) (u : Int) : Int := hs.foldr max u
theorem lastOf_ge (u : Int) : ∀ hs : List Int, u ≤ lastOf hs u ∧ ∀ h ∈ hs, h ≤ lastOf hs u
  | [] => ⟨Int.le_refl _, fun _ z => nomatch z⟩
  | h :: hs => by
    obtain ⟨a, b⟩ := lastOf_ge u hs
    have e : lastOf (h :: hs) u = max h (lastOf hs u) := rfl
    rw [e]
    refine ⟨by omega, fun x hx => ?_⟩
    rcases List.mem_cons.mp hx with rfl | hx
    · omega
    · have := b x hx; omega
theorem lastOf_mem (u : Int) : ∀ hs : List Int, lastOf hs u ∈ hs ++ [u]
  | [] => List.mem_singleton.mpr rfl
  | h :: hs => by
    have ih := lastOf_mem u hs
    have e : lastOf (h :: hs) u = max h (lastOf hs u) := rfl
    rw [e]
    by_cases q : h ≤ lastOf hs u
    · rw [Int.max_eq_right q]; exact List.mem_cons_of_mem _ ih
    · rw [Int.max_eq_left (by omega)]; exact List.mem_cons_self ..
def putL {α : Type} (d : α) (kn : List Nat) (xs base : List α) : Nat → List α
  | 0 => base
  | m + 1 => (putL d kn xs base m).set (kn.getD m 0) (xs.getD m d)
theorem putL_len {α : Type} (d : α) (kn : List Nat) (xs base : List α) : ∀ m, (putL d kn xs base m).length = base.length
  | 0 => rfl
  | m + 1 => by
    show (List.set _ _ _).length = _
    rw [List.length_set, putL_len d kn xs base m]
def base0 (ls : List Letter) : St2 := (ls.map fun _ => 0, ls.map (·.2))
def wideOf (ls : List Letter) (kn : List Nat) (s : St2) : St2 := (putL 0 kn s.1 (base0 ls).1 kn.length, putL 0 kn s.2 (base0 ls).2 kn.length)
def PairAt (H : Hp) (a : Addr) (ls : List Letter) (rs : List (List Int)) : Prop := ∃ x y, H a = some (.tup [x, y]) ∧ Td H x (dLets ls) ∧ Td H y (dRows rs)
theorem PairAt.keep {H H' : Hp} {a : Addr} {ls : List Letter} {rs : List (List Int)} (h : PairAt H a ls rs) (k : TK H H') : PairAt H' a ls rs := let ⟨x, y, e, t1, t2⟩ := h; ⟨x, y, k _ _ e, t1.keep k, t2.keep k⟩
theorem pi_tupK {X : Cx} {tg e : Expr} {te : TE} (h : X.K = K) (he : PE X e te) : PI X tg e (iTup K te) := by subst h; exact pi_tup he
theorem nums_filter (ls : List Letter) (u : Int) (b : Bool) : (numsOf ls u b ls.length).map (atL ls) = ls.filter fun l => decide (u < l.2) == b := by
  have h : (List.range ls.length).map (atL ls) = ls := range_getD ([], (0 : Int)) ls
  have h2 := List.filter_map (f := atL ls) (p := fun l : Letter => decide (u < l.2) == b) (l := List.range ls.length)
  rw [h] at h2
  exact h2.symm
abbrev scBL0 : Scope := { kind := ScopeKind.function, names := [(".0", NameKind.local), ("_law_day", NameKind.local)], isGenerator := false, isCoroutine := false }
/-- what the law's search says -/
def LawB (W : WD) (u : Int) (L : Nat → List Letter) (Rw : Nat → List (List Int)) : Prop :=
  let kn := numsOf (L 0) u false (L 0).length
  ∃ s, LedF W.T W.R (kn.map (atL (L 0))) (kn.map (homeAt (Rw 0))) 1 u.toNat (base0 (kn.map (atL (L 0)))) s ∧ ∀ j, j < 2 → ∃ s', LedF W.T W.R (L j) (homesOf (Rw j)) (u + 1) (lastOf (homesOf (Rw j)) u - u).toNat (wideOf (L j) kn s) s'
def spLLost : Sp := fun vs H Q _ => ∃ (dp rp tp : Addr) (W : WD) (u : Int) (t : Nat → Addr) (L : Nat → List Letter) (Rw : Nat → List (List Int)), vs = [.ref dp, .ref rp, .ref tp, .int u] ∧ H dp = some (.lst [.ref (t 0), .ref (t 1)]) ∧ H rp = some (.tup (W.rm.map iN)) ∧ H tp = some (.tup (W.tm.map iN)) ∧
  (∀ j, j < 2 → PairAt H (t j) (L j) (Rw j) ∧ Fits (L j) (Rw j) ∧ (∀ l ∈ L j, GoodL l) ∧ (L j).length ≤ 20 ∧ wtL (L j) ≤ 16000000 ∧ ∀ h ∈ homesOf (Rw j), h ≤ 900) ∧ 1 ≤ u ∧ u ≤ 900 ∧ (∀ k ∈ numsOf (L 0) u false (L 0).length, k < (L 1).length) ∧
  ∀ b H', Same H H' → (b = true ↔ ¬ LawB W u L Rw) → Q (.bl b) H'
theorem ok_llost (ev : Ev mg) (D : Def K mg "_law_both_lost" s_law_both_lost) (h1 : Has P w K mg base CX0 1 "_law_put" ["_law_thing", "_law_at", "_law_item"] spPut) (h2 : Has P w K mg base CX0 3 "_law_led_on" ["_law_letters", "_law_homes", "_law_rooms", "_law_times", "_law_states", "_law_first", "_law_last"] (spLedOn K)) :
    Has P w K mg base CX0 4 "_law_both_lost" ["_law_days_here", "_law_rooms", "_law_times", "_law_until"] spLLost := by
  refine .of D (fun _ _ _ _ _ _ us hl => match us, hl with | [_, _, _, _], _ => rfl) fun f fd F => F.ok sc_law_both_lost (fun vs H Q E ⟨dp, rp, tp, W, u, t, L, Rw, e, _⟩ => by rw [e]; rfl) fun cdv A outer s' H vs Q E hr ⟨dp, rp, tp, W, u, t, L, Rw, e, hdp, hrp, htp, hd, u1, u9, hk1, q⟩ => ?_
  subst e
  refine ⟨_, (PSs.nox (pss_cons (ps_set (i := 4) sc_law_both_lost.nd rfl (.inr rfl) (pe_lc (own := [("_law_day", 6)]) rfl sc_law_both_lost.nd (pi_list (pv 0)) (blkOk_by (own := [("_law_day", 6)]) (N := sc_law_both_lost_N) (sc := sc_law_both_lost_S) (by decide +kernel)) (fun _ _ _ _ _ => (pg_name (i := 6) sc_law_both_lost.nd rfl (.inl rfl))) (fun _ _ _ _ _ => pts_nil) (fun _ _ _ _ _ => (pe_lc (own := [("_law_row", 5)]) rfl sc_law_both_lost.nd (pi_tupK (K := K) rfl (pe_ix (ixT (K := K) rfl) (pv 6) pe_int (fun _ _ => rfl))) (blkOk_by (own := [("_law_row", 5)]) (N := sc_law_both_lost_N) (sc := scBL0) (by decide +kernel)) (fun _ _ _ _ _ => (pg_name (i := 5) sc_law_both_lost.nd rfl (.inl rfl))) (fun _ _ _ _ _ => pts_nil) (fun _ _ _ _ _ => (pe_ix (ixT (K := K) rfl) (pv 5) (pe_un un_neg pe_int) (fun _ _ => rfl))))))) (pss_cons (ps_setLc (i := 7) (own := [("_law_k", 8)]) rfl sc_law_both_lost.nd rfl rfl (sw_true rfl rfl rfl (by decide +kernel)) (pi_range1 rfl ev.range (pa_cons (pe_callB (lenS (K := K) rfl) (by rfl) ev.len PySem.boot_len (pa_cons (pe_ix (ixT (K := K) rfl) (pe_ix (ixL (K := K) rfl) (pv 0) pe_int (fun _ _ => rfl)) pe_int (fun _ _ => rfl)) pa_nil)) pa_nil)) (blkOk_by (own := [("_law_k", 8)]) (N := sc_law_both_lost_N) (sc := sc_law_both_lost_S) (by decide +kernel)) (fun _ _ _ _ _ => (pg_name (i := 8) sc_law_both_lost.nd rfl (.inl rfl))) (fun _ _ _ _ _ => (pts_one (pt_cmpR op_le (pe_ix (ixT (K := K) rfl) (pe_ix (ixT (K := K) rfl) (pe_ix (ixT (K := K) rfl) (pe_ix (ixL (K := K) rfl) (pv 0) pe_int (fun _ _ => rfl)) pe_int (fun _ _ => rfl)) (pv 8) (fun _ _ => rfl)) pe_int (fun _ _ => rfl)) (pv 3) (nomark _)))) (fun _ _ _ _ _ => (pv 8))) (pss_cons (ps_setLc (i := 9) (own := [("_law_k", 8)]) rfl sc_law_both_lost.nd rfl rfl (sw_true rfl rfl rfl (by decide +kernel)) (pi_list (pv 7)) (blkOk_by (own := [("_law_k", 8)]) (N := sc_law_both_lost_N) (sc := sc_law_both_lost_S) (by decide +kernel)) (fun _ _ _ _ _ => (pg_name (i := 8) sc_law_both_lost.nd rfl (.inl rfl))) (fun _ _ _ _ _ => pts_nil) (fun _ _ _ _ _ => (pe_ix (ixT (K := K) rfl) (pe_ix (ixT (K := K) rfl) (pe_ix (ixL (K := K) rfl) (pv 0) pe_int (fun _ _ => rfl)) pe_int (fun _ _ => rfl)) (pv 8) (fun _ _ => rfl)))) (pss_cons (ps_set (i := 10) sc_law_both_lost.nd rfl (.inl rfl) (pe_tup (pa_cons (pe_callTy ((tupOf (K := K) rfl)) (by rfl) ev.tuple (by decide +kernel) (pa_cons (pe_lc (own := [("_law_one", 11)]) rfl sc_law_both_lost.nd (pi_list (pv 9)) (blkOk_by (own := [("_law_one", 11)]) (N := sc_law_both_lost_N) (sc := sc_law_both_lost_S) (by decide +kernel)) (fun _ _ _ _ _ => (pg_name (i := 11) sc_law_both_lost.nd rfl (.inl rfl))) (fun _ _ _ _ _ => pts_nil) (fun _ _ _ _ _ => pe_int)) pa_nil)) (pa_cons (pe_callTy ((tupOf (K := K) rfl)) (by rfl) ev.tuple (by decide +kernel) (pa_cons (pe_lc (own := [("_law_one", 11)]) rfl sc_law_both_lost.nd (pi_list (pv 9)) (blkOk_by (own := [("_law_one", 11)]) (N := sc_law_both_lost_N) (sc := sc_law_both_lost_S) (by decide +kernel)) (fun _ _ _ _ _ => (pg_name (i := 11) sc_law_both_lost.nd rfl (.inl rfl))) (fun _ _ _ _ _ => pts_nil) (fun _ _ _ _ _ => (pe_ix (ixT (K := K) rfl) (pv 11) pe_int (fun _ _ => rfl)))) pa_nil)) pa_nil)))) (pss_cons (ps_for PassesOwn.never rfl (pi_list (pe_has h2 hr (by rfl) (pa_cons (pv 9) (pa_cons (pe_lc (own := [("_law_k", 8)]) rfl sc_law_both_lost.nd (pi_list (pv 7)) (blkOk_by (own := [("_law_k", 8)]) (N := sc_law_both_lost_N) (sc := sc_law_both_lost_S) (by decide +kernel)) (fun _ _ _ _ _ => (pg_name (i := 8) sc_law_both_lost.nd rfl (.inl rfl))) (fun _ _ _ _ _ => pts_nil) (fun _ _ _ _ _ => (pe_ix (ixL (K := K) rfl) (pe_ix (ixL (K := K) rfl) (pv 4) pe_int (fun _ _ => rfl)) (pv 8) (fun _ _ => rfl)))) (pa_cons (pv 1) (pa_cons (pv 2) (pa_cons (pe_lst (pa_cons (pv 10) pa_nil)) (pa_cons pe_int (pa_cons (pv 3) pa_nil))))))))) (pg_tup rfl (pgs_cons (pg_name (i := 12) sc_law_both_lost.nd rfl (.inl rfl)) (pgs_cons (pg_name (i := 13) sc_law_both_lost.nd rfl (.inl rfl)) pgs_nil))) (pss_cons (ps_set (i := 14) sc_law_both_lost.nd rfl (.inl rfl) pe_bl) (pss_cons (ps_for PassesOwn.never rfl (pi_range1 rfl ev.range (pa_cons pe_int pa_nil)) (pg_name (i := 15) sc_law_both_lost.nd rfl (.inl rfl)) (pss_cons (ps_set (i := 16) sc_law_both_lost.nd rfl (.inl rfl) (pe_ix (ixT (K := K) rfl) (pe_ix (ixL (K := K) rfl) (pv 0) (pv 15) (fun _ _ => rfl)) pe_int (fun _ _ => rfl))) (pss_cons (ps_set (i := 17) sc_law_both_lost.nd rfl (.inl rfl) (pe_callTy ((tupOf (K := K) rfl)) (by rfl) ev.tuple (by decide +kernel) (pa_cons (pe_lc (own := [("_law_one", 11)]) rfl sc_law_both_lost.nd (pi_tup (pv 16)) (blkOk_by (own := [("_law_one", 11)]) (N := sc_law_both_lost_N) (sc := sc_law_both_lost_S) (by decide +kernel)) (fun _ _ _ _ _ => (pg_name (i := 11) sc_law_both_lost.nd rfl (.inl rfl))) (fun _ _ _ _ _ => pts_nil) (fun _ _ _ _ _ => pe_int)) pa_nil))) (pss_cons (ps_set (i := 18) sc_law_both_lost.nd rfl (.inl rfl) (pe_callTy ((tupOf (K := K) rfl)) (by rfl) ev.tuple (by decide +kernel) (pa_cons (pe_lc (own := [("_law_one", 11)]) rfl sc_law_both_lost.nd (pi_tup (pv 16)) (blkOk_by (own := [("_law_one", 11)]) (N := sc_law_both_lost_N) (sc := sc_law_both_lost_S) (by decide +kernel)) (fun _ _ _ _ _ => (pg_name (i := 11) sc_law_both_lost.nd rfl (.inl rfl))) (fun _ _ _ _ _ => pts_nil) (fun _ _ _ _ _ => (pe_ix (ixT (K := K) rfl) (pv 11) pe_int (fun _ _ => rfl)))) pa_nil))) (pss_cons (ps_for PassesOwn.never rfl (pi_range1 rfl ev.range (pa_cons (pe_callB (lenS (K := K) rfl) (by rfl) ev.len PySem.boot_len (pa_cons (pv 7) pa_nil)) pa_nil)) (pg_name (i := 19) sc_law_both_lost.nd rfl (.inl rfl)) (pss_cons (ps_set (i := 17) sc_law_both_lost.nd rfl (.inl rfl) (pe_has h1 (hr.mono (by decide)) (by rfl) (pa_cons (pv 17) (pa_cons (pe_ix (ixL (K := K) rfl) (pv 7) (pv 19) (fun _ _ => rfl)) (pa_cons (pe_ix (ixT (K := K) rfl) (pv 12) (pv 19) (fun _ _ => rfl)) pa_nil))))) (pss_one (ps_set (i := 18) sc_law_both_lost.nd rfl (.inl rfl) (pe_has h1 (hr.mono (by decide)) (by rfl) (pa_cons (pv 18) (pa_cons (pe_ix (ixL (K := K) rfl) (pv 7) (pv 19) (fun _ _ => rfl)) (pa_cons (pe_ix (ixT (K := K) rfl) (pv 13) (pv 19) (fun _ _ => rfl)) pa_nil)))))))) (pss_cons (ps_set (i := 20) sc_law_both_lost.nd rfl (.inl rfl) (pe_callB ((maxK (K := K) rfl rfl)) (by rfl) ev.max (by decide +kernel) (pa_cons (pe_op op_cat (pe_ix (ixL (K := K) rfl) (pv 4) (pv 15) (fun _ _ => rfl)) (pe_lst (pa_cons (pv 3) pa_nil))) pa_nil))) (pss_one (ps_set (i := 14) sc_law_both_lost.nd rfl (.inl rfl) (pe_and (pv 14) (pe_one (pe_cmpR op_gt (pe_callB (lenS (K := K) rfl) (by rfl) ev.len PySem.boot_len (pa_cons (pe_has h2 hr (by rfl) (pa_cons (pv 16) (pa_cons (pe_ix (ixL (K := K) rfl) (pv 4) (pv 15) (fun _ _ => rfl)) (pa_cons (pv 1) (pa_cons (pv 2) (pa_cons (pe_lst (pa_cons (pe_tup (pa_cons (pv 17) (pa_cons (pv 18) pa_nil))) pa_nil)) (pa_cons (pe_op op_add (pv 3) pe_int) (pa_cons (pv 20) pa_nil)))))))) pa_nil)) pe_int (nomark _)))))))))))) (pss_one (ps_if (pt_val (pv 14)) (pss_one (ps_ret pe_bl)) pss_nil))))) (pss_one (ps_ret pe_bl)))))))), ?_⟩
  have u0 : u.toNat = u := by omega
  have pr : ∀ {j : Nat}, j < 2 → ∀ {H' : Hp}, Same H H' → ∃ (x y : Addr) (xs ys : List V), H' (t j) = some (.tup [.ref x, .ref y]) ∧ H' x = some (.tup xs) ∧ TdAll H' xs ((L j).map dLet) ∧ xs.length = (L j).length ∧ H' y = some (.tup ys) ∧ TdAll H' ys ((Rw j).map dInts) ∧ ys.length = (Rw j).length := fun {j} hj {H'} s => by
    obtain ⟨vx, vy, e, t1, t2⟩ := (hd j hj).1.keep (TK.of s)
    obtain ⟨x, xs, rfl, hx, wx, lx⟩ := tdLets t1
    obtain ⟨y, ys, rfl, hy, wy, ly⟩ := tdRows t2
    exact ⟨x, y, xs, ys, e, hx, wx, lx, hy, wy, ly⟩
  have rowl : ∀ {j : Nat}, j < 2 → (Rw j).length = (L j).length := fun hj => (hd _ hj).2.1.1
  have atd : ∀ {j : Nat}, j < 2 → atI [V.ref (t 0), .ref (t 1)] (0 + (j : Int)) = some (.ref (t j)) := fun {j} hj => by
    match j, hj with
    | 0, _ => exact atI_nat (j := 0) rfl
    | 1, _ => exact atI_nat (j := 1) rfl
  have rne : ∀ {j : Nat}, j < 2 → ∀ r ∈ Rw j, r ≠ [] := fun {j} hj r hr z => by
    obtain ⟨i, hi, e⟩ := List.mem_iff_getElem.mp hr
    have hi2 : i < (L j).length := by rw [← rowl hj]; exact hi
    have := (hd j hj).2.1.2 i _ _ (List.getElem?_eq_getElem hi2) (List.getElem?_eq_getElem hi)
    rw [e, z] at this
    have h2 := ((hd j hj).2.2.1 _ (List.getElem_mem hi2)).1
    exact h2 (List.length_eq_zero_iff.mp this.symm)
  refine ⟨_, rfl, dp, rfl, ⟨_, sqL hdp⟩, fun D hD => lc_list (xs := [.ref (t 0), .ref (t 1)]) (fun i H' => Same H H' ∧ ∃ us : List V, H' D = some (.lst us) ∧ us.length = i ∧ ∀ j, j < i → ∃ a, us[j]? = some (.ref a) ∧ a ≠ D ∧ H' a = some (.lst ((homesOf (Rw j)).map V.int))) ⟨same_new hD, [], upd_same, rfl, fun j h => absurd h (Nat.not_lt_zero j)⟩ (fun i H' _ h => sqL (h.1 _ _ hdp)) (fun j y H' hy ⟨s1, us, e1, l1, g1⟩ => ?_) fun H1 ⟨s1, us, e1, l1, g1⟩ => ?_⟩
  · obtain ⟨hj, rfl⟩ : j < 2 ∧ y = .ref (t j) := by
      match j, hy with
      | 0, hy => exact ⟨by decide, (Option.some.inj hy).symm⟩
      | 1, hy => exact ⟨by decide, (Option.some.inj hy).symm⟩
    obtain ⟨x, y', xs, ys, ht, hx, wx, lx, hy', wy, ly⟩ := pr hj s1
    refine ⟨rfl, _, rfl, t j, _, 1, .ref y', rfl, rfl, sqT ht, atI_nat (j := 1) rfl, y', rfl, ⟨_, sqT hy'⟩, fun D2 hD2 => lc_tup (xs := ys) (fun i H'' => Same H' H'' ∧ H'' D2 = some (.lst ((homesOf ((Rw j).take i)).map V.int))) ⟨same_new hD2, upd_same⟩ (fun i H'' _ h => sqT (h.1 _ _ hy')) (fun i z H'' hz ⟨s2, e2⟩ => ?_) fun H2 ⟨s2, e2⟩ => ?_⟩
    · obtain ⟨r, hr', tr⟩ := wy.map_got hz
      obtain ⟨c, rfl, hc⟩ := (tr.keep (TK.of s2)).ints
      have hi : i < (Rw j).length := (List.getElem?_eq_some_iff.mp hr').1
      have := rowl hj
      have := (hd j hj).2.2.2.1
      refine ⟨rfl, _, rfl, _, rfl, c, _, _, .int (r.getLastD 0), rfl, rfl, sqT hc, atI_lastD (rne hj r (List.mem_of_getElem? hr')), _, e2, len_line (by unfold homesOf; rw [List.length_map, List.length_map, List.length_take]; omega), same_at s2 hD2 e2, ?_⟩
      rw [upd_same, take_snoc hr']
      unfold homesOf
      rw [List.map_append, List.map_append]
      rfl
    · rw [ly, List.take_length] at e2
      have nD : D2 ≠ D := Ne.symm (ne_of_none e1 hD2)
      refine ⟨us, s2 _ _ e1, len_line (by omega), same_at (s1.trans s2) hD (s2 _ _ e1), us ++ [.ref D2], upd_same, by rw [List.length_append, l1]; rfl, fun k hk => ?_⟩
      by_cases hkj : k < j
      · obtain ⟨a, ea, na, ha⟩ := g1 k hkj
        exact ⟨a, by rw [List.getElem?_append_left (by omega)]; exact ea, na, by rw [upd_ne na]; exact s2 _ _ ha⟩
      · have : k = j := by omega
        subst this
        exact ⟨D2, by rw [List.getElem?_append_right (by omega), l1, Nat.sub_self]; rfl, nD, by rw [upd_ne nD]; exact e2⟩
  have hom : ∀ {j : Nat}, j < 2 → ∀ {H' : Hp}, Same H1 H' → ∃ a, atI us (0 + (j : Int)) = some (.ref a) ∧ H' a = some (.lst ((homesOf (Rw j)).map V.int)) := fun {j} hj {H'} s => by
    obtain ⟨a, ea, _, ha⟩ := g1 j hj
    exact ⟨a, by rw [show (0 + (j : Int)) = (j : Nat) by omega]; exact atI_nat ea, s _ _ ha⟩
  have hm1 := e1
  clear e1 l1 g1
  -- the known ones
  have l20 := (hd 0 (by decide)).2.2.2.1
  have hg0 := (hd 0 (by decide)).2.2.1
  obtain ⟨x0, y0, xs0, ys0, ht0, hx0, wx0, lx0, hy0, wy0, ly0⟩ := pr (j := 0) (by decide) s1
  refine ⟨_, rfl, dp, _, 0, .ref (t 0), rfl, rfl, sqL (s1 _ _ hdp), atI_nat (j := 0) rfl, t 0, _, 0, .ref x0, rfl, rfl, sqT ht0, atI_nat (j := 0) rfl, x0, _, rfl, .inr (sqT hx0), (xs0.length : Int), rfl, by omega, by omega, fun D3 hD3 => ?_⟩
  rw [show ((xs0.length : Int)).toNat = (L 0).length by omega]
  refine lc_range (lo := 0) (n := (L 0).length) (fun i H' => Same H1 H' ∧ H' D3 = some (.lst ((numsOf (L 0) u false i).map iN))) ⟨same_new hD3, upd_same⟩ (fun i H' hi ⟨s2, e2⟩ => ?_) fun H3 ⟨s3, e3⟩ => ?_
  · obtain ⟨x, hx, tx⟩ := wx0.map_got' (atL_get hi)
    obtain ⟨c1, c2, rfl, hc1, hc2⟩ := td_let (tx.keep (TK.of s2))
    have e0 : (0 + (i : Int)) = (i : Nat) := by omega
    refine ⟨rfl, _, rfl, dp, _, 0, .ref (t 0), rfl, rfl, sqL (s2 _ _ (s1 _ _ hdp)), atI_nat (j := 0) rfl, t 0, _, 0, .ref x0, rfl, rfl, sqT (s2 _ _ ht0), atI_nat (j := 0) rfl, _, rfl, x0, _, _, .ref c1, rfl, rfl, sqT (s2 _ _ hx0), by rw [e0]; exact atI_nat hx, c1, _, 1, .int (atL (L 0) i).2, rfl, rfl, sqT hc1, atI_nat (j := 1) rfl, _, rfl, _, _, rfl, rfl, _, rfl, ?_⟩
    rw [numsOf_succ]
    refine ite2 (fun hc => ?_) fun hc => ?_
    · have hle : (atL (L 0) i).2 ≤ u := of_decide_eq_true hc
      rw [if_pos (by rw [decide_eq_false (by omega)]; rfl)]
      have := numsOf_len (L 0) u false i
      refine ⟨_, rfl, _, e2, len_line (by rw [List.length_map]; omega), same_at s2 hD3 e2, ?_⟩
      rw [upd_same, List.map_append, e0]; rfl
    · have hgt : ¬ (atL (L 0) i).2 ≤ u := fun z => hc (decide_eq_true z)
      rw [if_neg (by rw [decide_eq_true (by omega)]; decide), List.append_nil]
      exact ⟨s2, e2⟩
  generalize hkn : numsOf (L 0) u false (L 0).length = kn at e3
  have knl : kn.length ≤ 20 := by
    have := numsOf_len (L 0) u false (L 0).length
    rw [hkn] at this
    omega
  have kn0 : ∀ k ∈ kn, k < (L 0).length := fun k hk => numsOf_lt (by rw [hkn]; exact hk)
  have knj : ∀ {j : Nat}, j < 2 → ∀ k ∈ kn, k < (L j).length := fun {j} hj k hk => by
    match j, hj with
    | 0, _ => exact kn0 k hk
    | 1, _ => exact hk1 k (by rw [hkn]; exact hk)
  have s13 : Same H H3 := s1.trans s3
  -- their letters
  refine ⟨_, rfl, D3, rfl, ⟨_, sqL e3⟩, fun D4 hD4 => lc_list (xs := kn.map iN) (fun i H' => Same H3 H' ∧ ∃ ws, H' D4 = some (.lst ws) ∧ TdAll H' ws (((kn.take i).map (atL (L 0))).map dLet)) ⟨same_new hD4, [], upd_same, .nil⟩ (fun i H' _ h => sqL (h.1 _ _ e3)) (fun i y H' hy ⟨s2, ws, e2, w2⟩ => ?_) fun H4 ⟨s4, ws4, e4, w4⟩ => ?_⟩
  · rw [List.getElem?_map] at hy
    obtain ⟨k, hk, rfl⟩ := Option.map_eq_some_iff.mp hy
    have hi : i < kn.length := (List.getElem?_eq_some_iff.mp hk).1
    obtain ⟨x, hx, tx⟩ := wx0.map_got' (atL_get (kn0 k (List.mem_of_getElem? hk)))
    have tx' := tx.keep (TK.of (s3.trans s2))
    have wl : ws.length ≤ 20 := by
      have := w2.len
      rw [List.length_map, List.length_map, List.length_take] at this
      omega
    have tk : TK H' (upd H' D4 (.lst (ws ++ [x]))) := fun b zs e => by rw [upd_ne (ne_of e e2 (fun z => by cases z))]; exact e
    refine ⟨rfl, _, rfl, dp, _, 0, .ref (t 0), rfl, rfl, sqL (s2 _ _ (s13 _ _ hdp)), atI_nat (j := 0) rfl, t 0, _, 0, .ref x0, rfl, rfl, sqT (s2 _ _ (s3 _ _ ht0)), atI_nat (j := 0) rfl, _, rfl, x0, _, _, x, rfl, rfl, sqT (s2 _ _ (s3 _ _ hx0)), atI_nat hx, ws, e2, len_line (by omega), same_at s2 hD4 e2, _, upd_same, ?_⟩
    rw [take_snoc hk, List.map_append, List.map_append]
    exact (w2.keep tk).snoc (tx'.keep tk)
  rw [List.length_map, List.take_length] at w4
  have lt20 : (kn.map (atL (L 0))).length ≤ 20 := by rw [List.length_map]; exact knl
  have ws4l : ws4.length = (kn.map (atL (L 0))).length := by rw [w4.len, List.length_map]
  have gLT : ∀ l ∈ kn.map (atL (L 0)), GoodL l := fun l hl => by
    obtain ⟨k, hk, rfl⟩ := List.mem_map.mp hl
    exact hg0 _ (List.mem_of_getElem? (atL_get (kn0 k hk)))
  have wLT : wtL (kn.map (atL (L 0))) ≤ 16000000 := by
    rw [← hkn, nums_filter]
    exact Nat.le_trans (wtL_filter _ _) (hd 0 (by decide)).2.2.2.2.1
  generalize hLT : kn.map (atL (L 0)) = LT at w4 lt20 ws4l gLT wLT
  have s14 : Same H H4 := s13.trans s4
  -- the beginning
  refine ⟨_, rfl, D4, rfl, ⟨_, sqL e4⟩, fun D5 hD5 => lc_list (xs := ws4) (fun i H' => Same H4 H' ∧ H' D5 = some (.lst (((LT.take i).map fun _ => (0 : Nat)).map iN))) ⟨same_new hD5, upd_same⟩ (fun i H' _ h => sqL (h.1 _ _ e4)) (fun i y H' hy ⟨s2, e2⟩ => ?_) fun H5 ⟨s5, e5⟩ => ?_⟩
  · obtain ⟨l, hl, _⟩ := w4.map_got hy
    have hi : i < LT.length := (List.getElem?_eq_some_iff.mp hl).1
    refine ⟨rfl, _, e2, len_line (by rw [List.length_map, List.length_map, List.length_take]; omega), same_at s2 hD5 e2, ?_⟩
    rw [upd_same, take_snoc hl, List.map_append, List.map_append]; rfl
  rw [ws4l, List.take_length] at e5
  refine ⟨D5, _, rfl, .inl ⟨sqL e5, fun b1 hb1 => ?_⟩⟩
  have s6 := same_new (o := .tup ((LT.map fun _ => (0 : Nat)).map iN)) hb1
  have h6 : upd H5 b1 (.tup ((LT.map fun _ => (0 : Nat)).map iN)) b1 = some (.tup ((LT.map fun _ => (0 : Nat)).map iN)) := upd_same
  generalize upd H5 b1 (.tup ((LT.map fun _ => (0 : Nat)).map iN)) = H6 at s6 h6 ⊢
  have s46 := s5.trans s6
  refine ⟨_, rfl, D4, rfl, ⟨_, sqL (s46 _ _ e4)⟩, fun D7 hD7 => lc_list (xs := ws4) (fun i H' => Same H6 H' ∧ H' D7 = some (.lst (((LT.take i).map (·.2)).map V.int))) ⟨same_new hD7, upd_same⟩ (fun i H' _ h => sqL (h.1 _ _ (s46 _ _ e4))) (fun i y H' hy ⟨s2, e2⟩ => ?_) fun H7 ⟨s7, e7⟩ => ?_⟩
  · obtain ⟨l, hl, tl⟩ := w4.map_got hy
    obtain ⟨c1, c2, rfl, hc1, hc2⟩ := td_let (tl.keep (TK.of (s46.trans s2)))
    have hi : i < LT.length := (List.getElem?_eq_some_iff.mp hl).1
    refine ⟨rfl, _, rfl, c1, _, 1, .int l.2, rfl, rfl, sqT hc1, atI_nat (j := 1) rfl, _, e2, len_line (by rw [List.length_map, List.length_map, List.length_take]; omega), same_at s2 hD7 e2, ?_⟩
    rw [upd_same, take_snoc hl, List.map_append, List.map_append]; rfl
  rw [ws4l, List.take_length] at e7
  refine ⟨D7, _, rfl, .inl ⟨sqL e7, fun b2 hb2 => ⟨by show 2 ≤ sizeLine; decide, fun bt hbt => ?_⟩⟩⟩
  have s8 := same_new (o := .tup ((LT.map (·.2)).map V.int)) hb2
  have h8 : upd H7 b2 (.tup ((LT.map (·.2)).map V.int)) b2 = some (.tup ((LT.map (·.2)).map V.int)) := upd_same
  generalize upd H7 b2 (.tup ((LT.map (·.2)).map V.int)) = H8 at s8 h8 hbt ⊢
  have s9 := same_new (o := .tup [.ref b1, .ref b2]) hbt
  have h9 : upd H8 bt (.tup [.ref b1, .ref b2]) bt = some (.tup [.ref b1, .ref b2]) := upd_same
  generalize upd H8 bt (.tup [.ref b1, .ref b2]) = H9 at s9 h9 ⊢
  have s49 := s46.trans ((s7.trans s8).trans s9)
  have s09 := s14.trans s49
  have s39 := s4.trans s49
  have s19 := s3.trans s39
  have tb : Td H9 (.ref bt) (dS2 (base0 LT)) := mk_s2 (s := base0 LT) h9 (s9 _ _ (s8 _ _ (s7 _ _ h6))) (s9 _ _ h8)
  -- the first search
  refine ⟨_, rfl, _, rfl, D3, rfl, ⟨_, sqL (s39 _ _ e3)⟩, fun D10 hD10 => lc_list (xs := kn.map iN) (fun i H' => Same H9 H' ∧ H' D10 = some (.lst (((kn.take i).map (homeAt (Rw 0))).map V.int))) ⟨same_new hD10, upd_same⟩ (fun i H' _ h => sqL (h.1 _ _ (s39 _ _ e3))) (fun i y H' hy ⟨s2, e2⟩ => ?_) fun H10 ⟨s10, e10⟩ => ?_⟩
  · rw [List.getElem?_map] at hy
    obtain ⟨k, hk, rfl⟩ := Option.map_eq_some_iff.mp hy
    have hi : i < kn.length := (List.getElem?_eq_some_iff.mp hk).1
    obtain ⟨a, ea, ha⟩ := hom (j := 0) (by decide) (s19.trans s2)
    have hkl : k < (Rw 0).length := by rw [rowl (by decide)]; exact kn0 k (List.mem_of_getElem? hk)
    refine ⟨rfl, _, rfl, D, us, 0, .ref a, rfl, rfl, sqL (s2 _ _ (s19 _ _ hm1)), by rw [show (0 : Int) = 0 + ((0 : Nat) : Int) by omega]; exact ea, _, rfl, a, _, _, .int (homeAt (Rw 0) k), rfl, rfl, sqL ha, atI_nat (by unfold homesOf homeAt; simp [hkl]), _, e2, len_line (by rw [List.length_map, List.length_map, List.length_take]; omega), same_at s2 hD10 e2, ?_⟩
    rw [upd_same, take_snoc hk, List.map_append, List.map_append]; rfl
  rw [List.length_map, List.take_length] at e10
  refine ⟨_, rfl, _, rfl, _, rfl, by show 1 ≤ sizeLine; decide, fun sl hsl => ?_⟩
  have s11 := same_new (o := .lst [.ref bt]) hsl
  have h11 : upd H10 sl (.lst [.ref bt]) sl = some (.lst [.ref bt]) := upd_same
  generalize upd H10 sl (.lst [.ref bt]) = H11 at s11 h11 ⊢
  have s911 := s10.trans s11
  have s011 := s09.trans s911
  refine ⟨_, rfl, D4, D10, rp, tp, sl, W, ws4, .ref bt, LT, kn.map (homeAt (Rw 0)), base0 LT, 1, u, u.toNat, rfl, .inl (sqL (s911 _ _ (s49 _ _ e4))), w4.keep (TK.of (s49.trans s911)), s11 _ _ e10, s011 _ _ hrp, s011 _ _ htp, h11, tb.keep (TK.of s911), ⟨by show (List.map _ _).length = _; rw [List.length_map], by show (List.map _ _).length = _; rw [List.length_map]⟩, by rw [← hLT, List.length_map, List.length_map], lt20, gLT, wLT, by omega, by decide, by omega, fun p12 H12 ws12 Xs s12 hp12 w12 hX => ?_⟩
  have s1_12 : Same H1 H12 := (s19.trans s911).trans s12
  have s0_12 : Same H H12 := s1.trans s1_12
  have hkp12 := s12 _ _ (s911 _ _ (s39 _ _ e3))
  have ws12l : ws12.length = Xs.length := by rw [w12.len, List.length_map]
  refine ⟨p12, rfl, ⟨_, sqL hp12⟩, for_list (xs := ws12) (fun i σ H' => (Same H12 H' ∧ ∀ m s, m < i → Xs[m]? = some s → ¬ ∀ j, j < 2 → ∃ s', LedF W.T W.R (L j) (homesOf (Rw j)) (u + 1) (lastOf (homesOf (Rw j)) u - u).toNat (wideOf (L j) kn s) s') ∧ ∃ v12 v13 v14 v15 v16 v17 v18 v19 v20, σ = [some (.ref dp), some (.ref rp), some (.ref tp), some (.int u), some (.ref D), none, none, some (.ref D3), none, some (.ref D4), some (.ref bt), none, v12, v13, v14, v15, v16, v17, v18, v19, v20]) ⟨⟨.refl _, fun m s h => absurd h (Nat.not_lt_zero m)⟩, _, _, _, _, _, _, _, _, _, rfl⟩ (fun i σ H' _ h => sqL (h.1.1 _ _ hp12)) ?_ ?_⟩
  · rintro i y σ H13 hy ⟨⟨s13', hn⟩, v12, v13, v14, v15, v16, v17, v18, v19, v20, rfl⟩
    obtain ⟨s, hs, ts⟩ := w12.map_got hy
    obtain ⟨sp, p1, p2, rfl, hsp, hp1, hp2⟩ := td_s2 (ts.keep (TK.of s13'))
    have swf : WF LT s := LedF.wf (fun r => (W.T1 r).1) ((hX s).mp (List.mem_of_getElem? hs)) ⟨by show (List.map _ _).length = _; rw [List.length_map], by show (List.map _ _).length = _; rw [List.length_map]⟩
    have sl1 : s.1.length = kn.length := by rw [swf.1, ← hLT, List.length_map]
    have sl2 : s.2.length = kn.length := by rw [swf.2, ← hLT, List.length_map]
    refine ⟨sp, _, rfl, sqT hsp, rfl, _, _, rfl, _, _, rfl, rfl, ?_⟩
    refine ⟨2, rfl, by decide, by decide, for_range (lo := 0) (n := 2) (fun j σ H' => (Same H13 H' ∧ ∃ b, (b = true ↔ ∀ j', j' < j → ∃ s', LedF W.T W.R (L j') (homesOf (Rw j')) (u + 1) (lastOf (homesOf (Rw j')) u - u).toNat (wideOf (L j') kn s) s') ∧ ∃ v15 v16 v17 v18 v19 v20, σ = [some (.ref dp), some (.ref rp), some (.ref tp), some (.int u), some (.ref D), none, none, some (.ref D3), none, some (.ref D4), some (.ref bt), none, some (.ref p1), some (.ref p2), some (.bl b), v15, v16, v17, v18, v19, v20])) ⟨.refl _, true, ⟨fun _ j' h => absurd h (Nat.not_lt_zero j'), fun _ => rfl⟩, _, _, _, _, _, _, rfl⟩ ?_ ?_⟩
    · rintro j σ H14 hj ⟨s14', b, hb, v15, v16, v17, v18, v19, v20, rfl⟩
      have sA : Same H12 H14 := s13'.trans s14'
      have s0A := s0_12.trans sA
      obtain ⟨x, y', xs, ys, htj, hx, wx, lx, hy', wy, ly⟩ := pr hj s0A
      have lj20 := (hd j hj).2.2.2.1
      refine ⟨_, rfl, _, rfl, dp, _, _, .ref (t j), rfl, rfl, sqL (s0A _ _ hdp), atd hj, t j, _, 0, .ref x, rfl, rfl, sqT htj, atI_nat (j := 0) rfl, ?_⟩
      -- wide
      refine ⟨_, rfl, x, rfl, ⟨_, sqT hx⟩, fun D15 hD15 => lc_tup (xs := xs) (fun i H' => Same H14 H' ∧ H' D15 = some (.lst ((((L j).take i).map fun _ => (0 : Nat)).map iN))) ⟨same_new hD15, upd_same⟩ (fun i H' _ h => sqT (h.1 _ _ hx)) (fun i y H' hy ⟨s2, e2⟩ => ?_) fun H15 ⟨s15, e15⟩ => ?_⟩
      · obtain ⟨l, hl, _⟩ := wx.map_got hy
        have hi : i < (L j).length := (List.getElem?_eq_some_iff.mp hl).1
        refine ⟨rfl, _, e2, len_line (by rw [List.length_map, List.length_map, List.length_take]; omega), same_at s2 hD15 e2, ?_⟩
        rw [upd_same, take_snoc hl, List.map_append, List.map_append]; rfl
      rw [lx, List.take_length] at e15
      refine ⟨D15, _, rfl, .inl ⟨sqL e15, fun w1 hw1 => ?_⟩⟩
      have s16 := same_new (o := .tup (((L j).map fun _ => (0 : Nat)).map iN)) hw1
      have h16 : upd H15 w1 (.tup (((L j).map fun _ => (0 : Nat)).map iN)) w1 = some (.tup (((L j).map fun _ => (0 : Nat)).map iN)) := upd_same
      generalize upd H15 w1 (.tup (((L j).map fun _ => (0 : Nat)).map iN)) = H16 at s16 h16 ⊢
      have s1416 := s15.trans s16
      refine ⟨_, rfl, x, rfl, ⟨_, sqT (s1416 _ _ hx)⟩, fun D17 hD17 => lc_tup (xs := xs) (fun i H' => Same H16 H' ∧ H' D17 = some (.lst ((((L j).take i).map (·.2)).map V.int))) ⟨same_new hD17, upd_same⟩ (fun i H' _ h => sqT (h.1 _ _ (s1416 _ _ hx))) (fun i y H' hy ⟨s2, e2⟩ => ?_) fun H17 ⟨s17, e17⟩ => ?_⟩
      · obtain ⟨l, hl, tl⟩ := wx.map_got hy
        obtain ⟨c1, c2, rfl, hc1, hc2⟩ := td_let (tl.keep (TK.of (s1416.trans s2)))
        have hi : i < (L j).length := (List.getElem?_eq_some_iff.mp hl).1
        refine ⟨rfl, _, rfl, c1, _, 1, .int l.2, rfl, rfl, sqT hc1, atI_nat (j := 1) rfl, _, e2, len_line (by rw [List.length_map, List.length_map, List.length_take]; omega), same_at s2 hD17 e2, ?_⟩
        rw [upd_same, take_snoc hl, List.map_append, List.map_append]; rfl
      rw [lx, List.take_length] at e17
      refine ⟨D17, _, rfl, .inl ⟨sqL e17, fun w2 hw2 => ?_⟩⟩
      have s18 := same_new (o := .tup (((L j).map (·.2)).map V.int)) hw2
      have h18 : upd H17 w2 (.tup (((L j).map (·.2)).map V.int)) w2 = some (.tup (((L j).map (·.2)).map V.int)) := upd_same
      generalize upd H17 w2 (.tup (((L j).map (·.2)).map V.int)) = H18 at s18 h18 ⊢
      have s1418 := s1416.trans (s17.trans s18)
      have sB := sA.trans s1418
      have hkpB := sB _ _ hkp12
      have hp1B := s1418 _ _ (s14' _ _ hp1)
      have hp2B := s1418 _ _ (s14' _ _ hp2)
      -- the places put
      refine ⟨_, rfl, D3, _, rfl, .inl (sqL hkpB), ((kn.map iN).length : Int), rfl, by rw [List.length_map]; omega, by rw [List.length_map]; omega, ?_⟩
      rw [show ((((kn.map iN).length : Nat) : Int)).toNat = kn.length by rw [List.length_map]; omega]
      refine for_range (lo := 0) (n := kn.length) (fun m σ H' => Same H18 H' ∧ ∃ q1 q2, H' q1 = some (.tup ((putL 0 kn s.1 (base0 (L j)).1 m).map iN)) ∧ H' q2 = some (.tup ((putL 0 kn s.2 (base0 (L j)).2 m).map V.int)) ∧ ∃ v19, σ = [some (.ref dp), some (.ref rp), some (.ref tp), some (.int u), some (.ref D), none, none, some (.ref D3), none, some (.ref D4), some (.ref bt), none, some (.ref p1), some (.ref p2), some (.bl b), some (.int (0 + (j : Int))), some (.ref x), some (.ref q1), some (.ref q2), v19, v20]) ⟨.refl _, w1, w2, s18 _ _ (s17 _ _ h16), h18, _, rfl⟩ ?_ ?_
      · rintro m σ H19 hm ⟨s19', q1, q2, hq1, hq2, v19, rfl⟩
        have e0 : (0 + (m : Int)) = (m : Nat) := by omega
        have atk : atI (kn.map iN) (0 + (m : Int)) = some (iN (kn.getD m 0)) := by
          rw [e0]; exact atI_nat (by simp [hm])
        have at1 : atI (s.1.map iN) (0 + (m : Int)) = some (iN (s.1.getD m 0)) := by
          rw [e0]; exact atI_nat (by simp [show m < s.1.length by omega])
        have at2 : atI (s.2.map V.int) (0 + (m : Int)) = some (.int (s.2.getD m 0)) := by
          rw [e0]; exact atI_nat (by simp [show m < s.2.length by omega])
        have klt : kn.getD m 0 < (L j).length := by
          have : kn.getD m 0 ∈ kn := by
            rw [show kn.getD m 0 = kn[m] by simp [hm]]
            exact List.getElem_mem hm
          exact knj hj _ this
        have pl1 : (putL 0 kn s.1 (base0 (L j)).1 m).length = (L j).length := by rw [putL_len]; show (List.map _ _).length = _; rw [List.length_map]
        have pl2 : (putL 0 kn s.2 (base0 (L j)).2 m).length = (L j).length := by rw [putL_len]; show (List.map _ _).length = _; rw [List.length_map]
        refine ⟨_, rfl, _, rfl, _, rfl, D3, _, _, iN (kn.getD m 0), rfl, rfl, sqL (s19' _ _ hkpB), atk, _, rfl, _, rfl, p1, _, _, iN (s.1.getD m 0), rfl, rfl, sqT (s19' _ _ hp1B), at1, q1, kn.getD m 0, iN (s.1.getD m 0), (putL 0 kn s.1 (base0 (L j)).1 m).map iN, rfl, hq1, by rw [List.length_map, pl1]; exact klt, by rw [List.length_map, pl1]; omega, fun q3 H20 s20 h20 => ?_⟩
        have s1920 := s19'.trans s20
        refine ⟨_, rfl, _, rfl, _, rfl, D3, _, _, iN (kn.getD m 0), rfl, rfl, sqL (s1920 _ _ hkpB), atk, _, rfl, _, rfl, p2, _, _, .int (s.2.getD m 0), rfl, rfl, sqT (s1920 _ _ hp2B), at2, q2, kn.getD m 0, .int (s.2.getD m 0), (putL 0 kn s.2 (base0 (L j)).2 m).map V.int, rfl, s20 _ _ hq2, by rw [List.length_map, pl2]; exact klt, by rw [List.length_map, pl2]; omega, fun q4 H21 s21 h21 => ?_⟩
        refine ⟨s1920.trans s21, q3, q4, ?_, ?_, _, rfl⟩
        · rw [s21 _ _ h20]
          show some (HO.tup _) = some (HO.tup (((putL 0 kn s.1 (base0 (L j)).1 m).set (kn.getD m 0) (s.1.getD m 0)).map iN))
          rw [List.map_set]
        · rw [h21]
          show some (HO.tup _) = some (HO.tup (((putL 0 kn s.2 (base0 (L j)).2 m).set (kn.getD m 0) (s.2.getD m 0)).map V.int))
          rw [List.map_set]
      · rintro σ H19 ⟨s19', q1, q2, hq1, hq2, v19, rfl⟩
        have sC := sB.trans s19'
        have s1C := s1_12.trans sC
        have s0C := s0_12.trans sC
        obtain ⟨a, ea, ha⟩ := hom hj s1C
        have hol : (homesOf (Rw j)).length = (L j).length := by unfold homesOf; rw [List.length_map, rowl hj]
        refine ⟨_, rfl, _, rfl, D, us, _, .ref a, rfl, rfl, sqL (s1C _ _ hm1), ea, _, rfl, by show 1 ≤ sizeLine; decide, fun c hc => ?_⟩
        have s20 := same_new (o := .lst [.int u]) hc
        have h20 : upd H19 c (.lst [.int u]) c = some (.lst [.int u]) := upd_same
        generalize upd H19 c (.lst [.int u]) = H20 at s20 h20 ⊢
        refine ⟨a, c, _, _, rfl, rfl, s20 _ _ ha, h20, by rw [sizeLine_eq, List.length_map]; show _ + 1 ≤ _; omega, fun d hdd => ?_⟩
        have s21 := same_new (o := .lst ((homesOf (Rw j)).map V.int ++ [.int u])) hdd
        have h21 : upd H20 d (.lst ((homesOf (Rw j)).map V.int ++ [.int u])) d = some (.lst ((homesOf (Rw j)).map V.int ++ [.int u])) := upd_same
        generalize upd H20 d (.lst ((homesOf (Rw j)).map V.int ++ [.int u])) = H21 at s21 h21 ⊢
        refine ⟨d, homesOf (Rw j) ++ [u], rfl, sqL (by rw [List.map_append]; exact h21), by rw [List.length_append, List.length_singleton]; omega, fun m hmm1 hmm2 => ?_⟩
        have hm : m = lastOf (homesOf (Rw j)) u := by
          have h1 := hmm2 _ (lastOf_mem u (homesOf (Rw j)))
          obtain ⟨h2, h3⟩ := lastOf_ge u (homesOf (Rw j))
          have h4 : m ≤ lastOf (homesOf (Rw j)) u := by
            rcases List.mem_append.mp hmm1 with z | z
            · exact h3 _ z
            · rw [List.mem_singleton.mp z]; exact h2
          omega
        subst hm
        obtain ⟨hl2, hl3⟩ := lastOf_ge u (homesOf (Rw j))
        have hl9 : lastOf (homesOf (Rw j)) u ≤ 900 := by
          rcases List.mem_append.mp (lastOf_mem u (homesOf (Rw j))) with z | z
          · exact (hd j hj).2.2.2.2.2 _ z
          · rw [List.mem_singleton.mp z]; exact u9
        generalize hlast : lastOf (homesOf (Rw j)) u = last at hl2 hl3 hl9 ⊢
        have s1921 := s20.trans s21
        have more : ∀ {A B : Prop}, ((∀ j', j' < j + 1 → ∃ s', LedF W.T W.R (L j') (homesOf (Rw j')) (u + 1) (lastOf (homesOf (Rw j')) u - u).toNat (wideOf (L j') kn s) s') ↔ (∀ j', j' < j → ∃ s', LedF W.T W.R (L j') (homesOf (Rw j')) (u + 1) (lastOf (homesOf (Rw j')) u - u).toNat (wideOf (L j') kn s) s') ∧ ∃ s', LedF W.T W.R (L j) (homesOf (Rw j)) (u + 1) (lastOf (homesOf (Rw j)) u - u).toNat (wideOf (L j) kn s) s') := ⟨fun h => ⟨fun j' hj' => h j' (by omega), h j (by omega)⟩, fun h j' hj' => by
          by_cases e : j' = j
          · subst e; exact h.2
          · exact h.1 j' (by omega)⟩
        cases b with
        | false =>
          refine ⟨_, rfl, false, rfl, ?_⟩
          refine ⟨((s1418.trans s19').trans s1921 |> s14'.trans), false, ⟨(fun z => Bool.noConfusion z), fun z => hb.mpr (more (A := True) (B := True) |>.mp z).1⟩, _, _, _, _, _, _, rfl⟩
        | true =>
          have sD := sC.trans s1921
          have s1D := s1C.trans s1921
          have s0D := s0C.trans s1921
          have s1421 := (s1418.trans s19').trans s1921
          refine ⟨_, rfl, true, rfl, ?_⟩
          refine ⟨_, rfl, _, rfl, _, rfl, D, us, _, .ref a, rfl, rfl, sqL (s1D _ _ hm1), ea, _, rfl, _, rfl, _, rfl, _, rfl, by show 2 ≤ sizeLine; decide, fun tq htq => ⟨by show 1 ≤ sizeLine; decide, fun sl2 hsl2 => ?_⟩⟩
          have s22 := same_new (o := .tup [.ref q1, .ref q2]) htq
          have h22 : upd H21 tq (.tup [.ref q1, .ref q2]) tq = some (.tup [.ref q1, .ref q2]) := upd_same
          generalize upd H21 tq (.tup [.ref q1, .ref q2]) = H22 at s22 h22 hsl2 ⊢
          have s23 := same_new (o := .lst [.ref tq]) hsl2
          have h23 : upd H22 sl2 (.lst [.ref tq]) sl2 = some (.lst [.ref tq]) := upd_same
          generalize upd H22 sl2 (.lst [.ref tq]) = H23 at s23 h23 ⊢
          have s2123 := s22.trans s23
          have s1923 := s1921.trans s2123
          have s0E := s0D.trans s2123
          have tq2 : Td H23 (.ref tq) (dS2 (wideOf (L j) kn s)) := mk_s2 (s := wideOf (L j) kn s) (s23 _ _ h22) (s1923 _ _ hq1) (s1923 _ _ hq2)
          have wfw : WF (L j) (wideOf (L j) kn s) := ⟨by show (putL _ _ _ _ _).length = _; rw [putL_len]; show (List.map _ _).length = _; rw [List.length_map], by show (putL _ _ _ _ _).length = _; rw [putL_len]; show (List.map _ _).length = _; rw [List.length_map]⟩
          refine ⟨_, rfl, _, _, rfl, rfl, _, rfl, x, a, rp, tp, sl2, W, xs, .ref tq, L j, homesOf (Rw j), wideOf (L j) kn s, u + 1, last, (last - u).toNat, rfl, .inr (sqT (s2123 _ _ (s1921 _ _ (s19' _ _ (s1418 _ _ hx))))), wx.keep (TK.of ((s1418.trans s19').trans s1923)), s1923 _ _ ha, s0E _ _ hrp, s0E _ _ htp, h23, tq2, wfw, hol, lj20, (hd j hj).2.2.1, (hd j hj).2.2.2.2.1, by omega, by omega, by omega, fun p24 H24 ws24 Xs24 s24 hp24 w24 hX24 => ?_⟩
          refine ⟨p24, _, rfl, .inl (sqL hp24), _, _, rfl, rfl, ?_⟩
          have wl24 : ws24.length = Xs24.length := by rw [w24.len, List.length_map]
          refine ⟨s14'.trans ((s1421.trans s2123).trans s24), _, ?_, _, _, _, _, _, _, rfl⟩
          rw [more (A := True) (B := True)]
          constructor
          · intro z
            have hpos : (0 : Int) < (ws24.length : Int) := of_decide_eq_true z
            have hne : 0 < Xs24.length := by omega
            refine ⟨hb.mp rfl, Xs24[0], ?_⟩
            rw [hlast]
            exact (hX24 _).mp (List.getElem_mem hne)
          · rintro ⟨_, s', l⟩
            rw [hlast] at l
            have := List.length_pos_of_mem ((hX24 s').mpr l)
            exact decide_eq_true (by omega)
    · rintro σ H14 ⟨s14', b, hb, v15, v16, v17, v18, v19, v20, rfl⟩
      refine ⟨_, rfl, b, rfl, ite2 (fun hc => ?_) fun hc => ?_⟩
      · refine q false H14 ((s0_12.trans s13').trans s14') ⟨(fun z => Bool.noConfusion z), fun z => absurd ?_ z⟩
        refine ⟨s, ?_, ?_⟩
        · show LedF _ _ ((numsOf (L 0) u false (L 0).length).map (atL (L 0))) ((numsOf (L 0) u false (L 0).length).map (homeAt (Rw 0))) 1 u.toNat (base0 ((numsOf (L 0) u false (L 0).length).map (atL (L 0)))) s
          rw [hkn, hLT]
          exact (hX s).mp (List.mem_of_getElem? hs)
        · intro j hj
          rw [hkn]
          exact hb.mp hc j hj
      · refine ⟨⟨s13'.trans s14', fun m s' hm hs' => ?_⟩, _, _, _, _, _, _, _, _, _, rfl⟩
        rcases Nat.lt_succ_iff_lt_or_eq.mp hm with h | h
        · exact hn m s' h hs'
        · subst h
          rw [hs] at hs'
          cases hs'
          exact fun z => hc (hb.mpr z)
  · rintro σ H13 ⟨⟨s13', hn⟩, v12, v13, v14, v15, v16, v17, v18, v19, v20, rfl⟩
    refine q true H13 (s0_12.trans s13') ⟨fun _ => ?_, fun _ => rfl⟩
    rintro ⟨s, l, g⟩
    rw [hkn] at l g
    rw [hLT] at l
    obtain ⟨m, hm, e⟩ := List.mem_iff_getElem.mp ((hX s).mpr l)
    exact hn m s (by rw [ws12l]; exact hm) (by rw [← e]; exact List.getElem?_eq_getElem hm) g
end
end Hc
end

section
set_option Elab.async false
set_option linter.all false
set_option maxRecDepth 100000
set_option maxHeartbeats 4000000
namespace Hc
open PySem PySem.Spec PyProof.Rows L2 HcR LamX
section
variable {P : Program} {w : World} {K : PySem.W.Frag} {mg : Str → Option Value} {base : Heap}

/-! ### plain: the law's search says what both_lost says -/
theorem putL_in {α : Type} (d : α) {kn : List Nat} {xs base : List α} (hnd : kn.Nodup) (hb : ∀ k ∈ kn, k < base.length) : ∀ {m : Nat}, m ≤ kn.length → ∀ i, i < m → (putL d kn xs base m).getD (kn.getD i 0) d = xs.getD i d
  | 0, _, i, h => absurd h (Nat.not_lt_zero i)
  | m + 1, hm, i, h => by
    show (List.set _ _ _).getD _ _ = _
    have hkm : kn.getD m 0 = kn[m]'(by omega) := by simp [show m < kn.length by omega]
    have hki : kn.getD i 0 = kn[i]'(by omega) := by simp [show i < kn.length by omega]
    rw [getD_set]
    by_cases e : i = m
    · subst e
      rw [if_pos ⟨rfl, by rw [putL_len, hkm]; exact hb _ (List.getElem_mem _)⟩]
    · rw [if_neg, putL_in d hnd hb (m := m) (by omega) i (by omega)]
      rintro ⟨z, _⟩
      rw [hkm, hki] at z
      exact e ((List.getElem_inj hnd).mp z).symm
theorem putL_out {α : Type} (d : α) {kn : List Nat} {xs base : List α} {k : Nat} (hk : k ∉ kn) : ∀ {m : Nat}, m ≤ kn.length → (putL d kn xs base m).getD k d = base.getD k d
  | 0, _ => rfl
  | m + 1, hm => by
    show (List.set _ _ _).getD _ _ = _
    have hkm : kn.getD m 0 = kn[m]'(by omega) := by simp [show m < kn.length by omega]
    rw [getD_set, if_neg, putL_out d hk (by omega)]
    rintro ⟨z, _⟩
    rw [hkm] at z
    exact hk (z ▸ List.getElem_mem _)
theorem nums_nodup (ls : List Letter) (u : Int) (b : Bool) (n : Nat) : (numsOf ls u b n).Nodup := List.Nodup.sublist List.filter_sublist List.nodup_range
theorem nums_perm (ls : List Letter) (u : Int) (n : Nat) : (numsOf ls u false n ++ numsOf ls u true n).Perm (List.range n) := by
  have h := List.filter_append_perm (fun m => decide (u < (atL ls m).2) == false) (List.range n)
  have e : (List.range n).filter (fun m => !(decide (u < (atL ls m).2) == false)) = numsOf ls u true n := by
    unfold numsOf
    refine List.filter_congr fun m _ => ?_
    cases decide (u < (atL ls m).2) <;> rfl
  rw [e] at h
  exact h
theorem homesOf_getD (rs : List (List Int)) (k : Nat) : (homesOf rs).getD k 0 = homeAt rs k := by
  unfold homesOf homeAt
  by_cases h : k < rs.length
  · simp [h]
  · simp [Nat.le_of_not_lt h]
theorem wide_perm {ls : List Letter} {rs : List (List Int)} {u : Int} {kn : List Nat} {LT : List Letter} {hsK : List Int} (hkn : numsOf ls u false ls.length = kn) (hLT : kn.map (atL ls) = LT) (hH : kn.map (homeAt rs) = hsK) {s : St2} (hs : WF LT s) :
    (stS ls (homesOf rs) (wideOf ls kn s)).Perm (stS LT hsK s ++ partOf ls rs u 0 true) := by
  have hnd : kn.Nodup := by rw [← hkn]; exact nums_nodup ..
  have klt : ∀ k ∈ kn, k < ls.length := fun k hk => numsOf_lt (by rw [hkn]; exact hk)
  have ltl : LT.length = kn.length := by rw [← hLT, List.length_map]
  have b1 : ∀ k ∈ kn, k < (base0 ls).1.length := fun k hk => by show k < (List.map _ _).length; rw [List.length_map]; exact klt k hk
  have b2 : ∀ k ∈ kn, k < (base0 ls).2.length := fun k hk => by show k < (List.map _ _).length; rw [List.length_map]; exact klt k hk
  have pp := (nums_perm ls u ls.length).symm.map (ltK4 ls (homesOf rs) (wideOf ls kn s))
  rw [List.map_append, hkn] at pp
  have e1 : kn.map (ltK4 ls (homesOf rs) (wideOf ls kn s)) = stS LT hsK s := by
    refine List.ext_getElem (by unfold stS; rw [List.length_map, List.length_map, List.length_range, ltl]) fun i h1 h2 => ?_
    have hi : i < kn.length := by rw [List.length_map] at h1; exact h1
    have hki : kn.getD i 0 = kn[i] := by simp [hi]
    simp only [stS, List.getElem_map, List.getElem_range]
    unfold ltK4
    have a1 : (wideOf ls kn s).1.getD kn[i] 0 = s.1.getD i 0 := by
      rw [← hki]; exact putL_in 0 hnd b1 (Nat.le_refl _) i hi
    have a2 : (wideOf ls kn s).2.getD kn[i] 0 = s.2.getD i 0 := by
      rw [← hki]; exact putL_in 0 hnd b2 (Nat.le_refl _) i hi
    have a3 : wayK ls kn[i] = wayK LT i := by
      show (atL ls kn[i]).1 = (LT.getD i ([], 0)).1
      rw [← hLT]
      simp [hi]
    have a4 : (homesOf rs).getD kn[i] 0 = hsK.getD i 0 := by
      rw [homesOf_getD, ← hH]
      simp [hi]
    rw [a1, a2, a3, a4]
  have e2 : (numsOf ls u true ls.length).map (ltK4 ls (homesOf rs) (wideOf ls kn s)) = partOf ls rs u 0 true := by
    unfold partOf
    refine List.map_congr_left fun k hk => ?_
    have hkl := numsOf_lt hk
    have hout : k ∉ kn := fun z => by
      rw [← hkn] at z
      have z1 := (List.mem_filter.mp z).2
      have z2 := (List.mem_filter.mp hk).2
      cases q : decide (u < (atL ls k).2) with
      | true => rw [q] at z1; cases z1
      | false => rw [q] at z2; cases z2
    unfold ltK4 ltAt
    have a1 : (wideOf ls kn s).1.getD k 0 = 0 := by
      have := putL_out (0 : Nat) (xs := s.1) (base := (base0 ls).1) hout (Nat.le_refl _)
      refine this.trans ?_
      show (ls.map fun _ => 0).getD k 0 = 0
      simp [hkl]
    have a2 : (wideOf ls kn s).2.getD k 0 = (atL ls k).2 := by
      have := putL_out (0 : Int) (xs := s.2) (base := (base0 ls).2) hout (Nat.le_refl _)
      refine this.trans ?_
      show (ls.map (·.2)).getD k 0 = (ls.getD k ([], 0)).2
      simp [hkl]
    rw [a1, a2, homesOf_getD, List.drop_zero, Int.add_zero]
    rfl
  rw [e1, e2] at pp
  exact pp
/-- a day that the law draws -/
structure DOk (u : Int) (ls : List Letter) (rs : List (List Int)) : Prop where
  fit : rs.length = ls.length
  len : ls.length ≤ 20
  one : ∀ k, k < ls.length → GoodL (atL ls k) ∧ 1 ≤ (atL ls k).2 ∧ (atL ls k).2 ≤ 30 ∧ homeAt rs k ≤ 30
  late : ∀ k, k < ls.length → u < (atL ls k).2 → (atL ls k).1.dropLast = [] ∧ (atL ls k).2 ≤ homeAt rs k
  wt : wtS ((List.range ls.length).map (ltAt ls rs 0)) ≤ 100000
/-- the same letters up to u, and the same homes of them -/
structure Agr (u : Int) (ls ls' : List Letter) (rs rs' : List (List Int)) : Prop where
  nums : numsOf ls u false ls.length = numsOf ls' u false ls'.length
  same : ∀ k ∈ numsOf ls u false ls.length, (atL ls k).1 = (atL ls' k).1 ∧ (atL ls k).2 = (atL ls' k).2 ∧ homeAt rs k = homeAt rs' k
theorem Agr.early {u : Int} {ls ls' : List Letter} {rs rs' : List (List Int)} (h : Agr u ls ls' rs rs') (slack : Int) : partOf ls rs u slack false = partOf ls' rs' u slack false := by
  unfold partOf
  rw [← h.nums]
  refine List.map_congr_left fun k hk => ?_
  obtain ⟨a, b, c⟩ := h.same k hk
  unfold ltAt
  rw [a, b, c]
theorem Agr.symm {u : Int} {ls ls' : List Letter} {rs rs' : List (List Int)} (h : Agr u ls ls' rs rs') : Agr u ls' ls rs' rs := ⟨h.nums.symm, fun k hk => by
  rw [← h.nums] at hk
  obtain ⟨a, b, c⟩ := h.same k hk
  exact ⟨a.symm, b.symm, c.symm⟩⟩
theorem DOk.goodI {u : Int} {ls : List Letter} {rs : List (List Int)} (d : DOk u ls rs) : GoodI (partOf ls rs u 0 false ++ partOf ls rs u 0 true) := by
  have p : (partOf ls rs u 0 false ++ partOf ls rs u 0 true).Perm ((List.range ls.length).map (ltAt ls rs 0)) := by
    unfold partOf
    rw [← List.map_append]
    exact (nums_perm ls u ls.length).map _
  refine GoodI.perm ⟨fun x hx => ?_, by rw [List.length_map, List.length_range]; exact d.len, d.wt⟩ p
  obtain ⟨k, hk, rfl⟩ := List.mem_map.mp hx
  obtain ⟨⟨a, b, c⟩, e, f, g⟩ := d.one k (List.mem_range.mp hk)
  exact ⟨⟨a, b, c⟩, e, f, by show homeAt rs k + 0 ≤ 30; omega⟩
theorem wtS_pos : ∀ L : List Lt, 1 ≤ wtS L
  | [] => Nat.le_refl _
  | x :: L => by
    show 1 ≤ (2 + 3 * (x.rest.length - 1)) * wtS L
    have := wtS_pos L
    calc 1 ≤ wtS L := this
      _ = 1 * wtS L := (Nat.one_mul _).symm
      _ ≤ _ := Nat.mul_le_mul_right _ (by omega)
theorem wtS_append : ∀ L M : List Lt, wtS L ≤ wtS (L ++ M)
  | [], M => wtS_pos M
  | x :: L, M => by
    show (2 + 3 * (x.rest.length - 1)) * wtS L ≤ (2 + 3 * (x.rest.length - 1)) * wtS (L ++ M)
    exact Nat.mul_le_mul_left _ (wtS_append L M)
theorem goodP_of {W : WD} {u : Int} {ls ls' : List Letter} {rs rs' : List (List Int)} (d : DOk u ls rs) (d' : DOk u ls' rs') (a : Agr u ls ls' rs rs') (u1 : 1 ≤ u) (u30 : u ≤ 30) : GoodP (lostPD W u (1 - 1) ls ls' rs rs') := by
  have g := d.goodI
  have g' := d'.goodI
  have ge : partOf ls rs u (1 - 1) false = partOf ls' rs' u (1 - 1) false := a.early _
  refine ⟨u1, u30, Nat.le_refl _, by show 0 < 2; decide, ⟨fun x hx => g.letters x (List.mem_append_left _ hx), ?_, ?_⟩, fun l hl => ?_, fun l hl x hx => ?_⟩
  · have := g.len
    rw [List.length_append] at this
    show (partOf ls rs u (1 - 1) false).length ≤ 20
    have e : partOf ls rs u (1 - 1) false = partOf ls rs u 0 false := rfl
    rw [e]; omega
  · exact Nat.le_trans (wtS_append _ _) g.wt
  · have hl : l = partOf ls rs u (1 - 1) true ∨ l = partOf ls' rs' u (1 - 1) true := by
      have : l ∈ [partOf ls rs u (1 - 1) true, partOf ls' rs' u (1 - 1) true] := hl
      simpa using this
    rcases hl with rfl | rfl
    · exact g
    · show GoodI (partOf ls rs u (1 - 1) false ++ _)
      rw [ge]; exact g'
  · have hl : l = partOf ls rs u (1 - 1) true ∨ l = partOf ls' rs' u (1 - 1) true := by
      have : l ∈ [partOf ls rs u (1 - 1) true, partOf ls' rs' u (1 - 1) true] := hl
      simpa using this
    have go : ∀ {ls : List Letter} {rs : List (List Int)}, x ∈ partOf ls rs u (1 - 1) true → u + 1 ≤ x.ready := fun {ls rs} h => by
      obtain ⟨k, hk, rfl⟩ := List.mem_map.mp h
      have := (List.mem_filter.mp hk).2
      have h2 : u < (atL ls k).2 := by
        by_cases q : u < (atL ls k).2
        · exact q
        · rw [decide_eq_false q] at this; cases this
      show u + 1 ≤ (atL ls k).2
      omega
    rcases hl with rfl | rfl
    · exact go hx
    · exact go hx
/-- THE LAW'S SEARCH AND BOTH_LOST -/
theorem lawB_iff {W : WD} {u : Int} {L : Nat → List Letter} {Rw : Nat → List (List Int)} (d : ∀ j, j < 2 → DOk u (L j) (Rw j)) (a : Agr u (L 0) (L 1) (Rw 0) (Rw 1)) (u1 : 1 ≤ u) :
    LawB W u L Rw ↔ (lostPD W u (1 - 1) (L 0) (L 1) (Rw 0) (Rw 1)).B 1 (lostPD W u (1 - 1) (L 0) (L 1) (Rw 0) (Rw 1)).early := by
  have h1 : ∀ r, 1 ≤ W.T r := fun r => (W.T1 r).1
  show (∃ s, LedF W.T W.R ((numsOf (L 0) u false (L 0).length).map (atL (L 0))) ((numsOf (L 0) u false (L 0).length).map (homeAt (Rw 0))) 1 u.toNat (base0 ((numsOf (L 0) u false (L 0).length).map (atL (L 0)))) s ∧ ∀ j, j < 2 → ∃ s', LedF W.T W.R (L j) (homesOf (Rw j)) (u + 1) (lastOf (homesOf (Rw j)) u - u).toNat (wideOf (L j) (numsOf (L 0) u false (L 0).length) s) s') ↔ _
  generalize hkn : numsOf (L 0) u false (L 0).length = kn
  generalize hLT : kn.map (atL (L 0)) = LT
  generalize hH : kn.map (homeAt (Rw 0)) = hsK
  have hkn1 : numsOf (L 1) u false (L 1).length = kn := by rw [← a.nums, hkn]
  have hLT1 : kn.map (atL (L 1)) = LT := by
    rw [← hLT]
    refine List.map_congr_left fun k hk => ?_
    obtain ⟨x, y, _⟩ := a.same k (by rw [hkn]; exact hk)
    exact (Prod.ext x y).symm
  have hH1 : kn.map (homeAt (Rw 1)) = hsK := by
    rw [← hH]
    exact List.map_congr_left fun k hk => (a.same k (by rw [hkn]; exact hk)).2.2.symm
  have ltl : LT.length = kn.length := by rw [← hLT, List.length_map]
  have wf0 : WF LT (base0 LT) := ⟨by show (List.map _ _).length = _; rw [List.length_map], by show (List.map _ _).length = _; rw [List.length_map]⟩
  have hearly : stS LT hsK (base0 LT) = (lostPD W u (1 - 1) (L 0) (L 1) (Rw 0) (Rw 1)).early := by
    show _ = partOf (L 0) (Rw 0) u 0 false
    unfold partOf
    rw [hkn]
    refine List.ext_getElem (by unfold stS; rw [List.length_map, List.length_map, List.length_range, ltl]) fun i g1 g2 => ?_
    have hi : i < kn.length := by rw [List.length_map] at g2; exact g2
    simp only [stS, List.getElem_map, List.getElem_range]
    unfold ltK4 ltAt
    have a1 : (base0 LT).1.getD i 0 = 0 := by show (LT.map fun _ => 0).getD i 0 = 0; simp [ltl, hi]
    have a2 : (base0 LT).2.getD i 0 = (atL (L 0) kn[i]).2 := by
      show (LT.map (·.2)).getD i 0 = _
      rw [← hLT]; simp [hi]
    have a3 : wayK LT i = (atL (L 0) kn[i]).1 := by
      show (LT.getD i ([], 0)).1 = _
      rw [← hLT]; simp [hi]
    have a4 : hsK.getD i 0 = homeAt (Rw 0) kn[i] := by rw [← hH]; simp [hi]
    rw [a1, a2, a3, a4, List.drop_zero, Int.add_zero]
  rw [← hearly]
  have hG : ∀ S, (lostPD W u (1 - 1) (L 0) (L 1) (Rw 0) (Rw 1)).G S → ¬ Late W.T (u + 1) S := fun S g => by
    rintro ⟨x, hx, hq⟩
    exact (g (partOf (L 0) (Rw 0) u (1 - 1) true) (List.mem_cons_self ..)).not_late ⟨x, List.mem_append_left _ hx, hq⟩
  have lb := led_both (T := W.T) (R := W.R) (ls := LT) (hs := hsK) h1 hG u.toNat (t := 1) (s := base0 LT) (by omega) wf0
  refine Iff.trans ?_ lb.symm
  refine exists_congr fun s => and_congr_right fun hl => ?_
  have swf := LedF.wf h1 hl wf0
  have nl := LedF.not_late hl (.inl (by omega))
  rw [show (1 : Int) + (u.toNat : Int) = u + 1 by omega] at nl
  have one : ∀ j, j < 2 → numsOf (L j) u false (L j).length = kn → kn.map (atL (L j)) = LT → kn.map (homeAt (Rw j)) = hsK → ((∃ s', LedF W.T W.R (L j) (homesOf (Rw j)) (u + 1) (lastOf (homesOf (Rw j)) u - u).toNat (wideOf (L j) kn s) s') ↔ Sav W.T W.R (u + 1) (stS LT hsK s ++ partOf (L j) (Rw j) u 0 true)) := fun j hj e1 e2 e3 => by
    have pp := wide_perm e1 e2 e3 swf
    have wfw : WF (L j) (wideOf (L j) kn s) := ⟨by show (putL _ _ _ _ _).length = _; rw [putL_len]; show (List.map _ _).length = _; rw [List.length_map], by show (putL _ _ _ _ _).length = _; rw [putL_len]; show (List.map _ _).length = _; rw [List.length_map]⟩
    obtain ⟨g1, g2⟩ := lastOf_ge u (homesOf (Rw j))
    have nlw : ¬ Late W.T (u + 1) (stS (L j) (homesOf (Rw j)) (wideOf (L j) kn s)) := by
      rintro ⟨x, hx, hq1, hq2⟩
      rcases List.mem_append.mp (pp.mem_iff.mp hx) with z | z
      · exact nl ⟨x, z, hq1, hq2⟩
      · obtain ⟨k, hk, rfl⟩ := List.mem_map.mp z
        have hkl := numsOf_lt hk
        have := (List.mem_filter.mp hk).2
        have h2 : u < (atL (L j) k).2 := by
          by_cases q : u < (atL (L j) k).2
          · exact q
          · rw [decide_eq_false q] at this; cases this
        obtain ⟨c1, c2⟩ := (d j hj).late k hkl h2
        have hq2 : homeAt (Rw j) k + 0 < max (atL (L j) k).2 (u + 1) + tsum W.T (atL (L j) k).1.dropLast := hq2
        rw [c1] at hq2
        simp only [tsum] at hq2
        omega
    have ls := led_sav (T := W.T) (R := W.R) (ls := L j) (hs := homesOf (Rw j)) h1 (lastOf (homesOf (Rw j)) u - u).toNat (t := u + 1) (s := wideOf (L j) kn s) wfw (fun x hx => by
      unfold stS at hx
      obtain ⟨k, hk, rfl⟩ := List.mem_map.mp hx
      have hk := List.mem_range.mp hk
      show (homesOf (Rw j)).getD k 0 < _
      have hkr : k < (homesOf (Rw j)).length := by unfold homesOf; rw [List.length_map, (d j hj).fit]; exact hk
      have := g2 ((homesOf (Rw j)).getD k 0) (by rw [show (homesOf (Rw j)).getD k 0 = (homesOf (Rw j))[k] by simp [hkr]]; exact List.getElem_mem hkr)
      omega) nlw
    rw [← ls]
    exact ⟨fun z => z.mono h1 (.perm pp.symm), fun z => z.mono h1 (.perm pp)⟩
  constructor
  · intro h l hl
    have hl : l = partOf (L 0) (Rw 0) u (1 - 1) true ∨ l = partOf (L 1) (Rw 1) u (1 - 1) true := by
      have : l ∈ [partOf (L 0) (Rw 0) u (1 - 1) true, partOf (L 1) (Rw 1) u (1 - 1) true] := hl
      simpa using this
    rcases hl with rfl | rfl
    · exact (one 0 (by decide) hkn hLT hH).mp (h 0 (by decide))
    · exact (one 1 (by decide) hkn1 hLT1 hH1).mp (h 1 (by decide))
  · intro g j hj
    match j, hj with
    | 0, _ => exact (one 0 (by decide) hkn hLT hH).mpr (g (partOf (L 0) (Rw 0) u (1 - 1) true) (List.mem_cons_self ..))
    | 1, _ => exact (one 1 (by decide) hkn1 hLT1 hH1).mpr (g (partOf (L 1) (Rw 1) u (1 - 1) true) (List.mem_cons_of_mem _ (List.mem_cons_self ..)))
theorem lost_symm {W : WD} {u : Int} {ls ls' : List Letter} {rs rs' : List (List Int)} (a : Agr u ls ls' rs rs') : (lostPD W u (1 - 1) ls ls' rs rs').B 1 (lostPD W u (1 - 1) ls ls' rs rs').early ↔ (lostPD W u (1 - 1) ls' ls rs' rs).B 1 (lostPD W u (1 - 1) ls' ls rs' rs).early := by
  have e : (lostPD W u (1 - 1) ls' ls rs' rs).early = (lostPD W u (1 - 1) ls ls' rs rs').early := (a.early (1 - 1)).symm
  rw [e]
  have sw : ∀ {x y : List Lt} {S : List Lt}, (∀ l ∈ [x, y], Sav W.T W.R (u + 1) (S ++ l)) → ∀ l ∈ [y, x], Sav W.T W.R (u + 1) (S ++ l) := fun {x y S} h l hl => h l (by
    have : l = y ∨ l = x := by simpa using hl
    rcases this with rfl | rfl <;> simp)
  exact ⟨fun z => Both.congr (fun S g => sw g) z, fun z => Both.congr (fun S g => sw g) z⟩
end
end Hc
end

section
set_option Elab.async false
set_option linter.all false
set_option maxRecDepth 100000
set_option maxHeartbeats 4000000
namespace Hc
open PySem PySem.Spec PyProof.Rows L2 HcR LamX
section
variable {P : Program} {w : World} {K : PySem.W.Frag} {mg : Str → Option Value} {base : Heap}

/-! ### plain: equal cards, drawn days -/
mutual
def nb : PyData → Bool
  | .none => true
  | .int _ => true
  | .tuple xs => nbAll xs
  | .list xs => nbAll xs
  | _ => false
def nbAll : List PyData → Bool
  | [] => true
  | x :: xs => nb x && nbAll xs
end
mutual
theorem eqv_nb : ∀ d e : PyData, nb d = true → nb e = true → PyData.eqv d e = true → d = e
  | .none, e, h1, h2, h => by
    cases e with
    | none => rfl
    | _ => simp [PyData.eqv] at h
  | .int i, e, h1, h2, h => by
    cases e with
    | int j =>
      have : i = j := by simpa [PyData.eqv] using h
      rw [this]
    | bool b => simp [nb] at h2
    | _ => simp [PyData.eqv] at h
  | .tuple xs, e, h1, h2, h => by
    cases e with
    | tuple ys =>
      rw [eqvAll_nb xs ys (by simpa [nb] using h1) (by simpa [nb] using h2) (by simpa [PyData.eqv] using h)]
    | _ => simp [PyData.eqv] at h
  | .list xs, e, h1, h2, h => by
    cases e with
    | list ys =>
      rw [eqvAll_nb xs ys (by simpa [nb] using h1) (by simpa [nb] using h2) (by simpa [PyData.eqv] using h)]
    | _ => simp [PyData.eqv] at h
  | .bool _, e, h1, h2, h => by simp [nb] at h1
  | .str _, e, h1, h2, h => by simp [nb] at h1
  | .dict _, e, h1, h2, h => by simp [nb] at h1
theorem eqvAll_nb : ∀ xs ys : List PyData, nbAll xs = true → nbAll ys = true → PyData.eqvAll xs ys = true → xs = ys
  | [], [], _, _, _ => rfl
  | [], _ :: _, _, _, h => by simp [PyData.eqvAll] at h
  | _ :: _, [], _, _, h => by simp [PyData.eqvAll] at h
  | x :: xs, y :: ys, h1, h2, h => by
    have h1 : nb x = true ∧ nbAll xs = true := by simpa [nbAll] using h1
    have h2 : nb y = true ∧ nbAll ys = true := by simpa [nbAll] using h2
    have h : PyData.eqv x y = true ∧ PyData.eqvAll xs ys = true := by simpa [PyData.eqvAll] using h
    rw [eqv_nb x y h1.1 h2.1 h.1, eqvAll_nb xs ys h1.2 h2.2 h.2]
end
theorem nbAll_of : ∀ {xs : List PyData}, (∀ x ∈ xs, nb x = true) → nbAll xs = true
  | [], _ => rfl
  | x :: xs, h => by
    show (nb x && nbAll xs) = true
    rw [h x (List.mem_cons_self ..), nbAll_of fun y hy => h y (List.mem_cons_of_mem _ hy)]; rfl
theorem nb_ints (ns : List Int) : nb (dInts ns) = true := by
  show nbAll (ns.map PyData.int) = true
  refine nbAll_of fun x hx => ?_
  obtain ⟨n, _, rfl⟩ := List.mem_map.mp hx
  rfl
theorem nb_early (pl : List (List Nat)) (ls : List Letter) (rs : List (List Int)) (tick : Int) (n : Nat) : nb (.list (earlyD pl ls rs tick n)) = true := by
  show nbAll (earlyD pl ls rs tick n) = true
  refine nbAll_of fun x hx => ?_
  obtain ⟨i, _, rfl⟩ := List.mem_map.mp hx
  show nbAll [.int (i : Int), cardAt pl ls rs i] = true
  refine nbAll_of fun y hy => ?_
  simp only [List.mem_cons, List.not_mem_nil, or_false] at hy
  rcases hy with rfl | rfl
  · rfl
  · show nbAll [dWay (atL ls i).1, .int (atL ls i).2, .int ((rowAt rs i).getLastD 0), .tuple ((List.range (rowAt rs i).length).map (toldOf pl (atL ls i) (rowAt rs i)))] = true
    refine nbAll_of fun y hy => ?_
    simp only [List.mem_cons, List.not_mem_nil, or_false] at hy
    rcases hy with rfl | rfl | rfl | rfl
    · exact nb_ints _
    · rfl
    · rfl
    · show nbAll (List.map _ _) = true
      refine nbAll_of fun z hz => ?_
      obtain ⟨k, _, rfl⟩ := List.mem_map.mp hz
      unfold toldOf
      split <;> rfl
theorem map_eq_two {α : Type} {f g : α → PyData} (inj : ∀ x y, f x = g y → x = y) : ∀ {l m : List α}, l.map f = m.map g → l = m ∧ ∀ x ∈ l, f x = g x
  | [], [], _ => ⟨rfl, fun _ z => nomatch z⟩
  | [], _ :: _, h => by cases h
  | _ :: _, [], h => by cases h
  | x :: l, y :: m, h => by
    rw [List.map_cons, List.map_cons] at h
    injection h with h1 h2
    obtain ⟨a, b⟩ := map_eq_two inj h2
    have e := inj x y h1
    subst e
    subst a
    refine ⟨rfl, fun z hz => ?_⟩
    rcases List.mem_cons.mp hz with rfl | hz
    · exact h1
    · exact b z hz
theorem agr_of_eqv {pl : List (List Nat)} {ls ls' : List Letter} {rs rs' : List (List Int)} {u a : Int} (ha : 0 ≤ a) (h : PyData.eqv (.list (earlyD pl ls rs (u + a) ls.length)) (.list (earlyD pl ls' rs' (u + a) ls'.length)) = true) : Agr u ls ls' rs rs' := by
  have e := PyData.list.inj (eqv_nb _ _ (nb_early ..) (nb_early ..) h)
  unfold earlyD at e
  obtain ⟨e1, e2⟩ := map_eq_two (f := fun i : Nat => PyData.tuple [.int (i : Int), cardAt pl ls rs i]) (g := fun i : Nat => PyData.tuple [.int (i : Int), cardAt pl ls' rs' i]) (fun x y z => by
    have z := PyData.tuple.inj z
    injection z with z1 z2
    exact Int.ofNat.inj (PyData.int.inj z1)) e
  have same : ∀ k ∈ (List.range ls.length).filter (fun i => decide ((atL ls i).2 ≤ u + a)), (atL ls k).1 = (atL ls' k).1 ∧ (atL ls k).2 = (atL ls' k).2 ∧ homeAt rs k = homeAt rs' k := fun k hk => by
    have z := PyData.tuple.inj (e2 k hk)
    injection z with z1 z2
    injection z2 with z2 z3
    have z2 := PyData.tuple.inj z2
    injection z2 with y1 y2
    injection y2 with y2 y3
    injection y3 with y3 y4
    exact ⟨map_inj' (fun x y h => Int.ofNat.inj h) (dInts_inj y1), PyData.int.inj y2, PyData.int.inj y3⟩
  have nums : ∀ xs : List Letter, numsOf xs u false xs.length = ((List.range xs.length).filter fun i => decide ((atL xs i).2 ≤ u + a)).filter fun i => decide ((atL xs i).2 ≤ u) := fun xs => by
    unfold numsOf
    rw [List.filter_filter]
    refine List.filter_congr fun k _ => ?_
    by_cases q : (atL xs k).2 ≤ u
    · rw [decide_eq_false (by omega), decide_eq_true q, decide_eq_true (by omega)]; rfl
    · rw [decide_eq_true (by omega), decide_eq_false q]; rfl
  refine ⟨?_, fun k hk => ?_⟩
  · rw [nums ls, nums ls', ← e1]
    refine List.filter_congr fun k hk => ?_
    rw [(same k hk).2.1]
  · rw [nums ls] at hk
    exact same k (List.mem_filter.mp hk).1
theorem rowsL_at {rows : List DRow} {k : Nat} (h : k < rows.length) : atL (rowsL rows) k = (rows[k]).1 := by
  unfold atL rowsL
  simp [h]
theorem rowsR_at {rows : List DRow} {k : Nat} (h : k < rows.length) : homeAt (rowsR rows) k = (rows[k]).2.getLastD 0 := by
  unfold homeAt rowsR
  simp [h]
theorem shorts_wtS : ∀ {sh : List DRow}, (∀ r ∈ sh, Short r) → wtS (sh.map fun r => (⟨r.1.1, r.1.2, r.2.getLastD 0 + 0⟩ : Lt)) = 2 ^ sh.length
  | [], _ => rfl
  | r :: sh, h => by
    have h1 := (h r (List.mem_cons_self ..)).1
    have ih := shorts_wtS (sh := sh) fun q hq => h q (List.mem_cons_of_mem _ hq)
    show (2 + 3 * (r.1.1.length - 1)) * wtS _ = _
    rw [ih, List.length_cons, Nat.pow_succ]
    rcases h1 with e | e <;> (rw [e]; show 2 * _ = _; omega)
theorem shorts_wtL : ∀ {sh : List DRow}, (∀ r ∈ sh, Short r) → wtL (rowsL sh) = 4 ^ sh.length
  | [], _ => rfl
  | r :: sh, h => by
    have h1 := (h r (List.mem_cons_self ..)).1
    have ih := shorts_wtL (sh := sh) fun q hq => h q (List.mem_cons_of_mem _ hq)
    show (1 + 3 * r.1.1.length) * wtL (rowsL sh) = _
    rw [ih, List.length_cons, Nat.pow_succ]
    rcases h1 with e | e <;> (rw [e]; show 4 * _ = _; omega)
theorem Drawn.wtl {rows : List DRow} (d : Drawn rows) : wtL (rowsL rows) ≤ 16000000 := by
  obtain ⟨f, g, f', g', h0, h1, sh, rfl, hs, hl, _⟩ := d
  show (1 + 3 * 3) * ((1 + 3 * 3) * wtL (rowsL sh)) ≤ _
  rw [shorts_wtL hs]
  have : 4 ^ sh.length ≤ 4 ^ 8 := Nat.pow_le_pow_right (by decide) hl
  have e : (4 : Nat) ^ 8 = 65536 := by decide
  omega
/-- a row of a drawn day -/
theorem Drawn.row {rows : List DRow} (d : Drawn rows) : ∀ r ∈ rows, (r.1.1.length = 3 ∧ r.1.2 = 1 ∧ r.2.getLastD 0 ≤ 30) ∨ Short r := by
  obtain ⟨f, g, f', g', h0, h1, sh, rfl, hs, hl, k0, k1⟩ := d
  intro r hr
  rcases List.mem_append.mp hr with hr | hr
  · have hr : r = (([0, 1, 2], 1), [f, g, h0]) ∨ r = (([0, 3, 4], 1), [f', g', h1]) := by simpa using hr
    rcases hr with rfl | rfl
    · exact .inl ⟨rfl, rfl, k0⟩
    · exact .inl ⟨rfl, rfl, k1⟩
  · exact .inr (hs r hr)
theorem Drawn.home {rows : List DRow} (d : Drawn rows) : ∀ h ∈ homesOf (rowsR rows), h ≤ 30 := fun h hh => by
  unfold homesOf rowsR at hh
  rw [List.map_map] at hh
  obtain ⟨r, hr, rfl⟩ := List.mem_map.mp hh
  show r.2.getLastD 0 ≤ 30
  rcases d.row r hr with ⟨_, _, c⟩ | ⟨_, _, b, c⟩
  · exact c
  · rw [c]; show r.1.2 ≤ 30; omega
theorem Drawn.dok {rows : List DRow} (d : Drawn rows) {u : Int} (u1 : 1 ≤ u) : DOk u (rowsL rows) (rowsR rows) := by
  have gd := d.good
  have ll : (rowsL rows).length = rows.length := by unfold rowsL; rw [List.length_map]
  have lr : (rowsR rows).length = rows.length := by unfold rowsR; rw [List.length_map]
  refine ⟨by rw [ll, lr], by rw [ll]; exact Nat.le_trans d.len (by decide), fun k hk => ?_, fun k hk hu => ?_, ?_⟩
  · rw [ll] at hk
    have hm : rows[k] ∈ rows := List.getElem_mem hk
    rw [rowsL_at hk, rowsR_at hk]
    refine ⟨(gd _ hm).1, ?_⟩
    rcases d.row _ hm with ⟨_, b, c⟩ | ⟨_, b, c, e⟩
    · exact ⟨by omega, by omega, c⟩
    · rw [e]
      show 1 ≤ (rows[k]).1.2 ∧ (rows[k]).1.2 ≤ 30 ∧ (rows[k]).1.2 ≤ 30
      omega
  · rw [ll] at hk
    have hm : rows[k] ∈ rows := List.getElem_mem hk
    rw [rowsL_at hk] at hu
    rw [rowsL_at hk, rowsR_at hk]
    rcases d.row _ hm with ⟨_, b, c⟩ | ⟨a, b, c, e⟩
    · omega
    · rw [e]
      refine ⟨?_, by show (rows[k]).1.2 ≤ (rows[k]).1.2; omega⟩
      rcases a with a | a <;> (rw [a]; rfl)
  · have e : (List.range (rowsL rows).length).map (ltAt (rowsL rows) (rowsR rows) 0) = rows.map fun r => (⟨r.1.1, r.1.2, r.2.getLastD 0 + 0⟩ : Lt) := by
      refine List.ext_getElem (by simp [ll]) fun i h1 h2 => ?_
      have hi : i < rows.length := by rw [List.length_map] at h2; exact h2
      rw [List.getElem_map, List.getElem_map, List.getElem_range]
      unfold ltAt
      rw [rowsL_at hi, rowsR_at hi]
    rw [e]
    obtain ⟨f, g, f', g', h0, h1, sh, rfl, hs, hl, _⟩ := d
    show (2 + 3 * (3 - 1)) * ((2 + 3 * (3 - 1)) * wtS (sh.map _)) ≤ _
    rw [shorts_wtS hs]
    have : 2 ^ sh.length ≤ 2 ^ 8 := Nat.pow_le_pow_right (by decide) hl
    have e : (2 : Nat) ^ 8 = 256 := by decide
    omega
end
end Hc
end

section
set_option Elab.async false
set_option linter.all false
set_option maxRecDepth 100000
set_option maxHeartbeats 4000000
namespace Hc
open PySem PySem.Spec PyProof.Rows L2 HcR LamX
section
variable {P : Program} {w : World} {K : PySem.W.Frag} {mg : Str → Option Value} {base : Heap}

variable {CW CD CS CP CB : Addr}
theorem tabs_but {T : List (Addr × Str)} {H H' : Hp} {a : Addr} {xs : List V} (t : Tabs T H) (h : H a = some (.lst xs)) (b : But a H H') : Tabs T H' := fun p hp => by
  obtain ⟨ps, h1, h2, h3⟩ := t p hp
  refine ⟨ps, b _ _ h1 (ne_of h1 h (fun z => by cases z)), h2, fun pos cv hc => ?_⟩
  obtain ⟨c, e1, e2⟩ := h3 pos cv hc
  exact ⟨c, e1, b _ _ e2 (ne_of e2 h (fun z => by unfold CodeO at z; cases z))⟩
/-- what stands through the law's turns -/
structure LW (CW : Addr) (H : Hp) (a l wa rp tp Pt : Addr) (W : WD) : Prop where
  hand : HandAt H a l
  web : WebAt CW H wa W
  hr : H rp = some (.tup (W.rm.map iN))
  ht : H tp = some (.tup (W.tm.map iN))
  tb : Tabs (TbL Pt) H
theorem LW.but {H H' : Hp} {a l wa rp tp Pt : Addr} {W : WD} (h : LW CW H a l wa rp tp Pt W) (b : But a H H') (h2 : HandAt H' a l) : LW CW H' a l wa rp tp Pt W := by
  have ik := h.hand.ik b
  obtain ⟨⟨xs, e⟩, _⟩ := h.hand.lst
  exact ⟨h2, h.web.keep ik, ik.1 _ _ h.hr, ik.1 _ _ h.ht, tabs_but h.tb e b⟩
theorem LW.same {H H' : Hp} {a l wa rp tp Pt : Addr} {W : WD} (h : LW CW H a l wa rp tp Pt W) (e : Same H H') : LW CW H' a l wa rp tp Pt W := ⟨h.hand.same e, h.web.keep (IK.of e), e _ _ h.hr, e _ _ h.ht, h.tb.ext e⟩
theorem ExtN.ik' {H H' : Hp} (e : ExtN H H') : IK H H' := ⟨TK.ext e, fun b C dx fs h => e _ _ h (fun _ z => by cases z)⟩
theorem LW.extN {H H' : Hp} {a l wa rp tp Pt : Addr} {W : WD} (h : LW CW H a l wa rp tp Pt W) (e : ExtN H H') (t : Tabs (TbL Pt) H') : LW CW H' a l wa rp tp Pt W := by
  obtain ⟨ns, i, x, st, m, e1, e2, e3⟩ := h.hand
  exact ⟨⟨ns, i, x, st, m, e _ _ e1 (fun _ z => by cases z), e _ _ e2 (fun _ z => by cases z), e3⟩, h.web.keep (ExtN.ik' e), e _ _ h.hr (fun _ z => by cases z), e _ _ h.ht (fun _ z => by cases z), t⟩
theorem TdAll.set' {H : Hp} : ∀ {vs : List V} {ds : List PyData}, TdAll H vs ds → ∀ {v : V} {d : PyData} (i : Nat), Td H v d → TdAll H (vs.set i v) (ds.set i d)
  | _, _, .nil, _, _, i, _ => .nil
  | _, _, .cons h t, _, _, 0, g => .cons g t
  | _, _, .cons h t, _, _, i + 1, g => .cons h (TdAll.set' t i g)
theorem GoodPlan.set2 {pl : List (List Nat)} (g : GoodPlan pl) {told : List Nat} (h : GoodRow 2 told) : GoodPlan (pl.set 2 told) := by
  refine goodPlan_of (by rw [List.length_set]; exact g.len) fun j r e => ?_
  rw [List.getElem?_set] at e
  by_cases hj : 2 = j
  · subst hj
    rw [if_pos rfl] at e
    split at e
    · cases e; exact h
    · cases e
  · rw [if_neg hj] at e
    exact ⟨g.asc j r e, g.lt j r e, g.last j r e, g.few j r e⟩
theorem early_symm {pl : List (List Nat)} {ls ls' : List Letter} {rs rs' : List (List Int)} {tick : Int} {n m : Nat} (h : PyData.eqv (.list (earlyD pl ls rs tick n)) (.list (earlyD pl ls' rs' tick m)) = true) : PyData.eqv (.list (earlyD pl ls' rs' tick m)) (.list (earlyD pl ls rs tick n)) = true := by
  rw [eqv_nb _ _ (nb_early ..) (nb_early ..) h]
  exact nice_early.refl
def spLaw (K : PySem.W.Frag) (Pt : Addr) : Sp := fun vs H Q _ => ∃ (a : Addr) (ns : List Int), vs = [.ref a] ∧ SqL K H a (ns.map V.int) ∧ ns.length ≤ 63 ∧ Tabs (TbL Pt) H ∧ ∀ H', Q (.bl true) H'
theorem ok_law {Pt fw : Addr} {gw : FuncData} (ev : Ev mg) (c : Cla K mg CW CD CS CP) (MW : Mk K CW fw) (FW : FnOk P w K mg base CX0 4 fw gw ["self", "houses", "roads", "rooms", "times"] (spWebInit CW)) (bW : L2.Binds K gw ["self", "houses", "roads", "rooms", "times"] [])
    (h1 : Has P w K mg base CX0 1 "_law_hand" ["_law_script"] (spHand K)) (h2 : Has P w K mg base CX0 1 "_law_draw" ["_law_hand_here", "_law_many"] spDraw) (h3 : Has P w K mg base CX0 1 "_law_put" ["_law_thing", "_law_at", "_law_item"] spPut) (h4 : Has P w K mg base CX0 2 "_law_plan" ["_law_hand_here", "_law_gaps"] spLPlan)
    (h5 : Has P w K mg base CX0 10 "_law_days" ["_law_hand_here", "_law_web", "_law_times", "_law_late"] (spDays CW CD)) (h6 : Has P w K mg base CX0 1 "_law_plan_card" ["_law_letter", "_law_row", "_law_plan_here"] spPlanCard) (h7 : Has P w K mg base CX0 1 "_law_early" ["_law_cards", "_law_until"] spLEarly)
    (h8 : Has P w K mg base CX0 4 "_law_both_lost" ["_law_days_here", "_law_rooms", "_law_times", "_law_until"] spLLost) (h9 : Has P w K mg base CX0 1 "_law_flag" ["_law_told", "_law_due"] spFlag) (h10 : Has P w K mg base CX0 151 "is_plan_trap" ["plan", "ahead", "thing"] (spTrap CW CD Pt)) :
    ∀ f fd, FnP K "law" s_law f fd → FnOk P w K mg base CX0 152 f fd ["_law_script"] (spLaw K Pt) := by
  refine fun f fd F => F.ok sc_law (fun vs H Q E ⟨a, ns, e, _⟩ => by rw [e]; rfl) fun cdv A outer s' H vs Q E hr ⟨sa, ns, e, hsa, h63, hT, q⟩ => ?_
  subst e
  have hu := hr.units
  refine ⟨_, (PSs.nox (pss_cons (ps_set (i := 1) sc_law.nd rfl (.inr rfl) (pe_has h1 (hr.mono (by decide)) (by rfl) (pa_cons (pv 0) pa_nil))) (pss_cons (ps_set (i := 2) sc_law.nd rfl (.inl rfl) (pe_tup (pa_cons (pe_tup (pa_cons pe_int (pa_cons pe_int pa_nil))) (pa_cons (pe_tup (pa_cons pe_int (pa_cons pe_int pa_nil))) (pa_cons (pe_tup (pa_cons pe_int (pa_cons pe_int pa_nil))) (pa_cons (pe_tup (pa_cons pe_int (pa_cons pe_int pa_nil))) (pa_cons (pe_tup (pa_cons pe_int (pa_cons pe_int pa_nil))) pa_nil))))))) (pss_cons (ps_set (i := 3) sc_law.nd rfl (.inl rfl) (pe_tup (pa_cons (pe_op op_add pe_int (pe_callTy (call_int1) (by rfl) ev.int (by decide +kernel) (pa_cons (pe_cmpR op_eq (pe_has h2 (hr.mono (by decide)) (by rfl) (pa_cons (pv 1) (pa_cons pe_int pa_nil))) pe_int (nomark _)) pa_nil))) (pa_cons pe_int (pa_cons pe_int (pa_cons pe_int (pa_cons pe_int pa_nil))))))) (pss_cons (ps_set (i := 4) sc_law.nd rfl (.inl rfl) (pe_callTy ((tupOf (K := K) rfl)) (by rfl) ev.tuple (by decide +kernel) (pa_cons (pe_lc (own := [("_law_road", 5)]) rfl sc_law.nd (pi_tup (pv 2)) (blkOk_by (own := [("_law_road", 5)]) (N := sc_law_N) (sc := sc_law_S) (by decide +kernel)) (fun _ _ _ _ _ => (pg_name (i := 5) sc_law.nd rfl (.inl rfl))) (fun _ _ _ _ _ => pts_nil) (fun _ _ _ _ _ => (pe_op op_add pe_int (pe_callTy (call_int1) (by rfl) ev.int (by decide +kernel) (pa_cons (pe_cmpR op_eq (pe_has h2 (hr.mono (by decide)) (by rfl) (pa_cons (pv 1) (pa_cons pe_int pa_nil))) pe_int (nomark _)) pa_nil))))) pa_nil))) (pss_cons (ps_set (i := 6) sc_law.nd rfl (.inl rfl) (pe_make MW FW (hr.mono (by decide)) (by rfl) c.gW bW .nil pass0 (pa_cons pe_int (pa_cons (pv 2) (pa_cons (pv 3) (pa_cons (pv 4) pa_nil)))))) (pss_cons (ps_for PassesOwn.never rfl (pi_range1 rfl ev.range (pa_cons pe_int pa_nil)) (pg_name (i := 7) sc_law.nd rfl (.inl rfl)) (pss_cons (ps_set (i := 8) sc_law.nd rfl (.inl rfl) (pe_ix (ixL (K := K) rfl) (pe_lst (pa_cons (pe_tup (pa_cons pe_int pa_nil)) (pa_cons (pe_tup (pa_cons pe_int pa_nil)) (pa_cons (pe_tup (pa_cons pe_int (pa_cons pe_int pa_nil))) (pa_cons (pe_tup (pa_cons pe_int (pa_cons pe_int pa_nil))) pa_nil))))) (pe_has h2 (hr.mono (by decide)) (by rfl) (pa_cons (pv 1) (pa_cons pe_int pa_nil))) (fun _ _ => rfl))) (pss_cons (ps_set (i := 9) sc_law.nd rfl (.inr rfl) (pe_has h3 (hr.mono (by decide)) (by rfl) (pa_cons (pe_has h4 (hr.mono (by decide)) (by rfl) (pa_cons (pv 1) (pa_cons pe_bl pa_nil))) (pa_cons pe_int (pa_cons (pv 8) pa_nil))))) (pss_cons (ps_set (i := 10) sc_law.nd rfl (.inl rfl) (pe_op op_add pe_int (pe_has h2 (hr.mono (by decide)) (by rfl) (pa_cons (pv 1) (pa_cons pe_int pa_nil))))) (pss_cons (ps_set (i := 11) sc_law.nd rfl (.inl rfl) (pe_has h2 (hr.mono (by decide)) (by rfl) (pa_cons (pv 1) (pa_cons pe_int pa_nil)))) (pss_cons (ps_set (i := 12) sc_law.nd rfl (.inl rfl) (pe_has h5 (hr.mono (by decide)) (by rfl) (pa_cons (pv 1) (pa_cons (pv 6) (pa_cons (pv 4) (pa_cons (pe_op op_add (pv 10) (pv 11)) pa_nil)))))) (pss_one (ps_if (PW.pt (pw_and (pt_cmp (pc_notN (pe_ix (ixL (K := K) rfl) (pv 12) pe_int (fun _ _ => rfl)))) (pw_and1 (pt_cmp (pc_notN (pe_ix (ixL (K := K) rfl) (pv 12) pe_int (fun _ _ => rfl))))))) (pss_cons (ps_set (i := 13) sc_law.nd rfl (.inl rfl) (pe_lst pa_nil))
        (pss_cons (ps_for PassesOwn.never rfl (pi_list (pv 12)) (pg_name (i := 14) sc_law.nd rfl (.inl rfl)) (pss_cons (ps_setLc (i := 15) (own := [("_law_one", 16), ("_law_row", 17)]) rfl sc_law.nd rfl rfl (sw_true rfl rfl rfl (by decide +kernel)) (RZ.pi_zipA (by rfl) ev.zip (pa_cons (pe_fldK (K := K) rfl (pv 14) rfl) (pa_cons (pe_fldK (K := K) rfl (pv 14) rfl) pa_nil))) (blkOk_by (own := [("_law_one", 16), ("_law_row", 17)]) (N := sc_law_N) (sc := sc_law_S) (by decide +kernel)) (fun _ _ _ _ _ => (pgTupK (K := K) (n := 2) rfl rfl (pgs_cons (pg_name (i := 16) sc_law.nd rfl (.inl rfl)) (pgs_cons (pg_name (i := 17) sc_law.nd rfl (.inl rfl)) pgs_nil)) rfl rfl)) (fun _ _ _ _ _ => pts_nil) (fun _ _ _ _ _ => (pe_has h6 (hr.mono (by decide)) (by rfl) (pa_cons (pv 16) (pa_cons (pv 17) (pa_cons (pv 9) pa_nil)))))) (pss_one (ps_expr (pe_bm PySem.F.plainAttrs_list PySem.F.slot_list_append PySem.F.type_list_append mt_append (pv 13) (pa_cons (pe_has h7 (hr.mono (by decide)) (by rfl) (pa_cons (pv 15) (pa_cons (pe_op op_add (pv 10) (pv 11)) pa_nil))) pa_nil))))))
        (pss_cons (ps_set (i := 18) sc_law.nd rfl (.inl rfl) (pe_cmpR (op_eqD hu) (pe_ix (ixL (K := K) rfl) (pv 13) pe_int (fun _ _ => rfl)) (pe_ix (ixL (K := K) rfl) (pv 13) pe_int (fun _ _ => rfl)) (nomark _)))
        (C8.pss_cut (ps_if (pt_val (pv 18)) (pss_one (ps_set (i := 18) sc_law.nd rfl (.inl rfl) (pe_has h8 (hr.mono (by decide)) (by rfl) (pa_cons (pe_lc (own := [("_law_day", 14)]) rfl sc_law.nd (pi_list (pv 12)) (blkOk_by (own := [("_law_day", 14)]) (N := sc_law_N) (sc := sc_law_S) (by decide +kernel)) (fun _ _ _ _ _ => (pg_name (i := 14) sc_law.nd rfl (.inl rfl))) (fun _ _ _ _ _ => pts_nil) (fun _ _ _ _ _ => (pe_tup (pa_cons (pe_fldK (K := K) rfl (pv 14) rfl) (pa_cons (pe_fldK (K := K) rfl (pv 14) rfl) pa_nil))))) (pa_cons (pv 3) (pa_cons (pv 4) (pa_cons (pv 10) pa_nil))))))) pss_nil)
        (pss_cons (ps_if (pt_not (pt_val (pe_has h9 (hr.mono (by decide)) (by rfl) (pa_cons (pe_has h10 hr (by rfl) (pa_cons (pv 9) (pa_cons (pv 11) (pa_cons (pe_tup (pa_cons (pv 6) (pa_cons (pe_ix (ixL (K := K) rfl) (pv 12) pe_int (fun _ _ => rfl)) (pa_cons (pe_ix (ixL (K := K) rfl) (pv 12) pe_int (fun _ _ => rfl)) (pa_cons (pv 10) pa_nil))))) pa_nil)))) (pa_cons (pv 18) pa_nil))))) (pss_one (ps_ret pe_bl)) pss_nil) (pss_one (ps_if (pt_not (pt_val (pe_has h9 (hr.mono (by decide)) (by rfl) (pa_cons (pe_has h10 hr (by rfl) (pa_cons (pv 9) (pa_cons (pv 11) (pa_cons (pe_tup (pa_cons (pv 6) (pa_cons (pe_ix (ixL (K := K) rfl) (pv 12) pe_int (fun _ _ => rfl)) (pa_cons (pe_ix (ixL (K := K) rfl) (pv 12) pe_int (fun _ _ => rfl)) (pa_cons (pv 10) pa_nil))))) pa_nil)))) (pa_cons (pv 18) pa_nil))))) (pss_one (ps_ret pe_bl)) pss_nil))))))) pss_nil)))))))) (pss_one (ps_ret pe_bl))))))))), ?_⟩
  refine ⟨_, rfl, sa, ns, rfl, hsa, h63, fun a l H1 s1 ha0 hl0 hd1 => ?_⟩
  have T1 := hT.ext s1
  refine ⟨by show 2 ≤ sizeLine; decide, fun r0 hr0 => ?_⟩
  have sr0 := same_new (o := .tup [.int 0, .int 1]) hr0
  have kr0 : upd H1 r0 (.tup [.int 0, .int 1]) r0 = some (.tup [.int 0, .int 1]) := upd_same
  generalize upd H1 r0 (.tup [.int 0, .int 1]) = H1a at sr0 kr0 ⊢
  refine ⟨by show 2 ≤ sizeLine; decide, fun r1 hr1 => ?_⟩
  have sr1 := same_new (o := .tup [.int 1, .int 2]) hr1
  have kr1 : upd H1a r1 (.tup [.int 1, .int 2]) r1 = some (.tup [.int 1, .int 2]) := upd_same
  generalize upd H1a r1 (.tup [.int 1, .int 2]) = H1b at sr1 kr1 ⊢
  refine ⟨by show 2 ≤ sizeLine; decide, fun r2 hr2 => ?_⟩
  have sr2 := same_new (o := .tup [.int 2, .int 3]) hr2
  have kr2 : upd H1b r2 (.tup [.int 2, .int 3]) r2 = some (.tup [.int 2, .int 3]) := upd_same
  generalize upd H1b r2 (.tup [.int 2, .int 3]) = H1c at sr2 kr2 ⊢
  refine ⟨by show 2 ≤ sizeLine; decide, fun r3 hr3 => ?_⟩
  have sr3 := same_new (o := .tup [.int 1, .int 4]) hr3
  have kr3 : upd H1c r3 (.tup [.int 1, .int 4]) r3 = some (.tup [.int 1, .int 4]) := upd_same
  generalize upd H1c r3 (.tup [.int 1, .int 4]) = H1d at sr3 kr3 ⊢
  refine ⟨by show 2 ≤ sizeLine; decide, fun r4 hr4 => ?_⟩
  have sr4 := same_new (o := .tup [.int 4, .int 5]) hr4
  have kr4 : upd H1d r4 (.tup [.int 4, .int 5]) r4 = some (.tup [.int 4, .int 5]) := upd_same
  generalize upd H1d r4 (.tup [.int 4, .int 5]) = H1e at sr4 kr4 ⊢
  refine ⟨by show 5 ≤ sizeLine; decide, fun rt hrt => ?_⟩
  have sr5 := same_new (o := .tup [.ref r0, .ref r1, .ref r2, .ref r3, .ref r4]) hrt
  have kr5 : upd H1e rt (.tup [.ref r0, .ref r1, .ref r2, .ref r3, .ref r4]) rt = some (.tup [.ref r0, .ref r1, .ref r2, .ref r3, .ref r4]) := upd_same
  generalize upd H1e rt (.tup [.ref r0, .ref r1, .ref r2, .ref r3, .ref r4]) = H2 at sr5 kr5 ⊢
  have s35 := sr4.trans sr5
  have s25 := sr3.trans s35
  have s15 := sr2.trans s25
  have s05 := sr1.trans s15
  have s12 := sr0.trans s05
  have troads : Td H2 (.ref rt) (dRows roadsL) := .tup kr5 (.cons (td_ints (ns := [0, 1]) (s05 _ _ kr0)) (.cons (td_ints (ns := [1, 2]) (s15 _ _ kr1)) (.cons (td_ints (ns := [2, 3]) (s25 _ _ kr2)) (.cons (td_ints (ns := [1, 4]) (s35 _ _ kr3)) (.cons (td_ints (ns := [4, 5]) (sr5 _ _ kr4)) .nil)))))
  have T2 := T1.ext s12
  have a2 := hd1.same s12
  -- rooms
  refine ⟨_, rfl, a, l, 4, rfl, a2, by decide, by decide, fun d3 H3 d30 d34 b3 a3 => ⟨rfl, .inr ⟨_, rfl, _, _, rfl, rfl, by show 5 ≤ sizeLine; decide, fun rp hrp => ?_⟩⟩⟩
  obtain ⟨⟨hx2, e2⟩, _⟩ := a2.lst
  have T3 := tabs_but T2 e2 b3
  have ik3 := a2.ik b3
  have kr5' := ik3.1 _ _ kr5
  have troads3 := troads.keep ik3.1
  obtain ⟨q0, hq0, hq1⟩ : ∃ q0 : Nat, (1 : Int) + (if decide (V.int d3 = V.int 0) = true then (1 : Int) else 0) = (q0 : Int) ∧ 1 ≤ q0 ∧ q0 ≤ 3 := by
    by_cases z : decide (V.int d3 = V.int 0) = true
    · exact ⟨2, by rw [if_pos z]; rfl, by decide, by decide⟩
    · exact ⟨1, by rw [if_neg z]; rfl, by decide, by decide⟩
  have sp4 : Same H3 (upd H3 rp (.tup [.int (1 + (if decide (V.int d3 = V.int 0) = true then (1 : Int) else 0)), .int 1, .int 1, .int 1, .int 1])) := same_new hrp
  have hrp4 : (upd H3 rp (.tup [.int (1 + (if decide (V.int d3 = V.int 0) = true then (1 : Int) else 0)), .int 1, .int 1, .int 1, .int 1])) rp = some (.tup (([q0, 1, 1, 1, 1] : List Nat).map iN)) := by
    rw [upd_same, hq0]; rfl
  have T4 := T3.ext sp4
  have a4 := a3.same sp4
  have troads4 := troads3.keep (TK.of sp4)
  have kr4' := sp4 _ _ kr5'
  -- times
  obtain ⟨⟨hx4, e4⟩, hl4x, el4⟩ := a4.lst
  refine ⟨_, rfl, rt, rfl, ⟨_, sqT kr4'⟩, fun D hD => lc_tup (xs := [.ref r0, .ref r1, .ref r2, .ref r3, .ref r4]) (fun i H' => (But a (upd H3 rp (.tup [.int (1 + (if decide (V.int d3 = V.int 0) = true then (1 : Int) else 0)), .int 1, .int 1, .int 1, .int 1])) H' ∧ HandAt H' a l) ∧ ∃ ms : List Nat, H' D = some (.lst (ms.map iN)) ∧ ms.length = i ∧ ∀ m ∈ ms, 1 ≤ m ∧ m ≤ 3) ⟨⟨(But.refl a (upd H3 rp (.tup [.int (1 + (if decide (V.int d3 = V.int 0) = true then (1 : Int) else 0)), .int 1, .int 1, .int 1, .int 1]))).at hD, a4.upd (Ne.symm (ne_of_none e4 hD)) (Ne.symm (ne_of_none el4 hD))⟩, [], upd_same, rfl, (fun _ z => nomatch z)⟩ (fun i H' _ h => sqT ((a4.tk h.1.1) _ _ kr4')) (fun i y H' hy ⟨⟨b5, a5⟩, ms, e5, l5, g5⟩ => ?_) fun H5 ⟨⟨b5, a5⟩, ms, e5, l5, g5⟩ => ?_⟩
  · have nDa : D ≠ a := Ne.symm (ne_of_none e4 hD)
    have nDl : D ≠ l := Ne.symm (ne_of_none el4 hD)
    have hi : i < 5 := (List.getElem?_eq_some_iff.mp hy).1
    refine ⟨rfl, _, rfl, a, l, 4, rfl, a5, by decide, by decide, fun d6 H6 d60 d64 b6 a6 => ⟨rfl, .inr ⟨_, rfl, _, _, rfl, rfl, ?_⟩⟩⟩
    obtain ⟨q1, hq2, hq3⟩ : ∃ q0 : Nat, (1 : Int) + (if decide (V.int d6 = V.int 0) = true then (1 : Int) else 0) = (q0 : Int) ∧ 1 ≤ q0 ∧ q0 ≤ 3 := by
      by_cases z : decide (V.int d6 = V.int 0) = true
      · exact ⟨2, by rw [if_pos z]; rfl, by decide, by decide⟩
      · exact ⟨1, by rw [if_neg z]; rfl, by decide, by decide⟩
    have e6 := b6 _ _ e5 nDa
    refine ⟨_, e6, len_line (by rw [List.length_map]; omega), ⟨(b5.trans b6).at hD, a6.upd nDa nDl⟩, ms ++ [q1], ?_, by rw [List.length_append, l5]; rfl, fun m hm => ?_⟩
    · rw [upd_same, List.map_append]
      show some (HO.lst (ms.map iN ++ [V.int (1 + (if decide (V.int d6 = V.int 0) = true then (1 : Int) else 0))])) = _
      rw [hq2]; rfl
    · rcases List.mem_append.mp hm with hm | hm
      · exact g5 m hm
      · rw [List.mem_singleton.mp hm]; exact hq3
  replace l5 : ms.length = 5 := l5
  refine ⟨D, _, rfl, .inl ⟨sqL e5, fun tp htp => ?_⟩⟩
  have st6 := same_new (o := .tup (ms.map iN)) htp
  have ht6 : upd H5 tp (.tup (ms.map iN)) tp = some (.tup (ms.map iN)) := upd_same
  generalize upd H5 tp (.tup (ms.map iN)) = H6 at st6 ht6 ⊢
  have b46 : But a (upd H3 rp (.tup [.int (1 + (if decide (V.int d3 = V.int 0) = true then (1 : Int) else 0)), .int 1, .int 1, .int 1, .int 1])) H6 := b5.trans (.of st6)
  have a6 := a5.same st6
  have T6 := tabs_but T4 e4 b46
  have tk46 := a4.tk b46
  let W : WD := ⟨ms, [q0, 1, 1, 1, 1], l5, rfl, g5, fun r hr => by
    rcases List.mem_cons.mp hr with rfl | hr
    · exact hq1
    · have : r = 1 := by simpa using hr
      subst this; decide⟩
  -- the web
  refine ⟨_, rfl, _, rfl, _, rfl, fun wa wx hwa hwx hne => ?_⟩
  have sw7 : Same H6 (upd (upd H6 wx (.own wa)) wa (.ins CW wx [])) := fun b o e => by
    rw [upd_ne (ne_of_none e hwa), upd_ne (ne_of_none e hwx)]; exact e
  have hw7 : upd (upd H6 wx (.own wa)) wa (.ins CW wx []) wa = some (.ins CW wx []) := upd_same
  generalize upd (upd H6 wx (.own wa)) wa (.ins CW wx []) = H7 at sw7 hw7 ⊢
  have tk47 := tk46.trans (TK.of sw7)
  refine ⟨wa, wx, rt, rp, tp, W, rfl, hw7, troads4.keep tk47, tk47 _ _ hrp4, sw7 _ _ ht6, fun H8 b8 w8 => ⟨rfl, ?_⟩⟩
  have s68 : Same H6 H8 := fun b o e => b8 b o (sw7 _ _ e) (ne_of_none e hwa)
  have lw8 : LW CW H8 a l wa rp tp Pt W := ⟨a6.same s68, w8, s68 _ _ (tk46 _ _ hrp4), s68 _ _ ht6, T6.ext s68⟩
  clear_value W
  refine ⟨8, rfl, by decide, by decide, for_range (lo := 0) (n := 8) (fun i σ H' => LW CW H' a l wa rp tp Pt W ∧ ∃ v7 v8 v9 v10 v11 v12 v13 v14 v15 v18, σ = [some (.ref sa), some (.ref a), some (.ref rt), some (.ref rp), some (.ref tp), none, some (.ref wa), v7, v8, v9, v10, v11, v12, v13, v14, v15, none, none, v18]) ⟨lw8, _, _, _, _, _, _, _, _, _, _, rfl⟩ ?_ ?_⟩
  · rintro i σ H9 hi ⟨lw9, v7, v8, v9, v10, v11, v12, v13, v14, v15, v18, rfl⟩
    refine ⟨by show 1 ≤ sizeLine; decide, fun t0 ht0 => ?_⟩
    have st0 := same_new (o := .tup [.int 2]) ht0
    have kt0 : upd H9 t0 (.tup [.int 2]) t0 = some (.tup [.int 2]) := upd_same
    generalize upd H9 t0 (.tup [.int 2]) = H9a at st0 kt0 ⊢
    refine ⟨by show 1 ≤ sizeLine; decide, fun t1 ht1 => ?_⟩
    have st1 := same_new (o := .tup [.int 2]) ht1
    have kt1 : upd H9a t1 (.tup [.int 2]) t1 = some (.tup [.int 2]) := upd_same
    generalize upd H9a t1 (.tup [.int 2]) = H9b at st1 kt1 ⊢
    refine ⟨by show 2 ≤ sizeLine; decide, fun t2 ht2 => ?_⟩
    have st2 := same_new (o := .tup [.int 0, .int 2]) ht2
    have kt2 : upd H9b t2 (.tup [.int 0, .int 2]) t2 = some (.tup [.int 0, .int 2]) := upd_same
    generalize upd H9b t2 (.tup [.int 0, .int 2]) = H9c at st2 kt2 ⊢
    refine ⟨by show 2 ≤ sizeLine; decide, fun t3 ht3 => ?_⟩
    have st3 := same_new (o := .tup [.int 1, .int 2]) ht3
    have kt3 : upd H9c t3 (.tup [.int 1, .int 2]) t3 = some (.tup [.int 1, .int 2]) := upd_same
    generalize upd H9c t3 (.tup [.int 1, .int 2]) = H9d at st3 kt3 ⊢
    refine ⟨by show 4 ≤ sizeLine; decide, fun tl htl => ?_⟩
    have st4 := same_new (o := .lst [.ref t0, .ref t1, .ref t2, .ref t3]) htl
    have kt4 : upd H9d tl (.lst [.ref t0, .ref t1, .ref t2, .ref t3]) tl = some (.lst [.ref t0, .ref t1, .ref t2, .ref t3]) := upd_same
    generalize upd H9d tl (.lst [.ref t0, .ref t1, .ref t2, .ref t3]) = H10 at st4 kt4 ⊢
    have st34 := st3.trans st4
    have st24 := st2.trans st34
    have st14 := st1.trans st24
    have lw9d := (((lw9.same st0).same st1).same st2).same st3
    have lw10 := lw9d.same st4
    have ntl : tl ≠ a := by
      obtain ⟨⟨xs, e1⟩, _⟩ := lw9d.hand.lst
      exact Ne.symm (ne_of_none e1 htl)
    refine ⟨_, rfl, a, l, 4, rfl, lw10.hand, by decide, by decide, fun d H11 d0 d4 b11 a11 => ?_⟩
    have lw11 := lw10.but b11 a11
    have tk11 := lw10.hand.tk b11
    have kt11 := b11 _ _ kt4 ntl
    obtain ⟨told, tq, hat, htq, gr⟩ : ∃ told tq, atI [V.ref t0, .ref t1, .ref t2, .ref t3] d = some (.ref tq) ∧ H11 tq = some (.tup (told.map iN)) ∧ GoodRow 2 told := by
      have : d = 0 ∨ d = 1 ∨ d = 2 ∨ d = 3 := by omega
      rcases this with rfl | rfl | rfl | rfl
      · exact ⟨[2], t0, atI_nat (j := 0) rfl, tk11 _ _ (st14 _ _ kt0), by unfold GoodRow; decide⟩
      · exact ⟨[2], t1, atI_nat (j := 1) rfl, tk11 _ _ (st24 _ _ kt1), by unfold GoodRow; decide⟩
      · exact ⟨[0, 2], t2, atI_nat (j := 2) rfl, tk11 _ _ (st34 _ _ kt2), by unfold GoodRow; decide⟩
      · exact ⟨[1, 2], t3, atI_nat (j := 3) rfl, tk11 _ _ (st4 _ _ kt3), by unfold GoodRow; decide⟩
    refine ⟨tl, _, d, .ref tq, rfl, rfl, sqL kt11, hat, ?_⟩
    -- the plan
    refine ⟨_, rfl, a, l, rfl, lw11.hand, fun pp H12 pl b12 a12 gp12 tpl => ?_⟩
    obtain ⟨_, pxs, epp, hpp, wpl⟩ := tpl.tuple
    cases epp
    have plen : pxs.length = 8 := by rw [wpl.len, List.length_map]; exact gp12.len
    have lw12 := lw11.but b12 a12
    refine ⟨_, rfl, pp, 2, .ref tq, pxs, rfl, hpp, by omega, by omega, fun pq H13 s13 hpq => ?_⟩
    have lw13 := lw12.same s13
    have tplan13 : Td H13 (.ref pq) (dPlan (pl.set 2 told)) := by
      refine .tup hpq ?_
      rw [List.map_set]
      exact (wpl.keep (TK.of s13)).set' 2 (td_way (s13 _ _ (lw11.hand.tk b12 _ _ htq)))
    have gplan := gp12.set2 gr
    generalize pl.set 2 told = PL at tplan13 gplan
    -- until, ahead
    refine ⟨_, rfl, a, l, 3, rfl, lw13.hand, by decide, by decide, fun d14 H14 u0 u3 b14 a14 => ⟨_, _, rfl, rfl, ?_⟩⟩
    have lw14 := lw13.but b14 a14
    refine ⟨_, rfl, a, l, 3, rfl, lw14.hand, by decide, by decide, fun ah H15 ah0 ah3 b15 a15 => ?_⟩
    have lw15 := lw14.but b15 a15
    -- the days
    refine ⟨_, rfl, _, rfl, _, rfl, _, rfl, _, rfl, _, _, rfl, rfl, a, l, wa, tp, W, (1 + d14) + ah, rfl, lw15.hand, lw15.web, lw15.ht, fun p v0 v1 H16 b16 a16 hp16 dv0 dv1 => ?_⟩
    have lw16 := lw15.but b16 a16
    have tplan16 := ((tplan13.keep (lw13.hand.tk b14)).keep (lw14.hand.tk b15)).keep (lw15.hand.tk b16)
    refine ⟨_, rfl, p, _, 0, v0, rfl, rfl, sqL hp16, atI_nat (j := 0) rfl, _, rfl, ite2 (fun hc0 => ?_) fun hc0 => ⟨lw16, _, _, _, _, _, _, _, _, _, _, rfl⟩⟩
    refine ⟨_, rfl, p, _, 1, v1, rfl, rfl, sqL hp16, atI_nat (j := 1) rfl, _, rfl, ite2 (fun hc1 => ?_) fun hc1 => ⟨lw16, _, _, _, _, _, _, _, _, _, _, rfl⟩⟩
    obtain ⟨d0', rows0, rfl, hday0, dr0⟩ : ∃ d rows, v0 = .ref d ∧ DayAt CD H16 d wa (rowsL rows) (rowsR rows) ∧ Drawn rows := by
      rcases dv0 with rfl | h
      · simp at hc0
      · exact h
    obtain ⟨d1', rows1, rfl, hday1, dr1⟩ : ∃ d rows, v1 = .ref d ∧ DayAt CD H16 d wa (rowsL rows) (rowsR rows) ∧ Drawn rows := by
      rcases dv1 with rfl | h
      · simp at hc1
      · exact h
    obtain ⟨dF, rF, rfl, rfl, rfl, rfl⟩ : ∃ (dF : Nat → Addr) (rF : Nat → List DRow), dF 0 = d0' ∧ dF 1 = d1' ∧ rF 0 = rows0 ∧ rF 1 = rows1 := ⟨fun j => if j = 0 then d0' else d1', fun j => if j = 0 then rows0 else rows1, rfl, rfl, rfl, rfl⟩
    have hday : ∀ j, j < 2 → DayAt CD H16 (dF j) wa (rowsL (rF j)) (rowsR (rF j)) ∧ Drawn (rF j) := fun j hj => by
      match j, hj with
      | 0, _ => exact ⟨hday0, dr0⟩
      | 1, _ => exact ⟨hday1, dr1⟩
    have dAt : ∀ {j : Nat} {y : V}, [V.ref (dF 0), .ref (dF 1)][j]? = some y → j < 2 ∧ y = .ref (dF j) := fun {j y} hy => by
      match j, hy with
      | 0, hy => exact ⟨by decide, (Option.some.inj hy).symm⟩
      | 1, hy => exact ⟨by decide, (Option.some.inj hy).symm⟩
    have lrow : ∀ j, (rowsL (rF j)).length = (rF j).length := fun j => by unfold rowsL; rw [List.length_map]
    have u1 : 1 ≤ (1 + d14) := by omega
    -- ones
    refine ⟨by show 0 ≤ sizeLine; exact Nat.zero_le _, fun O hO => ?_⟩
    have sO := same_new (o := .lst []) hO
    have hO17 : upd H16 O (.lst []) O = some (.lst []) := upd_same
    generalize upd H16 O (.lst []) = H17 at sO hO17 ⊢
    refine ⟨_, rfl, p, rfl, ⟨_, sqL (sO _ _ hp16)⟩, for_list (xs := [.ref (dF 0), .ref (dF 1)]) (fun j σ H' => (But O H17 H' ∧ ∃ us, H' O = some (.lst us) ∧ us.length = j ∧ ∀ k, k < j → ∃ e ws, us[k]? = some (.ref e) ∧ e ≠ O ∧ H' e = some (.lst ws) ∧ TdAll H' ws (earlyD PL (rowsL (rF k)) (rowsR (rF k)) ((1 + d14) + ah) (rowsL (rF k)).length)) ∧ ∃ v14 v15, σ = [some (.ref sa), some (.ref a), some (.ref rt), some (.ref rp), some (.ref tp), none, some (.ref wa), some (.int (0 + (i : Int))), some (.ref tq), some (.ref pq), some (.int (1 + d14)), some (.int ah), some (.ref p), some (.ref O), v14, v15, none, none, v18]) ⟨⟨.refl _ _, [], hO17, rfl, fun k h => absurd h (Nat.not_lt_zero k)⟩, _, _, rfl⟩ (fun j σ H' _ h => sqL (h.1.1 _ _ (sO _ _ hp16) (ne_of_none hp16 hO))) ?_ ?_⟩
    · rintro j y σ H18 hy ⟨⟨b18, us, hO18, l18, g18⟩, v14', v15', rfl⟩
      obtain ⟨hj, rfl⟩ := dAt hy
      obtain ⟨hdj, drj⟩ := hday j hj
      have s1618 : Same H16 H18 := fun b o e => b18 _ _ (sO _ _ e) (ne_of_none e hO)
      obtain ⟨dx, fs, x, y', hdd, k1, k2, t2, k3, k4, t4⟩ := hdj.keep (IK.of s1618)
      obtain ⟨_, xs, ex, hx, wx, lx⟩ := tdLets t2
      cases ex
      obtain ⟨_, ys, ey, hy', wy, ly⟩ := tdRows t4
      cases ey
      have gd := drj.good
      have lr : (rowsR (rF j)).length = (rF j).length := by unfold rowsR; rw [List.length_map]
      have ll := lrow j
      have l10 := drj.len
      refine ⟨_, rfl, dF j, CD, dx, fs, _, rfl, hdd, c.cD, c.dLetters, k2, _, rfl, dF j, CD, dx, fs, _, rfl, hdd, c.cD, c.dHours, k3, x, y', xs, ys, rfl, .inr ⟨sqT hx, sqT hy', fun D18 hD18 => lc_it (walk_zipT rfl) (fun m H' => Same H18 H' ∧ ∃ ws, H' D18 = some (.lst ws) ∧ TdAll H' ws ((List.range m).map (cardAt PL (rowsL (rF j)) (rowsR (rF j))))) ⟨same_new hD18, [], upd_same, .nil⟩ (fun m H' _ h => ⟨sqT (h.1 _ _ hx), sqT (h.1 _ _ hy')⟩) (fun m z H' H'' hm ⟨s2, ws, e2, w2⟩ hz => ?_) fun H19 ⟨s19, ws, e19, w19⟩ => ?_⟩⟩
      · obtain ⟨T0, x1, x2, rfl, hT0, rfl, g1, g2⟩ := hz
        replace g1 : xs[m]? = some x1 := g1
        replace g2 : ys[m]? = some x2 := g2
        obtain ⟨lt, hlt, tl1⟩ := wx.map_got g1
        obtain ⟨rw', hrw, tr1⟩ := wy.map_got g2
        have sT := same_new (o := .tup [x1, x2]) hT0
        have hT2 : upd H' T0 (.tup [x1, x2]) T0 = some (.tup [x1, x2]) := upd_same
        generalize upd H' T0 (.tup [x1, x2]) = H2' at sT hT2 ⊢
        have s22 := s2.trans sT
        have wl : ws.length = m := by rw [w2.len, List.length_map, List.length_range]
        have hml : m < (rF j).length := by
          have := (List.getElem?_eq_some_iff.mp hlt).1
          omega
        have e3 : lt = atL (rowsL (rF j)) m := by
          have := atL_get (ls := rowsL (rF j)) (m := m) (by omega)
          rw [hlt] at this
          exact Option.some.inj this
        have e4 : rw' = rowAt (rowsR (rF j)) m := by
          have := rowAt_get (rs := rowsR (rF j)) (m := m) (by omega)
          rw [hrw] at this
          exact Option.some.inj this
        refine ⟨T0, _, rfl, sqT hT2, rfl, _, _, rfl, _, _, rfl, rfl, rfl, _, rfl, _, rfl, _, rfl, x1, x2, .ref pq, lt, rw', PL, rfl, tl1.keep (TK.of s22), tr1.keep (TK.of s22), tplan16.keep (TK.of (s1618.trans s22)), gd.letters lt (List.mem_of_getElem? hlt), gd.fits.2 m lt rw' hlt hrw, gplan, fun pc Hc sc tc => ?_⟩
        have ec := sc _ _ (sT _ _ e2)
        have tk : TK Hc (upd Hc D18 (.lst (ws ++ [.ref pc]))) := fun b zs e => by rw [upd_ne (ne_of e ec (fun z => by cases z))]; exact e
        refine ⟨ws, ec, len_line (by omega), same_at (s22.trans sc) hD18 ec, _, upd_same, ?_⟩
        rw [List.range_succ, List.map_append]
        refine (((w2.keep (TK.of sT)).keep (TK.of sc)).keep tk).snoc ((show Td Hc (.ref pc) (cardAt PL (rowsL (rF j)) (rowsR (rF j)) m) from ?_).keep tk)
        unfold cardAt
        rw [← e3, ← e4]; exact tc
      · rw [show min xs.length ys.length = (rowsL (rF j)).length by omega] at w19
        have hO19 := s19 _ _ hO18
        refine ⟨_, rfl, tyL hO19, _, rfl, _, rfl, _, rfl, _, _, rfl, rfl, D18, (1 + d14) + ah, ws, PL, rowsL (rF j), rowsR (rF j), rfl, e19, w19, by omega, fun e He wse se hne hes wes => ?_⟩
        have hOe := se _ _ hO19
        have neO : e ≠ O := Ne.symm (ne_of_none hO19 hne)
        have tkO : TK He (upd He O (.lst (us ++ [.ref e]))) := fun b zs e => by rw [upd_ne (ne_of e hOe (fun z => by cases z))]; exact e
        have s18e := s19.trans se
        refine ⟨O, us, .ref e, rfl, rfl, hOe, len_line (by omega), ⟨(b18.trans (.of s18e)).put, us ++ [.ref e], upd_same, by rw [List.length_append, l18]; rfl, fun k hk => ?_⟩, _, _, rfl⟩
        by_cases hkj : k < j
        · obtain ⟨e', ws', q1, q2, q3, q4⟩ := g18 k hkj
          exact ⟨e', ws', by rw [List.getElem?_append_left (by omega)]; exact q1, q2, by rw [upd_ne q2]; exact s18e _ _ q3, (q4.keep (TK.of s18e)).keep tkO⟩
        · have : k = j := by omega
          subst this
          exact ⟨e, wse, by rw [List.getElem?_append_right (by omega), l18, Nat.sub_self]; rfl, neO, by rw [upd_ne neO]; exact hes, wes.keep tkO⟩
    · rintro σ H18 ⟨⟨b18, us, hO18, l18, g18⟩, v14', v15', rfl⟩
      replace l18 : us.length = 2 := l18
      have s1618 : Same H16 H18 := fun b o e => b18 _ _ (sO _ _ e) (ne_of_none e hO)
      obtain ⟨e0, ws0, q00, _, q01, q02⟩ := g18 0 (show 0 < 2 by decide)
      obtain ⟨e1, ws1, q10, _, q11, q12⟩ := g18 1 (show 1 < 2 by decide)
      refine ⟨_, rfl, O, us, 0, .ref e0, rfl, rfl, sqL hO18, atI_nat (j := 0) q00, _, rfl, O, us, 1, .ref e1, rfl, rfl, sqL hO18, atI_nat (j := 1) q10, _, _, .lst (sqL q01) q02.dp, .lst (sqL q11) q12.dp, nice_early.shaped (by decide), nice_early.shaped (by decide), ?_⟩
      have lw18 := lw16.same s1618
      have hp18 := s1618 _ _ hp16
      refine ⟨fun σ H' => Same H18 H' ∧ ∃ due v14 v15, (due = true ↔ PyData.eqv (.list (earlyD PL (rowsL (rF 0)) (rowsR (rF 0)) ((1 + d14) + ah) (rowsL (rF 0)).length)) (.list (earlyD PL (rowsL (rF 1)) (rowsR (rF 1)) ((1 + d14) + ah) (rowsL (rF 1)).length)) = true ∧ ¬ (lostPD W (1 + d14) (1 - 1) (rowsL (rF 0)) (rowsL (rF 1)) (rowsR (rF 0)) (rowsR (rF 1))).B 1 (lostPD W (1 + d14) (1 - 1) (rowsL (rF 0)) (rowsL (rF 1)) (rowsR (rF 0)) (rowsR (rF 1))).early) ∧ σ = [some (.ref sa), some (.ref a), some (.ref rt), some (.ref rp), some (.ref tp), none, some (.ref wa), some (.int (0 + (i : Int))), some (.ref tq), some (.ref pq), some (.int (1 + d14)), some (.int ah), some (.ref p), some (.ref O), v14, v15, none, none, some (.bl due)], ?_, ?_⟩
      · refine ⟨_, rfl, PyData.eqv (.list (earlyD PL (rowsL (rF 0)) (rowsR (rF 0)) ((1 + d14) + ah) (rowsL (rF 0)).length)) (.list (earlyD PL (rowsL (rF 1)) (rowsR (rF 1)) ((1 + d14) + ah) (rowsL (rF 1)).length)), rfl, ite2 (fun hd => ?_) fun hd => ?_⟩
        · have agr := agr_of_eqv (u := (1 + d14)) ah0 hd
          refine ⟨_, rfl, p, rfl, ⟨_, sqL hp18⟩, fun D20 hD20 => lc_list (xs := [.ref (dF 0), .ref (dF 1)]) (fun j H' => Same H18 H' ∧ ∃ us, H' D20 = some (.lst us) ∧ us.length = j ∧ ∀ k, k < j → ∃ t, us[k]? = some (.ref t) ∧ PairAt H' t (rowsL (rF k)) (rowsR (rF k))) ⟨same_new hD20, [], upd_same, rfl, fun k h => absurd h (Nat.not_lt_zero k)⟩ (fun j H' _ h => sqL (h.1 _ _ hp18)) (fun j y H' hy ⟨s2, vs, e2, l2, g2⟩ => ?_) fun H20 ⟨s20, vs, e20, l20, g20⟩ => ?_⟩
          · obtain ⟨hj, rfl⟩ := dAt hy
            obtain ⟨hdj, drj⟩ := hday j hj
            obtain ⟨dx, fs, x, y', hdd, k1, k2, t2, k3, k4, t4⟩ := hdj.keep (IK.of (s1618.trans s2))
            refine ⟨rfl, _, rfl, dF j, CD, dx, fs, _, rfl, hdd, c.cD, c.dLetters, k2, _, rfl, dF j, CD, dx, fs, _, rfl, hdd, c.cD, c.dHours, k3, by show 2 ≤ sizeLine; decide, fun t ht => ?_⟩
            have sx := same_new (o := .tup [.ref x, .ref y']) ht
            have hx : upd H' t (.tup [.ref x, .ref y']) t = some (.tup [.ref x, .ref y']) := upd_same
            generalize upd H' t (.tup [.ref x, .ref y']) = H4' at sx hx ⊢
            have e4 := sx _ _ e2
            have tk : TK H4' (upd H4' D20 (.lst (vs ++ [.ref t]))) := fun b zs e => by rw [upd_ne (ne_of e e4 (fun z => by cases z))]; exact e
            refine ⟨vs, e4, len_line (by omega), same_at (s2.trans sx) hD20 e4, _, upd_same, by rw [List.length_append, l2]; rfl, fun k hk => ?_⟩
            by_cases hkj : k < j
            · obtain ⟨t', q1, q2⟩ := g2 k hkj
              exact ⟨t', by rw [List.getElem?_append_left (by omega)]; exact q1, (q2.keep (TK.of sx)).keep tk⟩
            · have : k = j := by omega
              subst this
              exact ⟨t, by rw [List.getElem?_append_right (by omega), l2, Nat.sub_self]; rfl, (show PairAt H4' t (rowsL (rF k)) (rowsR (rF k)) from ⟨_, _, hx, t2.keep (TK.of sx), t4.keep (TK.of sx)⟩).keep tk⟩
          · replace l20 : vs.length = 2 := l20
            obtain ⟨ta, qa1, qa2⟩ := g20 0 (show 0 < 2 by decide)
            obtain ⟨tb, qb1, qb2⟩ := g20 1 (show 1 < 2 by decide)
            obtain rfl : vs = [.ref ta, .ref tb] := by
              match vs, l20 with
              | [x, y], _ =>
                cases qa1
                cases qb1
                rfl
            have lw20 := lw18.same s20
            refine ⟨_, rfl, _, rfl, _, rfl, D20, rp, tp, W, (1 + d14), fun j => if j = 0 then ta else tb, fun j => rowsL (rF j), fun j => rowsR (rF j), rfl, e20, lw20.hr, lw20.ht, fun j hj => ?_, by omega, by omega, fun k hk => ?_, fun b H21 s21 hb => ?_⟩
            · obtain ⟨_, drj⟩ := hday j hj
              have gd := drj.good
              have ll := lrow j
              have l10 := drj.len
              refine ⟨?_, gd.fits, gd.letters, by show (rowsL (rF j)).length ≤ 20; omega, drj.wtl, fun h hh => by have := drj.home h hh; omega⟩
              match j, hj with
              | 0, _ => exact qa2
              | 1, _ => exact qb2
            · have hk : k ∈ numsOf (rowsL (rF 0)) (1 + d14) false (rowsL (rF 0)).length := hk
              rw [agr.nums] at hk
              exact numsOf_lt hk
            · refine ⟨s20.trans s21, b, _, _, ?_, rfl⟩
              have lb := lawB_iff (W := W) (u := (1 + d14)) (L := fun j => rowsL (rF j)) (Rw := fun j => rowsR (rF j)) (fun j hj => (hday j hj).2.dok u1) agr u1
              rw [hb, lb]
              exact ⟨fun z => ⟨hd, z⟩, fun z => z.2⟩
        · exact ⟨.refl _, _, _, _, ⟨fun z => absurd z hd, fun z => absurd z.1 hd⟩, rfl⟩
      · rintro σ H20 ⟨s20, due, v14, v15, hdue, rfl⟩
        have s1620 := s1618.trans s20
        have lw20 := lw16.same s1620
        have hp20 := s1620 _ _ hp16
        have day20 : ∀ j, j < 2 → DayAt CD H20 (dF j) wa (rowsL (rF j)) (rowsR (rF j)) := fun j hj => (hday j hj).1.keep (IK.of s1620)
        have tplan20 := tplan16.keep (TK.of s1620)
        have gp : ∀ {x y : Nat}, x < 2 → y < 2 → PyData.eqv (.list (earlyD PL (rowsL (rF x)) (rowsR (rF x)) ((1 + d14) + ah) (rowsL (rF x)).length)) (.list (earlyD PL (rowsL (rF y)) (rowsR (rF y)) ((1 + d14) + ah) (rowsL (rF y)).length)) = true → GoodP (lostPD W (1 + d14) (1 - 1) (rowsL (rF x)) (rowsL (rF y)) (rowsR (rF x)) (rowsR (rF y))) := fun hx hy z => goodP_of ((hday _ hx).2.dok u1) ((hday _ hy).2.dok u1) (agr_of_eqv ah0 z) u1 (by omega)
        have l12 : ∀ j, j < 2 → (rowsL (rF j)).length ≤ 12 := fun j hj => by have := (hday j hj).2.len; have := lrow j; omega
        have hdue2 : due = true ↔ PyData.eqv (.list (earlyD PL (rowsL (rF 1)) (rowsR (rF 1)) ((1 + d14) + ah) (rowsL (rF 1)).length)) (.list (earlyD PL (rowsL (rF 0)) (rowsR (rF 0)) ((1 + d14) + ah) (rowsL (rF 0)).length)) = true ∧ ¬ (lostPD W (1 + d14) (1 - 1) (rowsL (rF 1)) (rowsL (rF 0)) (rowsR (rF 1)) (rowsR (rF 0))).B 1 (lostPD W (1 + d14) (1 - 1) (rowsL (rF 1)) (rowsL (rF 0)) (rowsR (rF 1)) (rowsR (rF 0))).early := by
          rw [hdue]
          constructor
          · rintro ⟨x, y⟩
            exact ⟨early_symm x, fun z => y ((lost_symm (agr_of_eqv ah0 x)).mpr z)⟩
          · rintro ⟨x, y⟩
            exact ⟨early_symm x, fun z => y ((lost_symm (agr_of_eqv ah0 x)).mpr z)⟩
        refine ⟨_, rfl, _, rfl, _, rfl, _, rfl, p, _, 0, .ref (dF 0), rfl, rfl, sqL hp20, atI_nat (j := 0) rfl, _, rfl, p, _, 1, .ref (dF 1), rfl, rfl, sqL hp20, atI_nat (j := 1) rfl, _, rfl, by show 4 ≤ sizeLine; decide, fun th hth => ?_⟩
        have sth := same_new (o := .tup [.ref wa, .ref (dF 0), .ref (dF 1), .int (1 + d14)]) hth
        have hth1 : upd H20 th (.tup [.ref wa, .ref (dF 0), .ref (dF 1), .int (1 + d14)]) th = some (.tup [.ref wa, .ref (dF 0), .ref (dF 1), .int (1 + d14)]) := upd_same
        generalize upd H20 th (.tup [.ref wa, .ref (dF 0), .ref (dF 1), .int (1 + d14)]) = H21 at sth hth1 ⊢
        have lw21 := lw20.same sth
        have fit : ∀ j, j < 2 → Fits (rowsL (rF j)) (rowsR (rF j)) := fun j hj => (hday j hj).2.good.fits
        have god : ∀ j, j < 2 → ∀ l ∈ rowsL (rF j), GoodL l := fun j hj => (hday j hj).2.good.letters
        refine ⟨.ref pq, th, wa, dF 0, dF 1, W, (1 + d14), ah, rowsL (rF 0), rowsL (rF 1), rowsR (rF 0), rowsR (rF 1), PL, rfl, tplan20.keep (TK.of sth), gplan, ah0, hth1, lw21.web, (day20 0 (by decide)).keep (IK.of sth), (day20 1 (by decide)).keep (IK.of sth), u1, by omega, fit 0 (by decide), fit 1 (by decide), god 0 (by decide), god 1 (by decide), l12 0 (by decide), l12 1 (by decide), lw21.tb, gp (by decide) (by decide), fun b H22 x22 T22 hb => ?_⟩
        have eb : b = due := Bool.eq_iff_iff.mpr (hb.trans hdue.symm)
        refine ⟨_, rfl, b, due, rfl, ?_⟩
        rw [decide_eq_true eb]
        refine ⟨true, rfl, iteF ?_⟩
        have lw22 := lw21.extN x22 T22
        have ik22 : IK H20 H22 := (IK.of sth).trans (ExtN.ik' x22)
        have hp22 := x22 _ _ (sth _ _ hp20) (fun _ z => by cases z)
        refine ⟨_, rfl, _, rfl, _, rfl, _, rfl, p, _, 1, .ref (dF 1), rfl, rfl, sqL hp22, atI_nat (j := 1) rfl, _, rfl, p, _, 0, .ref (dF 0), rfl, rfl, sqL hp22, atI_nat (j := 0) rfl, _, rfl, by show 4 ≤ sizeLine; decide, fun th2 hth2 => ?_⟩
        have sth2 := same_new (o := .tup [.ref wa, .ref (dF 1), .ref (dF 0), .int (1 + d14)]) hth2
        have hth3 : upd H22 th2 (.tup [.ref wa, .ref (dF 1), .ref (dF 0), .int (1 + d14)]) th2 = some (.tup [.ref wa, .ref (dF 1), .ref (dF 0), .int (1 + d14)]) := upd_same
        generalize upd H22 th2 (.tup [.ref wa, .ref (dF 1), .ref (dF 0), .int (1 + d14)]) = H23 at sth2 hth3 ⊢
        have lw23 := lw22.same sth2
        refine ⟨.ref pq, th2, wa, dF 1, dF 0, W, (1 + d14), ah, rowsL (rF 1), rowsL (rF 0), rowsR (rF 1), rowsR (rF 0), PL, rfl, (tplan20.keep ik22.1).keep (TK.of sth2), gplan, ah0, hth3, lw23.web, ((day20 1 (by decide)).keep ik22).keep (IK.of sth2), ((day20 0 (by decide)).keep ik22).keep (IK.of sth2), u1, by omega, fit 1 (by decide), fit 0 (by decide), god 1 (by decide), god 0 (by decide), l12 1 (by decide), l12 0 (by decide), lw23.tb, gp (by decide) (by decide), fun b2 H24 x24 T24 hb2 => ?_⟩
        have eb2 : b2 = due := Bool.eq_iff_iff.mpr (hb2.trans hdue2.symm)
        refine ⟨_, rfl, b2, due, rfl, ?_⟩
        rw [decide_eq_true eb2]
        refine ⟨true, rfl, iteF ?_⟩
        exact ⟨lw23.extN x24 T24, _, _, _, _, _, _, _, _, _, _, rfl⟩
  · rintro σ H9 ⟨lw9, v7, v8, v9, v10, v11, v12, v13, v14, v15, v18, rfl⟩
    exact q H9
end
end Hc
end

section
set_option Elab.async false
set_option linter.all false
set_option maxRecDepth 100000
set_option maxHeartbeats 4000000
/-! ## The head's facts, read -/
namespace Hc
open PySem PySem.Spec PyProof.Rows L2 HcR LamX
theorem insC_of {K : PySem.W.Frag} {C : Addr} (h : insB K C = true) (cl : Cls K C) : C8.InsC K C := by
  obtain ⟨h1, h⟩ := He.ba h
  obtain ⟨h2, h⟩ := He.ba h
  obtain ⟨h3, h⟩ := He.ba h
  obtain ⟨h4, h5⟩ := He.ba h
  exact ⟨cl, He.eqO_ok h1, He.eqO_ok h2, of_decide_eq_true h3, of_decide_eq_true h4, of_decide_eq_true h5⟩
theorem oexC_of {K : PySem.W.Frag} {C : Addr} (h : oexB K C = true) : OexC K C := by
  obtain ⟨q, h⟩ := He.ba h
  obtain ⟨h1, h⟩ := He.ba h
  obtain ⟨h2, h⟩ := He.ba h
  obtain ⟨h3, h4⟩ := He.ba h
  refine ⟨?_, He.eqO_ok h1, of_decide_eq_true h2, of_decide_eq_true h3, h4⟩
  split at q
  · rename_i dd cd sl ho
    split at q
    · rename_i C' bm k0 k1 k2 k3 n k5 hm hs
      simp only [Bool.and_eq_true, beq_iff_eq, Bool.not_eq_true'] at q
      obtain ⟨rfl, rfl, hdel, hd, hr⟩ := q
      obtain ⟨nm, bs, mro, ns, qn, hd', sn, sub, ab, col, del⟩ := cd
      dsimp only at hm hdel hd
      subst hm hdel hd
      have hsl : sl = #[k0, k1, k2, k3, some (.builtin "ValueError.__new__"), k5] := by
        obtain ⟨l⟩ := sl
        simp only at hs
        rw [hs]
      subst hsl
      exact ⟨nm, qn, ns, bs, bm, sn, sub, ab, col, dd, k0, k1, k2, k3, k5, ho, hr⟩
    · cases q
  · cases q
theorem lookup_memS {α β : Type} [BEq α] [LawfulBEq α] {a : α} {b : β} : ∀ {l : List (α × β)}, l.lookup a = some b → (a, b) ∈ l
  | (x, y) :: l, h => by
    rw [List.lookup_cons] at h
    cases q : (a == x) with
    | true =>
      rw [q] at h
      cases h
      rw [beq_iff_eq.mp q]
      exact List.mem_cons_self ..
    | false =>
      rw [q] at h
      exact List.mem_cons_of_mem _ (lookup_memS h)
theorem supS_bd : SupS "self" "part" (defScope s_BadDay_init) := by
  refine ⟨rfl, rfl, rfl, ?_, rfl, rfl, rfl, rfl, fun x hx => ?_, by decide, by decide, by decide, by decide, by decide⟩
  · have h : ((defScope s_BadDay_init).names.all fun x => decide (x.2 ≠ .cell)) = true := by decide +kernel
    exact fun x hx => of_decide_eq_true (List.all_eq_true.mp h x hx)
  · have h : ((defScope s_BadDay_init).names.all fun x => decide (x.2 = .free → x.1 = "__class__")) = true := by decide +kernel
    have hm : (x, NameKind.free) ∈ (defScope s_BadDay_init).names := lookup_memS hx
    exact of_decide_eq_true (List.all_eq_true.mp h _ hm) rfl
theorem supF_of {K : PySem.W.Frag} {mg : Str → Option Value} (hb : fn2 K bdAt = val2) (hs : supB K (He.ga K "BadDay") (He.fAd K bdAt) PW.main.file = true) (ho : OexC K (He.ga K "BadDay")) (hg : mg "super" = none) :
    ∃ (cda cc : Addr) (dV kV doc pm ct oc : Value) (an od : Option Addr) (osl : Array (Option Value)), SupF PW K mg (He.ga K "BadDay") (He.fAd K bdAt) cda cc "__init__" "BadDay.__init__" "self" "part" "part" (defArgs s_BadDay_init) (defScope s_BadDay_init) (defBody s_BadDay_init) dV kV doc pm ct oc an od osl ∧
      dV = .none ∧ PySem.W.findIn K (.ref (He.ga K "BadDay")) "__init__" = some (some (.ref (He.fAd K bdAt))) ∧ PySem.W.typeIn K (.ref (He.fAd K bdAt)) = some (.type "function") := by
  obtain ⟨h0, h⟩ := He.ba hs
  obtain ⟨h1, h⟩ := He.ba h
  obtain ⟨h2, h⟩ := He.ba h
  obtain ⟨h3, h⟩ := He.ba h
  obtain ⟨h4, h⟩ := He.ba h
  obtain ⟨h5, h⟩ := He.ba h
  obtain ⟨h6, h⟩ := He.ba h
  obtain ⟨h7, h8⟩ := He.ba h
  unfold fn2 at hb
  cases q : K.lookup (He.fAd K bdAt) with
  | none => rw [q] at h0; cases h0
  | some o =>
    obtain ⟨oc, od, dt, osl⟩ := o
    rw [q] at h0 hb
    cases dt with
    | func fd =>
      obtain ⟨n1, n2, n3, n4, n5, n6, n7, n8, n9, n10, n11, n12, n13, n14, n15⟩ := fd
      have e2 : (some (n1, n2, n3, n4, n5, n6, n15, n8) : Fn2) = some (("__init__" : Str), ("BadDay.__init__" : Str), defArgs s_BadDay_init, FuncBody.stmts (defBody s_BadDay_init), defScope s_BadDay_init, mainGlobals, builtinsNs, Value.none) := hb
      simp only [Option.some.injEq, Prod.mk.injEq] at e2
      obtain ⟨g1, g2, g3, g4, g5, g6, g7, g8⟩ := e2
      subst g1 g2 g3 g4 g5 g6 g7 g8
      obtain ⟨h9, h10⟩ := He.ba h0
      obtain ⟨h11, h12⟩ := He.ba h10
      have hcl : ∃ cc, n7 = [(("__class__" : Str), cc)] ∧ ∃ cl cld csl, K.lookup cc = some ⟨cl, cld, .cell (some (.ref (He.ga K "BadDay"))), csl⟩ := by
        dsimp only at h9
        split at h9
        · rename_i x cc
          obtain ⟨k1, k2⟩ := He.ba h9
          refine ⟨cc, by rw [beq_iff_eq.mp k1], ?_⟩
          split at k2
          · rename_i D' _ hk
            rw [beq_iff_eq.mp k2] at hk
            exact ⟨_, _, _, hk⟩
          · cases k2
        · cases h9
      have hco : ∃ cda, n13 = .ref cda ∧ ∃ ccl cdd vs ccs file tf, K.lookup cda = some ⟨ccl, cdd, .fields vs, ccs⟩ ∧ vs[2]? = some (.str file tf) ∧ ((PW.main.file : Str) == file) = true := by
        dsimp only at h12
        split at h12
        · rename_i cda
          refine ⟨cda, rfl, ?_⟩
          split at h12
          · rename_i vs _ hk
            split at h12
            · rename_i file tf hv
              exact ⟨_, _, vs, _, file, tf, hk, hv, h12⟩
            · cases h12
          · cases h12
        · cases h12
      obtain ⟨cc, rfl, hcell⟩ := hcl
      obtain ⟨cda, rfl, hcode⟩ := hco
      refine ⟨cda, cc, .none, n9, n10, n11, n14, oc, n12, od, osl, ⟨q, h11, hcode, hcell, Option.isSome_iff_exists.mp h1, of_decide_eq_true h2, He.eqO_ok h3, of_decide_eq_true h4, He.eqO_ok h5, hg, by decide +kernel, ho, He.eqO_ok h6, rfl⟩, rfl, He.eqO_ok h7, of_decide_eq_true h8⟩
    | _ => cases h0
theorem badD_of {w : World} {K : PySem.W.Frag} {mg : Str → Option Value} {base : Heap} (hb : fn2 K bdAt = val2) (hs : supB K (He.ga K "BadDay") (He.fAd K bdAt) PW.main.file = true) (ho : OexC K (He.ga K "BadDay")) (hg : mg "super" = none) (hB : mg "BadDay" = some (.ref (He.ga K "BadDay"))) : BadD PW w K mg base (He.ga K "BadDay") := by
  obtain ⟨cda, cc, dV, kV, doc, pm, ct, oc, an, od, osl, S, rfl, f1, f2⟩ := supF_of hb hs ho hg
  refine ⟨ho, hB, _, _, f1, f2, sup_init supS_bd S (fun env => ⟨_, rfl⟩) (fun env => rfl) (fun env => rfl), .all fun us hl => ?_⟩
  match us, hl with
  | [_, _], _ => rfl
end Hc
end

section
set_option Elab.async false
set_option linter.all false
set_option maxRecDepth 100000
set_option maxHeartbeats 4000000
/-! ## All promises, joined -/
namespace Hc
open PySem PySem.Spec PyProof.Rows L2 HcR LamX
section
variable {K : PySem.W.Frag} {h : Heap} {mg : Str → Option Value}
theorem defN (X : K.In h) (G : h.Ns mainGlobals mg) (c : He.SaysD fa fn K) (i j : Nat) {x : Str} {st : Stmt} (h1 : fn[i]? = some ⟨(x, none), x, x, defArgs st, defBody st, defScope st, [], []⟩) (h2 : fa[j]? = some (.glo x)) : Def K mg x st := by
  obtain ⟨fd, F⟩ := c.def_ i h1
  exact ⟨_, fd, F, He.glo_ok X G (c.fact j h2)⟩
theorem methN (c : He.SaysD fa fn K) (i : Nat) {C m q : Str} {st : Stmt} (h1 : fn[i]? = some ⟨(C, some m), m, q, defArgs st, defBody st, defScope st, [], []⟩) : ∃ fd, FnM K m q st (He.ma K (He.ga K C) m) fd := by
  obtain ⟨fd, F⟩ := c.def_ i h1
  exact ⟨fd, F⟩
theorem defC_of {base : Heap} (X : K.In h) (G : h.Ns mainGlobals mg) (c : He.SaysD fa fn K) (TB : TabB base mg (He.cT K pbrAt).1 (He.cT K pbrAt).2) : DefC K mg base "picks_by_road" s_picks_by_road (He.cT K pbrAt).1 (He.cT K pbrAt).2 := by
  obtain ⟨fd, F⟩ := c.def_ 18 (d := ⟨("picks_by_road", none), "picks_by_road", "picks_by_road", defArgs s_picks_by_road, defBody s_picks_by_road, defScope s_picks_by_road, [], []⟩) rfl
  have kp := F.kp
  obtain ⟨oc, od, dV, kV, doc, pm, an, cdv, ct, osl, e, lk, hcd, hD, hK⟩ := F.ex
  have hD : dV = .none := by
    rcases hD with ⟨_, rfl⟩ | ⟨e, _⟩
    · rfl
    · exact absurd rfl e
  subst hD
  obtain ⟨c0, rfl⟩ := He.codeIn_ref hcd
  subst e
  have e0 : (He.cT K pbrAt).1 = c0 := He.codeOf_eq lk rfl
  refine ⟨_, oc, od, kV, doc, pm, an, ct, osl, ?_, ?_, kp, He.glo_ok X G (c.fact 18 (f := .glo "picks_by_road") rfl), TB⟩
  · rw [e0]; exact lk
  · rw [e0]; exact hcd
theorem main_ok {w : World} {base : Heap} (X : K.In h) (G : h.Ns mainGlobals mg) (y : SaysY h K) (TB : TabB base mg (He.cT K pbrAt).1 (He.cT K pbrAt).2) : ∀ f fd, FnP K "law" s_law f fd → FnOk PW w K mg base CX0 152 f fd ["_law_script"] (spLaw K (He.cT K pbrAt).2) := by
  have c := y.d
  obtain ⟨x1, x2⟩ := He.ba y.more
  obtain ⟨x2, x3⟩ := He.ba x2
  obtain ⟨x3, x4⟩ := He.ba x3
  obtain ⟨x4, x5⟩ := He.ba x4
  have fr : ∀ (j : Nat) {x : Str}, fa[j]? = some (.free x) → mg x = none := fun j x e => He.free_ok X G (c.fact j e)
  have gl : ∀ (j : Nat) {x : Str}, fa[j]? = some (.glo x) → mg x = some (.ref (He.ga K x)) := fun j x e => He.glo_ok X G (c.fact j e)
  have it : ∀ (j : Nat) {x : Str} {i : Int}, fa[j]? = some (.int x i) → ∃ t, mg x = some (.int i t) := fun j x i e => He.int_ok X G (c.fact j e)
  have cl : ∀ (j : Nat) {x : Str}, fa[j]? = some (.cls x) → Cls K (He.ga K x) := fun j x e => He.cls_ok (c.fact j e)
  have na : ∀ (j : Nat) {x f : Str}, fa[j]? = some (.noat x f) → NoAttr K (He.ga K x) f := fun j x f e => He.noat_ok (c.fact j e)
  have mt : ∀ (j : Nat) {x m : Str}, fa[j]? = some (.meth x m) → Meth K (He.ga K x) m (He.ma K (He.ga K x) m) := fun j x m e => He.meth_ok (c.fact j e)
  have mk : ∀ (j : Nat) {x : Str}, fa[j]? = some (.mkr x) → Mk K (He.ga K x) (He.ma K (He.ga K x) "__init__") := fun j x e => He.mkr_ok (c.fact j e)
  have ev : Ev mg := ⟨fr 57 rfl, fr 58 rfl, fr 59 rfl, fr 60 rfl, fr 61 rfl, fr 62 rfl, fr 63 rfl, fr 64 rfl, fr 65 rfl, fr 66 rfl, fr 67 rfl, fr 68 rfl, fr 69 rfl, fr 70 rfl, fr 71 rfl, fr 72 rfl⟩
  have kn : Kn mg := ⟨it 74 rfl, it 75 rfl, it 76 rfl, it 77 rfl, it 78 rfl, it 79 rfl, it 80 rfl, it 81 rfl⟩
  have cla : Cla K mg (He.ga K "Web") (He.ga K "Day") (He.ga K "Search") (He.ga K "Pair") := ⟨gl 53 rfl, gl 54 rfl, gl 55 rfl, gl 56 rfl, cl 82 rfl, cl 92 rfl, cl 99 rfl, cl 105 rfl,
    na 84 rfl, na 85 rfl, na 86 rfl, na 87 rfl, na 88 rfl, na 89 rfl, na 94 rfl, na 95 rfl, na 96 rfl, na 97 rfl,
    na 101 rfl, na 102 rfl, na 107 rfl, na 108 rfl, na 109 rfl, na 110 rfl⟩
  have icW := insC_of x1 cla.cW
  have icD := insC_of x2 cla.cD
  have oB := oexC_of x3
  have eB : PySem.W.exmOne K (.ref (He.ga K "BadDay")) (.ref (He.ga K "BadDay")) = some true := of_decide_eq_true x5
  have gB := gl 49 (x := "BadDay") rfl
  have bd : BadD PW w K mg base (He.ga K "BadDay") := badD_of y.bd x4 oB (fr 73 rfl) gB
  have D_is_integer := defN X G c 0 0 (x := "is_integer") (st := s_is_integer) rfl rfl
  have D_is_within := defN X G c 1 1 (x := "is_within") (st := s_is_within) rfl rfl
  have D_is_pair := defN X G c 2 2 (x := "is_pair") (st := s_is_pair) rfl rfl
  have D_are_ascending := defN X G c 3 3 (x := "are_ascending") (st := s_are_ascending) rfl rfl
  have D_check_from := defN X G c 4 4 (x := "check_from") (st := s_check_from) rfl rfl
  have D_are_roads := defN X G c 5 5 (x := "are_roads") (st := s_are_roads) rfl rfl
  have D_are_counts := defN X G c 6 6 (x := "are_counts") (st := s_are_counts) rfl rfl
  have D_is_road := defN X G c 7 7 (x := "is_road") (st := s_is_road) rfl rfl
  have D_is_way := defN X G c 8 8 (x := "is_way") (st := s_is_way) rfl rfl
  have D_is_letter := defN X G c 9 9 (x := "is_letter") (st := s_is_letter) rfl rfl
  have D_are_letters := defN X G c 10 10 (x := "are_letters") (st := s_are_letters) rfl rfl
  have D_are_hours := defN X G c 11 11 (x := "are_hours") (st := s_are_hours) rfl rfl
  have D_earliest := defN X G c 12 12 (x := "earliest") (st := s_earliest) rfl rfl
  have D_is_early := defN X G c 13 13 (x := "is_early") (st := s_is_early) rfl rfl
  have D_is_full := defN X G c 14 14 (x := "is_full") (st := s_is_full) rfl rfl
  have D_state_of := defN X G c 15 15 (x := "state_of") (st := s_state_of) rfl rfl
  have D_is_lost := defN X G c 16 16 (x := "is_lost") (st := s_is_lost) rfl rfl
  have D_ways_to_pick := defN X G c 17 17 (x := "ways_to_pick") (st := s_ways_to_pick) rfl rfl
  have D_picks_of := defN X G c 19 19 (x := "picks_of") (st := s_picks_of) rfl rfl
  have D_state_behind := defN X G c 20 20 (x := "state_behind") (st := s_state_behind) rfl rfl
  have D_split_state := defN X G c 21 21 (x := "split_state") (st := s_split_state) rfl rfl
  have D_both_lost := defN X G c 22 22 (x := "both_lost") (st := s_both_lost) rfl rfl
  have D_are_plan_places := defN X G c 23 23 (x := "are_plan_places") (st := s_are_plan_places) rfl rfl
  have D_is_plan := defN X G c 24 24 (x := "is_plan") (st := s_is_plan) rfl rfl
  have D_check_plan := defN X G c 25 25 (x := "check_plan") (st := s_check_plan) rfl rfl
  have D_plan_card := defN X G c 26 26 (x := "plan_card") (st := s_plan_card) rfl rfl
  have D_plan_cards := defN X G c 27 27 (x := "plan_cards") (st := s_plan_cards) rfl rfl
  have D_is_web_with_days := defN X G c 28 28 (x := "is_web_with_days") (st := s_is_web_with_days) rfl rfl
  have D_early_cards := defN X G c 29 29 (x := "early_cards") (st := s_early_cards) rfl rfl
  have D_is_plan_trap := defN X G c 30 30 (x := "is_plan_trap") (st := s_is_plan_trap) rfl rfl
  have D__law_hand := defN X G c 31 31 (x := "_law_hand") (st := s_law_hand) rfl rfl
  have D__law_draw := defN X G c 32 32 (x := "_law_draw") (st := s_law_draw) rfl rfl
  have D__law_flag := defN X G c 33 33 (x := "_law_flag") (st := s_law_flag) rfl rfl
  have D__law_put := defN X G c 34 34 (x := "_law_put") (st := s_law_put) rfl rfl
  have D__law_early := defN X G c 35 35 (x := "_law_early") (st := s_law_early) rfl rfl
  have D__law_plan := defN X G c 36 36 (x := "_law_plan") (st := s_law_plan) rfl rfl
  have D__law_plan_card := defN X G c 37 37 (x := "_law_plan_card") (st := s_law_plan_card) rfl rfl
  have D__law_any_late := defN X G c 38 38 (x := "_law_any_late") (st := s_law_any_late) rfl rfl
  have D__law_passings := defN X G c 39 39 (x := "_law_passings") (st := s_law_passings) rfl rfl
  have D__law_led_on := defN X G c 40 40 (x := "_law_led_on") (st := s_law_led_on) rfl rfl
  have D__law_both_lost := defN X G c 41 41 (x := "_law_both_lost") (st := s_law_both_lost) rfl rfl
  have D__law_shorts := defN X G c 42 42 (x := "_law_shorts") (st := s_law_shorts) rfl rfl
  have D__law_made := defN X G c 43 43 (x := "_law_made") (st := s_law_made) rfl rfl
  have D__law_long := defN X G c 44 44 (x := "_law_long") (st := s_law_long) rfl rfl
  have D__law_days := defN X G c 45 45 (x := "_law_days") (st := s_law_days) rfl rfl
  have hInt := ok_is_integer (P := PW) (w := w) (base := base) ev D_is_integer
  have hWithin := ok_is_within ev D_is_within hInt
  have hPair := ok_is_pair (P := PW) (w := w) (base := base) ev D_is_pair
  have hAsc := ok_are_ascending (P := PW) (w := w) (base := base) ev D_are_ascending
  have hFrom := ok_check_from ev D_check_from hInt
  have hCounts := ok_are_counts ev D_are_counts hWithin
  have hRoads := ok_are_roads ev kn D_are_roads hWithin hPair
  obtain ⟨fdk, Fk⟩ := methN c 48 (C := "Web") (m := "keep") (q := "Web.keep") (st := s_Web_keep) rfl
  have Gk := ok_keep (P := PW) (w := w) (base := base) ev cla Fk
  obtain ⟨fdw, Fw⟩ := methN c 47 (C := "Web") (m := "__init__") (q := "Web.__init__") (st := s_Web_init) rfl
  have FW := ok_web_init ev kn cla Fw hWithin hRoads hCounts (mt 90 rfl) Gk (Fk.bindsN (fun _ _ _ _ _ _ us hl => match us, hl with | [_, _, _, _, _], _ => rfl))
  obtain ⟨fde, Fe⟩ := methN c 49 (C := "Web") (m := "__eq__") (q := "Web.__eq__") (st := s_Web_eq) rfl
  have FE := ok_web_eq (P := PW) (w := w) (base := base) ev cla icW Fe
  have hRoad := ok_is_road ev cla D_is_road hWithin
  have hWay := ok_is_way ev kn cla D_is_way hRoad
  have hLetter := ok_is_letter ev kn cla D_is_letter hWithin hPair hWay
  have hLetters := ok_are_letters ev kn cla D_are_letters hLetter
  have hHours := ok_are_hours ev D_are_hours hInt
  have hEarliest := ok_earliest (P := PW) (w := w) (base := base) ev cla D_earliest
  have hEarly := ok_is_early ev cla D_is_early hEarliest
  have hFull := ok_is_full (P := PW) (w := w) (base := base) ev cla D_is_full
  obtain ⟨fdd, Fd⟩ := methN c 50 (C := "Day") (m := "__init__") (q := "Day.__init__") (st := s_Day_init) rfl
  have FD := ok_day_init cla bd Fd hLetters hHours hEarly hFull
  have hLost := ok_is_lost (P := PW) (w := w) (base := base) ev cla D_is_lost
  have hWays := ok_ways (P := PW) (w := w) (base := base) ev D_ways_to_pick 21
  have hPbr := ok_pbr ev cla (defC_of X G c TB) hWays
  have hPicks := ok_picks D_picks_of hPbr
  have hBehind := ok_behind (P := PW) (w := w) (base := base) ev cla D_state_behind
  obtain ⟨gC, FC⟩ := methN c 53 (C := "Search") (m := "can_save") (q := "Search.can_save") (st := s_Search_can_save) rfl
  obtain ⟨gT, FT⟩ := methN c 54 (C := "Search") (m := "tried") (q := "Search.tried") (st := s_Search_tried) rfl
  have sm : SMs K (He.ga K "Search") _ _ gC gT := ⟨mt 103 rfl, FC, FC.bindsN (fun _ _ _ _ _ _ us hl => match us, hl with | [_, _, _], _ => rfl), mt 104 rfl, FT, FT.bindsN (fun _ _ _ _ _ _ us hl => match us, hl with | [_, _, _], _ => rfl)⟩
  have hSearch := search_ok ev cla sm hLost hPicks hBehind 31
  obtain ⟨qS, FS⟩ := methN c 57 (C := "Pair") (m := "saved_behind") (q := "Pair.saved_behind") (st := s_Pair_saved_behind) rfl
  obtain ⟨qB, FB⟩ := methN c 56 (C := "Pair") (m := "both_saved") (q := "Pair.both_saved") (st := s_Pair_both_saved) rfl
  obtain ⟨qT, FT2⟩ := methN c 58 (C := "Pair") (m := "both_tried") (q := "Pair.both_tried") (st := s_Pair_both_tried) rfl
  have pm : PMs K (He.ga K "Pair") _ _ _ qS qB qT := ⟨mt 112 rfl, FS, FS.bindsN (fun _ _ _ _ _ _ us hl => match us, hl with | [_, _], _ => rfl), mt 111 rfl, FB, FB.bindsN (fun _ _ _ _ _ _ us hl => match us, hl with | [_, _, _], _ => rfl), mt 113 rfl, FT2, FT2.bindsN (fun _ _ _ _ _ _ us hl => match us, hl with | [_, _, _], _ => rfl)⟩
  have hSB := ok_saved_behind cla sm pm hSearch ev
  have hBS := pair_ok ev cla pm hLost hPicks hBehind hSB 30
  obtain ⟨gSi, Fsi⟩ := methN c 52 (C := "Search") (m := "__init__") (q := "Search.__init__") (st := s_Search_init) rfl
  have Gs := ok_sch_init (P := PW) (w := w) (base := base) cla Fsi
  obtain ⟨gPi, Fpi⟩ := methN c 55 (C := "Pair") (m := "__init__") (q := "Pair.__init__") (st := s_Pair_init) rfl
  have Gp := ok_pair_init cla Fpi (mk 100 rfl) Gs (Fsi.bindsN (fun _ _ _ _ _ _ us hl => match us, hl with | [_, _], _ => rfl))
  have hStateOf := ok_state_of (P := PW) (w := w) (base := base) ev cla D_state_of
  have hSplit := ok_split ev cla D_split_state hStateOf
  have hBL := ok_both_lost ev cla D_both_lost pm hSplit (mk 106 rfl) Gp (Fpi.bindsN (fun _ _ _ _ _ _ us hl => match us, hl with | [_, _, _, _], _ => rfl)) hBS
  have hPlaces := ok_places ev D_are_plan_places hWithin hAsc
  have hIsPlan := ok_is_plan ev kn D_is_plan hPlaces
  have hCheck := ok_check_plan D_check_plan hIsPlan
  have hCard := ok_plan_card (P := PW) (w := w) (base := base) ev D_plan_card
  have hCards := ok_plan_cards ev cla D_plan_cards hCheck hCard
  have hEC := ok_early_cards ev D_early_cards hCards
  have me := mt 91 (x := "Web") (m := "__eq__") rfl
  have hWD := ok_web_days ev kn cla icW icD FE me.at_ me.fn (Fe.bindsN (fun _ _ _ _ _ _ us hl => match us, hl with | [_, _], _ => rfl)) D_is_web_with_days hWithin
  have hTrap := ok_trap ev kn cla D_is_plan_trap hCheck hFrom hWD hEC hBL
  have hHand := ok_hand (P := PW) (w := w) (base := base) ev D__law_hand
  have hDraw := ok_draw (P := PW) (w := w) (base := base) ev D__law_draw
  have hFlag := ok_flag (P := PW) (w := w) (base := base) ev D__law_flag
  have hPut := ok_put (P := PW) (w := w) (base := base) D__law_put
  have hLEarly := ok_learly (P := PW) (w := w) (base := base) ev D__law_early
  have hLPlan := ok_lplan ev D__law_plan hDraw
  have hLPC := ok_lplan_card (P := PW) (w := w) (base := base) ev D__law_plan_card
  have hAny := ok_any_late (P := PW) (w := w) (base := base) ev D__law_any_late
  have hPass := ok_passings ev D__law_passings hPut
  have hLed := ok_led_on ev D__law_led_on hAny hPass
  have hLL := ok_llost ev D__law_both_lost hPut hLed
  have hShorts := ok_shorts ev D__law_shorts hDraw
  have hMade := ok_made ev cla gB eB D__law_made (mk 93 rfl) FD (Fd.bindsN (fun _ _ _ _ _ _ us hl => match us, hl with | [_, _, _, _], _ => rfl))
  have hLong := ok_long ev D__law_long hDraw
  have hDays := ok_days ev D__law_days hDraw hShorts hLong hMade
  exact ok_law ev cla (mk 83 rfl) FW (Fw.bindsN (fun _ _ _ _ _ _ us hl => match us, hl with | [_, _, _, _, _], _ => rfl)) hHand hDraw hPut hLPlan hDays hLPC hLEarly hLL hFlag hTrap
end
theorem law_at {w : World} {K : PySem.W.Frag} {h : Heap} {mg : Str → Option Value} {f : Addr} (X : K.In h) (G : h.Ns mainGlobals mg) (hf : mg ("law" : Str) = some (.ref f)) (y : SaysY h K) : LawAtS PySem.Challenge.rw_hourcards_k76_whole_plan_traps_by_own_se w K CX0 152 63 "_law_script" mg f h := by
  obtain ⟨fd, F⟩ := y.d.def_ 46 (d := ⟨("law", none), "law", "law", defArgs s_law, defBody s_law, defScope s_law, [], []⟩) rfl
  have e := hf.symm.trans (He.glo_ok X G (y.d.fact 46 (f := .glo "law") rfl))
  cases e
  refine ⟨fd, [He.cT K pbrAt], spLaw K (He.cT K pbrAt).2, fun p hp => ?_, fun p hp => ?_, fun p hp => ?_, fun s v => FunD.bindsA (ps := ["_law_script"]) F (fun _ _ _ _ _ _ us hl => match us, hl with | [_], _ => rfl) s [v] rfl, fun H a ns hl _ hH hS => ?_, fun base KB GB TB => ?_⟩
  · rw [List.mem_singleton.mp hp]; exact y.empty
  · rw [List.mem_singleton.mp hp]; exact y.out
  · rw [List.mem_singleton.mp hp]; exact PySem.W.codeHd_of_K X y.hd
  · refine ⟨a, ns, rfl, hS, hl, fun p hp => ?_, fun _ => rfl⟩
    rw [List.mem_singleton.mp hp]
    exact TabS.nil (hH _ (List.mem_singleton.mpr rfl))
  · exact main_ok X G y (TB _ (List.mem_singleton.mpr rfl)) _ fd F
end Hc
end

set_option Elab.async false
set_option linter.all false
set_option maxRecDepth 100000
set_option maxHeartbeats 0
open PySem PySem.W PySem.Calls PyProof.Rows
theorem PySem.Challenge.cw_hourcards_k76_whole_plan_traps_by_own_se_holds : PySem.Challenge.rw_hourcards_k76_whole_plan_traps_by_own_se.Holds := by
  w_on; o_law
  refine HandSHeadRun.head_any (r := Hc.RR) (q := view Hc.RR.prog [71]) (H := Hc.hookY) (ob := Hc.obY) (M := 8000) (loose := Hc.names) (d := HandSHeadRun.topDef Hc.RR.prog 71) (kwd := []) Hc.obY_eq
    (by kernel_rfl) (fun s => by kernel_rfl) Hc.run (by kernel_rfl) (by kernel_rfl) (by kernel_rfl) (by rfl) (by first | assumption | decide +kernel) (by decide +kernel) ⟨rfl, rfl, rfl, rfl, rfl, by decide +kernel⟩ ?hw ?hc
  case hw => w_witness2
  case hc =>
    refine LamX.walk_ofTsE (l := PySem.Challenge.rw_hourcards_k76_whole_plan_traps_by_own_se) (n := 63) (k := 152) (x := "_law_script") (CX := fun _ => L2.CX0) rfl (by decide) (by kernel_rfl) ⟨rfl, by decide, by decide⟩ ?F (fun _ _ _ _ _ z => z)
    intro w mg fa h Y G hmg0
    obtain ⟨K, KX, c⟩ := Y
    have hmg : mg ("law" : PySem.Str) = some (.ref fa) := by
      have e : (HandSHeadRun.topDef Hc.RR.prog 71).name = ("law" : PySem.Str) := by kernel_rfl
      rw [← e]
      exact hmg0
    exact ⟨K, KX, Hc.law_at KX G hmg c⟩
