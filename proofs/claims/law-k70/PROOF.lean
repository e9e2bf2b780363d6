import PyProof.Rows.All
import Wide.All
import OpenK.AllK
import Wide.FinOn
import KE.KStateDown
import KE.GoesNew
import KE.GoesEnum
import KE.KNest
import KE.KNestM
import HandS.ForMost
import HandS.Exc
import HandS.Codes
import HandS.Defaults
import HandS.Property
import HandS.Lambda
import HandS.Head0
import HandS.Head1
import HandS.Head2
import HandS.HeadEnd
import HandS.HeadHook1
import HandS.HeadHook2
import HandS.HeadHook3
import HandS.HeadHook4
import HandS.HeadNt
import HandS.HeadWalk
import HandS.IsInst
import HandS.Iter
import HandS.Zip
import HandS.Star
import HandS.Small
import HandS.Style
import HandS.Conv
import HandS.More
import HandS.DictComp
import HandS.Sort
import HandS.SortOrd
import HandS.Deep
import HandS.DeepEq
import HandS.OwnEq
import HandS.SetKeys
import HandS.TupAny
import HandS.TupLen
import HandS.CallLocal
import HandS.ExcOwn
import HandS.ExcValue
import HandS.ExcIs
import HandS.RaiseMore
import HandS.Walk
import HandS.Flow
import HandS.WordsExc
import HandS.WordsDict
import HandS.WordsList
import HandS.TryOnly
import HandS.EndBits
import HandS.EndTab
import HandS.Text
import HandS.Finally
import KE.KWithOwn
import KE.KDictDisplayH
import KE.SortData
import PyProof.Rows.StrMeet
import HandS.SetFor
import KE.DataEq
import PySem.Challenge.RW_neverbeen_k70_whole_live_logs_and_functi
/-! part Tx -/
set_option Elab.async false
set_option linter.all false
set_option maxRecDepth 100000
set_option maxHeartbeats 0

/-! The head: the places of the defs, the facts of the top, the run. -/
namespace Nb
open PySem PySem.Spec PyProof.Rows L2
def top (i : Nat) : Stmt := PySem.Challenge.pw_neverbeen_k70_whole_live_logs_and_functi.main.body.getD i (.Pass ⟨0, 0, 0, 0⟩)
def pg (K : PySem.W.Frag) (C m : Str) : Addr := match PySem.W.recIn K (He.ma K (He.ga K C) m) "property" with
  | some (.ref g :: _) => g
  | _ => 0
abbrev s_is_number : Stmt := top 19
abbrev s_is_number_in : Stmt := top 20
abbrev s_is_list : Stmt := top 21
abbrev s_is_name : Stmt := top 22
abbrev s_are_seen : Stmt := top 23
abbrev s_is_map : Stmt := top 24
abbrev s_are_deeds : Stmt := top 25
abbrev s_classes_of : Stmt := top 26
abbrev s_Machine_init : Stmt := inClass (top 27) 0
abbrev s_Machine_eq : Stmt := inClass (top 27) 5
abbrev s_need_machine : Stmt := top 28
abbrev s_led_by : Stmt := top 29
abbrev s_is_entry : Stmt := top 33
abbrev s_people_in : Stmt := top 34
abbrev s_need_log : Stmt := top 35
abbrev s_are_people : Stmt := top 36
abbrev s_need_lot : Stmt := top 37
abbrev s_need_few : Stmt := top 38
abbrev s_need_people : Stmt := top 39
abbrev s_lots_of : Stmt := top 40
abbrev s_without_of : Stmt := top 41
abbrev s_state_behind : Stmt := top 42
abbrev s_need_all : Stmt := top 43
abbrev s_people_of : Stmt := top 44
abbrev s_without : Stmt := top 45
abbrev s_seen_of : Stmt := top 46
abbrev s_lots : Stmt := top 47
abbrev s_need_logs : Stmt := top 49
abbrev s_lots_of_both : Stmt := top 50
abbrev s_states_behind : Stmt := top 51
abbrev s_unlike_lot : Stmt := top 52
abbrev s_alike : Stmt := top 53
abbrev s_need_person : Stmt := top 55
abbrev s_shows_person : Stmt := top 56
abbrev s_reason_of : Stmt := top 57
abbrev s_matter_of : Stmt := top 58
abbrev s_freed_of : Stmt := top 59
abbrev s_matter : Stmt := top 60
abbrev s_freed : Stmt := top 62
abbrev s_entries_by : Stmt := top 65
abbrev s_begin_of : Stmt := top 66
abbrev s_led : Stmt := top 67
abbrev s_standing_by : Stmt := top 68
abbrev s_trails_of : Stmt := top 69
abbrev s_people_for : Stmt := top 70
abbrev s_shortest_of : Stmt := top 71
abbrev s_shortest : Stmt := top 72
abbrev s_State_init : Stmt := inClass (top 74) 0
abbrev s_Begun_init : Stmt := inClass (top 75) 0
abbrev s_Live_init : Stmt := inClass (top 76) 0
abbrev s_Live_machine : Stmt := inClass (top 76) 1
abbrev s_Live_few : Stmt := inClass (top 76) 2
abbrev s_Live_log : Stmt := inClass (top 76) 3
abbrev s_Live_people : Stmt := inClass (top 76) 4
abbrev s_Live_seen : Stmt := inClass (top 76) 5
abbrev s_Live_history : Stmt := inClass (top 76) 6
abbrev s_Live_state : Stmt := inClass (top 76) 7
abbrev s_Live_stand : Stmt := inClass (top 76) 8
abbrev s_Live_need_person : Stmt := inClass (top 76) 9
abbrev s_Live_add : Stmt := inClass (top 76) 10
abbrev s_Live_strike : Stmt := inClass (top 76) 11
abbrev s_Live_forget : Stmt := inClass (top 76) 12
abbrev s_Live_give : Stmt := inClass (top 76) 13
abbrev s_Live_undo : Stmt := inClass (top 76) 14
abbrev s_Live_without : Stmt := inClass (top 76) 15
abbrev s_Live_matter : Stmt := inClass (top 76) 16
abbrev s_Live_tried : Stmt := inClass (top 76) 17
abbrev s_Live_enter : Stmt := inClass (top 76) 21
abbrev s_Live_exit : Stmt := inClass (top 76) 22
abbrev s_seen_without : Stmt := top 78
abbrev s_turning_lots : Stmt := top 79
abbrev s_is_within : Stmt := top 80
abbrev s_causes_of : Stmt := top 81
abbrev s_causes : Stmt := top 82
abbrev s__law_begin : Stmt := top 84
abbrev s__law_blend : Stmt := top 85
abbrev s__law_pick : Stmt := top 86
abbrev s__law_mixed : Stmt := top 87
abbrev s__law_take : Stmt := top 88
abbrev s__law_caught : Stmt := top 89
abbrev s__law_names : Stmt := top 90
abbrev s__law_map : Stmt := top 91
abbrev s__law_model : Stmt := top 92
abbrev s__law_made : Stmt := top 93
abbrev s__law_led : Stmt := top 94
abbrev s__law_apart : Stmt := top 95
abbrev s__law_images : Stmt := top 96
abbrev s__law_log : Stmt := top 97
abbrev s__law_folk : Stmt := top 98
abbrev s__law_rest : Stmt := top 99
abbrev s__law_behind : Stmt := top 100
abbrev s__law_lots : Stmt := top 101
abbrev s__law_vector : Stmt := top 102
abbrev s__law_truth : Stmt := top 103
abbrev s__law_entries : Stmt := top 104
abbrev s__law_short : Stmt := top 105
abbrev s__law_matter : Stmt := top 106
abbrev s__law_given : Stmt := top 107
abbrev s__law_blank : Stmt := top 108
abbrev s__law_answer : Stmt := top 109
abbrev s__law_deed : Stmt := top 110
abbrev s__law_do : Stmt := top 111
abbrev s__law_is_so : Stmt := top 112
abbrev s__law_fails : Stmt := top 113
abbrev s__law_deed_right : Stmt := top 114
abbrev s__law_agrees : Stmt := top 115
abbrev s_law : Stmt := top 116
def d_is_number : He5.DefA := ⟨fun K => He.ga K "is_number", "is_number", "is_number", defArgs s_is_number, defBody s_is_number, defScope s_is_number, [], []⟩
def d_is_number_in : He5.DefA := ⟨fun K => He.ga K "is_number_in", "is_number_in", "is_number_in", defArgs s_is_number_in, defBody s_is_number_in, defScope s_is_number_in, [], []⟩
def d_is_list : He5.DefA := ⟨fun K => He.ga K "is_list", "is_list", "is_list", defArgs s_is_list, defBody s_is_list, defScope s_is_list, [], []⟩
def d_is_name : He5.DefA := ⟨fun K => He.ga K "is_name", "is_name", "is_name", defArgs s_is_name, defBody s_is_name, defScope s_is_name, [], []⟩
def d_are_seen : He5.DefA := ⟨fun K => He.ga K "are_seen", "are_seen", "are_seen", defArgs s_are_seen, defBody s_are_seen, defScope s_are_seen, [], []⟩
def d_is_map : He5.DefA := ⟨fun K => He.ga K "is_map", "is_map", "is_map", defArgs s_is_map, defBody s_is_map, defScope s_is_map, [], []⟩
def d_are_deeds : He5.DefA := ⟨fun K => He.ga K "are_deeds", "are_deeds", "are_deeds", defArgs s_are_deeds, defBody s_are_deeds, defScope s_are_deeds, [], []⟩
def d_classes_of : He5.DefA := ⟨fun K => He.ga K "classes_of", "classes_of", "classes_of", defArgs s_classes_of, defBody s_classes_of, defScope s_classes_of, [], []⟩
def d_Machine_init : He5.DefA := ⟨fun K => He.ma K (He.ga K "Machine") "__init__", "__init__", "Machine.__init__", defArgs s_Machine_init, defBody s_Machine_init, defScope s_Machine_init, [], []⟩
def d_Machine_eq : He5.DefA := ⟨fun K => He.ma K (He.ga K "Machine") "__eq__", "__eq__", "Machine.__eq__", defArgs s_Machine_eq, defBody s_Machine_eq, defScope s_Machine_eq, [], []⟩
def d_need_machine : He5.DefA := ⟨fun K => He.ga K "need_machine", "need_machine", "need_machine", defArgs s_need_machine, defBody s_need_machine, defScope s_need_machine, [.str "machine"], []⟩
def d_led_by : He5.DefA := ⟨fun K => He.ga K "led_by", "led_by", "led_by", defArgs s_led_by, defBody s_led_by, defScope s_led_by, [], []⟩
def d_is_entry : He5.DefA := ⟨fun K => He.ga K "is_entry", "is_entry", "is_entry", defArgs s_is_entry, defBody s_is_entry, defScope s_is_entry, [], []⟩
def d_people_in : He5.DefA := ⟨fun K => He.ga K "people_in", "people_in", "people_in", defArgs s_people_in, defBody s_people_in, defScope s_people_in, [], []⟩
def d_need_log : He5.DefA := ⟨fun K => He.ga K "need_log", "need_log", "need_log", defArgs s_need_log, defBody s_need_log, defScope s_need_log, [], []⟩
def d_are_people : He5.DefA := ⟨fun K => He.ga K "are_people", "are_people", "are_people", defArgs s_are_people, defBody s_are_people, defScope s_are_people, [], []⟩
def d_need_lot : He5.DefA := ⟨fun K => He.ga K "need_lot", "need_lot", "need_lot", defArgs s_need_lot, defBody s_need_lot, defScope s_need_lot, [], []⟩
def d_need_few : He5.DefA := ⟨fun K => He.ga K "need_few", "need_few", "need_few", defArgs s_need_few, defBody s_need_few, defScope s_need_few, [], []⟩
def d_need_people : He5.DefA := ⟨fun K => He.ga K "need_people", "need_people", "need_people", defArgs s_need_people, defBody s_need_people, defScope s_need_people, [.int 6], []⟩
def d_lots_of : He5.DefA := ⟨fun K => He.ga K "lots_of", "lots_of", "lots_of", defArgs s_lots_of, defBody s_lots_of, defScope s_lots_of, [], []⟩
def d_without_of : He5.DefA := ⟨fun K => He.ga K "without_of", "without_of", "without_of", defArgs s_without_of, defBody s_without_of, defScope s_without_of, [], []⟩
def d_state_behind : He5.DefA := ⟨fun K => He.ga K "state_behind", "state_behind", "state_behind", defArgs s_state_behind, defBody s_state_behind, defScope s_state_behind, [], []⟩
def d_need_all : He5.DefA := ⟨fun K => He.ga K "need_all", "need_all", "need_all", defArgs s_need_all, defBody s_need_all, defScope s_need_all, [], []⟩
def d_people_of : He5.DefA := ⟨fun K => He.ga K "people_of", "people_of", "people_of", defArgs s_people_of, defBody s_people_of, defScope s_people_of, [], []⟩
def d_without : He5.DefA := ⟨fun K => He.ga K "without", "without", "without", defArgs s_without, defBody s_without, defScope s_without, [], []⟩
def d_seen_of : He5.DefA := ⟨fun K => He.ga K "seen_of", "seen_of", "seen_of", defArgs s_seen_of, defBody s_seen_of, defScope s_seen_of, [], []⟩
def d_lots : He5.DefA := ⟨fun K => He.ga K "lots", "lots", "lots", defArgs s_lots, defBody s_lots, defScope s_lots, [], []⟩
def d_need_logs : He5.DefA := ⟨fun K => He.ga K "need_logs", "need_logs", "need_logs", defArgs s_need_logs, defBody s_need_logs, defScope s_need_logs, [], []⟩
def d_lots_of_both : He5.DefA := ⟨fun K => He.ga K "lots_of_both", "lots_of_both", "lots_of_both", defArgs s_lots_of_both, defBody s_lots_of_both, defScope s_lots_of_both, [], []⟩
def d_states_behind : He5.DefA := ⟨fun K => He.ga K "states_behind", "states_behind", "states_behind", defArgs s_states_behind, defBody s_states_behind, defScope s_states_behind, [], []⟩
def d_unlike_lot : He5.DefA := ⟨fun K => He.ga K "unlike_lot", "unlike_lot", "unlike_lot", defArgs s_unlike_lot, defBody s_unlike_lot, defScope s_unlike_lot, [], []⟩
def d_alike : He5.DefA := ⟨fun K => He.ga K "alike", "alike", "alike", defArgs s_alike, defBody s_alike, defScope s_alike, [], []⟩
def d_need_person : He5.DefA := ⟨fun K => He.ga K "need_person", "need_person", "need_person", defArgs s_need_person, defBody s_need_person, defScope s_need_person, [], []⟩
def d_shows_person : He5.DefA := ⟨fun K => He.ga K "shows_person", "shows_person", "shows_person", defArgs s_shows_person, defBody s_shows_person, defScope s_shows_person, [], []⟩
def d_reason_of : He5.DefA := ⟨fun K => He.ga K "reason_of", "reason_of", "reason_of", defArgs s_reason_of, defBody s_reason_of, defScope s_reason_of, [], []⟩
def d_matter_of : He5.DefA := ⟨fun K => He.ga K "matter_of", "matter_of", "matter_of", defArgs s_matter_of, defBody s_matter_of, defScope s_matter_of, [], []⟩
def d_freed_of : He5.DefA := ⟨fun K => He.ga K "freed_of", "freed_of", "freed_of", defArgs s_freed_of, defBody s_freed_of, defScope s_freed_of, [], []⟩
def d_matter : He5.DefA := ⟨fun K => He.ga K "matter", "matter", "matter", defArgs s_matter, defBody s_matter, defScope s_matter, [], []⟩
def d_freed : He5.DefA := ⟨fun K => He.ga K "freed", "freed", "freed", defArgs s_freed, defBody s_freed, defScope s_freed, [], []⟩
def d_entries_by : He5.DefA := ⟨fun K => He.ga K "entries_by", "entries_by", "entries_by", defArgs s_entries_by, defBody s_entries_by, defScope s_entries_by, [], []⟩
def d_begin_of : He5.DefA := ⟨fun K => He.ga K "begin_of", "begin_of", "begin_of", defArgs s_begin_of, defBody s_begin_of, defScope s_begin_of, [], []⟩
def d_led : He5.DefA := ⟨fun K => He.ga K "led", "led", "led", defArgs s_led, defBody s_led, defScope s_led, [], []⟩
def d_standing_by : He5.DefA := ⟨fun K => He.ga K "standing_by", "standing_by", "standing_by", defArgs s_standing_by, defBody s_standing_by, defScope s_standing_by, [], []⟩
def d_trails_of : He5.DefA := ⟨fun K => He.ga K "trails_of", "trails_of", "trails_of", defArgs s_trails_of, defBody s_trails_of, defScope s_trails_of, [], []⟩
def d_people_for : He5.DefA := ⟨fun K => He.ga K "people_for", "people_for", "people_for", defArgs s_people_for, defBody s_people_for, defScope s_people_for, [], []⟩
def d_shortest_of : He5.DefA := ⟨fun K => He.ga K "shortest_of", "shortest_of", "shortest_of", defArgs s_shortest_of, defBody s_shortest_of, defScope s_shortest_of, [], []⟩
def d_shortest : He5.DefA := ⟨fun K => He.ga K "shortest", "shortest", "shortest", defArgs s_shortest, defBody s_shortest, defScope s_shortest, [], []⟩
def d_State_init : He5.DefA := ⟨fun K => He.ma K (He.ga K "State") "__init__", "__init__", "State.__init__", defArgs s_State_init, defBody s_State_init, defScope s_State_init, [], []⟩
def d_Begun_init : He5.DefA := ⟨fun K => He.ma K (He.ga K "Begun") "__init__", "__init__", "Begun.__init__", defArgs s_Begun_init, defBody s_Begun_init, defScope s_Begun_init, [], []⟩
def d_Live_init : He5.DefA := ⟨fun K => He.ma K (He.ga K "Live") "__init__", "__init__", "Live.__init__", defArgs s_Live_init, defBody s_Live_init, defScope s_Live_init, [], []⟩
def d_Live_machine : He5.DefA := ⟨fun K => pg K "Live" "machine", "machine", "Live.machine", defArgs s_Live_machine, defBody s_Live_machine, defScope s_Live_machine, [], []⟩
def d_Live_few : He5.DefA := ⟨fun K => pg K "Live" "few", "few", "Live.few", defArgs s_Live_few, defBody s_Live_few, defScope s_Live_few, [], []⟩
def d_Live_log : He5.DefA := ⟨fun K => pg K "Live" "log", "log", "Live.log", defArgs s_Live_log, defBody s_Live_log, defScope s_Live_log, [], []⟩
def d_Live_people : He5.DefA := ⟨fun K => pg K "Live" "people", "people", "Live.people", defArgs s_Live_people, defBody s_Live_people, defScope s_Live_people, [], []⟩
def d_Live_seen : He5.DefA := ⟨fun K => pg K "Live" "seen", "seen", "Live.seen", defArgs s_Live_seen, defBody s_Live_seen, defScope s_Live_seen, [], []⟩
def d_Live_history : He5.DefA := ⟨fun K => pg K "Live" "history", "history", "Live.history", defArgs s_Live_history, defBody s_Live_history, defScope s_Live_history, [], []⟩
def d_Live_state : He5.DefA := ⟨fun K => He.ma K (He.ga K "Live") "state", "state", "Live.state", defArgs s_Live_state, defBody s_Live_state, defScope s_Live_state, [], []⟩
def d_Live_stand : He5.DefA := ⟨fun K => He.ma K (He.ga K "Live") "stand", "stand", "Live.stand", defArgs s_Live_stand, defBody s_Live_stand, defScope s_Live_stand, [], []⟩
def d_Live_need_person : He5.DefA := ⟨fun K => He.ma K (He.ga K "Live") "need_person", "need_person", "Live.need_person", defArgs s_Live_need_person, defBody s_Live_need_person, defScope s_Live_need_person, [], []⟩
def d_Live_add : He5.DefA := ⟨fun K => He.ma K (He.ga K "Live") "add", "add", "Live.add", defArgs s_Live_add, defBody s_Live_add, defScope s_Live_add, [], []⟩
def d_Live_strike : He5.DefA := ⟨fun K => He.ma K (He.ga K "Live") "strike", "strike", "Live.strike", defArgs s_Live_strike, defBody s_Live_strike, defScope s_Live_strike, [], []⟩
def d_Live_forget : He5.DefA := ⟨fun K => He.ma K (He.ga K "Live") "forget", "forget", "Live.forget", defArgs s_Live_forget, defBody s_Live_forget, defScope s_Live_forget, [], []⟩
def d_Live_give : He5.DefA := ⟨fun K => He.ma K (He.ga K "Live") "give", "give", "Live.give", defArgs s_Live_give, defBody s_Live_give, defScope s_Live_give, [], []⟩
def d_Live_undo : He5.DefA := ⟨fun K => He.ma K (He.ga K "Live") "undo", "undo", "Live.undo", defArgs s_Live_undo, defBody s_Live_undo, defScope s_Live_undo, [], []⟩
def d_Live_without : He5.DefA := ⟨fun K => He.ma K (He.ga K "Live") "without", "without", "Live.without", defArgs s_Live_without, defBody s_Live_without, defScope s_Live_without, [], []⟩
def d_Live_matter : He5.DefA := ⟨fun K => He.ma K (He.ga K "Live") "matter", "matter", "Live.matter", defArgs s_Live_matter, defBody s_Live_matter, defScope s_Live_matter, [], []⟩
def d_Live_tried : He5.DefA := ⟨fun K => He.ma K (He.ga K "Live") "tried", "tried", "Live.tried", defArgs s_Live_tried, defBody s_Live_tried, defScope s_Live_tried, [], []⟩
def d_Live_enter : He5.DefA := ⟨fun K => He.ma K (He.ga K "Live") "__enter__", "__enter__", "Live.__enter__", defArgs s_Live_enter, defBody s_Live_enter, defScope s_Live_enter, [], []⟩
def d_Live_exit : He5.DefA := ⟨fun K => He.ma K (He.ga K "Live") "__exit__", "__exit__", "Live.__exit__", defArgs s_Live_exit, defBody s_Live_exit, defScope s_Live_exit, [], []⟩
def d_seen_without : He5.DefA := ⟨fun K => He.ga K "seen_without", "seen_without", "seen_without", defArgs s_seen_without, defBody s_seen_without, defScope s_seen_without, [], []⟩
def d_turning_lots : He5.DefA := ⟨fun K => He.ga K "turning_lots", "turning_lots", "turning_lots", defArgs s_turning_lots, defBody s_turning_lots, defScope s_turning_lots, [], []⟩
def d_is_within : He5.DefA := ⟨fun K => He.ga K "is_within", "is_within", "is_within", defArgs s_is_within, defBody s_is_within, defScope s_is_within, [], []⟩
def d_causes_of : He5.DefA := ⟨fun K => He.ga K "causes_of", "causes_of", "causes_of", defArgs s_causes_of, defBody s_causes_of, defScope s_causes_of, [], []⟩
def d_causes : He5.DefA := ⟨fun K => He.ga K "causes", "causes", "causes", defArgs s_causes, defBody s_causes, defScope s_causes, [], []⟩
def d__law_begin : He5.DefA := ⟨fun K => He.ga K "_law_begin", "_law_begin", "_law_begin", defArgs s__law_begin, defBody s__law_begin, defScope s__law_begin, [], []⟩
def d__law_blend : He5.DefA := ⟨fun K => He.ga K "_law_blend", "_law_blend", "_law_blend", defArgs s__law_blend, defBody s__law_blend, defScope s__law_blend, [], []⟩
def d__law_pick : He5.DefA := ⟨fun K => He.ga K "_law_pick", "_law_pick", "_law_pick", defArgs s__law_pick, defBody s__law_pick, defScope s__law_pick, [], []⟩
def d__law_mixed : He5.DefA := ⟨fun K => He.ga K "_law_mixed", "_law_mixed", "_law_mixed", defArgs s__law_mixed, defBody s__law_mixed, defScope s__law_mixed, [], []⟩
def d__law_take : He5.DefA := ⟨fun K => He.ga K "_law_take", "_law_take", "_law_take", defArgs s__law_take, defBody s__law_take, defScope s__law_take, [], []⟩
def d__law_caught : He5.DefA := ⟨fun K => He.ga K "_law_caught", "_law_caught", "_law_caught", defArgs s__law_caught, defBody s__law_caught, defScope s__law_caught, [], []⟩
def d__law_names : He5.DefA := ⟨fun K => He.ga K "_law_names", "_law_names", "_law_names", defArgs s__law_names, defBody s__law_names, defScope s__law_names, [], []⟩
def d__law_map : He5.DefA := ⟨fun K => He.ga K "_law_map", "_law_map", "_law_map", defArgs s__law_map, defBody s__law_map, defScope s__law_map, [], []⟩
def d__law_model : He5.DefA := ⟨fun K => He.ga K "_law_model", "_law_model", "_law_model", defArgs s__law_model, defBody s__law_model, defScope s__law_model, [], []⟩
def d__law_made : He5.DefA := ⟨fun K => He.ga K "_law_made", "_law_made", "_law_made", defArgs s__law_made, defBody s__law_made, defScope s__law_made, [], []⟩
def d__law_led : He5.DefA := ⟨fun K => He.ga K "_law_led", "_law_led", "_law_led", defArgs s__law_led, defBody s__law_led, defScope s__law_led, [], []⟩
def d__law_apart : He5.DefA := ⟨fun K => He.ga K "_law_apart", "_law_apart", "_law_apart", defArgs s__law_apart, defBody s__law_apart, defScope s__law_apart, [], []⟩
def d__law_images : He5.DefA := ⟨fun K => He.ga K "_law_images", "_law_images", "_law_images", defArgs s__law_images, defBody s__law_images, defScope s__law_images, [], []⟩
def d__law_log : He5.DefA := ⟨fun K => He.ga K "_law_log", "_law_log", "_law_log", defArgs s__law_log, defBody s__law_log, defScope s__law_log, [], []⟩
def d__law_folk : He5.DefA := ⟨fun K => He.ga K "_law_folk", "_law_folk", "_law_folk", defArgs s__law_folk, defBody s__law_folk, defScope s__law_folk, [], []⟩
def d__law_rest : He5.DefA := ⟨fun K => He.ga K "_law_rest", "_law_rest", "_law_rest", defArgs s__law_rest, defBody s__law_rest, defScope s__law_rest, [], []⟩
def d__law_behind : He5.DefA := ⟨fun K => He.ga K "_law_behind", "_law_behind", "_law_behind", defArgs s__law_behind, defBody s__law_behind, defScope s__law_behind, [], []⟩
def d__law_lots : He5.DefA := ⟨fun K => He.ga K "_law_lots", "_law_lots", "_law_lots", defArgs s__law_lots, defBody s__law_lots, defScope s__law_lots, [], []⟩
def d__law_vector : He5.DefA := ⟨fun K => He.ga K "_law_vector", "_law_vector", "_law_vector", defArgs s__law_vector, defBody s__law_vector, defScope s__law_vector, [], []⟩
def d__law_truth : He5.DefA := ⟨fun K => He.ga K "_law_truth", "_law_truth", "_law_truth", defArgs s__law_truth, defBody s__law_truth, defScope s__law_truth, [], []⟩
def d__law_entries : He5.DefA := ⟨fun K => He.ga K "_law_entries", "_law_entries", "_law_entries", defArgs s__law_entries, defBody s__law_entries, defScope s__law_entries, [], []⟩
def d__law_short : He5.DefA := ⟨fun K => He.ga K "_law_short", "_law_short", "_law_short", defArgs s__law_short, defBody s__law_short, defScope s__law_short, [], []⟩
def d__law_matter : He5.DefA := ⟨fun K => He.ga K "_law_matter", "_law_matter", "_law_matter", defArgs s__law_matter, defBody s__law_matter, defScope s__law_matter, [], []⟩
def d__law_given : He5.DefA := ⟨fun K => He.ga K "_law_given", "_law_given", "_law_given", defArgs s__law_given, defBody s__law_given, defScope s__law_given, [], []⟩
def d__law_blank : He5.DefA := ⟨fun K => He.ga K "_law_blank", "_law_blank", "_law_blank", defArgs s__law_blank, defBody s__law_blank, defScope s__law_blank, [], []⟩
def d__law_answer : He5.DefA := ⟨fun K => He.ga K "_law_answer", "_law_answer", "_law_answer", defArgs s__law_answer, defBody s__law_answer, defScope s__law_answer, [], []⟩
def d__law_deed : He5.DefA := ⟨fun K => He.ga K "_law_deed", "_law_deed", "_law_deed", defArgs s__law_deed, defBody s__law_deed, defScope s__law_deed, [], []⟩
def d__law_do : He5.DefA := ⟨fun K => He.ga K "_law_do", "_law_do", "_law_do", defArgs s__law_do, defBody s__law_do, defScope s__law_do, [], []⟩
def d__law_is_so : He5.DefA := ⟨fun K => He.ga K "_law_is_so", "_law_is_so", "_law_is_so", defArgs s__law_is_so, defBody s__law_is_so, defScope s__law_is_so, [], []⟩
def d__law_fails : He5.DefA := ⟨fun K => He.ga K "_law_fails", "_law_fails", "_law_fails", defArgs s__law_fails, defBody s__law_fails, defScope s__law_fails, [], []⟩
def d__law_deed_right : He5.DefA := ⟨fun K => He.ga K "_law_deed_right", "_law_deed_right", "_law_deed_right", defArgs s__law_deed_right, defBody s__law_deed_right, defScope s__law_deed_right, [], []⟩
def d__law_agrees : He5.DefA := ⟨fun K => He.ga K "_law_agrees", "_law_agrees", "_law_agrees", defArgs s__law_agrees, defBody s__law_agrees, defScope s__law_agrees, [], []⟩
def d_law : He5.DefA := ⟨fun K => He.ga K "law", "law", "law", defArgs s_law, defBody s_law, defScope s_law, [], []⟩
def fn0 : List He5.DefA := [d_is_number, d_is_number_in, d_is_list, d_is_name, d_are_seen, d_is_map, d_are_deeds, d_classes_of, d_Machine_init, d_Machine_eq, d_need_machine, d_led_by, d_is_entry, d_people_in, d_need_log, d_are_people, d_need_lot, d_need_few, d_need_people, d_lots_of, d_without_of, d_state_behind, d_need_all, d_people_of, d_without, d_seen_of, d_lots, d_need_logs, d_lots_of_both, d_states_behind]
def fn1 : List He5.DefA := [d_unlike_lot, d_alike, d_need_person, d_shows_person, d_reason_of, d_matter_of, d_freed_of, d_matter, d_freed, d_entries_by, d_begin_of, d_led, d_standing_by, d_trails_of, d_people_for, d_shortest_of, d_shortest, d_State_init, d_Begun_init, d_Live_init, d_Live_machine, d_Live_few, d_Live_log, d_Live_people, d_Live_seen, d_Live_history, d_Live_state, d_Live_stand, d_Live_need_person, d_Live_add]
def fn2 : List He5.DefA := [d_Live_strike, d_Live_forget, d_Live_give, d_Live_undo, d_Live_without, d_Live_matter, d_Live_tried, d_Live_enter, d_Live_exit, d_seen_without, d_turning_lots, d_is_within, d_causes_of, d_causes, d__law_begin, d__law_blend, d__law_pick, d__law_mixed, d__law_take, d__law_caught, d__law_names, d__law_map, d__law_model, d__law_made, d__law_led, d__law_apart, d__law_images, d__law_log, d__law_folk, d__law_rest]
def fn3 : List He5.DefA := [d__law_behind, d__law_lots, d__law_vector, d__law_truth, d__law_entries, d__law_short, d__law_matter, d__law_given, d__law_blank, d__law_answer, d__law_deed, d__law_do, d__law_is_so, d__law_fails, d__law_deed_right, d__law_agrees, d_law]
def fn : List He5.DefA := fn0 ++ fn1 ++ fn2 ++ fn3
def fa0 : List He.Fa := [.glo "BeenError", .glo "BadMachine", .glo "BadEntry", .glo "BadLot", .glo "BadFew", .glo "BadPeople", .glo "TooMany", .glo "NoPerson", .glo "NotNow", .glo "NothingDone", .glo "is_number", .glo "is_number_in", .glo "is_list", .glo "is_name", .glo "are_seen", .glo "is_map", .glo "are_deeds", .glo "classes_of", .glo "Machine", .glo "need_machine", .glo "led_by", .glo "is_entry", .glo "people_in", .glo "need_log", .glo "are_people", .glo "need_lot", .glo "need_few", .glo "need_people", .glo "lots_of", .glo "without_of"]
def fa1 : List He.Fa := [.glo "state_behind", .glo "need_all", .glo "people_of", .glo "without", .glo "seen_of", .glo "lots", .glo "need_logs", .glo "lots_of_both", .glo "states_behind", .glo "unlike_lot", .glo "alike", .glo "need_person", .glo "shows_person", .glo "reason_of", .glo "matter_of", .glo "freed_of", .glo "matter", .glo "freed", .glo "entries_by", .glo "begin_of", .glo "led", .glo "standing_by", .glo "trails_of", .glo "people_for", .glo "shortest_of", .glo "shortest", .glo "State", .glo "Begun", .glo "Live", .glo "seen_without"]
def fa2 : List He.Fa := [.glo "turning_lots", .glo "is_within", .glo "causes_of", .glo "causes", .glo "_law_begin", .glo "_law_blend", .glo "_law_pick", .glo "_law_mixed", .glo "_law_take", .glo "_law_caught", .glo "_law_names", .glo "_law_map", .glo "_law_model", .glo "_law_made", .glo "_law_led", .glo "_law_apart", .glo "_law_images", .glo "_law_log", .glo "_law_folk", .glo "_law_rest", .glo "_law_behind", .glo "_law_lots", .glo "_law_vector", .glo "_law_truth", .glo "_law_entries", .glo "_law_short", .glo "_law_matter", .glo "_law_given", .glo "_law_blank", .glo "_law_answer"]
def fa3 : List He.Fa := [.glo "_law_deed", .glo "_law_do", .glo "_law_is_so", .glo "_law_fails", .glo "_law_deed_right", .glo "_law_agrees", .glo "law", .glo "matter_matter", .free "NotImplemented", .free "TypeError", .free "ValueError", .free "abs", .free "all", .free "any", .free "bool", .free "dict", .free "enumerate", .free "int", .free "isinstance", .free "len", .free "list", .free "min", .free "property", .free "range", .free "repr", .free "set", .free "sorted", .free "str", .free "super", .free "tuple"]
def fa4 : List He.Fa := [.free "zip", .str "LETTERS" "abcdefghijklmnopqrstuvwxyz", .int "LONGEST" 6, .int "LEAST_STATES" 2, .int "MOST_STATES" 5, .int "MOST_SEEN" 9, .int "MOST_DEEDS" 4, .int "MOST_PEOPLE_logs" 6, .int "MOST_FEW" 3, .int "MOST_PEOPLE_shortest" 3, .cls "Machine", .mkr "Machine", .cls "State", .mkr "State", .cls "Begun", .mkr "Begun", .cls "Live", .mkr "Live", .noat "Machine" "own_seen", .noat "Machine" "own_deeds", .noat "Machine" "own_images", .noat "State" "s_entries", .noat "State" "s_few", .noat "Begun" "had_steps", .noat "Begun" "around", .noat "Live" "own_machine", .noat "Live" "own_few", .noat "Live" "steps", .noat "Live" "begun", .meth "Machine" "__eq__"]
def fa5 : List He.Fa := [.meth "Live" "state", .meth "Live" "stand", .meth "Live" "need_person", .meth "Live" "add", .meth "Live" "strike", .meth "Live" "forget", .meth "Live" "give", .meth "Live" "undo", .meth "Live" "without", .meth "Live" "matter", .meth "Live" "tried", .meth "Live" "__enter__", .meth "Live" "__exit__", .exc "NothingDone", .exm "NothingDone" "BeenError" true, .keep "NothingDone"]
def fa : List He.Fa := fa0 ++ fa1 ++ fa2 ++ fa3 ++ fa4 ++ fa5
def propNames : List Str := ["machine", "few", "log", "people", "seen", "history"]
/-- isinstance(e, X) of an exception of the class X -/
def excB (K : PySem.W.Frag) (x : Str) : Bool := He.eqO (PySem.W.findIn K (.ref (He.ga K x)) "__getattribute__") (some (some (.builtin "BaseException.__getattribute__"))) &&
  (He.eqO (PySem.W.findIn K (.ref (He.ga K x)) "__getattr__") (some none) && (decide (PySem.W.subIn K (.ref (He.ga K x)) (.type "BaseException") = some true) && (PySem.W.hasDictIn K (He.ga K x) &&
  (He.eqO (PySem.W.findIn K (.ref (He.ga K x)) "__class__") (some (some (.builtin "object.__class__"))) && (He.eqO (PySem.W.specialIn K (.builtin "object.__class__") "__get__") (some (some (.builtin "getset_descriptor.__get__"))) &&
  (decide (PySem.W.takesIn K (.builtin "object.__class__") = some true) && decide (PySem.W.mroIn K (He.ga K x) (.type "object") = some true)))))))
theorem excB_ok {K : PySem.W.Frag} {x : Str} (h : excB K x = true) : ExcC K (He.ga K x) := by
  obtain ⟨a1, h⟩ := He.ba h
  obtain ⟨a2, h⟩ := He.ba h
  obtain ⟨a3, h⟩ := He.ba h
  obtain ⟨a4, h⟩ := He.ba h
  obtain ⟨a5, h⟩ := He.ba h
  obtain ⟨a6, h⟩ := He.ba h
  obtain ⟨a7, a8⟩ := He.ba h
  exact ⟨He.eqO_ok a1, He.eqO_ok a2, of_decide_eq_true a3, a4, He.eqO_ok a5, He.eqO_ok a6, of_decide_eq_true a7, of_decide_eq_true a8⟩
def moreB (K : PySem.W.Frag) : Bool := decide (He.ga K "matter_matter" = He.ga K "matter") && (excB K "NothingDone" && He.eqO (PySem.W.findIn K (.ref (He.ga K "Machine")) "__ne__") (some (some (.builtin "object.__ne__"))))
def eqv (a b : Option (Option Value)) : Bool := decide (a = b)
/-- a property of the class x: its record, its getter -/
def propB (K : PySem.W.Frag) (x f : Str) : Bool := He.eqO (PySem.W.findIn K (.ref (He.ga K x)) f) (some (some (.ref (He.ma K (He.ga K x) f)))) &&
  (He.eqO (PySem.W.specialIn K (.ref (He.ma K (He.ga K x) f)) "__get__") (some (some (.builtin "property.__get__"))) &&
  (decide (PySem.W.takesIn K (.ref (He.ma K (He.ga K x) f)) = some true) && (match PySem.W.recIn K (He.ma K (He.ga K x) f) "property" with
    | some (.ref _ :: _) => true
    | _ => false)))
theorem propB_ok {K : PySem.W.Frag} {x f : Str} (h : propB K x f = true) : PropOf K (He.ga K x) f (He.ma K (He.ga K x) f) (pg K x f) := by
  obtain ⟨a1, h⟩ := He.ba h
  obtain ⟨a2, h⟩ := He.ba h
  obtain ⟨a3, h⟩ := He.ba h
  refine ⟨He.eqO_ok a1, He.eqO_ok a2, of_decide_eq_true a3, ?_⟩
  unfold pg
  split at h
  next g r e => exact ⟨r, by rw [e]⟩
  next => cases h
/-- isinstance(o, C) of an instance of C -/
def insB (K : PySem.W.Frag) (x : Str) : Bool := He.eqO (PySem.W.findIn K (.ref (He.ga K x)) "__class__") (some (some (.builtin "object.__class__"))) &&
  (He.eqO (PySem.W.specialIn K (.builtin "object.__class__") "__get__") (some (some (.builtin "getset_descriptor.__get__"))) &&
  (decide (PySem.W.takesIn K (.builtin "object.__class__") = some true) && (decide (PySem.W.mroIn K (He.ga K x) (.type "object") = some true) &&
   decide (PySem.W.kitOne K (.ref (He.ga K x)) (.ref (He.ga K x)) = some true))))
theorem insB_ok {K : PySem.W.Frag} {x : Str} (c : Cls K (He.ga K x)) (h : insB K x = true) : C8.InsC K (He.ga K x) := by
  obtain ⟨a1, h⟩ := He.ba h
  obtain ⟨a2, h⟩ := He.ba h
  obtain ⟨a3, h⟩ := He.ba h
  obtain ⟨a4, a5⟩ := He.ba h
  exact ⟨c, He.eqO_ok a1, He.eqO_ok a2, of_decide_eq_true a3, of_decide_eq_true a4, of_decide_eq_true a5⟩
/-- further facts: (what, Bool) -/
def exB (K : PySem.W.Frag) : Bool := (propNames.all fun f => propB K "Live" f) && insB K "Machine" && moreB K
/-- the def whose code has a table of code objects (its lambda) -/
def tf : List (Str × Option Str) := [("law", none)]
/-- the objects that the facts speak of: the globals' defs and classes, their code objects, defaults and members -/
def isDef (g : Addr → Option Obj) (a : Addr) : Bool := match g a with
  | some ⟨_, _, .func _, _⟩ => true
  | some ⟨_, _, .cls _, _⟩ => true
  | _ => false
def isMem (g : Addr → Option Obj) (a : Addr) : Bool := match g a with
  | some ⟨_, _, .func _, _⟩ => true
  | some ⟨.type c, _, .fields _, _⟩ => decide (c = "property")
  | _ => false
def vals1 (g : Addr → Option Obj) (a : Addr) : List Addr := match g a with
  | some ⟨_, _, .dict es _, _⟩ => es.toList.flatMap fun e => He.refV e.val
  | _ => []
def parts (g : Addr → Option Obj) (a : Addr) : List Addr := match g a with
  | some ⟨_, _, .func fd, _⟩ => He.refV fd.code ++ He.refV fd.defaults
  | some ⟨_, _, .cls cd, _⟩ => [cd.ns]
  | some ⟨_, _, .fields vs, _⟩ => vs.toList.flatMap He.refV
  | _ => []
def aL0 (g : Addr → Option Obj) : List Addr := (vals1 g mainGlobals).filter (isDef g)
def aL1 (g : Addr → Option Obj) : List Addr := (aL0 g).flatMap (parts g)
def aL2 (g : Addr → Option Obj) : List Addr := ((aL1 g).flatMap (vals1 g)).filter (isMem g)
def aL3 (g : Addr → Option Obj) : List Addr := (aL2 g).flatMap (parts g)
def aL4 (g : Addr → Option Obj) : List Addr := ((aL3 g).filter (isDef g)).flatMap (parts g)
def asZ (g : Addr → Option Obj) : List Addr := mainGlobals :: (aL0 g ++ (aL2 g ++ (aL3 g ++ (aL1 g ++ aL4 g))))
def fragOf (g : Addr → Option Obj) : PySem.W.Frag := He.frT g (asZ g)
abbrev AlZ : Type := He.AlD × Bool
def obZ (g : Addr → Option Obj) : AlZ := (He5.obsA fa fn (fragOf g), exB (fragOf g) && He.tabsB g tf (fragOf g))
def vlZ : AlZ := (He5.valA fn, true)
structure SaysZ (h : Heap) (K : PySem.W.Frag) : Prop where
  a : He5.SaysA fa fn K
  ex : exB K = true
  tabs : ∀ p ∈ tf, PySem.W.codeHdIn K (He.cT K p).1 (He.cT K p).2 = true ∧ K.lookup (He.cT K p).2 = none ∧ h.get? (He.cT K p).2 = some { cls := .none, data := .fields #[] }
theorem saysZ_of {h : Heap} (e : obZ h.get? = vlZ) : SaysZ h (fragOf h.get?) := by
  have a1 : He5.obsA fa fn (fragOf h.get?) = He5.valA fn := congrArg Prod.fst e
  obtain ⟨a2, a3⟩ := He.ba (show (exB (fragOf h.get?) && He.tabsB h.get? tf (fragOf h.get?)) = true from congrArg Prod.snd e)
  refine ⟨a1, a2, fun p hp => ?_⟩
  obtain ⟨a4, a5⟩ := He.ba (List.all_eq_true.mp a3 p hp)
  refine ⟨a4, ?_⟩
  split at a5
  next o q => exact ⟨He.frT_none q a5, by rw [q, He.emptyTab_eq a5]⟩
  next => cases a5
def hookZ : PySem.W.Hook where
  α := AlZ
  obs := fun s => obZ s.heap.get?
  val := fun _ => vlZ
  says := fun _ h => ∃ K : PySem.W.Frag, K.In h ∧ SaysZ h K
  of := fun _ _ e => ⟨_, He.frT_in, saysZ_of e⟩
  keeps := fun _ _ _ ⟨K, hK, c⟩ k => ⟨K, PySem.W.Frag.In.keeps hK k, ⟨c.a, c.ex, fun p hp => ⟨(c.tabs p hp).1, (c.tabs p hp).2.1, k _ _ (c.tabs p hp).2.2⟩⟩⟩
theorem obZ_eq {g : Addr → Option Obj} {s : Shared} (h : ∀ a, g a = s.heap.get? a) : obZ g = hookZ.obs s := by
  rw [show g = s.heap.get? from funext h]; rfl
end Nb

/-! part Hr -/
set_option Elab.async false
set_option linter.all false
set_option maxRecDepth 100000
set_option maxHeartbeats 0
/-! the top's run in the kernel -/
namespace Nb
open PySem PySem.Spec PyProof.Rows L2
def loose0 : List Str := ["_wall", "BeenError", "BadMachine", "BadEntry", "BadLot", "BadFew", "BadPeople", "TooMany", "NoPerson", "NotNow", "NothingDone", "LETTERS", "LONGEST", "LEAST_STATES", "MOST_STATES", "MOST_SEEN", "MOST_DEEDS", "is_number", "is_number_in", "is_list", "is_name", "are_seen", "is_map", "are_deeds", "classes_of", "Machine", "need_machine", "led_by", "MOST_PEOPLE_logs", "MOST_FEW"]
def loose1 : List Str := ["is_entry", "people_in", "need_log", "are_people", "need_lot", "need_few", "need_people", "lots_of", "without_of", "state_behind", "need_all", "people_of", "without", "seen_of", "lots", "need_logs", "lots_of_both", "states_behind", "unlike_lot", "alike", "need_person", "shows_person", "reason_of", "matter_of", "freed_of", "matter", "matter_matter", "freed", "MOST_PEOPLE_shortest", "entries_by"]
def loose2 : List Str := ["begin_of", "led", "standing_by", "trails_of", "people_for", "shortest_of", "shortest", "State", "Begun", "Live", "seen_without", "turning_lots", "is_within", "causes_of", "causes", "_law_begin", "_law_blend", "_law_pick", "_law_mixed", "_law_take", "_law_caught", "_law_names", "_law_map", "_law_model", "_law_made", "_law_led", "_law_apart", "_law_images", "_law_log", "_law_folk"]
def loose3 : List Str := ["_law_rest", "_law_behind", "_law_lots", "_law_vector", "_law_truth", "_law_entries", "_law_short", "_law_matter", "_law_given", "_law_blank", "_law_answer", "_law_deed", "_law_do", "_law_is_so", "_law_fails", "_law_deed_right", "_law_agrees"]
def loose : List Str := loose0 ++ loose1 ++ loose2 ++ loose3
abbrev Rw : PySem.W.OpenRow := PySem.W.OpenLaw.row PySem.Challenge.rw_neverbeen_k70_whole_live_logs_and_functi
def ob (s : PySem.W.SharedT) : AlZ := obZ (HandSHeadRun.getT s)
theorem ob_eq (s : PySem.W.SharedT) : ob s = hookZ.obs s.abs := obZ_eq (HandSHeadRun.getT_eq s)
theorem run (w : World) : HandSHeadRun.RunEq Rw (PySem.W.view Rw.prog [116]) hookZ ob 20000 loose w := by
  intro os
  kernel_rfl
end Nb

/-! part H2 -/
set_option Elab.async false
set_option linter.all false
set_option maxRecDepth 100000
set_option maxHeartbeats 0
/-! what the head asks beside the run -/
namespace Nb
open PySem PySem.W PySem.Calls PyProof.Rows
abbrev dLaw : DefRec := HandSHeadRun.topDef Rw.prog 116
abbrev vw : Program := PySem.W.view Rw.prog [116]
theorem hd_open : opening Rw.prog = plainProg Rw.prog.main.scope.names := by kernel_rfl
theorem hd_fence (s : Shared) : fenceModules? Rw.prog s = some s := by kernel_rfl
theorem hd_def : defOf vw Rw.name = some (dLaw, []) := by kernel_rfl
theorem hd_the : Rw.prog.theDef Rw.name = some (dLaw.params, dLaw.body, dLaw.scope) := by kernel_rfl
theorem hd_kw : kwWritten? dLaw.params.kwonlyargs dLaw.params.kw_defaults = some [] := by kernel_rfl
theorem hd_wr : (!Rw.writes || Rw.records.isEmpty) = true := by kernel_rfl
theorem hd_ok : (chainsOk vw && opensWell Rw.prog && (frees (OpenRow.toRowW Rw) && Rw.within.isEmpty)) = true := by decide +kernel
theorem hd_bare : Rw.prog.bare := ⟨rfl, rfl, rfl, rfl, rfl, by decide +kernel⟩
theorem hd_name : dLaw.name = "law" := by kernel_rfl
theorem hd_hw : (OpenRow.toRowW Rw).promised := by w_witness2
theorem hd_law (h : PySem.Challenge.rw_neverbeen_k70_whole_live_logs_and_functi.row.wellSaid = true → Rw.Holds) : PySem.Challenge.rw_neverbeen_k70_whole_live_logs_and_functi.Holds := by
  w_on; o_law
  exact h (by assumption)
theorem hd_dfl : dLaw.params.defaults = [] := by kernel_rfl
end Nb

/-! part W -/
set_option Elab.async false
set_option linter.all false
set_option maxRecDepth 100000
set_option maxHeartbeats 4000000
/-! Readings whose rule is chosen later, by the values; the facts of the text in one place. -/
namespace Nb
open PySem PySem.Spec PyProof.Rows L2

/-! ### the facts of the text -/
structure Tx (P : Program) (w : World) (K : PySem.W.Frag) (mg : Str → Option Value) : Prop where
  c : He5.SaysA fa fn K
  ex : exB K = true
  glo : ∀ {x : Str} (i : Nat), fa[i]? = some (.glo x) → mg x = some (.ref (He.ga K x))
  free : ∀ {x : Str} (i : Nat), fa[i]? = some (.free x) → mg x = none
  int : ∀ {x : Str} {n : Int} (i : Nat), fa[i]? = some (.int x n) → ∃ t, mg x = some (.int n t)
  str : ∀ {x z : Str} (i : Nat), fa[i]? = some (.str x z) → ∃ t, mg x = some (.str z t)
theorem tx_of {P : Program} {w : World} {K : PySem.W.Frag} {h : Heap} {mg : Str → Option Value} (X : K.In h) (G : h.Ns mainGlobals mg) (c : SaysZ h K) : Tx P w K mg :=
  ⟨c.a, c.ex, fun {x} i e => He.glo_ok X G (c.a.fact i e), fun {x} i e => He.free_ok X G (c.a.fact i e), fun {x n} i e => He.int_ok X G (c.a.fact i e), fun {x z} i e => He.str_ok X G (c.a.fact i e)⟩

/-! ### what is chosen by the values -/
/-- a context of the text's run -/
structure Lk (P : Program) (w : World) (K : PySem.W.Frag) (mg : Str → Option Value) (X : Cx) : Prop where
  pr : X.prog = P
  ww : X.w = w
  kk : X.K = K
  mm : X.mg = mg
  calm : X.calm = true
  un : X.A.units + 150 < cLine
section
variable (P : Program) (w : World) (K : PySem.W.Frag) (mg : Str → Option Value)
def rOp (f : Value → Value → Sem Value) : R2 := fun x y H Q => ∀ X : Cx, Lk P w K mg X → ∃ r : R2, OpR X f r ∧ r x y H Q
def rCl (f : Value) : List V → Hp → VK → Prop := fun xs H Q => ∀ X : Cx, Lk P w K mg X → ∃ r : List V → Hp → VK → Prop, CallR X f r ∧ r xs H Q
def rMt (id : String) : V → List V → Hp → VK → Prop := fun x xs H Q => ∀ X : Cx, Lk P w K mg X → ∃ r : V → List V → Hp → VK → Prop, MtR X id r ∧ r x xs H Q
def rXx : R2 := fun x y H Q => ∀ X : Cx, Lk P w K mg X → ∃ r : R2, IxR X r ∧ r x y H Q
def rSt : TSet := fun o i v H Q => ∀ X : Cx, Lk P w K mg X → ∃ t : TSet, PSet X t ∧ t o i v H Q
end
section
variable {P : Program} {w : World} {K : PySem.W.Frag} {mg : Str → Option Value} {X : Cx} {j : Nat}
theorem lk_of (T : Tx P w K mg) (hr : Room j X.A) (h1 : X.prog = P := by rfl) (h2 : X.w = w := by rfl) (h3 : X.K = K := by rfl) (h4 : X.mg = mg := by rfl) (hc : X.calm = true := by rfl) : Lk P w K mg X := ⟨h1, h2, h3, h4, hc, by have := hr.un; omega⟩
theorem op_any {f : Value → Value → Sem Value} (T : Tx P w K mg) (hr : Room j X.A) (h1 : X.prog = P := by rfl) (h2 : X.w = w := by rfl) (h3 : X.K = K := by rfl) (h4 : X.mg = mg := by rfl) (hc : X.calm = true := by rfl) : OpR X f (rOp P w K mg f) :=
  fun pins s σ H x y v u Q I r1 r2 h => by
    obtain ⟨r, o, q⟩ := h X (lk_of T hr h1 h2 h3 h4 hc)
    exact o pins s σ H x y v u Q I r1 r2 q
theorem cl_any {f : Value} (T : Tx P w K mg) (hr : Room j X.A) (h1 : X.prog = P := by rfl) (h2 : X.w = w := by rfl) (h3 : X.K = K := by rfl) (h4 : X.mg = mg := by rfl) (hc : X.calm = true := by rfl) : CallR X f (rCl P w K mg f) :=
  fun pins s σ H xs us Q I r1 h => by
    obtain ⟨r, o, q⟩ := h X (lk_of T hr h1 h2 h3 h4 hc)
    exact o pins s σ H xs us Q I r1 q
theorem mt_any {id : String} (T : Tx P w K mg) (hr : Room j X.A) (h1 : X.prog = P := by rfl) (h2 : X.w = w := by rfl) (h3 : X.K = K := by rfl) (h4 : X.mg = mg := by rfl) (hc : X.calm = true := by rfl) : MtR X id (rMt P w K mg id) :=
  fun pins s σ H x xs v us Q I r1 r2 h => by
    obtain ⟨r, o, q⟩ := h X (lk_of T hr h1 h2 h3 h4 hc)
    exact o pins s σ H x xs v us Q I r1 r2 q
theorem ix_any (T : Tx P w K mg) (hr : Room j X.A) (h1 : X.prog = P := by rfl) (h2 : X.w = w := by rfl) (h3 : X.K = K := by rfl) (h4 : X.mg = mg := by rfl) (hc : X.calm = true := by rfl) : IxR X (rXx P w K mg) :=
  fun value slice pins s σ H x y v u Q I r1 r2 h e => by
    obtain ⟨r, o, q⟩ := h X (lk_of T hr h1 h2 h3 h4 hc)
    exact o value slice pins s σ H x y v u Q I r1 r2 q e
theorem set_any (T : Tx P w K mg) (hr : Room j X.A) (h1 : X.prog = P := by rfl) (h2 : X.w = w := by rfl) (h3 : X.K = K := by rfl) (h4 : X.mg = mg := by rfl) (hc : X.calm = true := by rfl) : PSet X (rSt P w K mg) :=
  fun pins s σ H o i v ov iv u Q I r1 r2 r3 h => by
    obtain ⟨r, a, q⟩ := h X (lk_of T hr h1 h2 h3 h4 hc)
    exact a pins s σ H o i v ov iv u Q I r1 r2 r3 q
end
section
variable {P : Program} {w : World} {K : PySem.W.Frag} {mg : Str → Option Value} {H : Hp} {Q : VK} {i j : Int} {x y v c : V} {p a l : Addr} {xs : List V}
/-! ### by the shapes of the values -/
theorem o_add (q : Q (.int (i + j)) H) : rOp P w K mg (binaryOp .Add) (.int i) (.int j) H Q := fun _ _ => ⟨_, op_add, _, _, rfl, rfl, q⟩
theorem o_sub (q : Q (.int (i - j)) H) : rOp P w K mg (binaryOp .Sub) (.int i) (.int j) H Q := fun _ _ => ⟨_, op_sub, _, _, rfl, rfl, q⟩
theorem o_mul (c : CMul i j) (q : Q (.int (i * j)) H) : rOp P w K mg (binaryOp .Mult) (.int i) (.int j) H Q := fun _ _ => ⟨_, op_mul, _, _, rfl, rfl, c, q⟩
theorem o_fdiv (c : CDiv i j) (q : Q (.int (i / j)) H) : rOp P w K mg (binaryOp .FloorDiv) (.int i) (.int j) H Q := fun _ _ => ⟨_, op_fdiv, _, _, rfl, rfl, c, q⟩
theorem o_mod (c : 0 < j) (q : Q (.int (i % j)) H) : rOp P w K mg (binaryOp .Mod) (.int i) (.int j) H Q := fun _ _ => ⟨_, op_mod, _, _, rfl, rfl, c, q⟩
theorem o_pow (c : CPow i j) (q : Q (.int (i ^ j.toNat)) H) : rOp P w K mg (binaryOp .Pow) (.int i) (.int j) H Q := fun _ _ => ⟨_, op_pow, _, _, rfl, rfl, c, q⟩
theorem o_lt (q : Q (.bl (decide (i < j))) H) : rOp P w K mg (compareOp .Lt) (.int i) (.int j) H Q := fun _ _ => ⟨_, op_lt, _, _, rfl, rfl, q⟩
theorem o_le (q : Q (.bl (decide (i ≤ j))) H) : rOp P w K mg (compareOp .LtE) (.int i) (.int j) H Q := fun _ _ => ⟨_, op_le, _, _, rfl, rfl, q⟩
theorem o_gt (q : Q (.bl (decide (j < i))) H) : rOp P w K mg (compareOp .Gt) (.int i) (.int j) H Q := fun _ _ => ⟨_, op_gt, _, _, rfl, rfl, q⟩
theorem o_ge (q : Q (.bl (decide (j ≤ i))) H) : rOp P w K mg (compareOp .GtE) (.int i) (.int j) H Q := fun _ _ => ⟨_, op_ge, _, _, rfl, rfl, q⟩
theorem o_eq (c : scal x y = true) (q : Q (.bl (decide (x = y))) H) : rOp P w K mg (compareOp .Eq) x y H Q := fun _ _ => ⟨_, op_eq, c, q⟩
theorem o_ne (c : scal x y = true) (q : Q (.bl (!decide (x = y))) H) : rOp P w K mg (compareOp .NotEq) x y H Q := fun _ _ => ⟨_, op_ne, c, q⟩
theorem o_isN (q : Q (.bl (decide (x = .non))) H) : rOp P w K mg (compareOp .Is) x .non H Q := fun _ _ => ⟨_, op_isN, rfl, q⟩
theorem o_notN (q : Q (.bl (!decide (x = .non))) H) : rOp P w K mg (compareOp .IsNot) x .non H Q := fun _ _ => ⟨_, op_notN, rfl, q⟩
theorem di {i j : Int} : decide (V.int i = V.int j) = decide (i = j) := decide_eq_decide.mpr ⟨fun e => V.int.inj e, fun e => congrArg V.int e⟩
theorem ds {i j : Str} : decide (V.str i = V.str j) = decide (i = j) := decide_eq_decide.mpr ⟨fun e => V.str.inj e, fun e => congrArg V.str e⟩
theorem o_eqI (q : Q (.bl (decide (i = j))) H) : rOp P w K mg (compareOp .Eq) (.int i) (.int j) H Q := o_eq rfl (by rw [di]; exact q)
theorem o_neI (q : Q (.bl (!decide (i = j))) H) : rOp P w K mg (compareOp .NotEq) (.int i) (.int j) H Q := o_ne rfl (by rw [di]; exact q)
theorem o_eqS {i j : Str} (q : Q (.bl (decide (i = j))) H) : rOp P w K mg (compareOp .Eq) (.str i) (.str j) H Q := o_eq rfl (by rw [ds]; exact q)
theorem o_neS {i j : Str} (q : Q (.bl (!decide (i = j))) H) : rOp P w K mg (compareOp .NotEq) (.str i) (.str j) H Q := o_ne rfl (by rw [ds]; exact q)
theorem c_lenL (h : SqL K H p xs) (q : Q (.int xs.length) H) : rCl P w K mg (.builtin "len") [.ref p] H Q := fun _ L => ⟨_, call_len_seq, _, _, rfl, .inl (L.kk ▸ h), q⟩
theorem c_lenT (h : SqT K H p xs) (q : Q (.int xs.length) H) : rCl P w K mg (.builtin "len") [.ref p] H Q := fun _ L => ⟨_, call_len_seq, _, _, rfl, .inr (L.kk ▸ h), q⟩
theorem c_lenS {z : Str} (h : z.length ≤ sizeLine) (q : Q (.int z.length) H) : rCl P w K mg (.builtin "len") [.str z] H Q := fun _ _ => ⟨_, call_len_str, _, rfl, h, q⟩
theorem c_lenD {kvs : List (Key × V)} (h : H p = some (.dK kvs)) (q : Q (.int kvs.length) H) : rCl P w K mg (.builtin "len") [.ref p] H Q := fun _ _ => ⟨_, call_lenD, _, _, rfl, h, q⟩
theorem c_abs (q : Q (.int (if i < 0 then -i else i)) H) : rCl P w K mg (.builtin "abs") [.int i] H Q := fun _ _ => ⟨_, call_abs, _, rfl, q⟩
theorem c_min (q : Q (.int (if j < i then j else i)) H) : rCl P w K mg (.builtin "min") [.int i, .int j] H Q := fun _ L => ⟨_, call_min2 L.calm, _, _, rfl, q⟩
theorem c_int (q : Q (.int i) H) : rCl P w K mg (.type "int") [.int i] H Q := fun _ _ => ⟨_, call_int1, .inl ⟨_, rfl, q⟩⟩
theorem c_isi {t u : Value} {b : Bool} (k : ClsV c u) (ty : TyX K H x t) (e : PySem.W.kitOne K t u = some b) (q : Q (.bl b) H) : rCl P w K mg (.builtin "isinstance") [x, c] H Q := fun _ L => ⟨_, call_isi, _, _, _, _, _, rfl, k, L.kk ▸ ty, L.kk ▸ e, q⟩
theorem c_isiT {tp : Addr} {cs : List V} {t : Value} {us : List Value} {b : Bool} (h : H tp = some (.tup cs)) (k : Paired ClsV cs us) (ty : TyX K H x t) (e : PySem.W.kitAny K t us = some b) (q : Q (.bl b) H) : rCl P w K mg (.builtin "isinstance") [x, .ref tp] H Q := fun _ L => ⟨_, call_isiT, _, _, _, _, _, _, rfl, h, k, L.kk ▸ ty, L.kk ▸ e, q⟩
theorem c_listL (h : SqL K H p xs) (q : ∀ l, H l = none → Q (.ref l) (upd H l (.lst xs))) : rCl P w K mg (.type "list") [.ref p] H Q := fun _ L => ⟨_, call_list_of, _, _, rfl, .inl (L.kk ▸ h), q⟩
theorem c_listT (h : SqT K H p xs) (q : ∀ l, H l = none → Q (.ref l) (upd H l (.lst xs))) : rCl P w K mg (.type "list") [.ref p] H Q := fun _ L => ⟨_, call_list_of, _, _, rfl, .inr (L.kk ▸ h), q⟩
theorem c_tupL (h : SqL K H p xs) (q : ∀ l, H l = none → Q (.ref l) (upd H l (.tup xs))) : rCl P w K mg (.type "tuple") [.ref p] H Q := fun _ L => ⟨_, call_tuple_of, _, _, rfl, .inl ⟨L.kk ▸ h, q⟩⟩
theorem c_tupT (h : SqT K H p xs) (q : Q (.ref p) H) : rCl P w K mg (.type "tuple") [.ref p] H Q := fun _ L => ⟨_, call_tuple_of, _, _, rfl, .inr ⟨L.kk ▸ h, q⟩⟩
theorem c_all {bs : List Bool} (h : SqL K H a (bs.map V.bl)) (q : Q (.bl (bs.all id)) H) : rCl P w K mg (.builtin "all") [.ref a] H Q := fun _ L => ⟨_, cr_all L.calm, _, _, rfl, L.kk ▸ h, q⟩
theorem c_any {bs : List Bool} (h : SqL K H a (bs.map V.bl)) (q : Q (.bl (bs.any id)) H) : rCl P w K mg (.builtin "any") [.ref a] H Q := fun _ L => ⟨_, cr_any L.calm, _, _, rfl, L.kk ▸ h, q⟩
theorem x_L (h : SqL K H p xs) (e : atI xs i = some v) (q : Q v H) : rXx P w K mg (.ref p) (.int i) H Q := fun _ L => ⟨_, ix_list, _, _, _, _, rfl, rfl, L.kk ▸ h, e, q⟩
theorem x_T (h : SqT K H p xs) (e : atI xs i = some v) (q : Q v H) : rXx P w K mg (.ref p) (.int i) H Q := fun _ L => ⟨_, ix_tup, _, _, _, _, rfl, rfl, L.kk ▸ h, e, q⟩
theorem m_append (h : H l = some (.lst xs)) (n : xs.length < sizeLine) (q : Q .non (upd H l (.lst (xs ++ [y])))) : rMt P w K mg "list.append" (.ref l) [y] H Q := fun _ _ => ⟨_, mt_append, _, _, _, rfl, rfl, h, n, q⟩
end

/-! ### a def of the module by its name; a method; a property; the making of an instance -/
section
variable (P : Program) (w : World) (K : PySem.W.Frag) (mg : Str → Option Value) (base : Heap)
structure Cl (k : Nat) (x : Str) (sp : Sp) (dvs : List V) : Prop where
  ex : ∃ (f : Addr) (fd : FuncData) (ps : List Str) (ds : List Value), FnOk P w K mg base CX0 k f fd ps sp ∧ mg x = some (.ref f) ∧ PySem.W.keepIn K (.ref f) = true ∧ Binds K fd ps ds ∧ Vals dvs ds
structure Me (k : Nat) (C : Addr) (m : Str) (sp : Sp) : Prop where
  ex : ∃ (f : Addr) (fd : FuncData) (ps : List Str), Cls K C ∧ Meth K C m f ∧ FnOk P w K mg base CX0 k f fd ps sp ∧ Binds K fd ps []
structure Pr (k : Nat) (C : Addr) (m : Str) (sp : Sp) : Prop where
  ex : ∃ (p f : Addr) (fd : FuncData) (ps : List Str), Cls K C ∧ PropOf K C m p f ∧ FnOk P w K mg base CX0 k f fd ps sp ∧ Binds K fd ps []
structure Ma (k : Nat) (x : Str) (C : Addr) (sp : Sp) : Prop where
  ex : ∃ (f : Addr) (fd : FuncData) (ps : List Str), Mk K C f ∧ FnOk P w K mg base CX0 k f fd ps sp ∧ mg x = some (.ref C) ∧ Binds K fd ps []
end
section
variable {X : Cx} {j k : Nat} {x m : Str} {C : Addr} {sp : Sp} {dvs : List V} {e o : Expr} {es : List Expr} {ta : TE} {t : TA} {p pos apos : Pos}
theorem pe_cl (c : Cl X.prog X.w X.K X.mg X.base k x sp dvs) (hr : Room j X.A) (hk : k ≤ j) (hg : Gl X x) (ha : PA X (e :: es) t)
    (hdb : (x == ("__debug__" : Str)) = false := by decide) (he : starEach (e :: es) X.env = (false, eval e X.env) :: starEach es X.env := by rfl) (hpl : (backTo pos (starEach es X.env)).any (·.1) = false := by rfl) :
    PE X (.Call (.Name x p) (e :: es) [] pos) (tCall sp dvs E0 t) := by
  obtain ⟨f, fd, ps, ds, F, hm, kp, b, d⟩ := c.ex
  exact pe_call F (hr.mono hk) hg hm kp b d pass0 ha hdb he hpl
theorem pe_ma (c : Ma X.prog X.w X.K X.mg X.base k x C sp) (hr : Room j X.A) (hk : k + 1 ≤ j) (hg : Gl X x) (ha : PA X (e :: es) t)
    (hdb : (x == ("__debug__" : Str)) = false := by decide) (he : starEach (e :: es) X.env = (false, eval e X.env) :: starEach es X.env := by rfl) (hpl : (backTo pos (starEach es X.env)).any (·.1) = false := by rfl) :
    PE X (.Call (.Name x p) (e :: es) [] pos) (tMake C sp [] E0 t) := by
  obtain ⟨f, fd, ps, M, F, hm, b⟩ := c.ex
  exact pe_make M F (hr.mono hk) hg hm b .nil pass0 ha hdb he hpl
theorem pe_pr (c : Pr X.prog X.w X.K X.mg X.base k C m sp) (hr : Room j X.A) (hk : k + 1 ≤ j) (he : PE X e ta) (hab : attributeBase e m X.env (eval e X.env) = eval e X.env) : PE X (.Attribute e m pos) (tProp C sp [] E0 ta) := by
  obtain ⟨q, f, fd, ps, cl, hp, F, b⟩ := c.ex
  exact pe_prop he cl hp F (hr.mono hk) b .nil pass0 hab
end
end Nb

/-! part W2 -/
set_option Elab.async false
set_option linter.all false
set_option maxRecDepth 100000
set_option maxHeartbeats 4000000
/-! Further rules: constants of the module, own methods, what is a list or a tuple. -/
namespace Nb
open PySem PySem.Spec PyProof.Rows L2
section
variable {X : Cx} {j k : Nat} {x m : Str} {C : Addr} {sp : Sp} {dvs : List V} {e o : Expr} {es : List Expr} {ta te : TE} {t : TA} {p pos apos : Pos}
theorem pe_gi {n : Int} (hg : Gl X x) (h : ∃ t, X.mg x = some (.int n t)) (hd : (x == ("__debug__" : Str)) = false := by decide) : PE X (.Name x pos) (tC (.int n)) := by
  obtain ⟨t, h⟩ := h
  exact pe_glob hg h ⟨t, rfl⟩ hd
theorem pe_gs {z : Str} (hg : Gl X x) (h : ∃ t, X.mg x = some (.str z t)) (hd : (x == ("__debug__" : Str)) = false := by decide) : PE X (.Name x pos) (tC (.str z)) := by
  obtain ⟨t, h⟩ := h
  exact pe_glob hg h ⟨t, rfl⟩ hd
theorem pe_me {pl : Sem Bool} (c : Me X.prog X.w X.K X.mg X.base k C m sp) (hr : Room j X.A) (hk : k ≤ j) (he : PE X o ta) (ha : PA X (e :: es) t)
    (hst : starEach (e :: es) X.env = (false, eval e X.env) :: starEach es X.env := by rfl) (hpl : (backTo pos (starEach es X.env)).any (·.1) = false := by rfl)
    (ht : eval (.Call (.Attribute o m apos) (e :: es) [] pos) X.env = (do let ov ← eval o X.env; standAt apos.atName; let (f, first) ← holding [ov] (getMethod ov m pl); callWith pos f first (backTo pos (starEach (e :: es) X.env)) (backToKw pos (keywordEach [] X.env))) := by rfl) :
    PE X (.Call (.Attribute o m apos) (e :: es) [] pos) (tMeth C m sp [] E0 ta t) := by
  obtain ⟨f, fd, ps, cl, hm, F, b⟩ := c.ex
  exact pe_meth he cl hm F (hr.mono hk) b .nil pass0 ha hst hpl ht
theorem pe_me0 {pl : Sem Bool} (c : Me X.prog X.w X.K X.mg X.base k C m sp) (hr : Room j X.A) (hk : k ≤ j) (he : PE X o ta)
    (ht : eval (.Call (.Attribute o m apos) [] [] pos) X.env = (do let ov ← eval o X.env; standAt apos.atName; let (f, first) ← holding [ov] (getMethod ov m pl); callWith pos f first (backTo pos (starEach [] X.env)) (backToKw pos (keywordEach [] X.env))) := by rfl) :
    PE X (.Call (.Attribute o m apos) [] [] pos) (tMeth C m sp [] E0 ta tNil) := by
  obtain ⟨f, fd, ps, cl, hm, F, b⟩ := c.ex
  exact pe_meth0 he cl hm F (hr.mono hk) b .nil pass0 ht
/-- a list or a tuple is walked -/
def iSeq (K : PySem.W.Frag) (te : TE) : TI := fun σ H R => te σ H fun x H1 => ∃ (a : Addr) (xs : List V), x = .ref a ∧ ((SqL K H1 a xs ∧ R (Itl K a) H1) ∨ (SqT K H1 a xs ∧ R (Itt K a) H1))
theorem pi_seq {tg : Expr} (h : PE X e te) : PI X tg e (iSeq X.K te) := by
  refine ⟨fun pins s σ H R I q => thn (h.run pins s σ H _ I q) fun v s1 ⟨x, H1, I1, r1, a, xs, ex, q1⟩ => ?_⟩
  subst ex
  cases r1
  rcases q1 with ⟨hq, q1⟩ | ⟨hq, q1⟩
  · obtain ⟨its, _, pl, _⟩ := I1.list hq
    refine wpAny_pyIter_list pl.isList ⟨s1.heap.objs.size, [s1.heap.objs.size], _, _, H1, rfl, I1.kept (t' := s1.toks) fun b o z => Heap.get?_push_of_some _ z, turn_list a _, ⟨_, Heap.get?_push_size _ rfl, rfl, rfl⟩, fun b hb => ?_, q1⟩
    rw [List.mem_singleton.mp hb]
    exact I1.fpOk (Nat.le_refl _) (I1.hok.fresh (Nat.le_refl _))
  · obtain ⟨its, _, pl, _⟩ := I1.tuple hq
    refine wpAny_pyIter_tuple (show s1.heap.IsTuple a its.toArray from pl) ⟨s1.heap.objs.size, [s1.heap.objs.size], _, _, H1, rfl, I1.kept (t' := s1.toks) fun b o z => Heap.get?_push_of_some _ z, turn_tuple a _, ⟨_, Heap.get?_push_size _ rfl, rfl, rfl⟩, fun b hb => ?_, q1⟩
    rw [List.mem_singleton.mp hb]
    exact I1.fpOk (Nat.le_refl _) (I1.hok.fresh (Nat.le_refl _))
end
/-! ### the same rules, the written part said -/
section
variable {P : Program} {w : World} {K : PySem.W.Frag} {mg : Str → Option Value} {X : Cx} {j : Nat} {x : Str} {e o : Expr} {es : List Expr} {ta te : TE} {t : TA} {p pos apos cpos : Pos}
theorem pg_tk {k n : Nat} {t : TGs} (T : Tx P w K mg) (hc : X.calm = true) (h : PGs X es t) (h3 : X.K = K := by rfl) (hn : (assignEach es X.env).length = n := by rfl) (hst : (assignEach es X.env).findIdx? (·.1) = none := by rfl) : PG X (.Tuple es k pos) (gTup K n t) := by
  subst h3
  exact pg_tup hc h hn hst
theorem pa_st (T : Tx P w K mg) (he : PE X e te) (hr : PA X es t) (h3 : X.K = K := by rfl) (hs : starEach (.Starred e p :: es) X.env = (true, eval e X.env) :: starEach es X.env := by rfl) : PA X (.Starred e p :: es) (StX.tStar K te t) := by
  subst h3
  exact StX.pa_star he hr hs
theorem pe_fd {f : Str} (T : Tx P w K mg) (he : PE X e ta) (hb : attributeBase e f X.env (eval e X.env) = eval e X.env) (h3 : X.K = K := by rfl) : PE X (.Attribute e f pos) (tFld K ta f) := by
  subst h3
  exact pe_fld he hb
theorem pi_ls {tg : Expr} (T : Tx P w K mg) (he : PE X e ta) (h3 : X.K = K := by rfl) : PI X tg e (iList K ta) := by
  subst h3
  exact pi_list he
theorem pi_tp {tg : Expr} (T : Tx P w K mg) (he : PE X e ta) (h3 : X.K = K := by rfl) : PI X tg e (iTup K ta) := by
  subst h3
  exact pi_tup he
theorem pi_sq {tg : Expr} (T : Tx P w K mg) (he : PE X e ta) (h3 : X.K = K := by rfl) : PI X tg e (iSeq K ta) := by
  subst h3
  exact pi_seq he
theorem pe_bk {T0 id : String} {name : Str} {r : V → List V → Hp → VK → Prop} {to : TE} (T : Tx P w K mg) (pa : PlainAttrs T0) (slot : Slot T0 name id) (hty : typeOf (.builtin id) = pure (.type "method_descriptor")) (hm : MtR X id r) (ho : PE X o to) (ha : PA X (e :: es) t) (h3 : X.K = K := by rfl)
    (hbase : attributeBase o name X.env (eval o X.env) = eval o X.env := by rfl) (hfew : ((backTo cpos (starEach (e :: es) X.env)).all (fun x => !x.1) && (backToKw cpos (keywordEach [] X.env)).all (fun x => x.1.isSome) && decide ((e :: es).length + ([] : List Keyword).length + (if ([] : List Keyword).isEmpty then 0 else 1) < 30)) = true := by rfl)
    (hline : (apos.endLine == cpos.line) = true := by rfl) (hs : starEach (e :: es) X.env = (false, eval e X.env) :: starEach es X.env := by rfl) (hpl : (backTo cpos (starEach es X.env)).any (·.1) = false := by rfl) : PE X (.Call (.Attribute o name apos) (e :: es) [] cpos) (tBM K T0 r to t) := by
  subst h3
  exact pe_bm pa slot hty hm ho ha hbase hfew hline hs hpl
end
end Nb

/-! part W3 -/
set_option Elab.async false
set_option linter.all false
set_option maxRecDepth 100000
set_option maxHeartbeats 4000000
/-! for x, y in zip(a list, a tuple) -/
namespace Nb
open PySem PySem.Spec PyProof.Rows L2
/-- turn by turn: a new pair of the items -/
def Itm (K : PySem.W.Frag) (a b : Addr) : It where
  go := fun i H => ∃ (xs ys : List V) (x y : V), SqL K H a xs ∧ SqT K H b ys ∧ xs[i]? = some x ∧ ys[i]? = some y
  yld := fun i H v H' => ∃ (T : Addr) (x y : V), v = .ref T ∧ H T = none ∧ H' = upd H T (.tup [x, y]) ∧ (∀ xs, SqL K H a xs → xs[i]? = some x) ∧ ∀ ys, SqT K H b ys → ys[i]? = some y
  stop := fun i H => ∃ xs ys : List V, SqL K H a xs ∧ SqT K H b ys ∧ i = min xs.length ys.length
/-- the iterator's own cells -/
def tnM (z TI TO i1 i2 a b : Addr) (i : Nat) (h : Heap) : Prop := IsZip h z TI TO .none ∧ IsTupOf2 h TI (.ref i1) (.ref i2) ∧ (∃ x y, IsTupOf2 h TO x y) ∧ h.IsListIter i1 a i ∧ h.IsTupleIter i2 b i
theorem turnM {P : Program} {w : World} {K : PySem.W.Frag} {elts : List Expr} {kk : Nat} {tpos : Pos} {a b z TI TO i1 i2 : Addr} (S : ZipSep2 z TI TO i1 i2 [i1, a] [i2, b]) (ha : a ≠ i1) (hb : b ≠ i2) :
    Turn P w K (.Tuple elts kk tpos) (Itm K a b) [z, TI, TO, i1, i2] z (tnM z TI TO i1 i2 a b) where
  mem := List.mem_cons_self
  obj := by
    rintro i h ⟨q1, q2, ⟨x, y, q3⟩, ⟨o4, e4, _, d4⟩, ⟨o5, e5, _, d5⟩⟩ c hc
    simp only [List.mem_cons, List.not_mem_nil, or_false] at hc
    rcases hc with rfl | rfl | rfl | rfl | rfl
    · exact ⟨_, q1, nofun⟩
    · exact ⟨_, q2, nofun⟩
    · exact ⟨_, q3, nofun⟩
    · exact ⟨o4, e4, fun v e => by simp [d4] at e⟩
    · exact ⟨o5, e5, fun v e => by simp [d5] at e⟩
  keep := by
    rintro i h h' ⟨q1, q2, ⟨x, y, q3⟩, q4, q5⟩ k
    have kk : ∀ c, c ∈ [z, TI, TO, i1, i2] → ∀ o, h.get? c = some o → h'.get? c = some o := k
    exact ⟨kk _ (by simp) _ q1, kk _ (by simp) _ q2, ⟨x, y, kk _ (by simp) _ q3⟩, q4.at fun o => kk _ (by simp) o, q5.at fun o => kk _ (by simp) o⟩
  item := by
    rintro X rfl rfl rfl hc i pins s σ H E I hf ⟨q1, q2, q3, q4, q5⟩ ⟨xs, ys, x, y, hx, hy, ex, ey⟩
    obtain ⟨us, ru, pu, _⟩ := I.list hx
    obtain ⟨vs, rv, pw, _⟩ := I.tuple hy
    obtain ⟨u, hu, r1⟩ := ru.get ex
    obtain ⟨v, hv, r2⟩ := rv.get ey
    have hd : X.A.in1.handled = none := I.ok.hd hc
    have G := GoesN.zip2 (prog := X.prog) (w := X.w) (elts := elts) (x1 := kk) (pos := tpos) S (Draws.list (w := X.w) hd i1 a ha us.toArray) (Draws.tuple (w := X.w) hd i2 b hb vs.toArray)
    have hi : i < min us.toArray.size vs.toArray.size := by
      have h1 := (List.getElem?_eq_some_iff.mp hu).1
      have h2 := (List.getElem?_eq_some_iff.mp hv).1
      simp only [List.size_toArray]; omega
    refine G.goes i s (fun u' s2 => ∃ x' H', Inv X pins σ H' s2 ∧ L2.RelV x' u' ∧ (Itm X.K a b).yld i H x' H' ∧ tnM z TI TO i1 i2 a b (i + 1) s2.heap ∧ ∀ c ∈ [z, TI, TO, i1, i2], H' c = none) E hi ⟨q1, q2, q3, ⟨q4, pu.isList⟩, ⟨q5, pw⟩⟩ ?_
    rintro t h' tk ⟨T, u1, v1, rfl, hT, e1, e2, hT2⟩ ⟨p1, p2, p3, ⟨p4, _⟩, ⟨p5, _⟩⟩ hk _
    have eu : u1 = u := by
      have e3 : us[i]? = some u1 := by simpa using e1
      rw [hu] at e3; exact (Option.some.inj e3).symm
    have ev : v1 = v := by
      have e3 : vs[i]? = some v1 := by simpa using e2
      rw [hv] at e3; exact (Option.some.inj e3).symm
    subst eu ev
    have fr : ∀ c ∈ [z, TI, TO, i1, i2], H c = none := fun c hc => (hf c hc).1
    have sub : ∀ c, c ∉ [z, TI, TO, i1, i2] → c ∉ [z, TO, i1, i2] := fun c hn hm => hn (by simp only [List.mem_cons, List.not_mem_nil, or_false] at hm ⊢; rcases hm with q | q | q | q <;> simp [q])
    have new : ObjOk X.prog X.w (upd H T (.tup [x, y])) h' T (.tup [x, y]) := ⟨by show 2 ≤ sizeLine; decide, [u1, v1], .cons r1 (.cons r2 .nil), hT2⟩
    have I1 : Inv X pins σ (upd H T (.tup [x, y])) { s with heap := h', toks := tk } := I.turnedNew (ch := [z, TI, TO, i1, i2]) (fun c o hn e => hk c o (sub c hn) e) hf hT new
    refine ⟨.ref T, _, I1, rfl, ⟨T, x, y, rfl, I.hok.fresh hT, rfl, fun l hl => by rw [I.list_inj hl hx]; exact ex, fun l hl => by rw [I.tuple_inj hl hy]; exact ey⟩, ⟨p1, p2, p3, p4, p5⟩, fun c hcm => ?_⟩
    have hl : c < s.heap.objs.size := by
      simp only [List.mem_cons, List.not_mem_nil, or_false] at hcm
      obtain ⟨x0, y0, q3⟩ := q3
      obtain ⟨o4, e4, _⟩ := q4
      obtain ⟨o5, e5, _⟩ := q5
      rcases hcm with rfl | rfl | rfl | rfl | rfl
      · exact Heap.lt_size q1
      · exact Heap.lt_size q2
      · exact Heap.lt_size q3
      · exact Heap.lt_size e4
      · exact Heap.lt_size e5
    rw [upd_ne (Nat.ne_of_lt (Nat.lt_of_lt_of_le hl hT))]
    exact fr c hcm
  done := by
    rintro X rfl rfl rfl hc i pins s σ H E I hf ⟨q1, q2, q3, q4, q5⟩ ⟨xs, ys, hx, hy, he⟩
    obtain ⟨us, ru, pu, _⟩ := I.list hx
    obtain ⟨vs, rv, pw, _⟩ := I.tuple hy
    have hd : X.A.in1.handled = none := I.ok.hd hc
    have G := GoesN.zip2 (prog := X.prog) (w := X.w) (elts := elts) (x1 := kk) (pos := tpos) S (Draws.list (w := X.w) hd i1 a ha us.toArray) (Draws.tuple (w := X.w) hd i2 b hb vs.toArray)
    have e : i = min us.toArray.size vs.toArray.size := by rw [he, ru.length, rv.length]; simp
    have st : tnM z TI TO i1 i2 a b (min us.toArray.size vs.toArray.size) s.heap := by rw [← e]; exact ⟨q1, q2, q3, q4, q5⟩
    obtain ⟨w1, w2, w3, w4, w5⟩ := st
    refine G.stops s (fun s' => Inv X pins σ H s') E ⟨w1, w2, w3, ⟨w4, pu.isList⟩, ⟨w5, pw⟩⟩ fun h' tk hk _ => ?_
    refine I.turnedL (t' := tk) (ch := [z, TI, TO, i1, i2]) (fun c o hn q => hk c o (fun hm => hn ?_) q) hf
    simp only [List.mem_cons, List.not_mem_nil, or_false] at hm ⊢
    rcases hm with q | q | q | q <;> simp [q]
  self := fun A i s Q E st q => wpAny_pyIter_zip st.1 q
def iZipM (K : PySem.W.Frag) (ta : TA) : TI := fun σ H R => ta σ H fun vs H1 => ∃ (a b : Addr) (xs ys : List V), vs = [.ref a, .ref b] ∧ SqL K H1 a xs ∧ SqT K H1 b ys ∧ R (Itm K a b) H1
theorem pi_zipLT {X : Cx} {e e2 : Expr} {ta : TA} {p pos tpos : Pos} {elts : List Expr} {kk : Nat} (hg : Gl X "zip") (hm : X.mg "zip" = none) (ha : PA X [e, e2] ta)
    (hs : starEach [e, e2] X.env = (false, eval e X.env) :: starEach [e2] X.env := by rfl) (hpl : (backTo pos (starEach [e2] X.env)).any (·.1) = false := by rfl) : PI X (.Tuple elts kk tpos) (.Call (.Name "zip" p) [e, e2] [] pos) (iZipM X.K ta) := by
  refine ⟨fun pins s σ H R I h => Call_ (ld_blt I hg hm PyProof.Rows.boot_zip (PyProof.Rows.callWith_type1 (thn (ha.run pos pins s σ H _ I h) fun us s1 ⟨vs, H1, I1, r1, a, b, xs, ys, ex, qx, qy, q⟩ => ?_) hs hpl))⟩
  subst ex
  obtain ⟨u1, u2, rfl, r2, r3⟩ := vals2 r1
  cases r2
  cases r3
  obtain ⟨its, _, pl, _⟩ := I1.list qx
  obtain ⟨jts, _, pt, _⟩ := I1.tuple qy
  have la := pl.lt
  have lb := pt.lt
  refine zip_begins2 (begins_list a its.toArray) (begins_tuple b jts.toArray) pl.isList pt fun h' hz hTI hTO h1 h2 hsz hk => wpAny_pyIter_zip hz ?_
  have S : ZipSep2 (s1.heap.objs.size + 4) (s1.heap.objs.size + 2) (s1.heap.objs.size + 3) s1.heap.objs.size (s1.heap.objs.size + 1) [s1.heap.objs.size, a] [s1.heap.objs.size + 1, b] :=
    zip_sep2 (fun c hc => by rw [List.mem_singleton.mp hc]; exact la) (fun c hc => by rw [List.mem_singleton.mp hc]; exact lb)
  refine ⟨s1.heap.objs.size + 4, [s1.heap.objs.size + 4, s1.heap.objs.size + 2, s1.heap.objs.size + 3, s1.heap.objs.size, s1.heap.objs.size + 1], tnM (s1.heap.objs.size + 4) (s1.heap.objs.size + 2) (s1.heap.objs.size + 3) s1.heap.objs.size (s1.heap.objs.size + 1) a b, Itm X.K a b, H1, rfl,
    I1.kept (t' := s1.toks) hk, turnM S (Nat.ne_of_lt la) (Nat.ne_of_lt (Nat.lt_succ_of_lt lb)), ⟨hz, hTI, ⟨_, _, hTO⟩, ⟨_, h1, rfl, rfl⟩, ⟨_, h2, rfl, rfl⟩⟩, fun c hc => ?_, q⟩
  have le : s1.heap.objs.size ≤ c := by
    simp only [List.mem_cons, List.not_mem_nil, or_false] at hc
    rcases hc with rfl | rfl | rfl | rfl | rfl
    · exact Nat.le_add_right _ _
    · exact Nat.le_add_right _ _
    · exact Nat.le_add_right _ _
    · exact Nat.le_refl _
    · exact Nat.le_add_right _ _
  exact I1.fpOk le (I1.hok.fresh le)
/-- a loop over such a zip, of one length -/
theorem for_zipM {K : PySem.W.Frag} {a b : Addr} {xs ys : List V} {g : TG} {tb : TS} {D : Ends} {σ : L2.St} {H : Hp} (hl : xs.length = ys.length) (Pv : Nat → L2.St → Hp → Prop) (h0 : Pv 0 σ H) (hq : ∀ i σ H, Pv i σ H → SqL K H a xs ∧ SqT K H b ys)
    (hs : ∀ (i : Nat) (x y : V) (T : Addr) (σ : L2.St) (H : Hp), xs[i]? = some x → ys[i]? = some y → Pv i σ H → H T = none → g (.ref T) σ (upd H T (.tup [x, y])) fun σ2 H2 => tb { D with nx := Pv (i + 1), ct := Pv (i + 1), bk := D.nx } σ2 H2) (hd : ∀ σ H, Pv xs.length σ H → D.nx σ H) :
    ∃ W : Nat → Nat → L2.St → Hp → Prop, (∃ m, W 0 m σ H) ∧ ∀ i m σ H, W i m σ H → ((Itm K a b).stop i H ∧ D.nx σ H) ∨ ((Itm K a b).go i H ∧ ∃ N : L2.St → Hp → Prop, (∀ σ' H', N σ' H' → ∃ m', m' < m ∧ W (i + 1) m' σ' H') ∧ ∀ v H', (Itm K a b).yld i H v H' → g v σ H' fun σ2 H2 => tb { D with nx := N, ct := N, bk := D.nx } σ2 H2) := by
  refine ⟨fun i m σ H => (m = xs.length - i ∧ i ≤ xs.length) ∧ Pv i σ H, ⟨xs.length, ⟨rfl, Nat.zero_le _⟩, h0⟩, ?_⟩
  rintro i m σ H ⟨⟨rfl, hi⟩, p⟩
  obtain ⟨qx, qy⟩ := hq i σ H p
  rcases Nat.lt_or_eq_of_le hi with lt | rfl
  · have ex : xs[i]? = some xs[i] := List.getElem?_eq_getElem lt
    have ey : ys[i]? = some (ys[i]'(hl ▸ lt)) := List.getElem?_eq_getElem (hl ▸ lt)
    refine .inr ⟨⟨xs, ys, _, _, qx, qy, ex, ey⟩, Pv (i + 1), fun σ' H' p' => ⟨xs.length - (i + 1), by omega, ⟨rfl, lt⟩, p'⟩, ?_⟩
    rintro v H' ⟨T, x', y', rfl, hT, rfl, f1, f2⟩
    exact hs i x' y' T σ H (f1 xs qx) (f2 ys qy) p hT
  · exact .inl ⟨⟨xs, ys, qx, qy, by omega⟩, hd σ H p⟩
end Nb

/-! part W4 -/
set_option Elab.async false
set_option linter.all false
set_option maxRecDepth 100000
set_option maxHeartbeats 4000000
/-! {k: v}, the key a tuple -/
namespace Nb
open PySem PySem.Spec PyProof.Rows L2
def tDisp1 (tk tv : TE) : TE := fun σ H Q => ∀ p, H p = none → tk σ (upd H p (.dT [])) fun x H1 => tv σ H1 fun y H2 => ∃ (b : Addr) (ks : List Key), x = .ref b ∧ H2 b = some (.tup (ks.map kV)) ∧ H2 p = some (.dT []) ∧ Q (.ref p) (upd H2 p (.dT [(ks, y)]))
theorem pe_dispT1 {X : Cx} {pos : Pos} {k v : Expr} {tk tv : TE} (hu : X.A.units + 1 < cLine) (hk : PE X k tk) (hv : PE X v tv) : PE X (.Dict [some k] [v] pos) (tDisp1 tk tv) := by
  refine ⟨fun pins s σ H Q I q => ?_⟩
  have hn := I.hok.fresh (Nat.le_refl s.heap.objs.size)
  have I1 := I.laid (a := s.heap.objs.size) (o := .dT []) (h' := s.heap.push { cls := .type "dict", data := .dict #[] }) (t' := s.toks) (fun _ _ z => Heap.get?_push_of_some _ z) (Nat.le_refl _) (dt_empty s.heap I.big)
  rw [arm_eval_Dict, zip_pairTrees [some k] [v] X.env pos rfl rfl, dictDisplay_pairs (pairTrees [some k] [v] X.env pos) (by rw [← List.length_pos_iff, pairTrees_length _ _ _ _ rfl rfl]; exact Nat.one_pos) (by rw [pairTrees_length _ _ _ _ rfl rfl]; show 1 < 17; decide)]
  refine wpAny_bind (wpAny_standAt (wpAny_bind (wpAny_subDictH (knd := tupleKind (mixKind X.prog X.w)) (by show X.A.units < cLine; omega) (by rw [pairTrees_length _ _ _ _ rfl rfl]; show 1 ≤ 15; decide) ?_)))
  refine pairTrees_cons_walk (thn (hk.run pins _ σ _ _ I1 (q _ hn)) fun u s1 ⟨x, H1, J1, rx, q1⟩ => thn (hv.run pins s1 σ H1 _ J1 q1) fun c s2 ⟨y, H2, J2, ry, b, ks, ex, eb, ep, q2⟩ => pairTrees_nil_walk ?_)
  subst ex
  obtain rfl : u = Value.ref b := rx
  obtain ⟨_, hsm, xs0, r0, hd0⟩ := dt_of J2.hok ep
  cases r0
  refine ⟨[(ks, b, c)], ⟨rfl, rfl, key_of J2.hok eb, trivial⟩, hd0, fun h' tk hd hs => wpAny_pure ?_⟩
  have e0 : storedAllH [] [(ks, b, c)] = [(ks, b, c)] := rfl
  rw [e0] at hd
  obtain ⟨o, es, ep2, h1, h2, h3, h4, h5, h6⟩ := hd
  have new : ObjOk X.prog X.w (upd H2 s.heap.objs.size (.dT [(ks, y)])) h' s.heap.objs.size (.dT [(ks, y)]) := by
    refine ⟨by show 1 ≤ sizeLine; decide, hsm, [(ks, b, c)], .cons ⟨rfl, ?_, ry⟩ .nil, o, es, ep2, h1, h2, h3, h4, h6⟩
    rw [upd_ne (ne_of eb ep (by intro z; cases z))]
    exact eb
  exact ⟨.ref s.heap.objs.size, _, d_write J2 (by rw [ep]; trivial) hs ⟨o, h1⟩ new, rfl, q2⟩
end Nb

/-! part W5 -/
set_option Elab.async false
set_option linter.all false
set_option maxRecDepth 100000
set_option maxHeartbeats 4000000
/-! Values and the plain data they stand for. -/
namespace Nb
open PySem PySem.Spec PyProof.Rows L2

/-! ### lists item by item -/
def A2 {γ α : Type} (r : γ → α → Prop) : List γ → List α → Prop
  | [], [] => True
  | x :: xs, a :: l => r x a ∧ A2 r xs l
  | _, _ => False
section
variable {γ α β : Type} {r r' : γ → α → Prop} {xs ys : List γ} {l m : List α} {i : Nat} {a : α} {v : γ}
theorem A2.len : ∀ {xs : List γ} {l : List α}, A2 r xs l → xs.length = l.length
  | [], [], _ => rfl
  | _ :: xs, _ :: l, h => by rw [List.length_cons, List.length_cons, A2.len h.2]
  | [], _ :: _, h => h.elim
  | _ :: _, [], h => h.elim
theorem A2.mono (k : ∀ x a, r x a → r' x a) : ∀ {xs : List γ} {l : List α}, A2 r xs l → A2 r' xs l
  | [], [], _ => trivial
  | _ :: _, _ :: _, h => ⟨k _ _ h.1, A2.mono k h.2⟩
  | [], _ :: _, h => h.elim
  | _ :: _, [], h => h.elim
theorem A2.app : ∀ {xs : List γ} {l : List α}, A2 r xs l → A2 r ys m → A2 r (xs ++ ys) (l ++ m)
  | [], [], _, k => k
  | _ :: _, _ :: _, h, k => ⟨h.1, A2.app h.2 k⟩
  | [], _ :: _, h, _ => h.elim
  | _ :: _, [], h, _ => h.elim
theorem A2.one (h : r v a) : A2 r [v] [a] := ⟨h, trivial⟩
theorem A2.at : ∀ {xs : List γ} {l : List α} {i : Nat}, A2 r xs l → xs[i]? = some v → ∃ a, l[i]? = some a ∧ r v a
  | x :: _, b :: _, 0, h, e => ⟨b, rfl, by cases e; exact h.1⟩
  | _ :: _, _ :: _, _ + 1, h, e => by
    obtain ⟨c, e1, e2⟩ := A2.at h.2 (by simpa using e)
    exact ⟨c, by simpa using e1, e2⟩
  | [], [], _, _, e => by simp at e
  | [], _ :: _, _, h, _ => h.elim
  | _ :: _, [], _, h, _ => h.elim
theorem A2.to : ∀ {xs : List γ} {l : List α} {i : Nat}, A2 r xs l → l[i]? = some a → ∃ v, xs[i]? = some v ∧ r v a
  | x :: _, b :: _, 0, h, e => ⟨x, rfl, by cases e; exact h.1⟩
  | _ :: _, _ :: _, _ + 1, h, e => by
    obtain ⟨c, e1, e2⟩ := A2.to h.2 (by simpa using e)
    exact ⟨c, by simpa using e1, e2⟩
  | [], [], _, _, e => by simp at e
  | [], _ :: _, _, h, _ => h.elim
  | _ :: _, [], _, h, _ => h.elim
theorem A2.eq {f : α → γ} : ∀ {xs : List γ} {l : List α}, A2 (fun v a => v = f a) xs l → xs = l.map f
  | [], [], _ => rfl
  | _ :: _, _ :: _, h => by rw [List.map_cons, A2.eq h.2, h.1]
  | [], _ :: _, h => h.elim
  | _ :: _, [], h => h.elim
theorem A2.of {f : α → γ} : ∀ l : List α, (∀ a ∈ l, r (f a) a) → A2 r (l.map f) l
  | [], _ => trivial
  | a :: l, h => ⟨h a List.mem_cons_self, A2.of l fun b hb => h b (List.mem_cons_of_mem _ hb)⟩
theorem A2.all {p : α → Prop} (k : ∀ x a, r x a → p a) : ∀ {xs : List γ} {l : List α}, A2 r xs l → ∀ a ∈ l, p a
  | [], [], _, _, hb => by simp at hb
  | _ :: _, _ :: _, h, b, hb => by
    rcases List.mem_cons.mp hb with rfl | hb
    · exact k _ _ h.1
    · exact A2.all k h.2 b hb
  | [], _ :: _, h, _, _ => h.elim
  | _ :: _, [], h, _, _ => h.elim
end

/-! ### relations -/
abbrev RR (α : Type) := Hp → V → α → Prop
/-- only the tuples stay -/
def SameT (H H' : Hp) : Prop := ∀ a xs, H a = some (.tup xs) → H' a = some (.tup xs)
def lim : Nat := 2 ^ 20
def letters : Str := "abcdefghijklmnopqrstuvwxyz"
def wok (s : Str) : Bool := decide (1 ≤ s.length) && decide (s.length ≤ 6) && s.cps.toList.all fun c => decide (c ∈ letters.cps.toList)
def oV : Option Str → V
  | none => .non
  | some s => .str s
def rI : RR Int := fun _ v i => v = .int i
def rS : RR Str := fun _ v s => v = .str s ∧ wok s = true
def rO : RR (Option Str) := fun _ v o => v = oV o ∧ ∀ s, o = some s → wok s = true
def rP {α β : Type} (r1 : RR α) (r2 : RR β) : RR (α × β) := fun H v p => ∃ a x y, v = .ref a ∧ H a = some (.tup [x, y]) ∧ r1 H x p.1 ∧ r2 H y p.2
def rT {α : Type} (r : RR α) : RR (List α) := fun H v l => ∃ a xs, v = .ref a ∧ H a = some (.tup xs) ∧ A2 (r H) xs l ∧ l.length ≤ lim
def rL {α : Type} (r : RR α) : RR (List α) := fun H v l => ∃ a xs, v = .ref a ∧ H a = some (.lst xs) ∧ A2 (r H) xs l ∧ l.length ≤ lim
/-- what stands when the tuples stay -/
class Tt {α : Type} (r : RR α) : Prop where
  tm : ∀ {H H' : Hp} {v : V} {x : α}, SameT H H' → r H v x → r H' v x
/-- what stands when all objects stay -/
class Mo {α : Type} (r : RR α) : Prop where
  mo : ∀ {H H' : Hp} {v : V} {x : α}, Same H H' → r H v x → r H' v x
/-- stands for plain data -/
class Da {α : Type} (r : RR α) where
  enc : α → PyData
  dep : Nat
  dp : ∀ {K : PySem.W.Frag} {H : Hp} {v : V} {x : α}, r H v x → Dp K H v (enc x)
  inj : ∀ {x y : α}, PyData.eqv (enc x) (enc y) = true ↔ x = y
  lay : ∀ {H : Hp} {v : V} {x : α}, r H v x → (enc x).canLay0 = true
  deep : ∀ x : α, (enc x).depth ≤ dep
theorem same_t {H H' : Hp} (h : Same H H') : SameT H H' := fun a xs e => h a _ e
theorem SameT.refl (H : Hp) : SameT H H := fun _ _ e => e
theorem SameT.trans {H H1 H2 : Hp} (h : SameT H H1) (k : SameT H1 H2) : SameT H H2 := fun a xs e => k a xs (h a xs e)
theorem SameT.upd {H H' : Hp} {d : Addr} {o u : HO} (h : SameT H H') (e : H' d = some u) (n : ∀ xs, u ≠ .tup xs) : SameT H (L2.upd H' d o) := fun a xs q => by
  rw [upd_ne (ne_of (h a xs q) e fun z => n xs z.symm)]; exact h a xs q
theorem SameT.new {H H' : Hp} {d : Addr} {o : HO} (h : SameT H H') (e : H' d = none) : SameT H (L2.upd H' d o) := fun a xs q => by
  rw [upd_ne (ne_of_none (h a xs q) e)]; exact h a xs q
theorem same_refl (H : Hp) : Same H H := fun _ _ e => e
theorem same_new {H H' : Hp} {d : Addr} {o : HO} (h : Same H H') (e : H' d = none) : Same H (L2.upd H' d o) := fun a u q => by
  rw [upd_ne (ne_of_none (h a u q) e)]; exact h a u q
/-- a change of an object that was not there before -/
theorem same_put {H H' : Hp} {d : Addr} {o : HO} (h : Same H H') (e : H d = none) : Same H (L2.upd H' d o) := fun a u q => by
  rw [upd_ne (ne_of_none q e)]; exact h a u q
section
variable {α β : Type} {r1 : RR α} {r2 : RR β} {r : RR α}
instance (priority := low) [Tt r] : Mo r := ⟨fun h => Tt.tm (same_t h)⟩
instance : Tt rI := ⟨fun _ h => h⟩
instance : Tt rS := ⟨fun _ h => h⟩
instance : Tt rO := ⟨fun _ h => h⟩
instance [Tt r1] [Tt r2] : Tt (rP r1 r2) := ⟨fun h ⟨a, x, y, e, e1, e2, e3⟩ => ⟨a, x, y, e, h _ _ e1, Tt.tm h e2, Tt.tm h e3⟩⟩
instance [Tt r] : Tt (rT r) := ⟨fun h ⟨a, xs, e, e1, e2, e3⟩ => ⟨a, xs, e, h _ _ e1, e2.mono fun _ _ => Tt.tm h, e3⟩⟩
instance [Mo r1] [Mo r2] : Mo (rP r1 r2) := ⟨fun h ⟨a, x, y, e, e1, e2, e3⟩ => ⟨a, x, y, e, h _ _ e1, Mo.mo h e2, Mo.mo h e3⟩⟩
instance [Mo r] : Mo (rT r) := ⟨fun h ⟨a, xs, e, e1, e2, e3⟩ => ⟨a, xs, e, h _ _ e1, e2.mono fun _ _ => Mo.mo h, e3⟩⟩
instance [Mo r] : Mo (rL r) := ⟨fun h ⟨a, xs, e, e1, e2, e3⟩ => ⟨a, xs, e, h _ _ e1, e2.mono fun _ _ => Mo.mo h, e3⟩⟩
theorem wok_str {s : Str} (h : wok s = true) : PyData.strOk s = true := by
  unfold wok at h
  rw [Bool.and_eq_true] at h
  have k := List.all_eq_true.mp h.2
  unfold PyData.strOk
  rw [Array.all_eq_true]
  intro i hi
  have m : s.cps[i] ∈ s.cps.toList := by simp
  have z := of_decide_eq_true (k _ m)
  have b : ∀ c ∈ letters.cps.toList, c < 0x110000 := by decide +kernel
  exact decide_eq_true (b _ z)
instance : Da rI where
  enc := .int
  dep := 0
  dp h := by cases h; exact .int _
  inj := by intro x y; simp [PyData.eqv]
  lay h := by rw [PyData.canLay0]
  deep x := by simp [PyData.depth]
instance : Da rS where
  enc := .str
  dep := 0
  dp h := by rw [h.1]; exact .str _
  inj := by intro x y; simp [PyData.eqv]
  lay h := by rw [PyData.canLay0]; exact wok_str h.2
  deep x := by simp [PyData.depth]
def encO : Option Str → PyData
  | none => .none
  | some s => .str s
instance : Da rO where
  enc := encO
  dep := 0
  dp {K H v x} h := by
    rw [h.1]
    cases x
    · exact .non
    · exact .str _
  inj := by intro x y; cases x <;> cases y <;> simp [encO, PyData.eqv]
  lay {H v x} h := by
    cases x
    · rfl
    · exact wok_str (h.2 _ rfl)
  deep x := by cases x <;> simp [encO, PyData.depth]
theorem eqvAll_map [Da r] : ∀ {l m : List α}, PyData.eqvAll (l.map (Da.enc r)) (m.map (Da.enc r)) = true ↔ l = m
  | [], [] => by simp [PyData.eqvAll]
  | [], _ :: _ => by simp [PyData.eqvAll]
  | _ :: _, [] => by simp [PyData.eqvAll]
  | a :: l, b :: m => by
    simp only [List.map_cons, PyData.eqvAll, Bool.and_eq_true, Da.inj, eqvAll_map, List.cons.injEq]
theorem A2.dp [Da r] {K : PySem.W.Frag} {H : Hp} : ∀ {xs : List V} {l : List α}, A2 (r H) xs l → DpAll K H xs (l.map (Da.enc r))
  | [], [], _ => .nil
  | _ :: _, _ :: _, h => .cons (Da.dp h.1) (A2.dp h.2)
  | [], _ :: _, h => h.elim
  | _ :: _, [], h => h.elim
theorem A2.lay [Da r] {H : Hp} : ∀ {xs : List V} {l : List α}, A2 (r H) xs l → PyData.canLayAll0 (l.map (Da.enc r)) = true
  | [], [], _ => rfl
  | _ :: _, _ :: _, h => by rw [List.map_cons, PyData.canLayAll0, Da.lay h.1, A2.lay h.2]; rfl
  | [], _ :: _, h => h.elim
  | _ :: _, [], h => h.elim
theorem deepAll [Da r] : ∀ l : List α, PyData.depthAll (l.map (Da.enc r)) ≤ Da.dep r
  | [] => by simp [PyData.depthAll]
  | a :: l => by
    have h1 := Da.deep (r := r) a
    have h2 := deepAll l
    simp only [List.map_cons, PyData.depthAll]
    omega
instance [Da r] : Da (rT r) where
  enc l := .tuple (l.map (Da.enc r))
  dep := Da.dep r + 1
  dp := fun ⟨a, xs, e, e1, e2, e3⟩ => by rw [e]; exact .tup (.inl (.inl e1)) e2.dp
  inj := by intro x y; rw [PyData.eqv]; exact eqvAll_map
  lay := fun ⟨a, xs, e, e1, e2, e3⟩ => by rw [PyData.canLay0]; exact e2.lay
  deep x := by rw [PyData.depth]; exact Nat.succ_le_succ (deepAll x)
instance [Da r] : Da (rL r) where
  enc l := .list (l.map (Da.enc r))
  dep := Da.dep r + 1
  dp := fun ⟨a, xs, e, e1, e2, e3⟩ => by rw [e]; exact .lst (.inl (.inl e1)) e2.dp
  inj := by intro x y; rw [PyData.eqv]; exact eqvAll_map
  lay := fun ⟨a, xs, e, e1, e2, e3⟩ => by rw [PyData.canLay0]; exact e2.lay
  deep x := by rw [PyData.depth]; exact Nat.succ_le_succ (deepAll x)
instance [Da r1] [Da r2] : Da (rP r1 r2) where
  enc p := .tuple [Da.enc r1 p.1, Da.enc r2 p.2]
  dep := max (Da.dep r1) (Da.dep r2) + 1
  dp := fun ⟨a, x, y, e, e1, e2, e3⟩ => by rw [e]; exact .tup (.inl (.inl e1)) (.cons (Da.dp e2) (.cons (Da.dp e3) .nil))
  inj := by
    intro x y
    obtain ⟨x1, x2⟩ := x
    obtain ⟨y1, y2⟩ := y
    simp only [PyData.eqv, PyData.eqvAll, Bool.and_true, Bool.and_eq_true, Da.inj, Prod.mk.injEq]
  lay := fun ⟨a, x, y, e, e1, e2, e3⟩ => by simp only [PyData.canLay0, PyData.canLayAll0, Da.lay e2, Da.lay e3, Bool.and_self]
  deep x := by
    have h1 := Da.deep (r := r1) x.1
    have h2 := Da.deep (r := r2) x.2
    simp only [PyData.depth, PyData.depthAll]
    omega
end

/-! ### rules by the data -/
section
variable {P : Program} {w : World} {K : PySem.W.Frag} {mg : Str → Option Value} {H : Hp} {Q : VK} {i j : Int} {x y v c : V} {p a l : Addr} {xs ys : List V}
theorem bool_dec {b : Bool} {p : Prop} [Decidable p] (h : b = true ↔ p) : b = decide p := by
  by_cases q : p
  · rw [decide_eq_true q]; exact h.mpr q
  · rw [decide_eq_false q]; exact Bool.eq_false_iff.mpr fun e => q (h.mp e)
theorem Da.shaped {α : Type} {r : RR α} [Da r] {H : Hp} {x : V} {a : α} (h : r H x a) (hd : Da.dep r ≤ 64) : SeqAt.shaped (Da.enc r a) = true := by
  unfold SeqAt.shaped
  rw [Bool.and_eq_true]
  exact ⟨Da.lay h, decide_eq_true (Nat.le_trans (Da.deep a) hd)⟩
theorem o_eqR {α : Type} {r : RR α} [Da r] [DecidableEq α] {a b : α} (h1 : r H x a) (h2 : r H y b) (q : Q (.bl (decide (a = b))) H) (hd : Da.dep r ≤ 64 := by decide) : rOp P w K mg (compareOp .Eq) x y H Q :=
  fun _ L => ⟨_, op_eqD (by have := L.un; omega), _, _, L.kk ▸ Da.dp h1, L.kk ▸ Da.dp h2, Da.shaped h1 hd, Da.shaped h2 hd, by rw [bool_dec (Da.inj (r := r))]; exact q⟩
theorem o_neR {α : Type} {r : RR α} [Da r] [DecidableEq α] {a b : α} (h1 : r H x a) (h2 : r H y b) (q : Q (.bl (!decide (a = b))) H) (hd : Da.dep r ≤ 64 := by decide) : rOp P w K mg (compareOp .NotEq) x y H Q :=
  fun _ L => ⟨_, op_neD (by have := L.un; omega), _, _, L.kk ▸ Da.dp h1, L.kk ▸ Da.dp h2, Da.shaped h1 hd, Da.shaped h2 hd, by rw [bool_dec (Da.inj (r := r))]; exact q⟩
/-- x in a tuple or a list of words -/
theorem inV_S {o : Option Str} : ∀ l : List Str, inV (oV o) (l.map V.str) = decide (o ∈ l.map some)
  | [] => by simp [inV]
  | s :: l => by
    have h := inV_S (o := o) l
    simp only [inV] at h ⊢
    rw [List.map_cons, List.any_cons, h]
    cases o with
    | none => simp [oV, eqV]
    | some z => 
      simp only [oV, eqV, List.map_cons, List.mem_cons, Option.some.injEq]
      by_cases e : z = s
      · subst e; simp
      · have e' : s ≠ z := fun q => e q.symm
        simp [e, e']
theorem inV_I {o : Int} : ∀ l : List Int, inV (.int o) (l.map V.int) = decide (o ∈ l)
  | [] => by simp [inV]
  | s :: l => by
    have h := inV_I (o := o) l
    simp only [inV] at h ⊢
    rw [List.map_cons, List.any_cons, h]
    simp only [eqV, List.mem_cons]
    by_cases e : o = s
    · subst e; simp
    · have e' : s ≠ o := fun q => e q.symm
      simp [e, e']
theorem flatO {o : Option Str} : flatV (oV o) = true := by cases o <;> rfl
theorem flatSs (l : List Str) : (l.map V.str).all flatV = true := by rw [List.all_map]; exact List.all_eq_true.mpr fun _ _ => rfl
theorem rS_map {H : Hp} {xs : List V} {l : List Str} (h : A2 (rS H) xs l) : xs = l.map V.str := (h.mono (r' := fun v a => v = V.str a) fun _ _ k => k.1).eq
theorem rI_map {H : Hp} {xs : List V} {l : List Int} (h : A2 (rI H) xs l) : xs = l.map V.int := A2.eq h
theorem o_inT {o : Option Str} {l : List Str} (h : rT rS H y l) (q : Q (.bl (decide (o ∈ l.map some))) H) : rOp P w K mg (compareOp .In) (oV o) y H Q := by
  obtain ⟨a, xs, rfl, e, k, _⟩ := h
  rw [rS_map k] at e
  exact fun _ L => ⟨_, op_in_seq, _, _, rfl, .inr (L.kk ▸ .inl (.inl e)), flatO, flatSs l, by simpa [inV_S] using q⟩
theorem o_notinT {o : Option Str} {l : List Str} (h : rT rS H y l) (q : Q (.bl (!decide (o ∈ l.map some))) H) : rOp P w K mg (compareOp .NotIn) (oV o) y H Q := by
  obtain ⟨a, xs, rfl, e, k, _⟩ := h
  rw [rS_map k] at e
  exact fun _ L => ⟨_, op_notIn_seq, _, _, rfl, .inr (L.kk ▸ .inl (.inl e)), flatO, flatSs l, by simpa [inV_S] using q⟩
theorem o_inL {o : Option Str} {l : List Str} (h : rL rS H y l) (q : Q (.bl (decide (o ∈ l.map some))) H) : rOp P w K mg (compareOp .In) (oV o) y H Q := by
  obtain ⟨a, xs, rfl, e, k, _⟩ := h
  rw [rS_map k] at e
  exact fun _ L => ⟨_, op_in_seq, _, _, rfl, .inl (L.kk ▸ .inl (.inl e)), flatO, flatSs l, by simpa [inV_S] using q⟩
theorem o_notinL {o : Option Str} {l : List Str} (h : rL rS H y l) (q : Q (.bl (!decide (o ∈ l.map some))) H) : rOp P w K mg (compareOp .NotIn) (oV o) y H Q := by
  obtain ⟨a, xs, rfl, e, k, _⟩ := h
  rw [rS_map k] at e
  exact fun _ L => ⟨_, op_notIn_seq, _, _, rfl, .inl (L.kk ▸ .inl (.inl e)), flatO, flatSs l, by simpa [inV_S] using q⟩
/-- a key of a dict -/
theorem or_din {X : Cx} (hu : X.A.units + 1 < cLine) : OpR X (compareOp .In) (fun x y H Q => ∃ (a : Addr) (o : Option V), y = .ref a ∧ DGet H a x o ∧ Q (.bl o.isSome) H) := by
  intro pins s σ H x y v u Q I rx ry h
  obtain ⟨a, o, ey, g, q⟩ := h
  subst ey
  cases ry
  exact d_in hu I g rx fun s3 I3 => ⟨.bl o.isSome, H, I3, rfl, q⟩
theorem or_dnotin {X : Cx} (hu : X.A.units + 1 < cLine) : OpR X (compareOp .NotIn) (fun x y H Q => ∃ (a : Addr) (o : Option V), y = .ref a ∧ DGet H a x o ∧ Q (.bl (!o.isSome)) H) := by
  intro pins s σ H x y v u Q I rx ry h
  obtain ⟨a, o, ey, g, q⟩ := h
  subst ey
  cases ry
  exact d_notIn hu I g rx fun s3 I3 => ⟨.bl (!o.isSome), H, I3, rfl, q⟩
theorem o_inG {o : Option V} (g : DGet H a x o) (q : Q (.bl o.isSome) H) : rOp P w K mg (compareOp .In) x (.ref a) H Q := fun _ L => ⟨_, or_din (by have := L.un; omega), _, _, rfl, g, q⟩
theorem o_notinG {o : Option V} (g : DGet H a x o) (q : Q (.bl (!o.isSome)) H) : rOp P w K mg (compareOp .NotIn) x (.ref a) H Q := fun _ L => ⟨_, or_dnotin (by have := L.un; omega), _, _, rfl, g, q⟩
theorem o_inSign {n : Nat} {z : Str} (q : Q (.bl (decide (n ∈ z.cps.toList))) H) : rOp P w K mg (compareOp .In) (.str ⟨#[n]⟩) (.str z) H Q := fun _ _ => ⟨_, op_in_sign, _, _, rfl, rfl, q⟩
theorem o_catL {b : Addr} (h : H l = some (.lst xs)) (k : H b = some (.lst ys)) (n : xs.length + ys.length ≤ sizeLine) (q : ∀ p, H p = none → Q (.ref p) (upd H p (.lst (xs ++ ys)))) : rOp P w K mg (binaryOp .Add) (.ref l) (.ref b) H Q :=
  fun _ _ => ⟨_, op_cat, _, _, _, _, rfl, rfl, h, k, n, q⟩
theorem o_catT {b : Addr} (h : H l = some (.tup xs)) (k : H b = some (.tup ys)) (n : xs.length + ys.length ≤ sizeLine) (q0 : xs = [] → Q (.ref b) H) (q1 : xs ≠ [] → ys = [] → Q (.ref l) H) (q : ∀ p, H p = none → Q (.ref p) (upd H p (.tup (xs ++ ys)))) : rOp P w K mg (binaryOp .Add) (.ref l) (.ref b) H Q :=
  fun _ L => ⟨_, op_catA, _, _, _, _, rfl, rfl, L.kk ▸ .inl (.inl h), L.kk ▸ .inl (.inl k), n, q0, q1, fun _ _ => q⟩
theorem o_rep (h : H l = some (.lst xs)) (h1 : 0 ≤ i) (h2 : i < 2 ^ 63) (n : xs.length * i.toNat ≤ sizeLine) (q : ∀ p, H p = none → Q (.ref p) (upd H p (.lst (List.replicate i.toNat xs).flatten))) : rOp P w K mg (binaryOp .Mult) (.ref l) (.int i) H Q :=
  fun _ _ => ⟨_, op_rep, _, _, _, rfl, rfl, h, by omega, h2, n, q⟩
theorem m_extend {b : Addr} (h : H l = some (.lst xs)) (k : H b = some (.lst ys)) (n : xs.length + ys.length ≤ sizeLine) (q : Q .non (upd H l (.lst (xs ++ ys)))) : rMt P w K mg "list.extend" (.ref l) [.ref b] H Q := fun _ _ => ⟨_, mt_extend, _, _, _, _, rfl, rfl, h, k, n, q⟩
theorem m_popAt {k : Nat} (h : H l = some (.lst xs)) (h1 : 0 ≤ i) (h2 : i < 2 ^ 63) (e : i = (k : Int)) (g : xs[k]? = some v) (q : Q v (upd H l (.lst (xs.eraseIdx k)))) : rMt P w K mg "list.pop" (.ref l) [.int i] H Q := by
  subst e
  refine fun _ _ => ⟨_, mt_popAt, _, _, _, k, _, rfl, rfl, h, by omega, h2, ?_, g, q⟩
  have hk := (List.getElem?_eq_some_iff.mp g).1
  simp [seqIndex?]
  omega
theorem t_setL {n : Nat} {q : Hp → Prop} (h : H p = some (.lst xs)) (e : ixN xs.length i = some n) (k : q (upd H p (.lst (xs.set n v)))) : rSt P w K mg (.ref p) (.int i) v H q :=
  fun _ _ => ⟨_, set_list, _, _, _, _, rfl, rfl, h, e, k⟩
end
end Nb

/-! part V0 -/
set_option Elab.async false
set_option linter.all false
set_option maxRecDepth 100000
set_option maxHeartbeats 4000000
/-! How readings are unfolded; pure loops; a def by its place. -/
namespace Nb
open PySem PySem.Spec PyProof.Rows L2

/-! ### the bodies of loops, held shut -/
def lcB (J : It) (g : TG) (tt : TT) (te : TE) (vs : List Nat) (σ : L2.St) (H1 : Hp) (Q : VK) : Prop := ∀ D, H1 D = none → ∃ W : Nat → Nat → Hp → Prop, (∃ m, W 0 m (upd H1 D (.lst []))) ∧ ∀ i m H, W i m H →
  (J.stop i H ∧ Q (.ref D) H) ∨ (J.go i H ∧ ∃ Nx : Hp → Prop, (∀ H', Nx H' → ∃ m', m' < m ∧ W (i + 1) m' H') ∧ ∀ x H', J.yld i H x H' → g x (wipe σ vs) H' fun σ2 H2 => wipe σ2 vs = wipe σ vs ∧ tt σ2 H2 fun b H3 =>
    if b = true then te σ2 H3 fun y H4 => ∃ acc, H4 D = some (.lst acc) ∧ acc.length < sizeLine ∧ Nx (upd H4 D (.lst (acc ++ [y]))) else Nx H3)
theorem tLc_eq {wi : TI} {g : TG} {tt : TT} {te : TE} {vs : List Nat} {σ : L2.St} {H : Hp} {Q : VK} : tLc wi g tt te vs σ H Q = wi σ H fun J H1 => lcB J g tt te vs σ H1 Q := rfl
def forB (J : It) (g : TG) (tb : TS) (D : Ends) (σ : L2.St) (H : Hp) : Prop := ∃ W : Nat → Nat → L2.St → Hp → Prop, (∃ m, W 0 m σ H) ∧ ∀ i m σ H, W i m σ H →
  (J.stop i H ∧ D.nx σ H) ∨ (J.go i H ∧ ∃ N : L2.St → Hp → Prop, (∀ σ' H', N σ' H' → ∃ m', m' < m ∧ W (i + 1) m' σ' H') ∧ ∀ x H', J.yld i H x H' → g x σ H' fun σ2 H2 => tb { D with nx := N, ct := N, bk := D.nx } σ2 H2)
theorem tFor_eq {wi : TI} {g : TG} {tb : TS} {D : Ends} {σ : L2.St} {H : Hp} : tFor wi g tb D σ H = wi σ H fun J H1 => forB J g tb D σ H1 := rfl
def dcB (J : It) (g : TG) (tt : TT) (tk tv : TE) (vs : List Nat) (σ : L2.St) (H1 : Hp) (Q : VK) : Prop := ∀ D, H1 D = none → ∃ W : Nat → Nat → Hp → Prop, (∃ m, W 0 m (upd H1 D (.dK []))) ∧ ∀ i m H, W i m H →
  (J.stop i H ∧ Q (.ref D) H) ∨ (J.go i H ∧ ∃ Nx : Hp → Prop, (∀ H', Nx H' → ∃ m', m' < m ∧ W (i + 1) m' H') ∧ ∀ x H', J.yld i H x H' → g x (wipe σ vs) H' fun σ2 H2 => wipe σ2 vs = wipe σ vs ∧ tt σ2 H2 fun b H3 =>
    if b = true then tk σ2 H3 fun y H4 => tv σ2 H4 fun z H5 => ∃ kvs k, y = kV k ∧ H5 D = some (.dK kvs) ∧ kvs.length < sizeLine ∧ Nx (upd H5 D (.dK (putK kvs k z))) else Nx H3)
theorem tDc_eq {wi : TI} {g : TG} {tt : TT} {tk tv : TE} {vs : List Nat} {σ : L2.St} {H : Hp} {Q : VK} : tDc wi g tt tk tv vs σ H Q = wi σ H fun J H1 => dcB J g tt tk tv vs σ H1 Q := rfl
def whB (c : TT) (tb : TS) (D : Ends) (σ : L2.St) (H : Hp) : Prop := tWhile c tb D σ H
theorem tWhile_eq {c : TT} {tb : TS} {D : Ends} {σ : L2.St} {H : Hp} : tWhile c tb D σ H = whB c tb D σ H := rfl
section
variable {c : TT} {g : TG} {tb : TS} {tt : TT} {te tk tv : TE} {D : Ends} {σ : L2.St} {H H1 : Hp} {Q : VK} {J : It} {n : Nat} {G : Hp → Prop} {Y : Nat → Hp → V → Hp → Prop} {vs : List Nat} {α β : Type} {r : RR α} {r' : RR β}
/-- a while loop by what stands and a number that falls -/
theorem wh_by (Pv : L2.St → Hp → Prop) (μ : L2.St → Hp → Nat) (h0 : Pv σ H)
    (st : ∀ σ H, Pv σ H → ∀ N : L2.St → Hp → Prop, (∀ σ' H', Pv σ' H' → μ σ' H' < μ σ H → N σ' H') → c σ H fun b H1 => if b = true then (∃ N : L2.St → Hp → Prop, (∀ σ' H', N σ' H' → ∃ m', m' < μ σ H ∧ (Pv σ' H' ∧ m' = μ σ' H')) ∧ tb { D with nx := N, ct := N, bk := D.nx } σ H1) else D.nx σ H1) : whB c tb D σ H :=
  ⟨fun m σ H => Pv σ H ∧ m = μ σ H, ⟨_, h0, rfl⟩, fun m σ H ⟨p, e⟩ => by subst e; exact st σ H p (fun σ' H' => Pv σ' H' ∧ μ σ' H' < μ σ H) fun _ _ a b => ⟨a, b⟩⟩
theorem wh_in {N0 : Nat} (Pv : L2.St → Hp → Prop) (μ : L2.St → Hp → Nat) (h : tb { D with nx := fun σ' H' => Pv σ' H' ∧ μ σ' H' < N0, ct := fun σ' H' => Pv σ' H' ∧ μ σ' H' < N0, bk := D.nx } σ H) :
    ∃ N : L2.St → Hp → Prop, (∀ σ' H', N σ' H' → ∃ m', m' < N0 ∧ (Pv σ' H' ∧ m' = μ σ' H')) ∧ tb { D with nx := N, ct := N, bk := D.nx } σ H :=
  ⟨_, fun _ _ ⟨a, b⟩ => ⟨_, b, a, rfl⟩, h⟩
/-- a for by a walk -/
theorem for_w (wk : Walk J n G Y) (Pv : Nat → L2.St → Hp → Prop) (h0 : Pv 0 σ H) (hG : ∀ i σ H, i ≤ n → Pv i σ H → G H)
    (hs : ∀ i x σ H H', i < n → Pv i σ H → Y i H x H' → g x σ H' fun σ2 H2 => tb { D with nx := Pv (i + 1), ct := Pv (i + 1), bk := D.nx } σ2 H2) (hd : ∀ σ H, Pv n σ H → D.nx σ H) : forB J g tb D σ H := L2.for_it wk Pv h0 hG hs hd
/-- a for over a list of data -/
theorem for_L {a : Addr} {l : List α} {K : PySem.W.Frag} (Pv : Nat → L2.St → Hp → Prop) (h0 : Pv 0 σ H) (hG : ∀ i σ H, i ≤ l.length → Pv i σ H → rL r H (.ref a) l)
    (hs : ∀ i x b σ H, l[i]? = some b → r H x b → Pv i σ H → g x σ H fun σ2 H2 => tb { D with nx := Pv (i + 1), ct := Pv (i + 1), bk := D.nx } σ2 H2) (hd : ∀ σ H, Pv l.length σ H → D.nx σ H) : forB (Itl K a) g tb D σ H := by
  obtain ⟨a0, xs0, e0, h1, h2, _⟩ := hG 0 σ H (Nat.zero_le _) h0
  have hn := h2.len
  refine ⟨fun i m σ H => m = l.length - i ∧ i ≤ l.length ∧ Pv i σ H, ⟨l.length, by simp, Nat.zero_le _, h0⟩, ?_⟩
  rintro i m σ H ⟨rfl, hi, p⟩
  obtain ⟨a', xs, e, q, k, _⟩ := hG i σ H hi p
  cases e
  have sq : SqL K H a xs := .inl (.inl q)
  have hl := k.len
  by_cases hlt : i < l.length
  · refine .inr ⟨⟨xs, xs[i]'(by omega), sq, by simp [show i < xs.length by omega]⟩, Pv (i + 1), fun σ' H' p' => ⟨l.length - (i + 1), by omega, rfl, hlt, p'⟩, ?_⟩
    rintro x H' ⟨rfl, y⟩
    obtain ⟨b, hb, rb⟩ := k.at (y xs sq)
    exact hs i x b σ _ hb rb p
  · have ei : i = l.length := by omega
    subst ei
    exact .inl ⟨⟨xs, sq, by omega⟩, hd σ H p⟩
theorem for_T {a : Addr} {l : List α} {K : PySem.W.Frag} (Pv : Nat → L2.St → Hp → Prop) (h0 : Pv 0 σ H) (hG : ∀ i σ H, i ≤ l.length → Pv i σ H → rT r H (.ref a) l)
    (hs : ∀ i x b σ H, l[i]? = some b → r H x b → Pv i σ H → g x σ H fun σ2 H2 => tb { D with nx := Pv (i + 1), ct := Pv (i + 1), bk := D.nx } σ2 H2) (hd : ∀ σ H, Pv l.length σ H → D.nx σ H) : forB (Itt K a) g tb D σ H := by
  refine ⟨fun i m σ H => m = l.length - i ∧ i ≤ l.length ∧ Pv i σ H, ⟨l.length, by simp, Nat.zero_le _, h0⟩, ?_⟩
  rintro i m σ H ⟨rfl, hi, p⟩
  obtain ⟨a', xs, e, q, k, _⟩ := hG i σ H hi p
  cases e
  have sq : SqT K H a xs := .inl (.inl q)
  have hl := k.len
  by_cases hlt : i < l.length
  · refine .inr ⟨⟨xs, xs[i]'(by omega), sq, by simp [show i < xs.length by omega]⟩, Pv (i + 1), fun σ' H' p' => ⟨l.length - (i + 1), by omega, rfl, hlt, p'⟩, ?_⟩
    rintro x H' ⟨rfl, y⟩
    obtain ⟨b, hb, rb⟩ := k.at (y xs sq)
    exact hs i x b σ _ hb rb p
  · have ei : i = l.length := by omega
    subst ei
    exact .inl ⟨⟨xs, sq, by omega⟩, hd σ H p⟩
/-- a pure comprehension by a walk: turn i appends what f i tells -/
theorem lc_w [Tt r'] (wk : Walk J n G Y) (f : Nat → Option β) (hG : ∀ H', Same H1 H' → G H') (hn : n ≤ lim)
    (hs : ∀ i x H H', i < n → Same H1 H → Y i H x H' → ∀ (Yk : VK) (N : Hp → Prop), (∀ b, f i = some b → ∀ y H4, Same H H4 → r' H4 y b → Yk y H4) → (f i = none → ∀ H3, Same H H3 → N H3) →
      g x (wipe σ vs) H' fun σ2 H2 => wipe σ2 vs = wipe σ vs ∧ tt σ2 H2 fun b H3 => if b = true then te σ2 H3 Yk else N H3)
    (q : ∀ D H', Same H1 H' → H1 D = none → rL r' H' (.ref D) ((List.range n).filterMap f) → Q (.ref D) H') : lcB J g tt te vs σ H1 Q := by
  intro D hD
  have len : ∀ i, i ≤ n → ((List.range i).filterMap f).length ≤ i := fun i _ => by
    have := List.length_filterMap_le f (List.range i)
    simpa using this
  refine L2.lc_it wk (fun i H => i ≤ n ∧ Same H1 H ∧ ∃ acc, H D = some (.lst acc) ∧ A2 (r' H) acc ((List.range i).filterMap f)) ⟨Nat.zero_le _, same_new (same_refl _) hD, [], upd_same, by simp [A2]⟩ (fun i H hi ⟨_, p, _⟩ => hG H p) ?_ fun H ⟨_, p, acc, e, k⟩ => ?_
  · rintro i x H H' hi ⟨_, p, acc, e, k⟩ y
    refine hs i x H H' hi p y _ _ (fun b eb y H4 s4 ry => ?_) fun en H3 s3 => ?_
    · refine ⟨acc, s4 _ _ e, ?_, hi, ?_, _, upd_same, ?_⟩
      · have h1 := k.len
        have h2 := len i (Nat.le_of_lt hi)
        have h3 : lim < sizeLine := by decide
        omega
      · exact same_put (p.trans s4) hD
      · have t4 : SameT H4 (upd H4 D (.lst (acc ++ [y]))) := SameT.upd (SameT.refl _) (s4 _ _ e) nofun
        rw [List.range_succ, List.filterMap_append]
        refine (k.mono fun _ _ z => Tt.tm ((same_t s4).trans t4) z).app ?_
        simp only [List.filterMap_cons, List.filterMap_nil, eb]
        exact .one (Tt.tm t4 ry)
    · refine ⟨hi, p.trans s3, acc, s3 _ _ e, ?_⟩
      rw [List.range_succ, List.filterMap_append]
      simp only [List.filterMap_cons, List.filterMap_nil, en, List.append_nil]
      exact k.mono fun _ _ z => Tt.tm (same_t s3) z
  · exact q D H p hD ⟨D, acc, rfl, e, k, Nat.le_trans (len n (Nat.le_refl _)) hn⟩
theorem range_get {f : α → Option β} : ∀ l : List α, (List.range l.length).filterMap (fun i => l[i]?.bind f) = l.filterMap f := by
  intro l
  induction l with
  | nil => rfl
  | cons a l ih =>
    rw [List.length_cons, List.range_succ_eq_map, List.filterMap_cons]
    simp only [List.getElem?_cons_zero, Option.bind_some, List.filterMap_map]
    have e : ((fun i => (a :: l)[i]?.bind f) ∘ Nat.succ) = fun i => l[i]?.bind f := by funext i; simp
    rw [e, ih, List.filterMap_cons]
/-- over a list of data -/
theorem lc_L [Mo r] [Tt r'] {a : Addr} {l : List α} {K : PySem.W.Frag} (f : α → Option β) (h : rL r H1 (.ref a) l)
    (hs : ∀ x b H, b ∈ l → Same H1 H → r H x b → ∀ (Yk : VK) (N : Hp → Prop), (∀ c, f b = some c → ∀ y H4, Same H H4 → r' H4 y c → Yk y H4) → (f b = none → ∀ H3, Same H H3 → N H3) →
      g x (wipe σ vs) H fun σ2 H2 => wipe σ2 vs = wipe σ vs ∧ tt σ2 H2 fun b H3 => if b = true then te σ2 H3 Yk else N H3)
    (q : ∀ D H', Same H1 H' → H1 D = none → rL r' H' (.ref D) (l.filterMap f) → Q (.ref D) H') : lcB (Itl K a) g tt te vs σ H1 Q := by
  obtain ⟨a0, xs, e, e1, k, hl⟩ := h
  cases e
  have hx := k.len
  refine lc_w (r' := r') (L2.walk_list (K := K) (a := a) (xs := xs)) (fun i => l[i]?.bind f) (fun H' s => .inl (.inl (s _ _ e1))) (by omega) ?_ fun D H' s hD z => q D H' s hD ?_
  · rintro i x H H' hi s ⟨rfl, y⟩ Yk N h1 h2
    obtain ⟨b, hb, rb⟩ := k.at y
    rw [hb] at h1 h2
    exact hs x b _ (List.mem_of_getElem? hb) s (Mo.mo s rb) Yk N h1 h2
  · rw [hx, range_get] at z; exact z
theorem lc_T [Mo r] [Tt r'] {a : Addr} {l : List α} {K : PySem.W.Frag} (f : α → Option β) (h : rT r H1 (.ref a) l)
    (hs : ∀ x b H, b ∈ l → Same H1 H → r H x b → ∀ (Yk : VK) (N : Hp → Prop), (∀ c, f b = some c → ∀ y H4, Same H H4 → r' H4 y c → Yk y H4) → (f b = none → ∀ H3, Same H H3 → N H3) →
      g x (wipe σ vs) H fun σ2 H2 => wipe σ2 vs = wipe σ vs ∧ tt σ2 H2 fun b H3 => if b = true then te σ2 H3 Yk else N H3)
    (q : ∀ D H', Same H1 H' → H1 D = none → rL r' H' (.ref D) (l.filterMap f) → Q (.ref D) H') : lcB (Itt K a) g tt te vs σ H1 Q := by
  obtain ⟨a0, xs, e, e1, k, hl⟩ := h
  cases e
  have hx := k.len
  refine lc_w (r' := r') (L2.walk_tup (K := K) (a := a) (xs := xs)) (fun i => l[i]?.bind f) (fun H' s => .inl (.inl (s _ _ e1))) (by omega) ?_ fun D H' s hD z => q D H' s hD ?_
  · rintro i x H H' hi s ⟨rfl, y⟩ Yk N h1 h2
    obtain ⟨b, hb, rb⟩ := k.at y
    rw [hb] at h1 h2
    exact hs x b _ (List.mem_of_getElem? hb) s (Mo.mo s rb) Yk N h1 h2
  · rw [hx, range_get] at z; exact z
/-- over a range -/
theorem lc_R [Tt r'] {n : Nat} (f : Nat → Option β) (hn : n ≤ lim)
    (hs : ∀ (i : Nat) H, i < n → Same H1 H → ∀ (Yk : VK) (N : Hp → Prop), (∀ c, f i = some c → ∀ y H4, Same H H4 → r' H4 y c → Yk y H4) → (f i = none → ∀ H3, Same H H3 → N H3) →
      g (.int (0 + (i : Int))) (wipe σ vs) H fun σ2 H2 => wipe σ2 vs = wipe σ vs ∧ tt σ2 H2 fun b H3 => if b = true then te σ2 H3 Yk else N H3)
    (q : ∀ D H', Same H1 H' → H1 D = none → rL r' H' (.ref D) ((List.range n).filterMap f) → Q (.ref D) H') : lcB (Itr 0 n) g tt te vs σ H1 Q := by
  refine lc_w (r' := r') (L2.walk_range (lo := 0) (n := n)) f (fun _ _ => trivial) hn ?_ q
  rintro i x H H' hi s ⟨rfl, rfl⟩ Yk N h1 h2
  exact hs i _ hi s Yk N h1 h2
/-- over the signs of a text -/
theorem lc_S [Tt r'] {z : Str} (f : Nat → Option β) (hn : z.cps.size ≤ lim)
    (hs : ∀ c H, c ∈ z.cps.toList → Same H1 H → ∀ (Yk : VK) (N : Hp → Prop), (∀ b, f c = some b → ∀ y H4, Same H H4 → r' H4 y b → Yk y H4) → (f c = none → ∀ H3, Same H H3 → N H3) →
      g (.str ⟨#[c]⟩) (wipe σ vs) H fun σ2 H2 => wipe σ2 vs = wipe σ vs ∧ tt σ2 H2 fun b H3 => if b = true then te σ2 H3 Yk else N H3)
    (q : ∀ D H', Same H1 H' → H1 D = none → rL r' H' (.ref D) (z.cps.toList.filterMap f) → Q (.ref D) H') : lcB (Its z) g tt te vs σ H1 Q := by
  refine lc_w (r' := r') (L2.walk_str (z := z)) (fun i => z.cps.toList[i]?.bind f) (fun _ _ => trivial) hn ?_ fun D H' s hD k => q D H' s hD ?_
  · rintro i x H H' hi s ⟨rfl, c, ec, rfl⟩ Yk N h1 h2
    have e : z.cps.toList[i]? = some c := by simpa using ec
    rw [e] at h1 h2
    exact hs c _ (List.mem_of_getElem? e) s Yk N h1 h2
  · have e := range_get (f := f) z.cps.toList
    rw [Array.length_toList] at e
    rw [e] at k; exact k
end
theorem fm_some {α β : Type} (f : α → β) (l : List α) : l.filterMap (fun a => some (f a)) = l.map f := by
  rw [← List.filterMap_eq_map]; rfl
theorem fm_if {α β : Type} (p : α → Bool) (f : α → β) (l : List α) : l.filterMap (fun a => if p a = true then some (f a) else none) = (l.filter p).map f := by
  induction l with
  | nil => rfl
  | cons a l ih =>
    rw [List.filterMap_cons, List.filter_cons]
    by_cases h : p a = true
    · simp [h, ih]
    · simp [h, ih]

/-! ### a def by its place -/
section
variable {P : Program} {w : World} {K : PySem.W.Frag} {mg : Str → Option Value} {base : Heap} {x qual : Str} {st : Stmt} {f : Addr} {N ps : List Str} {k : Nat} {sp : Sp} {kws : List (Str × V)} {C : Str}
theorem cl_of (F : ∃ fd, FunD K x qual (defArgs st) (defBody st) (defScope st) [] kws f fd) (sc : FnScope N ps (defScope st)) (hl : ∀ (vs : List V) (H : Hp) (Q : VK) (E : XK), sp vs H Q E → vs.length = ps.length) (hm : mg x = some (.ref f))
    (hb : ∀ (kV doc pm : Value) (an : Option Addr) (cdv ct : Value) (us : List Value), us.length = ps.length → bindArgs (PySem.W.fnOf x qual (defArgs st) (defBody st) (defScope st) Value.none kV doc pm an cdv ct) { pos := us } = pure (ps.zip us))
    (h : ∀ (cdv : Value) (A : Around) (outer : List Env) (s : Shared) (H : Hp) (vs : List V) (Q : VK) (E : XK), Room k (A.deeper (envOfC qual (defScope st) s.heap.objs.size f cdv)) → sp vs H Q E →
      ∃ t, PSs (cxOf CX0 P w K mg base N qual (defScope st) f cdv A outer s H E).nox (defBody st) t ∧ t { nx := fun _ H' => Q .non H', rt := Q } (L2.start N vs) H) : Cl P w K mg base (k + 1) x sp [] := by
  obtain ⟨fd, F⟩ := F
  exact ⟨f, fd, ps, [], Fun.ok (He5.fun_of F) sc hl h, hm, F.kp, F.bindsN hb, .nil⟩
theorem me_of {m : Str} (hc : Cls K (He.ga K C)) (hm : Meth K (He.ga K C) m f) (F : ∃ fd, FunD K x qual (defArgs st) (defBody st) (defScope st) [] kws f fd) (sc : FnScope N ps (defScope st)) (hl : ∀ (vs : List V) (H : Hp) (Q : VK) (E : XK), sp vs H Q E → vs.length = ps.length)
    (hb : ∀ (kV doc pm : Value) (an : Option Addr) (cdv ct : Value) (us : List Value), us.length = ps.length → bindArgs (PySem.W.fnOf x qual (defArgs st) (defBody st) (defScope st) Value.none kV doc pm an cdv ct) { pos := us } = pure (ps.zip us))
    (h : ∀ (cdv : Value) (A : Around) (outer : List Env) (s : Shared) (H : Hp) (vs : List V) (Q : VK) (E : XK), Room k (A.deeper (envOfC qual (defScope st) s.heap.objs.size f cdv)) → sp vs H Q E →
      ∃ t, PSs (cxOf CX0 P w K mg base N qual (defScope st) f cdv A outer s H E).nox (defBody st) t ∧ t { nx := fun _ H' => Q .non H', rt := Q } (L2.start N vs) H) : Me P w K mg base (k + 1) (He.ga K C) m sp := by
  obtain ⟨fd, F⟩ := F
  exact ⟨f, fd, ps, hc, hm, Fun.ok (He5.fun_of F) sc hl h, F.bindsN hb⟩
theorem pr_of {m : Str} (hc : Cls K (He.ga K C)) (hm : propB K C m = true) (F : ∃ fd, FunD K x qual (defArgs st) (defBody st) (defScope st) [] kws (pg K C m) fd) (sc : FnScope N ps (defScope st)) (hl : ∀ (vs : List V) (H : Hp) (Q : VK) (E : XK), sp vs H Q E → vs.length = ps.length)
    (hb : ∀ (kV doc pm : Value) (an : Option Addr) (cdv ct : Value) (us : List Value), us.length = ps.length → bindArgs (PySem.W.fnOf x qual (defArgs st) (defBody st) (defScope st) Value.none kV doc pm an cdv ct) { pos := us } = pure (ps.zip us))
    (h : ∀ (cdv : Value) (A : Around) (outer : List Env) (s : Shared) (H : Hp) (vs : List V) (Q : VK) (E : XK), Room k (A.deeper (envOfC qual (defScope st) s.heap.objs.size (pg K C m) cdv)) → sp vs H Q E →
      ∃ t, PSs (cxOf CX0 P w K mg base N qual (defScope st) (pg K C m) cdv A outer s H E).nox (defBody st) t ∧ t { nx := fun _ H' => Q .non H', rt := Q } (L2.start N vs) H) : Pr P w K mg base (k + 1) (He.ga K C) m sp := by
  obtain ⟨fd, F⟩ := F
  exact ⟨_, _, fd, ps, hc, propB_ok hm, Fun.ok (He5.fun_of F) sc hl h, F.bindsN hb⟩
theorem ma_of (hk : Mk K (He.ga K C) f) (hg : mg C = some (.ref (He.ga K C))) (F : ∃ fd, FunD K x qual (defArgs st) (defBody st) (defScope st) [] kws f fd) (sc : FnScope N ps (defScope st)) (hl : ∀ (vs : List V) (H : Hp) (Q : VK) (E : XK), sp vs H Q E → vs.length = ps.length)
    (hb : ∀ (kV doc pm : Value) (an : Option Addr) (cdv ct : Value) (us : List Value), us.length = ps.length → bindArgs (PySem.W.fnOf x qual (defArgs st) (defBody st) (defScope st) Value.none kV doc pm an cdv ct) { pos := us } = pure (ps.zip us))
    (h : ∀ (cdv : Value) (A : Around) (outer : List Env) (s : Shared) (H : Hp) (vs : List V) (Q : VK) (E : XK), Room k (A.deeper (envOfC qual (defScope st) s.heap.objs.size f cdv)) → sp vs H Q E →
      ∃ t, PSs (cxOf CX0 P w K mg base N qual (defScope st) f cdv A outer s H E).nox (defBody st) t ∧ t { nx := fun _ H' => Q .non H', rt := Q } (L2.start N vs) H) : Ma P w K mg base (k + 1) C (He.ga K C) sp := by
  obtain ⟨fd, F⟩ := F
  exact ⟨f, fd, ps, hk, Fun.ok (He5.fun_of F) sc hl h, hg, F.bindsN hb⟩
theorem exB_prop (h : exB K = true) {m : Str} (hm : m ∈ propNames) : propB K "Live" m = true := by
  obtain ⟨h1, _⟩ := He.ba h
  obtain ⟨h2, _⟩ := He.ba h1
  exact List.all_eq_true.mp h2 m hm
theorem exB_ins (h : exB K = true) : insB K "Machine" = true := by
  obtain ⟨h1, _⟩ := He.ba h
  obtain ⟨_, h2⟩ := He.ba h1
  exact h2
end

/-! ### arguments -/
theorem len1 {vs : List V} (h : vs.length = 1) : ∃ a, vs = [a] := match vs, h with
  | [a], _ => ⟨a, rfl⟩
theorem len2 {vs : List V} (h : vs.length = 2) : ∃ a b, vs = [a, b] := match vs, h with
  | [a, b], _ => ⟨a, b, rfl⟩
theorem len3 {vs : List V} (h : vs.length = 3) : ∃ a b c, vs = [a, b, c] := match vs, h with
  | [a, b, c], _ => ⟨a, b, c, rfl⟩
theorem len4 {vs : List V} (h : vs.length = 4) : ∃ a b c d, vs = [a, b, c, d] := match vs, h with
  | [a, b, c, d], _ => ⟨a, b, c, d, rfl⟩
theorem len5 {vs : List V} (h : vs.length = 5) : ∃ a b c d e, vs = [a, b, c, d, e] := match vs, h with
  | [a, b, c, d, e], _ => ⟨a, b, c, d, e, rfl⟩
/-! ### what a pure def promises -/
def PuV (v : V) (Q : VK) (H : Hp) : Prop := ∀ H', Same H H' → Q v H'
def PuR {α : Type} (r : RR α) (a : α) (Q : VK) (H : Hp) : Prop := ∀ v H', Same H H' → r H' v a → Q v H'
/-- a new object -/
def PuF {α : Type} (r : RR α) (a : α) (Q : VK) (H : Hp) : Prop := ∀ l H', Same H H' → H l = none → r H' (.ref l) a → Q (.ref l) H'
def isSeq (H : Hp) (v : V) : Prop := ∃ a xs, v = .ref a ∧ (H a = some (.lst xs) ∨ H a = some (.tup xs))
/-- a dict from words -/
def rD {α : Type} (r : RR α) : RR (List (Str × α)) := fun H v m => ∃ d kvs, v = .ref d ∧ H d = some (.dK kvs) ∧ A2 (fun (kv : Key × V) (p : Str × α) => kv.1 = .inr p.1 ∧ wok p.1 = true ∧ r H kv.2 p.2) kvs m ∧ (m.map Prod.fst).Nodup ∧ m.length ≤ lim
/-! ### isinstance, all -/
def rB : RR Bool := fun _ v b => v = .bl b
instance : Tt rB := ⟨fun _ h => h⟩
section
variable {P : Program} {w : World} {K : PySem.W.Frag} {mg : Str → Option Value} {H : Hp} {Q : VK} {i : Int} {z : Str} {a C dx p : Addr} {xs : List V} {v : V} {fs : List (Str × V)}
theorem i_int (q : Q (.bl true) H) : rCl P w K mg (.builtin "isinstance") [.int i, .ty "int"] H Q := c_isi (.ty _) (.base (.int i)) rfl q
theorem i_intB (q : Q (.bl false) H) : rCl P w K mg (.builtin "isinstance") [.int i, .ty "bool"] H Q := c_isi (.ty _) (.base (.int i)) rfl q
theorem i_str (q : Q (.bl true) H) : rCl P w K mg (.builtin "isinstance") [.str z, .ty "str"] H Q := c_isi (.ty _) (.base (.str z)) rfl q
theorem i_tup (h : H a = some (.tup xs)) (q : Q (.bl true) H) : rCl P w K mg (.builtin "isinstance") [.ref a, .ty "tuple"] H Q := c_isi (.ty _) (.base (.tup h)) rfl q
theorem i_dK {kvs : List (Key × V)} (h : H a = some (.dK kvs)) (q : Q (.bl true) H) : rCl P w K mg (.builtin "isinstance") [.ref a, .ty "dict"] H Q := c_isi (.ty _) (.base (.dK h)) rfl q
theorem i_ins (hc : C8.InsC K C) (h : H a = some (.ins C dx fs)) (q : Q (.bl true) H) : rCl P w K mg (.builtin "isinstance") [.ref a, .ref C] H Q := fun _ L => ⟨_, C8.call_isC (L.kk ▸ hc), _, _, _, rfl, h, q⟩
theorem i_seq (h : isSeq H v) (hp : H p = some (.tup [.ty "list", .ty "tuple"])) (q : Q (.bl true) H) : rCl P w K mg (.builtin "isinstance") [v, .ref p] H Q := by
  obtain ⟨b, ys, rfl, e | e⟩ := h
  · exact c_isiT hp (.cons (.ty _) (.cons (.ty _) .nil)) (.base (.lst e)) rfl q
  · exact c_isiT hp (.cons (.ty _) (.cons (.ty _) .nil)) (.base (.tup e)) rfl q
theorem c_allR {bs : List Bool} (h : rL rB H v bs) (q : Q (.bl (bs.all id)) H) : rCl P w K mg (.builtin "all") [v] H Q := by
  obtain ⟨b, ys, rfl, e, k, _⟩ := h
  exact c_all (.inl (.inl (by rw [e, show ys = bs.map V.bl from A2.eq k]))) q
theorem c_anyR {bs : List Bool} (h : rL rB H v bs) (q : Q (.bl (bs.any id)) H) : rCl P w K mg (.builtin "any") [v] H Q := by
  obtain ⟨b, ys, rfl, e, k, _⟩ := h
  exact c_any (.inl (.inl (by rw [e, show ys = bs.map V.bl from A2.eq k]))) q
theorem c_lenRL {α : Type} {r : RR α} {l : List α} (h : rL r H v l) (q : Q (.int l.length) H) : rCl P w K mg (.builtin "len") [v] H Q := by
  obtain ⟨b, ys, rfl, e, k, _⟩ := h
  exact c_lenL (.inl (.inl e)) (by rw [k.len]; exact q)
theorem c_lenRT {α : Type} {r : RR α} {l : List α} (h : rT r H v l) (q : Q (.int l.length) H) : rCl P w K mg (.builtin "len") [v] H Q := by
  obtain ⟨b, ys, rfl, e, k, _⟩ := h
  exact c_lenT (.inl (.inl e)) (by rw [k.len]; exact q)
theorem c_lenRD {α : Type} {r : RR α} {l : List (Str × α)} (h : rD r H v l) (q : Q (.int l.length) H) : rCl P w K mg (.builtin "len") [v] H Q := by
  obtain ⟨b, ys, rfl, e, k, _⟩ := h
  exact c_lenD e (by rw [k.len]; exact q)
theorem atI_of {ys : List V} {i : Int} {n : Nat} (hi : i = (n : Int)) (hn : n < ys.length) : atI ys i = ys[n]? := by
  subst hi
  unfold atI ixN
  simp [hn]
theorem x_RT {α : Type} {r : RR α} {l : List α} {n : Nat} {b : α} (h : rT r H v l) (hi : i = (n : Int)) (e : l[n]? = some b) (q : ∀ y, r H y b → Q y H) : rXx P w K mg v (.int i) H Q := by
  obtain ⟨c, ys, rfl, e1, k, _⟩ := h
  obtain ⟨y, h1, h2⟩ := k.to e
  exact x_T (.inl (.inl e1)) (by rw [atI_of hi (List.getElem?_eq_some_iff.mp h1).1]; exact h1) (q y h2)
theorem x_RL {α : Type} {r : RR α} {l : List α} {n : Nat} {b : α} (h : rL r H v l) (hi : i = (n : Int)) (e : l[n]? = some b) (q : ∀ y, r H y b → Q y H) : rXx P w K mg v (.int i) H Q := by
  obtain ⟨c, ys, rfl, e1, k, _⟩ := h
  obtain ⟨y, h1, h2⟩ := k.to e
  exact x_L (.inl (.inl e1)) (by rw [atI_of hi (List.getElem?_eq_some_iff.mp h1).1]; exact h1) (q y h2)
end
theorem wok_of {s : Str} (h : wok s = true) : 1 ≤ s.length ∧ s.length ≤ 6 ∧ ∀ c ∈ s.cps.toList, c ∈ letters.cps.toList := by
  unfold wok at h
  rw [Bool.and_eq_true, Bool.and_eq_true] at h
  exact ⟨of_decide_eq_true h.1.1, of_decide_eq_true h.1.2, fun c hc => of_decide_eq_true (List.all_eq_true.mp h.2 c hc)⟩
/-! ### closed steps: fields, dicts, tuples taken apart -/
def fldB (K : PySem.W.Frag) (f : Str) (x : V) (H1 : Hp) (Q : VK) : Prop := ∃ (a C dx : Addr) (fs : List (Str × V)) (v : V), x = .ref a ∧ H1 a = some (.ins C dx fs) ∧ Cls K C ∧ NoAttr K C f ∧ List.lookup f fs = some v ∧ Q v H1
theorem tFld_eq {K : PySem.W.Frag} {ta : TE} {f : Str} {σ : L2.St} {H : Hp} {Q : VK} : tFld K ta f σ H Q = ta σ H fun x H1 => fldB K f x H1 Q := rfl
def putB (K : PySem.W.Frag) (f : Str) (x y : V) (H2 : Hp) (q : Hp → Prop) : Prop := ∃ (a C dx : Addr) (fs : List (Str × V)), x = .ref a ∧ H2 a = some (.ins C dx fs) ∧ Cls K C ∧ NoAttr K C f ∧ fs.length < 1000 ∧ q (upd H2 a (.ins C dx (putF f y fs)))
theorem sFld_eq {K : PySem.W.Frag} {ta tv : TE} {f : Str} {D : Ends} {σ : L2.St} {H : Hp} : sFld K ta tv f D σ H = tv σ H fun y H1 => ta σ H1 fun x H2 => putB K f x y H2 (D.nx σ) := rfl
def dgB (x y : V) (H : Hp) (Q : VK) : Prop := ∃ a v, x = .ref a ∧ DGet H a y (some v) ∧ Q v H
theorem tDGet_eq {td ty : TE} {σ : L2.St} {H : Hp} {Q : VK} : tDGet td ty σ H Q = td σ H fun x H1 => ty σ H1 fun y H2 => dgB x y H2 Q := rfl
def dpB (x y v : V) (H : Hp) (q : Hp → Prop) : Prop := ∃ a H4, x = .ref a ∧ DPut H a y v H4 ∧ q H4
theorem sDPut_eq {td ty tv : TE} {D : Ends} {σ : L2.St} {H : Hp} : sDPut td ty tv D σ H = tv σ H fun v H1 => td σ H1 fun x H2 => ty σ H2 fun y H3 => dpB x y v H3 (D.nx σ) := rfl
def tupB (K : PySem.W.Frag) (n : Nat) (t : TGs) (v : V) (σ : L2.St) (H : Hp) (Q : L2.St → Hp → Prop) : Prop := gTup K n t v σ H Q
theorem gTup_eq {K : PySem.W.Frag} {n : Nat} {t : TGs} {v : V} {σ : L2.St} {H : Hp} {Q : L2.St → Hp → Prop} : gTup K n t v σ H Q = tupB K n t v σ H Q := rfl
theorem gCons_c {t : TG} {u : TGs} {x : V} {xs : List V} {σ : L2.St} {H : Hp} {Q : L2.St → Hp → Prop} : gCons t u (x :: xs) σ H Q = t x σ H fun σ' H' => u xs σ' H' Q :=
  propext ⟨fun ⟨_, _, e, h⟩ => by cases e; exact h, fun h => ⟨_, _, rfl, h⟩⟩
theorem gNil_n {σ : L2.St} {H : Hp} {Q : L2.St → Hp → Prop} : gNil [] σ H Q = Q σ H := propext ⟨fun h => h.2, fun h => ⟨rfl, h⟩⟩
theorem tup_n {K : PySem.W.Frag} {n : Nat} {t : TGs} {a : Addr} {xs : List V} {σ : L2.St} {H : Hp} {Q : L2.St → Hp → Prop} (h : H a = some (.tup xs)) (hn : xs.length = n) (q : t xs σ H Q) : tupB K n t (.ref a) σ H Q := ⟨a, xs, rfl, .inl (.inl h), hn, q⟩
section
variable {K : PySem.W.Frag} {α : Type} {r : RR α} {H : Hp} {v y : V} {Q : VK} {m : List (Str × α)} {z : Str} {b : α}
theorem look_A2 {R : V → α → Prop} : ∀ {kvs : List (Key × V)} {m : List (Str × α)}, A2 (fun (kv : Key × V) (p : Str × α) => kv.1 = .inr p.1 ∧ wok p.1 = true ∧ R kv.2 p.2) kvs m → List.lookup z m = some b → ∃ x, valV kvs (.inr z) = some x ∧ R x b
  | [], [], _, e => by simp at e
  | (k, x) :: kvs, (s, c) :: m, ⟨⟨h1, _, h2⟩, h3⟩, e => by
    simp only at h1 h2
    subst h1
    rw [List.lookup_cons] at e
    unfold valV
    rw [List.find?_cons]
    by_cases hz : z = s
    · subst hz
      simp at e
      subst e
      exact ⟨x, by simp, h2⟩
    · have hz' : s ≠ z := fun q => hz q.symm
      rw [show (z == s) = false from beq_eq_false_iff_ne.mpr hz] at e
      obtain ⟨x', e1, e2⟩ := look_A2 h3 e
      refine ⟨x', ?_, e2⟩
      unfold valV at e1
      simpa [hz'] using e1
  | [], _ :: _, h, _ => h.elim
  | _ :: _, [], h, _ => h.elim
theorem look_no {R : V → α → Prop} : ∀ {kvs : List (Key × V)} {m : List (Str × α)}, A2 (fun (kv : Key × V) (p : Str × α) => kv.1 = .inr p.1 ∧ wok p.1 = true ∧ R kv.2 p.2) kvs m → List.lookup z m = none → valV kvs (.inr z) = none
  | [], [], _, e => rfl
  | (k, x) :: kvs, (s, c) :: m, ⟨⟨h1, _, h2⟩, h3⟩, e => by
    simp only at h1 h2
    subst h1
    rw [List.lookup_cons] at e
    unfold valV
    rw [List.find?_cons]
    by_cases hz : z = s
    · subst hz
      simp at e
    · have hz' : s ≠ z := fun q => hz q.symm
      rw [show (z == s) = false from beq_eq_false_iff_ne.mpr hz] at e
      have e1 := look_no h3 e
      unfold valV at e1
      simpa [hz'] using e1
  | [], _ :: _, h, _ => h.elim
  | _ :: _, [], h, _ => h.elim
/-- the value of a word in a dict, also while the dict is walked -/
theorem dg_D {d : Addr} {kvs : List (Key × V)} (h : Rd H d (.dK kvs)) (k : A2 (fun (kv : Key × V) (p : Str × α) => kv.1 = .inr p.1 ∧ wok p.1 = true ∧ r H kv.2 p.2) kvs m) (e : List.lookup z m = some b) (q : ∀ y, r H y b → Q y H) : dgB (.ref d) (.str z) H Q := by
  obtain ⟨x, e1, e2⟩ := look_A2 (R := r H) k e
  exact ⟨d, x, rfl, .inl ⟨kvs, .inr z, h, rfl, e1.symm⟩, q x e2⟩
theorem dg_R (h : rD r H v m) (e : List.lookup z m = some b) (q : ∀ y, r H y b → Q y H) : dgB v (.str z) H Q := by
  obtain ⟨d, kvs, rfl, e1, k, _⟩ := h
  exact dg_D (.inl e1) k e q
theorem din_R (h : rD r H v m) : ∃ d o, v = .ref d ∧ DGet H d (.str z) o ∧ o.isSome = (List.lookup z m).isSome := by
  obtain ⟨d, kvs, rfl, e1, k, _⟩ := h
  cases e : List.lookup z m with
  | none => exact ⟨d, _, rfl, .inl ⟨kvs, .inr z, .inl e1, rfl, rfl⟩, by rw [look_no (R := r H) k e]; rfl⟩
  | some b =>
    obtain ⟨x, e2, _⟩ := look_A2 (R := r H) k e
    exact ⟨d, _, rfl, .inl ⟨kvs, .inr z, .inl e1, rfl, rfl⟩, by rw [e2]; rfl⟩
instance [Mo r] : Mo (rD r) := ⟨fun h ⟨a, xs, e, e1, e2, e3⟩ => ⟨a, xs, e, h _ _ e1, e2.mono fun _ _ z => ⟨z.1, z.2.1, Mo.mo h z.2.2⟩, e3⟩⟩
end
section
variable {P : Program} {w : World} {K : PySem.W.Frag} {mg : Str → Option Value} {α : Type} {r : RR α} {H : Hp} {v : V} {Q : VK} {m : List (Str × α)} {z : Str}
theorem o_inD (h : rD r H v m) (q : Q (.bl (List.lookup z m).isSome) H) : rOp P w K mg (compareOp .In) (.str z) v H Q := by
  obtain ⟨d, o, rfl, g, e⟩ := din_R (z := z) h
  exact o_inG g (by rw [e]; exact q)
end
def rgB (vs : List V) (R : It → Hp → Prop) (H1 : Hp) : Prop := ∃ j, vs = [V.int j] ∧ -2 ^ 62 ≤ j ∧ j < 2 ^ 62 ∧ R (Itr 0 j.toNat) H1
theorem iRng1_eq {ta : TA} {σ : L2.St} {H : Hp} {R : It → Hp → Prop} : iRng1 ta σ H R = ta σ H fun vs H1 => rgB vs R H1 := rfl
theorem rg_n {n : Nat} {R : It → Hp → Prop} {H : Hp} (hn : n ≤ lim) (q : R (Itr 0 n) H) : rgB [.int n] R H := by
  have h : lim = 2 ^ 20 := rfl
  exact ⟨n, rfl, by omega, by omega, by simpa using q⟩
def kyB (x : V) (R : It → Hp → Prop) (H1 : Hp) : Prop := ∃ d o, x = V.ref d ∧ ((∃ kvs, H1 d = some (HO.frz o (HO.dK kvs)) ∧ R (Itk d o kvs) H1) ∨ ∃ kvs, H1 d = some (HO.frz o (HO.dT kvs)) ∧ R (Itkt d o kvs) H1)
theorem iKeys_eq {td : TE} {σ : L2.St} {H : Hp} {R : It → Hp → Prop} : iKeys td σ H R = td σ H fun x H1 => kyB x R H1 := rfl
theorem ky_d {d : Addr} {o : Obj} {kvs : List (Key × V)} {R : It → Hp → Prop} {H : Hp} (h : H d = some (.frz o (.dK kvs))) (q : R (Itk d o kvs) H) : kyB (.ref d) R H := ⟨d, o, rfl, .inl ⟨kvs, h, q⟩⟩
def vlB (x : V) (R : It → Hp → Prop) (H1 : Hp) : Prop := ∃ d o kvs, x = V.ref d ∧ H1 d = some (HO.frz o (HO.dK kvs)) ∧ R (Itd d o kvs) H1
theorem iVals_eq {td : TE} {σ : L2.St} {H : Hp} {R : It → Hp → Prop} : iVals td σ H R = td σ H fun x H1 => vlB x R H1 := rfl
theorem vl_d {d : Addr} {o : Obj} {kvs : List (Key × V)} {R : It → Hp → Prop} {H : Hp} (h : H d = some (.frz o (.dK kvs))) (q : R (Itd d o kvs) H) : vlB (.ref d) R H := ⟨d, o, kvs, rfl, h, q⟩
def starB (K : PySem.W.Frag) (x : V) (H1 : Hp) (q : List V → Prop) : Prop := ∃ p xs, x = V.ref p ∧ (SqT K H1 p xs ∨ SqL K H1 p xs) ∧ q xs
theorem tStar_eq {K : PySem.W.Frag} {te : TE} {t : TA} {σ : L2.St} {H : Hp} {Q : List V → Hp → Prop} : StX.tStar K te t σ H Q = te σ H fun x H1 => starB K x H1 fun xs => t σ H1 fun ys H2 => Q (xs ++ ys) H2 := rfl
section
variable {K : PySem.W.Frag} {α : Type} {r : RR α} {H : Hp} {x : V} {l : List α} {q : List V → Prop}
theorem star_L (h : rL r H x l) (k : ∀ xs, A2 (r H) xs l → q xs) : starB K x H q := by
  obtain ⟨a, xs, rfl, e, e1, _⟩ := h
  exact ⟨a, xs, rfl, .inr (.inl (.inl e)), k xs e1⟩
theorem star_T (h : rT r H x l) (k : ∀ xs, A2 (r H) xs l → q xs) : starB K x H q := by
  obtain ⟨a, xs, rfl, e, e1, _⟩ := h
  exact ⟨a, xs, rfl, .inl (.inl (.inl e)), k xs e1⟩
theorem mk_T [Tt r] {xs : List V} {p : Addr} (hp : H p = none) (k : A2 (r H) xs l) (hl : l.length ≤ lim) : rT r (upd H p (.tup xs)) (.ref p) l := ⟨p, xs, rfl, upd_same, k.mono fun _ _ z => Tt.tm (SameT.new (SameT.refl _) hp) z, hl⟩
theorem mk_L [Tt r] {xs : List V} {p : Addr} (hp : H p = none) (k : A2 (r H) xs l) (hl : l.length ≤ lim) : rL r (upd H p (.lst xs)) (.ref p) l := ⟨p, xs, rfl, upd_same, k.mono fun _ _ z => Tt.tm (SameT.new (SameT.refl _) hp) z, hl⟩
theorem mk_P {β : Type} {r2 : RR β} [Tt r] [Tt r2] {y : V} {p : Addr} {a : α} {b : β} (hp : H p = none) (k1 : r H x a) (k2 : r2 H y b) : rP r r2 (upd H p (.tup [x, y])) (.ref p) (a, b) := ⟨p, x, y, rfl, upd_same, Tt.tm (SameT.new (SameT.refl _) hp) k1, Tt.tm (SameT.new (SameT.refl _) hp) k2⟩
theorem A2.bnd {xs : List V} (k : A2 (r H) xs l) (hl : l.length ≤ lim) : xs.length ≤ sizeLine := by
  have h1 : lim ≤ sizeLine := by decide
  rw [k.len]; omega
end

def lsB (K : PySem.W.Frag) (x : V) (R : It → Hp → Prop) (H1 : Hp) : Prop := ∃ a, x = V.ref a ∧ (∃ xs, SqL K H1 a xs) ∧ R (Itl K a) H1
theorem iList_eq {K : PySem.W.Frag} {tl : TE} {σ : L2.St} {H : Hp} {R : It → Hp → Prop} : iList K tl σ H R = tl σ H fun x H1 => lsB K x R H1 := rfl
def tpB (K : PySem.W.Frag) (x : V) (R : It → Hp → Prop) (H1 : Hp) : Prop := ∃ a, x = V.ref a ∧ (∃ xs, SqT K H1 a xs) ∧ R (Itt K a) H1
theorem iTup_eq {K : PySem.W.Frag} {tl : TE} {σ : L2.St} {H : Hp} {R : It → Hp → Prop} : iTup K tl σ H R = tl σ H fun x H1 => tpB K x R H1 := rfl
def sqB (K : PySem.W.Frag) (x : V) (R : It → Hp → Prop) (H1 : Hp) : Prop := ∃ (a : Addr) (xs : List V), x = .ref a ∧ ((SqL K H1 a xs ∧ R (Itl K a) H1) ∨ (SqT K H1 a xs ∧ R (Itt K a) H1))
theorem iSeq_eq {K : PySem.W.Frag} {tl : TE} {σ : L2.St} {H : Hp} {R : It → Hp → Prop} : iSeq K tl σ H R = tl σ H fun x H1 => sqB K x R H1 := rfl
section
variable {K : PySem.W.Frag} {α : Type} {r : RR α} {H : Hp} {x : V} {l : List α} {R : It → Hp → Prop}
theorem ls_L (h : rL r H x l) (q : ∀ a, x = .ref a → rL r H (.ref a) l → R (Itl K a) H) : lsB K x R H := by
  obtain ⟨a, xs, e, e1, e2⟩ := id h
  exact ⟨a, e, ⟨xs, .inl (.inl e1)⟩, q a e (e ▸ h)⟩
theorem tp_T (h : rT r H x l) (q : ∀ a, x = .ref a → rT r H (.ref a) l → R (Itt K a) H) : tpB K x R H := by
  obtain ⟨a, xs, e, e1, e2⟩ := id h
  exact ⟨a, e, ⟨xs, .inl (.inl e1)⟩, q a e (e ▸ h)⟩
theorem sq_L (h : rL r H x l) (q : ∀ a, x = .ref a → rL r H (.ref a) l → R (Itl K a) H) : sqB K x R H := by
  obtain ⟨a, xs, e, e1, e2⟩ := id h
  exact ⟨a, xs, e, .inl ⟨.inl (.inl e1), q a e (e ▸ h)⟩⟩
theorem sq_T (h : rT r H x l) (q : ∀ a, x = .ref a → rT r H (.ref a) l → R (Itt K a) H) : sqB K x R H := by
  obtain ⟨a, xs, e, e1, e2⟩ := id h
  exact ⟨a, xs, e, .inr ⟨.inl (.inl e1), q a e (e ▸ h)⟩⟩
theorem ty_L {Kk : PySem.W.Frag} (h : rL r H x l) : tyV Kk "list" x H := by
  obtain ⟨a, xs, e, e1, e2⟩ := h
  subst e
  exact .inl ⟨rfl, xs, .inl (.inl e1)⟩
end

theorem pt_a {K : PySem.W.Frag} {f : Str} {a C dx : Addr} {fs gs : List (Str × V)} {y : V} {H : Hp} {q : Hp → Prop} (h : H a = some (.ins C dx fs)) (hc : Cls K C) (na : NoAttr K C f) (e : putF f y fs = gs) (k : q (upd H a (.ins C dx gs))) (hl : fs.length < 1000 := by simp) : putB K f (.ref a) y H q := ⟨a, C, dx, fs, rfl, h, hc, na, hl, e ▸ k⟩
theorem fl_a {K : PySem.W.Frag} {f : Str} {a C dx : Addr} {fs : List (Str × V)} {v : V} {H : Hp} {Q : VK} (h : H a = some (.ins C dx fs)) (hc : Cls K C) (na : NoAttr K C f) (e : List.lookup f fs = some v) (k : Q v H) : fldB K f (.ref a) H Q := ⟨a, C, dx, fs, v, rfl, h, hc, na, e, k⟩

theorem cx_K {CX : CXT} {P : Program} {w : World} {K : PySem.W.Frag} {mg : Str → Option Value} {base : Heap} {N : List Str} {q : Str} {sc : Scope} {f : Addr} {cdv : Value} {A : Around} {outer : List Env} {s : Shared} {H : Hp} {E : XK} : (cxOf CX P w K mg base N q sc f cdv A outer s H E).K = K := rfl
def enB (K : PySem.W.Frag) (vs : List V) (R : It → Hp → Prop) (H1 : Hp) : Prop := ∃ a xs, vs = [V.ref a] ∧ SqL K H1 a xs ∧ R (Ite K a) H1
theorem iEnum_eq {K : PySem.W.Frag} {ta : TA} {σ : L2.St} {H : Hp} {R : It → Hp → Prop} : iEnum K ta σ H R = ta σ H fun vs H1 => enB K vs R H1 := rfl
section
variable {K : PySem.W.Frag} {α : Type} {r : RR α} {H : Hp} {x : V} {l : List α} {R : It → Hp → Prop} {g : TG} {tb : TS} {D : Ends} {σ : L2.St}
theorem en_L (h : rL r H x l) (q : ∀ a, x = .ref a → rL r H (.ref a) l → R (Ite K a) H) : enB K [x] R H := by
  obtain ⟨a, xs, e, e1, e2⟩ := id h
  exact ⟨a, xs, by rw [e], .inl (.inl e1), q a e (e ▸ h)⟩
/-- a for over enumerate of a list of data -/
theorem for_E {a : Addr} (Pv : Nat → L2.St → Hp → Prop) (h0 : Pv 0 σ H) (hG : ∀ i σ H, i ≤ l.length → Pv i σ H → rL r H (.ref a) l)
    (hs : ∀ (i : Nat) x b σ H (T : Addr), l[i]? = some b → r H x b → Pv i σ H → H T = none → g (.ref T) σ (upd H T (.tup [.int i, x])) fun σ2 H2 => tb { D with nx := Pv (i + 1), ct := Pv (i + 1), bk := D.nx } σ2 H2) (hd : ∀ σ H, Pv l.length σ H → D.nx σ H) : forB (Ite K a) g tb D σ H := by
  refine ⟨fun i m σ H => m = l.length - i ∧ i ≤ l.length ∧ Pv i σ H, ⟨l.length, by simp, Nat.zero_le _, h0⟩, ?_⟩
  rintro i m σ H ⟨rfl, hi, p⟩
  obtain ⟨a', xs, e, q, k, _⟩ := hG i σ H hi p
  cases e
  have sq : SqL K H a xs := .inl (.inl q)
  have hl := k.len
  by_cases hlt : i < l.length
  · refine .inr ⟨⟨xs, xs[i]'(by omega), sq, by simp [show i < xs.length by omega]⟩, Pv (i + 1), fun σ' H' p' => ⟨l.length - (i + 1), by omega, rfl, hlt, p'⟩, ?_⟩
    rintro v H' ⟨T, x, rfl, hT, rfl, y⟩
    obtain ⟨b, hb, rb⟩ := k.at (y xs sq)
    exact hs i x b σ H T hb rb p hT
  · have ei : i = l.length := by omega
    subst ei
    exact .inl ⟨⟨xs, sq, by omega⟩, hd σ H p⟩
end

def zpB (K : PySem.W.Frag) (vs : List V) (R : It → Hp → Prop) (H1 : Hp) : Prop := ∃ (a b : Addr) (xs ys : List V), vs = [.ref a, .ref b] ∧ SqL K H1 a xs ∧ SqT K H1 b ys ∧ R (Itm K a b) H1
theorem iZipM_eq {K : PySem.W.Frag} {ta : TA} {σ : L2.St} {H : Hp} {R : It → Hp → Prop} : iZipM K ta σ H R = ta σ H fun vs H1 => zpB K vs R H1 := rfl
section
variable {K : PySem.W.Frag} {α β : Type} {r : RR α} {r2 : RR β} {H : Hp} {x y : V} {l : List α} {m : List β} {R : It → Hp → Prop} {g : TG} {tb : TS} {D : Ends} {σ : L2.St}
theorem zp_LT (h : rL r H x l) (k : rT r2 H y m) (q : ∀ a b, x = .ref a → y = .ref b → R (Itm K a b) H) : zpB K [x, y] R H := by
  obtain ⟨a, xs, e, e1, e2⟩ := id h
  obtain ⟨b, ys, e', e3, e4⟩ := id k
  subst e e'
  exact ⟨a, b, xs, ys, rfl, .inl (.inl e1), .inl (.inl e3), q a b rfl rfl⟩
/-- a for over zip(list, tuple), of one length -/
theorem for_Z {a b : Addr} (hl : l.length = m.length) (Pv : Nat → L2.St → Hp → Prop) (h0 : Pv 0 σ H) (hG : ∀ i σ H, Pv i σ H → rL r H (.ref a) l ∧ rT r2 H (.ref b) m)
    (hs : ∀ (i : Nat) x y c d (T : Addr) σ H, l[i]? = some c → m[i]? = some d → r H x c → r2 H y d → Pv i σ H → H T = none → g (.ref T) σ (upd H T (.tup [x, y])) fun σ2 H2 => tb { D with nx := Pv (i + 1), ct := Pv (i + 1), bk := D.nx } σ2 H2) (hd : ∀ σ H, Pv l.length σ H → D.nx σ H) : forB (Itm K a b) g tb D σ H := by
  refine ⟨fun i k σ H => (k = l.length - i ∧ i ≤ l.length) ∧ Pv i σ H, ⟨l.length, ⟨rfl, Nat.zero_le _⟩, h0⟩, ?_⟩
  rintro i k σ H ⟨⟨rfl, hi⟩, p⟩
  obtain ⟨⟨a', xs, e, e1, k1, _⟩, ⟨b', ys, e', e2, k2, _⟩⟩ := hG i σ H p
  cases e; cases e'
  have qx : SqL K H a xs := .inl (.inl e1)
  have qy : SqT K H b ys := .inl (.inl e2)
  have hx := k1.len
  have hy := k2.len
  rcases Nat.lt_or_eq_of_le hi with lt | rfl
  · have ex : xs[i]? = some (xs[i]'(by omega)) := List.getElem?_eq_getElem _
    have ey : ys[i]? = some (ys[i]'(by omega)) := List.getElem?_eq_getElem _
    refine .inr ⟨⟨xs, ys, _, _, qx, qy, ex, ey⟩, Pv (i + 1), fun σ' H' p' => ⟨l.length - (i + 1), by omega, ⟨rfl, lt⟩, p'⟩, ?_⟩
    rintro v H' ⟨T, x', y', rfl, hT, rfl, f1, f2⟩
    obtain ⟨c, hc, rc⟩ := k1.at (f1 xs qx)
    obtain ⟨d, hd, rd⟩ := k2.at (f2 ys qy)
    exact hs i x' y' c d T σ H hc hd rc rd p hT
  · exact .inl ⟨⟨xs, ys, qx, qy, by omega⟩, hd σ H p⟩
end

def lc2B (J : It) (g : TG) (tt : TT) (wi1 : TI) (g1 : TG) (tt1 : TT) (te : TE) (vs vs1 : List Nat) (σ : L2.St) (H1 : Hp) (Q : VK) : Prop := tLc2 (fun _ H R => R J H) g tt wi1 g1 tt1 te vs vs1 σ H1 Q
theorem tLc2_eq {wi wi1 : TI} {g g1 : TG} {tt tt1 : TT} {te : TE} {vs vs1 : List Nat} {σ : L2.St} {H : Hp} {Q : VK} : tLc2 wi g tt wi1 g1 tt1 te vs vs1 σ H Q = wi σ H fun J H1 => lc2B J g tt wi1 g1 tt1 te vs vs1 σ H1 Q := rfl

def prB (C : Addr) (sp : Sp) (dvs : List V) (E : XK) (x : V) (H1 : Hp) (Q : VK) : Prop := ∃ a dx fs, x = V.ref a ∧ H1 a = some (HO.ins C dx fs) ∧ sp (V.ref a :: dvs) H1 Q E
theorem tProp_eq {C : Addr} {sp : Sp} {dvs : List V} {E : XK} {ta : TE} {σ : L2.St} {H : Hp} {Q : VK} : tProp C sp dvs E ta σ H Q = ta σ H fun x H1 => prB C sp dvs E x H1 Q := rfl
theorem pr_go {C a dx : Addr} {fs : List (Str × V)} {sp : Sp} {dvs : List V} {E : XK} {H : Hp} {Q : VK} (h : H a = some (.ins C dx fs)) (q : sp (.ref a :: dvs) H Q E) : prB C sp dvs E (.ref a) H Q := ⟨a, dx, fs, rfl, h, q⟩
def meB (C : Addr) (m : Str) (x : V) (H1 : Hp) (q : Prop) : Prop := ∃ a dx fs, x = V.ref a ∧ H1 a = some (HO.ins C dx fs) ∧ List.lookup m fs = none ∧ q
theorem tMeth_eq {C : Addr} {m : Str} {sp : Sp} {dvs : List V} {E : XK} {ta : TE} {t : TA} {σ : L2.St} {H : Hp} {Q : VK} : tMeth C m sp dvs E ta t σ H Q = ta σ H fun x H1 => meB C m x H1 (t σ H1 fun vs H2 => sp (x :: (vs ++ dvs)) H2 Q E) := rfl
theorem me_go {C a dx : Addr} {m : Str} {fs : List (Str × V)} {H : Hp} {q : Prop} (h : H a = some (.ins C dx fs)) (e : List.lookup m fs = none) (k : q) : meB C m (.ref a) H q := ⟨a, dx, fs, rfl, h, e, k⟩

/-- the readings, unfolded down to what the values choose -/
local macro_rules | `(tactic| walk_at "S") => `(tactic| (try simp only [tSeq, tNext, tRet, tIfS, tDrop, tAsg, gName, tFor_eq, tWhile_eq, tLc_eq, tLc2_eq, tDc_eq, sFld_eq, sDPut_eq, tPar, tPar3, tC, tVar, tCB, tOp, tTup, tLst, tChain, tDGet_eq, tDGet2, tAndV, tOrV, tNotV, tIf, tLstRg, tRg1, tDisp, tPairs, tUn, rU, tTest, tNot, tB, tAnd, tOr, tYes, tSl, tPart, tNoPart, tRevL, tM1, tDNewK, tDNewT, gCons_c, gNil_n, gSub, gTup_eq, iRng1_eq, iList_eq, iTup_eq, iSeq_eq, iStr, iKeys_eq, iVals_eq, iEnum_eq, cx_K, tCons, tNil, tBM, tCall, tMake, tProp_eq, tMeth_eq, tFld_eq, tStar_eq, iZipM_eq, tDisp1, L2.start, List.map_cons, List.map_nil, List.length_cons, List.length_nil, List.cons_append, List.nil_append, List.append_nil, List.getElem?_cons_zero, List.getElem?_cons_succ, List.set_cons_zero, List.set_cons_succ, Option.some.injEq, exists_eq_left', exists_eq_left, V.bl.injEq, V.int.injEq, V.str.injEq, V.ref.injEq, if_true, if_false, Nat.reduceAdd, Nat.reduceSub, List.replicate_succ, List.replicate_zero, Bool.not_true, Bool.not_false, Bool.false_eq_true, if_neg, not_false_eq_true, wipe]))
local macro_rules | `(tactic| walk_at "G") => `(tactic| (walk_at "S"; repeat ((first | with_reducible refine o_add ?_ | with_reducible refine o_sub ?_ | with_reducible refine o_mul ?_ | with_reducible refine o_lt ?_ | with_reducible refine o_le ?_ | with_reducible refine o_gt ?_ | with_reducible refine o_ge ?_ | with_reducible refine o_eqI ?_ | with_reducible refine o_neI ?_ | with_reducible refine o_eqS ?_ | with_reducible refine o_neS ?_ | with_reducible refine o_isN ?_ | with_reducible refine o_notN ?_ | with_reducible refine i_int ?_ | with_reducible refine i_intB ?_ | with_reducible refine i_str ?_); walk_at "S")))
end Nb

/-! part V1 -/
set_option Elab.async false
set_option linter.all false
set_option maxRecDepth 100000
set_option maxHeartbeats 4000000
/-! sorted, index, walks over dicts, comprehensions of dicts. -/
namespace Nb
open PySem PySem.Spec PyProof.Rows L2
section
variable {α β : Type} {r : RR α} {r' : RR β}
/-- both sides of items -/
theorem each_of {H : Hp} {h : Heap} : ∀ {xs : List V} {us : List Value} {l : List α}, Vals xs us → A2 (r H) xs l → PySem.W.EachIs (fun u b => ∃ v, L2.RelV v u ∧ r H v b) us l
  | [], _, [], hv, _ => by cases hv; exact .nil
  | _ :: _, _, _ :: _, hv, k => by
    cases hv with
    | cons h1 h2 => exact .cons ⟨_, h1, k.1⟩ (each_of (h := h) h2 k.2)
  | [], _, _ :: _, _, k => k.elim
  | _ :: _, _, [], _, k => k.elim
theorem of_each {H : Hp} : ∀ {us : List Value} {l : List α}, PySem.W.EachIs (fun u b => ∃ v, L2.RelV v u ∧ r H v b) us l → ∃ xs, Vals xs us ∧ A2 (r H) xs l
  | _, _, .nil => ⟨[], .nil, trivial⟩
  | _, _, .cons ⟨v, h1, h2⟩ t => by
    obtain ⟨xs, k1, k2⟩ := of_each t
    exact ⟨v :: xs, .cons h1 k1, h2, k2⟩
/-- the order of sorted -/
def leR (r : RR α) [Da r] : α → α → Bool := PySem.W.dataLe false (Da.enc r)
/-- what sorted can order -/
class So {α : Type} (r : RR α) [Da r] : Prop where
  al : ∀ a b : α, PySem.W.alike (Da.enc r a) (Da.enc r b) = true
  so : ∀ l : List α, PySem.W.Sortable (l.map (Da.enc r))
instance : So rS := ⟨fun a b => by show PySem.W.alike (.str a) (.str b) = true; simp [PySem.W.alike], fun l => PySem.W.Sortable.others (enc := fun a : Str => PyData.str a) fun b => ⟨nofun, fun _ => nofun⟩⟩
theorem alike_strs : ∀ xs ys : List Str, PySem.W.alikeAll (xs.map .str) (ys.map .str) = true
  | [], _ => by simp [PySem.W.alikeAll]
  | _ :: _, [] => by simp [PySem.W.alikeAll]
  | x :: xs, y :: ys => by
    simp only [List.map_cons, PySem.W.alikeAll, alike_strs xs ys, PySem.W.alike, Bool.and_self]
instance : So (rP rI (rT rS)) := ⟨fun a b => by
  show PySem.W.alike (.tuple [.int a.1, .tuple (a.2.map .str)]) (.tuple [.int b.1, .tuple (b.2.map .str)]) = true
  simp only [PySem.W.alike, PySem.W.alikeAll, alike_strs, Bool.and_self], fun l => PySem.W.Sortable.tuples (enc := Da.enc (rP rI (rT rS))) fun b => ⟨_, _, rfl⟩⟩
theorem lay_len {H : Hp} {xs : List V} {l : List α} (k : A2 (r H) xs l) (h : l.length ≤ lim) : xs.length ≤ sizeLine := by
  have h1 : lim ≤ sizeLine := by decide
  rw [k.len]; omega
def rSort [Da r] (K : PySem.W.Frag) : List V → Hp → VK → Prop := fun vs H Q => ∃ (v : V) (l : List α), vs = [v] ∧ rL r H v l ∧ ∀ p ys, H p = none → A2 (r H) ys (l.mergeSort (leR r)) → Q (.ref p) (upd H p (.lst ys))
theorem cr_sortR [Da r] [So r] {X : Cx} (hu : X.A.units + 80 < cLine) (hd : Da.dep r ≤ 70) : CallR X (.builtin "sorted") (rSort (r := r) X.K) := by
  intro pins s σ H vs us Q I rr h
  obtain ⟨v, l, rfl, ⟨a, xs, rfl, e, k, hl⟩, q⟩ := h
  obtain ⟨its, rv, ip, _⟩ := I.list (.inl (.inl e))
  rw [Vals.ref1 rr]
  have hlen : l.length ≤ sizeLine := by have h1 : lim ≤ sizeLine := by decide
                                        omega
  have ea := each_of (h := s.heap) rv k
  refine PySem.W.sorted_data (enc := Da.enc r) ip.isList ea (ea.mono fun u b ⟨v, h1, h2⟩ => Dp.reads I _ v u (Da.dp h2) h1) (PySem.W.AllAlike.of So.al) (So.so l) hlen (fun b _ => by have := Da.deep (r := r) b; omega) fun out ho eo => ?_
  obtain ⟨ys, y1, y2⟩ := of_each eo
  obtain ⟨ep, he⟩ := PyProof.Rows.sortedAll_at s.heap its out.toArray
  have hys : ys.length ≤ sizeLine := by rw [y1.length, ho]; exact hlen
  exact ⟨.ref _, upd H (s.heap.objs.size + 1) (.lst ys), I.laid (t' := s.toks) (fun _ _ => PyProof.Rows.sortedAll_old) (Nat.le_succ _) ⟨hys, out, ep, y1, he⟩, rfl, q _ ys (I.hok.fresh (Nat.le_succ _)) y2⟩
end
section
variable {P : Program} {w : World} {K : PySem.W.Frag} {mg : Str → Option Value} {α β : Type} {r : RR α} {H : Hp} {v y : V} {Q : VK} {l : List α}
theorem c_sort [Da r] [So r] [Tt r] (h : rL r H v l) (q : ∀ p H', Same H H' → H p = none → rL r H' (.ref p) (l.mergeSort (leR r)) → Q (.ref p) H') (hd : Da.dep r ≤ 70 := by decide) : rCl P w K mg (.builtin "sorted") [v] H Q := fun X L => by
  have hu := L.un
  refine ⟨_, cr_sortR (r := r) (by omega) hd, v, l, rfl, h, fun p ys hp k => q p _ (same_new (same_refl _) hp) hp ⟨p, ys, rfl, upd_same, k.mono fun _ _ z => Tt.tm (SameT.new (SameT.refl _) hp) z, ?_⟩⟩
  rw [(List.mergeSort_perm l _).length_eq]
  exact h.choose_spec.choose_spec.2.2.2
theorem mem_idx [BEq α] [LawfulBEq α] {b : α} : ∀ {l : List α}, b ∈ l → l[l.idxOf b]? = some b ∧ ∀ m z, m < l.idxOf b → l[m]? = some z → z ≠ b := by
  intro l
  induction l with
  | nil => intro h; simp at h
  | cons c l ih =>
    intro h
    rw [List.idxOf_cons]
    by_cases e : c = b
    · subst e; simp
    · have e' : (c == b) = false := beq_eq_false_iff_ne.mpr e
      rw [e']
      have hm : b ∈ l := by
        rcases List.mem_cons.mp h with q | q
        · exact absurd q.symm e
        · exact q
      obtain ⟨h1, h2⟩ := ih hm
      refine ⟨by simpa using h1, fun m z hm' hz => ?_⟩
      cases m with
      | zero => simp at hz; subst hz; exact e
      | succ m => exact h2 m z (by simpa using hm') (by simpa using hz)
theorem m_index [Da r] [BEq α] [LawfulBEq α] {b : α} (h : rL r H v l) (k : r H y b) (hm : b ∈ l) (q : Q (.int (l.idxOf b)) H) (hd : Da.dep r ≤ 60 := by decide) : rMt P w K mg "list.index" v [y] H Q := fun X L => by
  obtain ⟨h1, h2⟩ := mem_idx hm
  obtain ⟨a, xs, e, e1, k1, hl⟩ := id h
  subst e
  have hu := L.un
  refine ⟨_, mt_indexD (by omega), a, y, Da.enc r b, l.map (Da.enc r), l.idxOf b, Da.enc r b, rfl, rfl, L.kk ▸ Da.dp (r := rL r) h, L.kk ▸ Da.dp k, Da.shaped (r := rL r) h (by show Da.dep r + 1 ≤ 64; omega), Da.shaped k (by omega), by simp [h1], Da.inj.mpr rfl, fun m z hm' hz => ?_, q⟩
  rw [List.getElem?_map] at hz
  cases e2 : l[m]? with
  | none => rw [e2] at hz; cases hz
  | some c =>
    rw [e2] at hz
    cases hz
    exact Bool.eq_false_iff.mpr fun z => h2 m c hm' e2 (Da.inj.mp z)
end
section
variable {c : TT} {g : TG} {tb : TS} {tt : TT} {te tk tv : TE} {D : Ends} {σ : L2.St} {H H1 : Hp} {Q : VK} {J : It} {n : Nat} {G : Hp → Prop} {Y : Nat → Hp → V → Hp → Prop} {vs : List Nat} {α β : Type} {r : RR α} {r' : RR β} {d : Addr} {o : Obj} {kvs : List (Key × V)} {m : List (Str × α)}
abbrev dkA (R : V → α → Prop) : List (Key × V) → List (Str × α) → Prop := A2 fun (kv : Key × V) (p : Str × α) => kv.1 = .inr p.1 ∧ wok p.1 = true ∧ R kv.2 p.2
/-- over the values of a dict -/
theorem lc_V {R : V → α → Prop} [Tt r'] (f : α → Option β) (hd : H1 d = some (.frz o (.dK kvs))) (k : dkA R kvs m) (hn : m.length ≤ lim)
    (hs : ∀ x b H, b ∈ m.map Prod.snd → Same H1 H → R x b → ∀ (Yk : VK) (N : Hp → Prop), (∀ c, f b = some c → ∀ y H4, Same H H4 → r' H4 y c → Yk y H4) → (f b = none → ∀ H3, Same H H3 → N H3) →
      g x (wipe σ vs) H fun σ2 H2 => wipe σ2 vs = wipe σ vs ∧ tt σ2 H2 fun b H3 => if b = true then te σ2 H3 Yk else N H3)
    (q : ∀ D H', Same H1 H' → H1 D = none → rL r' H' (.ref D) ((m.map Prod.snd).filterMap f) → Q (.ref D) H') : lcB (Itd d o kvs) g tt te vs σ H1 Q := by
  have hx := k.len
  refine lc_w (r' := r') (L2.walk_values (d := d) (o := o) (kvs := kvs)) (fun i => (m.map Prod.snd)[i]?.bind f) (fun H' s => s _ _ hd) (by omega) ?_ fun D H' s hD z => q D H' s hD ?_
  · rintro i x H H' hi s ⟨rfl, kk, y⟩ Yk N h1 h2
    obtain ⟨b, hb, rb⟩ := k.at y
    have e : (m.map Prod.snd)[i]? = some b.2 := by simp [hb]
    rw [e] at h1 h2
    exact hs x b.2 _ (List.mem_of_getElem? e) s rb.2.2 Yk N h1 h2
  · rw [hx, show m.length = (m.map Prod.snd).length from (List.length_map _).symm, range_get] at z; exact z
/-- over the keys of a dict -/
theorem lc_K {R : V → α → Prop} [Tt r'] (f : Str × α → Option β) (hd : H1 d = some (.frz o (.dK kvs))) (k : dkA R kvs m) (hn : m.length ≤ lim)
    (hs : ∀ p x H, p ∈ m → wok p.1 = true → R x p.2 → Same H1 H → ∀ (Yk : VK) (N : Hp → Prop), (∀ c, f p = some c → ∀ y H4, Same H H4 → r' H4 y c → Yk y H4) → (f p = none → ∀ H3, Same H H3 → N H3) →
      g (.str p.1) (wipe σ vs) H fun σ2 H2 => wipe σ2 vs = wipe σ vs ∧ tt σ2 H2 fun b H3 => if b = true then te σ2 H3 Yk else N H3)
    (q : ∀ D H', Same H1 H' → H1 D = none → rL r' H' (.ref D) (m.filterMap f) → Q (.ref D) H') : lcB (Itk d o kvs) g tt te vs σ H1 Q := by
  have hx := k.len
  refine lc_w (r' := r') (L2.walk_keys (d := d) (o := o) (kvs := kvs)) (fun i => m[i]?.bind f) (fun H' s => s _ _ hd) (by omega) ?_ fun D H' s hD z => q D H' s hD ?_
  · rintro i x H H' hi s ⟨rfl, kk, v, y, rfl⟩ Yk N h1 h2
    obtain ⟨b, hb, e1, e2, e3⟩ := k.at y
    rw [hb] at h1 h2
    simp only at e1 e2 e3
    subst e1
    exact hs b v _ (List.mem_of_getElem? hb) e2 e3 s Yk N h1 h2
  · rw [hx, range_get] at z; exact z
/-- a dict is shut while it is walked -/
theorem lock_E {t : TE} {o : HO} (e : H d = some o) (mu : Mut (some o)) (h : ∀ od, t σ (upd H d (.frz od o)) fun v H' => H' d = some (.frz od o) ∧ Q v (upd H' d o)) : tLockE t σ H Q := ⟨d, o, e, mu, h⟩
/-- what stayed in the shut heap stayed in the open one -/
theorem unlock {o : HO} {od : Obj} {H' : Hp} (e : H d = some o) (s : Same (upd H d (.frz od o)) H') : Same H (upd H' d o) := fun a u z => by
  by_cases h : a = d
  · subst h; rw [upd_same, ← z, e]
  · rw [upd_ne h]; exact s a u (by rw [upd_ne h]; exact z)
theorem lock_t {o : HO} {od : Obj} (e : H d = some o) (mu : Mut (some o)) : SameT H (upd H d (.frz od o)) := fun a xs z => by
  by_cases h : a = d
  · subst h; rw [e] at z; cases z; exact mu.elim
  · rw [upd_ne h]; exact z
/-- putting into a dict from words -/
def putW {β : Type} (m : List (Str × β)) (s : Str) (b : β) : List (Str × β) := if m.any (fun p => decide (p.1 = s)) then m.map (fun p => if p.1 = s then (p.1, b) else p) else m ++ [(s, b)]
theorem putA {R : V → β → Prop} {m : List (Str × β)} {s : Str} {b : β} {v : V} (hw : wok s = true) (rv : R v b) (k : dkA R kvs m) : dkA R (putK kvs (.inr s) v) (putW m s b) := by
  have e : kvs.any (fun kv => decide (kv.1 = .inr s)) = m.any (fun p => decide (p.1 = s)) := by
    clear hw rv
    induction kvs generalizing m with
    | nil => cases m with
      | nil => rfl
      | cons _ _ => exact k.elim
    | cons kv kvs ih => cases m with
      | nil => exact k.elim
      | cons p m =>
        rw [List.any_cons, List.any_cons, ih k.2, k.1.1]
        congr 1
        exact decide_eq_decide.mpr ⟨fun e => Sum.inr.inj e, fun e => by rw [e]⟩
  unfold putK putW
  rw [e]
  by_cases h : m.any (fun p => decide (p.1 = s)) = true
  · rw [if_pos h, if_pos h]
    clear e h
    induction kvs generalizing m with
    | nil => cases m with
      | nil => trivial
      | cons _ _ => exact k.elim
    | cons kv kvs ih => cases m with
      | nil => exact k.elim
      | cons p m =>
        refine ⟨?_, ih k.2⟩
        obtain ⟨k1, k2, k3⟩ := k.1
        show (if kv.1 = .inr s then (kv.1, v) else kv).1 = .inr (if p.1 = s then (p.1, b) else p).1 ∧ wok (if p.1 = s then (p.1, b) else p).1 = true ∧ R (if kv.1 = .inr s then (kv.1, v) else kv).2 (if p.1 = s then (p.1, b) else p).2
        by_cases h : p.1 = s
        · rw [if_pos (show kv.1 = .inr s by rw [k1, h]), if_pos h]
          exact ⟨k1, k2, rv⟩
        · rw [if_neg (show ¬ kv.1 = .inr s by rw [k1]; exact fun e => h (Sum.inr.inj e)), if_neg h]
          exact ⟨k1, k2, k3⟩
  · rw [if_neg h, if_neg h]
    exact k.app (.one ⟨rfl, hw, rv⟩)
theorem putW_len {β : Type} {m : List (Str × β)} {s : Str} {b : β} : (putW m s b).length ≤ m.length + 1 := by
  unfold putW
  split <;> simp
theorem putW_keys {β : Type} {m : List (Str × β)} {s : Str} {b : β} : (putW m s b).map Prod.fst = if s ∈ m.map Prod.fst then m.map Prod.fst else m.map Prod.fst ++ [s] := by
  unfold putW
  by_cases h : m.any (fun p => decide (p.1 = s)) = true
  · rw [if_pos h, if_pos]
    · rw [List.map_map]
      congr 1
      funext p
      simp only [Function.comp]
      split <;> rfl
    · obtain ⟨p, h1, h2⟩ := List.any_eq_true.mp h
      exact List.mem_map.mpr ⟨p, h1, of_decide_eq_true h2⟩
  · rw [if_neg h, if_neg]
    · simp
    · intro hm
      obtain ⟨p, h1, h2⟩ := List.mem_map.mp hm
      exact h (List.any_eq_true.mpr ⟨p, h1, decide_eq_true h2⟩)
theorem putW_nd {β : Type} {m : List (Str × β)} {s : Str} {b : β} (h : (m.map Prod.fst).Nodup) : ((putW m s b).map Prod.fst).Nodup := by
  rw [putW_keys]
  split
  · exact h
  · rename_i hn
    rw [List.nodup_append]
    refine ⟨h, by simp, fun a ha b hb => ?_⟩
    simp at hb
    subst hb
    intro e
    subst e
    exact hn ha
def fromW {β : Type} (l : List (Str × β)) : List (Str × β) := l.foldl (fun m p => putW m p.1 p.2) []
theorem fromW_len {β : Type} (l : List (Str × β)) : ∀ m : List (Str × β), (l.foldl (fun m p => putW m p.1 p.2) m).length ≤ m.length + l.length := by
  induction l with
  | nil => intro m; simp
  | cons p l ih =>
    intro m
    have h1 := ih (putW m p.1 p.2)
    have h2 := putW_len (m := m) (s := p.1) (b := p.2)
    simp only [List.foldl_cons, List.length_cons] at h1 ⊢
    omega
/-- a comprehension of a dict from words, by a walk -/
theorem dc_w [Tt r'] (wk : Walk J n G Y) (f : Nat → Option (Str × β)) (hG : ∀ H', Same H1 H' → G H') (hn : n ≤ lim)
    (hs : ∀ i x H H', i < n → Same H1 H → Y i H x H' → ∀ (Yk : V → V → Hp → Prop) (N : Hp → Prop), (∀ b, f i = some b → wok b.1 = true → ∀ z H4, Same H H4 → r' H4 z b.2 → Yk (.str b.1) z H4) → (f i = none → ∀ H3, Same H H3 → N H3) →
      g x (wipe σ vs) H' fun σ2 H2 => wipe σ2 vs = wipe σ vs ∧ tt σ2 H2 fun b H3 => if b = true then tk σ2 H3 fun y H4 => tv σ2 H4 fun z H5 => Yk y z H5 else N H3)
    (q : ∀ D H', Same H1 H' → H1 D = none → rD r' H' (.ref D) (fromW ((List.range n).filterMap f)) → Q (.ref D) H') : dcB J g tt tk tv vs σ H1 Q := by
  intro D hD
  have len : ∀ i, (fromW ((List.range i).filterMap f)).length ≤ i := fun i => by
    have h1 := List.length_filterMap_le f (List.range i)
    have h2 := fromW_len ((List.range i).filterMap f) []
    simp at h1 h2
    unfold fromW
    omega
  have step : ∀ i, (fromW ((List.range (i + 1)).filterMap f)) = match f i with
      | none => fromW ((List.range i).filterMap f)
      | some b => putW (fromW ((List.range i).filterMap f)) b.1 b.2 := by
    intro i
    unfold fromW
    rw [List.range_succ, List.filterMap_append, List.foldl_append]
    cases e : f i <;> simp [e]
  refine ⟨fun i m H => m = n - i ∧ i ≤ n ∧ Same H1 H ∧ ((fromW ((List.range i).filterMap f)).map Prod.fst).Nodup ∧ ∃ acc, H D = some (.dK acc) ∧ dkA (r' H) acc (fromW ((List.range i).filterMap f)), ⟨n, by simp, Nat.zero_le _, same_new (same_refl _) hD, by simp [fromW], [], upd_same, by simp [A2, fromW]⟩, ?_⟩
  rintro i m H ⟨rfl, hi, p, nd, acc, e, k⟩
  by_cases hlt : i < n
  · refine .inr ⟨wk.goes i H hlt (hG H p), fun H' => i + 1 ≤ n ∧ Same H1 H' ∧ ((fromW ((List.range (i + 1)).filterMap f)).map Prod.fst).Nodup ∧ ∃ acc, H' D = some (.dK acc) ∧ dkA (r' H') acc (fromW ((List.range (i + 1)).filterMap f)), fun H' z => ⟨n - (i + 1), by omega, rfl, z⟩, fun x H' y => ?_⟩
    refine hs i x H H' hlt p (wk.yields i H x H' hlt (hG H p) y) (fun y z H5 => ∃ kvs k, y = kV k ∧ H5 D = some (.dK kvs) ∧ kvs.length < sizeLine ∧ _) _ (fun b eb wb z H4 s4 rz => ?_) fun en H3 s3 => ?_
    · refine ⟨acc, .inr b.1, rfl, s4 _ _ e, ?_, hlt, same_put (p.trans s4) hD, ?_, _, upd_same, ?_⟩
      · have h1 := k.len
        have h2 := len i
        have h3 : lim < sizeLine := by decide
        omega
      · rw [step, eb]; exact putW_nd nd
      · have t4 : SameT H4 (upd H4 D (.dK (putK acc (.inr b.1) z))) := SameT.upd (SameT.refl _) (s4 _ _ e) nofun
        rw [step, eb]
        exact putA wb (Tt.tm t4 rz) (k.mono fun _ _ q => ⟨q.1, q.2.1, Tt.tm ((same_t s4).trans t4) q.2.2⟩)
    · refine ⟨hlt, p.trans s3, ?_, acc, s3 _ _ e, ?_⟩
      · rw [step, en]; exact nd
      · rw [step, en]; exact k.mono fun _ _ q => ⟨q.1, q.2.1, Tt.tm (same_t s3) q.2.2⟩
  · have ei : i = n := by omega
    subst ei
    refine .inl ⟨wk.stops H (hG H p), q D H p hD ⟨D, acc, rfl, e, k, nd, Nat.le_trans (len i) hn⟩⟩
theorem dc_L [Mo r] [Tt r'] {a : Addr} {l : List α} {K : PySem.W.Frag} (f : α → Option (Str × β)) (h : rL r H1 (.ref a) l)
    (hs : ∀ x b H, b ∈ l → Same H1 H → r H x b → ∀ (Yk : V → V → Hp → Prop) (N : Hp → Prop), (∀ c, f b = some c → wok c.1 = true → ∀ z H4, Same H H4 → r' H4 z c.2 → Yk (.str c.1) z H4) → (f b = none → ∀ H3, Same H H3 → N H3) →
      g x (wipe σ vs) H fun σ2 H2 => wipe σ2 vs = wipe σ vs ∧ tt σ2 H2 fun b H3 => if b = true then tk σ2 H3 fun y H4 => tv σ2 H4 fun z H5 => Yk y z H5 else N H3)
    (q : ∀ D H', Same H1 H' → H1 D = none → rD r' H' (.ref D) (fromW (l.filterMap f)) → Q (.ref D) H') : dcB (Itl K a) g tt tk tv vs σ H1 Q := by
  obtain ⟨a0, xs, e, e1, k, hl⟩ := h
  cases e
  have hx := k.len
  refine dc_w (r' := r') (L2.walk_list (K := K) (a := a) (xs := xs)) (fun i => l[i]?.bind f) (fun H' s => .inl (.inl (s _ _ e1))) (by omega) ?_ fun D H' s hD z => q D H' s hD ?_
  · rintro i x H H' hi s ⟨rfl, y⟩ Yk N h1 h2
    obtain ⟨b, hb, rb⟩ := k.at y
    rw [hb] at h1 h2
    exact hs x b _ (List.mem_of_getElem? hb) s (Mo.mo s rb) Yk N h1 h2
  · rw [hx, range_get] at z; exact z
theorem dc_T [Mo r] [Tt r'] {a : Addr} {l : List α} {K : PySem.W.Frag} (f : α → Option (Str × β)) (h : rT r H1 (.ref a) l)
    (hs : ∀ x b H, b ∈ l → Same H1 H → r H x b → ∀ (Yk : V → V → Hp → Prop) (N : Hp → Prop), (∀ c, f b = some c → wok c.1 = true → ∀ z H4, Same H H4 → r' H4 z c.2 → Yk (.str c.1) z H4) → (f b = none → ∀ H3, Same H H3 → N H3) →
      g x (wipe σ vs) H fun σ2 H2 => wipe σ2 vs = wipe σ vs ∧ tt σ2 H2 fun b H3 => if b = true then tk σ2 H3 fun y H4 => tv σ2 H4 fun z H5 => Yk y z H5 else N H3)
    (q : ∀ D H', Same H1 H' → H1 D = none → rD r' H' (.ref D) (fromW (l.filterMap f)) → Q (.ref D) H') : dcB (Itt K a) g tt tk tv vs σ H1 Q := by
  obtain ⟨a0, xs, e, e1, k, hl⟩ := h
  cases e
  have hx := k.len
  refine dc_w (r' := r') (L2.walk_tup (K := K) (a := a) (xs := xs)) (fun i => l[i]?.bind f) (fun H' s => .inl (.inl (s _ _ e1))) (by omega) ?_ fun D H' s hD z => q D H' s hD ?_
  · rintro i x H H' hi s ⟨rfl, y⟩ Yk N h1 h2
    obtain ⟨b, hb, rb⟩ := k.at y
    rw [hb] at h1 h2
    exact hs x b _ (List.mem_of_getElem? hb) s (Mo.mo s rb) Yk N h1 h2
  · rw [hx, range_get] at z; exact z
end
section
variable {P : Program} {w : World} {K : PySem.W.Frag} {mg : Str → Option Value} {base : Heap} {x qual : Str} {st : Stmt} {f : Addr} {N ps : List Str} {k : Nat} {sp : Sp} {kws : List (Str × V)} {dvs : List V}
/-- a def whose last parameter has a default -/
theorem cl1_of (n : Nat) (F : ∃ fd, FunD K x qual (defArgs st) (defBody st) (defScope st) dvs kws f fd) (hd : dvs.length = 1) (hn : n + 1 = ps.length) (sc : FnScope N ps (defScope st)) (hl : ∀ (vs : List V) (H : Hp) (Q : VK) (E : XK), sp vs H Q E → vs.length = ps.length) (hm : mg x = some (.ref f))
    (hb : ∀ (T : Addr) (kV doc pm : Value) (an : Option Addr) (cdv ct : Value) (us its : List Value), us.length = n → its.length = 1 →
      ∃ k, bindArgs (PySem.W.fnOf x qual (defArgs st) (defBody st) (defScope st) (.ref T) kV doc pm an cdv ct) ⟨us, []⟩ = seqItems? (.ref T) >>= k ∧ k (some its.toArray) = pure (ps.zip (us ++ its)))
    (h : ∀ (cdv : Value) (A : Around) (outer : List Env) (s : Shared) (H : Hp) (vs : List V) (Q : VK) (E : XK), Room k (A.deeper (envOfC qual (defScope st) s.heap.objs.size f cdv)) → sp vs H Q E →
      ∃ t, PSs (cxOf CX0 P w K mg base N qual (defScope st) f cdv A outer s H E).nox (defBody st) t ∧ t { nx := fun _ H' => Q .non H', rt := Q } (L2.start N vs) H) : Cl P w K mg base (k + 1) x sp dvs := by
  obtain ⟨fd, F⟩ := F
  have ne : dvs ≠ [] := by intro e; rw [e] at hd; cases hd
  obtain ⟨ds, d1, d2⟩ := F.binds1 (ps := ps) n 0 ne (by omega) fun T kV doc pm an cdv ct us its h1 h2 => hb T kV doc pm an cdv ct us its h1 (h2.trans hd)
  exact ⟨f, fd, ps, ds, F.ok sc hl fun cdv A outer s H vs Q E hr hs => let ⟨t, a, b⟩ := h cdv A outer s H vs Q E hr hs; ⟨t, a.nox, b⟩, hm, F.kp, d2, d1⟩
end
end Nb

/-! part M0 -/
set_option Elab.async false
set_option linter.all false
set_option maxRecDepth 100000
set_option maxHeartbeats 4000000
/-! Plain: the order of words, machines, states behind rows of deeds. -/
namespace Nb
open PySem PySem.Spec PyProof.Rows L2
/-! ### words in order -/
def leS (a b : Str) : Bool := decide (a.cps.toList ≤ b.cps.toList)
theorem leR_rS : leR rS = leS := PySem.W.dataLe_str (fun b : Str => b)
theorem leS_trans (a b c : Str) (h : leS a b = true) (k : leS b c = true) : leS a c = true := decide_eq_true (List.le_trans (of_decide_eq_true h) (of_decide_eq_true k))
theorem leS_total (a b : Str) : (leS a b || leS b a) = true := by
  rcases List.le_total a.cps.toList b.cps.toList with h | h
  · simp [leS, h]
  · simp [leS, h]
theorem leS_anti {a b : Str} (h : leS a b = true) (k : leS b a = true) : a = b := by
  have e := List.le_antisymm (of_decide_eq_true h) (of_decide_eq_true k)
  cases a; cases b
  simp at e
  rw [e]
/-- words in order -/
def srt (l : List Str) : List Str := l.mergeSort leS
theorem srt_perm (l : List Str) : (srt l).Perm l := List.mergeSort_perm l _
theorem srt_mem {l : List Str} {a : Str} : a ∈ srt l ↔ a ∈ l := (srt_perm l).mem_iff
theorem srt_pw (l : List Str) : (srt l).Pairwise fun a b => leS a b = true := List.pairwise_mergeSort leS_trans leS_total l
theorem srt_len (l : List Str) : (srt l).length = l.length := (srt_perm l).length_eq
theorem srt_of {ys ks : List Str} (p : ys.Perm ks) (h : ys.Pairwise fun a b => leS a b = true) : ys = srt ks :=
  List.Perm.eq_of_pairwise (le := fun a b => leS a b = true) (fun _ _ _ _ h k => leS_anti h k) h (srt_pw ks) (p.trans (srt_perm ks).symm)
theorem srt_congr {ys ks : List Str} (p : ys.Perm ks) : srt ys = srt ks := srt_of ((srt_perm ys).trans p) (srt_pw ys)
theorem srt_srt (l : List Str) : srt (srt l) = srt l := srt_congr (srt_perm l)
theorem not_ltC {a b : Str} : (!ltCps b.cps.toList a.cps.toList) = leS a b := by
  rw [PyProof.Rows.ltCps_eq]
  exact PySem.W.not_lt_str _ _
theorem rising_pw : ∀ (l : List Str) (p : Str), risingS p l = true → (p :: l).Pairwise fun a b => leS a b = true
  | [], p, _ => by simp
  | x :: l, p, h => by
    rw [risingS, Bool.and_eq_true, not_ltC] at h
    have k := rising_pw l x h.2
    refine List.pairwise_cons.mpr ⟨fun b hb => ?_, k⟩
    rcases List.mem_cons.mp hb with rfl | hb
    · exact h.1
    · exact leS_trans _ _ _ h.1 ((List.pairwise_cons.mp k).1 b hb)
theorem sortedS_pw : ∀ {l : List Str}, sortedS l = true → l.Pairwise fun a b => leS a b = true
  | [], _ => .nil
  | x :: l, h => rising_pw l x h
theorem srt_eq {ys ks : List Str} (p : ys.Perm ks) (h : sortedS ys = true) : ys = srt ks := srt_of p (sortedS_pw h)
section
variable {P : Program} {w : World} {K : PySem.W.Frag} {mg : Str → Option Value} {α β : Type} {r : RR α} {H : Hp} {v y : V} {Q : VK}
theorem c_sortS {l : List Str} (h : rL rS H v l) (q : ∀ p H', Same H H' → H p = none → rL rS H' (.ref p) (srt l) → Q (.ref p) H') : rCl P w K mg (.builtin "sorted") [v] H Q :=
  c_sort (r := rS) h fun p H' s hp k => q p H' s hp (by rw [leR_rS] at k; exact k)
theorem dkA_keys {R : V → α → Prop} : ∀ {kvs : List (Key × V)} {m : List (Str × α)}, dkA R kvs m → kvs.map (fun x => x.1) = (m.map Prod.fst).map Sum.inr ∧ ∀ s ∈ m.map Prod.fst, wok s = true
  | [], [], _ => ⟨rfl, by simp⟩
  | kv :: kvs, p :: m, h => by
    obtain ⟨h1, h2⟩ := dkA_keys h.2
    refine ⟨by rw [List.map_cons, h1, h.1.1]; rfl, fun s hs => ?_⟩
    rcases List.mem_cons.mp hs with rfl | hs
    · exact h.1.2.1
    · exact h2 s hs
  | [], _ :: _, h => h.elim
  | _ :: _, [], h => h.elim
theorem A2_strs {H : Hp} : ∀ {l : List Str}, (∀ s ∈ l, wok s = true) → A2 (rS H) (l.map V.str) l
  | [], _ => trivial
  | s :: l, h => ⟨⟨rfl, h s List.mem_cons_self⟩, A2_strs fun a ha => h a (List.mem_cons_of_mem _ ha)⟩
/-- sorted of a dict from words -/
theorem c_sortD {m : List (Str × α)} (h : rD r H v m) (hn : m.length < 64) (q : ∀ p H', Same H H' → H p = none → rL rS H' (.ref p) (srt (m.map Prod.fst)) → Q (.ref p) H') : rCl P w K mg (.builtin "sorted") [v] H Q := fun X L => by
  obtain ⟨d, kvs, rfl, e, k, nd, hl⟩ := h
  obtain ⟨h1, h2⟩ := dkA_keys k
  refine ⟨_, call_sortedD L.calm, d, kvs, m.map Prod.fst, rfl, .inl e, h1, by simpa using hn, fun ys p hp hs hf => ?_⟩
  have ey := srt_eq hp hs
  subst ey
  refine q p _ (same_new (same_refl _) hf) hf ⟨p, _, rfl, upd_same, A2_strs fun s hs => h2 s (srt_mem.mp hs), ?_⟩
  rw [srt_len, List.length_map]; exact hl
/-- a list or a tuple of it -/
theorem c_tupRL [Mo r] [Tt r] {l : List α} (h : rL r H v l) (q : ∀ p H', Same H H' → H p = none → rT r H' (.ref p) l → Q (.ref p) H') : rCl P w K mg (.type "tuple") [v] H Q := by
  obtain ⟨a, xs, rfl, e, k, hl⟩ := h
  exact c_tupL (.inl (.inl e)) fun p hp => q p _ (same_new (same_refl _) hp) hp ⟨p, xs, rfl, upd_same, k.mono fun _ _ z => Tt.tm (SameT.new (SameT.refl _) hp) z, hl⟩
theorem c_listRL [Tt r] {l : List α} (h : rL r H v l) (q : ∀ p H', Same H H' → H p = none → rL r H' (.ref p) l → Q (.ref p) H') : rCl P w K mg (.type "list") [v] H Q := by
  obtain ⟨a, xs, rfl, e, k, hl⟩ := h
  exact c_listL (.inl (.inl e)) fun p hp => q p _ (same_new (same_refl _) hp) hp ⟨p, xs, rfl, upd_same, k.mono fun _ _ z => Tt.tm (SameT.new (SameT.refl _) hp) z, hl⟩
theorem c_listRT [Tt r] {l : List α} (h : rT r H v l) (q : ∀ p H', Same H H' → H p = none → rL r H' (.ref p) l → Q (.ref p) H') : rCl P w K mg (.type "list") [v] H Q := by
  obtain ⟨a, xs, rfl, e, k, hl⟩ := h
  exact c_listT (.inl (.inl e)) fun p hp => q p _ (same_new (same_refl _) hp) hp ⟨p, xs, rfl, upd_same, k.mono fun _ _ z => Tt.tm (SameT.new (SameT.refl _) hp) z, hl⟩
end
/-! ### machines -/
def itr {α : Type} (f : α → α) : Nat → α → α
  | 0, x => x
  | n + 1, x => f (itr f n x)
def gi (l : List Int) (i : Int) : Int := l.getD i.toNat 0
theorem gi_at {l : List Int} {i : Int} {n : Nat} (h0 : 0 ≤ i) (h1 : i < n) (hn : l.length = n) : l[i.toNat]? = some (gi l i) := by
  have h : i.toNat < l.length := by omega
  unfold gi
  rw [List.getD_eq_getElem?_getD, List.getElem?_eq_getElem h]; rfl
theorem gi_mem {l : List Int} {i : Int} (h0 : 0 ≤ i) (h1 : i < l.length) : gi l i ∈ l := List.mem_of_getElem? (gi_at h0 h1 rfl)
/-- what may be shown in the states, what may be a map -/
def okInts (n : Int) (l : List Int) : Prop := ∀ x ∈ l, 0 ≤ x ∧ x ≤ n
def crow (ds : List (List Int)) (f : List Int) (s : Nat) : List Int := gi f s :: ds.map fun l => gi f (gi l s)
def cstep (n : Nat) (ds : List (List Int)) (f : List Int) : List Int := ((List.range n).map (crow ds f)).map fun r => (((List.range n).map (crow ds f)).idxOf r : Int)
/-- the classes of states, turn by turn -/
def classes (seen : List Int) (ds : List (List Int)) : List Int := itr (cstep seen.length ds) seen.length seen
theorem cstep_len {n : Nat} {ds : List (List Int)} {f : List Int} : (cstep n ds f).length = n := by simp [cstep]
theorem itr_len {n : Nat} {ds : List (List Int)} {f : List Int} (h : f.length = n) : ∀ k, (itr (cstep n ds) k f).length = n
  | 0 => h
  | k + 1 => cstep_len
structure Mach where
  seen : List Int
  deeds : List (Str × List Int)
  img : List Int
abbrev okDeeds (n : Nat) (m : List (Str × List Int)) : Prop := ∀ p ∈ m, p.2.length = n ∧ okInts (n - 1) p.2
structure OkM (M : Mach) : Prop where
  lo : 2 ≤ M.seen.length
  hi : M.seen.length ≤ 5
  sh : okInts 9 M.seen
  d1 : 1 ≤ M.deeds.length
  d4 : M.deeds.length ≤ 4
  ok : okDeeds M.seen.length M.deeds
  im : M.img = classes M.seen (M.deeds.map Prod.snd)
  st : (M.deeds.map Prod.fst).Pairwise fun a b => leS a b = true
  nd : (M.deeds.map Prod.fst).Nodup
def rM (K : PySem.W.Frag) : RR Mach := fun H v M => (∃ a dx s d g, v = .ref a ∧ H a = some (.ins (He.ga K "Machine") dx [("own_seen", s), ("own_deeds", d), ("own_images", g)]) ∧ rT rI H s M.seen ∧ rD (rT rI) H d M.deeds ∧ rT rI H g M.img) ∧ OkM M
instance {K : PySem.W.Frag} : Mo (rM K) := ⟨fun h ⟨⟨a, dx, s, d, g, e, e1, e2, e3, e4⟩, ok⟩ => ⟨⟨a, dx, s, d, g, e, h _ _ e1, Mo.mo h e2, Mo.mo h e3, Mo.mo h e4⟩, ok⟩⟩
/-- the state behind a deed; behind a row -/
def step1 (m : List (Str × List Int)) (s : Int) (a : Str) : Int := gi ((m.lookup a).getD []) s
def runM (m : List (Str × List Int)) (s : Int) (l : List Str) : Int := l.foldl (step1 m) s
theorem lookup_mem {α : Type} {m : List (Str × α)} {a : Str} {l : α} (h : m.lookup a = some l) : (a, l) ∈ m := by
  induction m with
  | nil => simp at h
  | cons p m ih =>
    obtain ⟨k, v⟩ := p
    rw [List.lookup_cons] at h
    by_cases e : a = k
    · subst e; simp at h; subst h; simp
    · rw [show (a == k) = false from beq_eq_false_iff_ne.mpr e] at h
      exact List.mem_cons_of_mem _ (ih h)
theorem lookup_of_key {α : Type} {m : List (Str × α)} {a : Str} (h : a ∈ m.map Prod.fst) : ∃ l, m.lookup a = some l := by
  induction m with
  | nil => simp at h
  | cons p m ih =>
    obtain ⟨k, v⟩ := p
    rw [List.lookup_cons]
    by_cases e : a = k
    · subst e; simp
    · rw [show (a == k) = false from beq_eq_false_iff_ne.mpr e]
      rcases List.mem_cons.mp h with q | q
      · exact absurd q e
      · exact ih q
abbrev inN (n : Nat) (s : Int) : Prop := 0 ≤ s ∧ s < n
theorem step1_ok {n : Nat} {m : List (Str × List Int)} (ok : okDeeds n m) {a : Str} (ha : a ∈ m.map Prod.fst) {s : Int} (hs : inN n s) : inN n (step1 m s a) := by
  obtain ⟨l, e⟩ := lookup_of_key ha
  obtain ⟨h1, h2⟩ := ok _ (lookup_mem e)
  unfold step1
  rw [e]
  have h3 := h2 _ (gi_mem hs.1 (by simpa [h1] using hs.2))
  exact ⟨h3.1, by have := h3.2; simp at this ⊢; omega⟩
theorem runM_ok {n : Nat} {m : List (Str × List Int)} (ok : okDeeds n m) : ∀ {l : List Str}, (∀ a ∈ l, a ∈ m.map Prod.fst) → ∀ {s : Int}, inN n s → inN n (runM m s l)
  | [], _, _, hs => hs
  | a :: l, h, s, hs => runM_ok ok (l := l) (fun b hb => h b (List.mem_cons_of_mem _ hb)) (step1_ok ok (h a List.mem_cons_self) hs)
theorem putW_new {β : Type} {m : List (Str × β)} {s : Str} {b : β} (h : s ∉ m.map Prod.fst) : putW m s b = m ++ [(s, b)] := by
  unfold putW
  rw [if_neg]
  intro hm
  obtain ⟨p, h1, h2⟩ := List.any_eq_true.mp hm
  exact h (List.mem_map.mpr ⟨p, h1, of_decide_eq_true h2⟩)
theorem fromW_acc {β : Type} : ∀ (l m : List (Str × β)), ((m ++ l).map Prod.fst).Nodup → l.foldl (fun m p => putW m p.1 p.2) m = m ++ l
  | [], m, _ => by simp
  | p :: l, m, h => by
    have hp : p.1 ∉ m.map Prod.fst := by
      intro hm
      rw [List.map_append, List.nodup_append] at h
      exact h.2.2 _ hm p.1 (by simp) rfl
    rw [List.foldl_cons, putW_new hp, fromW_acc l (m ++ [p]) (by simpa using h)]
    simp
theorem fromW_nd {β : Type} {l : List (Str × β)} (h : (l.map Prod.fst).Nodup) : fromW l = l := by
  have := fromW_acc l [] (by simpa using h)
  simpa [fromW] using this
def ordD (rows : List (Str × List Int)) : List (Str × List Int) := (srt (rows.map Prod.fst)).map fun nm => (nm, (rows.lookup nm).getD [])
def mkM (s : List Int) (rows : List (Str × List Int)) : Mach := ⟨s, ordD rows, classes s ((ordD rows).map Prod.snd)⟩
theorem ordD_keys {rows : List (Str × List Int)} : (ordD rows).map Prod.fst = srt (rows.map Prod.fst) := by
  unfold ordD
  rw [List.map_map]
  conv => rhs; rw [← List.map_id (srt (rows.map Prod.fst))]
  rfl
theorem ordD_nd {rows : List (Str × List Int)} (h : (rows.map Prod.fst).Nodup) : ((ordD rows).map Prod.fst).Nodup := by
  rw [ordD_keys]; exact (srt_perm _).nodup_iff.mpr h
theorem mkM_ok {s : List Int} {rows : List (Str × List Int)} (lo : 2 ≤ s.length) (hi : s.length ≤ 5) (sh : okInts 9 s) (d1 : 1 ≤ rows.length) (d4 : rows.length ≤ 4) (ok : okDeeds s.length rows) (nd : (rows.map Prod.fst).Nodup) : OkM (mkM s rows) := by
  have hl : (ordD rows).length = rows.length := by unfold ordD; rw [List.length_map, srt_len, List.length_map]
  refine ⟨lo, hi, sh, by show 1 ≤ (ordD rows).length; omega, by show (ordD rows).length ≤ 4; omega, ?_, rfl, ?_, ordD_nd nd⟩
  · intro p hp
    obtain ⟨nm, hn, rfl⟩ := List.mem_map.mp hp
    obtain ⟨l, hlk⟩ := lookup_of_key (srt_mem.mp hn)
    show ((rows.lookup nm).getD []).length = _ ∧ okInts _ ((rows.lookup nm).getD [])
    rw [hlk]
    exact ok _ (lookup_mem hlk)
  · show ((ordD rows).map Prod.fst).Pairwise _
    rw [ordD_keys]; exact srt_pw _
end Nb

/-! part F0 -/
set_option Elab.async false
set_option linter.all false
set_option maxRecDepth 100000
set_option maxHeartbeats 4000000
/-! Facts of the classes. -/
namespace Nb
open PySem PySem.Spec PyProof.Rows L2
section
variable {P : Program} {w : World} {K : PySem.W.Frag} {mg : Str → Option Value}
theorem Tx.cl_Machine (T : Tx P w K mg) : Cls K (He.ga K "Machine") := He.cls_ok (T.c.fact 130 rfl)
theorem Tx.cl_State (T : Tx P w K mg) : Cls K (He.ga K "State") := He.cls_ok (T.c.fact 132 rfl)
theorem Tx.cl_Begun (T : Tx P w K mg) : Cls K (He.ga K "Begun") := He.cls_ok (T.c.fact 134 rfl)
theorem Tx.cl_Live (T : Tx P w K mg) : Cls K (He.ga K "Live") := He.cls_ok (T.c.fact 136 rfl)
theorem Tx.na_Machine_own_seen (T : Tx P w K mg) : NoAttr K (He.ga K "Machine") "own_seen" := He.noat_ok (T.c.fact 138 rfl)
theorem Tx.na_Machine_own_deeds (T : Tx P w K mg) : NoAttr K (He.ga K "Machine") "own_deeds" := He.noat_ok (T.c.fact 139 rfl)
theorem Tx.na_Machine_own_images (T : Tx P w K mg) : NoAttr K (He.ga K "Machine") "own_images" := He.noat_ok (T.c.fact 140 rfl)
theorem Tx.na_State_s_entries (T : Tx P w K mg) : NoAttr K (He.ga K "State") "s_entries" := He.noat_ok (T.c.fact 141 rfl)
theorem Tx.na_State_s_few (T : Tx P w K mg) : NoAttr K (He.ga K "State") "s_few" := He.noat_ok (T.c.fact 142 rfl)
theorem Tx.na_Begun_had_steps (T : Tx P w K mg) : NoAttr K (He.ga K "Begun") "had_steps" := He.noat_ok (T.c.fact 143 rfl)
theorem Tx.na_Begun_around (T : Tx P w K mg) : NoAttr K (He.ga K "Begun") "around" := He.noat_ok (T.c.fact 144 rfl)
theorem Tx.na_Live_own_machine (T : Tx P w K mg) : NoAttr K (He.ga K "Live") "own_machine" := He.noat_ok (T.c.fact 145 rfl)
theorem Tx.na_Live_own_few (T : Tx P w K mg) : NoAttr K (He.ga K "Live") "own_few" := He.noat_ok (T.c.fact 146 rfl)
theorem Tx.na_Live_steps (T : Tx P w K mg) : NoAttr K (He.ga K "Live") "steps" := He.noat_ok (T.c.fact 147 rfl)
theorem Tx.na_Live_begun (T : Tx P w K mg) : NoAttr K (He.ga K "Live") "begun" := He.noat_ok (T.c.fact 148 rfl)
theorem Tx.insM (T : Tx P w K mg) : C8.InsC K (He.ga K "Machine") := insB_ok T.cl_Machine (exB_ins T.ex)
theorem Tx.more (T : Tx P w K mg) : moreB K = true := (He.ba T.ex).2
theorem Tx.two (T : Tx P w K mg) : He.ga K "matter_matter" = He.ga K "matter" := of_decide_eq_true (He.ba T.more).1
theorem Tx.excN (T : Tx P w K mg) : ExcC K (He.ga K "NothingDone") := excB_ok (He.ba (He.ba T.more).2).1
theorem Tx.ne_M (T : Tx P w K mg) : PySem.W.findIn K (.ref (He.ga K "Machine")) "__ne__" = some (some (.builtin "object.__ne__")) := He.eqO_ok (He.ba (He.ba T.more).2).2
end
end Nb

/-! part M1 -/
set_option Elab.async false
set_option linter.all false
set_option maxRecDepth 100000
set_option maxHeartbeats 4000000
/-! Plain: logs. -/
namespace Nb
open PySem PySem.Spec PyProof.Rows L2
abbrev Entry := Option Str × Str
abbrev rE : RR Entry := rP rO rS
/-- each once, the first place kept -/
def dd (l : List Str) : List Str := l.foldl (fun m s => if s ∈ m then m else m ++ [s]) []
theorem fromW_keys {β : Type} : ∀ (l m : List (Str × β)), (l.foldl (fun m p => putW m p.1 p.2) m).map Prod.fst = (l.map Prod.fst).foldl (fun m s => if s ∈ m then m else m ++ [s]) (m.map Prod.fst)
  | [], m => rfl
  | p :: l, m => by
    rw [List.foldl_cons, fromW_keys l, putW_keys, List.map_cons, List.foldl_cons]
theorem fromW_dd {β : Type} (l : List (Str × β)) : (fromW l).map Prod.fst = dd (l.map Prod.fst) := fromW_keys l []
theorem dd_nd_acc : ∀ (l m : List Str), m.Nodup → (l.foldl (fun m s => if s ∈ m then m else m ++ [s]) m).Nodup
  | [], m, h => h
  | s :: l, m, h => by
    rw [List.foldl_cons]
    refine dd_nd_acc l _ ?_
    split
    · exact h
    · rename_i hn
      rw [List.nodup_append]
      exact ⟨h, by simp, fun a ha b hb e => by simp at hb; subst hb; subst e; exact hn ha⟩
theorem dd_nd (l : List Str) : (dd l).Nodup := dd_nd_acc l [] .nil
theorem dd_mem_acc {a : Str} : ∀ (l m : List Str), a ∈ (l.foldl (fun m s => if s ∈ m then m else m ++ [s]) m) ↔ a ∈ m ∨ a ∈ l
  | [], m => by simp
  | s :: l, m => by
    rw [List.foldl_cons, dd_mem_acc l]
    split
    · rename_i h
      constructor
      · rintro (h1 | h1)
        · exact .inl h1
        · exact .inr (List.mem_cons_of_mem _ h1)
      · rintro (h1 | h1)
        · exact .inl h1
        · rcases List.mem_cons.mp h1 with rfl | h1
          · exact .inl h
          · exact .inr h1
    · simp [or_assoc]
theorem dd_mem {a : Str} {l : List Str} : a ∈ dd l ↔ a ∈ l := by
  unfold dd; rw [dd_mem_acc]; simp
theorem dd_id {l : List Str} (h : l.Nodup) : dd l = l := by
  have e := fromW_dd (l.map fun s => (s, ()))
  have hm : ((l.map fun s => (s, ())).map Prod.fst) = l := by rw [List.map_map]; exact List.map_id l
  rw [fromW_nd (by rw [hm]; exact h), hm] at e
  exact e.symm
theorem nd_perm {a b : List Str} (ha : a.Nodup) (hb : b.Nodup) (h : ∀ x, x ∈ a ↔ x ∈ b) : a.Perm b := (List.perm_ext_iff_of_nodup ha hb).mpr h
/-- the people who have entries, ascending -/
def whos (rows : List Entry) : List Str := rows.filterMap Prod.fst
def folk (rows : List Entry) : List Str := srt (dd (whos rows))
theorem folk_nd (rows : List Entry) : (folk rows).Nodup := (srt_perm _).nodup_iff.mpr (dd_nd _)
theorem folk_pw (rows : List Entry) : (folk rows).Pairwise fun a b => leS a b = true := srt_pw _
theorem folk_mem {rows : List Entry} {a : Str} : a ∈ folk rows ↔ ∃ e ∈ rows, e.1 = some a := by
  unfold folk whos; rw [srt_mem, dd_mem, List.mem_filterMap]
/-- the log without a lot -/
def rest (rows : List Entry) (lot : List Str) : List Entry := rows.filter fun e => !decide (e.1 ∈ lot.map some)
def behind (m : List (Str × List Int)) (rows : List Entry) (lot : List Str) : Int := runM m 0 ((rest rows lot).map Prod.snd)
abbrev okRows (m : List (Str × List Int)) (rows : List Entry) : Prop := ∀ e ∈ rows, e.2 ∈ m.map Prod.fst
theorem rest_ok {m : List (Str × List Int)} {rows : List Entry} {lot : List Str} (h : okRows m rows) : okRows m (rest rows lot) := fun e he => h e (List.mem_filter.mp he).1
theorem behind_ok {n : Nat} {m : List (Str × List Int)} {rows : List Entry} {lot : List Str} (hn : 0 < n) (ok : okDeeds n m) (h : okRows m rows) : inN n (behind m rows lot) :=
  runM_ok ok (fun a ha => by obtain ⟨e, he, rfl⟩ := List.mem_map.mp ha; exact rest_ok h e he) ⟨by omega, by omega⟩
/-- lots -/
def lotsF (people : List Str) (few : Int) : List (List Str) := people.foldl (fun f p => f ++ (f.filter fun l => decide ((l.length : Int) < few)).map (· ++ [p])) [[]]
abbrev rL2 : RR (Int × List Str) := rP rI (rT rS)
def lotsS (f : List (List Str)) : List (List Str) := ((f.map fun l => ((l.length : Int), l)).mergeSort (leR rL2)).map Prod.snd
def lots (people : List Str) (few : Int) : List (List Str) := lotsS (lotsF (srt people) few)
theorem lotsS_mem {f : List (List Str)} {l : List Str} : l ∈ lotsS f ↔ l ∈ f := by
  unfold lotsS
  rw [List.mem_map]
  constructor
  · rintro ⟨p, h, rfl⟩
    obtain ⟨l', h', rfl⟩ := List.mem_map.mp (List.mem_mergeSort.mp h)
    exact h'
  · exact fun h => ⟨(_, l), List.mem_mergeSort.mpr (List.mem_map.mpr ⟨l, h, rfl⟩), rfl⟩
theorem lotsS_len {f : List (List Str)} : (lotsS f).length = f.length := by
  unfold lotsS
  rw [List.length_map, (List.mergeSort_perm _ _).length_eq, List.length_map]
theorem lotsF_len_acc (few : Int) : ∀ (people : List Str) (f : List (List Str)), (people.foldl (fun f p => f ++ (f.filter fun l => decide ((l.length : Int) < few)).map (· ++ [p])) f).length ≤ f.length * 2 ^ people.length
  | [], f => by simp
  | p :: people, f => by
    rw [List.foldl_cons]
    refine Nat.le_trans (lotsF_len_acc few people _) ?_
    rw [List.length_append, List.length_map, List.length_cons, Nat.pow_succ, ← Nat.mul_assoc, Nat.mul_right_comm]
    refine Nat.mul_le_mul_right _ ?_
    have := List.length_filter_le (fun l : List Str => decide ((l.length : Int) < few)) f
    omega
theorem lotsF_len (people : List Str) (few : Int) : (lotsF people few).length ≤ 2 ^ people.length := by
  have := lotsF_len_acc few people [[]]
  simpa [lotsF] using this
theorem lots_len (people : List Str) (few : Int) : (lots people few).length ≤ 2 ^ people.length := by
  unfold lots
  rw [lotsS_len]
  have := lotsF_len (srt people) few
  rw [srt_len] at this
  exact this
/-- what a lot is made of -/
theorem lotsF_acc (few : Int) : ∀ (people : List Str) (f : List (List Str)), (∀ l ∈ f, ∀ a ∈ l, a ∉ people) → (∀ l ∈ f, l.Nodup) → people.Nodup → ∀ l ∈ people.foldl (fun f p => f ++ (f.filter fun l => decide ((l.length : Int) < few)).map (· ++ [p])) f,
    l.Nodup ∧ ∃ l0 ∈ f, (∀ a ∈ l, a ∈ l0 ∨ a ∈ people) ∧ ((l.length : Int) ≤ l0.length ∨ (l.length : Int) ≤ few)
  | [], f, _, hn, _, l, hl => ⟨hn l hl, l, hl, fun a ha => .inl ha, .inl (Int.le_refl _)⟩
  | p :: people, f, hd, hn, nd, l, hl => by
    rw [List.foldl_cons] at hl
    obtain ⟨hp, nd⟩ := List.nodup_cons.mp nd
    obtain ⟨h1, l0, h2, h3, h4⟩ := lotsF_acc few people _ (fun l' hl' a ha hap => by
      rcases List.mem_append.mp hl' with h | h
      · exact hd l' h a ha (List.mem_cons_of_mem _ hap)
      · obtain ⟨l'', h', rfl⟩ := List.mem_map.mp h
        rcases List.mem_append.mp ha with ha | ha
        · exact hd l'' (List.mem_filter.mp h').1 a ha (List.mem_cons_of_mem _ hap)
        · simp at ha; subst ha; exact hp hap) (fun l' hl' => by
      rcases List.mem_append.mp hl' with h | h
      · exact hn l' h
      · obtain ⟨l'', h', rfl⟩ := List.mem_map.mp h
        have h'' := (List.mem_filter.mp h').1
        rw [List.nodup_append]
        exact ⟨hn _ h'', by simp, fun a ha b hb e => by simp at hb; subst hb; subst e; exact hd _ h'' a ha List.mem_cons_self⟩) nd l hl
    refine ⟨h1, ?_⟩
    rcases List.mem_append.mp h2 with h | h
    · exact ⟨l0, h, fun a ha => (h3 a ha).imp id (List.mem_cons_of_mem _), h4⟩
    · obtain ⟨l'', h', rfl⟩ := List.mem_map.mp h
      obtain ⟨h5, h6⟩ := List.mem_filter.mp h'
      refine ⟨l'', h5, fun a ha => ?_, ?_⟩
      · rcases h3 a ha with q | q
        · rcases List.mem_append.mp q with q | q
          · exact .inl q
          · simp at q; subst q; exact .inr List.mem_cons_self
        · exact .inr (List.mem_cons_of_mem _ q)
      · have h7 := of_decide_eq_true h6
        simp only [List.length_append, List.length_cons, List.length_nil] at h4
        omega
theorem lots_of {people : List Str} {few : Int} (hf : 0 ≤ few) (nd : people.Nodup) {l : List Str} (h : l ∈ lots people few) : l.Nodup ∧ (∀ a ∈ l, a ∈ people) ∧ (l.length : Int) ≤ few := by
  unfold lots at h
  rw [lotsS_mem] at h
  obtain ⟨h1, l0, h2, h3, h4⟩ := lotsF_acc few (srt people) [[]] (by simp) (by simp) ((srt_perm _).nodup_iff.mpr nd) l h
  simp at h2
  subst h2
  refine ⟨h1, fun a ha => srt_mem.mp ((h3 a ha).resolve_left (by simp)), ?_⟩
  simp at h4
  rcases h4 with h4 | h4
  · subst h4; simpa using hf
  · exact h4
/-! ### a list or a tuple -/
def rQ {α : Type} (r : RR α) : RR (List α) := fun H v l => rL r H v l ∨ rT r H v l
section
variable {P : Program} {w : World} {K : PySem.W.Frag} {mg : Str → Option Value} {α β : Type} {r : RR α} {r2 : RR β} {H : Hp} {v y x : V} {Q : VK} {l : List α} {R : It → Hp → Prop} {p : Addr}
instance [Mo r] : Mo (rQ r) := ⟨fun h k => k.imp (Mo.mo h) (Mo.mo h)⟩
theorem rQ_seq (h : rQ r H v l) : isSeq H v := by
  rcases h with ⟨a, xs, e, e1, _⟩ | ⟨a, xs, e, e1, _⟩
  · exact ⟨a, xs, e, .inl e1⟩
  · exact ⟨a, xs, e, .inr e1⟩
theorem c_lenQ (h : rQ r H v l) (q : Q (.int l.length) H) : rCl P w K mg (.builtin "len") [v] H Q := h.elim (fun h => c_lenRL h q) fun h => c_lenRT h q
theorem sq_Q (h : rQ r H x l) (q1 : ∀ a, x = .ref a → rL r H (.ref a) l → R (Itl K a) H) (q2 : ∀ a, x = .ref a → rT r H (.ref a) l → R (Itt K a) H) : sqB K x R H := h.elim (fun h => sq_L h q1) fun h => sq_T h q2
theorem o_notinQ {o : Option Str} {l : List Str} (h : rQ rS H y l) (q : Q (.bl (!decide (o ∈ l.map some))) H) : rOp P w K mg (compareOp .NotIn) (oV o) y H Q := h.elim (fun h => o_notinL h q) fun h => o_notinT h q
theorem rQ_bnd (h : rQ r H v l) : l.length ≤ lim := by
  rcases h with ⟨a, xs, e, e1, e2, e3⟩ | ⟨a, xs, e, e1, e2, e3⟩
  · exact e3
  · exact e3
theorem rL_bnd (h : rL r H v l) : l.length ≤ lim := rQ_bnd (.inl h)
theorem rT_bnd (h : rT r H v l) : l.length ≤ lim := rQ_bnd (.inr h)
theorem A2_all {p : α → Prop} (k : ∀ x a, r H x a → p a) {xs : List V} (h : A2 (r H) xs l) : ∀ a ∈ l, p a := A2.all k h
theorem rL_all {p : α → Prop} (h : rL r H v l) (k : ∀ x a, r H x a → p a) : ∀ a ∈ l, p a := by
  obtain ⟨a, xs, e, e1, e2, e3⟩ := h
  exact A2.all k e2
theorem rT_all {p : α → Prop} (h : rT r H v l) (k : ∀ x a, r H x a → p a) : ∀ a ∈ l, p a := by
  obtain ⟨a, xs, e, e1, e2, e3⟩ := h
  exact A2.all k e2
theorem rS_wok {s : Str} (h : rS H v s) : wok s = true := h.2
/-- a pair -/
theorem x_P0 {p : α × β} (h : rP r r2 H v p) (q : ∀ y, r H y p.1 → Q y H) : rXx P w K mg v (.int 0) H Q := by
  obtain ⟨a, x, y, rfl, e, h1, h2⟩ := h
  exact x_T (.inl (.inl e)) rfl (q x h1)
theorem x_P1 {p : α × β} (h : rP r r2 H v p) (q : ∀ y, r2 H y p.2 → Q y H) : rXx P w K mg v (.int 1) H Q := by
  obtain ⟨a, x, y, rfl, e, h1, h2⟩ := h
  exact x_T (.inl (.inl e)) rfl (q y h2)
theorem c_lenP {p : α × β} (h : rP r r2 H v p) (q : Q (.int 2) H) : rCl P w K mg (.builtin "len") [v] H Q := by
  obtain ⟨a, x, y, rfl, e, h1, h2⟩ := h
  exact c_lenT (.inl (.inl e)) q
theorem i_P {p : α × β} (h : rP r r2 H v p) (q : Q (.bl true) H) : rCl P w K mg (.builtin "isinstance") [v, .ty "tuple"] H Q := by
  obtain ⟨a, x, y, rfl, e, h1, h2⟩ := h
  exact i_tup e q
theorem tup_P {p : α × β} {t : TGs} {σ : L2.St} {Qs : L2.St → Hp → Prop} (h : rP r r2 H v p) (q : ∀ x y, r H x p.1 → r2 H y p.2 → t [x, y] σ H Qs) : tupB K 2 t v σ H Qs := by
  obtain ⟨a, x, y, rfl, e, h1, h2⟩ := h
  exact tup_n e rfl (q x y h1 h2)
theorem isN {o : Option Str} : decide (oV o = V.non) = decide (o = none) := by cases o <;> simp [oV]
theorem o_isNO {o : Option Str} (q : Q (.bl (decide (o = none))) H) : rOp P w K mg (compareOp .Is) (oV o) .non H Q := o_isN (by rw [isN]; exact q)
theorem o_notNO {o : Option Str} (q : Q (.bl (!decide (o = none))) H) : rOp P w K mg (compareOp .IsNot) (oV o) .non H Q := o_notN (by rw [isN]; exact q)
end
end Nb

/-! part S1 -/
set_option Elab.async false
set_option linter.all false
set_option maxRecDepth 100000
set_option maxHeartbeats 4000000
/-! sorted of a tuple. -/
namespace Nb
open PySem PySem.Spec PyProof.Rows L2 PySem.Calls
section
variable {prog : Program} {w : World} {A : Around} {E : Value → Shared → Prop} {s : Shared}
/-- the items of a tuple in a new list -/
theorem gather_tp {t : Addr} {us : List Value} {R : List Value → Shared → Prop} (ht : s.heap.IsTuple t us.toArray) (k : R us { s with heap := (s.heap.push (seqObj "list" #[] 0)).update s.heap.objs.size (Obj.mapSeq (· ++ us.toArray)) }) (fit : us.length ≤ sizeLine) :
    wpAny (model prog w) A (collect (.ref t)) R E s := by
  obtain ⟨ob, h1, h2, n, h3⟩ := id ht
  unfold collect
  refine wpAny_bind (wpAny_runValue (codeAny_builtin entry_proto_collect' ?g1)); case g1 =>
    show wpAny _ _ (do again (.builtin "list.__iadd__" ⟨[← newList [], .ref t], []⟩)) _ _ s
    refine wpAny_bind (wpAny_newList (wpAny_pure ⟨Code.quiet_builtin _ (by decide +kernel), codeAny_builtin entry_list_iadd' ?g2⟩)); case g2 =>
      show wpAny _ _ (Builtin.List.listExtendWith (.ref s.heap.objs.size) (.ref t) (.ref s.heap.objs.size)) _ _ { s with heap := s.heap.push (seqObj "list" #[] 0) }
      unfold Builtin.List.listExtendWith
      have h4 : (s.heap.push (seqObj "list" #[] 0)).get? t = some ob := Heap.get?_push_of_some _ h1
      have h5 : (Value.type "tuple" == Value.type "tuple") = true := by rfl
      refine wpAny_bind (wpAny_typeOf (T := "tuple") ⟨ob, h4, h2⟩ ?_); rw [if_pos (by rw [h5]; simp)]
      refine wpAny_bind (listItems_at h4 h3 ?_); refine wpAny_bind (listItems_at (xs := #[]) (n := 0) (Heap.get?_push_size _ rfl) rfl ?_); rw [if_neg (by simp)]
      refine wpAny_bind (listUpdate_at (n := 0) (xs := #[]) (Heap.get?_push_size _ rfl) rfl ?_ (Nat.zero_le _) (by show (#[] ++ us.toArray).size ≤ sizeLine + 1; simp only [Array.size_append, List.size_toArray, List.length_nil]; omega))
      refine wpAny_pure ?_
      show wpAny (model prog w) A (do
          let ob ← load s.heap.objs.size
          match ob.data with
          | .seq ys _ => pure ys.toList
          | _ => unsupported "internal:collect") R E { s with heap := (s.heap.push (seqObj "list" #[] 0)).update s.heap.objs.size (Obj.mapSeq (· ++ us.toArray)) }
      refine wpAny_bind (wpAny_load (get?_update_seq (Heap.get?_push_size _ rfl) _) ?_); show wpAny _ _ (pure ((#[] : Array Value) ++ us.toArray).toList) R E _
      rw [show ((#[] : Array Value) ++ us.toArray).toList = us by simp]; exact wpAny_pure k
theorem sort_tp {t : Addr} {us : List Value} {R : Value → Shared → Prop} (ht : s.heap.IsTuple t us.toArray) (fit : us.length ≤ sizeLine)
    (bd : ∀ E' : Value → Shared → Prop, wpAny (model prog w) A.in1.in1 (Builtin.«list.sort» ⟨[.ref (s.heap.objs.size + 1)], []⟩) (fun f s' => f = .done (.ret .none) ∧ R (.ref (s.heap.objs.size + 1)) s') E' { s with heap := PySem.W.copyHeap s.heap us }) :
    wpAny (model prog w) A (call (.builtin "sorted") [.ref t]) R E s := by
  refine call_function_entry kind_sorted plain_sorted entry_sorted (args_sorted1 _) ?_
  unfold Builtin.«sorted»
  refine wpAny_bind (m := checkCount "sorted" 1 1 _) (wpAny_pure ?_); refine wpAny_bind (gather_tp ht ?_ fit); refine wpAny_bind (wpAny_newList ?_ fit)
  have hs : ((s.heap.push (seqObj "list" #[] 0)).update s.heap.objs.size (Obj.mapSeq (· ++ us.toArray))).objs.size = s.heap.objs.size + 1 := by rw [Heap.size_update, size_push']
  show wpAny _ _ _ _ _ { s with heap := PySem.W.copyHeap s.heap us }; rw [hs]
  refine wpAny_bind (wpAny_holding (wpAny_call_entry slot_list_sort ⟨_, PySem.W.copyHeap_at s.heap us, rfl⟩ entry_list_sort ?b (args_list_sort _))); case b =>
    show wpAny (model prog w) A.in1.in1 (Builtin.«list.sort» ⟨[.ref (s.heap.objs.size + 1)], []⟩) _ _ _
    refine wpAny_mono (bd _) (fun f s' hf => ?_) fun _ _ z => z
    obtain ⟨rfl, hq⟩ := hf
    exact ⟨_, rfl, wpAny_pure ⟨_, rfl, hq⟩⟩
theorem sorted_tpd {β : Type} {enc : β → PyData} {S : Value → β → Prop} {t : Addr} {us : List Value} {bs : List β} {R : Value → Shared → Prop} (ht : s.heap.IsTuple t us.toArray) (e : PySem.W.EachIs S us bs) (er : PySem.W.EachIs (fun v b => ∃ as, Reads s.heap v (enc b) as) us bs)
    (al : PySem.W.AllAlike (bs.map enc)) (so : PySem.W.Sortable (bs.map enc)) (fit : bs.length ≤ sizeLine) (hu : ∀ b, b ∈ bs → A.units + 2 + (enc b).depth < cLine)
    (k : ∀ out, out.length = bs.length → PySem.W.EachIs S out (bs.mergeSort (PySem.W.dataLe false enc)) → R (.ref (s.heap.objs.size + 1)) { s with heap := sortedAll s.heap us (List.toArray out) }) : wpAny (model prog w) A (call (.builtin "sorted") [.ref t]) R E s := by
  have e2 : PySem.W.EachIs (fun v b => ∃ as, Reads (PySem.W.sortingHeap (PySem.W.copyHeap s.heap us) (s.heap.objs.size + 1) us) v (enc b) as) us bs := er.mono fun _ _ ⟨as, r⟩ => ⟨as, PyProof.Rows.Reads.keeps (fun _ _ => PySem.W.sorting_copy_old) r⟩
  have fit2 : us.length ≤ sizeLine := by rw [e.length]; exact fit
  refine sort_tp ht fit2 fun E' => PySem.W.list_sort_vals (s := { s with heap := PySem.W.copyHeap s.heap us }) (PySem.W.copyHeap_at s.heap us) (PySem.W.SortsAt.data (s := { s with heap := PySem.W.sortingHeap (PySem.W.copyHeap s.heap us) (s.heap.objs.size + 1) us }) (PySem.W.each_map (R := fun v d => ∃ as, Reads (PySem.W.sortingHeap (PySem.W.copyHeap s.heap us) (s.heap.objs.size + 1) us) v d as) enc e2) al so (PySem.W.bound_map hu)) fit2 ⟨rfl, ?_⟩
  exact k _ ((PySem.W.sortVals_length false rfl).trans e.length) (PySem.W.sortVals_data false e e2 al)
end
section
variable {α : Type} {r : RR α}
def rSortT [Da r] (K : PySem.W.Frag) : List V → Hp → VK → Prop := fun vs H Q => ∃ (v : V) (l : List α), vs = [v] ∧ rT r H v l ∧ ∀ p ys, H p = none → A2 (r H) ys (l.mergeSort (leR r)) → Q (.ref p) (upd H p (.lst ys))
theorem cr_sortRT [Da r] [So r] {X : Cx} (hu : X.A.units + 80 < cLine) (hd : Da.dep r ≤ 70) : CallR X (.builtin "sorted") (rSortT (r := r) X.K) := by
  intro pins s σ H vs us Q I rr h
  obtain ⟨v, l, rfl, ⟨a, xs, rfl, e, k, hl⟩, q⟩ := h
  obtain ⟨its, rv, ip, _⟩ := I.tuple (.inl (.inl e))
  rw [Vals.ref1 rr]
  have hlen : l.length ≤ sizeLine := Nat.le_trans hl (by decide)
  have ea := each_of (h := s.heap) rv k
  refine sorted_tpd (enc := Da.enc r) (show s.heap.IsTuple a its.toArray from ip) ea (ea.mono fun u b ⟨v, h1, h2⟩ => Dp.reads I _ v u (Da.dp h2) h1) (PySem.W.AllAlike.of So.al) (So.so l) hlen (fun b _ => by have := Da.deep (r := r) b; omega) fun out ho eo => ?_
  obtain ⟨ys, y1, y2⟩ := of_each eo
  obtain ⟨ep, he⟩ := PyProof.Rows.sortedAll_at s.heap its out.toArray
  have hys : ys.length ≤ sizeLine := by rw [y1.length, ho]; exact hlen
  exact ⟨.ref _, upd H (s.heap.objs.size + 1) (.lst ys), I.laid (t' := s.toks) (fun _ _ => PyProof.Rows.sortedAll_old) (Nat.le_succ _) ⟨hys, out, ep, y1, he⟩, rfl, q _ ys (I.hok.fresh (Nat.le_succ _)) y2⟩
end
section
variable {P : Program} {w : World} {K : PySem.W.Frag} {mg : Str → Option Value} {α : Type} {r : RR α} {H : Hp} {v : V} {Q : VK} {l : List α}
theorem c_sortTR [Da r] [So r] [Tt r] (h : rT r H v l) (q : ∀ p H', Same H H' → H p = none → rL r H' (.ref p) (l.mergeSort (leR r)) → Q (.ref p) H') (hd : Da.dep r ≤ 70 := by decide) : rCl P w K mg (.builtin "sorted") [v] H Q := fun X L => by
  have hu := L.un
  have hl := rT_bnd h
  refine ⟨_, cr_sortRT (r := r) (by omega) hd, v, l, rfl, h, fun p ys hp k => q p _ (same_new (same_refl _) hp) hp (mk_L hp k ?_)⟩
  rw [(List.mergeSort_perm l _).length_eq]; exact hl
theorem c_sortST {l : List Str} (h : rT rS H v l) (q : ∀ p H', Same H H' → H p = none → rL rS H' (.ref p) (srt l) → Q (.ref p) H') : rCl P w K mg (.builtin "sorted") [v] H Q :=
  c_sortTR (r := rS) h fun p H' s hp k => q p H' s hp (by rw [leR_rS] at k; exact k)
theorem m_extR [Tt r] {l b : Addr} {xs ys : List α} (h : rL r H (.ref l) xs) (k : rL r H (.ref b) ys) (n : xs.length + ys.length ≤ lim) (q : ∀ o, rL r (upd H l o) (.ref l) (xs ++ ys) → Q .non (upd H l o)) : rMt P w K mg "list.extend" (.ref l) [.ref b] H Q := by
  obtain ⟨a, us, e, e1, k1, _⟩ := h
  obtain ⟨c, vs, e', e2, k2, _⟩ := k
  cases e; cases e'
  have b1 : lim ≤ sizeLine := by decide
  refine m_extend e1 e2 (by rw [k1.len, k2.len]; omega) (q _ ⟨_, _, rfl, upd_same, ?_, by rw [List.length_append]; exact n⟩)
  have t : SameT H (upd H l (.lst (us ++ vs))) := SameT.upd (SameT.refl _) e1 nofun
  exact (k1.app k2).mono fun _ _ z => Tt.tm t z
theorem m_appR [Tt r] {l : Addr} {y : V} {b : α} {xs : List α} (h : rL r H (.ref l) xs) (k : r H y b) (n : xs.length < lim) (q : ∀ o, rL r (upd H l o) (.ref l) (xs ++ [b]) → Q .non (upd H l o)) : rMt P w K mg "list.append" (.ref l) [y] H Q := by
  obtain ⟨a, us, e, e1, k1, _⟩ := h
  cases e
  have b1 : lim ≤ sizeLine := by decide
  refine m_append e1 (by rw [k1.len]; omega) (q _ ⟨_, _, rfl, upd_same, ?_, by rw [List.length_append]; exact n⟩)
  have t : SameT H (upd H l (.lst (us ++ [y]))) := SameT.upd (SameT.refl _) e1 nofun
  exact (k1.app (.one k)).mono fun _ _ z => Tt.tm t z
/-- what sorted orders to words: a list, a tuple, a dict -/
def rPp : RR (List Str) := fun H v l => rL rS H v l ∨ rT rS H v l ∨ ∃ m : List (Str × Bool), rD rB H v m ∧ m.map Prod.fst = l ∧ l.length < 64
instance : Mo rPp := ⟨fun h k => k.imp (Mo.mo h) fun k => k.imp (Mo.mo h) fun ⟨m, a, b⟩ => ⟨m, Mo.mo h a, b⟩⟩
theorem c_sortPp {l : List Str} (h : rPp H v l) (q : ∀ p H', Same H H' → H p = none → rL rS H' (.ref p) (srt l) → Q (.ref p) H') : rCl P w K mg (.builtin "sorted") [v] H Q := by
  rcases h with h | h | ⟨m, h, rfl, n⟩
  · exact c_sortS h q
  · exact c_sortST h q
  · exact c_sortD h (by simpa using n) q
theorem b2 {n : Nat} : 2 ^ n * 1 = 2 ^ n := Nat.mul_one _
end
end Nb

/-! part M2 -/
set_option Elab.async false
set_option linter.all false
set_option maxRecDepth 100000
set_option maxHeartbeats 4000000
/-! Plain: the search by levels. -/
namespace Nb
section
variable {S E : Type} [DecidableEq S]
abbrev Ps (S E : Type) := List (S × List E)
def visit (f : S → E → S) (p : S × List E) (acc : Ps S E × Ps S E) (e : E) : Ps S E × Ps S E :=
  if f p.1 e ∈ acc.1.map Prod.fst then acc else (acc.1 ++ [(f p.1 e, p.2 ++ [e])], acc.2 ++ [(f p.1 e, p.2 ++ [e])])
def visits (f : S → E → S) (es : List E) (acc : Ps S E × Ps S E) (p : S × List E) : Ps S E × Ps S E := es.foldl (visit f p) acc
def round (f : S → E → S) (es : List E) (P line : Ps S E) : Ps S E × Ps S E := line.foldl (visits f es) (P, [])
def lv (f : S → E → S) (es : List E) (b : S) : Nat → Ps S E × Ps S E
  | 0 => ([(b, [])], [(b, [])])
  | k + 1 => round f es (lv f es b k).1 (lv f es b k).2
/-- within a round -/
structure Mid (f : S → E → S) (es : List E) (b : S) (G : S → Prop) (P : Ps S E) (k : Nat) (acc : Ps S E × Ps S E) : Prop where
  nd : (acc.1.map Prod.fst).Nodup
  pre : acc.1 = P ++ acc.2
  good : ∀ p ∈ acc.1, G p.1
  len : ∀ p ∈ acc.2, p.2.length = k + 1
  way : ∀ p ∈ acc.1, p.2.foldl f b = p.1 ∧ ∀ e ∈ p.2, e ∈ es
variable {f : S → E → S} {es : List E} {b : S} {G : S → Prop} {P : Ps S E} {k : Nat} {acc : Ps S E × Ps S E} {p : S × List E}
theorem Mid.visit (hG : ∀ s e, G s → e ∈ es → G (f s e)) (h : Mid f es b G P k acc) (hp : p ∈ P) (hk : p.2.length = k) {e : E} (he : e ∈ es) : Mid f es b G P k (visit f p acc e) := by
  unfold Nb.visit
  split
  · exact h
  · rename_i hn
    have hp1 : p ∈ acc.1 := by rw [h.pre]; exact List.mem_append_left _ hp
    refine ⟨?_, ?_, ?_, ?_, ?_⟩
    · simp only [List.map_append, List.map_cons, List.map_nil]
      rw [List.nodup_append]
      exact ⟨h.nd, by simp, fun a ha c hc e => by simp at hc; subst hc; subst e; exact hn ha⟩
    · simp only [h.pre, List.append_assoc]
    · intro q hq
      rcases List.mem_append.mp hq with hq | hq
      · exact h.good q hq
      · simp at hq; subst hq; exact hG _ _ (h.good p hp1) he
    · intro q hq
      rcases List.mem_append.mp hq with hq | hq
      · exact h.len q hq
      · simp at hq; subst hq; simp [hk]
    · intro q hq
      rcases List.mem_append.mp hq with hq | hq
      · exact h.way q hq
      · simp at hq; subst hq
        obtain ⟨w1, w2⟩ := h.way p hp1
        refine ⟨by simp [List.foldl_append, w1], fun a ha => ?_⟩
        rcases List.mem_append.mp ha with ha | ha
        · exact w2 a ha
        · simp at ha; subst ha; exact he
theorem visit_sub {e : E} {q : S × List E} (h : q ∈ acc.1) : q ∈ (Nb.visit f p acc e).1 := by
  unfold Nb.visit
  split
  · exact h
  · exact List.mem_append_left _ h
theorem visit_has {e : E} : f p.1 e ∈ (Nb.visit f p acc e).1.map Prod.fst := by
  unfold Nb.visit
  split
  · rename_i h; exact h
  · simp
theorem visits_mid (hG : ∀ s e, G s → e ∈ es → G (f s e)) (hp : p ∈ P) (hk : p.2.length = k) : ∀ (l : List E) {acc : Ps S E × Ps S E}, (∀ e ∈ l, e ∈ es) → Mid f es b G P k acc → Mid f es b G P k (l.foldl (Nb.visit f p) acc)
  | [], _, _, h => h
  | e :: l, _, hl, h => visits_mid hG hp hk l (fun a ha => hl a (List.mem_cons_of_mem _ ha)) (h.visit hG hp hk (hl e List.mem_cons_self))
theorem visits_sub {q : S × List E} : ∀ (l : List E) {acc : Ps S E × Ps S E}, q ∈ acc.1 → q ∈ (l.foldl (Nb.visit f p) acc).1
  | [], _, h => h
  | _ :: l, _, h => visits_sub l (visit_sub h)
theorem visits_has {e : E} : ∀ (l : List E) {acc : Ps S E × Ps S E}, e ∈ l → f p.1 e ∈ (l.foldl (Nb.visit f p) acc).1.map Prod.fst
  | a :: l, acc, h => by
    rcases List.mem_cons.mp h with rfl | h
    · obtain ⟨q, h1, h2⟩ := List.mem_map.mp (visit_has (f := f) (p := p) (acc := acc) (e := e))
      exact List.mem_map.mpr ⟨q, visits_sub l h1, h2⟩
    · exact visits_has l h
theorem line_mid (hG : ∀ s e, G s → e ∈ es → G (f s e)) : ∀ (l : Ps S E) {acc : Ps S E × Ps S E}, (∀ p ∈ l, p ∈ P ∧ p.2.length = k) → Mid f es b G P k acc → Mid f es b G P k (l.foldl (visits f es) acc)
  | [], _, _, h => h
  | p :: l, _, hl, h => line_mid hG l (fun a ha => hl a (List.mem_cons_of_mem _ ha)) (visits_mid hG (hl p List.mem_cons_self).1 (hl p List.mem_cons_self).2 es (fun _ z => z) h)
theorem line_sub {q : S × List E} : ∀ (l : Ps S E) {acc : Ps S E × Ps S E}, q ∈ acc.1 → q ∈ (l.foldl (visits f es) acc).1
  | [], _, h => h
  | _ :: l, _, h => line_sub l (visits_sub es h)
theorem line_has {e : E} (he : e ∈ es) : ∀ (l : Ps S E) {acc : Ps S E × Ps S E} {q : S × List E}, q ∈ l → f q.1 e ∈ (l.foldl (visits f es) acc).1.map Prod.fst
  | a :: l, acc, q, h => by
    rcases List.mem_cons.mp h with rfl | h
    · obtain ⟨z, h1, h2⟩ := List.mem_map.mp (visits_has (f := f) (p := q) (acc := acc) es he)
      exact List.mem_map.mpr ⟨z, line_sub l h1, h2⟩
    · exact line_has he l h
/-- behind k rounds -/
structure Lev (f : S → E → S) (es : List E) (b : S) (G : S → Prop) (k : Nat) (P line : Ps S E) : Prop where
  nd : (P.map Prod.fst).Nodup
  sub : ∀ p ∈ line, p ∈ P
  good : ∀ p ∈ P, G p.1
  len : ∀ p ∈ line, p.2.length = k
  lens : ∀ p ∈ P, p.2.length ≤ k
  way : ∀ p ∈ P, p.2.foldl f b = p.1 ∧ ∀ e ∈ p.2, e ∈ es
  shut : ∀ p ∈ P, p ∈ line ∨ ∀ e ∈ es, f p.1 e ∈ P.map Prod.fst
  much : line ≠ [] → k + 1 ≤ P.length
  beg : b ∈ P.map Prod.fst
  all : ∀ w : List E, (∀ e ∈ w, e ∈ es) → w.length ≤ k → w.foldl f b ∈ P.map Prod.fst
variable {line : Ps S E}
theorem Lev.mid (h : Lev f es b G k P line) : Mid f es b G P k (P, []) := ⟨h.nd, by simp, h.good, by simp, h.way⟩
theorem snoc_cases (w : List E) : w = [] ∨ ∃ v e, w = v ++ [e] := by
  rcases List.eq_nil_or_concat w with h | ⟨v, e, h⟩
  · exact .inl h
  · exact .inr ⟨v, e, by rw [h]; simp⟩
theorem Lev.next (hG : ∀ s e, G s → e ∈ es → G (f s e)) (h : Lev f es b G k P line) : Lev f es b G (k + 1) (round f es P line).1 (round f es P line).2 := by
  have m : Mid f es b G P k (round f es P line) := line_mid hG line (fun p hp => ⟨h.sub p hp, h.len p hp⟩) h.mid
  have sb : ∀ q ∈ P, q ∈ (round f es P line).1 := fun q hq => line_sub (f := f) (es := es) line (acc := (P, [])) hq
  have kin : ∀ p ∈ P, ∀ e ∈ es, f p.1 e ∈ (round f es P line).1.map Prod.fst := by
    intro p hp e he
    rcases h.shut p hp with q | q
    · exact line_has he line q
    · obtain ⟨z, h1, h2⟩ := List.mem_map.mp (q e he)
      exact List.mem_map.mpr ⟨z, sb z h1, h2⟩
  refine ⟨m.nd, fun p hp => by rw [m.pre]; exact List.mem_append_right _ hp, m.good, m.len, ?_, m.way, ?_, ?_, ?_, ?_⟩
  · intro p hp
    rw [m.pre] at hp
    rcases List.mem_append.mp hp with q | q
    · exact Nat.le_succ_of_le (h.lens p q)
    · exact Nat.le_of_eq (m.len p q)
  · intro p hp
    rw [m.pre] at hp
    rcases List.mem_append.mp hp with q | q
    · exact .inr (kin p q)
    · exact .inl q
  · intro hne
    have h1 : line ≠ [] := by
      intro e
      apply hne
      subst e
      rfl
    have h2 := h.much h1
    have h3 := congrArg List.length m.pre
    rw [List.length_append] at h3
    have h4 : 0 < (round f es P line).2.length := List.length_pos_iff.mpr hne
    omega
  · obtain ⟨z, h1, h2⟩ := List.mem_map.mp h.beg
    exact List.mem_map.mpr ⟨z, sb z h1, h2⟩
  · intro w hw hl
    rcases snoc_cases w with rfl | ⟨v, e, rfl⟩
    · obtain ⟨z, h1, h2⟩ := List.mem_map.mp h.beg
      exact List.mem_map.mpr ⟨z, sb z h1, h2⟩
    · have hv := h.all v (fun a ha => hw a (List.mem_append_left _ ha)) (by simp at hl; omega)
      obtain ⟨z, h1, h2⟩ := List.mem_map.mp hv
      rw [List.foldl_append, List.foldl_cons, List.foldl_nil, ← h2]
      exact kin z h1 e (hw e (by simp))
theorem lv_lev (hG : ∀ s e, G s → e ∈ es → G (f s e)) (hb : G b) : ∀ k, Lev f es b G k (lv f es b k).1 (lv f es b k).2
  | 0 => ⟨by simp [lv], fun p hp => hp, fun p hp => by simp [lv] at hp; subst hp; exact hb, fun p hp => by simp [lv] at hp; subst hp; rfl, fun p hp => by simp [lv] at hp; subst hp; exact Nat.le_refl _,
    fun p hp => by simp [lv] at hp; subst hp; exact ⟨rfl, by simp⟩, fun p hp => .inl hp, fun _ => by simp [lv], by simp [lv], fun w _ hl => by
      have : w = [] := List.length_eq_zero_iff.mp (by omega)
      subst this; simp [lv]⟩
  | k + 1 => (lv_lev hG hb k).next hG
/-- a nodup list within another is not longer -/
theorem nd_len {α : Type} [DecidableEq α] : ∀ {l m : List α}, l.Nodup → (∀ a ∈ l, a ∈ m) → l.length ≤ m.length
  | [], m, _, _ => Nat.zero_le _
  | a :: l, m, nd, h => by
    obtain ⟨h1, h2⟩ := List.nodup_cons.mp nd
    have h3 := nd_len (m := m.erase a) h2 (fun c hc => (List.mem_erase_of_ne (fun (e : c = a) => h1 (by rw [← e]; exact hc))).mpr (h c (List.mem_cons_of_mem _ hc)))
    have h4 := h a List.mem_cons_self
    have h5 := List.length_erase_of_mem h4
    have h6 : 0 < m.length := List.length_pos_of_mem h4
    simp only [List.length_cons]
    omega
/-- all lists of a length over the first numbers -/
def allLists (n : Nat) : Nat → List (List Int)
  | 0 => [[]]
  | k + 1 => (List.range n).flatMap fun (i : Nat) => (allLists n k).map fun l => (Int.ofNat i) :: l
theorem flat_len {α β : Type} (g : α → List β) (c : Nat) : ∀ l : List α, (∀ a, (g a).length = c) → (l.flatMap g).length = l.length * c
  | [], _ => by simp
  | a :: l, h => by rw [List.flatMap_cons, List.length_append, h a, flat_len g c l h, List.length_cons, Nat.succ_mul, Nat.add_comm]
theorem allLists_len (n : Nat) : ∀ k, (allLists n k).length = n ^ k
  | 0 => rfl
  | k + 1 => by
    rw [allLists, flat_len _ (n ^ k) _ (fun i => by rw [List.length_map, allLists_len n k]), List.length_range, Nat.pow_succ, Nat.mul_comm]
theorem allLists_mem {n : Nat} : ∀ {k : Nat} {l : List Int}, l.length = k → (∀ x ∈ l, 0 ≤ x ∧ x < n) → l ∈ allLists n k
  | 0, l, h, _ => by rw [List.length_eq_zero_iff.mp h]; simp [allLists]
  | k + 1, [], h, _ => by simp at h
  | k + 1, x :: l, h, hx => by
    have h1 := hx x List.mem_cons_self
    rw [allLists, List.mem_flatMap]
    refine ⟨x.toNat, by simp; omega, List.mem_map.mpr ⟨l, allLists_mem (by simpa using h) (fun y hy => hx y (List.mem_cons_of_mem _ hy)), ?_⟩⟩
    congr 1
    show (x.toNat : Int) = x
    omega
theorem few_lists {n k : Nat} {l : List (List Int)} (nd : l.Nodup) (h : ∀ x ∈ l, x.length = k ∧ ∀ i ∈ x, 0 ≤ i ∧ i < n) : l.length ≤ n ^ k := by
  rw [← allLists_len n k]
  exact nd_len nd fun a ha => allLists_mem (h a ha).1 (h a ha).2
/-- the first pair with a key is the pair -/
theorem pair_of {P : Ps S E} (nd : (P.map Prod.fst).Nodup) (hp : p ∈ P) : P.find? (fun q => decide (q.1 = p.1)) = some p := by
  induction P with
  | nil => simp at hp
  | cons q P ih =>
    obtain ⟨h1, h2⟩ := List.nodup_cons.mp nd
    rw [List.find?_cons]
    rcases List.mem_cons.mp hp with rfl | h
    · simp
    · have : q.1 ≠ p.1 := fun e => h1 (e ▸ List.mem_map.mpr ⟨p, h, rfl⟩)
      simp [this, ih h2 h]
end
end Nb

/-! part S2 -/
set_option Elab.async false
set_option linter.all false
set_option maxRecDepth 100000
set_option maxHeartbeats 4000000
/-! Dicts from tuples of numbers; comprehensions over two sources. -/
namespace Nb
open PySem PySem.Spec PyProof.Rows L2
abbrev St1 := List Int
def keyI (s : St1) : List Key := s.map .inl
theorem keyI_inj {s t : St1} : keyI s = keyI t ↔ s = t := by
  unfold keyI
  constructor
  · intro h
    have := congrArg (List.map fun k : Key => match k with | .inl i => i | .inr _ => 0) h
    simpa [List.map_map, Function.comp_def] using this
  · intro h; rw [h]
/-- a dict from tuples of numbers -/
def rDT {α : Type} (r : RR α) : RR (List (St1 × α)) := fun H v m => ∃ d kvs, v = .ref d ∧ H d = some (.dT kvs) ∧ A2 (fun (kv : List Key × V) (p : St1 × α) => kv.1 = keyI p.1 ∧ r H kv.2 p.2) kvs m ∧ m.length ≤ lim
section
variable {P : Program} {w : World} {K : PySem.W.Frag} {mg : Str → Option Value} {α β : Type} {r : RR α} {H : Hp} {v y x : V} {Q : VK} {m : List (St1 × α)} {s : St1} {b : α}
instance [Mo r] : Mo (rDT r) := ⟨fun h ⟨d, kvs, e, e1, e2, e3⟩ => ⟨d, kvs, e, h _ _ e1, e2.mono fun _ _ z => ⟨z.1, Mo.mo h z.2⟩, e3⟩⟩
theorem keyT (h : rT rI H y s) : ∃ a, y = .ref a ∧ H a = some (.tup ((keyI s).map kV)) := by
  obtain ⟨a, xs, e, e1, e2, _⟩ := h
  refine ⟨a, e, ?_⟩
  rw [e1, rI_map e2]
  unfold keyI
  rw [List.map_map]
  rfl
theorem find_A2 {R : V → α → Prop} : ∀ {kvs : List (List Key × V)} {m : List (St1 × α)}, A2 (fun (kv : List Key × V) (p : St1 × α) => kv.1 = keyI p.1 ∧ R kv.2 p.2) kvs m →
    (m.find? (fun q => decide (q.1 = s)) = none ∧ valV kvs (keyI s) = none) ∨ ∃ p x, m.find? (fun q => decide (q.1 = s)) = some p ∧ valV kvs (keyI s) = some x ∧ R x p.2
  | [], [], _ => .inl ⟨rfl, rfl⟩
  | (k, x) :: kvs, (t, c) :: m, ⟨⟨h1, h2⟩, h3⟩ => by
    simp only at h1 h2
    subst h1
    by_cases e : t = s
    · subst e
      exact .inr ⟨(t, c), x, by simp, by simp [valV], h2⟩
    · have e' : keyI t ≠ keyI s := fun z => e (keyI_inj.mp z)
      rcases find_A2 h3 with ⟨q1, q2⟩ | ⟨p, z, q1, q2, q3⟩
      · exact .inl ⟨by simpa [e] using q1, by unfold valV at q2 ⊢; simpa [e'] using q2⟩
      · exact .inr ⟨p, z, by simpa [e] using q1, by unfold valV at q2 ⊢; simpa [e'] using q2, q3⟩
  | [], _ :: _, h => h.elim
  | _ :: _, [], h => h.elim
theorem find_keys {m : List (St1 × α)} : (m.find? (fun q => decide (q.1 = s))).isSome = decide (s ∈ m.map Prod.fst) := by
  refine bool_dec ?_
  rw [List.find?_isSome]
  constructor
  · rintro ⟨p, h1, h2⟩
    exact List.mem_map.mpr ⟨p, h1, of_decide_eq_true h2⟩
  · intro h
    obtain ⟨p, h1, h2⟩ := List.mem_map.mp h
    exact ⟨p, h1, decide_eq_true h2⟩
theorem din_DT (h : rDT r H v m) (k : rT rI H y s) : ∃ d o, v = .ref d ∧ DGet H d y o ∧ o.isSome = decide (s ∈ m.map Prod.fst) := by
  obtain ⟨d, kvs, rfl, e1, k1, _⟩ := h
  obtain ⟨a, rfl, e2⟩ := keyT k
  rw [← find_keys]
  rcases find_A2 (R := r H) (s := s) k1 with ⟨q1, q2⟩ | ⟨p, z, q1, q2, q3⟩
  · exact ⟨d, none, rfl, .inr ⟨kvs, keyI s, a, .inl e1, rfl, e2, q2.symm⟩, by rw [q1]; rfl⟩
  · exact ⟨d, some z, rfl, .inr ⟨kvs, keyI s, a, .inl e1, rfl, e2, q2.symm⟩, by rw [q1]; rfl⟩
theorem o_notinDT (h : rDT r H v m) (k : rT rI H y s) (q : Q (.bl (!decide (s ∈ m.map Prod.fst))) H) : rOp P w K mg (compareOp .NotIn) y v H Q := by
  obtain ⟨d, o, rfl, g, e⟩ := din_DT h k
  exact o_notinG g (by rw [e]; exact q)
theorem o_inDT (h : rDT r H v m) (k : rT rI H y s) (q : Q (.bl (decide (s ∈ m.map Prod.fst))) H) : rOp P w K mg (compareOp .In) y v H Q := by
  obtain ⟨d, o, rfl, g, e⟩ := din_DT h k
  exact o_inG g (by rw [e]; exact q)
theorem dg_DT {p : St1 × α} (h : rDT r H v m) (k : rT rI H y s) (e : m.find? (fun q => decide (q.1 = s)) = some p) (q : ∀ z, r H z p.2 → Q z H) : dgB v y H Q := by
  obtain ⟨d, kvs, rfl, e1, k1, _⟩ := h
  obtain ⟨a, rfl, e2⟩ := keyT k
  rcases find_A2 (R := r H) (s := s) k1 with ⟨q1, q2⟩ | ⟨p', z, q1, q2, q3⟩
  · rw [q1] at e; cases e
  · rw [q1] at e; cases e
    exact ⟨d, z, rfl, .inr ⟨kvs, keyI s, a, .inl e1, rfl, e2, q2.symm⟩, q z q3⟩
theorem put_A2 {R : V → α → Prop} {z : V} (hz : R z b) : ∀ {kvs : List (List Key × V)} {m : List (St1 × α)}, A2 (fun (kv : List Key × V) (p : St1 × α) => kv.1 = keyI p.1 ∧ R kv.2 p.2) kvs m → s ∉ m.map Prod.fst →
    putK kvs (keyI s) z = kvs ++ [(keyI s, z)] := by
  intro kvs m k hn
  unfold putK
  rw [if_neg]
  intro h
  obtain ⟨kv, h1, h2⟩ := List.any_eq_true.mp h
  obtain ⟨i, hi⟩ := List.getElem?_of_mem h1
  obtain ⟨p, hp, e, _⟩ := k.at hi
  have e2 := of_decide_eq_true h2
  rw [e] at e2
  exact hn (List.mem_map.mpr ⟨p, List.mem_of_getElem? hp, keyI_inj.mp e2⟩)
theorem dp_DT [Tt r] {z : V} {q : Hp → Prop} {d : Addr} (h : rDT r H (.ref d) m) (k : rT rI H y s) (hz : r H z b) (hn : s ∉ m.map Prod.fst) (hl : m.length < lim) (g : ∀ o, (∃ l, H d = some (.dT l)) → rDT r (upd H d o) (.ref d) (m ++ [(s, b)]) → q (upd H d o)) : dpB (.ref d) y z H q := by
  obtain ⟨d', kvs, e, e1, k1, _⟩ := h
  cases e
  obtain ⟨a, rfl, e2⟩ := keyT k
  have b1 : lim ≤ sizeLine := by decide
  have ep := put_A2 (s := s) (R := r H) hz k1 hn
  refine ⟨d, _, rfl, .inr ⟨kvs, keyI s, a, e1, rfl, e2, by rw [k1.len]; omega, rfl⟩, ?_⟩
  rw [ep]
  have t : SameT H (upd H d (.dT (kvs ++ [(keyI s, z)]))) := SameT.upd (SameT.refl _) e1 nofun
  refine g _ ⟨_, e1⟩ ⟨d, _, rfl, upd_same, (k1.app (.one ⟨rfl, hz⟩)).mono fun _ _ z => ⟨z.1, Tt.tm t z.2⟩, by rw [List.length_append]; exact hl⟩
end
/-! ### two sources -/
theorem lc2_TL {α β γ : Type} {r : RR α} {r2 : RR β} {r' : RR γ} [Tt r] [Tt r2] [Tt r'] {K : PySem.W.Frag} {l : List α} {m : List β} (f : α → β → γ) {a : Addr} {g g1 : TG} {wi1 : TI} {te : TE} {vs vs1 : List Nat} {σ : L2.St} {H1 : Hp} {Q : VK} (sg : V → L2.St) (sg1 : V → V → L2.St)
    (h : rT r H1 (.ref a) l) (hn : l.length * m.length ≤ lim) (hg : ∀ x H k, k (sg x) H → g x (wipe σ vs) H k) (hw : ∀ x, wipe (sg x) vs = wipe σ vs)
    (hi : ∀ x b H R, b ∈ l → Same H1 H → r H x b → (∀ c H4, Same H H4 → H c = none → rL r2 H4 (.ref c) m → R (Itl K c) H4) → wi1 (sg x) H R)
    (hg1 : ∀ x y H k, k (sg1 x y) H → g1 y (wipe (sg x) vs1) H k) (hw1 : ∀ x y, wipe (sg1 x y) vs1 = wipe (sg x) vs1)
    (ht : ∀ x y b c H Yk, b ∈ l → c ∈ m → Same H1 H → r H x b → r2 H y c → (∀ v H4, Same H H4 → r' H4 v (f b c) → Yk v H4) → te (sg1 x y) H Yk)
    (q : ∀ D H', Same H1 H' → H1 D = none → rL r' H' (.ref D) (l.flatMap fun b => m.map (f b)) → Q (.ref D) H') : lc2B (Itt K a) g tYes wi1 g1 tYes te vs vs1 σ H1 Q := by
  obtain ⟨a', xs, e, e1, k0, hl0⟩ := id h
  cases e
  have sq : ∀ H, Same H1 H → SqT K H a xs := fun H s => .inl (.inl (s _ _ e1))
  have hx := k0.len
  intro D hD
  have part : ∀ i, i ≤ l.length → ((l.take i).flatMap fun b => m.map (f b)).length = i * m.length := fun i hi => by
    rw [flat_len _ m.length _ (fun b => List.length_map _), List.length_take, Nat.min_eq_left hi]
  refine ⟨fun i k H => k = l.length - i ∧ i ≤ l.length ∧ Same H1 H ∧ ∃ acc, H D = some (.lst acc) ∧ A2 (r' H) acc ((l.take i).flatMap fun b => m.map (f b)), ⟨_, rfl, Nat.zero_le _, same_new (same_refl _) hD, [], upd_same, by simp [A2]⟩, ?_⟩
  rintro i k H ⟨rfl, hil, s, acc, ea, ka⟩
  by_cases hlt : i < l.length
  · refine .inr ⟨⟨xs, xs[i]'(by omega), sq H s, by simp [show i < xs.length by omega]⟩, fun H' => i + 1 ≤ l.length ∧ Same H1 H' ∧ ∃ acc, H' D = some (.lst acc) ∧ A2 (r' H') acc ((l.take (i + 1)).flatMap fun b => m.map (f b)), fun H' z => ⟨l.length - (i + 1), by omega, rfl, z⟩, ?_⟩
    rintro x H' ⟨rfl, y⟩
    obtain ⟨b, hb, rb⟩ := k0.at (y xs (sq _ s))
    have hbm := List.mem_of_getElem? hb
    refine hg x _ _ ⟨hw x, ?_⟩
    simp only [tYes, if_true]
    refine hi x b _ _ hbm s (Mo.mo s rb) fun c H4 s4 hc0 kc => ?_
    obtain ⟨c', ys, e, e2, k2, hl2⟩ := kc
    cases e
    have hy := k2.len
    have et : l.take (i + 1) = l.take i ++ [b] := by rw [List.take_succ, hb]; rfl
    refine ⟨fun j k H => k = m.length - j ∧ j ≤ m.length ∧ Same H1 H ∧ H c = some (.lst ys) ∧ A2 (r2 H) ys m ∧ r H x b ∧ ∃ acc, H D = some (.lst acc) ∧ A2 (r' H) acc (((l.take i).flatMap fun b => m.map (f b)) ++ (m.take j).map (f b)), ⟨_, rfl, Nat.zero_le _, s.trans s4, e2, k2, Mo.mo (s.trans s4) rb, acc, s4 _ _ ea, by simpa using ka.mono fun _ _ z => Tt.tm (same_t s4) z⟩, ?_⟩
    rintro j k H5 ⟨rfl, hjl, s5, e5, k5, rb5, acc5, ea5, ka5⟩
    have hcD : c ≠ D := (ne_of_none ea hc0).symm
    have sqc : SqL K H5 c ys := .inl (.inl e5)
    by_cases hjt : j < m.length
    · refine .inr ⟨⟨ys, ys[j]'(by omega), sqc, by simp [show j < ys.length by omega]⟩, fun H' => j + 1 ≤ m.length ∧ Same H1 H' ∧ H' c = some (.lst ys) ∧ A2 (r2 H') ys m ∧ r H' x b ∧ ∃ acc, H' D = some (.lst acc) ∧ A2 (r' H') acc (((l.take i).flatMap fun b => m.map (f b)) ++ (m.take (j + 1)).map (f b)), fun H' z => ⟨m.length - (j + 1), by omega, rfl, z⟩, ?_⟩
      rintro z H' ⟨rfl, yz⟩
      obtain ⟨c2, hc2, rc2⟩ := k5.at (yz ys sqc)
      refine hg1 x z _ _ ⟨hw1 x z, ?_⟩
      simp only [tYes, if_true]
      refine ht x z b c2 _ _ hbm (List.mem_of_getElem? hc2) s5 rb5 rc2 fun v H7 s7 rv => ⟨acc5, s7 _ _ ea5, ?_, hjt, same_put (s5.trans s7) hD, ?_, ?_, ?_, _, upd_same, ?_⟩
      · have h1 := ka5.len
        have h2 : ((m.take j).map (f b)).length = j := by rw [List.length_map, List.length_take]; omega
        rw [List.length_append, part i hil, h2] at h1
        have h3 : lim < sizeLine := by decide
        have h4 : i * m.length + m.length ≤ l.length * m.length := by
          rw [← Nat.succ_mul]; exact Nat.mul_le_mul_right _ hlt
        omega
      · rw [upd_ne hcD]; exact s7 _ _ e5
      · exact k5.mono fun _ _ z => Tt.tm ((same_t s7).trans (SameT.upd (SameT.refl _) (s7 _ _ ea5) nofun)) z
      · exact Tt.tm ((same_t s7).trans (SameT.upd (SameT.refl _) (s7 _ _ ea5) nofun)) rb5
      · have t7 : SameT H7 (upd H7 D (.lst (acc5 ++ [v]))) := SameT.upd (SameT.refl _) (s7 _ _ ea5) nofun
        have et2 : m.take (j + 1) = m.take j ++ [c2] := by rw [List.take_succ, hc2]; rfl
        rw [et2, List.map_append, ← List.append_assoc]
        exact (ka5.mono fun _ _ z => Tt.tm ((same_t s7).trans t7) z).app (.one (Tt.tm t7 rv))
    · have ej : j = m.length := by omega
      subst ej
      rw [List.take_length] at ka5
      refine .inl ⟨⟨ys, sqc, by omega⟩, hlt, s5, acc5, ea5, ?_⟩
      rw [et, List.flatMap_append]
      simpa using ka5
  · have ei : i = l.length := by omega
    subst ei
    rw [List.take_length] at ka
    refine .inl ⟨⟨xs, sq H s, by omega⟩, q D H s hD ⟨D, acc, rfl, ea, ka, ?_⟩⟩
    have := part l.length (Nat.le_refl _)
    rw [List.take_length] at this
    rw [this]; exact hn
end Nb

/-! part S3 -/
set_option Elab.async false
set_option linter.all false
set_option maxRecDepth 100000
set_option maxHeartbeats 4000000
/-! Sets of words: made of a list, sorted. -/
namespace Nb
open PySem PySem.Spec PyProof.Rows L2
def kS (e : Int × Value) : Str := match e.2 with
  | .str x _ => x
  | _ => ⟨#[]⟩
def GoodS (w : World) (e : Int × Value) : Prop := ∃ x tk, e.2 = Value.str x tk ∧ e.1 = keyH w (.inr x)
/-- the set at a of the words of l -/
def SetS (w : World) (h : Heap) (a : Addr) (l : List Str) : Prop := ∃ o es ep t, h.get? a = some o ∧ o.ExactSet ∧ o.data = .set es ep t ∧ (∀ e ∈ es.toList, GoodS w e) ∧ (es.toList.map kS).Nodup ∧ (∀ x, x ∈ l ↔ x ∈ es.toList.map kS) ∧
  es.size < scanBound ∧ t.fits es.size = true ∧ Ris t.place.toList ∧ (w.params.followText "set-order" = true ∨ t.led = true)
section
variable {P : Program} {w : World} {h h2 : Heap} {a : Addr} {l : List Str}
theorem SetS.keep (R : SetS w h a l) (k : ∀ o, h.get? a = some o → h2.get? a = some o) : SetS w h2 a l := by
  obtain ⟨o, es, ep, t, ho, r⟩ := R
  exact ⟨o, es, ep, t, k o ho, r⟩
theorem goodS_el {el : List (Int × Value)} (g : ∀ e ∈ el, GoodS w e) : ElemsOf (mixKind P w) el := fun e he => by
  obtain ⟨x, tk, h1, h2⟩ := g e he
  exact ⟨⟨.inr x, by rw [h1]; exact mixKind_str P w x tk, h2⟩, by rw [h1]; rfl⟩
theorem goodS_is {e : Int × Value} (g : GoodS w e) (x : Str) : (mixKind P w).is (.inr x) e.2 = true ↔ kS e = x := by
  obtain ⟨y, tk, h1, _⟩ := g
  unfold kS
  rw [h1]
  constructor
  · intro q
    have q2 := (mixKind P w).inj (.str y tk) (.inr x) (.inr y) q (mixKind_str P w y tk)
    exact (Sum.inr.inj q2).symm
  · rintro rfl
    exact mixKind_str P w y tk
theorem goodS_mem {el : List (Int × Value)} (g : ∀ e ∈ el, GoodS w e) (x : Str) : x ∈ el.map kS ↔ ∃ e ∈ el, (mixKind P w).is (.inr x) e.2 = true := by
  rw [List.mem_map]
  exact ⟨fun ⟨e, he, q⟩ => ⟨e, he, (goodS_is (g e he) x).2 q⟩, fun ⟨e, he, q⟩ => ⟨e, he, (goodS_is (P := P) (g e he) x).1 q⟩⟩
end
section
variable {P : Program} {w : World} {A : Around} {E : Value → Shared → Prop} {s : Shared} {a : Addr} {l : List Str}
theorem putS_tail {gv : Bool → Sem Unit} (hgv : ∀ (b : Bool) (s₁ : Shared) (Q' : Unit → Shared → Prop), Q' () s₁ → wpAny (model P w) A (gv b) Q' E s₁)
    {o : Obj} {es : Array (Int × Value)} {ep : Nat} {t : SetTable} (ho : s.heap.get? a = some o) (hx : o.ExactSet) (hdt : o.data = .set es ep t)
    {fs : Array (Int × Value)} {u : SetTable} {m : List Str} (gd : ∀ e ∈ fs.toList, GoodS w e) (ndp : (fs.toList.map kS).Nodup) (mm : ∀ x, x ∈ m ↔ x ∈ fs.toList.map kS)
    (bnd : fs.size < scanBound) (fit : u.fits fs.size = true) (ri : Ris u.place.toList) (ld : w.params.followText "set-order" = true ∨ u.led = true) {wd : Bool} {R : Option Bool → Shared → Prop}
    (k : ∀ h', Heap.SameBut a s.heap h' → SetS w h' a m → R (some true) { s with heap := h' }) :
    wpAny (model P w) A (do
        storeSet a fs u
        if (!wd && u.tooFull) = true then do
            gv (relayAll u fs (SetTable.grown fs.size)).2.2
            storeSet a (relayAll u fs (SetTable.grown fs.size)).1 (relayAll u fs (SetTable.grown fs.size)).2.1
            pure (some true)
          else pure (some true)) R E s := by
  refine wpAny_bind (wpAny_storeSet_of ho hdt ?_ (fits_of_scanBound bnd))
  have hob := store_at (es' := fs) (t' := u) ho hdt
  have sbt := Heap.SameBut.update s.heap a (Obj.putSet fs u)
  split
  · have pr := relayAll_perm u fs (SetTable.grown fs.size); have fr := relayAll_fits u fs (SetTable.grown fs.size)
    have rr := relayAll_ris u fs (SetTable.grown fs.size); have lr := relayAll_led u fs (SetTable.grown fs.size)
    generalize relayAll u fs (SetTable.grown fs.size) = Z at pr fr rr lr ⊢
    obtain ⟨gs, v, gave⟩ := Z
    dsimp only at pr fr rr lr ⊢
    have sz : gs.size = fs.size := by rw [← Array.length_toList, pr.length_eq, Array.length_toList]
    have bn2 : gs.size < scanBound := by rw [sz]; exact bnd
    refine wpAny_bind (hgv _ _ _ ?_)
    refine wpAny_bind (wpAny_storeSet_of hob rfl ?_ (fits_of_scanBound bn2))
    have hoc := store_at (es' := gs) (t' := v) hob rfl
    refine wpAny_pure (k _ (sbt.trans (Heap.SameBut.update _ a _)) ⟨_, gs, _, v, hoc, hx, rfl, fun e he => gd e (pr.mem_iff.mp he), (pr.map kS).nodup_iff.mpr ndp, fun x => (mm x).trans (pr.map kS).mem_iff.symm, bn2, fr, rr, ld.imp id fun z => by rw [lr]; exact z⟩)
  · exact wpAny_pure (k _ sbt ⟨_, fs, _, u, hob, hx, rfl, gd, ndp, mm, bnd, fit, ri, ld⟩)
theorem putS_hashed {x : Str} {tk : Tok} {Q : Bool → Shared → Prop} (R : SetS w s.heap a l) (room : l.length + 1 < scanBound)
    (hQ : ∀ b h', Heap.SameBut a s.heap h' → SetS w h' a (l ++ [x]) → Q b { s with heap := h' }) :
    wpAny (model P w) A (setAddHashed a (.str x tk) ((mixKind P w).hash (.inr x))) Q E s := by
  obtain ⟨o, es, ep, t, ho, hx, hdt, gd, ndp, mm, bnd, fit, ri, ld⟩ := R
  have few : es.size ≤ l.length := by
    have z := nd_len ndp fun y hy => (mm y).mpr hy
    rw [List.length_map, Array.length_toList] at z; exact z
  have kx : (mixKind P w).is (.inr x) (.str x tk) = true := mixKind_str P w x tk
  have sc : (Value.str x tk).scannable = true := rfl
  have el : ElemsOf (mixKind P w) es.toList := goodS_el gd
  unfold setAddHashed setAddHashedIn
  refine wpAny_holding (wpAny_bind (wpAny_setState_of ho hdt fit ?_))
  dsimp only; rw [byScan_of sc bnd el]; simp only [↓reduceIte]
  unfold setAddByScan
  refine wpAny_bind ?_; refine wpAny_bind (wpAny_rule ?_); refine wpAny_bind (wpAny_setScan_of kx ho hdt fit el ?_)
  cases hfi : List.findIdx? (fun e => (mixKind P w).is (.inr x) e.2) es.toList with
  | some j =>
    dsimp only
    obtain ⟨hj, pj, _⟩ := List.findIdx?_eq_some_iff_getElem.mp hfi
    have inl : x ∈ l := (mm x).2 ((goodS_mem (P := P) (w := w) gd x).2 ⟨es.toList[j], List.getElem_mem hj, pj⟩)
    refine wpAny_pure (wpAny_pure (hQ _ s.heap (Heap.SameBut.refl a s.heap) ⟨o, es, ep, t, ho, hx, hdt, gd, ndp, fun y => ?_, bnd, fit, ri, ld⟩))
    rw [← mm y, List.mem_append, List.mem_singleton]
    exact ⟨fun z => z.elim id fun e => e ▸ inl, .inl⟩
  | none =>
    dsimp only
    have nx : x ∉ es.toList.map kS := fun z => by
      obtain ⟨e, he, q⟩ := (goodS_mem (P := P) (w := w) gd x).1 z
      have c := List.findIdx?_eq_none_iff.mp hfi e he
      rw [q] at c; cases c
    have gw : ∀ (b : Bool) {s₁ : Shared} {Q' : Unit → Shared → Prop}, Q' () s₁ → wpAny (model P w) A (match b with | true => rule "set.scan.the-table-gave-way" | false => pure ()) Q' E s₁ := fun b s₁ Q' q => by cases b; exact wpAny_pure q; exact wpAny_rule q
    have pr := layNew_perm t es ((mixKind P w).hash (.inr x)) (.str x tk); have f1 := layNew_fits t es ((mixKind P w).hash (.inr x)) (.str x tk)
    have r1 := layNew_ris t es ((mixKind P w).hash (.inr x)) (.str x tk) ri; have l1 := layNew_led t es ((mixKind P w).hash (.inr x)) (.str x tk)
    generalize layNew t es ((mixKind P w).hash (.inr x)) (.str x tk) = Z at pr f1 r1 l1 ⊢
    obtain ⟨fs, u, wd, gave⟩ := Z
    dsimp only at pr f1 r1 l1 ⊢
    rw [Array.toList_push] at pr
    have pc : fs.toList.Perm (((mixKind P w).hash (.inr x), Value.str x tk) :: es.toList) := pr.trans (List.perm_append_singleton _ _)
    have pk : (fs.toList.map kS).Perm (x :: es.toList.map kS) := pc.map kS
    have g1 : ∀ e ∈ fs.toList, GoodS w e := fun e he => by
      rcases List.mem_cons.mp (pc.mem_iff.mp he) with z | z
      · rw [z]; exact ⟨x, tk, rfl, rfl⟩
      · exact gd e z
    have n1 : (fs.toList.map kS).Nodup := pk.nodup_iff.mpr (List.nodup_cons.mpr ⟨nx, ndp⟩)
    have m1 : ∀ y, y ∈ l ++ [x] ↔ y ∈ fs.toList.map kS := fun y => by rw [pk.mem_iff, List.mem_cons, List.mem_append, List.mem_singleton, mm y]; exact Or.comm
    have sz : fs.size = es.size + 1 := by rw [← Array.length_toList, pc.length_eq, List.length_cons, Array.length_toList]
    have b1 : fs.size < scanBound := by omega
    have d1 : w.params.followText "set-order" = true ∨ u.led = true := ld.imp id fun z => by rw [l1]; exact z
    refine wpAny_bind (gw _ ?_)
    split
    · refine wpAny_bind ?_
      rw [hashByValue_scannable 8 sc]
      refine wpAny_pure ?_
      refine putS_tail ?_ ho hx hdt g1 n1 m1 b1 ?_ ?_ ?_ ?_
      · intro b s₁ Q' q; cases b; exact wpAny_pure q; exact wpAny_rule q
      · first | (split; exact f1; exact SetTable.fits_plain_off f1) | (split; exact SetTable.fits_plain_off f1; exact f1) | exact f1
      · first | (split <;> exact r1) | exact r1
      · first | (split <;> exact d1) | exact d1
      · intro h' sb r; dsimp only; exact wpAny_pure (hQ _ h' sb r)
    · refine wpAny_bind (wpAny_pure ?_)
      simp only [↓reduceIte]
      refine putS_tail ?_ ho hx hdt g1 n1 m1 b1 f1 r1 d1 ?_
      · intro b s₁ Q' q; cases b; exact wpAny_pure q; exact wpAny_rule q
      · intro h' sb r; dsimp only; exact wpAny_pure (hQ _ h' sb r)
theorem freshS {h : Heap} {b : Addr} (ho : h.get? b = some { cls := .type "set", dict := none, data := .set #[] 0 (.fresh 0 0 (!w.params.followText "set-order")) }) : SetS w h b [] :=
  ⟨_, #[], 0, _, ho, ⟨rfl, rfl, rfl⟩, rfl, fun e he => by simp at he, by simp, fun x => by simp, by decide, by rfl, List.Pairwise.nil, by
    show _ ∨ (!w.params.followText "set-order") = true
    cases w.params.followText "set-order"; exact .inr rfl; exact .inl rfl⟩
/-- set.update's loop over words -/
theorem loopS {I : Addr} {fp wr : List Addr} {G : Array GenState → Array GenState → Prop} {n : Nat} {Pv : Nat → Value → Prop} {St : Nat → Shared → Prop} {R : Result → Shared → Prop}
    (W : WalksS P w A.in1 I fp wr G n Pv St) (B : Addr) (hBf : B ∉ fp) (xs : List Str) (hn : n = xs.length) (room : xs.length + 1 < scanBound) (hval : ∀ (i : Nat) (v : Value), Pv i v → ∃ (x : Str) (tk : Tok), xs[i]? = some x ∧ v = Value.str x tk) :
    ∀ (k i : Nat) (s : Shared), n - i = k → i ≤ n → St i s → SetS w s.heap B (xs.take i) → (∀ s', Moved (B :: wr) G s s' → SetS w s'.heap B xs → R (.ok (.ret .none)) s') →
      codeAny (model P w) A (.builtin "set.update.loop" ⟨[.ref B, .ref I], []⟩) R s := by
  have hBw : B ∉ wr := fun h => hBf (W.sub _ h)
  have sub : ∀ b ∈ wr, b ∈ B :: wr := fun b hb => List.mem_cons_of_mem _ hb
  intro k
  induction k with
  | zero =>
    intro i s hk hi hst hS hR
    obtain rfl : i = n := by omega
    refine codeAny_builtin F.entry_set_update_loop ?_; rw [Around.under_plainId F.plain_set_update_loop _]
    show wpAny _ A.in1 (pyNext (.ref I) >>= _) _ _ s
    refine wpAny_bind (W.done s _ _ hst fun s' hm => ?_); show wpAny _ A.in1 (ret Value.none) _ _ s'
    rw [hn, List.take_length] at hS
    exact wpAny_pure (hR s' (hm.mono sub) (hS.keep fun o e => hm.heap B o hBw e))
  | succ k ih =>
    intro i s hk hi hst hS hR
    have lt : i < n := by omega
    refine codeAny_builtin F.entry_set_update_loop ?_; rw [Around.under_plainId F.plain_set_update_loop _]
    show wpAny _ A.in1 (pyNext (.ref I) >>= _) _ _ s
    refine wpAny_bind (W.item i s _ _ lt hst fun v s' hP hst' hm => ?_)
    obtain ⟨x, tk, hx, rfl⟩ := hval i v hP
    have hS' : SetS w s'.heap B (xs.take i) := hS.keep fun o e => hm.heap B o hBw e
    show wpAny _ A.in1 (holding [Value.str x tk] (setAdd B (.str x tk)) >>= _) _ _ s'
    refine wpAny_bind (wpAny_holding ?_); unfold setAdd; refine wpAny_holding ?_
    refine wpAny_bind ((mixKind P w).pyHash (mixKind_str P w x tk) ?_)
    refine putS_hashed (s := { s' with toks := s'.toks + 1 }) hS' (by rw [List.length_take]; omega) fun b h' hsb hS2 => ?_
    have e2 : xs.take (i + 1) = xs.take i ++ [x] := by rw [List.take_succ, hx]; rfl
    rw [← e2] at hS2
    refine wpAny_pure ⟨plainId_quiet F.plain_set_update_loop _, ih (i + 1) _ (by omega) lt (W.frame _ s' _ _ hst' (Nat.le_add_right _ _) fun b hb o e => ?_) hS2 fun s'' hm'' hS'' => ?_⟩
    · rw [hsb.2 b fun z : b = B => hBf (z ▸ hb)]; exact e
    · refine hR s'' (Moved.trans W.gtrans ((hm.mono sub).then_heap (Nat.le_add_right _ _) fun b o hb e => ?_) hm'') hS''
      rw [hsb.2 b fun z : b = B => hb (z ▸ List.mem_cons_self)]; exact e
/-- set(a list of words) -/
theorem callS {ls : Addr} {items : Array Value} (xs : List Str) {Q : Value → Shared → Prop} (hh : A.handled = none) (hl : s.heap.IsList ls items) (isz : items.size = xs.length) (itm : ∀ (i : Nat) (v : Value), items[i]? = some v → ∃ (x : Str) (tk : Tok), xs[i]? = some x ∧ v = Value.str x tk) (room : xs.length + 1 < scanBound)
    (k : ∀ (h' : Heap) (tk : Nat), SetS w h' s.heap.objs.size xs → (∀ b o, s.heap.get? b = some o → h'.get? b = some o) → Q (.ref s.heap.objs.size) { s with heap := h', toks := tk }) : wpAny (model P w) A (call (.type "set") [.ref ls]) Q E s := by
  obtain ⟨c, tl, hmro⟩ := F.called_set.mro
  have q1 := F.called_set.made; have q2 := F.called_set.sub
  refine wpAny_call (codeAny_of_tree ?_); show wpAny _ _ (callAny (.type "set") _) _ _ _
  refine wpAny_pure ⟨Code.quiet_builtin _ (by decide +kernel), codeAny_builtin F.entry_type_call ?_⟩; rw [Around.under_plain (weight_type_call_type "set" [.ref ls] []) rfl]
  have q3 := F.called_set.notType; have q4 := F.called_set.canCreate; have q5 := F.typeCall_set_1 (.ref ls)
  repeat (any_goals (first | assumption | wp_step))
  refine codeAny_mono (code_set_led1 (.ref ls) (E := E) (Q₁ := fun ob st => ob = .ref s.heap.objs.size ∧ st = { s with heap := s.heap.push { cls := .type "set", dict := none, data := .set #[] 0 (.fresh 0 0 (!w.params.followText "set-order")) } }) ⟨rfl, rfl⟩) fun r st hr => ?_
  cases r with
  | error e => exact hr
  | ok fl =>
    cases fl with
    | ret ob =>
      obtain ⟨rfl, rfl⟩ := hr
      have gS : (s.heap.push { cls := .type "set", dict := none, data := .set #[] 0 (.fresh 0 0 (!w.params.followText "set-order")) }).get? s.heap.objs.size = some { cls := .type "set", dict := none, data := .set #[] 0 (.fresh 0 0 (!w.params.followText "set-order")) } := Heap.get?_push_size _ rfl
      have tS : Shared.TypeIs { s with heap := s.heap.push { cls := .type "set", dict := none, data := .set #[] 0 (.fresh 0 0 (!w.params.followText "set-order")) } } (.ref s.heap.objs.size) "set" := ⟨_, gS, rfl⟩
      have iL := F.called_set.init.lookup; have iB := F.called_set.init.bind (.ref s.heap.objs.size)
      repeat (any_goals (first | assumption | wp_step))
      refine codeAny_mono (codeAny_call_builtin (R := wants (fun r st => r = .none ∧ ∃ h' tk, st = { s with heap := h', toks := tk } ∧ SetS w h' s.heap.objs.size xs ∧ (∀ b o, s.heap.get? b = some o → h'.get? b = some o)) E) F.called_set.init.plain F.entry_set_init (check_set_init_1 tS ?_)) fun r2 st2 hr2 => ?_
      · obtain ⟨⟨oc, od, oda, osl⟩, hol, hcl, nl, hdl⟩ := hl
        simp only at hcl hdl; subst hcl; subst hdl
        have hol2 : (s.heap.push { cls := .type "set", dict := none, data := .set #[] 0 (.fresh 0 0 (!w.params.followText "set-order")) }).get? ls = some { cls := .type "list", dict := od, data := .seq items nl, slots := osl } := Heap.get?_push_of_some _ hol
        have z1 := F.sub_list_set; have z2 := F.sub_list_frozenset
        have z3 : (Value.type "list" == Value.type "dict") = false := by decide
        have hl1 : (s.heap.push { cls := .type "set", dict := none, data := .set #[] 0 (.fresh 0 0 (!w.params.followText "set-order")) }).IsList ls items := ⟨_, hol2, rfl, nl, rfl⟩
        unfold Builtin.«set.__init__» noKeywords Builtin.Frozenset.updateFrom
        generalize hPI : pyIter = PI
        wp_walk; subst hPI
        refine wpAny_pyIter_list hl1 ?_; refine wpAny_bind (wpAny_runValue ?_)
        have lsz : ls < s.heap.objs.size := Heap.lt_size hol
        have h3 : A.in1.in1.in1.handled = none := by simp [hh]
        have neI : ls ≠ (s.heap.push { cls := .type "set", dict := none, data := .set #[] 0 (.fresh 0 0 (!w.params.followText "set-order")) }).objs.size := by rw [Heap.size_push]; exact Nat.ne_of_lt (Nat.lt_succ_of_lt lsz)
        have notin : s.heap.objs.size ∉ [(s.heap.push { cls := .type "set", dict := none, data := .set #[] 0 (.fresh 0 0 (!w.params.followText "set-order")) }).objs.size, ls] := by
          rw [Heap.size_push]; simp only [List.mem_cons, List.mem_singleton, List.not_mem_nil, or_false, not_or]; exact ⟨Nat.ne_of_lt (Nat.lt_succ_self _), Nat.ne_of_gt lsz⟩
        refine loopS ((Walks.list h3 _ ls neI items).toS) s.heap.objs.size notin xs isz room itm (items.size - 0) 0 _ (by omega) (Nat.zero_le _) ⟨⟨_, Heap.get?_push_size _ rfl, rfl, rfl⟩, (hl1.push _)⟩ ?gs ?gr
        case gs => exact freshS (Heap.get?_push_of_some _ gS)
        case gr =>
          intro s' hm hS'
          obtain ⟨h', g2, d', tk', os'⟩ := s'
          obtain rfl : g2 = s.gens := hm.gens
          obtain rfl : d' = s.drawn := hm.drawn
          obtain rfl : os' = s.os := hm.os
          show wpAny _ _ _ _ _ _; refine wpAny_pure ?_; show wpAny _ _ (ret Value.none) _ _ _
          refine wpAny_pure ⟨rfl, h', tk', rfl, hS', fun b o e => ?_⟩
          have hb := Heap.lt_size e
          have n1 : b ≠ s.heap.objs.size := Nat.ne_of_lt hb
          have n2 : b ≠ (s.heap.push { cls := .type "set", dict := none, data := .set #[] 0 (.fresh 0 0 (!w.params.followText "set-order")) }).objs.size := by rw [Heap.size_push]; exact Nat.ne_of_lt (Nat.lt_succ_of_lt hb)
          exact hm.heap b o (by simp only [List.mem_cons, List.mem_singleton, List.not_mem_nil, or_false, not_or]; exact ⟨n1, n2⟩) (Heap.get?_push_of_some _ (Heap.get?_push_of_some _ e))
      · cases r2 with
        | error e => exact hr2
        | ok fl2 =>
          cases fl2 with
          | ret r =>
            obtain ⟨rfl, h', tk, rfl, hS', hk'⟩ := hr2
            repeat (any_goals (first | assumption | wp_step))
            exact k _ _ hS' hk'
          | _ => exact hr2.elim
    | _ => exact hr.elim
end
/-- the set of words at a -/
def SetW (w : World) (a : Addr) (l : List Str) : HO := .ext fun h => SetS w h a l
theorem setW_new {w : World} {P : Program} {H : Hp} {h : Heap} {a : Addr} {l : List Str} (R : SetS w h a l) : ObjOk P w H h a (SetW w a l) := by
  have ⟨o, _, _, _, ho, _⟩ := R
  exact ⟨R, ⟨o, ho⟩, fun h1 h2 p k => SetS.keep p k⟩
theorem cr_setS {X : Cx} (hc : X.calm = true) : CallR X (.type "set") (fun vs H Q => ∃ (v : V) (l : List Str), vs = [v] ∧ rL rS H v l ∧ l.length < 64 ∧ ∀ p, H p = none → Q (.ref p) (upd H p (SetW X.w p l))) := by
  intro pins s σ H vs us Q I rr h
  obtain ⟨v, l, rfl, ⟨a, xs, rfl, e, k, hl⟩, h64, q⟩ := h
  obtain ⟨its, rv, ip, _⟩ := I.list (.inl (.inl e))
  rw [Vals.ref1 rr]
  have hx := k.len
  have hi := rv.length
  refine callS (w := X.w) l (I.ok.hd hc) ip.isList (by simp; omega) (fun i u hu => ?_) (by unfold scanBound; omega) fun h' tk R kp => ?_
  · have hu2 : its[i]? = some u := by simpa using hu
    have hil := (List.getElem?_eq_some_iff.mp hu2).1
    have ex : xs[i]? = some (xs[i]'(by omega)) := List.getElem?_eq_getElem _
    obtain ⟨u', e1, r1⟩ := rv.get ex
    obtain ⟨x, e2, ⟨e3, _⟩⟩ := k.at ex
    rw [hu2] at e1
    cases e1
    rw [e3] at r1
    obtain ⟨t, rfl⟩ := r1
    exact ⟨x, t, e2, rfl⟩
  · exact ⟨.ref _, upd H s.heap.objs.size (SetW X.w s.heap.objs.size l), I.laid (t' := tk) kp (Nat.le_refl _) (setW_new R), rfl, q _ (I.hok.fresh (Nat.le_refl _))⟩
section
variable {P : Program} {w : World} {A : Around} {E : Value → Shared → Prop} {s : Shared} {a : Addr} {l : List Str}
def strV (v : Value) : Str := match v with
  | .str x _ => x
  | _ => ⟨#[]⟩
theorem each_strs : ∀ {vs : List Value}, (∀ v ∈ vs, ∃ (x : Str) (tk : Tok), v = Value.str x tk) → PySem.W.EachIs (fun v (x : Str) => ∃ tk, v = Value.str x tk) vs (vs.map strV)
  | [], _ => .nil
  | v :: vs, h => by
    obtain ⟨x, tk, rfl⟩ := h v List.mem_cons_self
    exact .cons ⟨tk, rfl⟩ (each_strs fun u hu => h u (List.mem_cons_of_mem _ hu))
theorem sortS {Q : Value → Shared → Prop} (R : SetS w s.heap a l) (hh : A.handled = none) (hu : A.units + 10 < cLine)
    (k : ∀ s' p (out : List Value) (c : Nat), (∀ b o, s.heap.get? b = some o → s'.heap.get? b = some o) → s'.gens = s.gens → s'.os = s.os → s.heap.objs.size ≤ p → s'.heap.get? p = some (seqObj "list" out.toArray c) →
      PySem.W.EachIs (fun v (x : Str) => ∃ tk, v = Value.str x tk) out (srt (dd l)) → Q (.ref p) s') : wpAny (model P w) A (call (.builtin "sorted") [.ref a]) Q E s := by
  obtain ⟨o, es, ep, t, ho, hx, hdt, gd, ndp, mm, bnd, fit, ri, ld⟩ := R
  refine PySem.Calls.call_function_entry kind_sorted plain_sorted entry_sorted (args_sorted1 _) ?_; unfold Builtin.«sorted»
  refine wpAny_bind (m := checkCount "sorted" 1 1 _) (wpAny_pure ?_); refine wpAny_bind (collect_set (A := A.in1) hh ⟨o, ho, hx.1, hdt⟩ fit bnd ri ld fun s1 vs k1 hz g1 o1 pm => ?_)
  have vl : vs.length = es.size := by rw [pm.length_eq, List.length_map, Array.length_toList]
  have vfit : vs.length ≤ sizeLine := by rw [vl]; exact fits_of_scanBound bnd
  have e1 := each_strs (vs := vs) fun v hv => by
    obtain ⟨e, he, q⟩ := List.mem_map.mp (pm.mem_iff.mp hv)
    obtain ⟨x, tk, h1, _⟩ := gd e he
    exact ⟨x, tk, by rw [← q]; exact h1⟩
  have pk : (vs.map strV).Perm (es.toList.map kS) := by
    have q := pm.map strV
    rw [List.map_map] at q; exact q
  have same : srt (vs.map strV) = srt (dd l) := srt_congr (pk.trans (nd_perm ndp (dd_nd l) fun x => by rw [← mm x, dd_mem]))
  refine wpAny_bind (wpAny_newList ?_ vfit)
  have gL : (s1.heap.push (seqObj "list" vs.toArray 0)).get? s1.heap.objs.size = some (seqObj "list" vs.toArray 0) := Heap.get?_push_size _ rfl
  refine wpAny_bind (wpAny_holding (PySem.W.list_sort_data (s := { s1 with heap := s1.heap.push (seqObj "list" vs.toArray 0) }) (enc := fun x : Str => PyData.str x) gL e1 (e1.mono fun v x ⟨tk, e⟩ => ⟨[], by rw [e]; exact .str x tk, by simp⟩)
    (PySem.W.AllAlike.of fun b b' => by simp [PySem.W.alike]) (PySem.W.Sortable.others fun b => ⟨nofun, fun _ => nofun⟩) (by rw [List.length_map]; exact vfit) (fun b _ => by have : (PyData.str b).depth = 0 := by simp [PyData.depth]
                                                                                                                                                                              rw [this]; show A.in1.units + 1 + 0 < cLine; simp; omega) fun out hlen eo => ?_))
  obtain ⟨c, hc⟩ := sortedHeap_at (vs := vs) (out := out.toArray) gL
  refine wpAny_pure ⟨_, rfl, k _ s1.heap.objs.size out c (fun b u e => ?_) g1 o1 hz hc ?_⟩
  · have q := k1 b u e
    have lt := Heap.lt_size q
    show (sortedHeap (s1.heap.push (seqObj "list" vs.toArray 0)) s1.heap.objs.size vs out.toArray).get? b = some u
    rw [sortedHeap_old (Nat.ne_of_lt lt) (by rw [size_push']; exact Nat.lt_succ_of_lt lt)]; exact Heap.get?_push_of_some _ q
  · rw [show PySem.W.dataLe false (fun x : Str => PyData.str x) = leS from PySem.W.dataLe_str (fun b : Str => b)] at eo
    rw [← same]; exact eo
end
theorem vals_strs : ∀ {us : List Value} {l : List Str}, PySem.W.EachIs (fun v (x : Str) => ∃ tk, v = Value.str x tk) us l → Vals (l.map V.str) us
  | _, _, .nil => .nil
  | _, _, .cons h t => .cons h (vals_strs t)
theorem each_len : ∀ {us : List Value} {l : List Str}, PySem.W.EachIs (fun v (x : Str) => ∃ tk, v = Value.str x tk) us l → us.length = l.length := fun h => h.length
theorem cr_sortSet {X : Cx} (hc : X.calm = true) (hu : X.A.units + 10 < cLine) : CallR X (.builtin "sorted") (fun vs H Q => ∃ (a : Addr) (l : List Str), vs = [.ref a] ∧ H a = some (SetW X.w a l) ∧ l.length < 64 ∧ ∀ p, H p = none → Q (.ref p) (upd H p (.lst ((srt (dd l)).map V.str)))) := by
  intro pins s σ H vs us Q I rr h
  obtain ⟨a, l, rfl, e, h64, q⟩ := h
  have R : SetS X.w s.heap a l := (I.hok a _ e).1
  rw [Vals.ref1 rr]
  refine sortS R (I.ok.hd hc) hu fun s' p out c kp g o hp hg he => ?_
  have hb : ((srt (dd l)).map V.str).length ≤ sizeLine := by
    have h1 := nd_len (dd_nd l) fun a ha => dd_mem.mp ha
    rw [List.length_map, srt_len, sizeLine_eq]; omega
  have hn : H p = none := I.hok.fresh hp
  have J : Inv X pins σ (upd H p (.lst ((srt (dd l)).map V.str))) { s with heap := s'.heap, gens := s'.gens, drawn := s'.drawn, toks := s'.toks } :=
    I.call (ch := []) (Un.laid kp hp hn) (I.hok.laid kp hp ⟨hb, out, c, vals_strs he, hg⟩) (by rw [g]; exact I.bare) (fun _ z => nomatch z)
  have e2 : s' = { s with heap := s'.heap, gens := s'.gens, drawn := s'.drawn, toks := s'.toks } := by
    cases s'; cases s; cases o; rfl
  rw [e2]
  exact ⟨.ref p, _, J, rfl, q p hn⟩
section
variable {P : Program} {w : World} {K : PySem.W.Frag} {mg : Str → Option Value} {H : Hp} {v : V} {Q : VK} {l : List Str}
theorem c_setS (h : rL rS H v l) (h64 : l.length < 64) (q : ∀ p, H p = none → Q (.ref p) (upd H p (SetW w p l))) : rCl P w K mg (.type "set") [v] H Q := fun X L => ⟨_, cr_setS L.calm, v, l, rfl, h, h64, fun p hp => by rw [L.ww]; exact q p hp⟩
theorem c_sortSet {a : Addr} (h : H a = some (SetW w a l)) (hw : ∀ s ∈ l, wok s = true) (h64 : l.length < 64) (q : ∀ p H', Same H H' → H p = none → rL rS H' (.ref p) (srt (dd l)) → Q (.ref p) H') : rCl P w K mg (.builtin "sorted") [.ref a] H Q := fun X L => by
  have hu := L.un
  refine ⟨_, cr_sortSet L.calm (by omega), a, l, rfl, by rw [L.ww]; exact h, h64, fun p hp => q p _ (same_new (same_refl _) hp) hp ⟨p, _, rfl, upd_same, A2_strs fun s hs => hw s (dd_mem.mp (srt_mem.mp hs)), ?_⟩⟩
  have h1 := nd_len (dd_nd l) fun a ha => dd_mem.mp ha
  have h0 : 64 ≤ lim := by decide
  rw [srt_len]; omega
end
end Nb

/-! part M3 -/
set_option Elab.async false
set_option linter.all false
set_option maxRecDepth 100000
set_option maxHeartbeats 4000000
/-! Plain: entries, standings. -/
namespace Nb
open PySem PySem.Spec PyProof.Rows L2
def ents (ppl names : List Str) : List Entry := (none :: (srt ppl).map some).flatMap fun p => (srt names).map fun d => (p, d)
def ledF (M : Mach) (ls : List (List Str)) (st : St1) (e : Entry) : St1 := List.zipWith (fun lot s => if e.1 ∈ lot.map some then s else gi M.img (step1 M.deeds s e.2)) ls st
def begF (M : Mach) (ls : List (List Str)) : St1 := ls.map fun _ => gi M.img 0
def standF (M : Mach) (ls : List (List Str)) (log : List Entry) : St1 := log.foldl (ledF M ls) (begF M ls)
/-- a standing: as many states as lots -/
def okSt (n k : Nat) (st : St1) : Prop := st.length = k ∧ ∀ s ∈ st, inN n s
theorem idx_lt {α : Type} [BEq α] [LawfulBEq α] {l : List α} {a : α} (h : a ∈ l) : l.idxOf a < l.length := List.idxOf_lt_length_iff.mpr h
theorem cstep_ok {n : Nat} {ds : List (List Int)} {f : List Int} : ∀ x ∈ cstep n ds f, inN n x := by
  intro x hx
  unfold cstep at hx
  obtain ⟨r, hr, rfl⟩ := List.mem_map.mp hx
  have h := idx_lt hr
  simp only [List.length_map, List.length_range] at h
  exact ⟨by omega, by omega⟩
theorem img_ok {M : Mach} (h : OkM M) : ∀ x ∈ M.img, inN M.seen.length x := by
  have lo := h.lo
  rw [h.im]
  unfold classes
  obtain ⟨k, hk⟩ : ∃ k, M.seen.length = k + 1 := ⟨M.seen.length - 1, by omega⟩
  have e : itr (cstep M.seen.length (M.deeds.map Prod.snd)) M.seen.length M.seen = cstep M.seen.length (M.deeds.map Prod.snd) (itr (cstep M.seen.length (M.deeds.map Prod.snd)) k M.seen) := by
    conv => lhs; arg 2; rw [hk]
    rfl
  rw [e]
  exact cstep_ok
theorem im_len {M : Mach} (h : OkM M) : M.img.length = M.seen.length := by rw [h.im]; exact itr_len rfl _
theorem gimg_ok {M : Mach} (h : OkM M) {s : Int} (hs : inN M.seen.length s) : inN M.seen.length (gi M.img s) := img_ok h _ (gi_mem hs.1 (by rw [im_len h]; exact hs.2))
theorem begF_ok {M : Mach} (h : OkM M) (ls : List (List Str)) : okSt M.seen.length ls.length (begF M ls) := by
  have lo := h.lo
  refine ⟨by simp [begF], fun s hs => ?_⟩
  obtain ⟨_, _, rfl⟩ := List.mem_map.mp hs
  exact gimg_ok h ⟨by omega, by omega⟩
theorem ledF_ok {M : Mach} (h : OkM M) {ls : List (List Str)} {st : St1} {e : Entry} (hs : okSt M.seen.length ls.length st) (he : e.2 ∈ M.deeds.map Prod.fst) : okSt M.seen.length ls.length (ledF M ls st e) := by
  obtain ⟨h1, h2⟩ := hs
  unfold ledF
  refine ⟨by rw [List.length_zipWith, h1, Nat.min_self], fun s hs => ?_⟩
  obtain ⟨i, hi⟩ := List.getElem?_of_mem hs
  rw [List.getElem?_zipWith] at hi
  cases e1 : ls[i]? with
  | none => rw [e1] at hi; simp at hi
  | some lot =>
    cases e2 : st[i]? with
    | none => rw [e1, e2] at hi; simp at hi
    | some s0 =>
      rw [e1, e2] at hi
      simp at hi
      have h3 := h2 s0 (List.mem_of_getElem? e2)
      subst hi
      split
      · exact h3
      · exact gimg_ok h (step1_ok h.ok he h3)
theorem standF_acc {M : Mach} (h : OkM M) {ls : List (List Str)} : ∀ {log : List Entry} {st : St1}, okRows M.deeds log → okSt M.seen.length ls.length st → okSt M.seen.length ls.length (log.foldl (ledF M ls) st)
  | [], _, _, hs => hs
  | e :: log, _, ho, hs => standF_acc h (log := log) (fun a ha => ho a (List.mem_cons_of_mem _ ha)) (ledF_ok h hs (ho e List.mem_cons_self))
theorem standF_ok {M : Mach} (h : OkM M) {ls : List (List Str)} {log : List Entry} (ho : okRows M.deeds log) : okSt M.seen.length ls.length (standF M ls log) := standF_acc h ho (begF_ok h ls)
theorem ents_ok {M : Mach} {ppl : List Str} {e : Entry} (h : e ∈ ents ppl (M.deeds.map Prod.fst)) : e.2 ∈ M.deeds.map Prod.fst ∧ ∀ p, e.1 = some p → p ∈ ppl := by
  obtain ⟨p, hp, h2⟩ := List.mem_flatMap.mp h
  obtain ⟨d, hd, rfl⟩ := List.mem_map.mp h2
  refine ⟨srt_mem.mp hd, fun q hq => ?_⟩
  simp only at hq
  subst hq
  rcases List.mem_cons.mp hp with z | z
  · cases z
  · obtain ⟨a, ha, e⟩ := List.mem_map.mp z
    cases e
    exact srt_mem.mp ha
theorem ents_has {M : Mach} {ppl : List Str} {e : Entry} (h1 : e.2 ∈ M.deeds.map Prod.fst) (h2 : ∀ p, e.1 = some p → p ∈ ppl) : e ∈ ents ppl (M.deeds.map Prod.fst) := by
  refine List.mem_flatMap.mpr ⟨e.1, ?_, List.mem_map.mpr ⟨e.2, srt_mem.mpr h1, rfl⟩⟩
  cases e3 : e.1 with
  | none => exact List.mem_cons_self
  | some p => exact List.mem_cons_of_mem _ (List.mem_map.mpr ⟨p, srt_mem.mpr (h2 p e3), rfl⟩)
theorem ents_len {ppl names : List Str} : (ents ppl names).length = (ppl.length + 1) * names.length := by
  unfold ents
  rw [flat_len _ names.length _ (fun _ => by rw [List.length_map, srt_len]), List.length_cons, List.length_map, srt_len]
end Nb

/-! part M4 -/
set_option Elab.async false
set_option linter.all false
set_option maxRecDepth 100000
set_option maxHeartbeats 4000000
/-! The law's model of a machine, and what it says stands. -/
namespace Nb
open PySem PySem.Spec PyProof.Rows L2
abbrev Mdl := List Int × List (Str × List Int)
structure OkMdl (m : Mdl) : Prop where
  lo : 2 ≤ m.1.length
  hi : m.1.length ≤ 3
  sh : okInts 9 m.1
  d1 : 1 ≤ m.2.length
  d2 : m.2.length ≤ 2
  ok : okDeeds m.1.length m.2
  st : (m.2.map Prod.fst).Pairwise fun a b => leS a b = true
  nd : (m.2.map Prod.fst).Nodup
/-- the machine of a model -/
def mach (m : Mdl) : Mach := ⟨m.1, m.2, classes m.1 (m.2.map Prod.snd)⟩
theorem mach_ok {m : Mdl} (h : OkMdl m) : OkM (mach m) := by
  have lo := h.lo
  have hi := h.hi
  have d2 := h.d2
  exact ⟨h.lo, by show m.1.length ≤ 5; omega, h.sh, h.d1, by show m.2.length ≤ 4; omega, h.ok, rfl, h.st, h.nd⟩
def rMo : RR Mdl := fun H v m => (∃ d sh mp, v = .ref d ∧ H d = some (.dK [(.inr "shows", sh), (.inr "maps", mp)]) ∧ rL rI H sh m.1 ∧ rD (rL rI) H mp m.2) ∧ OkMdl m
instance : Mo rMo := ⟨fun h ⟨⟨d, sh, mp, e, e1, e2, e3⟩, ok⟩ => ⟨⟨d, sh, mp, e, h _ _ e1, Mo.mo h e2, Mo.mo h e3⟩, ok⟩⟩
abbrev Deed := List (Option Str)
abbrev rDe : RR Deed := rT rO
/-- what stands: the log, how many may be struck, the deeds -/
abbrev Here := List Entry × Int × List Deed
def rH : RR Here := fun H v s => ∃ d r q, v = .ref d ∧ H d = some (.dK [(.inr "rows", r), (.inr "few", .int s.2.1), (.inr "deeds", q)]) ∧ rL rE H r s.1 ∧ rL rDe H q s.2.2
instance : Mo rH := ⟨fun h ⟨d, r, q, e, e1, e2, e3⟩ => ⟨d, r, q, e, h _ _ e1, Mo.mo h e2, Mo.mo h e3⟩⟩
theorem vv_hd {k : Key} {v : V} {l : List (Key × V)} : valV ((k, v) :: l) k = some v := by simp [valV]
theorem vv_tl {k k' : Key} {v : V} {l : List (Key × V)} (h : ¬ k' = k) : valV ((k', v) :: l) k = valV l k := by
  unfold valV
  rw [List.find?_cons, decide_eq_false h]
section
variable {P : Program} {w : World} {K : PySem.W.Frag} {mg : Str → Option Value} {H : Hp} {v : V} {m : Mdl} {s : Here} {Q : VK}
theorem gMo_shows (h : rMo H v m) (q : ∀ y, rL rI H y m.1 → Q y H) : dgB v (.str "shows") H Q := by
  obtain ⟨⟨d, sh, mp, rfl, e1, e2, e3⟩, ok⟩ := h
  exact ⟨d, sh, rfl, .inl ⟨_, .inr "shows", .inl e1, rfl, vv_hd.symm⟩, q sh e2⟩
theorem vk2 {a b : V} : valV [((.inr "shows" : Key), a), ((.inr "maps" : Key), b)] (.inr "maps") = some b := by
  have n : ¬ ((.inr "shows" : Key) = .inr "maps") := by decide +kernel
  rw [vv_tl n, vv_hd]
theorem gMo_maps (h : rMo H v m) (q : ∀ y, rD (rL rI) H y m.2 → Q y H) : dgB v (.str "maps") H Q := by
  obtain ⟨⟨d, sh, mp, rfl, e1, e2, e3⟩, ok⟩ := h
  exact ⟨d, mp, rfl, .inl ⟨_, .inr "maps", .inl e1, rfl, vk2.symm⟩, q mp e3⟩
theorem nk1 : ¬ ((.inr "rows" : Key) = .inr "few") := by decide +kernel
theorem nk2 : ¬ ((.inr "rows" : Key) = .inr "deeds") := by decide +kernel
theorem nk3 : ¬ ((.inr "few" : Key) = .inr "deeds") := by decide +kernel
theorem gH_rows (h : rH H v s) (q : ∀ y, rL rE H y s.1 → Q y H) : dgB v (.str "rows") H Q := by
  obtain ⟨d, r, z, rfl, e1, e2, e3⟩ := h
  exact ⟨d, r, rfl, .inl ⟨_, .inr "rows", .inl e1, rfl, vv_hd.symm⟩, q r e2⟩
theorem gH_few (h : rH H v s) (q : Q (.int s.2.1) H) : dgB v (.str "few") H Q := by
  obtain ⟨d, r, z, rfl, e1, e2, e3⟩ := h
  exact ⟨d, _, rfl, .inl ⟨_, .inr "few", .inl e1, rfl, by rw [vv_tl nk1, vv_hd]⟩, q⟩
theorem gH_deeds (h : rH H v s) (q : ∀ y, rL rDe H y s.2.2 → Q y H) : dgB v (.str "deeds") H Q := by
  obtain ⟨d, r, z, rfl, e1, e2, e3⟩ := h
  exact ⟨d, z, rfl, .inl ⟨_, .inr "deeds", .inl e1, rfl, by rw [vv_tl nk2, vv_tl nk3, vv_hd]⟩, q z e3⟩
theorem c_dict {kvs : List (Key × V)} {d : Addr} (h : H d = some (.dK kvs)) (q : ∀ p, H p = none → Q (.ref p) (upd H p (.dK kvs))) : rCl P w K mg (.type "dict") [.ref d] H Q := fun _ _ => ⟨_, call_dictD, d, kvs, rfl, .inl h, q⟩
theorem seen_atL {l : List Int} {i : Int} {n : Nat} (h : rL rI H v l) (hi : inN n i) (hn : l.length = n) (q : Q (.int (gi l i)) H) : rXx P w K mg v (.int i) H Q :=
  x_RL (n := i.toNat) (b := gi l i) h (by have := hi.1; omega) (gi_at hi.1 hi.2 hn) fun y ry => by cases ry; exact q
theorem o_catR {α : Type} {r : RR α} [Tt r] {x y : V} {l l2 : List α} (h : rL r H x l) (k : rL r H y l2) (n : l.length + l2.length ≤ lim) (q : ∀ p H', Same H H' → H p = none → rL r H' (.ref p) (l ++ l2) → Q (.ref p) H') : rOp P w K mg (binaryOp .Add) x y H Q := by
  obtain ⟨a, xs, rfl, e1, k1, _⟩ := h
  obtain ⟨b, ys, rfl, e2, k2, _⟩ := k
  have b1 : lim ≤ sizeLine := by decide
  exact o_catL e1 e2 (by rw [k1.len, k2.len]; omega) fun p hp => q p _ (same_new (same_refl _) hp) hp (mk_L hp (k1.app k2) (by rw [List.length_append]; exact n))
theorem o_catTR {α : Type} {r : RR α} [Tt r] {x y : V} {l l2 : List α} (h : rT r H x l) (k : rT r H y l2) (n : l.length + l2.length ≤ lim) (q : ∀ p H', Same H H' → rT r H' (.ref p) (l ++ l2) → Q (.ref p) H') : rOp P w K mg (binaryOp .Add) x y H Q := by
  obtain ⟨a, xs, rfl, e1, k1, c1⟩ := id h
  obtain ⟨b, ys, rfl, e2, k2, c2⟩ := id k
  have b1 : lim ≤ sizeLine := by decide
  refine o_catT e1 e2 (by rw [k1.len, k2.len]; omega) (fun z => ?_) (fun _ z => ?_) fun p hp => q p _ (same_new (same_refl _) hp) (mk_T hp (k1.app k2) (by rw [List.length_append]; exact n))
  · have : l = [] := by rw [← List.length_eq_zero_iff, ← k1.len, z]; rfl
    subst this
    exact q b H (same_refl _) k
  · have : l2 = [] := by rw [← List.length_eq_zero_iff, ← k2.len, z]; rfl
    subst this
    exact q a H (same_refl _) (by rw [List.append_nil]; exact h)
end
end Nb

/-! part M5 -/
set_option Elab.async false
set_option linter.all false
set_option maxRecDepth 100000
set_option maxHeartbeats 4000000
/-! Plain: states that are alike within so many deeds; classes; images. -/
namespace Nb
open PySem PySem.Spec PyProof.Rows L2
def ek (sh : List Int) (ds : List (List Int)) : Nat → Int → Int → Bool
  | 0, a, b => decide (gi sh a = gi sh b)
  | k + 1, a, b => ek sh ds k a b && ds.all fun l => ek sh ds k (gi l a) (gi l b)
abbrev okDs (n : Nat) (ds : List (List Int)) : Prop := ∀ l ∈ ds, l.length = n ∧ okInts (n - 1) l
theorem okDs_at {n : Nat} {ds : List (List Int)} (h : okDs n ds) {l : List Int} (hl : l ∈ ds) {a : Int} (ha : inN n a) : inN n (gi l a) := by
  obtain ⟨h1, h2⟩ := h l hl
  obtain ⟨h3, h4⟩ := h2 _ (gi_mem (l := l) ha.1 (by rw [h1]; exact ha.2))
  exact ⟨h3, by omega⟩
section
variable {sh : List Int} {ds : List (List Int)} {n k : Nat} {a b c : Int}
theorem ek_refl : ∀ (k : Nat) (a : Int), ek sh ds k a a = true
  | 0, a => by simp [ek]
  | k + 1, a => by
    rw [ek, ek_refl k a, Bool.true_and, List.all_eq_true]
    exact fun l _ => ek_refl k _
theorem ek_symm : ∀ (k : Nat) (a b : Int), ek sh ds k a b = true → ek sh ds k b a = true
  | 0, a, b, h => by simp only [ek, decide_eq_true_eq] at h ⊢; exact h.symm
  | k + 1, a, b, h => by
    rw [ek, Bool.and_eq_true, List.all_eq_true] at h ⊢
    exact ⟨ek_symm k a b h.1, fun l hl => ek_symm k _ _ (h.2 l hl)⟩
theorem ek_trans : ∀ (k : Nat) (a b c : Int), ek sh ds k a b = true → ek sh ds k b c = true → ek sh ds k a c = true
  | 0, a, b, c, h, h' => by simp only [ek, decide_eq_true_eq] at h h' ⊢; exact h.trans h'
  | k + 1, a, b, c, h, h' => by
    rw [ek, Bool.and_eq_true, List.all_eq_true] at h h' ⊢
    exact ⟨ek_trans k a b c h.1 h'.1, fun l hl => ek_trans k _ _ _ (h.2 l hl) (h'.2 l hl)⟩
theorem ek_down (h : ek sh ds (k + 1) a b = true) : ek sh ds k a b = true := by
  rw [ek, Bool.and_eq_true] at h; exact h.1
theorem ek_down0 : ∀ k, ek sh ds k a b = true → ek sh ds 0 a b = true
  | 0, h => h
  | k + 1, h => ek_down0 k (ek_down h)
theorem gi_map {f : Nat → Int} {i : Int} (h : inN n i) : gi ((List.range n).map f) i = f i.toNat := by
  unfold gi
  rw [List.getD_eq_getElem?_getD, List.getElem?_map, List.getElem?_range (by have := h.1; have := h.2; omega)]
  rfl
theorem cstep_at {f : List Int} (ha : inN n a) : gi (cstep n ds f) a = (((List.range n).map (crow ds f)).idxOf (crow ds f a.toNat) : Int) := by
  unfold cstep
  rw [List.map_map, gi_map ha]
  rfl
theorem toN (ha : inN n a) : ((a.toNat : Nat) : Int) = a := by have := ha.1; omega
theorem row_in {f : List Int} (ha : inN n a) : crow ds f a.toNat ∈ (List.range n).map (crow ds f) := List.mem_map.mpr ⟨a.toNat, List.mem_range.mpr (by have := ha.1; have := ha.2; omega), rfl⟩
theorem cstep_eq {f : List Int} (ha : inN n a) (hb : inN n b) : gi (cstep n ds f) a = gi (cstep n ds f) b ↔ crow ds f a.toNat = crow ds f b.toNat := by
  rw [cstep_at ha, cstep_at hb]
  constructor
  · intro h
    have h2 : ((List.range n).map (crow ds f)).idxOf (crow ds f a.toNat) = ((List.range n).map (crow ds f)).idxOf (crow ds f b.toNat) := by omega
    have h3 := (mem_idx (row_in (ds := ds) (f := f) ha)).1
    have h4 := (mem_idx (row_in (ds := ds) (f := f) hb)).1
    rw [h2, h4] at h3
    exact (Option.some.inj h3).symm
  · intro h; rw [h]
theorem classes_ek (ok : okDs n ds) : ∀ (k : Nat) (a b : Int), inN n a → inN n b → (gi (itr (cstep n ds) k sh) a = gi (itr (cstep n ds) k sh) b ↔ ek sh ds k a b = true)
  | 0, a, b, _, _ => by simp [itr, ek]
  | k + 1, a, b, ha, hb => by
    show gi (cstep n ds (itr (cstep n ds) k sh)) a = _ ↔ _
    rw [show itr (cstep n ds) (k + 1) sh = cstep n ds (itr (cstep n ds) k sh) from rfl, cstep_eq ha hb, ek, Bool.and_eq_true, List.all_eq_true]
    unfold crow
    rw [toN ha, toN hb, List.cons.injEq, classes_ek ok k a b ha hb]
    constructor
    · rintro ⟨h1, h2⟩
      exact ⟨h1, fun l hl => (classes_ek ok k _ _ (okDs_at ok hl ha) (okDs_at ok hl hb)).mp (List.map_inj_left.mp h2 l hl)⟩
    · rintro ⟨h1, h2⟩
      exact ⟨h1, List.map_congr_left fun l hl => (classes_ek ok k _ _ (okDs_at ok hl ha) (okDs_at ok hl hb)).mpr (h2 l hl)⟩
/-- the class at a later turn is the first alike state -/
theorem img_first (ok : okDs n ds) (ha : inN n a) : ((List.range n).filter fun (b : Nat) => ek sh ds (k + 1) a (b : Int))[0]? = some (gi (itr (cstep n ds) (k + 1) sh) a).toNat ∧ inN n (gi (itr (cstep n ds) (k + 1) sh) a) := by
  have e : gi (itr (cstep n ds) (k + 1) sh) a = _ := cstep_at (f := itr (cstep n ds) k sh) ha
  generalize hF : itr (cstep n ds) k sh = F at e
  have hm := row_in (ds := ds) (f := F) ha
  have h1 := idx_lt hm
  simp only [List.length_map, List.length_range] at h1
  obtain ⟨h2, h3⟩ := mem_idx hm
  generalize ((List.range n).map (crow ds F)).idxOf (crow ds F a.toNat) = j at e h1 h2 h3
  rw [e]
  have eqv : ∀ b : Nat, b < n → (crow ds F b = crow ds F a.toNat ↔ ek sh ds (k + 1) a b = true) := by
    intro b hb
    have hbn : inN n (b : Int) := ⟨by omega, by omega⟩
    have z := classes_ek (sh := sh) ok (k + 1) a b ha hbn
    rw [show itr (cstep n ds) (k + 1) sh = cstep n ds F from by rw [← hF]; rfl, cstep_eq ha hbn] at z
    rw [← z]
    constructor
    · intro q; exact q.symm
    · intro q; exact q.symm
  have hj : ek sh ds (k + 1) a j = true := by
    refine (eqv j h1).mp ?_
    rw [List.getElem?_map, List.getElem?_range h1] at h2
    exact Option.some.inj h2
  have hn : ∀ b : Nat, b < j → ek sh ds (k + 1) a b = false := by
    intro b hb
    refine Bool.eq_false_iff.mpr fun q => ?_
    have z := (eqv b (by omega)).mpr q
    exact h3 b (crow ds F b) hb (by rw [List.getElem?_map, List.getElem?_range (by omega)]; rfl) z
  refine ⟨?_, by omega, by omega⟩
  have e2 : List.range n = List.range j ++ (List.range (n - j)).map (j + ·) := by rw [← List.range_add]; congr 1; omega
  rw [e2, List.filter_append]
  have e3 : (List.range j).filter (fun (b : Nat) => ek sh ds (k + 1) a (b : Int)) = [] := by
    rw [List.filter_eq_nil_iff]
    intro b hb
    rw [hn b (List.mem_range.mp hb)]
    simp
  rw [e3, List.nil_append]
  obtain ⟨r, hr⟩ : ∃ r, n - j = r + 1 := ⟨n - j - 1, by omega⟩
  rw [hr, List.range_succ_eq_map, List.map_cons, List.filter_cons]
  simp [hj]
end
end Nb

/-! part M6 -/
set_option Elab.async false
set_option linter.all false
set_option maxRecDepth 100000
set_option maxHeartbeats 4000000
/-! Plain: alikeness stands still behind as many deeds as there are states; runs over images. -/
namespace Nb
open PySem PySem.Spec PyProof.Rows L2
theorem least_nat {p : Nat → Prop} : ∀ n, p n → ∃ k, k ≤ n ∧ p k ∧ ∀ j, j < k → ¬ p j := by
  intro n
  induction n using Nat.strongRecOn with
  | ind n ih =>
    intro h
    by_cases q : ∃ j, j < n ∧ p j
    · obtain ⟨j, h1, h2⟩ := q
      obtain ⟨k, h3, h4⟩ := ih j h1 h2
      exact ⟨k, by omega, h4⟩
    · exact ⟨n, Nat.le_refl _, h, fun j hj hp => q ⟨j, hj, hp⟩⟩
theorem filt_len {α : Type} {p q : α → Bool} : ∀ {l : List α}, (∀ a ∈ l, p a = true → q a = true) → (l.filter p).length ≤ (l.filter q).length ∧ ((l.filter q).length ≤ (l.filter p).length → ∀ a ∈ l, q a = true → p a = true)
  | [], _ => ⟨Nat.le_refl _, fun _ a ha => by simp at ha⟩
  | a :: l, h => by
    obtain ⟨h1, h2⟩ := filt_len (p := p) (q := q) (l := l) fun b hb => h b (List.mem_cons_of_mem _ hb)
    have h3 := h a List.mem_cons_self
    rw [List.filter_cons, List.filter_cons]
    cases hp : p a
    · cases hq : q a
      · simp only [Bool.false_eq_true, if_false]
        refine ⟨h1, fun z b hb => ?_⟩
        rcases List.mem_cons.mp hb with rfl | hb
        · intro y; rw [hq] at y; cases y
        · exact h2 z b hb
      · simp only [Bool.false_eq_true, if_false, if_true, List.length_cons]
        exact ⟨by omega, fun z => by omega⟩
    · rw [hp] at h3
      rw [h3 rfl]
      simp only [if_true, List.length_cons]
      refine ⟨by omega, fun z b hb => ?_⟩
      rcases List.mem_cons.mp hb with rfl | hb
      · intro _; exact hp
      · exact h2 (by omega) b hb
section
variable {sh : List Int} {ds : List (List Int)} {n k : Nat} {a b c : Int}
def reps (sh : List Int) (ds : List (List Int)) (n k : Nat) : List Nat := (List.range n).filter fun a => (List.range a).all fun b => !ek sh ds k (b : Int) (a : Int)
abbrev still (sh : List Int) (ds : List (List Int)) (n k : Nat) : Prop := ∀ a b : Int, inN n a → inN n b → ek sh ds k a b = true → ek sh ds (k + 1) a b = true
theorem still_next (ok : okDs n ds) (h : still sh ds n k) : still sh ds n (k + 1) := by
  intro a b ha hb e
  have e2 := e
  rw [ek, Bool.and_eq_true, List.all_eq_true] at e2
  rw [ek, Bool.and_eq_true, List.all_eq_true]
  exact ⟨e, fun l hl => h _ _ (okDs_at ok hl ha) (okDs_at ok hl hb) (e2.2 l hl)⟩
theorem still_from (ok : okDs n ds) (h : still sh ds n k) : ∀ j, still sh ds n (k + j)
  | 0 => h
  | j + 1 => still_next ok (still_from ok h j)
theorem rep_of {a : Int} (ha : inN n a) (k : Nat) : ∃ r : Nat, r < n ∧ ek sh ds k a r = true ∧ ∀ c : Nat, c < r → ek sh ds k c r = false := by
  obtain ⟨r, h1, h2, h3⟩ := least_nat (p := fun r => ek sh ds k a (r : Int) = true) a.toNat (by rw [toN ha]; exact ek_refl k a)
  refine ⟨r, by have := ha.1; have := ha.2; omega, h2, fun c hc => ?_⟩
  exact Bool.eq_false_iff.mpr fun z => h3 c hc (ek_trans k _ _ _ h2 (ek_symm k _ _ z))
theorem reps_step : (reps sh ds n k).length ≤ (reps sh ds n (k + 1)).length ∧ ((reps sh ds n (k + 1)).length ≤ (reps sh ds n k).length → still sh ds n k) := by
  have h := filt_len (p := fun a : Nat => (List.range a).all fun b : Nat => !ek sh ds k (b : Int) (a : Int)) (q := fun a : Nat => (List.range a).all fun b : Nat => !ek sh ds (k + 1) (b : Int) (a : Int)) (l := List.range n) (by
    intro a _ h
    rw [List.all_eq_true] at h ⊢
    intro b hb
    have z := h b hb
    cases e : ek sh ds (k + 1) (b : Int) (a : Int)
    · rfl
    · rw [ek_down e] at z; exact z)
  refine ⟨h.1, fun le a b ha hb e => ?_⟩
  have sub := h.2 le
  obtain ⟨r, r1, r2, r3⟩ := rep_of (sh := sh) (ds := ds) ha (k + 1)
  obtain ⟨q, q1, q2, q3⟩ := rep_of (sh := sh) (ds := ds) hb (k + 1)
  have mem : ∀ x : Nat, x < n → (∀ c : Nat, c < x → ek sh ds (k + 1) c x = false) → ∀ c : Nat, c < x → ek sh ds k c x = false := fun x hx hc c hcx => by
    have z := sub x (List.mem_range.mpr hx) (List.all_eq_true.mpr fun d hd => by rw [hc d (List.mem_range.mp hd)]; rfl)
    have y := List.all_eq_true.mp z c (List.mem_range.mpr hcx)
    cases e : ek sh ds k (c : Int) (x : Int)
    · rfl
    · rw [e] at y; cases y
  have rq : ek sh ds k r q = true := ek_trans k _ _ _ (ek_symm k _ _ (ek_down r2)) (ek_trans k _ _ _ e (ek_down q2))
  rcases Nat.lt_trichotomy r q with lt | rfl | gt
  · rw [mem q q1 q3 r lt] at rq; cases rq
  · exact ek_trans (k + 1) _ _ _ r2 (ek_symm (k + 1) _ _ q2)
  · have z := mem r r1 r3 q gt
    rw [ek_symm k _ _ rq] at z; cases z
theorem still_n (ok : okDs n ds) (hn : 1 ≤ n) : still sh ds n n := by
  have ex : ∃ k, k < n ∧ still sh ds n k := by
    refine Classical.byContradiction fun no => ?_
    have grow : ∀ k, k ≤ n → k + 1 ≤ (reps sh ds n k).length := by
      intro k
      induction k with
      | zero =>
        intro _
        have : 0 ∈ reps sh ds n 0 := List.mem_filter.mpr ⟨List.mem_range.mpr (by omega), by simp⟩
        have := List.length_pos_of_mem this
        omega
      | succ k ih =>
        intro hk
        have h1 := ih (by omega)
        have h2 := reps_step (sh := sh) (ds := ds) (n := n) (k := k)
        by_cases le : (reps sh ds n (k + 1)).length ≤ (reps sh ds n k).length
        · exact absurd ⟨k, by omega, h2.2 le⟩ no
        · omega
    have h3 := grow n (Nat.le_refl _)
    have h4 : (reps sh ds n n).length ≤ n := by
      have := List.length_filter_le (fun a : Nat => (List.range a).all fun b : Nat => !ek sh ds n (b : Int) (a : Int)) (List.range n)
      simpa [reps] using this
    omega
  obtain ⟨k, h1, h2⟩ := ex
  have h3 := still_from ok h2 (n - k)
  rwa [show k + (n - k) = n by omega] at h3
end
/-! over a machine -/
section
variable {M : Mach} {s t : Int} {d : Str}
theorem okDs_of {n : Nat} {m : List (Str × List Int)} (h : okDeeds n m) : okDs n (m.map Prod.snd) := fun l hl => by
  obtain ⟨p, hp, rfl⟩ := List.mem_map.mp hl
  exact h p hp
abbrev like (M : Mach) (s t : Int) : Bool := ek M.seen (M.deeds.map Prod.snd) M.seen.length s t
theorem img_like (h : OkM M) (hs : inN M.seen.length s) (ht : inN M.seen.length t) : gi M.img s = gi M.img t ↔ like M s t = true := by
  rw [h.im]
  exact classes_ek (okDs_of h.ok) _ _ _ hs ht
theorem like_step (h : OkM M) (hs : inN M.seen.length s) (ht : inN M.seen.length t) (hd : d ∈ M.deeds.map Prod.fst) (e : like M s t = true) : like M (step1 M.deeds s d) (step1 M.deeds t d) = true := by
  have lo := h.lo
  have z := still_n (sh := M.seen) (okDs_of h.ok) (by omega) s t hs ht e
  rw [ek, Bool.and_eq_true, List.all_eq_true] at z
  obtain ⟨l, hl⟩ := lookup_of_key hd
  unfold step1
  rw [hl]
  exact z.2 l (List.mem_map.mpr ⟨(d, l), lookup_mem hl, rfl⟩)
theorem like_img (h : OkM M) (hs : inN M.seen.length s) : like M s (gi M.img s) = true ∧ inN M.seen.length (gi M.img s) := by
  have lo := h.lo
  obtain ⟨k, hk⟩ : ∃ k, M.seen.length = k + 1 := ⟨M.seen.length - 1, by omega⟩
  have z := img_first (sh := M.seen) (k := k) (okDs_of h.ok) hs
  rw [← hk] at z
  have e : itr (cstep M.seen.length (M.deeds.map Prod.snd)) M.seen.length M.seen = M.img := by rw [h.im]; rfl
  rw [e] at z
  refine ⟨?_, z.2⟩
  have m := List.mem_of_getElem? z.1
  have y := (List.mem_filter.mp m).2
  rw [toN z.2] at y
  exact y
/-- a deed from the image leads to the same image -/
theorem img_step (h : OkM M) (hs : inN M.seen.length s) (hd : d ∈ M.deeds.map Prod.fst) : gi M.img (step1 M.deeds (gi M.img s) d) = gi M.img (step1 M.deeds s d) := by
  obtain ⟨h1, h2⟩ := like_img h hs
  refine ((img_like h (step1_ok h.ok hd hs) (step1_ok h.ok hd h2)).mpr ?_).symm
  exact like_step h hs h2 hd h1
theorem img_seen (h : OkM M) (hs : inN M.seen.length s) (ht : inN M.seen.length t) (e : gi M.img s = gi M.img t) : gi M.seen s = gi M.seen t := by
  have z := ek_down0 _ ((img_like h hs ht).mp e)
  simpa [ek] using z
end
end Nb

/-! part M7 -/
set_option Elab.async false
set_option linter.all false
set_option maxRecDepth 100000
set_option maxHeartbeats 4000000
/-! Plain: standings are images behind logs. -/
namespace Nb
open PySem PySem.Spec PyProof.Rows L2
section
variable {M : Mach} {ls : List (List Str)} {rows : List Entry} {e : Entry} {lot : List Str}
theorem rest_snoc : rest (rows ++ [e]) lot = if e.1 ∈ lot.map some then rest rows lot else rest rows lot ++ [e] := by
  unfold rest
  rw [List.filter_append, List.filter_cons]
  by_cases h : e.1 ∈ lot.map some
  · simp [h]
  · simp only [h, decide_false, Bool.not_false, if_true, if_false, List.filter_nil]
theorem behind_snoc {m : List (Str × List Int)} : behind m (rows ++ [e]) lot = if e.1 ∈ lot.map some then behind m rows lot else step1 m (behind m rows lot) e.2 := by
  unfold behind
  rw [rest_snoc]
  split
  · rfl
  · unfold runM
    rw [List.map_append, List.foldl_append]
    rfl
def vecF (M : Mach) (ls : List (List Str)) (rows : List Entry) : St1 := ls.map fun lot => gi M.img (behind M.deeds rows lot)
theorem standF_snoc : standF M ls (rows ++ [e]) = ledF M ls (standF M ls rows) e := by
  unfold standF; rw [List.foldl_append]; rfl
theorem zip_self {α β : Type} (f : α → β → β) (g : α → β) : ∀ l : List α, List.zipWith f l (l.map g) = l.map fun a => f a (g a)
  | [] => rfl
  | a :: l => by rw [List.map_cons, List.zipWith_cons_cons, zip_self f g l, List.map_cons]
theorem snoc_ind {α : Type} {p : List α → Prop} (h0 : p []) (h1 : ∀ l a, p l → p (l ++ [a])) (l : List α) : p l := by
  have key : ∀ n (l : List α), l.length = n → p l := by
    intro n
    induction n with
    | zero => intro l h; rw [List.length_eq_zero_iff.mp h]; exact h0
    | succ n ih =>
      intro l h
      rcases snoc_cases l with rfl | ⟨v, e, rfl⟩
      · exact h0
      · exact h1 v e (ih v (by simpa using h))
  exact key _ l rfl
theorem stand_vec (h : OkM M) (rows : List Entry) : okRows M.deeds rows → standF M ls rows = vecF M ls rows := by
  have lo := h.lo
  refine snoc_ind (p := fun rows => okRows M.deeds rows → standF M ls rows = vecF M ls rows) (fun _ => ?_) (fun rows e ih ok => ?_) rows
  · unfold standF vecF begF behind rest
    rfl
  · have ok1 : okRows M.deeds rows := fun a ha => ok a (List.mem_append_left _ ha)
    have he : e.2 ∈ M.deeds.map Prod.fst := ok e (by simp)
    rw [standF_snoc, ih ok1]
    unfold ledF vecF
    rw [zip_self]
    refine List.map_congr_left fun lot _ => ?_
    rw [behind_snoc]
    split
    · rfl
    · exact img_step h (behind_ok (by omega) h.ok ok1) he
end
end Nb

/-! part D1 -/
set_option Elab.async false
set_option linter.all false
set_option maxRecDepth 100000
set_option maxHeartbeats 4000000
namespace Nb
open PySem PySem.Spec PyProof.Rows L2
local macro_rules | `(tactic| walk_at "S") => `(tactic| (try simp only [tSeq, tNext, tRet, tIfS, tDrop, tAsg, gName, tFor_eq, tWhile_eq, tLc_eq, tLc2_eq, tDc_eq, sFld_eq, sDPut_eq, tPar, tPar3, tC, tVar, tCB, tOp, tTup, tLst, tChain, tDGet_eq, tDGet2, tAndV, tOrV, tNotV, tIf, tLstRg, tRg1, tDisp, tPairs, tUn, rU, tTest, tNot, tB, tAnd, tOr, tYes, tSl, tPart, tNoPart, tRevL, tM1, tDNewK, tDNewT, gCons_c, gNil_n, gSub, gTup_eq, iRng1_eq, iList_eq, iTup_eq, iSeq_eq, iStr, iKeys_eq, iVals_eq, iEnum_eq, cx_K, tCons, tNil, tBM, tCall, tMake, tProp, tMeth, tFld_eq, tStar_eq, iZipM_eq, tDisp1, L2.start, List.map_cons, List.map_nil, List.length_cons, List.length_nil, List.cons_append, List.nil_append, List.append_nil, List.getElem?_cons_zero, List.getElem?_cons_succ, List.set_cons_zero, List.set_cons_succ, Option.some.injEq, exists_eq_left', exists_eq_left, V.bl.injEq, V.int.injEq, V.str.injEq, V.ref.injEq, if_true, if_false, Nat.reduceAdd, Nat.reduceSub, List.replicate_succ, List.replicate_zero, Bool.not_true, Bool.not_false, Bool.false_eq_true, if_neg, not_false_eq_true, wipe]))
local macro_rules | `(tactic| walk_at "G") => `(tactic| (walk_at "S"; repeat ((first | with_reducible refine o_add ?_ | with_reducible refine o_sub ?_ | with_reducible refine o_mul ?_ | with_reducible refine o_lt ?_ | with_reducible refine o_le ?_ | with_reducible refine o_gt ?_ | with_reducible refine o_ge ?_ | with_reducible refine o_eqI ?_ | with_reducible refine o_neI ?_ | with_reducible refine o_eqS ?_ | with_reducible refine o_neS ?_ | with_reducible refine o_isN ?_ | with_reducible refine o_notN ?_ | with_reducible refine i_int ?_ | with_reducible refine i_intB ?_ | with_reducible refine i_str ?_); walk_at "S")))
section
variable {P : Program} {w : World} {K : PySem.W.Frag} {mg : Str → Option Value} {base : Heap}
def sp_is_number : Sp := fun vs H Q _ => match vs with
  | [v] => (∃ i, v = .int i) ∧ Q (.bl true) H
  | _ => False
theorem sc_is_number : FnScope ["thing"] ["thing"] (defScope s_is_number) := ⟨rfl, rfl, rfl, by decide +kernel, rfl, by decide +kernel, by decide +kernel⟩
theorem sp_is_number_len : ∀ (vs : List V) (H : Hp) (Q : VK) (E : XK), sp_is_number vs H Q E → vs.length = 1
  | [_], _, _, _, _ => rfl
  | [], _, _, _, h => h.elim
  | _ :: _ :: _, _, _, _, h => h.elim
theorem cal_is_number (T : Tx P w K mg) : Cl P w K mg base 1 "is_number" sp_is_number [] := by
  refine cl_of (st := s_is_number) (qual := "is_number") (kws := []) (T.c.def_ 0 (d := d_is_number) rfl) sc_is_number sp_is_number_len (T.glo 10 rfl) (fun _ _ _ _ _ _ us hl => match us, hl with | [_], _ => rfl) (fun cdv A outer s H vs Q E hr h => ⟨_, (pss_one (ps_ret (pe_and (pe_callB (cl_any (f := .builtin "isinstance") T hr) rfl (T.free 108 rfl) (by decide +kernel) (pa_cons (pv 0) (pa_cons (pe_bltn (v := .ty "int") (u := .type "int") rfl (T.free 107 rfl) (by decide +kernel) rfl) pa_nil))) (pe_one (pe_not (pe_callB (cl_any (f := .builtin "isinstance") T hr) rfl (T.free 108 rfl) (by decide +kernel) (pa_cons (pv 0) (pa_cons (pe_bltn (v := .ty "bool") (u := .type "bool") rfl (T.free 104 rfl) (by decide +kernel) rfl) pa_nil)))))))), ?_⟩)
  obtain ⟨a0, rfl⟩ := len1 (sp_is_number_len _ _ _ _ h)
  obtain ⟨⟨i, rfl⟩, q⟩ := h
  walk_at "S"
  refine i_int ?_
  walk_at "S"
  exact i_intB (by walk_at "S"; exact q)
def sp_is_number_in : Sp := fun vs H Q _ => match vs with
  | [v, x, y] => ∃ i a b, v = .int i ∧ x = .int a ∧ y = .int b ∧ Q (.bl (decide (a ≤ i) && decide (i ≤ b))) H
  | _ => False
theorem sc_is_number_in : FnScope ["thing", "least", "most"] ["thing", "least", "most"] (defScope s_is_number_in) := ⟨rfl, rfl, rfl, by decide +kernel, rfl, by decide +kernel, by decide +kernel⟩
theorem sp_is_number_in_len : ∀ (vs : List V) (H : Hp) (Q : VK) (E : XK), sp_is_number_in vs H Q E → vs.length = 3
  | [_, _, _], _, _, _, _ => rfl
  | [], _, _, _, h => h.elim
  | [_], _, _, _, h => h.elim
  | [_, _], _, _, _, h => h.elim
  | _ :: _ :: _ :: _ :: _, _, _, _, h => h.elim
theorem cal_is_number_in (T : Tx P w K mg) : Cl P w K mg base 2 "is_number_in" sp_is_number_in [] := by
  refine cl_of (st := s_is_number_in) (qual := "is_number_in") (kws := []) (T.c.def_ 1 (d := d_is_number_in) rfl) sc_is_number_in sp_is_number_in_len (T.glo 11 rfl) (fun _ _ _ _ _ _ us hl => match us, hl with | [_, _, _], _ => rfl) (fun cdv A outer s H vs Q E hr h => ⟨_, (pss_one (ps_ret (pe_and (pe_cl (cal_is_number T) hr (by decide) rfl (pa_cons (pv 0) pa_nil)) (pe_one (pe_chain (op_any T hr) (op_any T hr) (pv 1) (pv 0) (pv 2)))))), ?_⟩)
  obtain ⟨a0, a1, a2, rfl⟩ := len3 (sp_is_number_in_len _ _ _ _ h)
  obtain ⟨i, a, b, rfl, rfl, rfl, q⟩ := h
  walk_at "S"
  refine ⟨⟨i, rfl⟩, ?_⟩
  walk_at "S"
  refine o_le ?_
  walk_at "S"
  by_cases k : a ≤ i
  · simp only [k, decide_true, if_true, Bool.true_and] at q ⊢
    exact o_le q
  · simp only [k, decide_false, Bool.false_and] at q ⊢
    exact q
def sp_is_list : Sp := fun vs H Q _ => match vs with
  | [v] => isSeq H v ∧ PuV (.bl true) Q H
  | _ => False
theorem sc_is_list : FnScope ["thing"] ["thing"] (defScope s_is_list) := ⟨rfl, rfl, rfl, by decide +kernel, rfl, by decide +kernel, by decide +kernel⟩
theorem sp_is_list_len : ∀ (vs : List V) (H : Hp) (Q : VK) (E : XK), sp_is_list vs H Q E → vs.length = 1
  | [_], _, _, _, _ => rfl
  | [], _, _, _, h => h.elim
  | _ :: _ :: _, _, _, _, h => h.elim
theorem cal_is_list (T : Tx P w K mg) : Cl P w K mg base 1 "is_list" sp_is_list [] := by
  refine cl_of (st := s_is_list) (qual := "is_list") (kws := []) (T.c.def_ 2 (d := d_is_list) rfl) sc_is_list sp_is_list_len (T.glo 12 rfl) (fun _ _ _ _ _ _ us hl => match us, hl with | [_], _ => rfl) (fun cdv A outer s H vs Q E hr h => ⟨_, (pss_one (ps_ret (pe_callB (cl_any (f := .builtin "isinstance") T hr) rfl (T.free 108 rfl) (by decide +kernel) (pa_cons (pv 0) (pa_cons (pe_tup (pa_cons (pe_bltn (v := .ty "list") (u := .type "list") rfl (T.free 110 rfl) (by decide +kernel) rfl) (pa_cons (pe_bltn (v := .ty "tuple") (u := .type "tuple") rfl (T.free 119 rfl) (by decide +kernel) rfl) pa_nil))) pa_nil))))), ?_⟩)
  obtain ⟨a0, rfl⟩ := len1 (sp_is_list_len _ _ _ _ h)
  obtain ⟨⟨a, xs, rfl, e⟩, q⟩ := h
  walk_at "S"
  refine ⟨by decide, fun p hp => i_seq ⟨a, xs, rfl, ?_⟩ upd_same (q _ (same_new (same_refl _) hp))⟩
  exact e.imp (same_new (same_refl _) hp _ _) (same_new (same_refl _) hp _ _)
def sp_is_name : Sp := fun vs H Q _ => match vs with
  | [v] => ∃ s, rS H v s ∧ PuV (.bl true) Q H
  | _ => False
theorem sc_is_name : FnScope ["thing", "sign"] ["thing"] (defScope s_is_name) := ⟨rfl, rfl, rfl, by decide +kernel, rfl, by decide +kernel, by decide +kernel⟩
theorem sp_is_name_len : ∀ (vs : List V) (H : Hp) (Q : VK) (E : XK), sp_is_name vs H Q E → vs.length = 1
  | [_], _, _, _, _ => rfl
  | [], _, _, _, h => h.elim
  | _ :: _ :: _, _, _, _, h => h.elim
theorem cal_is_name (T : Tx P w K mg) : Cl P w K mg base 1 "is_name" sp_is_name [] := by
  refine cl_of (st := s_is_name) (qual := "is_name") (kws := []) (T.c.def_ 3 (d := d_is_name) rfl) sc_is_name sp_is_name_len (T.glo 13 rfl) (fun _ _ _ _ _ _ us hl => match us, hl with | [_], _ => rfl) (fun cdv A outer s H vs Q E hr h => ⟨_, (pss_one (ps_ret (pe_and (pe_callB (cl_any (f := .builtin "isinstance") T hr) rfl (T.free 108 rfl) (by decide +kernel) (pa_cons (pv 0) (pa_cons (pe_bltn (v := .ty "str") (u := .type "str") rfl (T.free 117 rfl) (by decide +kernel) rfl) pa_nil))) (pe_and (pe_chain (op_any T hr) (op_any T hr) pe_int (pe_callB (cl_any (f := .builtin "len") T hr) rfl (T.free 109 rfl) (by decide +kernel) (pa_cons (pv 0) pa_nil)) (pe_gi rfl (T.int 122 rfl))) (pe_one (pe_callB (cl_any (f := .builtin "all") T hr) rfl (T.free 102 rfl) (by decide +kernel) (pa_cons (pe_lc (own := [("sign", 1)]) rfl sc_is_name.nd (pi_str (pv 0)) (blkOk_by (own := [("sign", 1)]) (N := ["thing", "sign"]) (sc := defScope s_is_name) (by decide +kernel)) (fun _ _ _ _ _ => (pg_name (i := 1) sc_is_name.nd rfl (Or.inl rfl))) (fun _ _ _ _ _ => pts_nil) (fun _ _ _ _ _ => (pe_cmpR (op_any T hr) (pv 1) (pe_gs rfl (T.str 121 rfl)) (by rfl)))) pa_nil))))))), ?_⟩)
  obtain ⟨a0, rfl⟩ := len1 (sp_is_name_len _ _ _ _ h)
  obtain ⟨z, ⟨rfl, hs⟩, q⟩ := h
  obtain ⟨h1, h2, h3⟩ := wok_of hs
  have hz : z.length ≤ sizeLine := Nat.le_trans h2 (by decide)
  walk_at "S"
  refine i_str ?_
  walk_at "S"
  refine c_lenS hz ?_
  walk_at "S"
  refine o_le ?_
  walk_at "S"
  rw [decide_eq_true (show (1 : Int) ≤ z.length by omega)]
  walk_at "S"
  refine o_le ?_
  walk_at "S"
  rw [decide_eq_true (show (z.length : Int) ≤ 6 by omega)]
  walk_at "S"
  refine lc_S (r' := rB) (fun _ => some true) (Nat.le_trans h2 (by decide)) (fun c H1 hc hs Yk N k1 k2 => ?_) fun D H1 hs hD k => ?_
  · walk_at "S"
    refine ⟨trivial, o_inSign ?_⟩
    exact k1 _ rfl _ _ (same_refl _) (congrArg V.bl (decide_eq_true (h3 c hc)))
  · refine c_allR k ?_
    rw [List.all_eq_true.mpr fun b hb => ?_]
    · exact q _ hs
    · obtain ⟨_, _, e⟩ := List.mem_filterMap.mp hb
      cases e; rfl
def sp_are_seen : Sp := fun vs H Q _ => match vs with
  | [v] => ∃ l, rL rI H v l ∧ 2 ≤ l.length ∧ l.length ≤ 5 ∧ okInts 9 l ∧ PuV (.bl true) Q H
  | _ => False
theorem sc_are_seen : FnScope ["thing", "number"] ["thing"] (defScope s_are_seen) := ⟨rfl, rfl, rfl, by decide +kernel, rfl, by decide +kernel, by decide +kernel⟩
theorem sp_are_seen_len : ∀ (vs : List V) (H : Hp) (Q : VK) (E : XK), sp_are_seen vs H Q E → vs.length = 1
  | [_], _, _, _, _ => rfl
  | [], _, _, _, h => h.elim
  | _ :: _ :: _, _, _, _, h => h.elim
theorem cal_are_seen (T : Tx P w K mg) : Cl P w K mg base 3 "are_seen" sp_are_seen [] := by
  refine cl_of (st := s_are_seen) (qual := "are_seen") (kws := []) (T.c.def_ 4 (d := d_are_seen) rfl) sc_are_seen sp_are_seen_len (T.glo 14 rfl) (fun _ _ _ _ _ _ us hl => match us, hl with | [_], _ => rfl) (fun cdv A outer s H vs Q E hr h => ⟨_, (pss_cons (ps_if (PW.pt (pw_or (pt_not (pt_val (pe_cl (cal_is_list T) hr (by decide) rfl (pa_cons (pv 0) pa_nil)))) (pw_or1 (pt_not (pt_chain (op_any T hr) (op_any T hr) (pe_gi rfl (T.int 123 rfl)) (pe_callB (cl_any (f := .builtin "len") T hr) rfl (T.free 109 rfl) (by decide +kernel) (pa_cons (pv 0) pa_nil)) (pe_gi rfl (T.int 124 rfl))))))) (pss_one (ps_ret pe_bl)) pss_nil)
  (pss_one (ps_ret (pe_callB (cl_any (f := .builtin "all") T hr) rfl (T.free 102 rfl) (by decide +kernel) (pa_cons (pe_lc (own := [("number", 1)]) rfl sc_are_seen.nd (pi_ls T (pv 0)) (blkOk_by (own := [("number", 1)]) (N := ["thing", "number"]) (sc := defScope s_are_seen) (by decide +kernel)) (fun _ _ _ _ _ => (pg_name (i := 1) sc_are_seen.nd rfl (Or.inl rfl))) (fun _ _ _ _ _ => pts_nil) (fun _ _ _ _ _ => (pe_cl (cal_is_number_in T) hr (by decide) rfl (pa_cons (pv 1) (pa_cons pe_int (pa_cons (pe_gi rfl (T.int 125 rfl)) pa_nil)))))) pa_nil))))), ?_⟩)
  obtain ⟨a0, rfl⟩ := len1 (sp_are_seen_len _ _ _ _ h)
  obtain ⟨l, hl, n1, n2, ok, q⟩ := h
  obtain ⟨a, xs, rfl, e, k⟩ := id hl
  walk_at "S"
  refine ⟨⟨a, xs, rfl, .inl e⟩, fun H1 s1 => ?_⟩
  walk_at "S"
  refine c_lenRL (Mo.mo s1 hl) ?_
  walk_at "S"
  refine o_le ?_
  walk_at "S"
  rw [decide_eq_true (show (2 : Int) ≤ l.length by omega)]
  walk_at "S"
  refine o_le ?_
  walk_at "S"
  rw [decide_eq_true (show (l.length : Int) ≤ 5 by omega)]
  walk_at "S"
  refine ls_L (Mo.mo s1 hl) fun c ec hc => lc_L (r := rI) (r' := rB) (fun _ => some true) hc (fun x b H2 hb s2 rb Yk N k1 k2 => ?_) fun D H2 s2 hD k => ?_
  · cases rb
    walk_at "S"
    obtain ⟨p1, p2⟩ := ok b hb
    refine ⟨trivial, b, 0, 9, rfl, rfl, rfl, k1 _ rfl _ _ (same_refl _) ?_⟩
    simp [rB, p1, p2]
  · refine c_allR k ?_
    rw [List.all_eq_true.mpr fun b hb => ?_]
    · exact q _ (s1.trans s2)
    · obtain ⟨_, _, e⟩ := List.mem_filterMap.mp hb
      cases e; rfl
def sp_is_map : Sp := fun vs H Q _ => match vs with
  | [x, v] => ∃ (n : Nat) (l : List Int), x = .int n ∧ rL rI H v l ∧ l.length = n ∧ okInts (n - 1) l ∧ PuV (.bl true) Q H
  | _ => False
theorem sc_is_map : FnScope ["size", "thing", "state"] ["size", "thing"] (defScope s_is_map) := ⟨rfl, rfl, rfl, by decide +kernel, rfl, by decide +kernel, by decide +kernel⟩
theorem sp_is_map_len : ∀ (vs : List V) (H : Hp) (Q : VK) (E : XK), sp_is_map vs H Q E → vs.length = 2
  | [_, _], _, _, _, _ => rfl
  | [], _, _, _, h => h.elim
  | [_], _, _, _, h => h.elim
  | _ :: _ :: _ :: _, _, _, _, h => h.elim
theorem cal_is_map (T : Tx P w K mg) : Cl P w K mg base 3 "is_map" sp_is_map [] := by
  refine cl_of (st := s_is_map) (qual := "is_map") (kws := []) (T.c.def_ 5 (d := d_is_map) rfl) sc_is_map sp_is_map_len (T.glo 15 rfl) (fun _ _ _ _ _ _ us hl => match us, hl with | [_, _], _ => rfl) (fun cdv A outer s H vs Q E hr h => ⟨_, (pss_one (ps_ret (pe_and (pe_cl (cal_is_list T) hr (by decide) rfl (pa_cons (pv 1) pa_nil)) (pe_and (pe_cmpR (op_any T hr) (pe_callB (cl_any (f := .builtin "len") T hr) rfl (T.free 109 rfl) (by decide +kernel) (pa_cons (pv 1) pa_nil)) (pv 0) (nomark _)) (pe_one (pe_callB (cl_any (f := .builtin "all") T hr) rfl (T.free 102 rfl) (by decide +kernel) (pa_cons (pe_lc (own := [("state", 2)]) rfl sc_is_map.nd (pi_ls T (pv 1)) (blkOk_by (own := [("state", 2)]) (N := ["size", "thing", "state"]) (sc := defScope s_is_map) (by decide +kernel)) (fun _ _ _ _ _ => (pg_name (i := 2) sc_is_map.nd rfl (Or.inl rfl))) (fun _ _ _ _ _ => pts_nil) (fun _ _ _ _ _ => (pe_cl (cal_is_number_in T) hr (by decide) rfl (pa_cons (pv 2) (pa_cons pe_int (pa_cons (pe_op (op_any T hr) (pv 0) pe_int) pa_nil)))))) pa_nil))))))), ?_⟩)
  obtain ⟨a0, a1, rfl⟩ := len2 (sp_is_map_len _ _ _ _ h)
  obtain ⟨n, l, rfl, hl, hn, ok, q⟩ := h
  obtain ⟨a, xs, rfl, e, k⟩ := id hl
  walk_at "S"
  refine ⟨⟨a, xs, rfl, .inl e⟩, fun H1 s1 => ?_⟩
  walk_at "S"
  refine c_lenRL (Mo.mo s1 hl) ?_
  walk_at "S"
  refine o_eqI ?_
  walk_at "S"
  rw [decide_eq_true (show (l.length : Int) = n by omega)]
  walk_at "S"
  refine ls_L (Mo.mo s1 hl) fun c ec hc => lc_L (r := rI) (r' := rB) (fun _ => some true) hc (fun x b H2 hb s2 rb Yk N k1 k2 => ?_) fun D H2 s2 hD k => ?_
  · cases rb
    walk_at "S"
    obtain ⟨p1, p2⟩ := ok b hb
    refine ⟨trivial, o_sub ?_⟩
    walk_at "S"
    refine ⟨b, 0, n - 1, rfl, rfl, rfl, k1 _ rfl _ _ (same_refl _) ?_⟩
    simp [rB, p1, p2]
  · refine c_allR k ?_
    rw [List.all_eq_true.mpr fun b hb => ?_]
    · exact q _ (s1.trans s2)
    · obtain ⟨_, _, e⟩ := List.mem_filterMap.mp hb
      cases e; rfl
end
end Nb

/-! part D2 -/
set_option Elab.async false
set_option linter.all false
set_option maxRecDepth 100000
set_option maxHeartbeats 4000000
namespace Nb
open PySem PySem.Spec PyProof.Rows L2
local macro_rules | `(tactic| walk_at "S") => `(tactic| (try simp only [tSeq, tNext, tRet, tIfS, tDrop, tAsg, gName, tFor_eq, tWhile_eq, tLc_eq, tLc2_eq, tDc_eq, sFld_eq, sDPut_eq, tPar, tPar3, tC, tVar, tCB, tOp, tTup, tLst, tChain, tDGet_eq, tDGet2, tAndV, tOrV, tNotV, tIf, tLstRg, tRg1, tDisp, tPairs, tUn, rU, tTest, tNot, tB, tAnd, tOr, tYes, tSl, tPart, tNoPart, tRevL, tM1, tDNewK, tDNewT, gCons_c, gNil_n, gSub, gTup_eq, iRng1_eq, iList_eq, iTup_eq, iSeq_eq, iStr, iKeys_eq, iVals_eq, iEnum_eq, cx_K, tCons, tNil, tBM, tCall, tMake, tProp, tMeth, tFld_eq, tStar_eq, iZipM_eq, tDisp1, L2.start, List.map_cons, List.map_nil, List.length_cons, List.length_nil, List.cons_append, List.nil_append, List.append_nil, List.getElem?_cons_zero, List.getElem?_cons_succ, List.set_cons_zero, List.set_cons_succ, Option.some.injEq, exists_eq_left', exists_eq_left, V.bl.injEq, V.int.injEq, V.str.injEq, V.ref.injEq, if_true, if_false, Nat.reduceAdd, Nat.reduceSub, List.replicate_succ, List.replicate_zero, Bool.not_true, Bool.not_false, Bool.false_eq_true, if_neg, not_false_eq_true, wipe]))
local macro_rules | `(tactic| walk_at "G") => `(tactic| (walk_at "S"; repeat ((first | with_reducible refine o_add ?_ | with_reducible refine o_sub ?_ | with_reducible refine o_mul ?_ | with_reducible refine o_lt ?_ | with_reducible refine o_le ?_ | with_reducible refine o_gt ?_ | with_reducible refine o_ge ?_ | with_reducible refine o_eqI ?_ | with_reducible refine o_neI ?_ | with_reducible refine o_eqS ?_ | with_reducible refine o_neS ?_ | with_reducible refine o_isN ?_ | with_reducible refine o_notN ?_ | with_reducible refine i_int ?_ | with_reducible refine i_intB ?_ | with_reducible refine i_str ?_); walk_at "S")))
section
variable {P : Program} {w : World} {K : PySem.W.Frag} {mg : Str → Option Value} {base : Heap}
theorem all_true {α : Type} {l : List α} {f : α → Option Bool} (h : ∀ a ∈ l, f a = some true) : (l.filterMap f).all id = true := by
  refine List.all_eq_true.mpr fun b hb => ?_
  obtain ⟨a, ha, e⟩ := List.mem_filterMap.mp hb
  rw [h a ha] at e
  cases e; rfl
theorem lock_L {α : Type} {r : RR α} [Tt r] {H : Hp} {v : V} {l : List α} {d : Addr} {kvs : List (Key × V)} {od : Obj} (h : rL r H v l) (e : H d = some (.dK kvs)) : rL r (upd H d (.frz od (.dK kvs))) v l := by
  obtain ⟨a, xs, e0, e1, k, hl⟩ := h
  exact ⟨a, xs, e0, by rw [upd_ne (ne_of e1 e nofun)]; exact e1, k.mono fun _ _ z => Tt.tm (lock_t e trivial) z, hl⟩
theorem dkA_mono {α : Type} {R R' : V → α → Prop} (h : ∀ x a, R x a → R' x a) {kvs : List (Key × V)} {m : List (Str × α)} (k : dkA R kvs m) : dkA R' kvs m := k.mono fun _ _ z => ⟨z.1, z.2.1, h _ _ z.2.2⟩
/-- an item of a list of lists found by its key -/
theorem lookup_of_mem {α : Type} {m : List (Str × α)} (nd : (m.map Prod.fst).Nodup) {p : Str × α} (h : p ∈ m) : m.lookup p.1 = some p.2 := by
  induction m with
  | nil => simp at h
  | cons q m ih =>
    obtain ⟨k, v⟩ := q
    rw [List.lookup_cons]
    rw [List.map_cons, List.nodup_cons] at nd
    rcases List.mem_cons.mp h with e | e
    · subst e; simp
    · have hne : p.1 ≠ k := fun q => nd.1 (q ▸ List.mem_map.mpr ⟨p, e, rfl⟩)
      rw [show (p.1 == k) = false from beq_eq_false_iff_ne.mpr hne]
      exact ih nd.2 e
def sp_are_deeds : Sp := fun vs H Q _ => match vs with
  | [x, v] => ∃ (n : Nat) (m : List (Str × List Int)), x = .int n ∧ rD (rL rI) H v m ∧ 1 ≤ m.length ∧ m.length ≤ 4 ∧ okDeeds n m ∧ PuV (.bl true) Q H
  | _ => False
theorem sc_are_deeds : FnScope ["size", "thing", "name"] ["size", "thing"] (defScope s_are_deeds) := ⟨rfl, rfl, rfl, by decide +kernel, rfl, by decide +kernel, by decide +kernel⟩
theorem sp_are_deeds_len : ∀ (vs : List V) (H : Hp) (Q : VK) (E : XK), sp_are_deeds vs H Q E → vs.length = 2
  | [_, _], _, _, _, _ => rfl
  | [], _, _, _, h => h.elim
  | [_], _, _, _, h => h.elim
  | _ :: _ :: _ :: _, _, _, _, h => h.elim
theorem cal_are_deeds (T : Tx P w K mg) : Cl P w K mg base 4 "are_deeds" sp_are_deeds [] := by
  refine cl_of (st := s_are_deeds) (qual := "are_deeds") (kws := []) (T.c.def_ 6 (d := d_are_deeds) rfl) sc_are_deeds sp_are_deeds_len (T.glo 16 rfl) (fun _ _ _ _ _ _ us hl => match us, hl with | [_, _], _ => rfl) (fun cdv A outer s H vs Q E hr h => ⟨_, (pss_cons (ps_if (PW.pt (pw_or (pt_not (pt_val (pe_callB (cl_any (f := .builtin "isinstance") T hr) rfl (T.free 108 rfl) (by decide +kernel) (pa_cons (pv 1) (pa_cons (pe_bltn (v := .ty "dict") (u := .type "dict") rfl (T.free 105 rfl) (by decide +kernel) rfl) pa_nil))))) (pw_or1 (pt_not (pt_chain (op_any T hr) (op_any T hr) pe_int (pe_callB (cl_any (f := .builtin "len") T hr) rfl (T.free 109 rfl) (by decide +kernel) (pa_cons (pv 1) pa_nil)) (pe_gi rfl (T.int 126 rfl))))))) (pss_one (ps_ret pe_bl)) pss_nil)
  (pss_one (ps_ret (pe_callB (cl_any (f := .builtin "all") T hr) rfl (T.free 102 rfl) (by decide +kernel) (pa_cons (pe_lock (pe_lc (own := [("name", 2)]) rfl sc_are_deeds.nd (pi_keys (pv 1)) (blkOk_by (own := [("name", 2)]) (N := ["size", "thing", "name"]) (sc := defScope s_are_deeds) (by decide +kernel)) (fun _ _ _ _ _ => (pg_name (i := 2) sc_are_deeds.nd rfl (Or.inl rfl))) (fun _ _ _ _ _ => pts_nil) (fun _ _ _ _ _ => (pe_and (pe_cl (cal_is_name T) hr (by decide) rfl (pa_cons (pv 2) pa_nil)) (pe_one (pe_cl (cal_is_map T) hr (by decide) rfl (pa_cons (pv 0) (pa_cons (pe_dget (hu_of hr) (pv 1) (pv 2) (fun _ _ => rfl)) pa_nil)))))))) pa_nil))))), ?_⟩)
  obtain ⟨a0, a1, rfl⟩ := len2 (sp_are_deeds_len _ _ _ _ h)
  obtain ⟨n, m, rfl, hm, n1, n4, ok, q⟩ := h
  obtain ⟨d, kvs, rfl, e, k, nd, hl⟩ := id hm
  walk_at "S"
  refine i_dK e ?_
  walk_at "S"
  refine c_lenRD hm ?_
  walk_at "G"
  rw [decide_eq_true (show (1 : Int) ≤ m.length by omega)]
  walk_at "G"
  rw [decide_eq_true (show (m.length : Int) ≤ 4 by omega)]
  walk_at "S"
  refine lock_E e trivial fun od => ?_
  have kl : dkA (rL rI (upd H d (.frz od (.dK kvs)))) kvs m := dkA_mono (fun x a z => lock_L z e) k
  walk_at "S"
  refine ky_d upd_same (lc_K (r' := rB) (fun _ => some true) upd_same kl hl (fun p x H1 hp hw rx s1 Yk N h1 h2 => ?_) fun D H1 s1 hD kD => ?_)
  · walk_at "S"
    refine ⟨trivial, p.1, ⟨rfl, hw⟩, fun H3 s3 => ?_⟩
    walk_at "S"
    refine dg_D (r := rL rI) (.inr ⟨od, s3 _ _ (s1 _ _ upd_same)⟩) (dkA_mono (fun x a z => Mo.mo (s1.trans s3) z) kl) (lookup_of_mem nd hp) fun y ry => ?_
    walk_at "S"
    exact ⟨n, p.2, rfl, ry, (ok p hp).1, (ok p hp).2, fun H4 s4 => h1 _ rfl _ _ (s3.trans s4) rfl⟩
  · refine ⟨s1 _ _ upd_same, c_allR (bs := m.filterMap fun _ => some true) ?_ ?_⟩
    · obtain ⟨a, xs, e0, e1, k1, l1⟩ := kD
      cases e0
      have hn : D ≠ d := fun z => by rw [z, upd_same] at hD; cases hD
      exact ⟨D, xs, rfl, by rw [upd_ne hn]; exact e1, k1, l1⟩
    · rw [all_true fun _ _ => rfl]; exact q _ (unlock e s1)
def sp_classes_of : Sp := fun vs H Q _ => match vs with
  | [x, v] => ∃ (l : List Int) (m : List (Str × List Int)), rT rI H x l ∧ rD (rT rI) H v m ∧ okDeeds l.length m ∧ l.length ≤ 5 ∧ m.length ≤ 4 ∧ PuF (rL rI) (classes l (m.map Prod.snd)) Q H
  | _ => False
theorem sc_classes_of : FnScope ["seen", "deeds", "found", "turn", "rows", "state", "row", "led"] ["seen", "deeds"] (defScope s_classes_of) := ⟨rfl, rfl, rfl, by decide +kernel, rfl, by decide +kernel, by decide +kernel⟩
theorem sp_classes_of_len : ∀ (vs : List V) (H : Hp) (Q : VK) (E : XK), sp_classes_of vs H Q E → vs.length = 2
  | [_, _], _, _, _, _ => rfl
  | [], _, _, _, h => h.elim
  | [_], _, _, _, h => h.elim
  | _ :: _ :: _ :: _, _, _, _, h => h.elim
theorem cal_classes_of (T : Tx P w K mg) : Cl P w K mg base 1 "classes_of" sp_classes_of [] := by
  refine cl_of (st := s_classes_of) (qual := "classes_of") (kws := []) (T.c.def_ 7 (d := d_classes_of) rfl) sc_classes_of sp_classes_of_len (T.glo 17 rfl) (fun _ _ _ _ _ _ us hl => match us, hl with | [_, _], _ => rfl) (fun cdv A outer s H vs Q E hr h => ⟨_, (pss_cons (ps_set (i := 2) sc_classes_of.nd rfl (Or.inr rfl) (pe_callTy (cl_any (f := .type "list") T hr) rfl (T.free 110 rfl) (by decide +kernel) (pa_cons (pv 0) pa_nil)))
  (pss_cons (ps_for PassesOwn.never rfl (pi_range1 rfl (T.free 113 rfl) (pa_cons (pe_callB (cl_any (f := .builtin "len") T hr) rfl (T.free 109 rfl) (by decide +kernel) (pa_cons (pv 0) pa_nil)) pa_nil)) (pg_name (i := 3) sc_classes_of.nd rfl (Or.inl rfl)) (pss_cons (ps_set (i := 4) sc_classes_of.nd rfl (Or.inr rfl) (pe_lc (own := [("state", 5)]) rfl sc_classes_of.nd (pi_range1 rfl (T.free 113 rfl) (pa_cons (pe_callB (cl_any (f := .builtin "len") T hr) rfl (T.free 109 rfl) (by decide +kernel) (pa_cons (pv 0) pa_nil)) pa_nil)) (blkOk_by (own := [("state", 5)]) (N := ["seen", "deeds", "found", "turn", "rows", "state", "row", "led"]) (sc := defScope s_classes_of) (by decide +kernel)) (fun _ _ _ _ _ => (pg_name (i := 5) sc_classes_of.nd rfl (Or.inr rfl))) (fun _ _ _ _ _ => pts_nil) (fun _ _ _ _ _ => (pe_tup (pa_cons (pe_ix (ix_any T hr) (pv 2) (pv 5) (fun _ _ => rfl)) (pa_st T (pe_lock (pe_lc (own := [("led", 7)]) rfl sc_classes_of.nd (pi_values (pv 1)) (blkOk_by (own := [("led", 7)]) (by kernel_rfl)) (fun _ _ _ _ _ => (pg_name (i := 7) sc_classes_of.nd rfl (Or.inl rfl))) (fun _ _ _ _ _ => pts_nil) (fun _ _ _ _ _ => (pe_ix (ix_any T hr) (pv 2) (pe_ix (ix_any T hr) (pv 7) (pv 5) (fun _ _ => rfl)) (fun _ _ => rfl))))) pa_nil))))))
  (pss_one (ps_set (i := 2) sc_classes_of.nd rfl (Or.inr rfl) (pe_lc (own := [("row", 6)]) rfl sc_classes_of.nd (pi_ls T (pv 4)) (blkOk_by (own := [("row", 6)]) (N := ["seen", "deeds", "found", "turn", "rows", "state", "row", "led"]) (sc := defScope s_classes_of) (by decide +kernel)) (fun _ _ _ _ _ => (pg_name (i := 6) sc_classes_of.nd rfl (Or.inl rfl))) (fun _ _ _ _ _ => pts_nil) (fun _ _ _ _ _ => (pe_bk T PySem.F.plainAttrs_list PySem.F.slot_list_index PySem.F.type_list_index (mt_any T hr) (pv 4) (pa_cons (pv 6) pa_nil))))))))
  (pss_one (ps_ret (pv 2))))), ?_⟩)
  obtain ⟨a0, a1, rfl⟩ := len2 (sp_classes_of_len _ _ _ _ h)
  obtain ⟨l, m, hl, hm, ok, n5, m4, q⟩ := h
  have n5' : l.length ≤ lim := Nat.le_trans n5 (by decide)
  walk_at "S"
  refine c_listRT hl fun f H1 s1 hf kf => ?_
  walk_at "S"
  refine c_lenRT (Mo.mo s1 hl) ?_
  walk_at "S"
  refine rg_n n5' ?_
  refine for_w (L2.walk_range (lo := 0) (n := l.length)) (fun i σ H' => ∃ f o3 o4, σ = [some a0, some a1, some (.ref f), o3, o4, none, none, none] ∧ Same H H' ∧ H f = none ∧ rL rI H' (.ref f) (itr (cstep l.length (m.map Prod.snd)) i l)) ⟨f, none, none, rfl, s1, hf, kf⟩ (fun _ _ _ _ _ => trivial) ?_ ?_
  · rintro i x σ H2 H' hi ⟨f, o3, o4, rfl, s2, hf, kf⟩ ⟨rfl, rfl⟩
    have fl : (itr (cstep l.length (m.map Prod.snd)) i l).length = l.length := itr_len rfl i
    have hnx : itr (cstep l.length (m.map Prod.snd)) (i + 1) l = cstep l.length (m.map Prod.snd) (itr (cstep l.length (m.map Prod.snd)) i l) := rfl
    generalize hF : itr (cstep l.length (m.map Prod.snd)) i l = F at kf fl hnx
    walk_at "S"
    refine c_lenRT (Mo.mo s2 hl) ?_
    walk_at "S"
    refine rg_n n5' ?_
    refine lc_R (r' := rT rI) (fun s => some (crow (m.map Prod.snd) F s)) n5' (fun s H3 hs s3 Yk N k1 k2 => ?_) fun D H3 s3 hD kD => ?_
    · walk_at "S"
      refine ⟨trivial, ?_⟩
      refine x_RL (n := s) (b := gi F s) (Mo.mo s3 kf) (by omega) (by have := gi_at (l := F) (i := s) (n := l.length) (by omega) (by omega) fl; simpa using this) fun y ry => ?_
      cases ry
      walk_at "S"
      obtain ⟨d, kvs, rfl, e, k, nd, hml⟩ := Mo.mo (s2.trans s3) hm
      refine lock_E e trivial fun od => ?_
      walk_at "S"
      refine vl_d upd_same (lc_V (r' := rI) (m := m) (fun ld => some (gi F (gi ld s))) upd_same (dkA_mono (fun x (a : List Int) (z : rT rI H3 x a) => Tt.tm (r := rT rI) (lock_t (od := od) e trivial) z) k) hml (fun x b H4 hb s4 rx Yk2 N2 j1 j2 => ?_) fun D2 H4 s4 hD2 kD2 => ?_)
      · obtain ⟨p, hp, rfl⟩ := List.mem_map.mp hb
        obtain ⟨o1, o2⟩ := ok p hp
        walk_at "S"
        refine ⟨trivial, ?_⟩
        refine x_RT (n := s) (b := gi p.2 s) (Mo.mo s4 rx) (by omega) (by have := gi_at (l := p.2) (i := s) (n := l.length) (by omega) (by omega) o1; simpa using this) fun y ry => ?_
        cases ry
        have hg := o2 _ (gi_mem (l := p.2) (i := s) (by omega) (by omega))
        refine x_RL (n := (gi p.2 s).toNat) (b := gi F (gi p.2 s)) (Mo.mo s4 (lock_L (Mo.mo s3 kf) e)) (by omega) (gi_at (n := l.length) hg.1 (by omega) fl) fun y ry => ?_
        cases ry
        exact j1 _ rfl _ _ (same_refl _) rfl
      · refine ⟨s4 _ _ upd_same, ?_⟩
        have s5 := unlock e s4
        have hcd : D2 ≠ d := fun z => by rw [z, upd_same] at hD2; cases hD2
        have kD3 : rL rI (upd H4 d (.dK kvs)) (.ref D2) ((m.map Prod.snd).filterMap fun ld => some (gi F (gi ld s))) := by
          obtain ⟨c, xs, e0, e1, k5, hl5⟩ := kD2
          cases e0
          exact ⟨D2, xs, rfl, by rw [upd_ne hcd]; exact e1, k5, hl5⟩
        rw [fm_some] at kD3
        refine star_L kD3 fun xs kx => ?_
        have hb : ((m.map Prod.snd).map fun ld => gi F (gi ld s)).length ≤ lim := by simpa using hml
        have k6 : A2 (rI (upd H4 d (.dK kvs))) (.int (gi F s) :: xs) (crow (m.map Prod.snd) F s) := ⟨rfl, kx⟩
        have hb2 : (crow (m.map Prod.snd) F s).length ≤ 2 * lim := by
          have : 1 ≤ lim := by decide
          simp [crow] at hb ⊢; omega
        have hm4 : m.length < lim := Nat.lt_of_le_of_lt m4 (by decide)
        walk_at "S"
        refine ⟨k6.bnd (by simp [crow]; omega), fun p hp => k1 _ rfl _ _ (same_new s5 hp) (mk_T hp k6 (by simp [crow]; omega))⟩
    · walk_at "S"
      rw [fm_some] at kD
      obtain ⟨c, xs, e0, e1, k5, hl5⟩ := id kD
      cases e0
      refine ls_L kD fun c ec _ => ?_
      cases ec
      refine lc_L (r := rT rI) (r' := rI) (fun row => some (((List.range l.length).map (crow (m.map Prod.snd) F)).idxOf row : Int)) kD (fun x b H4 hb s4 rx Yk N k1 k2 => ?_) fun D2 H4 s4 hD2 kD2 => ?_
      · walk_at "S"
        refine ⟨trivial, ty_L (Mo.mo s4 kD), ?_⟩
        exact m_index (r := rT rI) (Mo.mo s4 kD) rx hb (k1 _ rfl _ _ (same_refl _) rfl)
      · walk_at "S"
        rw [fm_some] at kD2
        refine ⟨D2, _, _, rfl, (s2.trans s3).trans s4, (s2.trans s3).free hD2, ?_⟩
        rw [hnx]
        exact kD2
  · rintro σ H' ⟨f, o3, o4, rfl, s2, hf, kf⟩
    walk_at "S"
    exact q f H' s2 hf kf
end
end Nb

/-! part D3 -/
set_option Elab.async false
set_option linter.all false
set_option maxRecDepth 100000
set_option maxHeartbeats 4000000
namespace Nb
open PySem PySem.Spec PyProof.Rows L2
local macro_rules | `(tactic| walk_at "S") => `(tactic| (try simp only [tSeq, tNext, tRet, tIfS, tDrop, tAsg, gName, tFor_eq, tWhile_eq, tLc_eq, tLc2_eq, tDc_eq, sFld_eq, sDPut_eq, tPar, tPar3, tC, tVar, tCB, tOp, tTup, tLst, tChain, tDGet_eq, tDGet2, tAndV, tOrV, tNotV, tIf, tLstRg, tRg1, tDisp, tPairs, tUn, rU, tTest, tNot, tB, tAnd, tOr, tYes, tSl, tPart, tNoPart, tRevL, tM1, tDNewK, tDNewT, gCons_c, gNil_n, gSub, gTup_eq, iRng1_eq, iList_eq, iTup_eq, iSeq_eq, iStr, iKeys_eq, iVals_eq, iEnum_eq, cx_K, tCons, tNil, tBM, tCall, tMake, tProp, tMeth, tFld_eq, tStar_eq, iZipM_eq, tDisp1, L2.start, List.map_cons, List.map_nil, List.length_cons, List.length_nil, List.cons_append, List.nil_append, List.append_nil, List.getElem?_cons_zero, List.getElem?_cons_succ, List.set_cons_zero, List.set_cons_succ, Option.some.injEq, exists_eq_left', exists_eq_left, V.bl.injEq, V.int.injEq, V.str.injEq, V.ref.injEq, if_true, if_false, Nat.reduceAdd, Nat.reduceSub, List.replicate_succ, List.replicate_zero, Bool.not_true, Bool.not_false, Bool.false_eq_true, if_neg, not_false_eq_true, wipe]))
local macro_rules | `(tactic| walk_at "G") => `(tactic| (walk_at "S"; repeat ((first | with_reducible refine o_add ?_ | with_reducible refine o_sub ?_ | with_reducible refine o_mul ?_ | with_reducible refine o_lt ?_ | with_reducible refine o_le ?_ | with_reducible refine o_gt ?_ | with_reducible refine o_ge ?_ | with_reducible refine o_eqI ?_ | with_reducible refine o_neI ?_ | with_reducible refine o_eqS ?_ | with_reducible refine o_neS ?_ | with_reducible refine o_isN ?_ | with_reducible refine o_notN ?_ | with_reducible refine i_int ?_ | with_reducible refine i_intB ?_ | with_reducible refine i_str ?_); walk_at "S")))
section
variable {P : Program} {w : World} {K : PySem.W.Frag} {mg : Str → Option Value} {base : Heap}
section
variable {H : Hp} {v : V} {M : Mach} {Q : VK}
theorem fM_seen (T : Tx P w K mg) (h : rM K H v M) (q : ∀ y, rT rI H y M.seen → Q y H) : fldB K "own_seen" v H Q := by
  obtain ⟨⟨a, dx, s, d, g, rfl, e, e1, e2, e3⟩, ok⟩ := h
  exact fl_a e T.cl_Machine T.na_Machine_own_seen rfl (q s e1)
theorem fM_deeds (T : Tx P w K mg) (h : rM K H v M) (q : ∀ y, rD (rT rI) H y M.deeds → Q y H) : fldB K "own_deeds" v H Q := by
  obtain ⟨⟨a, dx, s, d, g, rfl, e, e1, e2, e3⟩, ok⟩ := h
  exact fl_a e T.cl_Machine T.na_Machine_own_deeds rfl (q d e2)
theorem fM_img (T : Tx P w K mg) (h : rM K H v M) (q : ∀ y, rT rI H y M.img → Q y H) : fldB K "own_images" v H Q := by
  obtain ⟨⟨a, dx, s, d, g, rfl, e, e1, e2, e3⟩, ok⟩ := h
  exact fl_a e T.cl_Machine T.na_Machine_own_images rfl (q g e3)
theorem iM (T : Tx P w K mg) (h : rM K H v M) (q : Q (.bl true) H) : rCl P w K mg (.builtin "isinstance") [v, .ref (He.ga K "Machine")] H Q := by
  obtain ⟨⟨a, dx, s, d, g, rfl, e, _⟩, ok⟩ := h
  exact i_ins T.insM e q
end
def sp_need_machine (K : PySem.W.Frag) : Sp := fun vs H Q _ => match vs with
  | [x, _] => ∃ M, rM K H x M ∧ Q .non H
  | _ => False
theorem sc_need_machine : FnScope ["machine", "part"] ["machine", "part"] (defScope s_need_machine) := ⟨rfl, rfl, rfl, by decide +kernel, rfl, by decide +kernel, by decide +kernel⟩
theorem sp_need_machine_len : ∀ (vs : List V) (H : Hp) (Q : VK) (E : XK), (sp_need_machine K) vs H Q E → vs.length = 2
  | [_, _], _, _, _, _ => rfl
  | [], _, _, _, h => h.elim
  | [_], _, _, _, h => h.elim
  | _ :: _ :: _ :: _, _, _, _, h => h.elim
theorem cal_need_machine (T : Tx P w K mg) : Cl P w K mg base 1 "need_machine" (sp_need_machine K) [.str "machine"] := by
  refine cl1_of (st := s_need_machine) (qual := "need_machine") (kws := []) 1 (T.c.def_ 10 (d := d_need_machine) rfl) rfl rfl sc_need_machine sp_need_machine_len (T.glo 19 rfl) (fun _ _ _ _ _ _ _ us its hl hm => match us, its, hl, hm with | [_], [_], _, _ => ⟨_, rfl, rfl⟩) (fun cdv A outer s H vs Q E hr h => ⟨_, (pss_one (ps_if (pt_not (pt_val (pe_callB (cl_any (f := .builtin "isinstance") T hr) rfl (T.free 108 rfl) (by decide +kernel) (pa_cons (pv 0) (pa_cons (pe_glob (v := .ref (He.ga K "Machine")) rfl (T.glo 18 rfl) rfl) pa_nil))))) pss_never pss_nil)), ?_⟩)
  obtain ⟨a0, a1, rfl⟩ := len2 (sp_need_machine_len _ _ _ _ h)
  obtain ⟨M, hM, q⟩ := h
  walk_at "S"
  refine iM T hM ?_
  walk_at "S"
  exact q
/-- only x has changed, of what was there -/
def SameBut (x : Addr) (H H' : Hp) : Prop := ∀ b o, b ≠ x → H b = some o → H' b = some o
def sp_Machine_init (K : PySem.W.Frag) : Sp := fun vs H Q _ => match vs with
  | [x, v, d] => ∃ a dx s rows, x = .ref a ∧ H a = some (.ins (He.ga K "Machine") dx []) ∧ rL rI H v s ∧ rD (rL rI) H d rows ∧ 2 ≤ s.length ∧ s.length ≤ 5 ∧ okInts 9 s ∧ 1 ≤ rows.length ∧ rows.length ≤ 4 ∧ okDeeds s.length rows ∧ ∀ H', SameBut a H H' → rM K H' (.ref a) (mkM s rows) → Q .non H'
  | _ => False
theorem SameBut.same {x : Addr} {H H1 H2 : Hp} (h : SameBut x H H1) (s : Same H1 H2) : SameBut x H H2 := fun b o n e => s _ _ (h b o n e)
theorem SameBut.upd {x : Addr} {H H1 : Hp} {o : HO} (h : SameBut x H H1) : SameBut x H (L2.upd H1 x o) := fun b u n e => by rw [upd_ne n]; exact h b u n e
theorem same_but {x : Addr} {H H1 : Hp} (h : Same H H1) : SameBut x H H1 := fun b o _ e => h b o e
/-- lists and dicts of lists when an instance changes -/
theorem but_L {α : Type} {r : RR α} [Tt r] {H H' : Hp} {x : Addr} {C dx : Addr} {fs : List (Str × V)} {v : V} {l : List α} (h : SameBut x H H') (e : H x = some (.ins C dx fs)) (k : rL r H v l) : rL r H' v l := by
  obtain ⟨a, xs, e0, e1, e2, e3⟩ := k
  have t : SameT H H' := fun b ys z => h _ _ (ne_of z e nofun) z
  exact ⟨a, xs, e0, h _ _ (ne_of e1 e nofun) e1, e2.mono fun _ _ z => Tt.tm t z, e3⟩
theorem but_t {H H' : Hp} {x C dx : Addr} {fs : List (Str × V)} (h : SameBut x H H') (e : H x = some (.ins C dx fs)) : SameT H H' := fun b ys z => h _ _ (ne_of z e nofun) z
theorem but_DL {α : Type} {r : RR α} [Tt r] {H H' : Hp} {x C dx : Addr} {fs : List (Str × V)} {v : V} {m : List (Str × List α)} (h : SameBut x H H') (e : H x = some (.ins C dx fs)) (k : rD (rL r) H v m) : rD (rL r) H' v m := by
  obtain ⟨d, kvs, e0, e1, e2, e3⟩ := k
  exact ⟨d, kvs, e0, h _ _ (ne_of e1 e nofun) e1, dkA_mono (R := rL r H) (R' := rL r H') (fun _ _ z => but_L h e z) e2, e3⟩
theorem but_D {α : Type} {r : RR α} [Tt r] {H H' : Hp} {x C dx : Addr} {fs : List (Str × V)} {v : V} {m : List (Str × α)} (h : SameBut x H H') (e : H x = some (.ins C dx fs)) (k : rD r H v m) : rD r H' v m := by
  obtain ⟨d, kvs, e0, e1, e2, e3⟩ := k
  exact ⟨d, kvs, e0, h _ _ (ne_of e1 e nofun) e1, dkA_mono (R := r H) (R' := r H') (fun _ _ z => Tt.tm (but_t h e) z) e2, e3⟩
theorem sc_Machine_init : FnScope ["self", "seen", "deeds", "name"] ["self", "seen", "deeds"] (defScope s_Machine_init) := ⟨rfl, rfl, rfl, by decide +kernel, rfl, by decide +kernel, by decide +kernel⟩
theorem sp_Machine_init_len : ∀ (vs : List V) (H : Hp) (Q : VK) (E : XK), (sp_Machine_init K) vs H Q E → vs.length = 3
  | [_, _, _], _, _, _, _ => rfl
  | [], _, _, _, h => h.elim
  | [_], _, _, _, h => h.elim
  | [_, _], _, _, _, h => h.elim
  | _ :: _ :: _ :: _ :: _, _, _, _, h => h.elim
theorem ma_Machine (T : Tx P w K mg) : Ma P w K mg base 5 "Machine" (He.ga K "Machine") (sp_Machine_init K) := by
  refine ma_of (st := s_Machine_init) (qual := "Machine.__init__") (kws := []) (He.mkr_ok (T.c.fact 131 rfl)) (T.glo 18 rfl) (T.c.def_ 8 (d := d_Machine_init) rfl) sc_Machine_init sp_Machine_init_len (fun _ _ _ _ _ _ us hl => match us, hl with | [_, _, _], _ => rfl) (fun cdv A outer s H vs Q E hr h => ⟨_, (pss_cons (ps_if (pt_not (pt_val (pe_cl (cal_are_seen T) hr (by decide) rfl (pa_cons (pv 1) pa_nil)))) pss_never pss_nil)
  (pss_cons (ps_if (pt_not (pt_val (pe_cl (cal_are_deeds T) hr (by decide) rfl (pa_cons (pe_callB (cl_any (f := .builtin "len") T hr) rfl (T.free 109 rfl) (by decide +kernel) (pa_cons (pv 1) pa_nil)) (pa_cons (pv 2) pa_nil))))) pss_never pss_nil)
  (pss_cons (ps_fld (pv 0) (pe_callTy (cl_any (f := .type "tuple") T hr) rfl (T.free 119 rfl) (by decide +kernel) (pa_cons (pv 1) pa_nil)) rfl)
  (pss_cons (ps_fld (pv 0) (pe_dc (own := [("name", 3)]) rfl sc_Machine_init.nd (pi_ls T (pe_callB (cl_any (f := .builtin "sorted") T hr) rfl (T.free 116 rfl) (by decide +kernel) (pa_cons (pv 2) pa_nil))) (blkOk_by (own := [("name", 3)]) (N := ["self", "seen", "deeds", "name"]) (sc := defScope s_Machine_init) (by decide +kernel)) (fun _ _ _ _ _ => (pg_name (i := 3) sc_Machine_init.nd rfl (Or.inl rfl))) (fun _ _ _ _ _ => pts_nil) (fun _ _ _ _ _ => (pv 3)) (fun _ _ _ _ _ => (pe_callTy (cl_any (f := .type "tuple") T hr) rfl (T.free 119 rfl) (by decide +kernel) (pa_cons (pe_dget (hu_of hr) (pv 2) (pv 3) (fun _ _ => rfl)) pa_nil)))) rfl)
  (pss_one (ps_fld (pv 0) (pe_callTy (cl_any (f := .type "tuple") T hr) rfl (T.free 119 rfl) (by decide +kernel) (pa_cons (pe_cl (cal_classes_of T) hr (by decide) rfl (pa_cons (pe_fd T (pv 0) rfl) (pa_cons (pe_fd T (pv 0) rfl) pa_nil))) pa_nil)) rfl)))))), ?_⟩)
  obtain ⟨a0, a1, a2, rfl⟩ := len3 (sp_Machine_init_len _ _ _ _ h)
  obtain ⟨a, dx, s', rows, rfl, e, hs, hr', lo, hi, sh, d1, d4, ok, q⟩ := h
  have nd : (rows.map Prod.fst).Nodup := by obtain ⟨_, _, _, _, _, nd, _⟩ := hr'; exact nd
  walk_at "S"
  refine ⟨s', hs, lo, hi, sh, fun H1 s1 => ?_⟩
  walk_at "S"
  refine c_lenRL (Mo.mo s1 hs) ?_
  walk_at "S"
  refine ⟨_, rows, rfl, Mo.mo s1 hr', d1, d4, ok, fun H2 s2 => ?_⟩
  have s12 := s1.trans s2
  walk_at "S"
  refine c_tupRL (Mo.mo s12 hs) fun p1 H3 s3 hp1 k1 => ?_
  have s13 := s12.trans s3
  walk_at "S"
  refine pt_a (gs := [("own_seen", .ref p1)]) (s13 _ _ e) T.cl_Machine T.na_Machine_own_seen rfl ?_
  have b3 : SameBut a H3 (upd H3 a (.ins (He.ga K "Machine") dx [("own_seen", .ref p1)])) := (same_but (same_refl _)).upd
  have hr3 := but_DL b3 (s13 _ _ e) (Mo.mo s13 hr')
  have k3 : rT rI _ (.ref p1) s' := Tt.tm (but_t b3 (s13 _ _ e)) k1
  generalize hH4 : upd H3 a (.ins (He.ga K "Machine") dx [("own_seen", .ref p1)]) = H4 at b3 hr3 k3
  have e4 : H4 a = some (.ins (He.ga K "Machine") dx [("own_seen", .ref p1)]) := by rw [← hH4]; exact upd_same
  have B4 : SameBut a H H4 := fun b o n z => b3 b o n (s13 _ _ z)
  walk_at "S"
  refine c_sortD (m := rows) hr3 (by omega) fun p5 H5 s5 hp5 k5 => ?_
  walk_at "S"
  refine ls_L k5 fun c5 ec5 kc5 => ?_
  refine dc_L (r := rS) (r' := rT rI) (fun nm => some (nm, (rows.lookup nm).getD [])) kc5 (fun x b H6 hb s6 rx Yk N j1 j2 => ?_) fun D H6 s6 hD kD => ?_
  · obtain ⟨rfl, hw⟩ := rx
    obtain ⟨l, hlk⟩ := lookup_of_key (srt_mem.mp hb)
    walk_at "S"
    refine ⟨trivial, ?_⟩
    refine dg_R (r := rL rI) (Mo.mo (s5.trans s6) hr3) hlk fun y ry => ?_
    walk_at "S"
    refine c_tupRL ry fun p H7 s7 hp kp => ?_
    exact j1 _ rfl hw _ _ s7 (by simpa [hlk] using kp)
  · have s56 := s5.trans s6
    rw [show (srt (rows.map Prod.fst)).filterMap (fun nm => some (nm, (rows.lookup nm).getD [])) = ordD rows from fm_some _ _, fromW_nd (ordD_nd nd)] at kD
    walk_at "S"
    refine pt_a (gs := [("own_seen", .ref p1), ("own_deeds", .ref D)]) (s56 _ _ e4) T.cl_Machine T.na_Machine_own_deeds rfl ?_
    have b7 : SameBut a H6 (upd H6 a (.ins (He.ga K "Machine") dx [("own_seen", .ref p1), ("own_deeds", .ref D)])) := (same_but (same_refl _)).upd
    have kD7 := but_D b7 (s56 _ _ e4) kD
    have k7 : rT rI _ (.ref p1) s' := Tt.tm (but_t b7 (s56 _ _ e4)) (Tt.tm (same_t s56) k3)
    generalize hH7 : upd H6 a (.ins (He.ga K "Machine") dx [("own_seen", .ref p1), ("own_deeds", .ref D)]) = H7 at b7 kD7 k7
    have e7 : H7 a = some (.ins (He.ga K "Machine") dx [("own_seen", .ref p1), ("own_deeds", .ref D)]) := by rw [← hH7]; exact upd_same
    have B7 : SameBut a H H7 := fun b o n z => b7 b o n (s56 _ _ (B4 b o n z))
    walk_at "S"
    refine fl_a e7 T.cl_Machine T.na_Machine_own_seen rfl ?_
    walk_at "S"
    refine fl_a e7 T.cl_Machine T.na_Machine_own_deeds rfl ?_
    have okM := mkM_ok lo hi sh d1 d4 ok nd
    refine ⟨s', ordD rows, k7, kD7, okM.ok, hi, okM.d4, fun p8 H8 s8 hp8 k8 => ?_⟩
    walk_at "S"
    refine c_tupRL k8 fun p9 H9 s9 hp9 k9 => ?_
    have s89 := s8.trans s9
    walk_at "S"
    refine pt_a (gs := [("own_seen", .ref p1), ("own_deeds", .ref D), ("own_images", .ref p9)]) (s89 _ _ e7) T.cl_Machine T.na_Machine_own_images rfl ?_
    have b10 : SameBut a H9 (upd H9 a (.ins (He.ga K "Machine") dx [("own_seen", .ref p1), ("own_deeds", .ref D), ("own_images", .ref p9)])) := (same_but (same_refl _)).upd
    refine q _ (fun b o n z => b10 b o n (s89 _ _ (B7 b o n z))) ⟨⟨a, dx, .ref p1, .ref D, .ref p9, rfl, upd_same, ?_, ?_, ?_⟩, okM⟩
    · exact Tt.tm (but_t b10 (s89 _ _ e7)) (Tt.tm (same_t s89) k7)
    · exact but_D b10 (s89 _ _ e7) (Mo.mo s89 kD7)
    · exact Tt.tm (but_t b10 (s89 _ _ e7)) k9
def sp_led_by (K : PySem.W.Frag) : Sp := fun vs H Q _ => match vs with
  | [x, i, v] => ∃ M s l, rM K H x M ∧ i = .int s ∧ rL rS H v l ∧ inN M.seen.length s ∧ (∀ b ∈ l, b ∈ M.deeds.map Prod.fst) ∧ Q (.int (runM M.deeds s l)) H
  | _ => False
theorem sc_led_by : FnScope ["machine", "state", "row", "name"] ["machine", "state", "row"] (defScope s_led_by) := ⟨rfl, rfl, rfl, by decide +kernel, rfl, by decide +kernel, by decide +kernel⟩
theorem sp_led_by_len : ∀ (vs : List V) (H : Hp) (Q : VK) (E : XK), (sp_led_by K) vs H Q E → vs.length = 3
  | [_, _, _], _, _, _, _ => rfl
  | [], _, _, _, h => h.elim
  | [_], _, _, _, h => h.elim
  | [_, _], _, _, _, h => h.elim
  | _ :: _ :: _ :: _ :: _, _, _, _, h => h.elim
theorem cal_led_by (T : Tx P w K mg) : Cl P w K mg base 1 "led_by" (sp_led_by K) [] := by
  refine cl_of (st := s_led_by) (qual := "led_by") (kws := []) (T.c.def_ 11 (d := d_led_by) rfl) sc_led_by sp_led_by_len (T.glo 20 rfl) (fun _ _ _ _ _ _ us hl => match us, hl with | [_, _, _], _ => rfl) (fun cdv A outer s H vs Q E hr h => ⟨_, (pss_cons (ps_for PassesOwn.never rfl (pi_ls T (pv 2)) (pg_name (i := 3) sc_led_by.nd rfl (Or.inl rfl)) (pss_one (ps_set (i := 1) sc_led_by.nd rfl (Or.inl rfl) (pe_ix (ix_any T hr) (pe_dget (hu_of hr) (pe_fd T (pv 0) rfl) (pv 3) (fun _ _ => rfl)) (pv 1) (fun _ _ => rfl)))))
  (pss_one (ps_ret (pv 1)))), ?_⟩)
  obtain ⟨a0, a1, a2, rfl⟩ := len3 (sp_led_by_len _ _ _ _ h)
  obtain ⟨M, s', l, hM, rfl, hl, hs, hb, q⟩ := h
  walk_at "S"
  refine ls_L hl fun c ec hc => ?_
  refine for_L (r := rS) (l := l) (fun i σ H' => H' = H ∧ ∃ o, σ = [some a0, some (.int (runM M.deeds s' (l.take i))), some a2, o]) ⟨rfl, none, rfl⟩ (fun i σ H' _ ⟨e, _⟩ => e ▸ hc) ?_ ?_
  · rintro i x b σ H' hi ⟨rfl, hw⟩ ⟨rfl, o, rfl⟩
    have hbm := hb b (List.mem_of_getElem? hi)
    obtain ⟨m, hm⟩ := lookup_of_key hbm
    have ok := hM.2.ok
    obtain ⟨o1, o2⟩ := ok _ (lookup_mem hm)
    have hst : inN M.seen.length (runM M.deeds s' (l.take i)) := runM_ok ok (fun a ha => hb a (List.mem_of_mem_take ha)) hs
    walk_at "S"
    refine fM_deeds T hM fun d kd => ?_
    refine dg_R (r := rT rI) kd hm fun y ry => ?_
    walk_at "S"
    refine x_RT (n := (runM M.deeds s' (l.take i)).toNat) (b := gi m (runM M.deeds s' (l.take i))) ry (by have := hst.1; omega) (gi_at hst.1 hst.2 o1) fun y ry => ?_
    cases ry
    refine ⟨rfl, some (.str b), ?_⟩
    have e : l.take (i + 1) = l.take i ++ [b] := by rw [List.take_succ, hi]; rfl
    have e2 : runM M.deeds s' (l.take (i + 1)) = gi m (runM M.deeds s' (l.take i)) := by
      rw [e]; unfold runM; rw [List.foldl_append]; simp [step1, hm]
    rw [e2]
    walk_at "S"
  · rintro σ H' ⟨rfl, o, rfl⟩
    walk_at "S"
    rw [List.take_length]
    exact q
end
end Nb

/-! part D4 -/
set_option Elab.async false
set_option linter.all false
set_option maxRecDepth 100000
set_option maxHeartbeats 4000000
namespace Nb
open PySem PySem.Spec PyProof.Rows L2
local macro_rules | `(tactic| walk_at "S") => `(tactic| (try simp only [tSeq, tNext, tRet, tIfS, tDrop, tAsg, gName, tFor_eq, tWhile_eq, tLc_eq, tLc2_eq, tDc_eq, sFld_eq, sDPut_eq, tPar, tPar3, tC, tVar, tCB, tOp, tTup, tLst, tChain, tDGet_eq, tDGet2, tAndV, tOrV, tNotV, tIf, tLstRg, tRg1, tDisp, tPairs, tUn, rU, tTest, tNot, tB, tAnd, tOr, tYes, tSl, tPart, tNoPart, tRevL, tM1, tDNewK, tDNewT, gCons_c, gNil_n, gSub, gTup_eq, iRng1_eq, iList_eq, iTup_eq, iSeq_eq, iStr, iKeys_eq, iVals_eq, iEnum_eq, cx_K, tCons, tNil, tBM, tCall, tMake, tProp, tMeth, tFld_eq, tStar_eq, iZipM_eq, tDisp1, L2.start, List.map_cons, List.map_nil, List.length_cons, List.length_nil, List.cons_append, List.nil_append, List.append_nil, List.getElem?_cons_zero, List.getElem?_cons_succ, List.set_cons_zero, List.set_cons_succ, Option.some.injEq, exists_eq_left', exists_eq_left, V.bl.injEq, V.int.injEq, V.str.injEq, V.ref.injEq, if_true, if_false, Nat.reduceAdd, Nat.reduceSub, List.replicate_succ, List.replicate_zero, Bool.not_true, Bool.not_false, Bool.false_eq_true, if_neg, not_false_eq_true, wipe]))
local macro_rules | `(tactic| walk_at "G") => `(tactic| (walk_at "S"; repeat ((first | with_reducible refine o_add ?_ | with_reducible refine o_sub ?_ | with_reducible refine o_mul ?_ | with_reducible refine o_lt ?_ | with_reducible refine o_le ?_ | with_reducible refine o_gt ?_ | with_reducible refine o_ge ?_ | with_reducible refine o_eqI ?_ | with_reducible refine o_neI ?_ | with_reducible refine o_eqS ?_ | with_reducible refine o_neS ?_ | with_reducible refine o_isN ?_ | with_reducible refine o_notN ?_ | with_reducible refine i_int ?_ | with_reducible refine i_intB ?_ | with_reducible refine i_str ?_); walk_at "S")))
section
variable {P : Program} {w : World} {K : PySem.W.Frag} {mg : Str → Option Value} {base : Heap}
def sp_is_entry (K : PySem.W.Frag) : Sp := fun vs H Q _ => match vs with
  | [x, v] => ∃ M e, rM K H x M ∧ rE H v e ∧ e.2 ∈ M.deeds.map Prod.fst ∧ PuV (.bl true) Q H
  | _ => False
theorem sc_is_entry : FnScope ["machine", "thing"] ["machine", "thing"] (defScope s_is_entry) := ⟨rfl, rfl, rfl, by decide +kernel, rfl, by decide +kernel, by decide +kernel⟩
theorem sp_is_entry_len : ∀ (vs : List V) (H : Hp) (Q : VK) (E : XK), (sp_is_entry K) vs H Q E → vs.length = 2
  | [_, _], _, _, _, _ => rfl
  | [], _, _, _, h => h.elim
  | [_], _, _, _, h => h.elim
  | _ :: _ :: _ :: _, _, _, _, h => h.elim
theorem cal_is_entry (T : Tx P w K mg) : Cl P w K mg base 2 "is_entry" (sp_is_entry K) [] := by
  refine cl_of (st := s_is_entry) (qual := "is_entry") (kws := []) (T.c.def_ 12 (d := d_is_entry) rfl) sc_is_entry sp_is_entry_len (T.glo 21 rfl) (fun _ _ _ _ _ _ us hl => match us, hl with | [_, _], _ => rfl) (fun cdv A outer s H vs Q E hr h => ⟨_, (pss_cons (ps_if (PW.pt (pw_or (pt_not (pt_val (pe_callB (cl_any (f := .builtin "isinstance") T hr) rfl (T.free 108 rfl) (by decide +kernel) (pa_cons (pv 1) (pa_cons (pe_bltn (v := .ty "tuple") (u := .type "tuple") rfl (T.free 119 rfl) (by decide +kernel) rfl) pa_nil))))) (pw_or (pt_cmpR (op_any T hr) (pe_callB (cl_any (f := .builtin "len") T hr) rfl (T.free 109 rfl) (by decide +kernel) (pa_cons (pv 1) pa_nil)) pe_int (nomark _)) (pw_or1 (pt_not (pt_val (pe_callB (cl_any (f := .builtin "isinstance") T hr) rfl (T.free 108 rfl) (by decide +kernel) (pa_cons (pe_ix (ix_any T hr) (pv 1) pe_int (fun _ _ => rfl)) (pa_cons (pe_bltn (v := .ty "str") (u := .type "str") rfl (T.free 117 rfl) (by decide +kernel) rfl) pa_nil))))))))) (pss_one (ps_ret pe_bl)) pss_nil)
  (pss_one (ps_ret (pe_and (pe_or (pe_cmpR (op_any T hr) (pe_ix (ix_any T hr) (pv 1) pe_int (fun _ _ => rfl)) pe_non (nomark _)) (pe_one (pe_cl (cal_is_name T) hr (by decide) rfl (pa_cons (pe_ix (ix_any T hr) (pv 1) pe_int (fun _ _ => rfl)) pa_nil)))) (pe_one (pe_cmpR (op_any T hr) (pe_ix (ix_any T hr) (pv 1) pe_int (fun _ _ => rfl)) (pe_fd T (pv 0) rfl) (by rfl))))))), ?_⟩)
  obtain ⟨a0, a1, rfl⟩ := len2 (sp_is_entry_len _ _ _ _ h)
  obtain ⟨M, e, hM, he, hk, q⟩ := h
  obtain ⟨l, hlk⟩ := lookup_of_key hk
  walk_at "S"
  refine i_P he ?_
  walk_at "S"
  refine c_lenP he ?_
  walk_at "G"
  refine x_P1 he fun y ry => ?_
  obtain ⟨rfl, hw⟩ := id ry
  walk_at "G"
  refine x_P0 he fun z rz => ?_
  obtain ⟨rfl, hz⟩ := rz
  refine o_isNO ?_
  walk_at "S"
  have fin : ∀ H1, Same H H1 → rXx P w K mg a1 (V.int 1) H1 fun x H1 => fldB K "own_deeds" a0 H1 fun y H2 => rOp P w K mg (compareOp CmpOp.In) x y H2 Q := fun H1 s1 => by
    refine x_P1 (Mo.mo s1 he) fun y ry => ?_
    obtain ⟨rfl, _⟩ := ry
    refine fM_deeds T (Mo.mo s1 hM) fun d kd => ?_
    refine o_inD kd ?_
    rw [hlk]
    exact q _ s1
  cases e1 : e.1 with
  | none =>
    walk_at "S"
    exact fin H (same_refl _)
  | some s1 =>
    walk_at "S"
    simp only [reduceCtorEq, decide_false, Bool.false_eq_true, if_false]
    refine x_P0 he fun z rz => ?_
    obtain ⟨rfl, hz⟩ := rz
    refine ⟨s1, ⟨by rw [e1]; rfl, hz _ e1⟩, fun H1 s1 => ?_⟩
    walk_at "S"
    exact fin H1 s1
def sp_people_in : Sp := fun vs H Q _ => match vs with
  | [x] => ∃ rows, rL rE H x rows ∧ (folk rows).length < 64 ∧ ∀ p H', Same H H' → rT rS H' (.ref p) (folk rows) → Q (.ref p) H'
  | _ => False
theorem sc_people_in : FnScope ["log", "person", "deed"] ["log"] (defScope s_people_in) := ⟨rfl, rfl, rfl, by decide +kernel, rfl, by decide +kernel, by decide +kernel⟩
theorem sp_people_in_len : ∀ (vs : List V) (H : Hp) (Q : VK) (E : XK), sp_people_in vs H Q E → vs.length = 1
  | [_], _, _, _, _ => rfl
  | [], _, _, _, h => h.elim
  | _ :: _ :: _, _, _, _, h => h.elim
theorem cal_people_in (T : Tx P w K mg) : Cl P w K mg base 1 "people_in" sp_people_in [] := by
  refine cl_of (st := s_people_in) (qual := "people_in") (kws := []) (T.c.def_ 13 (d := d_people_in) rfl) sc_people_in sp_people_in_len (T.glo 22 rfl) (fun _ _ _ _ _ _ us hl => match us, hl with | [_], _ => rfl) (fun cdv A outer s H vs Q E hr h => ⟨_, (pss_one (ps_ret (pe_callTy (cl_any (f := .type "tuple") T hr) rfl (T.free 119 rfl) (by decide +kernel) (pa_cons (pe_callB (cl_any (f := .builtin "sorted") T hr) rfl (T.free 116 rfl) (by decide +kernel) (pa_cons (pe_dc (own := [("person", 1), ("deed", 2)]) rfl sc_people_in.nd (pi_ls T (pv 0)) (blkOk_by (own := [("person", 1), ("deed", 2)]) (N := ["log", "person", "deed"]) (sc := defScope s_people_in) (by decide +kernel)) (fun _ _ _ _ _ => (pg_tk (n := 2) T rfl (pgs_cons (pg_name (i := 1) sc_people_in.nd rfl (Or.inl rfl)) (pgs_cons (pg_name (i := 2) sc_people_in.nd rfl (Or.inl rfl)) pgs_nil)))) (fun _ _ _ _ _ => pts_one (pt_cmpR (op_any T hr) (pv 1) pe_non (nomark _))) (fun _ _ _ _ _ => (pv 1)) (fun _ _ _ _ _ => pe_bl)) pa_nil)) pa_nil)))), ?_⟩)
  obtain ⟨a0, rfl⟩ := len1 (sp_people_in_len _ _ _ _ h)
  obtain ⟨rows, hr', h64, q⟩ := h
  walk_at "S"
  refine ls_L hr' fun c ec hc => ?_
  refine dc_L (r := rE) (r' := rB) (fun e => e.1.map fun s => (s, true)) hc (fun x b H1 hb s1 rx Yk N k1 k2 => ?_) fun D H1 s1 hD kD => ?_
  · walk_at "S"
    refine tup_P rx fun y z ry rz => ?_
    obtain ⟨rfl, hy⟩ := ry
    walk_at "S"
    refine ⟨trivial, o_notNO ?_⟩
    walk_at "S"
    cases e1 : b.1 with
    | none =>
      simp only [decide_true, Bool.not_true, Bool.false_eq_true, if_false]
      exact k2 (by rw [e1]; rfl) _ (same_refl _)
    | some s =>
      simp only [reduceCtorEq, decide_false, Bool.not_false, if_true]
      exact k1 _ (by rw [e1]; rfl) (hy _ e1) _ _ (same_refl _) rfl
  · have ek : (fromW (rows.filterMap fun e => e.1.map fun s => (s, true))).map Prod.fst = dd (whos rows) := by
      rw [fromW_dd]
      congr 1
      unfold whos
      rw [List.map_filterMap]
      congr 1
      funext e
      cases e.1 <;> rfl
    have el : (fromW (rows.filterMap fun e => e.1.map fun s => (s, true))).length < 64 := by
      rw [← List.length_map (f := Prod.fst), ek, ← srt_len]; exact h64
    refine c_sortD kD el fun p H2 s2 hp k2 => ?_
    walk_at "S"
    rw [ek] at k2
    exact c_tupRL k2 fun p H3 s3 hp3 k3 => q p _ ((s1.trans s2).trans s3) k3
def sp_need_log (K : PySem.W.Frag) : Sp := fun vs H Q _ => match vs with
  | [x, v] => ∃ M rows, rM K H x M ∧ rL rE H v rows ∧ okRows M.deeds rows ∧ (folk rows).length ≤ 6 ∧ PuV .non Q H
  | _ => False
theorem sc_need_log : FnScope ["machine", "log", "at", "entry"] ["machine", "log"] (defScope s_need_log) := ⟨rfl, rfl, rfl, by decide +kernel, rfl, by decide +kernel, by decide +kernel⟩
theorem sp_need_log_len : ∀ (vs : List V) (H : Hp) (Q : VK) (E : XK), (sp_need_log K) vs H Q E → vs.length = 2
  | [_, _], _, _, _, _ => rfl
  | [], _, _, _, h => h.elim
  | [_], _, _, _, h => h.elim
  | _ :: _ :: _ :: _, _, _, _, h => h.elim
theorem cal_need_log (T : Tx P w K mg) : Cl P w K mg base 3 "need_log" (sp_need_log K) [] := by
  refine cl_of (st := s_need_log) (qual := "need_log") (kws := []) (T.c.def_ 14 (d := d_need_log) rfl) sc_need_log sp_need_log_len (T.glo 23 rfl) (fun _ _ _ _ _ _ us hl => match us, hl with | [_, _], _ => rfl) (fun cdv A outer s H vs Q E hr h => ⟨_, (pss_cons (ps_if (pt_not (pt_val (pe_cl (cal_is_list T) hr (by decide) rfl (pa_cons (pv 1) pa_nil)))) pss_never pss_nil)
  (pss_cons (ps_for PassesOwn.never rfl (pi_enum rfl (T.free 106 rfl) (pa_cons (pv 1) pa_nil)) (pg_tk (n := 2) T rfl (pgs_cons (pg_name (i := 2) sc_need_log.nd rfl (Or.inl rfl)) (pgs_cons (pg_name (i := 3) sc_need_log.nd rfl (Or.inl rfl)) pgs_nil))) (pss_one (ps_if (pt_not (pt_val (pe_cl (cal_is_entry T) hr (by decide) rfl (pa_cons (pv 0) (pa_cons (pv 3) pa_nil))))) pss_never pss_nil)))
  (pss_one (ps_if (pt_cmpR (op_any T hr) (pe_callB (cl_any (f := .builtin "len") T hr) rfl (T.free 109 rfl) (by decide +kernel) (pa_cons (pe_cl (cal_people_in T) hr (by decide) rfl (pa_cons (pv 1) pa_nil)) pa_nil)) (pe_gi rfl (T.int 127 rfl)) (nomark _)) pss_never pss_nil)))), ?_⟩)
  obtain ⟨a0, a1, rfl⟩ := len2 (sp_need_log_len _ _ _ _ h)
  obtain ⟨M, rows, hM, hr', ok, h6, q⟩ := h
  walk_at "S"
  refine ⟨rQ_seq (.inl hr'), fun H1 s1 => ?_⟩
  walk_at "S"
  refine en_L (Mo.mo s1 hr') fun c ec hc => ?_
  refine for_E (r := rE) (l := rows) (fun i σ H' => Same H1 H' ∧ ∃ o2 o3, σ = [some a0, some a1, o2, o3]) ⟨same_refl _, none, none, rfl⟩ (fun i σ H' _ ⟨s2, _⟩ => Mo.mo s2 hc) ?_ ?_
  · rintro i x b σ H2 tp hb rx ⟨s2, o2, o3, rfl⟩ hT
    walk_at "S"
    refine tup_n upd_same rfl ?_
    walk_at "S"
    have s3 : Same H2 (upd H2 tp (.tup [.int i, x])) := same_new (same_refl _) hT
    refine ⟨M, b, Mo.mo ((s1.trans s2).trans s3) hM, Mo.mo s3 rx, ok _ (List.mem_of_getElem? hb), fun H3 s4 => ?_⟩
    walk_at "S"
    exact ⟨(s2.trans s3).trans s4, _, _, rfl⟩
  · rintro σ H2 ⟨s2, o2, o3, rfl⟩
    walk_at "S"
    refine ⟨rows, Mo.mo (s1.trans s2) hr', by omega, fun p H3 s3 k3 => ?_⟩
    walk_at "S"
    refine c_lenRT k3 ?_
    walk_at "G"
    rw [decide_eq_false (show ¬ (6 : Int) < (folk rows).length by omega)]
    walk_at "S"
    exact q _ ((s1.trans s2).trans s3)
def sp_are_people : Sp := fun vs H Q _ => match vs with
  | [x] => ∃ l, rQ rS H x l ∧ l.Nodup ∧ PuV (.bl true) Q H
  | _ => False
theorem sc_are_people : FnScope ["thing", "person"] ["thing"] (defScope s_are_people) := ⟨rfl, rfl, rfl, by decide +kernel, rfl, by decide +kernel, by decide +kernel⟩
theorem sp_are_people_len : ∀ (vs : List V) (H : Hp) (Q : VK) (E : XK), sp_are_people vs H Q E → vs.length = 1
  | [_], _, _, _, _ => rfl
  | [], _, _, _, h => h.elim
  | _ :: _ :: _, _, _, _, h => h.elim
theorem cal_are_people (T : Tx P w K mg) : Cl P w K mg base 2 "are_people" sp_are_people [] := by
  refine cl_of (st := s_are_people) (qual := "are_people") (kws := []) (T.c.def_ 15 (d := d_are_people) rfl) sc_are_people sp_are_people_len (T.glo 24 rfl) (fun _ _ _ _ _ _ us hl => match us, hl with | [_], _ => rfl) (fun cdv A outer s H vs Q E hr h => ⟨_, (pss_cons (ps_if (PW.pt (pw_or (pt_not (pt_val (pe_cl (cal_is_list T) hr (by decide) rfl (pa_cons (pv 0) pa_nil)))) (pw_or1 (pt_not (pt_val (pe_callB (cl_any (f := .builtin "all") T hr) rfl (T.free 102 rfl) (by decide +kernel) (pa_cons (pe_lc (own := [("person", 1)]) rfl sc_are_people.nd (pi_sq T (pv 0)) (blkOk_by (own := [("person", 1)]) (N := ["thing", "person"]) (sc := defScope s_are_people) (by decide +kernel)) (fun _ _ _ _ _ => (pg_name (i := 1) sc_are_people.nd rfl (Or.inl rfl))) (fun _ _ _ _ _ => pts_nil) (fun _ _ _ _ _ => (pe_cl (cal_is_name T) hr (by decide) rfl (pa_cons (pv 1) pa_nil)))) pa_nil))))))) (pss_one (ps_ret pe_bl)) pss_nil)
  (pss_one (ps_ret (pe_cmpR (op_any T hr) (pe_callB (cl_any (f := .builtin "len") T hr) rfl (T.free 109 rfl) (by decide +kernel) (pa_cons (pe_dc (own := [("person", 1)]) rfl sc_are_people.nd (pi_sq T (pv 0)) (blkOk_by (own := [("person", 1)]) (N := ["thing", "person"]) (sc := defScope s_are_people) (by decide +kernel)) (fun _ _ _ _ _ => (pg_name (i := 1) sc_are_people.nd rfl (Or.inl rfl))) (fun _ _ _ _ _ => pts_nil) (fun _ _ _ _ _ => (pv 1)) (fun _ _ _ _ _ => pe_bl)) pa_nil)) (pe_callB (cl_any (f := .builtin "len") T hr) rfl (T.free 109 rfl) (by decide +kernel) (pa_cons (pv 0) pa_nil)) (nomark _))))), ?_⟩)
  obtain ⟨a0, rfl⟩ := len1 (sp_are_people_len _ _ _ _ h)
  obtain ⟨l, hl, nd, q⟩ := h
  walk_at "S"
  refine ⟨rQ_seq hl, fun H1 s1 => ?_⟩
  walk_at "S"
  have tail : ∀ H2, Same H H2 → sqB K a0 (fun J H1 => dcB J (gName 1) tYes (tVar 1) (tC (V.bl true)) [1] [some a0, none] H1 fun x H1 => rCl P w K mg (Value.builtin "len") [x] H1 fun x H1 => rCl P w K mg (Value.builtin "len") [a0] H1 fun y H2 => rOp P w K mg (compareOp CmpOp.Eq) x y H2 Q) H2 := fun H2 s2 => by
    have fin : ∀ D H3, Same H2 H3 → rD rB H3 (.ref D) (fromW (l.filterMap fun s => some (s, true))) → rCl P w K mg (Value.builtin "len") [.ref D] H3 fun x H1 => rCl P w K mg (Value.builtin "len") [a0] H1 fun y H2 => rOp P w K mg (compareOp CmpOp.Eq) x y H2 Q := fun D H3 s3 kD => by
      have el : (fromW (l.filterMap fun s => some (s, true))).length = l.length := by
        rw [← List.length_map (f := Prod.fst), fromW_dd, fm_some, List.map_map]
        rw [show l.map (Prod.fst ∘ fun s => (s, true)) = l from List.map_id l, dd_id nd]
      refine c_lenRD kD ?_
      refine c_lenQ (Mo.mo (s2.trans s3) hl) ?_
      refine o_eqI ?_
      rw [el, decide_eq_true rfl]
      exact q _ (s2.trans s3)
    refine sq_Q (Mo.mo s2 hl) (fun c ec hc => ?_) fun c ec hc => ?_
    · refine dc_L (r := rS) (r' := rB) (fun s => some (s, true)) hc (fun x b H3 hb s3 rx Yk N k1 k2 => ?_) fun D H3 s3 hD kD => fin D H3 s3 kD
      obtain ⟨rfl, hw⟩ := rx
      walk_at "S"
      exact ⟨trivial, k1 _ rfl hw _ _ (same_refl _) rfl⟩
    · refine dc_T (r := rS) (r' := rB) (fun s => some (s, true)) hc (fun x b H3 hb s3 rx Yk N k1 k2 => ?_) fun D H3 s3 hD kD => fin D H3 s3 kD
      obtain ⟨rfl, hw⟩ := rx
      walk_at "S"
      exact ⟨trivial, k1 _ rfl hw _ _ (same_refl _) rfl⟩
  refine sq_Q (Mo.mo s1 hl) (fun c ec hc => ?_) fun c ec hc => ?_
  · refine lc_L (r := rS) (r' := rB) (fun _ => some true) hc (fun x b H3 hb s3 rx Yk N k1 k2 => ?_) fun D H3 s3 hD kD => ?_
    · walk_at "S"
      exact ⟨trivial, b, rx, fun H4 s4 => k1 _ rfl _ _ s4 rfl⟩
    · refine c_allR kD ?_
      rw [all_true fun _ _ => rfl]
      walk_at "S"
      exact tail _ (s1.trans s3)
  · refine lc_T (r := rS) (r' := rB) (fun _ => some true) hc (fun x b H3 hb s3 rx Yk N k1 k2 => ?_) fun D H3 s3 hD kD => ?_
    · walk_at "S"
      exact ⟨trivial, b, rx, fun H4 s4 => k1 _ rfl _ _ s4 rfl⟩
    · refine c_allR kD ?_
      rw [all_true fun _ _ => rfl]
      walk_at "S"
      exact tail _ (s1.trans s3)
def sp_need_lot : Sp := fun vs H Q _ => match vs with
  | [x] => ∃ l, rQ rS H x l ∧ l.Nodup ∧ PuV .non Q H
  | _ => False
theorem sc_need_lot : FnScope ["lot"] ["lot"] (defScope s_need_lot) := ⟨rfl, rfl, rfl, by decide +kernel, rfl, by decide +kernel, by decide +kernel⟩
theorem sp_need_lot_len : ∀ (vs : List V) (H : Hp) (Q : VK) (E : XK), sp_need_lot vs H Q E → vs.length = 1
  | [_], _, _, _, _ => rfl
  | [], _, _, _, h => h.elim
  | _ :: _ :: _, _, _, _, h => h.elim
theorem cal_need_lot (T : Tx P w K mg) : Cl P w K mg base 3 "need_lot" sp_need_lot [] := by
  refine cl_of (st := s_need_lot) (qual := "need_lot") (kws := []) (T.c.def_ 16 (d := d_need_lot) rfl) sc_need_lot sp_need_lot_len (T.glo 25 rfl) (fun _ _ _ _ _ _ us hl => match us, hl with | [_], _ => rfl) (fun cdv A outer s H vs Q E hr h => ⟨_, (pss_one (ps_if (pt_not (pt_val (pe_cl (cal_are_people T) hr (by decide) rfl (pa_cons (pv 0) pa_nil)))) pss_never pss_nil)), ?_⟩)
  obtain ⟨a0, rfl⟩ := len1 (sp_need_lot_len _ _ _ _ h)
  obtain ⟨l, hl, nd, q⟩ := h
  walk_at "S"
  refine ⟨l, hl, nd, fun H1 s1 => ?_⟩
  walk_at "S"
  exact q _ s1
def sp_need_few : Sp := fun vs H Q _ => match vs with
  | [x] => ∃ n, x = .int n ∧ 0 ≤ n ∧ n ≤ 3 ∧ Q .non H
  | _ => False
theorem sc_need_few : FnScope ["few"] ["few"] (defScope s_need_few) := ⟨rfl, rfl, rfl, by decide +kernel, rfl, by decide +kernel, by decide +kernel⟩
theorem sp_need_few_len : ∀ (vs : List V) (H : Hp) (Q : VK) (E : XK), sp_need_few vs H Q E → vs.length = 1
  | [_], _, _, _, _ => rfl
  | [], _, _, _, h => h.elim
  | _ :: _ :: _, _, _, _, h => h.elim
theorem cal_need_few (T : Tx P w K mg) : Cl P w K mg base 3 "need_few" sp_need_few [] := by
  refine cl_of (st := s_need_few) (qual := "need_few") (kws := []) (T.c.def_ 17 (d := d_need_few) rfl) sc_need_few sp_need_few_len (T.glo 26 rfl) (fun _ _ _ _ _ _ us hl => match us, hl with | [_], _ => rfl) (fun cdv A outer s H vs Q E hr h => ⟨_, (pss_one (ps_if (pt_not (pt_val (pe_cl (cal_is_number_in T) hr (by decide) rfl (pa_cons (pv 0) (pa_cons pe_int (pa_cons (pe_gi rfl (T.int 128 rfl)) pa_nil)))))) pss_never pss_nil)), ?_⟩)
  obtain ⟨a0, rfl⟩ := len1 (sp_need_few_len _ _ _ _ h)
  obtain ⟨n, rfl, h0, h3, q⟩ := h
  walk_at "S"
  refine ⟨n, 0, 3, rfl, rfl, rfl, ?_⟩
  rw [decide_eq_true h0, decide_eq_true h3]
  walk_at "S"
  exact q
def sp_need_people : Sp := fun vs H Q _ => match vs with
  | [x, m] => ∃ l, rQ rS H x l ∧ l.Nodup ∧ m = .int 6 ∧ l.length ≤ 6 ∧ PuV .non Q H
  | _ => False
theorem sc_need_people : FnScope ["people", "most"] ["people", "most"] (defScope s_need_people) := ⟨rfl, rfl, rfl, by decide +kernel, rfl, by decide +kernel, by decide +kernel⟩
theorem sp_need_people_len : ∀ (vs : List V) (H : Hp) (Q : VK) (E : XK), sp_need_people vs H Q E → vs.length = 2
  | [_, _], _, _, _, _ => rfl
  | [], _, _, _, h => h.elim
  | [_], _, _, _, h => h.elim
  | _ :: _ :: _ :: _, _, _, _, h => h.elim
theorem cal_need_people (T : Tx P w K mg) : Cl P w K mg base 3 "need_people" sp_need_people [.int 6] := by
  refine cl1_of (st := s_need_people) (qual := "need_people") (kws := []) 1 (T.c.def_ 18 (d := d_need_people) rfl) rfl rfl sc_need_people sp_need_people_len (T.glo 27 rfl) (fun _ _ _ _ _ _ _ us its hl hm => match us, its, hl, hm with | [_], [_], _, _ => ⟨_, rfl, rfl⟩) (fun cdv A outer s H vs Q E hr h => ⟨_, (pss_one (ps_if (PW.pt (pw_or (pt_not (pt_val (pe_cl (cal_are_people T) hr (by decide) rfl (pa_cons (pv 0) pa_nil)))) (pw_or1 (pt_cmpR (op_any T hr) (pe_callB (cl_any (f := .builtin "len") T hr) rfl (T.free 109 rfl) (by decide +kernel) (pa_cons (pv 0) pa_nil)) (pv 1) (nomark _))))) pss_never pss_nil)), ?_⟩)
  obtain ⟨a0, a1, rfl⟩ := len2 (sp_need_people_len _ _ _ _ h)
  obtain ⟨l, hl, nd, rfl, h6, q⟩ := h
  walk_at "S"
  refine ⟨l, hl, nd, fun H1 s1 => ?_⟩
  walk_at "S"
  refine c_lenQ (Mo.mo s1 hl) ?_
  walk_at "G"
  rw [decide_eq_false (show ¬ (6 : Int) < l.length by omega)]
  walk_at "S"
  exact q _ s1
end
end Nb

/-! part D5 -/
set_option Elab.async false
set_option linter.all false
set_option maxRecDepth 100000
set_option maxHeartbeats 4000000
namespace Nb
open PySem PySem.Spec PyProof.Rows L2
local macro_rules | `(tactic| walk_at "S") => `(tactic| (try simp only [tSeq, tNext, tRet, tIfS, tDrop, tAsg, gName, tFor_eq, tWhile_eq, tLc_eq, tLc2_eq, tDc_eq, sFld_eq, sDPut_eq, tPar, tPar3, tC, tVar, tCB, tOp, tTup, tLst, tChain, tDGet_eq, tDGet2, tAndV, tOrV, tNotV, tIf, tLstRg, tRg1, tDisp, tPairs, tUn, rU, tTest, tNot, tB, tAnd, tOr, tYes, tSl, tPart, tNoPart, tRevL, tM1, tDNewK, tDNewT, gCons_c, gNil_n, gSub, gTup_eq, iRng1_eq, iList_eq, iTup_eq, iSeq_eq, iStr, iKeys_eq, iVals_eq, iEnum_eq, cx_K, tCons, tNil, tBM, tCall, tMake, tProp, tMeth, tFld_eq, tStar_eq, iZipM_eq, tDisp1, L2.start, List.map_cons, List.map_nil, List.length_cons, List.length_nil, List.cons_append, List.nil_append, List.append_nil, List.getElem?_cons_zero, List.getElem?_cons_succ, List.set_cons_zero, List.set_cons_succ, Option.some.injEq, exists_eq_left', exists_eq_left, V.bl.injEq, V.int.injEq, V.str.injEq, V.ref.injEq, if_true, if_false, Nat.reduceAdd, Nat.reduceSub, List.replicate_succ, List.replicate_zero, Bool.not_true, Bool.not_false, Bool.false_eq_true, if_neg, not_false_eq_true, wipe]))
local macro_rules | `(tactic| walk_at "G") => `(tactic| (walk_at "S"; repeat ((first | with_reducible refine o_add ?_ | with_reducible refine o_sub ?_ | with_reducible refine o_mul ?_ | with_reducible refine o_lt ?_ | with_reducible refine o_le ?_ | with_reducible refine o_gt ?_ | with_reducible refine o_ge ?_ | with_reducible refine o_eqI ?_ | with_reducible refine o_neI ?_ | with_reducible refine o_eqS ?_ | with_reducible refine o_neS ?_ | with_reducible refine o_isN ?_ | with_reducible refine o_notN ?_ | with_reducible refine i_int ?_ | with_reducible refine i_intB ?_ | with_reducible refine i_str ?_); walk_at "S")))
section
variable {P : Program} {w : World} {K : PySem.W.Frag} {mg : Str → Option Value} {base : Heap}
def sp_lots_of : Sp := fun vs H Q _ => match vs with
  | [x, y] => ∃ l few, rPp H x l ∧ y = .int few ∧ few ≤ 6 ∧ l.length ≤ 6 ∧ PuF (rL (rT rS)) (lots l few) Q H
  | _ => False
abbrev lotsStep (few : Int) (f : List (List Str)) (p : Str) : List (List Str) := f ++ (f.filter fun l => decide ((l.length : Int) < few)).map (· ++ [p])
theorem lotsStep_len {few : Int} : ∀ (l : List Str) (f : List (List Str)), (l.foldl (lotsStep few) f).length ≤ f.length * 2 ^ l.length := fun l f => lotsF_len_acc few l f
theorem sc_lots_of : FnScope ["people", "few", "found", "person", "many", "lot"] ["people", "few"] (defScope s_lots_of) := ⟨rfl, rfl, rfl, by decide +kernel, rfl, by decide +kernel, by decide +kernel⟩
theorem sp_lots_of_len : ∀ (vs : List V) (H : Hp) (Q : VK) (E : XK), sp_lots_of vs H Q E → vs.length = 2
  | [_, _], _, _, _, _ => rfl
  | [], _, _, _, h => h.elim
  | [_], _, _, _, h => h.elim
  | _ :: _ :: _ :: _, _, _, _, h => h.elim
theorem cal_lots_of (T : Tx P w K mg) : Cl P w K mg base 1 "lots_of" sp_lots_of [] := by
  refine cl_of (st := s_lots_of) (qual := "lots_of") (kws := []) (T.c.def_ 19 (d := d_lots_of) rfl) sc_lots_of sp_lots_of_len (T.glo 28 rfl) (fun _ _ _ _ _ _ us hl => match us, hl with | [_, _], _ => rfl) (fun cdv A outer s H vs Q E hr h => ⟨_, (pss_cons (ps_set (i := 2) sc_lots_of.nd rfl (Or.inl rfl) (pe_lst (pa_cons (pe_tup pa_nil) pa_nil)))
  (pss_cons (ps_for PassesOwn.never rfl (pi_ls T (pe_callB (cl_any (f := .builtin "sorted") T hr) rfl (T.free 116 rfl) (by decide +kernel) (pa_cons (pv 0) pa_nil))) (pg_name (i := 3) sc_lots_of.nd rfl (Or.inr rfl)) (pss_one (ps_expr (pe_bk T PySem.F.plainAttrs_list PySem.F.slot_list_extend PySem.F.type_list_extend (mt_any T hr) (pv 2) (pa_cons (pe_lc (own := [("lot", 5)]) rfl sc_lots_of.nd (pi_ls T (pe_callTy (cl_any (f := .type "list") T hr) rfl (T.free 110 rfl) (by decide +kernel) (pa_cons (pv 2) pa_nil))) (blkOk_by (own := [("lot", 5)]) (N := ["people", "few", "found", "person", "many", "lot"]) (sc := defScope s_lots_of) (by decide +kernel)) (fun _ _ _ _ _ => (pg_name (i := 5) sc_lots_of.nd rfl (Or.inl rfl))) (fun _ _ _ _ _ => pts_one (pt_cmpR (op_any T hr) (pe_callB (cl_any (f := .builtin "len") T hr) rfl (T.free 109 rfl) (by decide +kernel) (pa_cons (pv 5) pa_nil)) (pv 1) (nomark _))) (fun _ _ _ _ _ => (pe_tup (pa_st T (pv 5) (pa_cons (pv 3) pa_nil))))) pa_nil)))))
  (pss_one (ps_ret (pe_lc (own := [("many", 4), ("lot", 5)]) rfl sc_lots_of.nd (pi_ls T (pe_callB (cl_any (f := .builtin "sorted") T hr) rfl (T.free 116 rfl) (by decide +kernel) (pa_cons (pe_lc (own := [("lot", 5)]) rfl sc_lots_of.nd (pi_ls T (pv 2)) (blkOk_by (own := [("lot", 5)]) (N := ["people", "few", "found", "person", "many", "lot"]) (sc := defScope s_lots_of) (by decide +kernel)) (fun _ _ _ _ _ => (pg_name (i := 5) sc_lots_of.nd rfl (Or.inl rfl))) (fun _ _ _ _ _ => pts_nil) (fun _ _ _ _ _ => (pe_tup (pa_cons (pe_callB (cl_any (f := .builtin "len") T hr) rfl (T.free 109 rfl) (by decide +kernel) (pa_cons (pv 5) pa_nil)) (pa_cons (pv 5) pa_nil))))) pa_nil))) (blkOk_by (own := [("many", 4), ("lot", 5)]) (N := ["people", "few", "found", "person", "many", "lot"]) (sc := defScope s_lots_of) (by decide +kernel)) (fun _ _ _ _ _ => (pg_tk (n := 2) T rfl (pgs_cons (pg_name (i := 4) sc_lots_of.nd rfl (Or.inl rfl)) (pgs_cons (pg_name (i := 5) sc_lots_of.nd rfl (Or.inl rfl)) pgs_nil)))) (fun _ _ _ _ _ => pts_nil) (fun _ _ _ _ _ => (pv 5))))))), ?_⟩)
  obtain ⟨a0, a1, rfl⟩ := len2 (sp_lots_of_len _ _ _ _ h)
  obtain ⟨l, few, hl, rfl, f6, n6, q⟩ := h
  walk_at "S"
  refine ⟨by decide, fun p hp => ⟨by decide, fun f hf => ?_⟩⟩
  walk_at "S"
  have s1 : Same H (upd H p (.tup [])) := same_new (same_refl _) hp
  have s2 : Same H (upd (upd H p (.tup [])) f (.lst [.ref p])) := same_new s1 hf
  have k2 : rL (rT rS) (upd (upd H p (.tup [])) f (.lst [.ref p])) (.ref f) [[]] := mk_L hf (A2.one ⟨p, [], rfl, upd_same, trivial, by decide⟩) (by decide)
  generalize upd (upd H p (.tup [])) f (.lst [.ref p]) = H2 at s2 k2
  refine c_sortPp (Mo.mo s2 hl) fun t H3 s3 ht k3 => ?_
  walk_at "S"
  refine ls_L k3 fun c ec hc => ?_
  have nl : (srt l).length ≤ 6 := by rw [srt_len]; exact n6
  refine for_L (r := rS) (l := srt l) (fun i σ H' => ∃ f o3, σ = [some a0, some (.int few), some (.ref f), o3, none, none] ∧ f ≠ c ∧ H f = none ∧ (∃ ys, H3 f = some (.lst ys)) ∧ (∀ b o, b ≠ f → H3 b = some o → H' b = some o) ∧ rL (rT rS) H' (.ref f) (((srt l).take i).foldl (lotsStep few) [[]])) ?_ ?_ ?_ ?_
  · cases ec
    have hfe : ∃ xs, H2 f = some (.lst xs) := by obtain ⟨_, xs, e, e1, _⟩ := k2; cases e; exact ⟨_, e1⟩
    obtain ⟨ys0, ho⟩ := hfe
    have hfH : H f = none := by
      have z := s1.free hf
      exact z
    exact ⟨f, none, rfl, ne_of_none ho ht, hfH, ⟨ys0, s3 _ _ ho⟩, fun b o _ z => z, Mo.mo s3 k2⟩
  · rintro i σ H' hi ⟨f, o3, rfl, hn, hf, ⟨ys0, h30⟩, hb, k⟩
    obtain ⟨_, xs, e, e1, e2, e3⟩ := id hc
    cases e
    have t : SameT H3 H' := fun b ys z => by
      by_cases hbf : b = f
      · subst hbf; rw [h30] at z; cases z
      · exact hb _ _ hbf z
    exact ⟨c, xs, rfl, hb _ _ (Ne.symm hn) e1, e2.mono fun _ _ z => Tt.tm t z, e3⟩
  · rintro i x b σ H' hi rx ⟨f, o3, rfl, hn, hf, ⟨ys0, h30⟩, hb, k⟩
    obtain ⟨rfl, hw⟩ := rx
    have nf : (((srt l).take i).foldl (lotsStep few) [[]]).length ≤ 64 := by
      have h1 := lotsStep_len (few := few) ((srt l).take i) [[]]
      have h2 : ((srt l).take i).length ≤ 6 := by rw [List.length_take]; omega
      have h3 : 2 ^ ((srt l).take i).length ≤ 2 ^ 6 := Nat.pow_le_pow_right (by decide) h2
      simp at h1
      simp at h3
      omega
    generalize hF : ((srt l).take i).foldl (lotsStep few) [[]] = F at k nf
    walk_at "S"
    refine ⟨ty_L k, ?_⟩
    refine c_listRL k fun g H4 s4 hg k4 => ?_
    refine ls_L k4 fun g' eg hg' => ?_
    refine lc_L (r := rT rS) (r' := rT rS) (fun l => if decide ((l.length : Int) < few) = true then some (l ++ [b]) else none) hg' (fun x lt H5 hb5 s5 rx Yk N k1 k2 => ?_) fun D H5 s5 hD kD => ?_
    · walk_at "S"
      refine ⟨trivial, ?_⟩
      refine c_lenRT rx ?_
      walk_at "G"
      by_cases hlt : (lt.length : Int) < few
      · rw [decide_eq_true hlt]
        walk_at "S"
        refine star_T rx fun xs kx => ?_
        have hx := kx.len
        have h2 := rT_bnd rx
        have h6 : lt.length + 1 ≤ lim := by have h0 : 7 ≤ lim := by decide
                                            omega
        walk_at "S"
        have ka : A2 (rS H5) (xs ++ [.str b]) (lt ++ [b]) := kx.app (.one ⟨rfl, hw⟩)
        refine ⟨ka.bnd (by simpa using h6), fun p hp => k1 _ (by rw [if_pos (decide_eq_true hlt)]) _ _ (same_new (same_refl _) hp) (mk_T hp ka (by simpa using h6))⟩
      · rw [decide_eq_false hlt]
        walk_at "S"
        exact k2 (by rw [decide_eq_false hlt]; rfl) _ (same_refl _)
    · have s45 := s4.trans s5
      rw [fm_if] at kD
      refine m_extR (Mo.mo s45 k) kD (by
        have := List.length_filter_le (fun l : List Str => decide ((l.length : Int) < few)) F
        have h0 : 128 ≤ lim := by decide
        rw [List.length_map]; omega) fun o ko => ?_
      have et : (srt l).take (i + 1) = (srt l).take i ++ [b] := by rw [List.take_succ, hi]; rfl
      refine ⟨f, some (.str b), ?_, hn, hf, ⟨ys0, h30⟩, fun b' o' n z => ?_, ?_⟩
      · walk_at "S"
      · rw [upd_ne n]; exact s45 _ _ (hb _ _ n z)
      · rw [et, List.foldl_append, hF]
        exact ko
  · rintro σ H' ⟨f, o3, rfl, hn, hf, ⟨ys0, h30⟩, hb, k⟩
    rw [List.take_length] at k
    have sH : Same H H' := fun b o z => hb _ _ (fun e => by subst e; rw [hf] at z; cases z) (s3 _ _ (s2 _ _ z))
    have nF : (lotsF (srt l) few).length ≤ 64 := by
      have h1 := lotsF_len (srt l) few
      have h3 : 2 ^ (srt l).length ≤ 2 ^ 6 := Nat.pow_le_pow_right (by decide) nl
      simp at h3
      omega
    have k' : rL (rT rS) H' (.ref f) (lotsF (srt l) few) := k
    generalize hF : lotsF (srt l) few = F at k' nF
    walk_at "S"
    refine ls_L k' fun f' ef hf' => ?_
    refine lc_L (r := rT rS) (r' := rL2) (fun l => some ((l.length : Int), l)) hf' (fun x lt H5 hb5 s5 rx Yk N k1 k2 => ?_) fun D H5 s5 hD kD => ?_
    · walk_at "S"
      refine ⟨trivial, ?_⟩
      refine c_lenRT rx ?_
      walk_at "S"
      exact ⟨by decide, fun p hp => k1 _ rfl _ _ (same_new (same_refl _) hp) (mk_P hp rfl rx)⟩
    · walk_at "S"
      rw [fm_some] at kD
      refine c_sort (r := rL2) kD fun t6 H6 s6 ht6 k6 => ?_
      walk_at "S"
      refine ls_L k6 fun c7 ec7 hc7 => ?_
      refine lc_L (r := rL2) (r' := rT rS) (fun p => some p.2) hc7 (fun x lt H8 hb8 s8 rx Yk N k1 k2 => ?_) fun D8 H8 s8 hD8 kD8 => ?_
      · walk_at "S"
        refine tup_P rx fun y z ry rz => ?_
        walk_at "S"
        exact ⟨trivial, k1 _ rfl _ _ (same_refl _) rz⟩
      · have s58 := (s5.trans s6).trans s8
        refine q D8 _ (sH.trans s58) ((sH.trans (s5.trans s6)).free hD8) ?_
        rw [fm_some] at kD8
        show rL (rT rS) H8 (.ref D8) (lotsS (lotsF (srt l) few))
        rw [hF]
        exact kD8
end
end Nb

/-! part D6 -/
set_option Elab.async false
set_option linter.all false
set_option maxRecDepth 100000
set_option maxHeartbeats 4000000
namespace Nb
open PySem PySem.Spec PyProof.Rows L2
local macro_rules | `(tactic| walk_at "S") => `(tactic| (try simp only [tSeq, tNext, tRet, tIfS, tDrop, tAsg, gName, tFor_eq, tWhile_eq, tLc_eq, tLc2_eq, tDc_eq, sFld_eq, sDPut_eq, tPar, tPar3, tC, tVar, tCB, tOp, tTup, tLst, tChain, tDGet_eq, tDGet2, tAndV, tOrV, tNotV, tIf, tLstRg, tRg1, tDisp, tPairs, tUn, rU, tTest, tNot, tB, tAnd, tOr, tYes, tSl, tPart, tNoPart, tRevL, tM1, tDNewK, tDNewT, gCons_c, gNil_n, gSub, gTup_eq, iRng1_eq, iList_eq, iTup_eq, iSeq_eq, iStr, iKeys_eq, iVals_eq, iEnum_eq, cx_K, tCons, tNil, tBM, tCall, tMake, tProp, tMeth, tFld_eq, tStar_eq, iZipM_eq, tDisp1, L2.start, List.map_cons, List.map_nil, List.length_cons, List.length_nil, List.cons_append, List.nil_append, List.append_nil, List.getElem?_cons_zero, List.getElem?_cons_succ, List.set_cons_zero, List.set_cons_succ, Option.some.injEq, exists_eq_left', exists_eq_left, V.bl.injEq, V.int.injEq, V.str.injEq, V.ref.injEq, if_true, if_false, Nat.reduceAdd, Nat.reduceSub, List.replicate_succ, List.replicate_zero, Bool.not_true, Bool.not_false, Bool.false_eq_true, if_neg, not_false_eq_true, wipe]))
local macro_rules | `(tactic| walk_at "G") => `(tactic| (walk_at "S"; repeat ((first | with_reducible refine o_add ?_ | with_reducible refine o_sub ?_ | with_reducible refine o_mul ?_ | with_reducible refine o_lt ?_ | with_reducible refine o_le ?_ | with_reducible refine o_gt ?_ | with_reducible refine o_ge ?_ | with_reducible refine o_eqI ?_ | with_reducible refine o_neI ?_ | with_reducible refine o_eqS ?_ | with_reducible refine o_neS ?_ | with_reducible refine o_isN ?_ | with_reducible refine o_notN ?_ | with_reducible refine i_int ?_ | with_reducible refine i_intB ?_ | with_reducible refine i_str ?_); walk_at "S")))
section
variable {P : Program} {w : World} {K : PySem.W.Frag} {mg : Str → Option Value} {base : Heap}
def sp_without_of : Sp := fun vs H Q _ => match vs with
  | [x, y] => ∃ rows lot, rL rE H x rows ∧ rQ rS H y lot ∧ PuF (rL rE) (rest rows lot) Q H
  | _ => False
theorem sc_without_of : FnScope ["log", "lot", "entry"] ["log", "lot"] (defScope s_without_of) := ⟨rfl, rfl, rfl, by decide +kernel, rfl, by decide +kernel, by decide +kernel⟩
theorem sp_without_of_len : ∀ (vs : List V) (H : Hp) (Q : VK) (E : XK), sp_without_of vs H Q E → vs.length = 2
  | [_, _], _, _, _, _ => rfl
  | [], _, _, _, h => h.elim
  | [_], _, _, _, h => h.elim
  | _ :: _ :: _ :: _, _, _, _, h => h.elim
theorem cal_without_of (T : Tx P w K mg) : Cl P w K mg base 1 "without_of" sp_without_of [] := by
  refine cl_of (st := s_without_of) (qual := "without_of") (kws := []) (T.c.def_ 20 (d := d_without_of) rfl) sc_without_of sp_without_of_len (T.glo 29 rfl) (fun _ _ _ _ _ _ us hl => match us, hl with | [_, _], _ => rfl) (fun cdv A outer s H vs Q E hr h => ⟨_, (pss_one (ps_ret (pe_lc (own := [("entry", 2)]) rfl sc_without_of.nd (pi_ls T (pv 0)) (blkOk_by (own := [("entry", 2)]) (N := ["log", "lot", "entry"]) (sc := defScope s_without_of) (by decide +kernel)) (fun _ _ _ _ _ => (pg_name (i := 2) sc_without_of.nd rfl (Or.inl rfl))) (fun _ _ _ _ _ => pts_one (PW.pt (pw_or (pt_cmpR (op_any T hr) (pe_ix (ix_any T hr) (pv 2) pe_int (fun _ _ => rfl)) pe_non (nomark _)) (pw_or1 (pt_cmpR (op_any T hr) (pe_ix (ix_any T hr) (pv 2) pe_int (fun _ _ => rfl)) (pv 1) (by rfl)))))) (fun _ _ _ _ _ => (pv 2))))), ?_⟩)
  obtain ⟨a0, a1, rfl⟩ := len2 (sp_without_of_len _ _ _ _ h)
  obtain ⟨rows, lot, hr', hl, q⟩ := h
  walk_at "S"
  refine ls_L hr' fun c ec hc => ?_
  refine lc_L (r := rE) (r' := rE) (fun e => if (!decide (e.1 ∈ lot.map some)) = true then some e else none) hc (fun x e H1 hb s1 rx Yk N k1 k2 => ?_) fun D H1 s1 hD kD => ?_
  · walk_at "S"
    refine ⟨trivial, ?_⟩
    refine x_P0 rx fun y ry => ?_
    obtain ⟨rfl, hw⟩ := ry
    refine o_isNO ?_
    walk_at "S"
    by_cases hn : e.1 = none
    · rw [decide_eq_true hn]
      walk_at "S"
      exact k1 _ (by rw [hn]; simp) _ _ (same_refl _) rx
    · rw [decide_eq_false hn]
      walk_at "S"
      refine x_P0 rx fun y ry => ?_
      obtain ⟨rfl, hw⟩ := ry
      refine o_notinQ (Mo.mo s1 hl) ?_
      walk_at "S"
      by_cases hm : e.1 ∈ lot.map some
      · rw [decide_eq_true hm]
        walk_at "S"
        exact k2 (by rw [decide_eq_true hm]; rfl) _ (same_refl _)
      · rw [decide_eq_false hm]
        walk_at "S"
        exact k1 _ (by rw [decide_eq_false hm]; rfl) _ _ (same_refl _) rx
  · rw [fm_if, List.map_id'] at kD
    exact q D H1 s1 hD kD
def sp_state_behind (K : PySem.W.Frag) : Sp := fun vs H Q _ => match vs with
  | [m, x, y] => ∃ M rows lot, rM K H m M ∧ rL rE H x rows ∧ okRows M.deeds rows ∧ rQ rS H y lot ∧ PuV (.int (behind M.deeds rows lot)) Q H
  | _ => False
theorem sc_state_behind : FnScope ["machine", "log", "lot", "person", "deed"] ["machine", "log", "lot"] (defScope s_state_behind) := ⟨rfl, rfl, rfl, by decide +kernel, rfl, by decide +kernel, by decide +kernel⟩
theorem sp_state_behind_len : ∀ (vs : List V) (H : Hp) (Q : VK) (E : XK), (sp_state_behind K) vs H Q E → vs.length = 3
  | [_, _, _], _, _, _, _ => rfl
  | [], _, _, _, h => h.elim
  | [_], _, _, _, h => h.elim
  | [_, _], _, _, _, h => h.elim
  | _ :: _ :: _ :: _ :: _, _, _, _, h => h.elim
theorem cal_state_behind (T : Tx P w K mg) : Cl P w K mg base 2 "state_behind" (sp_state_behind K) [] := by
  refine cl_of (st := s_state_behind) (qual := "state_behind") (kws := []) (T.c.def_ 21 (d := d_state_behind) rfl) sc_state_behind sp_state_behind_len (T.glo 30 rfl) (fun _ _ _ _ _ _ us hl => match us, hl with | [_, _, _], _ => rfl) (fun cdv A outer s H vs Q E hr h => ⟨_, (pss_one (ps_ret (pe_cl (cal_led_by T) hr (by decide) rfl (pa_cons (pv 0) (pa_cons pe_int (pa_cons (pe_lc (own := [("person", 3), ("deed", 4)]) rfl sc_state_behind.nd (pi_ls T (pe_cl (cal_without_of T) hr (by decide) rfl (pa_cons (pv 1) (pa_cons (pv 2) pa_nil)))) (blkOk_by (own := [("person", 3), ("deed", 4)]) (N := ["machine", "log", "lot", "person", "deed"]) (sc := defScope s_state_behind) (by decide +kernel)) (fun _ _ _ _ _ => (pg_tk (n := 2) T rfl (pgs_cons (pg_name (i := 3) sc_state_behind.nd rfl (Or.inl rfl)) (pgs_cons (pg_name (i := 4) sc_state_behind.nd rfl (Or.inl rfl)) pgs_nil)))) (fun _ _ _ _ _ => pts_nil) (fun _ _ _ _ _ => (pv 4))) pa_nil)))))), ?_⟩)
  obtain ⟨a0, a1, a2, rfl⟩ := len3 (sp_state_behind_len _ _ _ _ h)
  obtain ⟨M, rows, lot, hM, hr', ok, hl, q⟩ := h
  walk_at "S"
  refine ⟨rows, lot, hr', hl, fun t H1 s1 ht k1 => ?_⟩
  walk_at "S"
  refine ls_L k1 fun c ec hc => ?_
  refine lc_L (r := rE) (r' := rS) (fun e => some e.2) hc (fun x e H2 hb s2 rx Yk N k1 k2 => ?_) fun D H2 s2 hD kD => ?_
  · walk_at "S"
    refine tup_P rx fun y z ry rz => ?_
    walk_at "S"
    exact ⟨trivial, k1 _ rfl _ _ (same_refl _) rz⟩
  · walk_at "S"
    rw [fm_some] at kD
    have lo := hM.2.lo
    refine ⟨M, 0, _, Mo.mo (s1.trans s2) hM, rfl, kD, ⟨by omega, by omega⟩, fun b hb => ?_, q _ (s1.trans s2)⟩
    obtain ⟨e, he, rfl⟩ := List.mem_map.mp hb
    exact rest_ok ok e he
def sp_need_all (K : PySem.W.Frag) : Sp := fun vs H Q _ => match vs with
  | [m, x, y] => ∃ M rows lot, rM K H m M ∧ rL rE H x rows ∧ okRows M.deeds rows ∧ (folk rows).length ≤ 6 ∧ rQ rS H y lot ∧ lot.Nodup ∧ PuV .non Q H
  | _ => False
theorem sc_need_all : FnScope ["machine", "log", "lot"] ["machine", "log", "lot"] (defScope s_need_all) := ⟨rfl, rfl, rfl, by decide +kernel, rfl, by decide +kernel, by decide +kernel⟩
theorem sp_need_all_len : ∀ (vs : List V) (H : Hp) (Q : VK) (E : XK), (sp_need_all K) vs H Q E → vs.length = 3
  | [_, _, _], _, _, _, _ => rfl
  | [], _, _, _, h => h.elim
  | [_], _, _, _, h => h.elim
  | [_, _], _, _, _, h => h.elim
  | _ :: _ :: _ :: _ :: _, _, _, _, h => h.elim
theorem cal_need_all (T : Tx P w K mg) : Cl P w K mg base 4 "need_all" (sp_need_all K) [] := by
  refine cl_of (st := s_need_all) (qual := "need_all") (kws := []) (T.c.def_ 22 (d := d_need_all) rfl) sc_need_all sp_need_all_len (T.glo 31 rfl) (fun _ _ _ _ _ _ us hl => match us, hl with | [_, _, _], _ => rfl) (fun cdv A outer s H vs Q E hr h => ⟨_, (pss_cons (ps_expr (pe_cl (cal_need_machine T) hr (by decide) rfl (pa_cons (pv 0) pa_nil)))
  (pss_cons (ps_expr (pe_cl (cal_need_log T) hr (by decide) rfl (pa_cons (pv 0) (pa_cons (pv 1) pa_nil))))
  (pss_one (ps_expr (pe_cl (cal_need_lot T) hr (by decide) rfl (pa_cons (pv 2) pa_nil)))))), ?_⟩)
  obtain ⟨a0, a1, a2, rfl⟩ := len3 (sp_need_all_len _ _ _ _ h)
  obtain ⟨M, rows, lot, hM, hr', ok, h6, hl, nd, q⟩ := h
  walk_at "S"
  refine ⟨M, hM, ?_⟩
  walk_at "S"
  refine ⟨M, rows, hM, hr', ok, h6, fun H1 s1 => ?_⟩
  walk_at "S"
  exact ⟨lot, Mo.mo s1 hl, nd, fun H2 s2 => q _ (s1.trans s2)⟩
def sp_people_of (K : PySem.W.Frag) : Sp := fun vs H Q _ => match vs with
  | [m, x] => ∃ M rows, rM K H m M ∧ rL rE H x rows ∧ okRows M.deeds rows ∧ (folk rows).length ≤ 6 ∧ ∀ p H', Same H H' → rT rS H' (.ref p) (folk rows) → Q (.ref p) H'
  | _ => False
theorem sc_people_of : FnScope ["machine", "log"] ["machine", "log"] (defScope s_people_of) := ⟨rfl, rfl, rfl, by decide +kernel, rfl, by decide +kernel, by decide +kernel⟩
theorem sp_people_of_len : ∀ (vs : List V) (H : Hp) (Q : VK) (E : XK), (sp_people_of K) vs H Q E → vs.length = 2
  | [_, _], _, _, _, _ => rfl
  | [], _, _, _, h => h.elim
  | [_], _, _, _, h => h.elim
  | _ :: _ :: _ :: _, _, _, _, h => h.elim
theorem cal_people_of (T : Tx P w K mg) : Cl P w K mg base 4 "people_of" (sp_people_of K) [] := by
  refine cl_of (st := s_people_of) (qual := "people_of") (kws := []) (T.c.def_ 23 (d := d_people_of) rfl) sc_people_of sp_people_of_len (T.glo 32 rfl) (fun _ _ _ _ _ _ us hl => match us, hl with | [_, _], _ => rfl) (fun cdv A outer s H vs Q E hr h => ⟨_, (pss_cons (ps_expr (pe_cl (cal_need_machine T) hr (by decide) rfl (pa_cons (pv 0) pa_nil)))
  (pss_cons (ps_expr (pe_cl (cal_need_log T) hr (by decide) rfl (pa_cons (pv 0) (pa_cons (pv 1) pa_nil))))
  (pss_one (ps_ret (pe_cl (cal_people_in T) hr (by decide) rfl (pa_cons (pv 1) pa_nil)))))), ?_⟩)
  obtain ⟨a0, a1, rfl⟩ := len2 (sp_people_of_len _ _ _ _ h)
  obtain ⟨M, rows, hM, hr', ok, h6, q⟩ := h
  walk_at "S"
  refine ⟨M, hM, ?_⟩
  walk_at "S"
  refine ⟨M, rows, hM, hr', ok, h6, fun H1 s1 => ?_⟩
  walk_at "S"
  exact ⟨rows, Mo.mo s1 hr', by omega, fun p H2 s2 k2 => q p _ (s1.trans s2) k2⟩
def sp_without (K : PySem.W.Frag) : Sp := fun vs H Q _ => match vs with
  | [m, x, y] => ∃ M rows lot, rM K H m M ∧ rL rE H x rows ∧ okRows M.deeds rows ∧ (folk rows).length ≤ 6 ∧ rQ rS H y lot ∧ lot.Nodup ∧ PuF (rL rE) (rest rows lot) Q H
  | _ => False
theorem sc_without : FnScope ["machine", "log", "lot"] ["machine", "log", "lot"] (defScope s_without) := ⟨rfl, rfl, rfl, by decide +kernel, rfl, by decide +kernel, by decide +kernel⟩
theorem sp_without_len : ∀ (vs : List V) (H : Hp) (Q : VK) (E : XK), (sp_without K) vs H Q E → vs.length = 3
  | [_, _, _], _, _, _, _ => rfl
  | [], _, _, _, h => h.elim
  | [_], _, _, _, h => h.elim
  | [_, _], _, _, _, h => h.elim
  | _ :: _ :: _ :: _ :: _, _, _, _, h => h.elim
theorem cal_without (T : Tx P w K mg) : Cl P w K mg base 5 "without" (sp_without K) [] := by
  refine cl_of (st := s_without) (qual := "without") (kws := []) (T.c.def_ 24 (d := d_without) rfl) sc_without sp_without_len (T.glo 33 rfl) (fun _ _ _ _ _ _ us hl => match us, hl with | [_, _, _], _ => rfl) (fun cdv A outer s H vs Q E hr h => ⟨_, (pss_cons (ps_expr (pe_cl (cal_need_all T) hr (by decide) rfl (pa_cons (pv 0) (pa_cons (pv 1) (pa_cons (pv 2) pa_nil)))))
  (pss_one (ps_ret (pe_cl (cal_without_of T) hr (by decide) rfl (pa_cons (pv 1) (pa_cons (pv 2) pa_nil)))))), ?_⟩)
  obtain ⟨a0, a1, a2, rfl⟩ := len3 (sp_without_len _ _ _ _ h)
  obtain ⟨M, rows, lot, hM, hr', ok, h6, hl, nd, q⟩ := h
  walk_at "S"
  refine ⟨M, rows, lot, hM, hr', ok, h6, hl, nd, fun H1 s1 => ?_⟩
  walk_at "S"
  exact ⟨rows, lot, Mo.mo s1 hr', Mo.mo s1 hl, fun p H2 s2 hp k2 => q p _ (s1.trans s2) (s1.free hp) k2⟩
theorem seen_at (T : Tx P w K mg) {H : Hp} {v : V} {l : List Int} {i : Int} {Q : VK} {n : Nat} (h : rT rI H v l) (hi : inN n i) (hn : l.length = n) (q : Q (.int (gi l i)) H) : rXx P w K mg v (.int i) H Q :=
  x_RT (n := i.toNat) (b := gi l i) h (by have := hi.1; omega) (gi_at hi.1 hi.2 hn) fun y ry => by cases ry; exact q
def sp_seen_of (K : PySem.W.Frag) : Sp := fun vs H Q _ => match vs with
  | [m, x, y] => ∃ M rows lot, rM K H m M ∧ rL rE H x rows ∧ okRows M.deeds rows ∧ (folk rows).length ≤ 6 ∧ rQ rS H y lot ∧ lot.Nodup ∧ PuV (.int (gi M.seen (behind M.deeds rows lot))) Q H
  | _ => False
theorem sc_seen_of : FnScope ["machine", "log", "lot"] ["machine", "log", "lot"] (defScope s_seen_of) := ⟨rfl, rfl, rfl, by decide +kernel, rfl, by decide +kernel, by decide +kernel⟩
theorem sp_seen_of_len : ∀ (vs : List V) (H : Hp) (Q : VK) (E : XK), (sp_seen_of K) vs H Q E → vs.length = 3
  | [_, _, _], _, _, _, _ => rfl
  | [], _, _, _, h => h.elim
  | [_], _, _, _, h => h.elim
  | [_, _], _, _, _, h => h.elim
  | _ :: _ :: _ :: _ :: _, _, _, _, h => h.elim
theorem cal_seen_of (T : Tx P w K mg) : Cl P w K mg base 5 "seen_of" (sp_seen_of K) [] := by
  refine cl_of (st := s_seen_of) (qual := "seen_of") (kws := []) (T.c.def_ 25 (d := d_seen_of) rfl) sc_seen_of sp_seen_of_len (T.glo 34 rfl) (fun _ _ _ _ _ _ us hl => match us, hl with | [_, _, _], _ => rfl) (fun cdv A outer s H vs Q E hr h => ⟨_, (pss_cons (ps_expr (pe_cl (cal_need_all T) hr (by decide) rfl (pa_cons (pv 0) (pa_cons (pv 1) (pa_cons (pv 2) pa_nil)))))
  (pss_one (ps_ret (pe_ix (ix_any T hr) (pe_fd T (pv 0) rfl) (pe_cl (cal_state_behind T) hr (by decide) rfl (pa_cons (pv 0) (pa_cons (pv 1) (pa_cons (pv 2) pa_nil)))) (fun _ _ => rfl))))), ?_⟩)
  obtain ⟨a0, a1, a2, rfl⟩ := len3 (sp_seen_of_len _ _ _ _ h)
  obtain ⟨M, rows, lot, hM, hr', ok, h6, hl, nd, q⟩ := h
  walk_at "S"
  refine ⟨M, rows, lot, hM, hr', ok, h6, hl, nd, fun H1 s1 => ?_⟩
  walk_at "S"
  refine fM_seen T (Mo.mo s1 hM) fun y ky => ?_
  walk_at "S"
  refine ⟨M, rows, lot, Mo.mo s1 hM, Mo.mo s1 hr', ok, Mo.mo s1 hl, fun H2 s2 => ?_⟩
  have lo := hM.2.lo
  exact seen_at T (Mo.mo s2 ky) (behind_ok (by omega) hM.2.ok ok) rfl (q _ (s1.trans s2))
def sp_lots : Sp := fun vs H Q _ => match vs with
  | [x, y] => ∃ l few, rQ rS H x l ∧ y = .int few ∧ l.Nodup ∧ l.length ≤ 6 ∧ 0 ≤ few ∧ few ≤ 3 ∧ PuF (rL (rT rS)) (lots l few) Q H
  | _ => False
theorem sc_lots : FnScope ["people", "few"] ["people", "few"] (defScope s_lots) := ⟨rfl, rfl, rfl, by decide +kernel, rfl, by decide +kernel, by decide +kernel⟩
theorem sp_lots_len : ∀ (vs : List V) (H : Hp) (Q : VK) (E : XK), sp_lots vs H Q E → vs.length = 2
  | [_, _], _, _, _, _ => rfl
  | [], _, _, _, h => h.elim
  | [_], _, _, _, h => h.elim
  | _ :: _ :: _ :: _, _, _, _, h => h.elim
theorem cal_lots (T : Tx P w K mg) : Cl P w K mg base 4 "lots" sp_lots [] := by
  refine cl_of (st := s_lots) (qual := "lots") (kws := []) (T.c.def_ 26 (d := d_lots) rfl) sc_lots sp_lots_len (T.glo 35 rfl) (fun _ _ _ _ _ _ us hl => match us, hl with | [_, _], _ => rfl) (fun cdv A outer s H vs Q E hr h => ⟨_, (pss_cons (ps_expr (pe_cl (cal_need_people T) hr (by decide) rfl (pa_cons (pv 0) pa_nil)))
  (pss_cons (ps_expr (pe_cl (cal_need_few T) hr (by decide) rfl (pa_cons (pv 1) pa_nil)))
  (pss_one (ps_ret (pe_cl (cal_lots_of T) hr (by decide) rfl (pa_cons (pv 0) (pa_cons (pv 1) pa_nil))))))), ?_⟩)
  obtain ⟨a0, a1, rfl⟩ := len2 (sp_lots_len _ _ _ _ h)
  obtain ⟨l, few, hl, rfl, nd, n6, f0, f3, q⟩ := h
  walk_at "S"
  refine ⟨l, hl, nd, rfl, n6, fun H1 s1 => ?_⟩
  walk_at "S"
  refine ⟨few, rfl, f0, f3, ?_⟩
  walk_at "S"
  exact ⟨l, few, (Mo.mo s1 hl).imp id .inl, rfl, by omega, n6, fun p H2 s2 hp k2 => q p _ (s1.trans s2) (s1.free hp) k2⟩
def sp_need_logs (K : PySem.W.Frag) : Sp := fun vs H Q _ => match vs with
  | [m, x, y, z] => ∃ M one other few, rM K H m M ∧ rL rE H x one ∧ rL rE H y other ∧ z = .int few ∧ okRows M.deeds one ∧ okRows M.deeds other ∧ (folk one).length ≤ 6 ∧ (folk other).length ≤ 6 ∧ 0 ≤ few ∧ few ≤ 3 ∧ PuV .non Q H
  | _ => False
theorem sc_need_logs : FnScope ["machine", "one", "other", "few"] ["machine", "one", "other", "few"] (defScope s_need_logs) := ⟨rfl, rfl, rfl, by decide +kernel, rfl, by decide +kernel, by decide +kernel⟩
theorem sp_need_logs_len : ∀ (vs : List V) (H : Hp) (Q : VK) (E : XK), (sp_need_logs K) vs H Q E → vs.length = 4
  | [_, _, _, _], _, _, _, _ => rfl
  | [], _, _, _, h => h.elim
  | [_], _, _, _, h => h.elim
  | [_, _], _, _, _, h => h.elim
  | [_, _, _], _, _, _, h => h.elim
  | _ :: _ :: _ :: _ :: _ :: _, _, _, _, h => h.elim
theorem cal_need_logs (T : Tx P w K mg) : Cl P w K mg base 4 "need_logs" (sp_need_logs K) [] := by
  refine cl_of (st := s_need_logs) (qual := "need_logs") (kws := []) (T.c.def_ 27 (d := d_need_logs) rfl) sc_need_logs sp_need_logs_len (T.glo 36 rfl) (fun _ _ _ _ _ _ us hl => match us, hl with | [_, _, _, _], _ => rfl) (fun cdv A outer s H vs Q E hr h => ⟨_, (pss_cons (ps_expr (pe_cl (cal_need_machine T) hr (by decide) rfl (pa_cons (pv 0) pa_nil)))
  (pss_cons (ps_expr (pe_cl (cal_need_log T) hr (by decide) rfl (pa_cons (pv 0) (pa_cons (pv 1) pa_nil))))
  (pss_cons (ps_expr (pe_cl (cal_need_log T) hr (by decide) rfl (pa_cons (pv 0) (pa_cons (pv 2) pa_nil))))
  (pss_one (ps_expr (pe_cl (cal_need_few T) hr (by decide) rfl (pa_cons (pv 3) pa_nil))))))), ?_⟩)
  obtain ⟨a0, a1, a2, a3, rfl⟩ := len4 (sp_need_logs_len _ _ _ _ h)
  obtain ⟨M, one, other, few, hM, h1, h2, rfl, o1, o2, n1, n2, f0, f3, q⟩ := h
  walk_at "S"
  refine ⟨M, hM, ?_⟩
  walk_at "S"
  refine ⟨M, one, hM, h1, o1, n1, fun H1 s1 => ?_⟩
  walk_at "S"
  refine ⟨M, other, Mo.mo s1 hM, Mo.mo s1 h2, o2, n2, fun H2 s2 => ?_⟩
  walk_at "S"
  exact ⟨few, rfl, f0, f3, q _ (s1.trans s2)⟩
def both (one other : List Entry) : List Str := dd (folk one ++ folk other)
def sp_lots_of_both : Sp := fun vs H Q _ => match vs with
  | [x, y, z] => ∃ one other few, rL rE H x one ∧ rL rE H y other ∧ z = .int few ∧ (folk one).length ≤ 6 ∧ (folk other).length ≤ 6 ∧ (both one other).length ≤ 6 ∧ few ≤ 6 ∧ PuF (rL (rT rS)) (lots (both one other) few) Q H
  | _ => False
theorem sc_lots_of_both : FnScope ["one", "other", "few", "person"] ["one", "other", "few"] (defScope s_lots_of_both) := ⟨rfl, rfl, rfl, by decide +kernel, rfl, by decide +kernel, by decide +kernel⟩
theorem sp_lots_of_both_len : ∀ (vs : List V) (H : Hp) (Q : VK) (E : XK), sp_lots_of_both vs H Q E → vs.length = 3
  | [_, _, _], _, _, _, _ => rfl
  | [], _, _, _, h => h.elim
  | [_], _, _, _, h => h.elim
  | [_, _], _, _, _, h => h.elim
  | _ :: _ :: _ :: _ :: _, _, _, _, h => h.elim
theorem cal_lots_of_both (T : Tx P w K mg) : Cl P w K mg base 2 "lots_of_both" sp_lots_of_both [] := by
  refine cl_of (st := s_lots_of_both) (qual := "lots_of_both") (kws := []) (T.c.def_ 28 (d := d_lots_of_both) rfl) sc_lots_of_both sp_lots_of_both_len (T.glo 37 rfl) (fun _ _ _ _ _ _ us hl => match us, hl with | [_, _, _], _ => rfl) (fun cdv A outer s H vs Q E hr h => ⟨_, (pss_one (ps_ret (pe_cl (cal_lots_of T) hr (by decide) rfl (pa_cons (pe_dc (own := [("person", 3)]) rfl sc_lots_of_both.nd (pi_ls T (pe_lst (pa_st T (pe_cl (cal_people_in T) hr (by decide) rfl (pa_cons (pv 0) pa_nil)) (pa_st T (pe_cl (cal_people_in T) hr (by decide) rfl (pa_cons (pv 1) pa_nil)) pa_nil)))) (blkOk_by (own := [("person", 3)]) (N := ["one", "other", "few", "person"]) (sc := defScope s_lots_of_both) (by decide +kernel)) (fun _ _ _ _ _ => (pg_name (i := 3) sc_lots_of_both.nd rfl (Or.inl rfl))) (fun _ _ _ _ _ => pts_nil) (fun _ _ _ _ _ => (pv 3)) (fun _ _ _ _ _ => pe_bl)) (pa_cons (pv 2) pa_nil))))), ?_⟩)
  obtain ⟨a0, a1, a2, rfl⟩ := len3 (sp_lots_of_both_len _ _ _ _ h)
  obtain ⟨one, other, few, h1, h2, rfl, n1, n2, n6, f6, q⟩ := h
  walk_at "S"
  refine ⟨one, h1, by omega, fun p1 H1 s1 k1 => ?_⟩
  walk_at "S"
  refine star_T k1 fun xs kx => ?_
  walk_at "S"
  refine ⟨other, Mo.mo s1 h2, by omega, fun p2 H2 s2 k2 => ?_⟩
  refine star_T k2 fun ys ky => ?_
  walk_at "S"
  have ka : A2 (rS H2) (xs ++ ys) (folk one ++ folk other) := (kx.mono fun _ _ z => Tt.tm (same_t s2) z).app ky
  have hb : (folk one ++ folk other).length ≤ lim := by
    have h0 : 12 ≤ lim := by decide
    rw [List.length_append]; omega
  refine ⟨ka.bnd hb, fun p hp => ?_⟩
  have k3 := mk_L hp ka hb
  have s3 : Same H2 (upd H2 p (.lst (xs ++ ys))) := same_new (same_refl _) hp
  generalize upd H2 p (.lst (xs ++ ys)) = H3 at k3 s3
  refine ls_L k3 fun c ec hc => ?_
  refine dc_L (r := rS) (r' := rB) (fun s => some (s, true)) hc (fun x b H4 hb s4 rx Yk N j1 j2 => ?_) fun D H4 s4 hD kD => ?_
  · obtain ⟨rfl, hw⟩ := rx
    walk_at "S"
    exact ⟨trivial, j1 _ rfl hw _ _ (same_refl _) rfl⟩
  · walk_at "S"
    have s14 := ((s1.trans s2).trans s3).trans s4
    have ek : (fromW ((folk one ++ folk other).filterMap fun s => some (s, true))).map Prod.fst = both one other := by
      rw [fromW_dd, fm_some, List.map_map]
      rw [show (folk one ++ folk other).map (Prod.fst ∘ fun s => (s, true)) = folk one ++ folk other from List.map_id _]
      rfl
    exact ⟨both one other, few, .inr (.inr ⟨_, kD, ek, by omega⟩), rfl, f6, n6, fun p H5 s5 hp k5 => q p _ (s14.trans s5) (s14.free hp) k5⟩
def sp_states_behind (K : PySem.W.Frag) : Sp := fun vs H Q _ => match vs with
  | [m, x, y, z] => ∃ M one other lot, rM K H m M ∧ rL rE H x one ∧ rL rE H y other ∧ rQ rS H z lot ∧ okRows M.deeds one ∧ okRows M.deeds other ∧ PuR (rP rI rI) (behind M.deeds one lot, behind M.deeds other lot) Q H
  | _ => False
theorem sc_states_behind : FnScope ["machine", "one", "other", "lot"] ["machine", "one", "other", "lot"] (defScope s_states_behind) := ⟨rfl, rfl, rfl, by decide +kernel, rfl, by decide +kernel, by decide +kernel⟩
theorem sp_states_behind_len : ∀ (vs : List V) (H : Hp) (Q : VK) (E : XK), (sp_states_behind K) vs H Q E → vs.length = 4
  | [_, _, _, _], _, _, _, _ => rfl
  | [], _, _, _, h => h.elim
  | [_], _, _, _, h => h.elim
  | [_, _], _, _, _, h => h.elim
  | [_, _, _], _, _, _, h => h.elim
  | _ :: _ :: _ :: _ :: _ :: _, _, _, _, h => h.elim
theorem cal_states_behind (T : Tx P w K mg) : Cl P w K mg base 3 "states_behind" (sp_states_behind K) [] := by
  refine cl_of (st := s_states_behind) (qual := "states_behind") (kws := []) (T.c.def_ 29 (d := d_states_behind) rfl) sc_states_behind sp_states_behind_len (T.glo 38 rfl) (fun _ _ _ _ _ _ us hl => match us, hl with | [_, _, _, _], _ => rfl) (fun cdv A outer s H vs Q E hr h => ⟨_, (pss_one (ps_ret (pe_tup (pa_cons (pe_cl (cal_state_behind T) hr (by decide) rfl (pa_cons (pv 0) (pa_cons (pv 1) (pa_cons (pv 3) pa_nil)))) (pa_cons (pe_cl (cal_state_behind T) hr (by decide) rfl (pa_cons (pv 0) (pa_cons (pv 2) (pa_cons (pv 3) pa_nil)))) pa_nil))))), ?_⟩)
  obtain ⟨a0, a1, a2, a3, rfl⟩ := len4 (sp_states_behind_len _ _ _ _ h)
  obtain ⟨M, one, other, lot, hM, h1, h2, hl, o1, o2, q⟩ := h
  walk_at "S"
  refine ⟨M, one, lot, hM, h1, o1, hl, fun H1 s1 => ?_⟩
  walk_at "S"
  refine ⟨M, other, lot, Mo.mo s1 hM, Mo.mo s1 h2, o2, Mo.mo s1 hl, fun H2 s2 => ?_⟩
  walk_at "S"
  exact ⟨by decide, fun p hp => q _ _ (same_new (s1.trans s2) hp) (mk_P hp rfl rfl)⟩
/-- None, or what stands for it -/
def rOf {α : Type} (r : RR α) : RR (Option α) := fun H v o => match o with
  | none => v = .non
  | some a => r H v a
def unlike (M : Mach) (one other : List Entry) (few : Int) : Option (List Str) := (lots (both one other) few).find? fun lot => !decide (gi M.img (behind M.deeds one lot) = gi M.img (behind M.deeds other lot))
def sp_unlike_lot (K : PySem.W.Frag) : Sp := fun vs H Q _ => match vs with
  | [m, x, y, z] => ∃ M one other few, rM K H m M ∧ rL rE H x one ∧ rL rE H y other ∧ z = .int few ∧ okRows M.deeds one ∧ okRows M.deeds other ∧ (folk one).length ≤ 6 ∧ (folk other).length ≤ 6 ∧ (both one other).length ≤ 6 ∧ few ≤ 6 ∧ PuR (rOf (rT rS)) (unlike M one other few) Q H
  | _ => False
theorem find_take {α : Type} {p : α → Bool} {l : List α} {i : Nat} {b : α} (h : (l.take i).find? p = none) (hi : l[i]? = some b) : (p b = true → l.find? p = some b) ∧ (p b = false → (l.take (i + 1)).find? p = none) := by
  have e : l.take (i + 1) = l.take i ++ [b] := by rw [List.take_succ, hi]; rfl
  constructor
  · intro hp
    rw [← List.take_append_drop (i + 1) l, e, List.append_assoc, List.find?_append, h]
    simp [hp]
  · intro hp
    rw [e, List.find?_append, h]
    simp [hp]
theorem img_len {M : Mach} (h : OkM M) : M.img.length = M.seen.length := by rw [h.im]; exact itr_len rfl _
theorem sc_unlike_lot : FnScope ["machine", "one", "other", "few", "lot", "first", "second"] ["machine", "one", "other", "few"] (defScope s_unlike_lot) := ⟨rfl, rfl, rfl, by decide +kernel, rfl, by decide +kernel, by decide +kernel⟩
theorem sp_unlike_lot_len : ∀ (vs : List V) (H : Hp) (Q : VK) (E : XK), (sp_unlike_lot K) vs H Q E → vs.length = 4
  | [_, _, _, _], _, _, _, _ => rfl
  | [], _, _, _, h => h.elim
  | [_], _, _, _, h => h.elim
  | [_, _], _, _, _, h => h.elim
  | [_, _, _], _, _, _, h => h.elim
  | _ :: _ :: _ :: _ :: _ :: _, _, _, _, h => h.elim
theorem cal_unlike_lot (T : Tx P w K mg) : Cl P w K mg base 4 "unlike_lot" (sp_unlike_lot K) [] := by
  refine cl_of (st := s_unlike_lot) (qual := "unlike_lot") (kws := []) (T.c.def_ 30 (d := d_unlike_lot) rfl) sc_unlike_lot sp_unlike_lot_len (T.glo 39 rfl) (fun _ _ _ _ _ _ us hl => match us, hl with | [_, _, _, _], _ => rfl) (fun cdv A outer s H vs Q E hr h => ⟨_, (pss_cons (ps_for PassesOwn.never rfl (pi_ls T (pe_cl (cal_lots_of_both T) hr (by decide) rfl (pa_cons (pv 1) (pa_cons (pv 2) (pa_cons (pv 3) pa_nil))))) (pg_name (i := 4) sc_unlike_lot.nd rfl (Or.inl rfl)) (pss_cons (ps_asg (pe_cl (cal_states_behind T) hr (by decide) rfl (pa_cons (pv 0) (pa_cons (pv 1) (pa_cons (pv 2) (pa_cons (pv 4) pa_nil))))) (pg_tk (n := 2) T rfl (pgs_cons (pg_name (i := 5) sc_unlike_lot.nd rfl (Or.inl rfl)) (pgs_cons (pg_name (i := 6) sc_unlike_lot.nd rfl (Or.inl rfl)) pgs_nil))))
  (pss_one (ps_if (pt_cmpR (op_any T hr) (pe_ix (ix_any T hr) (pe_fd T (pv 0) rfl) (pv 5) (fun _ _ => rfl)) (pe_ix (ix_any T hr) (pe_fd T (pv 0) rfl) (pv 6) (fun _ _ => rfl)) (nomark _)) (pss_one (ps_ret (pv 4))) pss_nil))))
  (pss_one (ps_ret pe_non))), ?_⟩)
  obtain ⟨a0, a1, a2, a3, rfl⟩ := len4 (sp_unlike_lot_len _ _ _ _ h)
  obtain ⟨M, one, other, few, hM, h1, h2, rfl, o1, o2, n1, n2, n6, f6, q⟩ := h
  have lo := hM.2.lo
  walk_at "S"
  refine ⟨one, other, few, h1, h2, rfl, n1, n2, n6, f6, fun t H1 s1 ht k1 => ?_⟩
  refine ls_L k1 fun c ec hc => ?_
  refine for_L (r := rT rS) (l := lots (both one other) few) (fun i σ H' => Same H1 H' ∧ (∃ o4 o5 o6, σ = [some a0, some a1, some a2, some (.int few), o4, o5, o6]) ∧ ((lots (both one other) few).take i).find? (fun lot => !decide (gi M.img (behind M.deeds one lot) = gi M.img (behind M.deeds other lot))) = none) ⟨same_refl _, ⟨_, _, _, rfl⟩, rfl⟩ (fun i σ H' _ ⟨s, _⟩ => Mo.mo s hc) ?_ ?_
  · rintro i x lot σ H2 hi rx ⟨s2, ⟨o4, o5, o6, rfl⟩, hf⟩
    have s12 := s1.trans s2
    walk_at "S"
    refine ⟨M, one, other, lot, Mo.mo s12 hM, Mo.mo s12 h1, Mo.mo s12 h2, .inr rx, o1, o2, fun v H3 s3 k3 => ?_⟩
    have s13 := s12.trans s3
    refine tup_P k3 fun y z ry rz => ?_
    cases ry
    cases rz
    walk_at "S"
    refine fM_img T (Mo.mo s13 hM) fun y ky => ?_
    refine seen_at T ky (behind_ok (by omega) hM.2.ok o1) (img_len hM.2) ?_
    refine fM_img T (Mo.mo s13 hM) fun y ky => ?_
    refine seen_at T ky (behind_ok (by omega) hM.2.ok o2) (img_len hM.2) ?_
    walk_at "G"
    obtain ⟨f1, f2⟩ := find_take hf hi
    by_cases he : gi M.img (behind M.deeds one lot) = gi M.img (behind M.deeds other lot)
    · simp only [he, decide_true, Bool.not_true, Bool.false_eq_true, if_false, true_implies] at f1 f2 ⊢
      exact ⟨s2.trans s3, ⟨_, _, _, rfl⟩, f2⟩
    · simp only [he, decide_false, Bool.not_false, if_true, true_implies] at f1 f2 ⊢
      refine q _ _ s13 ?_
      show rOf (rT rS) H3 x (unlike M one other few)
      unfold unlike
      rw [f1]
      exact (Mo.mo (r := rT rS) s3 rx)
  · rintro σ H2 ⟨s2, ⟨o4, o5, o6, rfl⟩, hf⟩
    rw [List.take_length] at hf
    walk_at "S"
    refine q _ _ (s1.trans s2) ?_
    show rOf (rT rS) H2 _ (unlike M one other few)
    unfold unlike
    rw [hf]
    rfl
def sp_alike (K : PySem.W.Frag) : Sp := fun vs H Q _ => match vs with
  | [m, x, y, z] => ∃ M one other few, rM K H m M ∧ rL rE H x one ∧ rL rE H y other ∧ z = .int few ∧ okRows M.deeds one ∧ okRows M.deeds other ∧ (folk one).length ≤ 6 ∧ (folk other).length ≤ 6 ∧ (both one other).length ≤ 6 ∧ 0 ≤ few ∧ few ≤ 3 ∧ PuV (.bl (decide (unlike M one other few = none))) Q H
  | _ => False
theorem rOf_non {H : Hp} {v : V} {o : Option (List Str)} (h : rOf (rT rS) H v o) : decide (v = .non) = decide (o = none) := by
  cases o with
  | none => rw [show v = .non from h]; simp
  | some l =>
    obtain ⟨a, xs, e, _⟩ := (show rT rS H v l from h)
    subst e
    simp
theorem sc_alike : FnScope ["machine", "one", "other", "few"] ["machine", "one", "other", "few"] (defScope s_alike) := ⟨rfl, rfl, rfl, by decide +kernel, rfl, by decide +kernel, by decide +kernel⟩
theorem sp_alike_len : ∀ (vs : List V) (H : Hp) (Q : VK) (E : XK), (sp_alike K) vs H Q E → vs.length = 4
  | [_, _, _, _], _, _, _, _ => rfl
  | [], _, _, _, h => h.elim
  | [_], _, _, _, h => h.elim
  | [_, _], _, _, _, h => h.elim
  | [_, _, _], _, _, _, h => h.elim
  | _ :: _ :: _ :: _ :: _ :: _, _, _, _, h => h.elim
theorem cal_alike (T : Tx P w K mg) : Cl P w K mg base 5 "alike" (sp_alike K) [] := by
  refine cl_of (st := s_alike) (qual := "alike") (kws := []) (T.c.def_ 31 (d := d_alike) rfl) sc_alike sp_alike_len (T.glo 40 rfl) (fun _ _ _ _ _ _ us hl => match us, hl with | [_, _, _, _], _ => rfl) (fun cdv A outer s H vs Q E hr h => ⟨_, (pss_cons (ps_expr (pe_cl (cal_need_logs T) hr (by decide) rfl (pa_cons (pv 0) (pa_cons (pv 1) (pa_cons (pv 2) (pa_cons (pv 3) pa_nil))))))
  (pss_one (ps_ret (pe_cmpR (op_any T hr) (pe_cl (cal_unlike_lot T) hr (by decide) rfl (pa_cons (pv 0) (pa_cons (pv 1) (pa_cons (pv 2) (pa_cons (pv 3) pa_nil))))) pe_non (nomark _))))), ?_⟩)
  obtain ⟨a0, a1, a2, a3, rfl⟩ := len4 (sp_alike_len _ _ _ _ h)
  obtain ⟨M, one, other, few, hM, h1, h2, rfl, o1, o2, n1, n2, n6, f0, f3, q⟩ := h
  walk_at "S"
  refine ⟨M, one, other, few, hM, h1, h2, rfl, o1, o2, n1, n2, f0, f3, fun H1 s1 => ?_⟩
  walk_at "S"
  refine ⟨M, one, other, few, Mo.mo s1 hM, Mo.mo s1 h1, Mo.mo s1 h2, rfl, o1, o2, n1, n2, n6, by omega, fun v H2 s2 k2 => ?_⟩
  walk_at "G"
  rw [rOf_non k2]
  exact q _ (s1.trans s2)
end
end Nb

/-! part D7 -/
set_option Elab.async false
set_option linter.all false
set_option maxRecDepth 100000
set_option maxHeartbeats 4000000
namespace Nb
open PySem PySem.Spec PyProof.Rows L2
local macro_rules | `(tactic| walk_at "S") => `(tactic| (try simp only [tSeq, tNext, tRet, tIfS, tDrop, tAsg, gName, tFor_eq, tWhile_eq, tLc_eq, tLc2_eq, tDc_eq, sFld_eq, sDPut_eq, tPar, tPar3, tC, tVar, tCB, tOp, tTup, tLst, tChain, tDGet_eq, tDGet2, tAndV, tOrV, tNotV, tIf, tLstRg, tRg1, tDisp, tPairs, tUn, rU, tTest, tNot, tB, tAnd, tOr, tYes, tSl, tPart, tNoPart, tRevL, tM1, tDNewK, tDNewT, gCons_c, gNil_n, gSub, gTup_eq, iRng1_eq, iList_eq, iTup_eq, iSeq_eq, iStr, iKeys_eq, iVals_eq, iEnum_eq, cx_K, tCons, tNil, tBM, tCall, tMake, tProp, tMeth, tFld_eq, tStar_eq, iZipM_eq, tDisp1, L2.start, List.map_cons, List.map_nil, List.length_cons, List.length_nil, List.cons_append, List.nil_append, List.append_nil, List.getElem?_cons_zero, List.getElem?_cons_succ, List.set_cons_zero, List.set_cons_succ, Option.some.injEq, exists_eq_left', exists_eq_left, V.bl.injEq, V.int.injEq, V.str.injEq, V.ref.injEq, if_true, if_false, Nat.reduceAdd, Nat.reduceSub, List.replicate_succ, List.replicate_zero, Bool.not_true, Bool.not_false, Bool.false_eq_true, if_neg, not_false_eq_true, wipe]))
local macro_rules | `(tactic| walk_at "G") => `(tactic| (walk_at "S"; repeat ((first | with_reducible refine o_add ?_ | with_reducible refine o_sub ?_ | with_reducible refine o_mul ?_ | with_reducible refine o_lt ?_ | with_reducible refine o_le ?_ | with_reducible refine o_gt ?_ | with_reducible refine o_ge ?_ | with_reducible refine o_eqI ?_ | with_reducible refine o_neI ?_ | with_reducible refine o_eqS ?_ | with_reducible refine o_neS ?_ | with_reducible refine o_isN ?_ | with_reducible refine o_notN ?_ | with_reducible refine i_int ?_ | with_reducible refine i_intB ?_ | with_reducible refine i_str ?_); walk_at "S")))
section
variable {P : Program} {w : World} {K : PySem.W.Frag} {mg : Str → Option Value} {base : Heap}
theorem eqOS {o : Option Str} {s : Str} : decide (oV o = V.str s) = decide (o = some s) := by cases o <;> simp [oV]
theorem scOS {o : Option Str} {s : Str} : scal (oV o) (.str s) = true := by cases o <;> rfl
def sp_need_person : Sp := fun vs H Q _ => match vs with
  | [x, y] => ∃ rows s, rL rE H x rows ∧ y = .str s ∧ s ∈ folk rows ∧ (folk rows).length ≤ 6 ∧ PuV .non Q H
  | _ => False
theorem sc_need_person : FnScope ["log", "person"] ["log", "person"] (defScope s_need_person) := ⟨rfl, rfl, rfl, by decide +kernel, rfl, by decide +kernel, by decide +kernel⟩
theorem sp_need_person_len : ∀ (vs : List V) (H : Hp) (Q : VK) (E : XK), sp_need_person vs H Q E → vs.length = 2
  | [_, _], _, _, _, _ => rfl
  | [], _, _, _, h => h.elim
  | [_], _, _, _, h => h.elim
  | _ :: _ :: _ :: _, _, _, _, h => h.elim
theorem cal_need_person (T : Tx P w K mg) : Cl P w K mg base 2 "need_person" sp_need_person [] := by
  refine cl_of (st := s_need_person) (qual := "need_person") (kws := []) (T.c.def_ 32 (d := d_need_person) rfl) sc_need_person sp_need_person_len (T.glo 41 rfl) (fun _ _ _ _ _ _ us hl => match us, hl with | [_, _], _ => rfl) (fun cdv A outer s H vs Q E hr h => ⟨_, (pss_one (ps_if (PW.pt (pw_or (pt_not (pt_val (pe_callB (cl_any (f := .builtin "isinstance") T hr) rfl (T.free 108 rfl) (by decide +kernel) (pa_cons (pv 1) (pa_cons (pe_bltn (v := .ty "str") (u := .type "str") rfl (T.free 117 rfl) (by decide +kernel) rfl) pa_nil))))) (pw_or1 (pt_cmpR (op_any T hr) (pv 1) (pe_cl (cal_people_in T) hr (by decide) rfl (pa_cons (pv 0) pa_nil)) (by rfl))))) pss_never pss_nil)), ?_⟩)
  obtain ⟨a0, a1, rfl⟩ := len2 (sp_need_person_len _ _ _ _ h)
  obtain ⟨rows, z, h1, rfl, hm, n6, q⟩ := h
  walk_at "G"
  refine ⟨rows, h1, by omega, fun p H1 s1 k1 => ?_⟩
  refine o_notinT (o := some z) k1 ?_
  walk_at "S"
  rw [decide_eq_true (show some z ∈ (folk rows).map some from List.mem_map.mpr ⟨z, hm, rfl⟩)]
  walk_at "S"
  exact q _ s1
abbrev less (lot : List Str) (p : Str) : List Str := lot.filter fun o => !decide (o = p)
def shows (M : Mach) (rows : List Entry) (lot : List Str) (p : Str) : Bool := !decide (gi M.img (behind M.deeds rows lot) = gi M.img (behind M.deeds rows (less lot p)))
def sp_shows_person (K : PySem.W.Frag) : Sp := fun vs H Q _ => match vs with
  | [m, x, y, z] => ∃ M rows lot p, rM K H m M ∧ rL rE H x rows ∧ rT rS H y lot ∧ z = .str p ∧ okRows M.deeds rows ∧ PuV (.bl (shows M rows lot p)) Q H
  | _ => False
theorem sc_shows_person : FnScope ["machine", "log", "lot", "person", "others", "first", "second", "other"] ["machine", "log", "lot", "person"] (defScope s_shows_person) := ⟨rfl, rfl, rfl, by decide +kernel, rfl, by decide +kernel, by decide +kernel⟩
theorem sp_shows_person_len : ∀ (vs : List V) (H : Hp) (Q : VK) (E : XK), (sp_shows_person K) vs H Q E → vs.length = 4
  | [_, _, _, _], _, _, _, _ => rfl
  | [], _, _, _, h => h.elim
  | [_], _, _, _, h => h.elim
  | [_, _], _, _, _, h => h.elim
  | [_, _, _], _, _, _, h => h.elim
  | _ :: _ :: _ :: _ :: _ :: _, _, _, _, h => h.elim
theorem cal_shows_person (T : Tx P w K mg) : Cl P w K mg base 3 "shows_person" (sp_shows_person K) [] := by
  refine cl_of (st := s_shows_person) (qual := "shows_person") (kws := []) (T.c.def_ 33 (d := d_shows_person) rfl) sc_shows_person sp_shows_person_len (T.glo 42 rfl) (fun _ _ _ _ _ _ us hl => match us, hl with | [_, _, _, _], _ => rfl) (fun cdv A outer s H vs Q E hr h => ⟨_, (pss_cons (ps_set (i := 4) sc_shows_person.nd rfl (Or.inl rfl) (pe_callTy (cl_any (f := .type "tuple") T hr) rfl (T.free 119 rfl) (by decide +kernel) (pa_cons (pe_lc (own := [("other", 7)]) rfl sc_shows_person.nd (pi_tp T (pv 2)) (blkOk_by (own := [("other", 7)]) (N := ["machine", "log", "lot", "person", "others", "first", "second", "other"]) (sc := defScope s_shows_person) (by decide +kernel)) (fun _ _ _ _ _ => (pg_name (i := 7) sc_shows_person.nd rfl (Or.inl rfl))) (fun _ _ _ _ _ => pts_one (pt_cmpR (op_any T hr) (pv 7) (pv 3) (nomark _))) (fun _ _ _ _ _ => (pv 7))) pa_nil)))
  (pss_cons (ps_par (i := 5) (j := 6) rfl sc_shows_person.nd rfl rfl (by decide) rfl rfl (pa_cons (pe_cl (cal_state_behind T) hr (by decide) rfl (pa_cons (pv 0) (pa_cons (pv 1) (pa_cons (pv 2) pa_nil)))) (pa_cons (pe_cl (cal_state_behind T) hr (by decide) rfl (pa_cons (pv 0) (pa_cons (pv 1) (pa_cons (pv 4) pa_nil)))) pa_nil)) (by rfl))
  (pss_one (ps_ret (pe_cmpR (op_any T hr) (pe_ix (ix_any T hr) (pe_fd T (pv 0) rfl) (pv 5) (fun _ _ => rfl)) (pe_ix (ix_any T hr) (pe_fd T (pv 0) rfl) (pv 6) (fun _ _ => rfl)) (nomark _)))))), ?_⟩)
  obtain ⟨a0, a1, a2, a3, rfl⟩ := len4 (sp_shows_person_len _ _ _ _ h)
  obtain ⟨M, rows, lot, p, hM, hr', hl, rfl, ok, q⟩ := h
  have lo := hM.2.lo
  walk_at "S"
  refine tp_T hl fun c ec hc => ?_
  refine lc_T (r := rS) (r' := rS) (fun o => if (!decide (o = p)) = true then some o else none) hc (fun x o H1 hb s1 rx Yk N k1 k2 => ?_) fun D H1 s1 hD kD => ?_
  · obtain ⟨rfl, hw⟩ := id rx
    walk_at "S"
    refine ⟨trivial, o_neS ?_⟩
    walk_at "S"
    by_cases he : o = p
    · rw [decide_eq_true he]
      walk_at "S"
      exact k2 (by rw [decide_eq_true he]; rfl) _ (same_refl _)
    · rw [decide_eq_false he]
      walk_at "S"
      exact k1 _ (by rw [decide_eq_false he]; rfl) _ _ (same_refl _) rx
  · rw [fm_if, List.map_id'] at kD
    refine c_tupRL kD fun t H2 s2 ht k2 => ?_
    have s12 := s1.trans s2
    walk_at "S"
    refine ⟨M, rows, lot, Mo.mo s12 hM, Mo.mo s12 hr', ok, .inr (Mo.mo s12 hl), fun H3 s3 => ?_⟩
    walk_at "S"
    refine ⟨M, rows, _, Mo.mo (s12.trans s3) hM, Mo.mo (s12.trans s3) hr', ok, .inr (Mo.mo s3 k2), fun H4 s4 => ?_⟩
    have s14 := (s12.trans s3).trans s4
    walk_at "S"
    refine ⟨_, _, rfl, ?_⟩
    refine fM_img T (Mo.mo s14 hM) fun y ky => ?_
    refine seen_at T ky (behind_ok (by omega) hM.2.ok ok) (img_len hM.2) ?_
    refine fM_img T (Mo.mo s14 hM) fun y ky => ?_
    refine seen_at T ky (behind_ok (by omega) hM.2.ok ok) (img_len hM.2) ?_
    walk_at "G"
    exact q _ s14
def reason (M : Mach) (rows : List Entry) (few : Int) (p : Str) : Option (List Str) := (lots (folk rows) few).find? fun lot => decide (p ∈ lot) && shows M rows lot p
def sp_reason_of (K : PySem.W.Frag) : Sp := fun vs H Q _ => match vs with
  | [m, x, y, z] => ∃ M rows few p, rM K H m M ∧ rL rE H x rows ∧ y = .int few ∧ z = .str p ∧ okRows M.deeds rows ∧ (folk rows).length ≤ 6 ∧ few ≤ 6 ∧ PuR (rOf (rT rS)) (reason M rows few p) Q H
  | _ => False
theorem sc_reason_of : FnScope ["machine", "log", "few", "person", "lot"] ["machine", "log", "few", "person"] (defScope s_reason_of) := ⟨rfl, rfl, rfl, by decide +kernel, rfl, by decide +kernel, by decide +kernel⟩
theorem sp_reason_of_len : ∀ (vs : List V) (H : Hp) (Q : VK) (E : XK), (sp_reason_of K) vs H Q E → vs.length = 4
  | [_, _, _, _], _, _, _, _ => rfl
  | [], _, _, _, h => h.elim
  | [_], _, _, _, h => h.elim
  | [_, _], _, _, _, h => h.elim
  | [_, _, _], _, _, _, h => h.elim
  | _ :: _ :: _ :: _ :: _ :: _, _, _, _, h => h.elim
theorem cal_reason_of (T : Tx P w K mg) : Cl P w K mg base 4 "reason_of" (sp_reason_of K) [] := by
  refine cl_of (st := s_reason_of) (qual := "reason_of") (kws := []) (T.c.def_ 34 (d := d_reason_of) rfl) sc_reason_of sp_reason_of_len (T.glo 43 rfl) (fun _ _ _ _ _ _ us hl => match us, hl with | [_, _, _, _], _ => rfl) (fun cdv A outer s H vs Q E hr h => ⟨_, (pss_cons (ps_for PassesOwn.never rfl (pi_ls T (pe_cl (cal_lots_of T) hr (by decide) rfl (pa_cons (pe_cl (cal_people_in T) hr (by decide) rfl (pa_cons (pv 1) pa_nil)) (pa_cons (pv 2) pa_nil)))) (pg_name (i := 4) sc_reason_of.nd rfl (Or.inl rfl)) (pss_one (ps_if (PW.pt (pw_and (pt_cmpR (op_any T hr) (pv 3) (pv 4) (by rfl)) (pw_and1 (pt_val (pe_cl (cal_shows_person T) hr (by decide) rfl (pa_cons (pv 0) (pa_cons (pv 1) (pa_cons (pv 4) (pa_cons (pv 3) pa_nil))))))))) (pss_one (ps_ret (pv 4))) pss_nil)))
  (pss_one (ps_ret pe_non))), ?_⟩)
  obtain ⟨a0, a1, a2, a3, rfl⟩ := len4 (sp_reason_of_len _ _ _ _ h)
  obtain ⟨M, rows, few, p, hM, hr', rfl, rfl, ok, n6, f6, q⟩ := h
  walk_at "S"
  refine ⟨rows, hr', by omega, fun t0 H0 s0 k0 => ?_⟩
  refine ⟨folk rows, few, .inr (.inl k0), rfl, f6, n6, fun t H1 s1 ht k1 => ?_⟩
  have s1 := s0.trans s1
  refine ls_L k1 fun c ec hc => ?_
  refine for_L (r := rT rS) (l := lots (folk rows) few) (fun i σ H' => Same H1 H' ∧ (∃ o4, σ = [some a0, some a1, some (.int few), some (.str p), o4]) ∧ ((lots (folk rows) few).take i).find? (fun lot => decide (p ∈ lot) && shows M rows lot p) = none) ⟨same_refl _, ⟨_, rfl⟩, rfl⟩ (fun i σ H' _ ⟨s, _⟩ => Mo.mo s hc) ?_ ?_
  · rintro i x lot σ H2 hi rx ⟨s2, ⟨o4, rfl⟩, hf⟩
    have s12 := s1.trans s2
    obtain ⟨f1, f2⟩ := find_take hf hi
    walk_at "S"
    refine o_inT (o := some p) rx ?_
    walk_at "S"
    have em : decide (some p ∈ lot.map some) = decide (p ∈ lot) := decide_eq_decide.mpr (by simp)
    rw [em]
    by_cases hp : p ∈ lot
    · rw [decide_eq_true hp] at f1 f2 ⊢
      walk_at "S"
      refine ⟨M, rows, lot, p, Mo.mo s12 hM, Mo.mo s12 hr', rx, rfl, ok, fun H3 s3 => ?_⟩
      walk_at "S"
      cases hs : shows M rows lot p
      · rw [hs] at f2
        walk_at "S"
        exact ⟨s2.trans s3, ⟨_, rfl⟩, f2 rfl⟩
      · rw [hs] at f1
        walk_at "S"
        refine q _ _ (s12.trans s3) ?_
        show rOf (rT rS) H3 x (reason M rows few p)
        unfold reason
        rw [f1 rfl]
        exact (Mo.mo (r := rT rS) s3 rx)
    · rw [decide_eq_false hp] at f1 f2 ⊢
      walk_at "S"
      exact ⟨s2, ⟨_, rfl⟩, f2 rfl⟩
  · rintro σ H2 ⟨s2, ⟨o4, rfl⟩, hf⟩
    rw [List.take_length] at hf
    walk_at "S"
    refine q _ _ (s1.trans s2) ?_
    show rOf (rT rS) H2 _ (reason M rows few p)
    unfold reason
    rw [hf]
    rfl
def matters (M : Mach) (rows : List Entry) (few : Int) : List Str := (folk rows).filter fun p => !decide (reason M rows few p = none)
def sp_matter_of (K : PySem.W.Frag) : Sp := fun vs H Q _ => match vs with
  | [m, x, y] => ∃ M rows few, rM K H m M ∧ rL rE H x rows ∧ y = .int few ∧ okRows M.deeds rows ∧ (folk rows).length ≤ 6 ∧ few ≤ 6 ∧ ∀ p H', Same H H' → rT rS H' (.ref p) (matters M rows few) → Q (.ref p) H'
  | _ => False
theorem sc_matter_of : FnScope ["machine", "log", "few", "person"] ["machine", "log", "few"] (defScope s_matter_of) := ⟨rfl, rfl, rfl, by decide +kernel, rfl, by decide +kernel, by decide +kernel⟩
theorem sp_matter_of_len : ∀ (vs : List V) (H : Hp) (Q : VK) (E : XK), (sp_matter_of K) vs H Q E → vs.length = 3
  | [_, _, _], _, _, _, _ => rfl
  | [], _, _, _, h => h.elim
  | [_], _, _, _, h => h.elim
  | [_, _], _, _, _, h => h.elim
  | _ :: _ :: _ :: _ :: _, _, _, _, h => h.elim
theorem cal_matter_of (T : Tx P w K mg) : Cl P w K mg base 5 "matter_of" (sp_matter_of K) [] := by
  refine cl_of (st := s_matter_of) (qual := "matter_of") (kws := []) (T.c.def_ 35 (d := d_matter_of) rfl) sc_matter_of sp_matter_of_len (T.glo 44 rfl) (fun _ _ _ _ _ _ us hl => match us, hl with | [_, _, _], _ => rfl) (fun cdv A outer s H vs Q E hr h => ⟨_, (pss_one (ps_ret (pe_callTy (cl_any (f := .type "tuple") T hr) rfl (T.free 119 rfl) (by decide +kernel) (pa_cons (pe_lc (own := [("person", 3)]) rfl sc_matter_of.nd (pi_tp T (pe_cl (cal_people_in T) hr (by decide) rfl (pa_cons (pv 1) pa_nil))) (blkOk_by (own := [("person", 3)]) (N := ["machine", "log", "few", "person"]) (sc := defScope s_matter_of) (by decide +kernel)) (fun _ _ _ _ _ => (pg_name (i := 3) sc_matter_of.nd rfl (Or.inl rfl))) (fun _ _ _ _ _ => pts_one (pt_cmpR (op_any T hr) (pe_cl (cal_reason_of T) hr (by decide) rfl (pa_cons (pv 0) (pa_cons (pv 1) (pa_cons (pv 2) (pa_cons (pv 3) pa_nil))))) pe_non (nomark _))) (fun _ _ _ _ _ => (pv 3))) pa_nil)))), ?_⟩)
  obtain ⟨a0, a1, a2, rfl⟩ := len3 (sp_matter_of_len _ _ _ _ h)
  obtain ⟨M, rows, few, hM, hr', rfl, ok, n6, f6, q⟩ := h
  walk_at "S"
  refine ⟨rows, hr', by omega, fun t0 H0 s0 k0 => ?_⟩
  refine tp_T k0 fun c ec hc => ?_
  refine lc_T (r := rS) (r' := rS) (fun p => if (!decide (reason M rows few p = none)) = true then some p else none) hc (fun x p H1 hb s1 rx Yk N k1 k2 => ?_) fun D H1 s1 hD kD => ?_
  · obtain ⟨rfl, hw⟩ := id rx
    have s01 := s0.trans s1
    walk_at "S"
    refine ⟨trivial, M, rows, few, p, Mo.mo s01 hM, Mo.mo s01 hr', rfl, rfl, ok, n6, f6, fun v H2 s2 k3 => ?_⟩
    walk_at "G"
    rw [rOf_non k3]
    by_cases he : reason M rows few p = none
    · rw [decide_eq_true he]
      walk_at "S"
      exact k2 (by rw [decide_eq_true he]; rfl) _ s2
    · rw [decide_eq_false he]
      walk_at "S"
      exact k1 _ (by rw [decide_eq_false he]; rfl) _ _ s2 (Mo.mo s2 rx)
  · rw [fm_if, List.map_id'] at kD
    exact c_tupRL kD fun t H2 s2 ht k2 => q t _ ((s0.trans s1).trans s2) k2
def gave (rows : List Entry) (p : Str) : List Entry := rows.map fun e => if e.1 = some p then (none, e.2) else e
def sp_freed_of : Sp := fun vs H Q _ => match vs with
  | [x, y] => ∃ rows p, rL rE H x rows ∧ y = .str p ∧ PuF (rL rE) (gave rows p) Q H
  | _ => False
theorem sc_freed_of : FnScope ["log", "person", "doer", "deed"] ["log", "person"] (defScope s_freed_of) := ⟨rfl, rfl, rfl, by decide +kernel, rfl, by decide +kernel, by decide +kernel⟩
theorem sp_freed_of_len : ∀ (vs : List V) (H : Hp) (Q : VK) (E : XK), sp_freed_of vs H Q E → vs.length = 2
  | [_, _], _, _, _, _ => rfl
  | [], _, _, _, h => h.elim
  | [_], _, _, _, h => h.elim
  | _ :: _ :: _ :: _, _, _, _, h => h.elim
theorem cal_freed_of (T : Tx P w K mg) : Cl P w K mg base 1 "freed_of" sp_freed_of [] := by
  refine cl_of (st := s_freed_of) (qual := "freed_of") (kws := []) (T.c.def_ 36 (d := d_freed_of) rfl) sc_freed_of sp_freed_of_len (T.glo 45 rfl) (fun _ _ _ _ _ _ us hl => match us, hl with | [_, _], _ => rfl) (fun cdv A outer s H vs Q E hr h => ⟨_, (pss_one (ps_ret (pe_lc (own := [("doer", 2), ("deed", 3)]) rfl sc_freed_of.nd (pi_ls T (pv 0)) (blkOk_by (own := [("doer", 2), ("deed", 3)]) (N := ["log", "person", "doer", "deed"]) (sc := defScope s_freed_of) (by decide +kernel)) (fun _ _ _ _ _ => (pg_tk (n := 2) T rfl (pgs_cons (pg_name (i := 2) sc_freed_of.nd rfl (Or.inl rfl)) (pgs_cons (pg_name (i := 3) sc_freed_of.nd rfl (Or.inl rfl)) pgs_nil)))) (fun _ _ _ _ _ => pts_nil) (fun _ _ _ _ _ => (pe_ifExp (pt_cmpR (op_any T hr) (pv 2) (pv 1) (nomark _)) (pe_tup (pa_cons pe_non (pa_cons (pv 3) pa_nil))) (pe_tup (pa_cons (pv 2) (pa_cons (pv 3) pa_nil)))))))), ?_⟩)
  obtain ⟨a0, a1, rfl⟩ := len2 (sp_freed_of_len _ _ _ _ h)
  obtain ⟨rows, p, hr', rfl, q⟩ := h
  walk_at "S"
  refine ls_L hr' fun c ec hc => ?_
  refine lc_L (r := rE) (r' := rE) (fun e => some (if e.1 = some p then (none, e.2) else e)) hc (fun x e H1 hb s1 rx Yk N k1 k2 => ?_) fun D H1 s1 hD kD => ?_
  · walk_at "S"
    refine tup_P rx fun y z ry rz => ?_
    obtain ⟨rfl, hw⟩ := ry
    obtain ⟨rfl, hz⟩ := rz
    walk_at "S"
    refine ⟨trivial, o_eq scOS ?_⟩
    rw [eqOS]
    walk_at "S"
    by_cases he : e.1 = some p
    · rw [decide_eq_true he]
      walk_at "S"
      exact ⟨by decide, fun t ht => k1 _ (by rw [if_pos he]) _ _ (same_new (same_refl _) ht) (mk_P (r := rO) ht ⟨rfl, fun _ z => by cases z⟩ ⟨rfl, hz⟩)⟩
    · rw [decide_eq_false he]
      walk_at "S"
      exact ⟨by decide, fun t ht => k1 _ (by rw [if_neg he]) _ _ (same_new (same_refl _) ht) (mk_P ht ⟨rfl, hw⟩ ⟨rfl, hz⟩)⟩
  · rw [fm_some] at kD
    exact q D H1 s1 hD kD
def sp_matter (K : PySem.W.Frag) : Sp := fun vs H Q _ => match vs with
  | [m, x, y] => ∃ M rows few, rM K H m M ∧ rL rE H x rows ∧ y = .int few ∧ okRows M.deeds rows ∧ (folk rows).length ≤ 6 ∧ 0 ≤ few ∧ few ≤ 3 ∧ ∀ p H', Same H H' → rT rS H' (.ref p) (matters M rows few) → Q (.ref p) H'
  | _ => False
theorem sc_matter : FnScope ["machine", "log", "few"] ["machine", "log", "few"] (defScope s_matter) := ⟨rfl, rfl, rfl, by decide +kernel, rfl, by decide +kernel, by decide +kernel⟩
theorem sp_matter_len : ∀ (vs : List V) (H : Hp) (Q : VK) (E : XK), (sp_matter K) vs H Q E → vs.length = 3
  | [_, _, _], _, _, _, _ => rfl
  | [], _, _, _, h => h.elim
  | [_], _, _, _, h => h.elim
  | [_, _], _, _, _, h => h.elim
  | _ :: _ :: _ :: _ :: _, _, _, _, h => h.elim
theorem cal_matter (T : Tx P w K mg) : Cl P w K mg base 6 "matter" (sp_matter K) [] := by
  refine cl_of (st := s_matter) (qual := "matter") (kws := []) (T.c.def_ 37 (d := d_matter) rfl) sc_matter sp_matter_len (T.glo 46 rfl) (fun _ _ _ _ _ _ us hl => match us, hl with | [_, _, _], _ => rfl) (fun cdv A outer s H vs Q E hr h => ⟨_, (pss_cons (ps_expr (pe_cl (cal_need_machine T) hr (by decide) rfl (pa_cons (pv 0) pa_nil)))
  (pss_cons (ps_expr (pe_cl (cal_need_log T) hr (by decide) rfl (pa_cons (pv 0) (pa_cons (pv 1) pa_nil))))
  (pss_cons (ps_expr (pe_cl (cal_need_few T) hr (by decide) rfl (pa_cons (pv 2) pa_nil)))
  (pss_one (ps_ret (pe_cl (cal_matter_of T) hr (by decide) rfl (pa_cons (pv 0) (pa_cons (pv 1) (pa_cons (pv 2) pa_nil))))))))), ?_⟩)
  obtain ⟨a0, a1, a2, rfl⟩ := len3 (sp_matter_len _ _ _ _ h)
  obtain ⟨M, rows, few, hM, hr', rfl, ok, n6, f0, f3, q⟩ := h
  walk_at "S"
  refine ⟨M, hM, ?_⟩
  walk_at "S"
  refine ⟨M, rows, hM, hr', ok, n6, fun H1 s1 => ?_⟩
  walk_at "S"
  refine ⟨few, rfl, f0, f3, ?_⟩
  walk_at "S"
  exact ⟨M, rows, few, Mo.mo s1 hM, Mo.mo s1 hr', rfl, ok, n6, by omega, fun p H2 s2 k2 => q p _ (s1.trans s2) k2⟩
def sp_freed (K : PySem.W.Frag) : Sp := fun vs H Q _ => match vs with
  | [m, x, y] => ∃ M rows p, rM K H m M ∧ rL rE H x rows ∧ y = .str p ∧ okRows M.deeds rows ∧ (folk rows).length ≤ 6 ∧ p ∈ folk rows ∧ PuF (rL rE) (gave rows p) Q H
  | _ => False
theorem sc_freed : FnScope ["machine", "log", "person"] ["machine", "log", "person"] (defScope s_freed) := ⟨rfl, rfl, rfl, by decide +kernel, rfl, by decide +kernel, by decide +kernel⟩
theorem sp_freed_len : ∀ (vs : List V) (H : Hp) (Q : VK) (E : XK), (sp_freed K) vs H Q E → vs.length = 3
  | [_, _, _], _, _, _, _ => rfl
  | [], _, _, _, h => h.elim
  | [_], _, _, _, h => h.elim
  | [_, _], _, _, _, h => h.elim
  | _ :: _ :: _ :: _ :: _, _, _, _, h => h.elim
theorem cal_freed (T : Tx P w K mg) : Cl P w K mg base 4 "freed" (sp_freed K) [] := by
  refine cl_of (st := s_freed) (qual := "freed") (kws := []) (T.c.def_ 38 (d := d_freed) rfl) sc_freed sp_freed_len (T.glo 47 rfl) (fun _ _ _ _ _ _ us hl => match us, hl with | [_, _, _], _ => rfl) (fun cdv A outer s H vs Q E hr h => ⟨_, (pss_cons (ps_expr (pe_cl (cal_need_machine T) hr (by decide) rfl (pa_cons (pv 0) pa_nil)))
  (pss_cons (ps_expr (pe_cl (cal_need_log T) hr (by decide) rfl (pa_cons (pv 0) (pa_cons (pv 1) pa_nil))))
  (pss_cons (ps_expr (pe_cl (cal_need_person T) hr (by decide) rfl (pa_cons (pv 1) (pa_cons (pv 2) pa_nil))))
  (pss_one (ps_ret (pe_cl (cal_freed_of T) hr (by decide) rfl (pa_cons (pv 1) (pa_cons (pv 2) pa_nil)))))))), ?_⟩)
  obtain ⟨a0, a1, a2, rfl⟩ := len3 (sp_freed_len _ _ _ _ h)
  obtain ⟨M, rows, p, hM, hr', rfl, ok, n6, hp, q⟩ := h
  walk_at "S"
  refine ⟨M, hM, ?_⟩
  walk_at "S"
  refine ⟨M, rows, hM, hr', ok, n6, fun H1 s1 => ?_⟩
  walk_at "S"
  refine ⟨rows, p, Mo.mo s1 hr', rfl, hp, n6, fun H2 s2 => ?_⟩
  walk_at "S"
  exact ⟨rows, p, Mo.mo (s1.trans s2) hr', rfl, fun t H3 s3 ht k3 => q t _ ((s1.trans s2).trans s3) ((s1.trans s2).free ht) k3⟩
end
end Nb

/-! part D8 -/
set_option Elab.async false
set_option linter.all false
set_option maxRecDepth 100000
set_option maxHeartbeats 4000000
namespace Nb
open PySem PySem.Spec PyProof.Rows L2
local macro_rules | `(tactic| walk_at "S") => `(tactic| (try simp only [tSeq, tNext, tRet, tIfS, tDrop, tAsg, gName, tFor_eq, tWhile_eq, tLc_eq, tLc2_eq, tDc_eq, sFld_eq, sDPut_eq, tPar, tPar3, tC, tVar, tCB, tOp, tTup, tLst, tChain, tDGet_eq, tDGet2, tAndV, tOrV, tNotV, tIf, tLstRg, tRg1, tDisp, tPairs, tUn, rU, tTest, tNot, tB, tAnd, tOr, tYes, tSl, tPart, tNoPart, tRevL, tM1, tDNewK, tDNewT, gCons_c, gNil_n, gSub, gTup_eq, iRng1_eq, iList_eq, iTup_eq, iSeq_eq, iStr, iKeys_eq, iVals_eq, iEnum_eq, cx_K, tCons, tNil, tBM, tCall, tMake, tProp, tMeth, tFld_eq, tStar_eq, iZipM_eq, tDisp1, L2.start, List.map_cons, List.map_nil, List.length_cons, List.length_nil, List.cons_append, List.nil_append, List.append_nil, List.getElem?_cons_zero, List.getElem?_cons_succ, List.set_cons_zero, List.set_cons_succ, Option.some.injEq, exists_eq_left', exists_eq_left, V.bl.injEq, V.int.injEq, V.str.injEq, V.ref.injEq, if_true, if_false, Nat.reduceAdd, Nat.reduceSub, List.replicate_succ, List.replicate_zero, Bool.not_true, Bool.not_false, Bool.false_eq_true, if_neg, not_false_eq_true, wipe]))
local macro_rules | `(tactic| walk_at "G") => `(tactic| (walk_at "S"; repeat ((first | with_reducible refine o_add ?_ | with_reducible refine o_sub ?_ | with_reducible refine o_mul ?_ | with_reducible refine o_lt ?_ | with_reducible refine o_le ?_ | with_reducible refine o_gt ?_ | with_reducible refine o_ge ?_ | with_reducible refine o_eqI ?_ | with_reducible refine o_neI ?_ | with_reducible refine o_eqS ?_ | with_reducible refine o_neS ?_ | with_reducible refine o_isN ?_ | with_reducible refine o_notN ?_ | with_reducible refine i_int ?_ | with_reducible refine i_intB ?_ | with_reducible refine i_str ?_); walk_at "S")))
section
variable {P : Program} {w : World} {K : PySem.W.Frag} {mg : Str → Option Value} {base : Heap}
def sp_entries_by (K : PySem.W.Frag) : Sp := fun vs H Q _ => match vs with
  | [m, x] => ∃ M ppl, rM K H m M ∧ rT rS H x ppl ∧ ppl.length ≤ 6 ∧ PuF (rL rE) (ents ppl (M.deeds.map Prod.fst)) Q H
  | _ => False
theorem A2_some {H : Hp} : ∀ {xs : List V} {l : List Str}, A2 (rS H) xs l → A2 (rO H) xs (l.map some)
  | [], [], _ => trivial
  | _ :: _, _ :: _, h => ⟨⟨h.1.1, fun _ e => by cases e; exact h.1.2⟩, A2_some h.2⟩
  | [], _ :: _, h => h.elim
  | _ :: _, [], h => h.elim
theorem sc_entries_by : FnScope ["machine", "people", "person", "deed"] ["machine", "people"] (defScope s_entries_by) := ⟨rfl, rfl, rfl, by decide +kernel, rfl, by decide +kernel, by decide +kernel⟩
theorem sp_entries_by_len : ∀ (vs : List V) (H : Hp) (Q : VK) (E : XK), (sp_entries_by K) vs H Q E → vs.length = 2
  | [_, _], _, _, _, _ => rfl
  | [], _, _, _, h => h.elim
  | [_], _, _, _, h => h.elim
  | _ :: _ :: _ :: _, _, _, _, h => h.elim
theorem cal_entries_by (T : Tx P w K mg) : Cl P w K mg base 1 "entries_by" (sp_entries_by K) [] := by
  refine cl_of (st := s_entries_by) (qual := "entries_by") (kws := []) (T.c.def_ 39 (d := d_entries_by) rfl) sc_entries_by sp_entries_by_len (T.glo 48 rfl) (fun _ _ _ _ _ _ us hl => match us, hl with | [_, _], _ => rfl) (fun cdv A outer s H vs Q E hr h => ⟨_, (pss_one (ps_ret (pe_lc2 (own := [("person", 2), ("deed", 3)]) (vs1 := [3]) rfl sc_entries_by.nd (pi_tp T (pe_tup (pa_cons pe_non (pa_st T (pe_callB (cl_any (f := .builtin "sorted") T hr) rfl (T.free 116 rfl) (by decide +kernel) (pa_cons (pv 1) pa_nil)) pa_nil)))) (blkOk_by (own := [("person", 2), ("deed", 3)]) (N := ["machine", "people", "person", "deed"]) (sc := defScope s_entries_by) (by decide +kernel)) (by decide) (fun _ _ _ _ _ => (pg_name (i := 2) sc_entries_by.nd rfl (Or.inl rfl))) (fun _ _ _ _ _ => pts_nil) (fun _ _ _ _ _ => (pi_ls T (pe_callB (cl_any (f := .builtin "sorted") T hr) rfl (T.free 116 rfl) (by decide +kernel) (pa_cons (pe_fd T (pv 0) rfl) pa_nil)))) (fun _ _ _ _ _ => (pg_name (i := 3) sc_entries_by.nd rfl (Or.inl rfl))) (fun _ _ _ _ _ => pts_nil) (fun _ _ _ _ _ => (pe_tup (pa_cons (pv 2) (pa_cons (pv 3) pa_nil))))))), ?_⟩)
  obtain ⟨a0, a1, rfl⟩ := len2 (sp_entries_by_len _ _ _ _ h)
  obtain ⟨M, ppl, hM, hp, n6, q⟩ := h
  have d4 := hM.2.d4
  walk_at "S"
  refine c_sortST hp fun t1 H1 s1 ht1 k1 => ?_
  walk_at "S"
  refine star_L k1 fun xs kx => ?_
  have ka : A2 (rO H1) (.non :: xs) (none :: (srt ppl).map some) := ⟨⟨rfl, nofun⟩, A2_some kx⟩
  have hlen : (none :: (srt ppl).map some).length ≤ lim := by
    have h0 : 7 ≤ lim := by decide
    rw [List.length_cons, List.length_map, srt_len]; omega
  walk_at "S"
  refine ⟨ka.bnd hlen, fun p hp' => ?_⟩
  have k2 := mk_T hp' ka hlen
  have s2 := same_new (o := .tup (.non :: xs)) s1 hp'
  generalize upd H1 p (.tup (.non :: xs)) = H2 at k2 s2
  refine tp_T k2 fun c ec hc => ?_
  refine lc2_TL (r := rO) (r2 := rS) (r' := rE) (l := none :: (srt ppl).map some) (m := srt (M.deeds.map Prod.fst)) (fun p d => (p, d)) (fun x => [some a0, some a1, some x, none]) (fun x y => [some a0, some a1, some x, some y]) hc ?_ (fun x H k z => z) (fun _ => rfl) ?_ (fun x y H k z => z) (fun _ _ => rfl) ?_ fun D H' s' hD kD => q D H' (s2.trans s') (s2.free hD) kD
  · have h0 : 28 ≤ lim := by decide
    simp only [List.length_cons, List.length_map, srt_len]
    have h1 : (ppl.length + 1) * M.deeds.length ≤ 7 * 4 := Nat.mul_le_mul (by omega) d4
    omega
  · intro x b H3 R hb s3 rb k
    walk_at "S"
    refine fM_deeds T (Mo.mo (s2.trans s3) hM) fun d kd => ?_
    refine c_sortD (m := M.deeds) kd (by omega) fun t4 H4 s4 ht4 k4 => ?_
    refine ls_L k4 fun c' ec' hc' => ?_
    cases ec'
    exact k _ H4 s4 ht4 k4
  · intro x y b c H3 Yk hb hc' s3 rx ry k
    walk_at "S"
    exact ⟨by decide, fun t ht => k _ _ (same_new (same_refl _) ht) (mk_P ht rx ry)⟩
def sp_begin_of (K : PySem.W.Frag) : Sp := fun vs H Q _ => match vs with
  | [m, x] => ∃ M ls, rM K H m M ∧ rL (rT rS) H x ls ∧ ∀ p H', Same H H' → rT rI H' (.ref p) (begF M ls) → Q (.ref p) H'
  | _ => False
theorem sc_begin_of : FnScope ["machine", "lots", "lot"] ["machine", "lots"] (defScope s_begin_of) := ⟨rfl, rfl, rfl, by decide +kernel, rfl, by decide +kernel, by decide +kernel⟩
theorem sp_begin_of_len : ∀ (vs : List V) (H : Hp) (Q : VK) (E : XK), (sp_begin_of K) vs H Q E → vs.length = 2
  | [_, _], _, _, _, _ => rfl
  | [], _, _, _, h => h.elim
  | [_], _, _, _, h => h.elim
  | _ :: _ :: _ :: _, _, _, _, h => h.elim
theorem cal_begin_of (T : Tx P w K mg) : Cl P w K mg base 1 "begin_of" (sp_begin_of K) [] := by
  refine cl_of (st := s_begin_of) (qual := "begin_of") (kws := []) (T.c.def_ 40 (d := d_begin_of) rfl) sc_begin_of sp_begin_of_len (T.glo 49 rfl) (fun _ _ _ _ _ _ us hl => match us, hl with | [_, _], _ => rfl) (fun cdv A outer s H vs Q E hr h => ⟨_, (pss_one (ps_ret (pe_callTy (cl_any (f := .type "tuple") T hr) rfl (T.free 119 rfl) (by decide +kernel) (pa_cons (pe_lc (own := [("lot", 2)]) rfl sc_begin_of.nd (pi_ls T (pv 1)) (blkOk_by (own := [("lot", 2)]) (N := ["machine", "lots", "lot"]) (sc := defScope s_begin_of) (by decide +kernel)) (fun _ _ _ _ _ => (pg_name (i := 2) sc_begin_of.nd rfl (Or.inl rfl))) (fun _ _ _ _ _ => pts_nil) (fun _ _ _ _ _ => (pe_ix (ix_any T hr) (pe_fd T (pv 0) rfl) pe_int (fun _ _ => rfl)))) pa_nil)))), ?_⟩)
  obtain ⟨a0, a1, rfl⟩ := len2 (sp_begin_of_len _ _ _ _ h)
  obtain ⟨M, ls, hM, hl, q⟩ := h
  have lo := hM.2.lo
  walk_at "S"
  refine ls_L hl fun c ec hc => ?_
  refine lc_L (r := rT rS) (r' := rI) (fun _ => some (gi M.img 0)) hc (fun x b H1 hb s1 rx Yk N k1 k2 => ?_) fun D H1 s1 hD kD => ?_
  · walk_at "S"
    refine ⟨trivial, ?_⟩
    refine fM_img T (Mo.mo s1 hM) fun y ky => ?_
    exact seen_at T ky ⟨by omega, by omega⟩ (im_len hM.2) (k1 _ rfl _ _ (same_refl _) rfl)
  · rw [fm_some] at kD
    exact c_tupRL kD fun p H2 s2 hp k2 => q p H2 (s1.trans s2) k2
def sp_led (K : PySem.W.Frag) : Sp := fun vs H Q _ => match vs with
  | [m, x, y, z] => ∃ M ls st e, rM K H m M ∧ rL (rT rS) H x ls ∧ rT rI H y st ∧ rE H z e ∧ okSt M.seen.length ls.length st ∧ e.2 ∈ M.deeds.map Prod.fst ∧ ∀ p H', Same H H' → rT rI H' (.ref p) (ledF M ls st e) → Q (.ref p) H'
  | _ => False
theorem zip_take {α β γ : Type} (f : α → β → γ) : ∀ (i : Nat) (l : List α) (m : List β) {a : α} {b : β}, l[i]? = some a → m[i]? = some b → (List.zipWith f l m).take (i + 1) = (List.zipWith f l m).take i ++ [f a b] := by
  intro i l m a b h1 h2
  rw [List.take_succ, List.getElem?_zipWith, h1, h2]
  rfl
theorem sc_led : FnScope ["machine", "lots", "standing", "entry", "found", "person", "deed", "lot", "state"] ["machine", "lots", "standing", "entry"] (defScope s_led) := ⟨rfl, rfl, rfl, by decide +kernel, rfl, by decide +kernel, by decide +kernel⟩
theorem sp_led_len : ∀ (vs : List V) (H : Hp) (Q : VK) (E : XK), (sp_led K) vs H Q E → vs.length = 4
  | [_, _, _, _], _, _, _, _ => rfl
  | [], _, _, _, h => h.elim
  | [_], _, _, _, h => h.elim
  | [_, _], _, _, _, h => h.elim
  | [_, _, _], _, _, _, h => h.elim
  | _ :: _ :: _ :: _ :: _ :: _, _, _, _, h => h.elim
theorem cal_led (T : Tx P w K mg) : Cl P w K mg base 1 "led" (sp_led K) [] := by
  refine cl_of (st := s_led) (qual := "led") (kws := []) (T.c.def_ 41 (d := d_led) rfl) sc_led sp_led_len (T.glo 50 rfl) (fun _ _ _ _ _ _ us hl => match us, hl with | [_, _, _, _], _ => rfl) (fun cdv A outer s H vs Q E hr h => ⟨_, (pss_cons (ps_asg (pv 3) (pg_tk (n := 2) T rfl (pgs_cons (pg_name (i := 5) sc_led.nd rfl (Or.inl rfl)) (pgs_cons (pg_name (i := 6) sc_led.nd rfl (Or.inl rfl)) pgs_nil))))
  (pss_cons (ps_set (i := 4) sc_led.nd rfl (Or.inl rfl) (pe_lst pa_nil))
  (pss_cons (ps_for PassesOwn.never rfl (pi_zipLT rfl (T.free 120 rfl) (pa_cons (pv 1) (pa_cons (pv 2) pa_nil))) (pg_tk (n := 2) T rfl (pgs_cons (pg_name (i := 7) sc_led.nd rfl (Or.inl rfl)) (pgs_cons (pg_name (i := 8) sc_led.nd rfl (Or.inl rfl)) pgs_nil))) (pss_one (ps_expr (pe_bk T PySem.F.plainAttrs_list PySem.F.slot_list_append PySem.F.type_list_append (mt_any T hr) (pv 4) (pa_cons (pe_ifExp (pt_cmpR (op_any T hr) (pv 5) (pv 7) (by rfl)) (pv 8) (pe_ix (ix_any T hr) (pe_fd T (pv 0) rfl) (pe_ix (ix_any T hr) (pe_dget (hu_of hr) (pe_fd T (pv 0) rfl) (pv 6) (fun _ _ => rfl)) (pv 8) (fun _ _ => rfl)) (fun _ _ => rfl))) pa_nil)))))
  (pss_one (ps_ret (pe_callTy (cl_any (f := .type "tuple") T hr) rfl (T.free 119 rfl) (by decide +kernel) (pa_cons (pv 4) pa_nil))))))), ?_⟩)
  obtain ⟨a0, a1, a2, a3, rfl⟩ := len4 (sp_led_len _ _ _ _ h)
  obtain ⟨M, ls, st, e, hM, hl, hs, he, ok, hk, q⟩ := h
  obtain ⟨mp, hmp⟩ := lookup_of_key hk
  walk_at "S"
  refine tup_P he fun w1 w2 r1 r2 => ?_
  obtain ⟨rfl, hw⟩ := r1
  obtain ⟨rfl, hw2⟩ := r2
  walk_at "S"
  refine ⟨by decide, fun f hf => ?_⟩
  have s1 : Same H (upd H f (.lst [])) := same_new (same_refl _) hf
  have k1 : rL rI (upd H f (.lst [])) (.ref f) [] := mk_L hf trivial (by decide)
  generalize upd H f (.lst []) = H1 at s1 k1
  walk_at "S"
  have hlen : ls.length = st.length := ok.1.symm
  refine zp_LT (Mo.mo s1 hl) (Mo.mo s1 hs) fun c d ec ed => ?_
  subst ec ed
  refine for_Z (r := rT rS) (r2 := rI) hlen (fun i σ H' => Same H H' ∧ (∃ o7 o8, σ = [some a0, some (.ref c), some (.ref d), some a3, some (.ref f), some (oV e.1), some (.str e.2), o7, o8]) ∧ rL rI H' (.ref f) ((ledF M ls st e).take i)) ⟨s1, ⟨_, _, rfl⟩, k1⟩ (fun i σ H' ⟨s, _⟩ => ⟨Mo.mo s hl, Mo.mo s hs⟩) ?_ ?_
  · rintro i x y lot s0 t σ H2 h1 h2 rx ry ⟨s2, ⟨o7, o8, rfl⟩, k2⟩ ht
    cases ry
    have hin := ok.2 s0 (List.mem_of_getElem? h2)
    have s3 : Same H2 (upd H2 t (.tup [x, .int s0])) := same_new (same_refl _) ht
    have et := zip_take (fun lot s => if e.1 ∈ lot.map some then s else gi M.img (step1 M.deeds s e.2)) i ls st h1 h2
    have nl : i < lim := by
      have h3 := (List.getElem?_eq_some_iff.mp h1).1
      have h4 := rL_bnd hl
      omega
    have ln : ((ledF M ls st e).take i).length < lim := by rw [List.length_take]; omega
    walk_at "S"
    refine tup_n upd_same rfl ?_
    walk_at "S"
    generalize upd H2 t (.tup [x, .int s0]) = H3 at s3
    have s23 := s2.trans s3
    refine ⟨ty_L (Mo.mo s3 k2), ?_⟩
    refine o_inT (o := e.1) (Mo.mo s3 rx) ?_
    walk_at "S"
    by_cases hm : e.1 ∈ lot.map some
    · rw [decide_eq_true hm]
      walk_at "S"
      refine m_appR (Mo.mo s3 k2) (show rI H3 (.int s0) s0 from rfl) ln fun o ko => ?_
      refine ⟨same_put s23 hf, ⟨_, _, rfl⟩, ?_⟩
      show rL rI _ _ ((List.zipWith _ ls st).take (i + 1))
      rw [et, if_pos hm]
      exact ko
    · rw [decide_eq_false hm]
      walk_at "S"
      refine fM_img T (Mo.mo s23 hM) fun yi ki => ?_
      refine fM_deeds T (Mo.mo s23 hM) fun yd kd => ?_
      refine dg_R (r := rT rI) kd hmp fun ym km => ?_
      have hst := step1_ok hM.2.ok hk hin
      have e1 : step1 M.deeds s0 e.2 = gi mp s0 := by unfold step1; rw [hmp]; rfl
      refine seen_at T km hin (hM.2.ok _ (lookup_mem hmp)).1 ?_
      rw [e1] at hst et
      refine seen_at T ki hst (im_len hM.2) ?_
      refine m_appR (Mo.mo s3 k2) (show rI H3 (.int (gi M.img (gi mp s0))) _ from rfl) ln fun o ko => ?_
      refine ⟨same_put s23 hf, ⟨_, _, rfl⟩, ?_⟩
      show rL rI _ _ ((List.zipWith _ ls st).take (i + 1))
      rw [et, if_neg hm]
      exact ko
  · rintro σ H2 ⟨s2, ⟨o7, o8, rfl⟩, k2⟩
    have ef : (ledF M ls st e).take ls.length = ledF M ls st e := by
      rw [List.take_of_length_le]
      have := (ledF_ok hM.2 ok hk).1
      omega
    rw [ef] at k2
    walk_at "S"
    exact c_tupRL k2 fun p H3 s3 hp k3 => q p H3 (s2.trans s3) k3
def sp_standing_by (K : PySem.W.Frag) : Sp := fun vs H Q _ => match vs with
  | [m, x, y] => ∃ M ls log, rM K H m M ∧ rL (rT rS) H x ls ∧ rL rE H y log ∧ okRows M.deeds log ∧ ∀ p H', Same H H' → rT rI H' (.ref p) (standF M ls log) → Q (.ref p) H'
  | _ => False
theorem sc_standing_by : FnScope ["machine", "lots", "log", "found", "entry"] ["machine", "lots", "log"] (defScope s_standing_by) := ⟨rfl, rfl, rfl, by decide +kernel, rfl, by decide +kernel, by decide +kernel⟩
theorem sp_standing_by_len : ∀ (vs : List V) (H : Hp) (Q : VK) (E : XK), (sp_standing_by K) vs H Q E → vs.length = 3
  | [_, _, _], _, _, _, _ => rfl
  | [], _, _, _, h => h.elim
  | [_], _, _, _, h => h.elim
  | [_, _], _, _, _, h => h.elim
  | _ :: _ :: _ :: _ :: _, _, _, _, h => h.elim
theorem cal_standing_by (T : Tx P w K mg) : Cl P w K mg base 2 "standing_by" (sp_standing_by K) [] := by
  refine cl_of (st := s_standing_by) (qual := "standing_by") (kws := []) (T.c.def_ 42 (d := d_standing_by) rfl) sc_standing_by sp_standing_by_len (T.glo 51 rfl) (fun _ _ _ _ _ _ us hl => match us, hl with | [_, _, _], _ => rfl) (fun cdv A outer s H vs Q E hr h => ⟨_, (pss_cons (ps_set (i := 3) sc_standing_by.nd rfl (Or.inl rfl) (pe_cl (cal_begin_of T) hr (by decide) rfl (pa_cons (pv 0) (pa_cons (pv 1) pa_nil))))
  (pss_cons (ps_for PassesOwn.never rfl (pi_ls T (pv 2)) (pg_name (i := 4) sc_standing_by.nd rfl (Or.inl rfl)) (pss_one (ps_set (i := 3) sc_standing_by.nd rfl (Or.inl rfl) (pe_cl (cal_led T) hr (by decide) rfl (pa_cons (pv 0) (pa_cons (pv 1) (pa_cons (pv 3) (pa_cons (pv 4) pa_nil))))))))
  (pss_one (ps_ret (pv 3))))), ?_⟩)
  obtain ⟨a0, a1, a2, rfl⟩ := len3 (sp_standing_by_len _ _ _ _ h)
  obtain ⟨M, ls, log, hM, hl, hg, ok, q⟩ := h
  walk_at "S"
  refine ⟨M, ls, hM, hl, fun p0 H0 s0 k0 => ?_⟩
  refine ls_L (Mo.mo s0 hg) fun c ec hc => ?_
  subst ec
  refine for_L (r := rE) (l := log) (fun i σ H' => Same H H' ∧ ∃ p o4, σ = [some a0, some a1, some (.ref c), some (.ref p), o4] ∧ rT rI H' (.ref p) ((log.take i).foldl (ledF M ls) (begF M ls))) ⟨s0, p0, none, rfl, k0⟩ (fun i σ H' _ ⟨s, _⟩ => Mo.mo s hg) ?_ ?_
  · rintro i x e σ H1 hi rx ⟨s1, p, o4, rfl, k1⟩
    walk_at "S"
    refine ⟨M, ls, _, e, Mo.mo s1 hM, Mo.mo s1 hl, k1, rx, standF_acc hM.2 (fun a ha => ok a (List.mem_of_mem_take ha)) (begF_ok hM.2 ls), ok e (List.mem_of_getElem? hi), fun p2 H2 s2 k2 => ?_⟩
    refine ⟨s1.trans s2, p2, _, rfl, ?_⟩
    have e1 : log.take (i + 1) = log.take i ++ [e] := by rw [List.take_succ, hi]; rfl
    rw [e1, List.foldl_append]
    exact k2
  · rintro σ H1 ⟨s1, p, o4, rfl, k1⟩
    rw [List.take_length] at k1
    walk_at "S"
    exact q p H1 s1 k1
end
end Nb

/-! part D9 -/
set_option Elab.async false
set_option linter.all false
set_option maxRecDepth 100000
set_option maxHeartbeats 4000000
namespace Nb
open PySem PySem.Spec PyProof.Rows L2
local macro_rules | `(tactic| walk_at "S") => `(tactic| (try simp only [tSeq, tNext, tRet, tIfS, tDrop, tAsg, gName, tFor_eq, tWhile_eq, tLc_eq, tLc2_eq, tDc_eq, sFld_eq, sDPut_eq, tPar, tPar3, tC, tVar, tCB, tOp, tTup, tLst, tChain, tDGet_eq, tDGet2, tAndV, tOrV, tNotV, tIf, tLstRg, tRg1, tDisp, tPairs, tUn, rU, tTest, tNot, tB, tAnd, tOr, tYes, tSl, tPart, tNoPart, tRevL, tM1, tDNewK, tDNewT, gCons_c, gNil_n, gSub, gTup_eq, iRng1_eq, iList_eq, iTup_eq, iSeq_eq, iStr, iKeys_eq, iVals_eq, iEnum_eq, cx_K, tCons, tNil, tBM, tCall, tMake, tProp, tMeth, tFld_eq, tStar_eq, iZipM_eq, tDisp1, L2.start, List.map_cons, List.map_nil, List.length_cons, List.length_nil, List.cons_append, List.nil_append, List.append_nil, List.getElem?_cons_zero, List.getElem?_cons_succ, List.set_cons_zero, List.set_cons_succ, Option.some.injEq, exists_eq_left', exists_eq_left, V.bl.injEq, V.int.injEq, V.str.injEq, V.ref.injEq, if_true, if_false, Nat.reduceAdd, Nat.reduceSub, List.replicate_succ, List.replicate_zero, Bool.not_true, Bool.not_false, Bool.false_eq_true, if_neg, not_false_eq_true, wipe]))
local macro_rules | `(tactic| walk_at "G") => `(tactic| (walk_at "S"; repeat ((first | with_reducible refine o_add ?_ | with_reducible refine o_sub ?_ | with_reducible refine o_mul ?_ | with_reducible refine o_lt ?_ | with_reducible refine o_le ?_ | with_reducible refine o_gt ?_ | with_reducible refine o_ge ?_ | with_reducible refine o_eqI ?_ | with_reducible refine o_neI ?_ | with_reducible refine o_eqS ?_ | with_reducible refine o_neS ?_ | with_reducible refine o_isN ?_ | with_reducible refine o_notN ?_ | with_reducible refine i_int ?_ | with_reducible refine i_intB ?_ | with_reducible refine i_str ?_); walk_at "S")))
section
variable {P : Program} {w : World} {K : PySem.W.Frag} {mg : Str → Option Value} {base : Heap}
section
variable {α : Type} {r : RR α} {H : Hp} {a d : Addr} {l : List α} {u o : HO}
theorem rL_put [Tt r] (h : rL r H (.ref a) l) (hd : H d = some u) (nt : ∀ xs, u ≠ .tup xs) (n : a ≠ d) : rL r (upd H d o) (.ref a) l := by
  obtain ⟨a', xs, e, e1, k, hl⟩ := h
  cases e
  exact ⟨a, xs, rfl, by rw [upd_ne n]; exact e1, k.mono fun _ _ z => Tt.tm (SameT.upd (SameT.refl _) hd nt) z, hl⟩
theorem rDT_put [Tt r] {m : List (St1 × α)} (h : rDT r H (.ref a) m) (hd : H d = some u) (nt : ∀ xs, u ≠ .tup xs) (n : a ≠ d) : rDT r (upd H d o) (.ref a) m := by
  obtain ⟨a', kvs, e, e1, k, hl⟩ := h
  cases e
  exact ⟨a, kvs, rfl, by rw [upd_ne n]; exact e1, k.mono fun _ _ z => ⟨z.1, Tt.tm (SameT.upd (SameT.refl _) hd nt) z.2⟩, hl⟩
theorem rL_at (h : rL r H (.ref a) l) : ∃ xs, H a = some (.lst xs) := by
  obtain ⟨a', xs, e, e1, _⟩ := h
  cases e
  exact ⟨xs, e1⟩
theorem rDT_at {m : List (St1 × α)} (h : rDT r H (.ref a) m) : ∃ kvs, H a = some (.dT kvs) := by
  obtain ⟨a', xs, e, e1, _⟩ := h
  cases e
  exact ⟨xs, e1⟩
theorem rDT_bnd {m : List (St1 × α)} {v : V} (h : rDT r H v m) : m.length ≤ lim := by
  obtain ⟨a', xs, e, e1, _, hl⟩ := h
  exact hl
end
abbrev bF (M : Mach) (ls : List (List Str)) (ppl : List Str) (k : Nat) := lv (ledF M ls) (ents ppl (M.deeds.map Prod.fst)) (begF M ls) k
def sp_trails_of (K : PySem.W.Frag) : Sp := fun vs H Q _ => match vs with
  | [m, x, y] => ∃ M ppl few, rM K H m M ∧ rT rS H x ppl ∧ y = .int few ∧ ppl.length ≤ 6 ∧ few ≤ 6 ∧ M.seen.length ^ (lots ppl few).length ≤ 4096 ∧
      ∀ d H' k, Same H H' → H d = none → rDT (rT rE) H' (.ref d) (bF M (lots ppl few) ppl k).1 → (bF M (lots ppl few) ppl k).2 = [] → Q (.ref d) H'
  | _ => False
theorem fold_take {α β : Type} (g : β → α → β) (b : β) {l : List α} {i : Nat} {a : α} (h : l[i]? = some a) : (l.take (i + 1)).foldl g b = g ((l.take i).foldl g b) a := by
  rw [List.take_succ, h, List.foldl_append]; rfl
theorem lv_P {M : Mach} (h : OkM M) {ls : List (List Str)} {ppl : List Str} (k : Nat) : Lev (ledF M ls) (ents ppl (M.deeds.map Prod.fst)) (begF M ls) (okSt M.seen.length ls.length) k (bF M ls ppl k).1 (bF M ls ppl k).2 :=
  lv_lev (fun _ _ hs he => ledF_ok h hs (ents_ok he).1) (begF_ok h ls) k
theorem few_P {n j : Nat} {P : Ps St1 Entry} (nd : (P.map Prod.fst).Nodup) (g : ∀ p ∈ P, okSt n j p.1) : P.length ≤ n ^ j := by
  have h := few_lists (n := n) (k := j) nd fun x hx => by
    obtain ⟨p, hp, rfl⟩ := List.mem_map.mp hx
    exact ⟨(g p hp).1, fun i hi => (g p hp).2 i hi⟩
  simpa using h
theorem sc_trails_of : FnScope ["machine", "people", "few", "begin", "lots", "entries", "found", "front", "later", "standing", "entry", "behind"] ["machine", "people", "few"] (defScope s_trails_of) := ⟨rfl, rfl, rfl, by decide +kernel, rfl, by decide +kernel, by decide +kernel⟩
theorem sp_trails_of_len : ∀ (vs : List V) (H : Hp) (Q : VK) (E : XK), (sp_trails_of K) vs H Q E → vs.length = 3
  | [_, _, _], _, _, _, _ => rfl
  | [], _, _, _, h => h.elim
  | [_], _, _, _, h => h.elim
  | [_, _], _, _, _, h => h.elim
  | _ :: _ :: _ :: _ :: _, _, _, _, h => h.elim
theorem cal_trails_of (T : Tx P w K mg) : Cl P w K mg base 2 "trails_of" (sp_trails_of K) [] := by
  refine cl_of (st := s_trails_of) (qual := "trails_of") (kws := []) (T.c.def_ 43 (d := d_trails_of) rfl) sc_trails_of sp_trails_of_len (T.glo 52 rfl) (fun _ _ _ _ _ _ us hl => match us, hl with | [_, _, _], _ => rfl) (fun cdv A outer s H vs Q E hr h => ⟨_, (pss_cons (ps_par (i := 4) (j := 5) rfl sc_trails_of.nd rfl rfl (by decide) rfl rfl (pa_cons (pe_cl (cal_lots_of T) hr (by decide) rfl (pa_cons (pv 1) (pa_cons (pv 2) pa_nil))) (pa_cons (pe_cl (cal_entries_by T) hr (by decide) rfl (pa_cons (pv 0) (pa_cons (pv 1) pa_nil))) pa_nil)) (by rfl))
  (pss_cons (ps_set (i := 3) sc_trails_of.nd rfl (Or.inl rfl) (pe_cl (cal_begin_of T) hr (by decide) rfl (pa_cons (pv 0) (pa_cons (pv 4) pa_nil))))
  (pss_cons (ps_par (i := 6) (j := 7) rfl sc_trails_of.nd rfl rfl (by decide) rfl rfl (pa_cons (pe_dispT1 (hu_of hr) (pv 3) (pe_tup pa_nil)) (pa_cons (pe_lst (pa_cons (pv 3) pa_nil)) pa_nil)) (by rfl))
  (pss_cons (ps_while PassesOwn.never (pt_cmpR (op_any T hr) (pe_callB (cl_any (f := .builtin "len") T hr) rfl (T.free 109 rfl) (by decide +kernel) (pa_cons (pv 7) pa_nil)) pe_int (nomark _)) (pss_cons (ps_set (i := 8) sc_trails_of.nd rfl (Or.inl rfl) (pe_lst pa_nil))
  (pss_cons (ps_for PassesOwn.never rfl (pi_ls T (pv 7)) (pg_name (i := 9) sc_trails_of.nd rfl (Or.inl rfl)) (pss_one (ps_for PassesOwn.never rfl (pi_ls T (pv 5)) (pg_name (i := 10) sc_trails_of.nd rfl (Or.inl rfl)) (pss_cons (ps_set (i := 11) sc_trails_of.nd rfl (Or.inl rfl) (pe_cl (cal_led T) hr (by decide) rfl (pa_cons (pv 0) (pa_cons (pv 4) (pa_cons (pv 9) (pa_cons (pv 10) pa_nil))))))
  (pss_one (ps_if (pt_cmpR (op_any T hr) (pv 11) (pv 6) (by rfl)) (pss_cons (ps_dput (hu_of hr) (pv 6) (pv 11) (pe_tup (pa_st T (pe_dget (hu_of hr) (pv 6) (pv 9) (fun _ _ => rfl)) (pa_cons (pv 10) pa_nil))) rfl)
  (pss_one (ps_expr (pe_bk T PySem.F.plainAttrs_list PySem.F.slot_list_append PySem.F.type_list_append (mt_any T hr) (pv 8) (pa_cons (pv 11) pa_nil))))) pss_nil))))))
  (pss_one (ps_set (i := 7) sc_trails_of.nd rfl (Or.inl rfl) (pv 8))))))
  (pss_one (ps_ret (pv 6))))))), ?_⟩)
  obtain ⟨a0, a1, a2, rfl⟩ := len3 (sp_trails_of_len _ _ _ _ h)
  obtain ⟨M, ppl, few, hM, hp, rfl, n6, f6, hB, q⟩ := h
  walk_at "S"
  refine ⟨ppl, few, .inr (.inl hp), rfl, f6, n6, fun l4 H1 s1 hl4 k4 => ?_⟩
  walk_at "S"
  refine ⟨M, ppl, Mo.mo s1 hM, Mo.mo s1 hp, n6, fun l5 H2 s2 hl5 k5 => ?_⟩
  refine ⟨_, _, rfl, ?_⟩
  walk_at "S"
  have s02 := s1.trans s2
  refine ⟨M, _, Mo.mo s02 hM, Mo.mo s2 k4, fun b3 H3 s3 k3 => ?_⟩
  have s03 := s02.trans s3
  intro d hd
  walk_at "S"
  refine ⟨by decide, fun t ht => ?_⟩
  have g1 : Same H3 (upd H3 d (.dT [])) := same_new (same_refl _) hd
  have g2 : Same H3 (upd (upd H3 d (.dT [])) t (.tup [])) := same_new g1 ht
  have hdt : d ≠ t := ne_of_none (upd_same : upd H3 d (.dT []) d = _) ht
  have hd4 : upd (upd H3 d (.dT [])) t (.tup []) d = some (.dT []) := by rw [upd_ne hdt]; exact upd_same
  have kt : rT rE (upd (upd H3 d (.dT [])) t (.tup [])) (.ref t) [] := ⟨t, [], rfl, upd_same, trivial, by decide⟩
  generalize upd (upd H3 d (.dT [])) t (.tup []) = H4 at g2 hd4 kt
  have kb := Mo.mo g2 k3
  obtain ⟨b3', eb, hb3⟩ := keyT kb
  cases eb
  refine ⟨b3, keyI (begF M (lots ppl few)), rfl, hb3, hd4, ?_⟩
  have g3 : Same H3 (upd H4 d (.dT [(keyI (begF M (lots ppl few)), .ref t)])) := same_put g2 hd
  have kd : rDT (rT rE) (upd H4 d (.dT [(keyI (begF M (lots ppl few)), .ref t)])) (.ref d) [(begF M (lots ppl few), [])] :=
    ⟨d, _, rfl, upd_same, A2.one ⟨rfl, Tt.tm (SameT.upd (SameT.refl _) hd4 nofun) kt⟩, (by decide : 1 ≤ lim)⟩
  generalize upd H4 d (.dT [(keyI (begF M (lots ppl few)), .ref t)]) = H5 at g3 kd
  walk_at "S"
  refine ⟨by decide, fun fr hfr => ?_⟩
  have kf : rL (rT rI) (upd H5 fr (.lst [.ref b3])) (.ref fr) [begF M (lots ppl few)] := mk_L hfr (A2.one (Mo.mo g3 k3)) (by decide : 1 ≤ lim)
  have g4 : Same H5 (upd H5 fr (.lst [.ref b3])) := same_new (same_refl _) hfr
  generalize upd H5 fr (.lst [.ref b3]) = H6 at g4 kf
  refine ⟨_, _, rfl, ?_⟩
  have kd6 := Mo.mo g4 kd
  have a36 := g3.trans g4
  walk_at "S"
  have hdH : H d = none := s03.free hd
  have hls : rL (rT rS) H3 (.ref l4) (lots ppl few) := Mo.mo (s2.trans s3) k4
  have hes : rL rE H3 (.ref l5) (ents ppl (M.deeds.map Prod.fst)) := Mo.mo s3 k5
  generalize hL : lots ppl few = L at *
  have Bd : ∀ k, (bF M L ppl k).1.length ≤ 4096 := fun k => Nat.le_trans (few_P (lv_P hM.2 k).nd (lv_P hM.2 k).good) hB
  refine ⟨fun m σ H' => ∃ k fr o8 o9 o10 o11, m = 2 * (4097 - (bF M L ppl k).1.length) + (if (bF M L ppl k).2 = [] then 0 else 1) ∧ σ = [some a0, some a1, some (.int few), some (.ref b3), some (.ref l4), some (.ref l5), some (.ref d), some (.ref fr), o8, o9, o10, o11] ∧ Same H3 H' ∧ H3 fr = none ∧ rDT (rT rE) H' (.ref d) (bF M L ppl k).1 ∧ rL (rT rI) H' (.ref fr) ((bF M L ppl k).2.map Prod.fst), ⟨_, 0, fr, _, _, _, _, rfl, rfl, a36, g3.free hfr, kd6, kf⟩, ?_⟩
  rintro m σ H' ⟨k, fr, o8, o9, o10, o11, rfl, rfl, s7, hfr, kd, kf⟩
  have LV := lv_P hM.2 (ls := L) (ppl := ppl) k
  have nx : bF M L ppl (k + 1) = round (ledF M L) (ents ppl (M.deeds.map Prod.fst)) (bF M L ppl k).1 (bF M L ppl k).2 := rfl
  have LN := lv_P hM.2 (ls := L) (ppl := ppl) (k + 1)
  have BN := Bd (k + 1)
  have BK := Bd k
  rw [nx] at LN BN
  generalize hP : (bF M L ppl k).1 = P at kd kf LV BK LN BN nx ⊢
  generalize hN : (bF M L ppl k).2 = line at kd kf LV BK LN BN nx ⊢
  walk_at "S"
  refine c_lenRL kf ?_
  walk_at "G"
  rw [List.length_map]
  by_cases hz : line = []
  · subst hz
    rw [decide_eq_false (by simp)]
    walk_at "S"
    exact q d H' k (s03.trans s7) hdH (by rw [hP]; exact kd) hN
  · have hpos : 0 < line.length := List.length_pos_iff.mpr hz
    rw [decide_eq_true (show (0 : Int) < line.length by omega)]
    walk_at "S"
    refine ⟨_, fun σ' H'' z => z, ?_⟩
    walk_at "S"
    refine ⟨by decide, fun lt hlt => ?_⟩
    have a8 : Same H' (upd H' lt (.lst [])) := same_new (same_refl _) hlt
    have kl : rL (rT rI) (upd H' lt (.lst [])) (.ref lt) [] := mk_L hlt trivial (by decide)
    have nfl : fr ≠ lt := by obtain ⟨xs, e⟩ := rL_at kf; exact ne_of_none e hlt
    generalize upd H' lt (.lst []) = H8 at a8 kl
    have s8 := s7.trans a8
    have kd8 := Mo.mo a8 kd
    have kf8 := Mo.mo a8 kf
    walk_at "S"
    refine ls_L kf8 fun c ec hc => ?_
    cases ec
    have hlt3 : H3 lt = none := s7.free hlt
    refine for_L (r := rT rI) (l := line.map Prod.fst) (fun i σ H' => ∃ o9 o10 o11, σ = [some a0, some a1, some (.int few), some (.ref b3), some (.ref l4), some (.ref l5), some (.ref d), some (.ref fr), some (.ref lt), o9, o10, o11] ∧ Same H3 H' ∧ rL (rT rI) H' (.ref fr) (line.map Prod.fst) ∧ rDT (rT rE) H' (.ref d) ((line.take i).foldl (visits (ledF M L) (ents ppl (M.deeds.map Prod.fst))) (P, [])).1 ∧ rL (rT rI) H' (.ref lt) (((line.take i).foldl (visits (ledF M L) (ents ppl (M.deeds.map Prod.fst))) (P, [])).2.map Prod.fst)) ⟨_, _, _, rfl, s8, kf8, kd8, kl⟩ (fun i σ H' _ ⟨_, _, _, _, _, h, _⟩ => h) ?_ ?_
    · rintro i x st σ H9 hi rx ⟨o9, o10, o11, rfl, s9, kf9, kd9, kl9⟩
      obtain ⟨p, hp9, rfl⟩ : ∃ p, line[i]? = some p ∧ p.1 = st := by
        rw [List.getElem?_map] at hi
        cases e : line[i]? with
        | none => rw [e] at hi; cases hi
        | some p => rw [e] at hi; exact ⟨p, rfl, by cases hi; rfl⟩
      have hpl := List.mem_of_getElem? hp9
      have md0 : Mid (ledF M L) (ents ppl (M.deeds.map Prod.fst)) (begF M L) (okSt M.seen.length L.length) P k ((line.take i).foldl (visits (ledF M L) (ents ppl (M.deeds.map Prod.fst))) (P, [])) :=
        line_mid (fun _ _ hs he => ledF_ok hM.2 hs (ents_ok he).1) _ (fun p hp => ⟨LV.sub p (List.mem_of_mem_take hp), LV.len p (List.mem_of_mem_take hp)⟩) LV.mid
      have ft : (line.take (i + 1)).foldl (visits (ledF M L) (ents ppl (M.deeds.map Prod.fst))) (P, []) = (ents ppl (M.deeds.map Prod.fst)).foldl (visit (ledF M L) p) ((line.take i).foldl (visits (ledF M L) (ents ppl (M.deeds.map Prod.fst))) (P, [])) := fold_take _ _ hp9
      rw [ft]
      generalize (line.take i).foldl (visits (ledF M L) (ents ppl (M.deeds.map Prod.fst))) (P, []) = acc0 at kd9 kl9 md0
      walk_at "S"
      refine ls_L (Mo.mo s9 hes) fun c ec hc5 => ?_
      cases ec
      refine for_L (r := rE) (l := ents ppl (M.deeds.map Prod.fst)) (fun j σ H' => ∃ o10 o11, σ = [some a0, some a1, some (.int few), some (.ref b3), some (.ref l4), some (.ref l5), some (.ref d), some (.ref fr), some (.ref lt), some x, o10, o11] ∧ Same H3 H' ∧ rT rI H' x p.1 ∧ rL (rT rI) H' (.ref fr) (line.map Prod.fst) ∧ rDT (rT rE) H' (.ref d) (((ents ppl (M.deeds.map Prod.fst)).take j).foldl (visit (ledF M L) p) acc0).1 ∧ rL (rT rI) H' (.ref lt) ((((ents ppl (M.deeds.map Prod.fst)).take j).foldl (visit (ledF M L) p) acc0).2.map Prod.fst)) ⟨_, _, rfl, s9, rx, kf9, kd9, kl9⟩ (fun i σ H' _ ⟨_, _, _, h, _⟩ => Mo.mo h hes) ?_ ?_
      · rintro j y e σ H10 hj ry ⟨o10, o11, rfl, s10, rx10, kf10, kd10, kl10⟩
        have hem := List.mem_of_getElem? hj
        have md : Mid (ledF M L) (ents ppl (M.deeds.map Prod.fst)) (begF M L) (okSt M.seen.length L.length) P k (((ents ppl (M.deeds.map Prod.fst)).take j).foldl (visit (ledF M L) p) acc0) :=
          visits_mid (fun _ _ hs he => ledF_ok hM.2 hs (ents_ok he).1) (LV.sub p hpl) (LV.len p hpl) _ (fun a ha => List.mem_of_mem_take ha) md0
        have fe := fold_take (visit (ledF M L) p) acc0 hj
        rw [fe]
        generalize ((ents ppl (M.deeds.map Prod.fst)).take j).foldl (visit (ledF M L) p) acc0 = acc at kd10 kl10 md
        have hpa : p ∈ acc.1 := by rw [md.pre]; exact List.mem_append_left _ (LV.sub p hpl)
        have bacc : acc.1.length ≤ 4096 := Nat.le_trans (few_P md.nd md.good) hB
        have bacc2 : acc.2.length ≤ 4096 := by have := congrArg List.length md.pre; rw [List.length_append] at this; omega
        walk_at "S"
        refine ⟨M, L, p.1, e, Mo.mo (s03.trans s10) hM, Mo.mo s10 hls, rx10, ry, md.good p hpa, (ents_ok hem).1, fun bh H11 s11 k11 => ?_⟩
        have s31 := s10.trans s11
        have kd11 := Mo.mo s11 kd10
        have kl11 := Mo.mo s11 kl10
        have kf11 := Mo.mo s11 kf10
        walk_at "S"
        refine o_notinDT kd11 k11 ?_
        walk_at "S"
        unfold visit
        by_cases hin : ledF M L p.1 e ∈ acc.1.map Prod.fst
        · rw [decide_eq_true hin, if_pos hin]
          walk_at "S"
          exact ⟨_, _, rfl, s31, Mo.mo s11 rx10, kf11, kd11, kl11⟩
        · rw [decide_eq_false hin, if_neg hin]
          walk_at "S"
          have pf := pair_of md.nd hpa
          refine dg_DT (r := rT rE) kd11 (Mo.mo s11 rx10) pf fun z rz => ?_
          refine star_T rz fun zs kz => ?_
          walk_at "S"
          have kpath : A2 (rE H11) (zs ++ [y]) (p.2 ++ [e]) := kz.app (.one (Mo.mo s11 ry))
          have plen : (p.2 ++ [e]).length ≤ lim := by
            have h1 := LV.len p hpl
            have h2 := LV.much hz
            have h0 : 5000 ≤ lim := by decide
            rw [List.length_append]; simp; omega
          refine ⟨kpath.bnd plen, fun t12 ht12 => ?_⟩
          have kt12 := mk_T ht12 kpath plen
          have s12 : Same H11 (upd H11 t12 (.tup (zs ++ [y]))) := same_new (same_refl _) ht12
          generalize upd H11 t12 (.tup (zs ++ [y])) = H12 at kt12 s12
          have h0 : 5000 ≤ lim := by decide
          refine dp_DT (r := rT rE) (Mo.mo s12 kd11) (Mo.mo s12 k11) kt12 hin (by omega) fun o13 ⟨l13, e13⟩ kd13 => ?_
          have t13 : SameT H12 (upd H12 d o13) := SameT.upd (SameT.refl _) e13 nofun
          obtain ⟨xs14, e14⟩ := rL_at (Mo.mo s12 kl11)
          obtain ⟨xs15, e15⟩ := rL_at (Mo.mo s12 kf11)
          have hld : lt ≠ d := ne_of e14 e13 nofun
          have hfd : fr ≠ d := ne_of e15 e13 nofun
          have kl13 : rL (rT rI) (upd H12 d o13) (.ref lt) (acc.2.map Prod.fst) := rL_put (Mo.mo s12 kl11) e13 nofun hld
          have kf13 : rL (rT rI) (upd H12 d o13) (.ref fr) (line.map Prod.fst) := rL_put (Mo.mo s12 kf11) e13 nofun hfd
          have s13 : Same H3 (upd H12 d o13) := same_put (s31.trans s12) hd
          have r13 : rT rI (upd H12 d o13) x p.1 := Tt.tm (((same_t s11).trans (same_t s12)).trans t13) rx10
          have k13 : rT rI (upd H12 d o13) (.ref bh) (ledF M L p.1 e) := Tt.tm ((same_t s12).trans t13) k11
          generalize upd H12 d o13 = H13 at kd13 t13 kl13 kf13 s13 r13 k13
          walk_at "S"
          refine ⟨ty_L kl13, ?_⟩
          refine m_appR kl13 k13 (by rw [List.length_map]; omega) fun o16 k16 => ?_
          obtain ⟨xs17, e17⟩ := rL_at kl13
          obtain ⟨xs18, e18⟩ := rDT_at kd13
          refine ⟨_, _, rfl, same_put s13 hlt3, Tt.tm (SameT.upd (SameT.refl _) e17 nofun) r13, rL_put kf13 e17 nofun nfl, rDT_put kd13 e17 nofun (ne_of e18 e17 nofun), ?_⟩
          simpa using k16
      · rintro σ H10 ⟨o10, o11, rfl, s10, rx10, kf10, kd10, kl10⟩
        rw [List.take_length] at kd10 kl10
        walk_at "S"
        exact ⟨_, _, _, rfl, s10, kf10, kd10, kl10⟩
    · rintro σ H9 ⟨o9, o10, o11, rfl, s9, kf9, kd9, kl9⟩
      rw [List.length_map, List.take_length] at kd9 kl9
      walk_at "S"
      refine ⟨2 * (4097 - (bF M L ppl (k + 1)).1.length) + (if (bF M L ppl (k + 1)).2 = [] then 0 else 1), ?_, k + 1, lt, _, _, _, _, rfl, rfl, s9, hlt3, by rw [nx]; exact kd9, by rw [nx]; exact kl9⟩
      rw [nx, if_neg hz]
      have mdr : Mid (ledF M L) (ents ppl (M.deeds.map Prod.fst)) (begF M L) (okSt M.seen.length L.length) P k (round (ledF M L) (ents ppl (M.deeds.map Prod.fst)) P line) :=
        line_mid (fun _ _ hs he => ledF_ok hM.2 hs (ents_ok he).1) line (fun p hp => ⟨LV.sub p hp, LV.len p hp⟩) LV.mid
      have el := congrArg List.length mdr.pre
      rw [List.length_append] at el
      split
      · omega
      · rename_i hne
        have := List.length_pos_iff.mpr hne
        omega
end
end Nb

/-! part D10 -/
set_option Elab.async false
set_option linter.all false
set_option maxRecDepth 100000
set_option maxHeartbeats 4000000
namespace Nb
open PySem PySem.Spec PyProof.Rows L2
local macro_rules | `(tactic| walk_at "S") => `(tactic| (try simp only [tSeq, tNext, tRet, tIfS, tDrop, tAsg, gName, tFor_eq, tWhile_eq, tLc_eq, tLc2_eq, tDc_eq, sFld_eq, sDPut_eq, tPar, tPar3, tC, tVar, tCB, tOp, tTup, tLst, tChain, tDGet_eq, tDGet2, tAndV, tOrV, tNotV, tIf, tLstRg, tRg1, tDisp, tPairs, tUn, rU, tTest, tNot, tB, tAnd, tOr, tYes, tSl, tPart, tNoPart, tRevL, tM1, tDNewK, tDNewT, gCons_c, gNil_n, gSub, gTup_eq, iRng1_eq, iList_eq, iTup_eq, iSeq_eq, iStr, iKeys_eq, iVals_eq, iEnum_eq, cx_K, tCons, tNil, tBM, tCall, tMake, tProp_eq, tMeth_eq, tFld_eq, tStar_eq, iZipM_eq, tDisp1, L2.start, List.map_cons, List.map_nil, List.length_cons, List.length_nil, List.cons_append, List.nil_append, List.append_nil, List.getElem?_cons_zero, List.getElem?_cons_succ, List.set_cons_zero, List.set_cons_succ, Option.some.injEq, exists_eq_left', exists_eq_left, V.bl.injEq, V.int.injEq, V.str.injEq, V.ref.injEq, if_true, if_false, Nat.reduceAdd, Nat.reduceSub, List.replicate_succ, List.replicate_zero, Bool.not_true, Bool.not_false, Bool.false_eq_true, if_neg, not_false_eq_true, wipe]))
local macro_rules | `(tactic| walk_at "G") => `(tactic| (walk_at "S"; repeat ((first | with_reducible refine o_add ?_ | with_reducible refine o_sub ?_ | with_reducible refine o_mul ?_ | with_reducible refine o_lt ?_ | with_reducible refine o_le ?_ | with_reducible refine o_gt ?_ | with_reducible refine o_ge ?_ | with_reducible refine o_eqI ?_ | with_reducible refine o_neI ?_ | with_reducible refine o_eqS ?_ | with_reducible refine o_neS ?_ | with_reducible refine o_isN ?_ | with_reducible refine o_notN ?_ | with_reducible refine i_int ?_ | with_reducible refine i_intB ?_ | with_reducible refine i_str ?_); walk_at "S")))
section
variable {P : Program} {w : World} {K : PySem.W.Frag} {mg : Str → Option Value} {base : Heap}
def sp_people_for (K : PySem.W.Frag) : Sp := fun vs H Q _ => match vs with
  | [m, x, y] => ∃ M rows few, rM K H m M ∧ rL rE H x rows ∧ y = .int few ∧ okRows M.deeds rows ∧ (folk rows).length ≤ 3 ∧ 0 ≤ few ∧ few ≤ 3 ∧ ∀ p H', Same H H' → rT rS H' (.ref p) (folk rows) → Q (.ref p) H'
  | _ => False
theorem sc_people_for : FnScope ["machine", "log", "few", "people"] ["machine", "log", "few"] (defScope s_people_for) := ⟨rfl, rfl, rfl, by decide +kernel, rfl, by decide +kernel, by decide +kernel⟩
theorem sp_people_for_len : ∀ (vs : List V) (H : Hp) (Q : VK) (E : XK), (sp_people_for K) vs H Q E → vs.length = 3
  | [_, _, _], _, _, _, _ => rfl
  | [], _, _, _, h => h.elim
  | [_], _, _, _, h => h.elim
  | [_, _], _, _, _, h => h.elim
  | _ :: _ :: _ :: _ :: _, _, _, _, h => h.elim
theorem cal_people_for (T : Tx P w K mg) : Cl P w K mg base 4 "people_for" (sp_people_for K) [] := by
  refine cl_of (st := s_people_for) (qual := "people_for") (kws := []) (T.c.def_ 44 (d := d_people_for) rfl) sc_people_for sp_people_for_len (T.glo 53 rfl) (fun _ _ _ _ _ _ us hl => match us, hl with | [_, _, _], _ => rfl) (fun cdv A outer s H vs Q E hr h => ⟨_, (pss_cons (ps_expr (pe_cl (cal_need_machine T) hr (by decide) rfl (pa_cons (pv 0) pa_nil)))
  (pss_cons (ps_expr (pe_cl (cal_need_log T) hr (by decide) rfl (pa_cons (pv 0) (pa_cons (pv 1) pa_nil))))
  (pss_cons (ps_expr (pe_cl (cal_need_few T) hr (by decide) rfl (pa_cons (pv 2) pa_nil)))
  (pss_cons (ps_set (i := 3) sc_people_for.nd rfl (Or.inl rfl) (pe_cl (cal_people_in T) hr (by decide) rfl (pa_cons (pv 1) pa_nil)))
  (pss_cons (ps_if (pt_cmpR (op_any T hr) (pe_callB (cl_any (f := .builtin "len") T hr) rfl (T.free 109 rfl) (by decide +kernel) (pa_cons (pv 3) pa_nil)) (pe_gi rfl (T.int 129 rfl)) (nomark _)) pss_never pss_nil)
  (pss_one (ps_ret (pv 3)))))))), ?_⟩)
  obtain ⟨a0, a1, a2, rfl⟩ := len3 (sp_people_for_len _ _ _ _ h)
  obtain ⟨M, rows, few, hM, hr', rfl, ok, n3, f0, f3, q⟩ := h
  walk_at "S"
  refine ⟨M, hM, ?_⟩
  walk_at "S"
  refine ⟨M, rows, hM, hr', ok, by omega, fun H1 s1 => ?_⟩
  walk_at "S"
  refine ⟨few, rfl, f0, f3, ?_⟩
  walk_at "S"
  refine ⟨rows, Mo.mo s1 hr', by omega, fun p H2 s2 k2 => ?_⟩
  walk_at "S"
  refine c_lenRT k2 ?_
  walk_at "G"
  rw [decide_eq_false (show ¬ (3 : Int) < (folk rows).length by omega)]
  walk_at "S"
  exact q p _ (s1.trans s2) k2
/-- the shortest log: the path of its standing -/
def short (M : Mach) (rows : List Entry) (few : Int) (k : Nat) : List Entry :=
  (((bF M (lots (folk rows) few) (folk rows) k).1.find? fun q => decide (q.1 = standF M (lots (folk rows) few) rows)).map Prod.snd).getD []
/-- a search that has come to its end -/
def ended (M : Mach) (rows : List Entry) (few : Int) (k : Nat) : Prop := (bF M (lots (folk rows) few) (folk rows) k).2 = []
theorem shut_all {S E : Type} [DecidableEq S] {f : S → E → S} {es : List E} {b : S} {G : S → Prop} {k : Nat} {P : Ps S E} (h : Lev f es b G k P []) : ∀ (w : List E) {s : S}, (∀ e ∈ w, e ∈ es) → s ∈ P.map Prod.fst → w.foldl f s ∈ P.map Prod.fst
  | [], _, _, hs => hs
  | e :: w, s, hw, hs => by
    obtain ⟨p, hp, rfl⟩ := List.mem_map.mp hs
    exact shut_all h w (fun a ha => hw a (List.mem_cons_of_mem _ ha)) (((h.shut p hp).resolve_left (by simp)) e (hw e List.mem_cons_self))
theorem rows_ents {M : Mach} {rows : List Entry} (ok : okRows M.deeds rows) : ∀ e ∈ rows, e ∈ ents (folk rows) (M.deeds.map Prod.fst) := fun e he => ents_has (ok e he) fun p hp => folk_mem.mpr ⟨e, he, hp⟩
theorem short_in {M : Mach} (h : OkM M) {rows : List Entry} {few : Int} {k : Nat} (ok : okRows M.deeds rows) (he : ended M rows few k) : ∃ p ∈ (bF M (lots (folk rows) few) (folk rows) k).1, p.1 = standF M (lots (folk rows) few) rows := by
  have LV := lv_P h (ls := lots (folk rows) few) (ppl := folk rows) k
  unfold ended at he
  rw [he] at LV
  exact List.mem_map.mp (shut_all LV rows (rows_ents ok) LV.beg)
def sp_shortest_of (K : PySem.W.Frag) : Sp := fun vs H Q _ => match vs with
  | [m, x, y] => ∃ M rows few, rM K H m M ∧ rL rE H x rows ∧ y = .int few ∧ okRows M.deeds rows ∧ (folk rows).length ≤ 6 ∧ few ≤ 6 ∧ M.seen.length ^ (lots (folk rows) few).length ≤ 4096 ∧ ∀ k, ended M rows few k → PuF (rL rE) (short M rows few k) Q H
  | _ => False
theorem sc_shortest_of : FnScope ["machine", "log", "few", "people"] ["machine", "log", "few"] (defScope s_shortest_of) := ⟨rfl, rfl, rfl, by decide +kernel, rfl, by decide +kernel, by decide +kernel⟩
theorem sp_shortest_of_len : ∀ (vs : List V) (H : Hp) (Q : VK) (E : XK), (sp_shortest_of K) vs H Q E → vs.length = 3
  | [_, _, _], _, _, _, _ => rfl
  | [], _, _, _, h => h.elim
  | [_], _, _, _, h => h.elim
  | [_, _], _, _, _, h => h.elim
  | _ :: _ :: _ :: _ :: _, _, _, _, h => h.elim
theorem cal_shortest_of (T : Tx P w K mg) : Cl P w K mg base 3 "shortest_of" (sp_shortest_of K) [] := by
  refine cl_of (st := s_shortest_of) (qual := "shortest_of") (kws := []) (T.c.def_ 45 (d := d_shortest_of) rfl) sc_shortest_of sp_shortest_of_len (T.glo 54 rfl) (fun _ _ _ _ _ _ us hl => match us, hl with | [_, _, _], _ => rfl) (fun cdv A outer s H vs Q E hr h => ⟨_, (pss_cons (ps_set (i := 3) sc_shortest_of.nd rfl (Or.inl rfl) (pe_cl (cal_people_in T) hr (by decide) rfl (pa_cons (pv 1) pa_nil)))
  (pss_one (ps_ret (pe_callTy (cl_any (f := .type "list") T hr) rfl (T.free 110 rfl) (by decide +kernel) (pa_cons (pe_dget (hu_of hr) (pe_cl (cal_trails_of T) hr (by decide) rfl (pa_cons (pv 0) (pa_cons (pv 3) (pa_cons (pv 2) pa_nil)))) (pe_cl (cal_standing_by T) hr (by decide) rfl (pa_cons (pv 0) (pa_cons (pe_cl (cal_lots_of T) hr (by decide) rfl (pa_cons (pv 3) (pa_cons (pv 2) pa_nil))) (pa_cons (pv 1) pa_nil)))) (fun _ _ => rfl)) pa_nil))))), ?_⟩)
  obtain ⟨a0, a1, a2, rfl⟩ := len3 (sp_shortest_of_len _ _ _ _ h)
  obtain ⟨M, rows, few, hM, hr', rfl, ok, n6, f6, hB, q⟩ := h
  walk_at "S"
  refine ⟨rows, hr', by omega, fun p H1 s1 k1 => ?_⟩
  walk_at "S"
  refine ⟨M, folk rows, few, Mo.mo s1 hM, k1, rfl, n6, f6, hB, fun d H2 k s2 hd kd he => ?_⟩
  have s12 := s1.trans s2
  walk_at "S"
  refine ⟨folk rows, few, .inr (.inl (Mo.mo s2 k1)), rfl, f6, n6, fun l H3 s3 hl k3 => ?_⟩
  have s13 := s12.trans s3
  refine ⟨M, _, rows, Mo.mo s13 hM, k3, Mo.mo s13 hr', ok, fun st H4 s4 k4 => ?_⟩
  obtain ⟨p, hp, hpe⟩ := short_in hM.2 ok he
  have pf := pair_of (lv_P hM.2 k).nd hp
  rw [hpe] at pf
  refine dg_DT (r := rT rE) (Mo.mo (s3.trans s4) kd) k4 pf fun z rz => ?_
  walk_at "S"
  refine c_listRT rz fun t H5 s5 ht k5 => q k he t H5 ((s13.trans s4).trans s5) ((s13.trans s4).free ht) ?_
  unfold short
  rw [pf]
  exact k5
def sp_shortest (K : PySem.W.Frag) : Sp := fun vs H Q _ => match vs with
  | [m, x, y] => ∃ M rows few, rM K H m M ∧ rL rE H x rows ∧ y = .int few ∧ okRows M.deeds rows ∧ (folk rows).length ≤ 3 ∧ 0 ≤ few ∧ few ≤ 3 ∧ M.seen.length ^ (lots (folk rows) few).length ≤ 4096 ∧ ∀ k, ended M rows few k → PuF (rL rE) (short M rows few k) Q H
  | _ => False
theorem sc_shortest : FnScope ["machine", "log", "few"] ["machine", "log", "few"] (defScope s_shortest) := ⟨rfl, rfl, rfl, by decide +kernel, rfl, by decide +kernel, by decide +kernel⟩
theorem sp_shortest_len : ∀ (vs : List V) (H : Hp) (Q : VK) (E : XK), (sp_shortest K) vs H Q E → vs.length = 3
  | [_, _, _], _, _, _, _ => rfl
  | [], _, _, _, h => h.elim
  | [_], _, _, _, h => h.elim
  | [_, _], _, _, _, h => h.elim
  | _ :: _ :: _ :: _ :: _, _, _, _, h => h.elim
theorem cal_shortest (T : Tx P w K mg) : Cl P w K mg base 5 "shortest" (sp_shortest K) [] := by
  refine cl_of (st := s_shortest) (qual := "shortest") (kws := []) (T.c.def_ 46 (d := d_shortest) rfl) sc_shortest sp_shortest_len (T.glo 55 rfl) (fun _ _ _ _ _ _ us hl => match us, hl with | [_, _, _], _ => rfl) (fun cdv A outer s H vs Q E hr h => ⟨_, (pss_cons (ps_expr (pe_cl (cal_people_for T) hr (by decide) rfl (pa_cons (pv 0) (pa_cons (pv 1) (pa_cons (pv 2) pa_nil)))))
  (pss_one (ps_ret (pe_cl (cal_shortest_of T) hr (by decide) rfl (pa_cons (pv 0) (pa_cons (pv 1) (pa_cons (pv 2) pa_nil))))))), ?_⟩)
  obtain ⟨a0, a1, a2, rfl⟩ := len3 (sp_shortest_len _ _ _ _ h)
  obtain ⟨M, rows, few, hM, hr', rfl, ok, n3, f0, f3, hB, q⟩ := h
  walk_at "S"
  refine ⟨M, rows, few, hM, hr', rfl, ok, n3, f0, f3, fun p H1 s1 k1 => ?_⟩
  walk_at "S"
  exact ⟨M, rows, few, Mo.mo s1 hM, Mo.mo s1 hr', rfl, ok, by omega, by omega, hB, fun k he l H2 s2 hl k2 => q k he l H2 (s1.trans s2) (s1.free hl) k2⟩
def sp_seen_without (K : PySem.W.Frag) : Sp := fun vs H Q _ => match vs with
  | [m, x, y] => ∃ M rows lot, rM K H m M ∧ rL rE H x rows ∧ okRows M.deeds rows ∧ rQ rS H y lot ∧ PuV (.int (gi M.seen (behind M.deeds rows lot))) Q H
  | _ => False
theorem sc_seen_without : FnScope ["machine", "log", "lot"] ["machine", "log", "lot"] (defScope s_seen_without) := ⟨rfl, rfl, rfl, by decide +kernel, rfl, by decide +kernel, by decide +kernel⟩
theorem sp_seen_without_len : ∀ (vs : List V) (H : Hp) (Q : VK) (E : XK), (sp_seen_without K) vs H Q E → vs.length = 3
  | [_, _, _], _, _, _, _ => rfl
  | [], _, _, _, h => h.elim
  | [_], _, _, _, h => h.elim
  | [_, _], _, _, _, h => h.elim
  | _ :: _ :: _ :: _ :: _, _, _, _, h => h.elim
theorem cal_seen_without (T : Tx P w K mg) : Cl P w K mg base 3 "seen_without" (sp_seen_without K) [] := by
  refine cl_of (st := s_seen_without) (qual := "seen_without") (kws := []) (T.c.def_ 69 (d := d_seen_without) rfl) sc_seen_without sp_seen_without_len (T.glo 59 rfl) (fun _ _ _ _ _ _ us hl => match us, hl with | [_, _, _], _ => rfl) (fun cdv A outer s H vs Q E hr h => ⟨_, (pss_one (ps_ret (pe_ix (ix_any T hr) (pe_fd T (pv 0) rfl) (pe_cl (cal_state_behind T) hr (by decide) rfl (pa_cons (pv 0) (pa_cons (pv 1) (pa_cons (pv 2) pa_nil)))) (fun _ _ => rfl)))), ?_⟩)
  obtain ⟨a0, a1, a2, rfl⟩ := len3 (sp_seen_without_len _ _ _ _ h)
  obtain ⟨M, rows, lot, hM, hr', ok, hl, q⟩ := h
  have lo := hM.2.lo
  walk_at "S"
  refine fM_seen T hM fun y ky => ?_
  walk_at "S"
  refine ⟨M, rows, lot, hM, hr', ok, hl, fun H1 s1 => ?_⟩
  exact seen_at T (Mo.mo s1 ky) (behind_ok (by omega) hM.2.ok ok) rfl (q _ s1)
def turning (M : Mach) (rows : List Entry) : List (List Str) := (lots (folk rows) (folk rows).length).filter fun lot => !decide (gi M.seen (behind M.deeds rows lot) = gi M.seen (behind M.deeds rows []))
def sp_turning_lots (K : PySem.W.Frag) : Sp := fun vs H Q _ => match vs with
  | [m, x] => ∃ M rows, rM K H m M ∧ rL rE H x rows ∧ okRows M.deeds rows ∧ (folk rows).length ≤ 6 ∧ PuF (rL (rT rS)) (turning M rows) Q H
  | _ => False
theorem sc_turning_lots : FnScope ["machine", "log", "people", "now", "lot"] ["machine", "log"] (defScope s_turning_lots) := ⟨rfl, rfl, rfl, by decide +kernel, rfl, by decide +kernel, by decide +kernel⟩
theorem sp_turning_lots_len : ∀ (vs : List V) (H : Hp) (Q : VK) (E : XK), (sp_turning_lots K) vs H Q E → vs.length = 2
  | [_, _], _, _, _, _ => rfl
  | [], _, _, _, h => h.elim
  | [_], _, _, _, h => h.elim
  | _ :: _ :: _ :: _, _, _, _, h => h.elim
theorem cal_turning_lots (T : Tx P w K mg) : Cl P w K mg base 4 "turning_lots" (sp_turning_lots K) [] := by
  refine cl_of (st := s_turning_lots) (qual := "turning_lots") (kws := []) (T.c.def_ 70 (d := d_turning_lots) rfl) sc_turning_lots sp_turning_lots_len (T.glo 60 rfl) (fun _ _ _ _ _ _ us hl => match us, hl with | [_, _], _ => rfl) (fun cdv A outer s H vs Q E hr h => ⟨_, (pss_cons (ps_set (i := 2) sc_turning_lots.nd rfl (Or.inl rfl) (pe_cl (cal_people_in T) hr (by decide) rfl (pa_cons (pv 1) pa_nil)))
  (pss_cons (ps_set (i := 3) sc_turning_lots.nd rfl (Or.inr rfl) (pe_cl (cal_seen_without T) hr (by decide) rfl (pa_cons (pv 0) (pa_cons (pv 1) (pa_cons (pe_tup pa_nil) pa_nil)))))
  (pss_one (ps_ret (pe_lc (own := [("lot", 4)]) rfl sc_turning_lots.nd (pi_ls T (pe_cl (cal_lots_of T) hr (by decide) rfl (pa_cons (pv 2) (pa_cons (pe_callB (cl_any (f := .builtin "len") T hr) rfl (T.free 109 rfl) (by decide +kernel) (pa_cons (pv 2) pa_nil)) pa_nil)))) (blkOk_by (own := [("lot", 4)]) (N := ["machine", "log", "people", "now", "lot"]) (sc := defScope s_turning_lots) (by decide +kernel)) (fun _ _ _ _ _ => (pg_name (i := 4) sc_turning_lots.nd rfl (Or.inl rfl))) (fun _ _ _ _ _ => pts_one (pt_cmpR (op_any T hr) (pe_cl (cal_seen_without T) hr (by decide) rfl (pa_cons (pv 0) (pa_cons (pv 1) (pa_cons (pv 4) pa_nil)))) (pv 3) (nomark _))) (fun _ _ _ _ _ => (pv 4))))))), ?_⟩)
  obtain ⟨a0, a1, rfl⟩ := len2 (sp_turning_lots_len _ _ _ _ h)
  obtain ⟨M, rows, hM, hr', ok, n6, q⟩ := h
  walk_at "S"
  refine ⟨rows, hr', by omega, fun p H1 s1 k1 => ?_⟩
  walk_at "S"
  refine ⟨by decide, fun t ht => ?_⟩
  have s2 : Same H (upd H1 t (.tup [])) := same_new s1 ht
  have kt : rT rS (upd H1 t (.tup [])) (.ref t) [] := ⟨t, [], rfl, upd_same, trivial, by decide⟩
  have k2 := Mo.mo (same_new (o := .tup []) (same_refl H1) ht) k1
  generalize upd H1 t (.tup []) = H2 at s2 kt k2
  walk_at "S"
  refine ⟨M, rows, [], Mo.mo s2 hM, Mo.mo s2 hr', ok, .inr kt, fun H3 s3 => ?_⟩
  have s03 := s2.trans s3
  walk_at "S"
  refine c_lenRT (Mo.mo s3 k2) ?_
  walk_at "S"
  refine ⟨folk rows, _, .inr (.inl (Mo.mo s3 k2)), rfl, by omega, n6, fun l H4 s4 hl k4 => ?_⟩
  refine ls_L k4 fun c ec hc => ?_
  refine lc_L (r := rT rS) (r' := rT rS) (fun lot => if (!decide (gi M.seen (behind M.deeds rows lot) = gi M.seen (behind M.deeds rows []))) = true then some lot else none) hc (fun x lot H5 hb s5 rx Yk N j1 j2 => ?_) fun D H5 s5 hD kD => ?_
  · have s05 := (s03.trans s4).trans s5
    walk_at "S"
    refine ⟨trivial, M, rows, lot, Mo.mo s05 hM, Mo.mo s05 hr', ok, .inr rx, fun H6 s6 => ?_⟩
    walk_at "G"
    by_cases he : gi M.seen (behind M.deeds rows lot) = gi M.seen (behind M.deeds rows [])
    · rw [decide_eq_true he]
      walk_at "S"
      exact j2 (by rw [decide_eq_true he]; rfl) _ s6
    · rw [decide_eq_false he]
      walk_at "S"
      exact j1 _ (by rw [decide_eq_false he]; rfl) _ _ s6 (Mo.mo s6 rx)
  · rw [fm_if, List.map_id'] at kD
    exact q D H5 ((s03.trans s4).trans s5) ((s03.trans s4).free hD) kD
def within (l m : List Str) : Bool := (l.map fun p => decide (some p ∈ m.map some)).all id
def sp_is_within : Sp := fun vs H Q _ => match vs with
  | [x, y] => ∃ l m, rT rS H x l ∧ rT rS H y m ∧ PuV (.bl (within l m)) Q H
  | _ => False
theorem sc_is_within : FnScope ["lot", "other", "person"] ["lot", "other"] (defScope s_is_within) := ⟨rfl, rfl, rfl, by decide +kernel, rfl, by decide +kernel, by decide +kernel⟩
theorem sp_is_within_len : ∀ (vs : List V) (H : Hp) (Q : VK) (E : XK), sp_is_within vs H Q E → vs.length = 2
  | [_, _], _, _, _, _ => rfl
  | [], _, _, _, h => h.elim
  | [_], _, _, _, h => h.elim
  | _ :: _ :: _ :: _, _, _, _, h => h.elim
theorem cal_is_within (T : Tx P w K mg) : Cl P w K mg base 1 "is_within" sp_is_within [] := by
  refine cl_of (st := s_is_within) (qual := "is_within") (kws := []) (T.c.def_ 71 (d := d_is_within) rfl) sc_is_within sp_is_within_len (T.glo 61 rfl) (fun _ _ _ _ _ _ us hl => match us, hl with | [_, _], _ => rfl) (fun cdv A outer s H vs Q E hr h => ⟨_, (pss_one (ps_ret (pe_callB (cl_any (f := .builtin "all") T hr) rfl (T.free 102 rfl) (by decide +kernel) (pa_cons (pe_lc (own := [("person", 2)]) rfl sc_is_within.nd (pi_tp T (pv 0)) (blkOk_by (own := [("person", 2)]) (N := ["lot", "other", "person"]) (sc := defScope s_is_within) (by decide +kernel)) (fun _ _ _ _ _ => (pg_name (i := 2) sc_is_within.nd rfl (Or.inl rfl))) (fun _ _ _ _ _ => pts_nil) (fun _ _ _ _ _ => (pe_cmpR (op_any T hr) (pv 2) (pv 1) (by rfl)))) pa_nil)))), ?_⟩)
  obtain ⟨a0, a1, rfl⟩ := len2 (sp_is_within_len _ _ _ _ h)
  obtain ⟨l, m, hl, hm, q⟩ := h
  walk_at "S"
  refine tp_T hl fun c ec hc => ?_
  refine lc_T (r := rS) (r' := rB) (fun p => some (decide (some p ∈ m.map some))) hc (fun x b H1 hb s1 rx Yk N k1 k2 => ?_) fun D H1 s1 hD kD => ?_
  · obtain ⟨rfl, hw⟩ := rx
    walk_at "S"
    exact ⟨trivial, o_inT (o := some b) (Mo.mo s1 hm) (k1 _ rfl _ _ (same_refl _) rfl)⟩
  · rw [fm_some] at kD
    exact c_allR kD (q _ s1)
def leastL (l : List (List Str)) : List (List Str) := l.foldl (fun acc lot => if (acc.map fun less => within less lot).any id then acc else acc ++ [lot]) []
def causesF (M : Mach) (rows : List Entry) : List (List Str) := leastL (turning M rows)
def sp_causes_of (K : PySem.W.Frag) : Sp := fun vs H Q _ => match vs with
  | [m, x] => ∃ M rows, rM K H m M ∧ rL rE H x rows ∧ okRows M.deeds rows ∧ (folk rows).length ≤ 6 ∧ PuF (rL (rT rS)) (causesF M rows) Q H
  | _ => False
theorem leastL_len : ∀ (l acc : List (List Str)), (l.foldl (fun acc lot => if (acc.map fun less => within less lot).any id then acc else acc ++ [lot]) acc).length ≤ acc.length + l.length
  | [], acc => by simp
  | a :: l, acc => by
    rw [List.foldl_cons]
    refine Nat.le_trans (leastL_len l _) ?_
    split <;> simp <;> omega
theorem sc_causes_of : FnScope ["machine", "log", "found", "lot", "less"] ["machine", "log"] (defScope s_causes_of) := ⟨rfl, rfl, rfl, by decide +kernel, rfl, by decide +kernel, by decide +kernel⟩
theorem sp_causes_of_len : ∀ (vs : List V) (H : Hp) (Q : VK) (E : XK), (sp_causes_of K) vs H Q E → vs.length = 2
  | [_, _], _, _, _, _ => rfl
  | [], _, _, _, h => h.elim
  | [_], _, _, _, h => h.elim
  | _ :: _ :: _ :: _, _, _, _, h => h.elim
theorem cal_causes_of (T : Tx P w K mg) : Cl P w K mg base 5 "causes_of" (sp_causes_of K) [] := by
  refine cl_of (st := s_causes_of) (qual := "causes_of") (kws := []) (T.c.def_ 72 (d := d_causes_of) rfl) sc_causes_of sp_causes_of_len (T.glo 62 rfl) (fun _ _ _ _ _ _ us hl => match us, hl with | [_, _], _ => rfl) (fun cdv A outer s H vs Q E hr h => ⟨_, (pss_cons (ps_set (i := 2) sc_causes_of.nd rfl (Or.inl rfl) (pe_lst pa_nil))
  (pss_cons (ps_for PassesOwn.never rfl (pi_ls T (pe_cl (cal_turning_lots T) hr (by decide) rfl (pa_cons (pv 0) (pa_cons (pv 1) pa_nil)))) (pg_name (i := 3) sc_causes_of.nd rfl (Or.inr rfl)) (pss_one (ps_if (pt_not (pt_val (pe_callB (cl_any (f := .builtin "any") T hr) rfl (T.free 103 rfl) (by decide +kernel) (pa_cons (pe_lc (own := [("less", 4)]) rfl sc_causes_of.nd (pi_ls T (pv 2)) (blkOk_by (own := [("less", 4)]) (N := ["machine", "log", "found", "lot", "less"]) (sc := defScope s_causes_of) (by decide +kernel)) (fun _ _ _ _ _ => (pg_name (i := 4) sc_causes_of.nd rfl (Or.inl rfl))) (fun _ _ _ _ _ => pts_nil) (fun _ _ _ _ _ => (pe_cl (cal_is_within T) hr (by decide) rfl (pa_cons (pv 4) (pa_cons (pv 3) pa_nil))))) pa_nil)))) (pss_one (ps_expr (pe_bk T PySem.F.plainAttrs_list PySem.F.slot_list_append PySem.F.type_list_append (mt_any T hr) (pv 2) (pa_cons (pv 3) pa_nil)))) pss_nil)))
  (pss_one (ps_ret (pv 2))))), ?_⟩)
  obtain ⟨a0, a1, rfl⟩ := len2 (sp_causes_of_len _ _ _ _ h)
  obtain ⟨M, rows, hM, hr', ok, n6, q⟩ := h
  walk_at "S"
  refine ⟨by decide, fun f hf => ?_⟩
  have s1 : Same H (upd H f (.lst [])) := same_new (same_refl _) hf
  have k1 : rL (rT rS) (upd H f (.lst [])) (.ref f) [] := mk_L hf trivial (by decide)
  generalize upd H f (.lst []) = H1 at s1 k1
  walk_at "S"
  refine ⟨M, rows, Mo.mo s1 hM, Mo.mo s1 hr', ok, n6, fun c H2 s2 hc k2 => ?_⟩
  have s02 := s1.trans s2
  refine ls_L k2 fun c' ec hc' => ?_
  cases ec
  obtain ⟨ys0, h20⟩ := rL_at k1
  have hfc : f ≠ c := ne_of_none h20 hc
  have f2 := s2 _ _ h20
  have tl : (turning M rows).length ≤ lim := rL_bnd k2
  have hcH : H c = none := s1.free hc
  refine for_L (r := rT rS) (l := turning M rows) (fun i σ H' => (∃ o3, σ = [some a0, some a1, some (.ref f), o3, none]) ∧ Same H H' ∧ rL (rT rS) H' (.ref c) (turning M rows) ∧ rL (rT rS) H' (.ref f) (((turning M rows).take i).foldl (fun acc lot => if (acc.map fun less => within less lot).any id then acc else acc ++ [lot]) [])) ⟨⟨_, rfl⟩, s02, k2, Mo.mo s2 k1⟩ (fun i σ H' _ ⟨_, _, h, _⟩ => h) ?_ ?_
  · rintro i x lot σ H3 hi rx ⟨⟨o3, rfl⟩, s3, kc, kf⟩
    have fe := fold_take (fun (acc : List (List Str)) lot => if (acc.map fun less => within less lot).any id then acc else acc ++ [lot]) [] hi
    rw [fe]
    have bl := leastL_len ((turning M rows).take i) []
    have il := (List.getElem?_eq_some_iff.mp hi).1
    rw [List.length_take] at bl
    simp only [List.length_nil] at bl
    generalize ((turning M rows).take i).foldl (fun acc lot => if (acc.map fun less => within less lot).any id then acc else acc ++ [lot]) [] = F at kf bl ⊢
    walk_at "S"
    refine ls_L kf fun f' ef hf' => ?_
    cases ef
    refine lc_L (r := rT rS) (r' := rB) (fun less => some (within less lot)) hf' (fun y less H4 hb s4 ry Yk N j1 j2 => ?_) fun D H4 s4 hD kD => ?_
    · walk_at "S"
      exact ⟨trivial, less, lot, ry, Mo.mo s4 rx, fun H5 s5 => j1 _ rfl _ _ s5 rfl⟩
    · rw [fm_some] at kD
      refine c_anyR kD ?_
      walk_at "S"
      cases hb : (F.map fun less => within less lot).any id
      · simp only [Bool.not_false, if_true, Bool.false_eq_true, if_false]
        refine ⟨ty_L (Mo.mo s4 kf), ?_⟩
        refine m_appR (Mo.mo s4 kf) (Mo.mo s4 rx) (by omega) fun o ko => ?_
        obtain ⟨xs6, e6⟩ := rL_at (Mo.mo s4 kf)
        exact ⟨⟨_, rfl⟩, same_put (s3.trans s4) hf, rL_put (Mo.mo s4 kc) e6 nofun (Ne.symm hfc), ko⟩
      · simp only [Bool.not_true, Bool.false_eq_true, if_false, if_true]
        exact ⟨⟨_, rfl⟩, s3.trans s4, Mo.mo s4 kc, Mo.mo s4 kf⟩
  · rintro σ H3 ⟨⟨o3, rfl⟩, s3, kc, kf⟩
    rw [List.take_length] at kf
    walk_at "S"
    exact q f H3 s3 hf kf
def sp_causes (K : PySem.W.Frag) : Sp := fun vs H Q _ => match vs with
  | [m, x] => ∃ M rows, rM K H m M ∧ rL rE H x rows ∧ okRows M.deeds rows ∧ (folk rows).length ≤ 6 ∧ PuF (rL (rT rS)) (causesF M rows) Q H
  | _ => False
theorem sc_causes : FnScope ["machine", "log"] ["machine", "log"] (defScope s_causes) := ⟨rfl, rfl, rfl, by decide +kernel, rfl, by decide +kernel, by decide +kernel⟩
theorem sp_causes_len : ∀ (vs : List V) (H : Hp) (Q : VK) (E : XK), (sp_causes K) vs H Q E → vs.length = 2
  | [_, _], _, _, _, _ => rfl
  | [], _, _, _, h => h.elim
  | [_], _, _, _, h => h.elim
  | _ :: _ :: _ :: _, _, _, _, h => h.elim
theorem cal_causes (T : Tx P w K mg) : Cl P w K mg base 6 "causes" (sp_causes K) [] := by
  refine cl_of (st := s_causes) (qual := "causes") (kws := []) (T.c.def_ 73 (d := d_causes) rfl) sc_causes sp_causes_len (T.glo 63 rfl) (fun _ _ _ _ _ _ us hl => match us, hl with | [_, _], _ => rfl) (fun cdv A outer s H vs Q E hr h => ⟨_, (pss_cons (ps_expr (pe_cl (cal_need_machine T) hr (by decide) rfl (pa_cons (pv 0) pa_nil)))
  (pss_cons (ps_expr (pe_cl (cal_need_log T) hr (by decide) rfl (pa_cons (pv 0) (pa_cons (pv 1) pa_nil))))
  (pss_one (ps_ret (pe_cl (cal_causes_of T) hr (by decide) rfl (pa_cons (pv 0) (pa_cons (pv 1) pa_nil))))))), ?_⟩)
  obtain ⟨a0, a1, rfl⟩ := len2 (sp_causes_len _ _ _ _ h)
  obtain ⟨M, rows, hM, hr', ok, n6, q⟩ := h
  walk_at "S"
  refine ⟨M, hM, ?_⟩
  walk_at "S"
  refine ⟨M, rows, hM, hr', ok, n6, fun H1 s1 => ?_⟩
  walk_at "S"
  exact ⟨M, rows, Mo.mo s1 hM, Mo.mo s1 hr', ok, n6, fun l H2 s2 hl k2 => q l H2 (s1.trans s2) (s1.free hl) k2⟩
end
end Nb

/-! part D11 -/
set_option Elab.async false
set_option linter.all false
set_option maxRecDepth 100000
set_option maxHeartbeats 4000000
namespace Nb
open PySem PySem.Spec PyProof.Rows L2
local macro_rules | `(tactic| walk_at "S") => `(tactic| (try simp only [tSeq, tNext, tRet, tIfS, tDrop, tAsg, gName, tFor_eq, tWhile_eq, tLc_eq, tLc2_eq, tDc_eq, sFld_eq, sDPut_eq, tPar, tPar3, tC, tVar, tCB, tOp, tTup, tLst, tChain, tDGet_eq, tDGet2, tAndV, tOrV, tNotV, tIf, tLstRg, tRg1, tDisp, tPairs, tUn, rU, tTest, tNot, tB, tAnd, tOr, tYes, tSl, tPart, tNoPart, tRevL, tM1, tDNewK, tDNewT, gCons_c, gNil_n, gSub, gTup_eq, iRng1_eq, iList_eq, iTup_eq, iSeq_eq, iStr, iKeys_eq, iVals_eq, iEnum_eq, cx_K, tCons, tNil, tBM, tCall, tMake, tProp_eq, tMeth_eq, tFld_eq, tStar_eq, iZipM_eq, tDisp1, L2.start, List.map_cons, List.map_nil, List.length_cons, List.length_nil, List.cons_append, List.nil_append, List.append_nil, List.getElem?_cons_zero, List.getElem?_cons_succ, List.set_cons_zero, List.set_cons_succ, Option.some.injEq, exists_eq_left', exists_eq_left, V.bl.injEq, V.int.injEq, V.str.injEq, V.ref.injEq, if_true, if_false, Nat.reduceAdd, Nat.reduceSub, List.replicate_succ, List.replicate_zero, Bool.not_true, Bool.not_false, Bool.false_eq_true, if_neg, not_false_eq_true, wipe]))
local macro_rules | `(tactic| walk_at "G") => `(tactic| (walk_at "S"; repeat ((first | with_reducible refine o_add ?_ | with_reducible refine o_sub ?_ | with_reducible refine o_mul ?_ | with_reducible refine o_lt ?_ | with_reducible refine o_le ?_ | with_reducible refine o_gt ?_ | with_reducible refine o_ge ?_ | with_reducible refine o_eqI ?_ | with_reducible refine o_neI ?_ | with_reducible refine o_eqS ?_ | with_reducible refine o_neS ?_ | with_reducible refine o_isN ?_ | with_reducible refine o_notN ?_ | with_reducible refine i_int ?_ | with_reducible refine i_intB ?_ | with_reducible refine i_str ?_); walk_at "S")))
section
variable {P : Program} {w : World} {K : PySem.W.Frag} {mg : Str → Option Value} {base : Heap}

abbrev Stt := List Entry × Int

def rStt (K : PySem.W.Frag) : RR Stt := fun H v s => ∃ a dx e, v = .ref a ∧ H a = some (.ins (He.ga K "State") dx [("s_entries", e), ("s_few", .int s.2)]) ∧ rT rE H e s.1
instance {K : PySem.W.Frag} : Mo (rStt K) := ⟨fun h ⟨a, dx, e, e0, e1, e2⟩ => ⟨a, dx, e, e0, h _ _ e1, Mo.mo h e2⟩⟩
abbrev rSteps (K : PySem.W.Frag) : RR (List (Deed × Stt)) := rT (rP rDe (rStt K))
structure Lv where
  M : Mach
  few0 : Int
  steps : List (Deed × Stt)
def curS (few0 : Int) (steps : List (Deed × Stt)) : Stt := match steps.getLast? with
  | some p => p.2
  | none => ([], few0)
def Lv.cur (L : Lv) : Stt := curS L.few0 L.steps
def LiveA (K : PySem.W.Frag) (H : Hp) (a : Addr) (L : Lv) (bg : V) : Prop := ∃ dx m st, H a = some (.ins (He.ga K "Live") dx [("own_machine", m), ("own_few", .int L.few0), ("steps", st), ("begun", bg)]) ∧ rM K H m L.M ∧ rSteps K H st L.steps
theorem LiveA.mo {K : PySem.W.Frag} {H H' : Hp} {a : Addr} {L : Lv} {bg : V} (s : Same H H') (h : LiveA K H a L bg) : LiveA K H' a L bg := by
  obtain ⟨dx, m, st, e, e1, e2⟩ := h
  exact ⟨dx, m, st, s _ _ e, Mo.mo s e1, Mo.mo s e2⟩
/-- an instance made -/
theorem made_same {H H' : Hp} {x dx : Addr} {o o' : HO} (h1 : H x = none) (h2 : H dx = none) (s : SameBut x (upd (upd H dx o) x o') H') : Same H H' := fun b u e => by
  have n1 : b ≠ x := ne_of_none e h1
  have n2 : b ≠ dx := ne_of_none e h2
  exact s b u n1 (by rw [upd_ne n1, upd_ne n2]; exact e)
theorem pre_same {H : Hp} {x dx : Addr} {o o' : HO} (h1 : H x = none) (h2 : H dx = none) : Same H (upd (upd H dx o) x o') := fun b u e => by
  rw [upd_ne (ne_of_none e h1), upd_ne (ne_of_none e h2)]; exact e
def sp_State_init (K : PySem.W.Frag) : Sp := fun vs H Q _ => match vs with
  | [x, y, z] => ∃ a dx rows few, x = .ref a ∧ H a = some (.ins (He.ga K "State") dx []) ∧ rT rE H y rows ∧ z = .int few ∧ ∀ H', SameBut a H H' → rStt K H' (.ref a) (rows, few) → Q .non H'
  | _ => False
theorem sc_State_init : FnScope ["self", "entries", "few"] ["self", "entries", "few"] (defScope s_State_init) := ⟨rfl, rfl, rfl, by decide +kernel, rfl, by decide +kernel, by decide +kernel⟩
theorem sp_State_init_len : ∀ (vs : List V) (H : Hp) (Q : VK) (E : XK), (sp_State_init K) vs H Q E → vs.length = 3
  | [_, _, _], _, _, _, _ => rfl
  | [], _, _, _, h => h.elim
  | [_], _, _, _, h => h.elim
  | [_, _], _, _, _, h => h.elim
  | _ :: _ :: _ :: _ :: _, _, _, _, h => h.elim
theorem ma_State (T : Tx P w K mg) : Ma P w K mg base 1 "State" (He.ga K "State") (sp_State_init K) := by
  refine ma_of (st := s_State_init) (qual := "State.__init__") (kws := []) (He.mkr_ok (T.c.fact 133 rfl)) (T.glo 56 rfl) (T.c.def_ 47 (d := d_State_init) rfl) sc_State_init sp_State_init_len (fun _ _ _ _ _ _ us hl => match us, hl with | [_, _, _], _ => rfl) (fun cdv A outer s H vs Q E hr h => ⟨_, (pss_cons (ps_fld (pv 0) (pv 1) rfl)
  (pss_one (ps_fld (pv 0) (pv 2) rfl))), ?_⟩)
  obtain ⟨a0, a1, a2, rfl⟩ := len3 (sp_State_init_len _ _ _ _ h)
  obtain ⟨a, dx, rows, few, rfl, e, he, rfl, q⟩ := h
  walk_at "S"
  refine pt_a (gs := [("s_entries", a1)]) e T.cl_State T.na_State_s_entries rfl ?_
  have b1 : SameBut a H (upd H a (.ins (He.ga K "State") dx [("s_entries", a1)])) := (same_but (same_refl _)).upd
  have k1 : rT rE _ a1 rows := Tt.tm (but_t b1 e) he
  have e1 : upd H a (.ins (He.ga K "State") dx [("s_entries", a1)]) a = some (.ins (He.ga K "State") dx [("s_entries", a1)]) := upd_same
  generalize upd H a (.ins (He.ga K "State") dx [("s_entries", a1)]) = H1 at b1 k1 e1
  walk_at "S"
  refine pt_a (gs := [("s_entries", a1), ("s_few", .int few)]) e1 T.cl_State T.na_State_s_few rfl ?_
  have b2 : SameBut a H1 (upd H1 a (.ins (He.ga K "State") dx [("s_entries", a1), ("s_few", .int few)])) := (same_but (same_refl _)).upd
  exact q _ (fun b o n z => b2 b o n (b1 b o n z)) ⟨a, dx, a1, rfl, upd_same, Tt.tm (but_t b2 e1) k1⟩
def sp_Begun_init (K : PySem.W.Frag) : Sp := fun vs H Q _ => match vs with
  | [x, y, z] => ∃ a dx, x = .ref a ∧ H a = some (.ins (He.ga K "Begun") dx []) ∧ ∀ H', SameBut a H H' → H' a = some (.ins (He.ga K "Begun") dx [("had_steps", y), ("around", z)]) → Q .non H'
  | _ => False
theorem sc_Begun_init : FnScope ["self", "had_steps", "around"] ["self", "had_steps", "around"] (defScope s_Begun_init) := ⟨rfl, rfl, rfl, by decide +kernel, rfl, by decide +kernel, by decide +kernel⟩
theorem sp_Begun_init_len : ∀ (vs : List V) (H : Hp) (Q : VK) (E : XK), (sp_Begun_init K) vs H Q E → vs.length = 3
  | [_, _, _], _, _, _, _ => rfl
  | [], _, _, _, h => h.elim
  | [_], _, _, _, h => h.elim
  | [_, _], _, _, _, h => h.elim
  | _ :: _ :: _ :: _ :: _, _, _, _, h => h.elim
theorem ma_Begun (T : Tx P w K mg) : Ma P w K mg base 1 "Begun" (He.ga K "Begun") (sp_Begun_init K) := by
  refine ma_of (st := s_Begun_init) (qual := "Begun.__init__") (kws := []) (He.mkr_ok (T.c.fact 135 rfl)) (T.glo 57 rfl) (T.c.def_ 48 (d := d_Begun_init) rfl) sc_Begun_init sp_Begun_init_len (fun _ _ _ _ _ _ us hl => match us, hl with | [_, _, _], _ => rfl) (fun cdv A outer s H vs Q E hr h => ⟨_, (pss_cons (ps_fld (pv 0) (pv 1) rfl)
  (pss_one (ps_fld (pv 0) (pv 2) rfl))), ?_⟩)
  obtain ⟨a0, a1, a2, rfl⟩ := len3 (sp_Begun_init_len _ _ _ _ h)
  obtain ⟨a, dx, rfl, e, q⟩ := h
  walk_at "S"
  refine pt_a (gs := [("had_steps", a1)]) e T.cl_Begun T.na_Begun_had_steps rfl ?_
  have b1 : SameBut a H (upd H a (.ins (He.ga K "Begun") dx [("had_steps", a1)])) := (same_but (same_refl _)).upd
  have e1 : upd H a (.ins (He.ga K "Begun") dx [("had_steps", a1)]) a = some (.ins (He.ga K "Begun") dx [("had_steps", a1)]) := upd_same
  generalize upd H a (.ins (He.ga K "Begun") dx [("had_steps", a1)]) = H1 at b1 e1
  walk_at "S"
  refine pt_a (gs := [("had_steps", a1), ("around", a2)]) e1 T.cl_Begun T.na_Begun_around rfl ?_
  have b2 : SameBut a H1 (upd H1 a (.ins (He.ga K "Begun") dx [("had_steps", a1), ("around", a2)])) := (same_but (same_refl _)).upd
  exact q _ (fun b o n z => b2 b o n (b1 b o n z)) upd_same
theorem om_os {x u : V} {fs fs' : List (Str × V)} : (("own_machine" : Str), x) :: fs ≠ (("own_seen" : Str), u) :: fs' := fun z => absurd (show ("own_machine" : Str) = "own_seen" from by injection z with z _; exact congrArg Prod.fst z) (by decide +kernel)
theorem om_se {x u : V} {fs fs' : List (Str × V)} : (("own_machine" : Str), x) :: fs ≠ (("s_entries" : Str), u) :: fs' := fun z => absurd (show ("own_machine" : Str) = "s_entries" from by injection z with z _; exact congrArg Prod.fst z) (by decide +kernel)
/-- what an instance x leaves alone -/
theorem but_M {K : PySem.W.Frag} {H H' : Hp} {x C dx : Addr} {fs : List (Str × V)} {v : V} {M : Mach} (h : SameBut x H H') (e : H x = some (.ins C dx fs)) (hf : ∀ u fs', fs ≠ (("own_seen" : Str), u) :: fs') (k : rM K H v M) : rM K H' v M := by
  obtain ⟨⟨a, dx', s, d, g, e0, e1, e2, e3, e4⟩, ok⟩ := k
  have n : a ≠ x := ne_of e1 e fun z => by injection z with _ _ z; exact hf _ _ z.symm
  exact ⟨⟨a, dx', s, d, g, e0, h _ _ n e1, Tt.tm (but_t h e) e2, but_D h e e3, Tt.tm (but_t h e) e4⟩, ok⟩
theorem but_S {K : PySem.W.Frag} {H H' : Hp} {x C dx : Addr} {fs : List (Str × V)} {v : V} {s : Stt} (h : SameBut x H H') (e : H x = some (.ins C dx fs)) (hf : ∀ u fs', fs ≠ (("s_entries" : Str), u) :: fs') (k : rStt K H v s) : rStt K H' v s := by
  obtain ⟨a, dx', en, e0, e1, e2⟩ := k
  have n : a ≠ x := ne_of e1 e fun z => by injection z with _ _ z; exact hf _ _ z.symm
  exact ⟨a, dx', en, e0, h _ _ n e1, Tt.tm (but_t h e) e2⟩
theorem but_Ss {K : PySem.W.Frag} {H H' : Hp} {x C dx : Addr} {fs : List (Str × V)} {v : V} {l : List (Deed × Stt)} (h : SameBut x H H') (e : H x = some (.ins C dx fs)) (hf : ∀ u fs', fs ≠ (("s_entries" : Str), u) :: fs') (k : rSteps K H v l) : rSteps K H' v l := by
  obtain ⟨a, xs, e0, e1, e2, e3⟩ := k
  have t := but_t h e
  exact ⟨a, xs, e0, t _ _ e1, e2.mono fun z b ⟨c, y1, y2, q0, q1, q2, q3⟩ => ⟨c, y1, y2, q0, t _ _ q1, Tt.tm t q2, but_S h e hf q3⟩, e3⟩
abbrev liveF (m : V) (few0 : Int) (st bg : V) : List (Str × V) := [("own_machine", m), ("own_few", .int few0), ("steps", st), ("begun", bg)]
theorem lf1 {m st bg : V} {n : Int} : ∀ u fs', liveF m n st bg ≠ (("own_seen" : Str), u) :: fs' := fun _ _ => om_os
theorem lf2 {m st bg : V} {n : Int} : ∀ u fs', liveF m n st bg ≠ (("s_entries" : Str), u) :: fs' := fun _ _ => om_se
def sp_Live_init (K : PySem.W.Frag) : Sp := fun vs H Q _ => match vs with
  | [x, y, z] => ∃ a dx M few, x = .ref a ∧ H a = some (.ins (He.ga K "Live") dx []) ∧ rM K H y M ∧ z = .int few ∧ 0 ≤ few ∧ few ≤ 3 ∧ ∀ H', SameBut a H H' → LiveA K H' a ⟨M, few, []⟩ .non → Q .non H'
  | _ => False
theorem sc_Live_init : FnScope ["self", "machine", "few"] ["self", "machine", "few"] (defScope s_Live_init) := ⟨rfl, rfl, rfl, by decide +kernel, rfl, by decide +kernel, by decide +kernel⟩
theorem sp_Live_init_len : ∀ (vs : List V) (H : Hp) (Q : VK) (E : XK), (sp_Live_init K) vs H Q E → vs.length = 3
  | [_, _, _], _, _, _, _ => rfl
  | [], _, _, _, h => h.elim
  | [_], _, _, _, h => h.elim
  | [_, _], _, _, _, h => h.elim
  | _ :: _ :: _ :: _ :: _, _, _, _, h => h.elim
theorem ma_Live (T : Tx P w K mg) : Ma P w K mg base 4 "Live" (He.ga K "Live") (sp_Live_init K) := by
  refine ma_of (st := s_Live_init) (qual := "Live.__init__") (kws := []) (He.mkr_ok (T.c.fact 137 rfl)) (T.glo 58 rfl) (T.c.def_ 49 (d := d_Live_init) rfl) sc_Live_init sp_Live_init_len (fun _ _ _ _ _ _ us hl => match us, hl with | [_, _, _], _ => rfl) (fun cdv A outer s H vs Q E hr h => ⟨_, (pss_cons (ps_expr (pe_cl (cal_need_machine T) hr (by decide) rfl (pa_cons (pv 1) pa_nil)))
  (pss_cons (ps_expr (pe_cl (cal_need_few T) hr (by decide) rfl (pa_cons (pv 2) pa_nil)))
  (pss_cons (ps_fld (pv 0) (pv 1) rfl)
  (pss_cons (ps_fld (pv 0) (pv 2) rfl)
  (pss_cons (ps_fld (pv 0) (pe_tup pa_nil) rfl)
  (pss_one (ps_fld (pv 0) pe_non rfl))))))), ?_⟩)
  obtain ⟨a0, a1, a2, rfl⟩ := len3 (sp_Live_init_len _ _ _ _ h)
  obtain ⟨a, dx, M, few, rfl, e, hM, rfl, f0, f3, q⟩ := h
  walk_at "S"
  refine ⟨M, hM, ?_⟩
  walk_at "S"
  refine ⟨few, rfl, f0, f3, ?_⟩
  walk_at "S"
  refine pt_a (gs := [("own_machine", a1)]) e T.cl_Live T.na_Live_own_machine rfl ?_
  have b1 : SameBut a H (upd H a (.ins (He.ga K "Live") dx [("own_machine", a1)])) := (same_but (same_refl _)).upd
  have k1 := but_M b1 e (fun u fs' z => by cases z) hM
  have e1 : upd H a (.ins (He.ga K "Live") dx [("own_machine", a1)]) a = some (.ins (He.ga K "Live") dx [("own_machine", a1)]) := upd_same
  generalize upd H a (.ins (He.ga K "Live") dx [("own_machine", a1)]) = H1 at b1 e1 k1
  walk_at "S"
  refine pt_a (gs := [("own_machine", a1), ("own_few", .int few)]) e1 T.cl_Live T.na_Live_own_few rfl ?_
  have b2 : SameBut a H1 (upd H1 a (.ins (He.ga K "Live") dx [("own_machine", a1), ("own_few", .int few)])) := (same_but (same_refl _)).upd
  have k2 := but_M b2 e1 (fun _ _ => om_os) k1
  have e2 : upd H1 a (.ins (He.ga K "Live") dx [("own_machine", a1), ("own_few", .int few)]) a = some (.ins (He.ga K "Live") dx [("own_machine", a1), ("own_few", .int few)]) := upd_same
  have c2 : SameBut a H (upd H1 a (.ins (He.ga K "Live") dx [("own_machine", a1), ("own_few", .int few)])) := fun b o n z => b2 b o n (b1 b o n z)
  generalize upd H1 a (.ins (He.ga K "Live") dx [("own_machine", a1), ("own_few", .int few)]) = H2 at c2 e2 k2
  walk_at "S"
  refine ⟨by decide, fun t ht => ?_⟩
  have s3 : Same H2 (upd H2 t (.tup [])) := same_new (same_refl _) ht
  have kt : rSteps K (upd H2 t (.tup [])) (.ref t) [] := ⟨t, [], rfl, upd_same, trivial, by decide⟩
  have k3 := Mo.mo s3 k2
  have e3 := s3 _ _ e2
  have c3 := c2.same s3
  generalize upd H2 t (.tup []) = H3 at kt k3 e3 c3
  refine pt_a (gs := [("own_machine", a1), ("own_few", .int few), ("steps", .ref t)]) e3 T.cl_Live T.na_Live_steps rfl ?_
  have b4 : SameBut a H3 (upd H3 a (.ins (He.ga K "Live") dx [("own_machine", a1), ("own_few", .int few), ("steps", .ref t)])) := (same_but (same_refl _)).upd
  have k4 := but_M b4 e3 (fun _ _ => om_os) k3
  have kt4 := but_Ss b4 e3 (fun _ _ => om_se) kt
  have e4 : upd H3 a (.ins (He.ga K "Live") dx [("own_machine", a1), ("own_few", .int few), ("steps", .ref t)]) a = some (.ins (He.ga K "Live") dx [("own_machine", a1), ("own_few", .int few), ("steps", .ref t)]) := upd_same
  have c4 : SameBut a H (upd H3 a (.ins (He.ga K "Live") dx [("own_machine", a1), ("own_few", .int few), ("steps", .ref t)])) := fun b o n z => b4 b o n (c3 b o n z)
  generalize upd H3 a (.ins (He.ga K "Live") dx [("own_machine", a1), ("own_few", .int few), ("steps", .ref t)]) = H4 at kt4 k4 e4 c4
  walk_at "S"
  refine pt_a (gs := liveF a1 few (.ref t) .non) e4 T.cl_Live T.na_Live_begun rfl ?_
  have b5 : SameBut a H4 (upd H4 a (.ins (He.ga K "Live") dx (liveF a1 few (.ref t) .non))) := (same_but (same_refl _)).upd
  exact q _ (fun b o n z => b5 b o n (c4 b o n z)) ⟨dx, a1, .ref t, upd_same, but_M b5 e4 (fun _ _ => om_os) k4, but_Ss b5 e4 (fun _ _ => om_se) kt4⟩
/-! the fields of a live log -/
section
variable {H : Hp} {a : Addr} {L : Lv} {bg : V} {Q : VK}
theorem fL_machine (T : Tx P w K mg) (h : LiveA K H a L bg) (q : ∀ y, rM K H y L.M → Q y H) : fldB K "own_machine" (.ref a) H Q := by
  obtain ⟨dx, m, st, e, e1, e2⟩ := h
  exact fl_a e T.cl_Live T.na_Live_own_machine rfl (q m e1)
theorem fL_few (T : Tx P w K mg) (h : LiveA K H a L bg) (q : Q (.int L.few0) H) : fldB K "own_few" (.ref a) H Q := by
  obtain ⟨dx, m, st, e, e1, e2⟩ := h
  exact fl_a e T.cl_Live T.na_Live_own_few rfl q
theorem fL_steps (T : Tx P w K mg) (h : LiveA K H a L bg) (q : ∀ y, rSteps K H y L.steps → Q y H) : fldB K "steps" (.ref a) H Q := by
  obtain ⟨dx, m, st, e, e1, e2⟩ := h
  exact fl_a e T.cl_Live T.na_Live_steps rfl (q st e2)
theorem fL_begun (T : Tx P w K mg) (h : LiveA K H a L bg) (q : Q bg H) : fldB K "begun" (.ref a) H Q := by
  obtain ⟨dx, m, st, e, e1, e2⟩ := h
  exact fl_a e T.cl_Live T.na_Live_begun rfl q
theorem fS_entries (T : Tx P w K mg) {v : V} {s : Stt} (h : rStt K H v s) (q : ∀ y, rT rE H y s.1 → Q y H) : fldB K "s_entries" v H Q := by
  obtain ⟨b, dx, e, rfl, e1, e2⟩ := h
  exact fl_a e1 T.cl_State T.na_State_s_entries rfl (q e e2)
theorem fS_few (T : Tx P w K mg) {v : V} {s : Stt} (h : rStt K H v s) (q : Q (.int s.2) H) : fldB K "s_few" v H Q := by
  obtain ⟨b, dx, e, rfl, e1, e2⟩ := h
  exact fl_a e1 T.cl_State T.na_State_s_few rfl q
theorem LiveA.me {m : Str} {q : Prop} (h : LiveA K H a L bg) (e : ∀ x y : V, ∀ n z, List.lookup m (liveF x n y z) = none) (k : q) : meB (He.ga K "Live") m (.ref a) H q := by
  obtain ⟨dx, mm, st, e0, _⟩ := h
  exact me_go e0 (e mm st L.few0 bg) k
theorem LiveA.pr {sp : Sp} (h : LiveA K H a L bg) (q : sp [.ref a] H Q E0) : prB (He.ga K "Live") sp [] E0 (.ref a) H Q := by
  obtain ⟨dx, mm, st, e0, _⟩ := h
  exact pr_go e0 q
end
theorem x_last {α : Type} {r : RR α} {l : List α} {H : Hp} {v : V} {Q : VK} {b : α} (h : rT r H v l) (e : l.getLast? = some b) (q : ∀ y, r H y b → Q y H) : rXx P w K mg v (.int (-1)) H Q := by
  obtain ⟨c, ys, rfl, e1, k, _⟩ := h
  have hl : l ≠ [] := by intro z; subst z; simp at e
  have hp : 0 < l.length := List.length_pos_iff.mpr hl
  have e2 : l[l.length - 1]? = some b := by rw [← List.getLast?_eq_getElem?]; exact e
  obtain ⟨y, h1, h2⟩ := k.to e2
  have hk := k.len
  refine x_T (.inl (.inl e1)) ?_ (q y h2)
  have e3 : ixN ys.length (-1) = some (l.length - 1) := by
    unfold ixN
    rw [if_neg (by decide), if_pos (by omega)]
    congr 1
    omega
  unfold atI
  rw [e3]
  exact h1
end
end Nb

/-! part D12 -/
set_option Elab.async false
set_option linter.all false
set_option maxRecDepth 100000
set_option maxHeartbeats 4000000
namespace Nb
open PySem PySem.Spec PyProof.Rows L2
local macro_rules | `(tactic| walk_at "S") => `(tactic| (try simp only [tSeq, tNext, tRet, tIfS, tDrop, tAsg, gName, tFor_eq, tWhile_eq, tLc_eq, tLc2_eq, tDc_eq, sFld_eq, sDPut_eq, tPar, tPar3, tC, tVar, tCB, tOp, tTup, tLst, tChain, tDGet_eq, tDGet2, tAndV, tOrV, tNotV, tIf, tLstRg, tRg1, tDisp, tPairs, tUn, rU, tTest, tNot, tB, tAnd, tOr, tYes, tSl, tPart, tNoPart, tRevL, tM1, tDNewK, tDNewT, gCons_c, gNil_n, gSub, gTup_eq, iRng1_eq, iList_eq, iTup_eq, iSeq_eq, iStr, iKeys_eq, iVals_eq, iEnum_eq, cx_K, tCons, tNil, tBM, tCall, tMake, tProp_eq, tMeth_eq, tFld_eq, tStar_eq, iZipM_eq, tDisp1, L2.start, List.map_cons, List.map_nil, List.length_cons, List.length_nil, List.cons_append, List.nil_append, List.append_nil, List.getElem?_cons_zero, List.getElem?_cons_succ, List.set_cons_zero, List.set_cons_succ, Option.some.injEq, exists_eq_left', exists_eq_left, V.bl.injEq, V.int.injEq, V.str.injEq, V.ref.injEq, if_true, if_false, Nat.reduceAdd, Nat.reduceSub, List.replicate_succ, List.replicate_zero, Bool.not_true, Bool.not_false, Bool.false_eq_true, if_neg, not_false_eq_true, wipe]))
local macro_rules | `(tactic| walk_at "G") => `(tactic| (walk_at "S"; repeat ((first | with_reducible refine o_add ?_ | with_reducible refine o_sub ?_ | with_reducible refine o_mul ?_ | with_reducible refine o_lt ?_ | with_reducible refine o_le ?_ | with_reducible refine o_gt ?_ | with_reducible refine o_ge ?_ | with_reducible refine o_eqI ?_ | with_reducible refine o_neI ?_ | with_reducible refine o_eqS ?_ | with_reducible refine o_neS ?_ | with_reducible refine o_isN ?_ | with_reducible refine o_notN ?_ | with_reducible refine i_int ?_ | with_reducible refine i_intB ?_ | with_reducible refine i_str ?_); walk_at "S")))
section
variable {P : Program} {w : World} {K : PySem.W.Frag} {mg : Str → Option Value} {base : Heap}
def sp_Live_machine (K : PySem.W.Frag) : Sp := fun vs H Q _ => match vs with
  | [x] => ∃ a L bg, x = .ref a ∧ LiveA K H a L bg ∧ ∀ v, rM K H v L.M → Q v H
  | _ => False
theorem sc_Live_machine : FnScope ["self"] ["self"] (defScope s_Live_machine) := ⟨rfl, rfl, rfl, by decide +kernel, rfl, by decide +kernel, by decide +kernel⟩
theorem sp_Live_machine_len : ∀ (vs : List V) (H : Hp) (Q : VK) (E : XK), (sp_Live_machine K) vs H Q E → vs.length = 1
  | [_], _, _, _, _ => rfl
  | [], _, _, _, h => h.elim
  | _ :: _ :: _, _, _, _, h => h.elim
theorem pr_Live_machine (T : Tx P w K mg) : Pr P w K mg base 1 (He.ga K "Live") "machine" (sp_Live_machine K) := by
  refine pr_of (st := s_Live_machine) (qual := "Live.machine") (kws := []) (He.cls_ok (T.c.fact 136 rfl)) (exB_prop T.ex (by decide)) (T.c.def_ 50 (d := d_Live_machine) rfl) sc_Live_machine sp_Live_machine_len (fun _ _ _ _ _ _ us hl => match us, hl with | [_], _ => rfl) (fun cdv A outer s H vs Q E hr h => ⟨_, (pss_one (ps_ret (pe_fd T (pv 0) rfl))), ?_⟩)
  obtain ⟨a0, rfl⟩ := len1 (sp_Live_machine_len _ _ _ _ h)
  obtain ⟨a, L, bg, rfl, hL, q⟩ := h
  walk_at "S"
  exact fL_machine T hL fun y k => q y k
def sp_Live_state (K : PySem.W.Frag) : Sp := fun vs H Q _ => match vs with
  | [x] => ∃ a L bg, x = .ref a ∧ LiveA K H a L bg ∧ PuR (rStt K) L.cur Q H
  | _ => False
theorem sc_Live_state : FnScope ["self"] ["self"] (defScope s_Live_state) := ⟨rfl, rfl, rfl, by decide +kernel, rfl, by decide +kernel, by decide +kernel⟩
theorem sp_Live_state_len : ∀ (vs : List V) (H : Hp) (Q : VK) (E : XK), (sp_Live_state K) vs H Q E → vs.length = 1
  | [_], _, _, _, _ => rfl
  | [], _, _, _, h => h.elim
  | _ :: _ :: _, _, _, _, h => h.elim
theorem me_Live_state (T : Tx P w K mg) : Me P w K mg base 3 (He.ga K "Live") "state" (sp_Live_state K) := by
  refine me_of (st := s_Live_state) (qual := "Live.state") (kws := []) (He.cls_ok (T.c.fact 136 rfl)) (He.meth_ok (T.c.fact 150 rfl)) (T.c.def_ 56 (d := d_Live_state) rfl) sc_Live_state sp_Live_state_len (fun _ _ _ _ _ _ us hl => match us, hl with | [_], _ => rfl) (fun cdv A outer s H vs Q E hr h => ⟨_, (pss_one (ps_ret (pe_ifExp (pt_cmpR (op_any T hr) (pe_callB (cl_any (f := .builtin "len") T hr) rfl (T.free 109 rfl) (by decide +kernel) (pa_cons (pe_fd T (pv 0) rfl) pa_nil)) pe_int (nomark _)) (pe_ix (ix_any T hr) (pe_ix (ix_any T hr) (pe_fd T (pv 0) rfl) (pe_un un_neg pe_int) (fun _ _ => rfl)) pe_int (fun _ _ => rfl)) (pe_ma (ma_State T) hr (by decide) rfl (pa_cons (pe_tup pa_nil) (pa_cons (pe_fd T (pv 0) rfl) pa_nil)))))), ?_⟩)
  obtain ⟨a0, rfl⟩ := len1 (sp_Live_state_len _ _ _ _ h)
  obtain ⟨a, L, bg, rfl, hL, q⟩ := h
  walk_at "S"
  refine fL_steps T hL fun y ky => ?_
  refine c_lenRT ky ?_
  walk_at "G"
  cases e : L.steps.getLast? with
  | none =>
    have e0 : L.steps = [] := by simpa using e
    rw [e0, decide_eq_false (by simp)]
    walk_at "S"
    refine ⟨by decide, fun t ht => ?_⟩
    have s1 : Same H (upd H t (.tup [])) := same_new (same_refl _) ht
    have kt : rT rE (upd H t (.tup [])) (.ref t) [] := ⟨t, [], rfl, upd_same, trivial, by decide⟩
    have hL1 := hL.mo s1
    generalize upd H t (.tup []) = H1 at s1 kt hL1
    refine fL_few T hL1 ?_
    walk_at "S"
    intro x dx hx hdx hne
    have ps := pre_same (o := .own x) (o' := .ins (He.ga K "State") dx []) hx hdx
    refine ⟨x, dx, [], L.few0, rfl, upd_same, Tt.tm (same_t ps) kt, rfl, fun H2 b2 k2 => ⟨rfl, ?_⟩⟩
    have s2 := made_same hx hdx b2
    refine q _ H2 (s1.trans s2) ?_
    show rStt K H2 _ (curS L.few0 L.steps)
    unfold curS
    rw [e]
    exact k2
  | some p =>
    have hp : 0 < L.steps.length := List.length_pos_iff.mpr (by intro z; rw [z] at e; simp at e)
    rw [decide_eq_true (show (0 : Int) < L.steps.length by omega)]
    walk_at "S"
    refine fL_steps T hL fun y ky => ?_
    refine x_last ky e fun z kz => ?_
    refine x_P1 kz fun u ku => ?_
    refine q _ H (same_refl _) ?_
    show rStt K H _ (curS L.few0 L.steps)
    unfold curS
    rw [e]
    exact ku
def sp_Live_few (K : PySem.W.Frag) : Sp := fun vs H Q _ => match vs with
  | [x] => ∃ a L bg, x = .ref a ∧ LiveA K H a L bg ∧ PuV (.int L.cur.2) Q H
  | _ => False
theorem nolook {m : Str} (h : (m == ("own_machine" : Str)) = false ∧ (m == ("own_few" : Str)) = false ∧ (m == ("steps" : Str)) = false ∧ (m == ("begun" : Str)) = false) : ∀ x y : V, ∀ n z, List.lookup m (liveF x n y z) = none := by
  intro x y n z
  simp only [liveF, List.lookup_cons, h.1, h.2.1, h.2.2.1, h.2.2.2, List.lookup_nil]
theorem sc_Live_few : FnScope ["self"] ["self"] (defScope s_Live_few) := ⟨rfl, rfl, rfl, by decide +kernel, rfl, by decide +kernel, by decide +kernel⟩
theorem sp_Live_few_len : ∀ (vs : List V) (H : Hp) (Q : VK) (E : XK), (sp_Live_few K) vs H Q E → vs.length = 1
  | [_], _, _, _, _ => rfl
  | [], _, _, _, h => h.elim
  | _ :: _ :: _, _, _, _, h => h.elim
theorem pr_Live_few (T : Tx P w K mg) : Pr P w K mg base 4 (He.ga K "Live") "few" (sp_Live_few K) := by
  refine pr_of (st := s_Live_few) (qual := "Live.few") (kws := []) (He.cls_ok (T.c.fact 136 rfl)) (exB_prop T.ex (by decide)) (T.c.def_ 51 (d := d_Live_few) rfl) sc_Live_few sp_Live_few_len (fun _ _ _ _ _ _ us hl => match us, hl with | [_], _ => rfl) (fun cdv A outer s H vs Q E hr h => ⟨_, (pss_one (ps_ret (pe_fd T (pe_me0 (me_Live_state T) hr (by decide) (pv 0)) rfl))), ?_⟩)
  obtain ⟨a0, rfl⟩ := len1 (sp_Live_few_len _ _ _ _ h)
  obtain ⟨a, L, bg, rfl, hL, q⟩ := h
  walk_at "S"
  refine hL.me (nolook (by decide +kernel)) ?_
  refine ⟨a, L, bg, rfl, hL, fun v H1 s1 k1 => ?_⟩
  exact fS_few T k1 (q _ s1)
def sp_Live_log (K : PySem.W.Frag) : Sp := fun vs H Q _ => match vs with
  | [x] => ∃ a L bg, x = .ref a ∧ LiveA K H a L bg ∧ PuF (rL rE) L.cur.1 Q H
  | _ => False
theorem sc_Live_log : FnScope ["self"] ["self"] (defScope s_Live_log) := ⟨rfl, rfl, rfl, by decide +kernel, rfl, by decide +kernel, by decide +kernel⟩
theorem sp_Live_log_len : ∀ (vs : List V) (H : Hp) (Q : VK) (E : XK), (sp_Live_log K) vs H Q E → vs.length = 1
  | [_], _, _, _, _ => rfl
  | [], _, _, _, h => h.elim
  | _ :: _ :: _, _, _, _, h => h.elim
theorem pr_Live_log (T : Tx P w K mg) : Pr P w K mg base 4 (He.ga K "Live") "log" (sp_Live_log K) := by
  refine pr_of (st := s_Live_log) (qual := "Live.log") (kws := []) (He.cls_ok (T.c.fact 136 rfl)) (exB_prop T.ex (by decide)) (T.c.def_ 52 (d := d_Live_log) rfl) sc_Live_log sp_Live_log_len (fun _ _ _ _ _ _ us hl => match us, hl with | [_], _ => rfl) (fun cdv A outer s H vs Q E hr h => ⟨_, (pss_one (ps_ret (pe_callTy (cl_any (f := .type "list") T hr) rfl (T.free 110 rfl) (by decide +kernel) (pa_cons (pe_fd T (pe_me0 (me_Live_state T) hr (by decide) (pv 0)) rfl) pa_nil)))), ?_⟩)
  obtain ⟨a0, rfl⟩ := len1 (sp_Live_log_len _ _ _ _ h)
  obtain ⟨a, L, bg, rfl, hL, q⟩ := h
  walk_at "S"
  refine hL.me (nolook (by decide +kernel)) ?_
  refine ⟨a, L, bg, rfl, hL, fun v H1 s1 k1 => ?_⟩
  refine fS_entries T k1 fun y ky => ?_
  exact c_listRT ky fun p H2 s2 hp k2 => q p H2 (s1.trans s2) (s1.free hp) k2
def sp_Live_people (K : PySem.W.Frag) : Sp := fun vs H Q _ => match vs with
  | [x] => ∃ a L bg, x = .ref a ∧ LiveA K H a L bg ∧ (folk L.cur.1).length < 64 ∧ ∀ p H', Same H H' → rT rS H' (.ref p) (folk L.cur.1) → Q (.ref p) H'
  | _ => False
theorem sc_Live_people : FnScope ["self"] ["self"] (defScope s_Live_people) := ⟨rfl, rfl, rfl, by decide +kernel, rfl, by decide +kernel, by decide +kernel⟩
theorem sp_Live_people_len : ∀ (vs : List V) (H : Hp) (Q : VK) (E : XK), (sp_Live_people K) vs H Q E → vs.length = 1
  | [_], _, _, _, _ => rfl
  | [], _, _, _, h => h.elim
  | _ :: _ :: _, _, _, _, h => h.elim
theorem pr_Live_people (T : Tx P w K mg) : Pr P w K mg base 6 (He.ga K "Live") "people" (sp_Live_people K) := by
  refine pr_of (st := s_Live_people) (qual := "Live.people") (kws := []) (He.cls_ok (T.c.fact 136 rfl)) (exB_prop T.ex (by decide)) (T.c.def_ 53 (d := d_Live_people) rfl) sc_Live_people sp_Live_people_len (fun _ _ _ _ _ _ us hl => match us, hl with | [_], _ => rfl) (fun cdv A outer s H vs Q E hr h => ⟨_, (pss_one (ps_ret (pe_cl (cal_people_in T) hr (by decide) rfl (pa_cons (pe_pr (pr_Live_log T) hr (by decide) (pv 0) rfl) pa_nil)))), ?_⟩)
  obtain ⟨a0, rfl⟩ := len1 (sp_Live_people_len _ _ _ _ h)
  obtain ⟨a, L, bg, rfl, hL, n6, q⟩ := h
  walk_at "S"
  refine hL.pr ⟨a, L, bg, rfl, hL, fun l H1 s1 hl k1 => ?_⟩
  exact ⟨L.cur.1, k1, n6, fun p H2 s2 k2 => q p H2 (s1.trans s2) k2⟩
def sp_Live_seen (K : PySem.W.Frag) : Sp := fun vs H Q _ => match vs with
  | [x] => ∃ a L bg, x = .ref a ∧ LiveA K H a L bg ∧ okRows L.M.deeds L.cur.1 ∧ PuV (.int (gi L.M.seen (behind L.M.deeds L.cur.1 []))) Q H
  | _ => False
theorem sc_Live_seen : FnScope ["self"] ["self"] (defScope s_Live_seen) := ⟨rfl, rfl, rfl, by decide +kernel, rfl, by decide +kernel, by decide +kernel⟩
theorem sp_Live_seen_len : ∀ (vs : List V) (H : Hp) (Q : VK) (E : XK), (sp_Live_seen K) vs H Q E → vs.length = 1
  | [_], _, _, _, _ => rfl
  | [], _, _, _, h => h.elim
  | _ :: _ :: _, _, _, _, h => h.elim
theorem pr_Live_seen (T : Tx P w K mg) : Pr P w K mg base 6 (He.ga K "Live") "seen" (sp_Live_seen K) := by
  refine pr_of (st := s_Live_seen) (qual := "Live.seen") (kws := []) (He.cls_ok (T.c.fact 136 rfl)) (exB_prop T.ex (by decide)) (T.c.def_ 54 (d := d_Live_seen) rfl) sc_Live_seen sp_Live_seen_len (fun _ _ _ _ _ _ us hl => match us, hl with | [_], _ => rfl) (fun cdv A outer s H vs Q E hr h => ⟨_, (pss_one (ps_ret (pe_ix (ix_any T hr) (pe_fd T (pe_fd T (pv 0) rfl) rfl) (pe_cl (cal_state_behind T) hr (by decide) rfl (pa_cons (pe_fd T (pv 0) rfl) (pa_cons (pe_pr (pr_Live_log T) hr (by decide) (pv 0) rfl) (pa_cons (pe_tup pa_nil) pa_nil)))) (fun _ _ => rfl)))), ?_⟩)
  obtain ⟨a0, rfl⟩ := len1 (sp_Live_seen_len _ _ _ _ h)
  obtain ⟨a, L, bg, rfl, hL, ok, q⟩ := h
  walk_at "S"
  refine fL_machine T hL fun m km => ?_
  have lo := km.2.lo
  refine fM_seen T km fun y ky => ?_
  refine fL_machine T hL fun m2 km2 => ?_
  refine hL.pr ⟨a, L, bg, rfl, hL, fun l H1 s1 hl k1 => ?_⟩
  walk_at "S"
  refine ⟨by decide, fun t ht => ?_⟩
  have s2 : Same H (upd H1 t (.tup [])) := same_new s1 ht
  have kt : rT rS (upd H1 t (.tup [])) (.ref t) [] := ⟨t, [], rfl, upd_same, trivial, by decide⟩
  have k2 := Mo.mo (same_new (o := .tup []) (same_refl H1) ht) k1
  generalize upd H1 t (.tup []) = H2 at s2 kt k2
  refine ⟨L.M, L.cur.1, [], Mo.mo s2 km2, k2, ok, .inr kt, fun H3 s3 => ?_⟩
  exact seen_at T (Mo.mo (s2.trans s3) ky) (behind_ok (by omega) km.2.ok ok) rfl (q _ (s2.trans s3))
def sp_Live_history (K : PySem.W.Frag) : Sp := fun vs H Q _ => match vs with
  | [x] => ∃ a L bg, x = .ref a ∧ LiveA K H a L bg ∧ PuF (rL rDe) (L.steps.map Prod.fst) Q H
  | _ => False
theorem sc_Live_history : FnScope ["self", "deed", "state"] ["self"] (defScope s_Live_history) := ⟨rfl, rfl, rfl, by decide +kernel, rfl, by decide +kernel, by decide +kernel⟩
theorem sp_Live_history_len : ∀ (vs : List V) (H : Hp) (Q : VK) (E : XK), (sp_Live_history K) vs H Q E → vs.length = 1
  | [_], _, _, _, _ => rfl
  | [], _, _, _, h => h.elim
  | _ :: _ :: _, _, _, _, h => h.elim
theorem pr_Live_history (T : Tx P w K mg) : Pr P w K mg base 1 (He.ga K "Live") "history" (sp_Live_history K) := by
  refine pr_of (st := s_Live_history) (qual := "Live.history") (kws := []) (He.cls_ok (T.c.fact 136 rfl)) (exB_prop T.ex (by decide)) (T.c.def_ 55 (d := d_Live_history) rfl) sc_Live_history sp_Live_history_len (fun _ _ _ _ _ _ us hl => match us, hl with | [_], _ => rfl) (fun cdv A outer s H vs Q E hr h => ⟨_, (pss_one (ps_ret (pe_lc (own := [("deed", 1), ("state", 2)]) rfl sc_Live_history.nd (pi_tp T (pe_fd T (pv 0) rfl)) (blkOk_by (own := [("deed", 1), ("state", 2)]) (N := ["self", "deed", "state"]) (sc := defScope s_Live_history) (by decide +kernel)) (fun _ _ _ _ _ => (pg_tk (n := 2) T rfl (pgs_cons (pg_name (i := 1) sc_Live_history.nd rfl (Or.inl rfl)) (pgs_cons (pg_name (i := 2) sc_Live_history.nd rfl (Or.inl rfl)) pgs_nil)))) (fun _ _ _ _ _ => pts_nil) (fun _ _ _ _ _ => (pv 1))))), ?_⟩)
  obtain ⟨a0, rfl⟩ := len1 (sp_Live_history_len _ _ _ _ h)
  obtain ⟨a, L, bg, rfl, hL, q⟩ := h
  walk_at "S"
  refine fL_steps T hL fun y ky => ?_
  refine tp_T ky fun c ec hc => ?_
  refine lc_T (r := rP rDe (rStt K)) (r' := rDe) (fun p => some p.1) hc (fun x b H1 hb s1 rx Yk N k1 k2 => ?_) fun D H1 s1 hD kD => ?_
  · walk_at "S"
    refine tup_P rx fun y z ry rz => ?_
    walk_at "S"
    exact ⟨trivial, k1 _ rfl _ _ (same_refl _) ry⟩
  · rw [fm_some] at kD
    exact q D H1 s1 hD kD
theorem LiveA.bnd {H : Hp} {a : Addr} {L : Lv} {bg : V} (h : LiveA K H a L bg) : L.steps.length ≤ lim := by
  obtain ⟨dx, m, st, e, e1, e2⟩ := h
  exact rT_bnd e2
/-- new steps for a live log -/
theorem set_steps (T : Tx P w K mg) {H : Hp} {a : Addr} {L : Lv} {bg v : V} {ss : List (Deed × Stt)} {q : Hp → Prop} (h : LiveA K H a L bg) (hv : rSteps K H v ss) (k : ∀ H', SameBut a H H' → LiveA K H' a ⟨L.M, L.few0, ss⟩ bg → q H') : putB K "steps" (.ref a) v H q := by
  obtain ⟨dx, m, st, e, e1, e2⟩ := h
  refine pt_a (gs := liveF m L.few0 v bg) e T.cl_Live T.na_Live_steps rfl ?_
  have b : SameBut a H (upd H a (.ins (He.ga K "Live") dx (liveF m L.few0 v bg))) := (same_but (same_refl _)).upd
  exact k _ b ⟨dx, m, v, upd_same, but_M b e lf1 e1, but_Ss b e lf2 hv⟩
theorem set_begun (T : Tx P w K mg) {H : Hp} {a : Addr} {L : Lv} {bg v : V} {q : Hp → Prop} (h : LiveA K H a L bg) (k : ∀ H', SameBut a H H' → LiveA K H' a L v → q H') : putB K "begun" (.ref a) v H q := by
  obtain ⟨dx, m, st, e, e1, e2⟩ := h
  refine pt_a (gs := liveF m L.few0 st v) e T.cl_Live T.na_Live_begun rfl ?_
  have b : SameBut a H (upd H a (.ins (He.ga K "Live") dx (liveF m L.few0 st v))) := (same_but (same_refl _)).upd
  exact k _ b ⟨dx, m, st, upd_same, but_M b e lf1 e1, but_Ss b e lf2 e2⟩
def sp_Live_stand (K : PySem.W.Frag) : Sp := fun vs H Q _ => match vs with
  | [x, d, e, n] => ∃ a L bg deed rows few, x = .ref a ∧ LiveA K H a L bg ∧ rDe H d deed ∧ rL rE H e rows ∧ n = .int few ∧ L.steps.length < 1000 ∧
      ∀ H', SameBut a H H' → LiveA K H' a ⟨L.M, L.few0, L.steps ++ [(deed, (rows, few))]⟩ bg → Q .non H'
  | _ => False
theorem sc_Live_stand : FnScope ["self", "deed", "entries", "few"] ["self", "deed", "entries", "few"] (defScope s_Live_stand) := ⟨rfl, rfl, rfl, by decide +kernel, rfl, by decide +kernel, by decide +kernel⟩
theorem sp_Live_stand_len : ∀ (vs : List V) (H : Hp) (Q : VK) (E : XK), (sp_Live_stand K) vs H Q E → vs.length = 4
  | [_, _, _, _], _, _, _, _ => rfl
  | [], _, _, _, h => h.elim
  | [_], _, _, _, h => h.elim
  | [_, _], _, _, _, h => h.elim
  | [_, _, _], _, _, _, h => h.elim
  | _ :: _ :: _ :: _ :: _ :: _, _, _, _, h => h.elim
theorem me_Live_stand (T : Tx P w K mg) : Me P w K mg base 3 (He.ga K "Live") "stand" (sp_Live_stand K) := by
  refine me_of (st := s_Live_stand) (qual := "Live.stand") (kws := []) (He.cls_ok (T.c.fact 136 rfl)) (He.meth_ok (T.c.fact 151 rfl)) (T.c.def_ 57 (d := d_Live_stand) rfl) sc_Live_stand sp_Live_stand_len (fun _ _ _ _ _ _ us hl => match us, hl with | [_, _, _, _], _ => rfl) (fun cdv A outer s H vs Q E hr h => ⟨_, (pss_one (ps_fld (pv 0) (pe_tup (pa_st T (pe_fd T (pv 0) rfl) (pa_cons (pe_tup (pa_cons (pv 1) (pa_cons (pe_ma (ma_State T) hr (by decide) rfl (pa_cons (pe_callTy (cl_any (f := .type "tuple") T hr) rfl (T.free 119 rfl) (by decide +kernel) (pa_cons (pv 2) pa_nil)) (pa_cons (pv 3) pa_nil))) pa_nil))) pa_nil))) rfl)), ?_⟩)
  obtain ⟨a0, a1, a2, a3, rfl⟩ := len4 (sp_Live_stand_len _ _ _ _ h)
  obtain ⟨a, L, bg, deed, rows, few, rfl, hL, hd, he, rfl, n9, q⟩ := h
  walk_at "S"
  refine fL_steps T hL fun y ky => ?_
  refine star_T ky fun xs kx => ?_
  walk_at "S"
  refine c_tupRL he fun t H1 s1 ht k1 => ?_
  walk_at "S"
  intro x dx hx hdx hne
  have ps := pre_same (o := .own x) (o' := .ins (He.ga K "State") dx []) hx hdx
  refine ⟨x, dx, rows, few, rfl, upd_same, Tt.tm (same_t ps) k1, rfl, fun H2 b2 k2 => ⟨rfl, ?_⟩⟩
  have s2 := made_same hx hdx b2
  have s12 := s1.trans s2
  refine ⟨by decide, fun t3 ht3 => ?_⟩
  have s3 : Same H2 (upd H2 t3 (.tup [a1, .ref x])) := same_new (same_refl _) ht3
  have k3 : rP rDe (rStt K) (upd H2 t3 (.tup [a1, .ref x])) (.ref t3) (deed, (rows, few)) := ⟨t3, a1, .ref x, rfl, upd_same, Mo.mo (s12.trans s3) hd, Mo.mo s3 k2⟩
  generalize upd H2 t3 (.tup [a1, .ref x]) = H3 at s3 k3
  have s13 := s12.trans s3
  have k4 : A2 (rP rDe (rStt K) H3) (xs ++ [.ref t3]) (L.steps ++ [(deed, (rows, few))]) := (kx.mono fun _ _ z => Mo.mo s13 z).app (.one k3)
  have hb : (L.steps ++ [(deed, (rows, few))]).length ≤ lim := by
    have h0 : 1001 ≤ lim := by decide
    rw [List.length_append]; simp; omega
  refine ⟨k4.bnd hb, fun t4 ht4 => ?_⟩
  have s4 : Same H3 (upd H3 t4 (.tup (xs ++ [.ref t3]))) := same_new (same_refl _) ht4
  have k5 : rSteps K (upd H3 t4 (.tup (xs ++ [.ref t3]))) (.ref t4) (L.steps ++ [(deed, (rows, few))]) := ⟨t4, _, rfl, upd_same, k4.mono fun _ _ z => Mo.mo s4 z, hb⟩
  generalize upd H3 t4 (.tup (xs ++ [.ref t3])) = H4 at s4 k5
  exact set_steps T (hL.mo (s13.trans s4)) k5 fun H5 b5 k6 => q _ (fun b o n z => b5 b o n ((s13.trans s4) _ _ z)) k6
def sp_Live_need_person (K : PySem.W.Frag) : Sp := fun vs H Q _ => match vs with
  | [x, y] => ∃ a L bg s, x = .ref a ∧ LiveA K H a L bg ∧ y = .str s ∧ s ∈ folk L.cur.1 ∧ (folk L.cur.1).length < 64 ∧ PuV .non Q H
  | _ => False
theorem sc_Live_need_person : FnScope ["self", "person"] ["self", "person"] (defScope s_Live_need_person) := ⟨rfl, rfl, rfl, by decide +kernel, rfl, by decide +kernel, by decide +kernel⟩
theorem sp_Live_need_person_len : ∀ (vs : List V) (H : Hp) (Q : VK) (E : XK), (sp_Live_need_person K) vs H Q E → vs.length = 2
  | [_, _], _, _, _, _ => rfl
  | [], _, _, _, h => h.elim
  | [_], _, _, _, h => h.elim
  | _ :: _ :: _ :: _, _, _, _, h => h.elim
theorem me_Live_need_person (T : Tx P w K mg) : Me P w K mg base 8 (He.ga K "Live") "need_person" (sp_Live_need_person K) := by
  refine me_of (st := s_Live_need_person) (qual := "Live.need_person") (kws := []) (He.cls_ok (T.c.fact 136 rfl)) (He.meth_ok (T.c.fact 152 rfl)) (T.c.def_ 58 (d := d_Live_need_person) rfl) sc_Live_need_person sp_Live_need_person_len (fun _ _ _ _ _ _ us hl => match us, hl with | [_, _], _ => rfl) (fun cdv A outer s H vs Q E hr h => ⟨_, (pss_one (ps_if (PW.pt (pw_or (pt_not (pt_val (pe_callB (cl_any (f := .builtin "isinstance") T hr) rfl (T.free 108 rfl) (by decide +kernel) (pa_cons (pv 1) (pa_cons (pe_bltn (v := .ty "str") (u := .type "str") rfl (T.free 117 rfl) (by decide +kernel) rfl) pa_nil))))) (pw_or1 (pt_cmpR (op_any T hr) (pv 1) (pe_pr (pr_Live_people T) hr (by decide) (pv 0) rfl) (by rfl))))) pss_never pss_nil)), ?_⟩)
  obtain ⟨a0, a1, rfl⟩ := len2 (sp_Live_need_person_len _ _ _ _ h)
  obtain ⟨a, L, bg, z, rfl, hL, rfl, hm, n6, q⟩ := h
  walk_at "G"
  refine hL.pr ⟨a, L, bg, rfl, hL, n6, fun p H1 s1 k1 => ?_⟩
  refine o_notinT (o := some z) k1 ?_
  walk_at "S"
  rw [decide_eq_true (show some z ∈ (folk L.cur.1).map some from List.mem_map.mpr ⟨z, hm, rfl⟩)]
  walk_at "S"
  exact q _ s1
end
end Nb

/-! part D13 -/
set_option Elab.async false
set_option linter.all false
set_option maxRecDepth 100000
set_option maxHeartbeats 4000000
namespace Nb
open PySem PySem.Spec PyProof.Rows L2
local macro_rules | `(tactic| walk_at "S") => `(tactic| (try simp only [tSeq, tNext, tRet, tIfS, tDrop, tAsg, gName, tFor_eq, tWhile_eq, tLc_eq, tLc2_eq, tDc_eq, sFld_eq, sDPut_eq, tPar, tPar3, tC, tVar, tCB, tOp, tTup, tLst, tChain, tDGet_eq, tDGet2, tAndV, tOrV, tNotV, tIf, tLstRg, tRg1, tDisp, tPairs, tUn, rU, tTest, tNot, tB, tAnd, tOr, tYes, tSl, tPart, tNoPart, tRevL, tM1, tDNewK, tDNewT, gCons_c, gNil_n, gSub, gTup_eq, iRng1_eq, iList_eq, iTup_eq, iSeq_eq, iStr, iKeys_eq, iVals_eq, iEnum_eq, cx_K, tCons, tNil, tBM, tCall, tMake, tProp_eq, tMeth_eq, tFld_eq, tStar_eq, iZipM_eq, tDisp1, L2.start, List.map_cons, List.map_nil, List.length_cons, List.length_nil, List.cons_append, List.nil_append, List.append_nil, List.getElem?_cons_zero, List.getElem?_cons_succ, List.set_cons_zero, List.set_cons_succ, Option.some.injEq, exists_eq_left', exists_eq_left, V.bl.injEq, V.int.injEq, V.str.injEq, V.ref.injEq, if_true, if_false, Nat.reduceAdd, Nat.reduceSub, List.replicate_succ, List.replicate_zero, Bool.not_true, Bool.not_false, Bool.false_eq_true, if_neg, not_false_eq_true, wipe]))
local macro_rules | `(tactic| walk_at "G") => `(tactic| (walk_at "S"; repeat ((first | with_reducible refine o_add ?_ | with_reducible refine o_sub ?_ | with_reducible refine o_mul ?_ | with_reducible refine o_lt ?_ | with_reducible refine o_le ?_ | with_reducible refine o_gt ?_ | with_reducible refine o_ge ?_ | with_reducible refine o_eqI ?_ | with_reducible refine o_neI ?_ | with_reducible refine o_eqS ?_ | with_reducible refine o_neS ?_ | with_reducible refine o_isN ?_ | with_reducible refine o_notN ?_ | with_reducible refine i_int ?_ | with_reducible refine i_intB ?_ | with_reducible refine i_str ?_); walk_at "S")))
section
variable {P : Program} {w : World} {K : PySem.W.Frag} {mg : Str → Option Value} {base : Heap}
theorem folk_len (rows : List Entry) : (folk rows).length ≤ rows.length := by
  unfold folk
  rw [srt_len]
  have h1 : (dd (whos rows)).length ≤ (whos rows).length := nd_len (dd_nd _) fun a ha => dd_mem.mp ha
  have h2 := List.length_filterMap_le Prod.fst rows
  unfold whos at h1 h2 ⊢
  omega
def stepL (L : Lv) (d : Deed) (s : Stt) : Lv := ⟨L.M, L.few0, L.steps ++ [(d, s)]⟩
def sp_Live_add (K : PySem.W.Frag) : Sp := fun vs H Q _ => match vs with
  | [x, y, z] => ∃ a L bg o s, x = .ref a ∧ LiveA K H a L bg ∧ rO H y o ∧ rS H z s ∧ s ∈ L.M.deeds.map Prod.fst ∧ okRows L.M.deeds L.cur.1 ∧ (folk (L.cur.1 ++ [(o, s)])).length ≤ 6 ∧ L.cur.1.length < 1000 ∧ L.steps.length < 1000 ∧
      ∀ H', SameBut a H H' → LiveA K H' a (stepL L [some "add", o, some s] (L.cur.1 ++ [(o, s)], L.cur.2)) bg → Q .non H'
  | _ => False
theorem wadd : wok "add" = true := by decide +kernel
theorem wstrike : wok "strike" = true := by decide +kernel
theorem wforget : wok "forget" = true := by decide +kernel
theorem wgive : wok "give" = true := by decide +kernel
theorem rOS {H : Hp} {v : V} {s : Str} (h : rS H v s) : rO H v (some s) := ⟨h.1, fun _ e => by cases e; exact h.2⟩
theorem sc_Live_add : FnScope ["self", "person", "deed", "entries"] ["self", "person", "deed"] (defScope s_Live_add) := ⟨rfl, rfl, rfl, by decide +kernel, rfl, by decide +kernel, by decide +kernel⟩
theorem sp_Live_add_len : ∀ (vs : List V) (H : Hp) (Q : VK) (E : XK), (sp_Live_add K) vs H Q E → vs.length = 3
  | [_, _, _], _, _, _, _ => rfl
  | [], _, _, _, h => h.elim
  | [_], _, _, _, h => h.elim
  | [_, _], _, _, _, h => h.elim
  | _ :: _ :: _ :: _ :: _, _, _, _, h => h.elim
theorem me_Live_add (T : Tx P w K mg) : Me P w K mg base 6 (He.ga K "Live") "add" (sp_Live_add K) := by
  refine me_of (st := s_Live_add) (qual := "Live.add") (kws := []) (He.cls_ok (T.c.fact 136 rfl)) (He.meth_ok (T.c.fact 153 rfl)) (T.c.def_ 59 (d := d_Live_add) rfl) sc_Live_add sp_Live_add_len (fun _ _ _ _ _ _ us hl => match us, hl with | [_, _, _], _ => rfl) (fun cdv A outer s H vs Q E hr h => ⟨_, (pss_cons (ps_expr (pe_cl (cal_need_log T) hr (by decide) rfl (pa_cons (pe_fd T (pv 0) rfl) (pa_cons (pe_lst (pa_cons (pe_tup (pa_cons (pv 1) (pa_cons (pv 2) pa_nil))) pa_nil)) pa_nil))))
  (pss_cons (ps_set (i := 3) sc_Live_add.nd rfl (Or.inl rfl) (pe_lst (pa_st T (pe_pr (pr_Live_log T) hr (by decide) (pv 0) rfl) (pa_cons (pe_tup (pa_cons (pv 1) (pa_cons (pv 2) pa_nil))) pa_nil))))
  (pss_cons (ps_expr (pe_cl (cal_need_log T) hr (by decide) rfl (pa_cons (pe_fd T (pv 0) rfl) (pa_cons (pv 3) pa_nil))))
  (pss_one (ps_expr (pe_me (me_Live_stand T) hr (by decide) (pv 0) (pa_cons (pe_tup (pa_cons pe_str (pa_cons (pv 1) (pa_cons (pv 2) pa_nil)))) (pa_cons (pv 3) (pa_cons (pe_pr (pr_Live_few T) hr (by decide) (pv 0) rfl) pa_nil))))))))), ?_⟩)
  obtain ⟨a0, a1, a2, rfl⟩ := len3 (sp_Live_add_len _ _ _ _ h)
  obtain ⟨a, L, bg, o, z, rfl, hL, ho, hz, hk, ok, n6, n9, n8, q⟩ := h
  walk_at "S"
  refine fL_machine T hL fun m km => ?_
  refine ⟨by decide, fun t1 ht1 => ?_⟩
  have s1 : Same H (upd H t1 (.tup [a1, a2])) := same_new (same_refl _) ht1
  have k1 : rE (upd H t1 (.tup [a1, a2])) (.ref t1) (o, z) := mk_P ht1 ho hz
  generalize upd H t1 (.tup [a1, a2]) = H1 at s1 k1
  refine ⟨by decide, fun t2 ht2 => ?_⟩
  have s2 : Same H1 (upd H1 t2 (.lst [.ref t1])) := same_new (same_refl _) ht2
  have k2 : rL rE (upd H1 t2 (.lst [.ref t1])) (.ref t2) [(o, z)] := mk_L ht2 (A2.one k1) (by decide : 1 ≤ lim)
  generalize upd H1 t2 (.lst [.ref t1]) = H2 at s2 k2
  have s12 := s1.trans s2
  refine ⟨L.M, [(o, z)], Mo.mo s12 km, k2, fun e he => by simp at he; subst he; exact hk, Nat.le_trans (folk_len _) (by simp), fun H3 s3 => ?_⟩
  have s13 := s12.trans s3
  walk_at "S"
  refine (hL.mo s13).pr ⟨a, L, bg, rfl, hL.mo s13, fun l H4 s4 hl k4 => ?_⟩
  have s14 := s13.trans s4
  refine star_L k4 fun xs kx => ?_
  walk_at "S"
  refine ⟨by decide, fun t5 ht5 => ?_⟩
  have s5 : Same H4 (upd H4 t5 (.tup [a1, a2])) := same_new (same_refl _) ht5
  have k5 : rE (upd H4 t5 (.tup [a1, a2])) (.ref t5) (o, z) := mk_P ht5 (Tt.tm (same_t s14) ho) (Tt.tm (same_t s14) hz)
  generalize upd H4 t5 (.tup [a1, a2]) = H5 at s5 k5
  have k6 : A2 (rE H5) (xs ++ [.ref t5]) (L.cur.1 ++ [(o, z)]) := (kx.mono fun _ _ z => Mo.mo s5 z).app (.one k5)
  have hb : (L.cur.1 ++ [(o, z)]).length ≤ lim := by
    have h0 : 1001 ≤ lim := by decide
    rw [List.length_append]; simp; omega
  refine ⟨k6.bnd hb, fun t6 ht6 => ?_⟩
  have s6 : Same H5 (upd H5 t6 (.lst (xs ++ [.ref t5]))) := same_new (same_refl _) ht6
  have k7 := mk_L ht6 k6 hb
  generalize upd H5 t6 (.lst (xs ++ [.ref t5])) = H6 at s6 k7
  have s16 := (s14.trans s5).trans s6
  refine fL_machine T (hL.mo s16) fun m2 km2 => ?_
  have ok2 : okRows L.M.deeds (L.cur.1 ++ [(o, z)]) := fun e he => by
    rcases List.mem_append.mp he with h | h
    · exact ok e h
    · simp at h; subst h; exact hk
  refine ⟨L.M, L.cur.1 ++ [(o, z)], km2, k7, ok2, n6, fun H7 s7 => ?_⟩
  have s17 := s16.trans s7
  walk_at "S"
  refine (hL.mo s17).me (nolook (by decide +kernel)) ?_
  refine ⟨by decide, fun t8 ht8 => ?_⟩
  have s8 : Same H7 (upd H7 t8 (.tup [.str "add", a1, a2])) := same_new (same_refl _) ht8
  have k8 : rDe (upd H7 t8 (.tup [.str "add", a1, a2])) (.ref t8) [some "add", o, some z] :=
    ⟨t8, _, rfl, upd_same, ⟨⟨rfl, fun _ e => by cases e; exact wadd⟩, Tt.tm (same_t (s17.trans s8)) ho, rOS (Tt.tm (same_t (s17.trans s8)) hz), trivial⟩, (by decide : 3 ≤ lim)⟩
  generalize upd H7 t8 (.tup [.str "add", a1, a2]) = H8 at s8 k8
  have s18 := s17.trans s8
  refine (hL.mo s18).pr ⟨a, L, bg, rfl, hL.mo s18, fun H9 s9 => ?_⟩
  have s19 := s18.trans s9
  exact ⟨a, L, bg, _, _, _, rfl, hL.mo s19, Mo.mo s9 k8, Mo.mo ((s7.trans s8).trans s9) k7, rfl, n8, fun H' b k => q H' (fun c u n e => b c u n (s19 _ _ e)) k⟩
def sp_Live_strike (K : PySem.W.Frag) : Sp := fun vs H Q _ => match vs with
  | [x, y] => ∃ a L bg s, x = .ref a ∧ LiveA K H a L bg ∧ rS H y s ∧ s ∈ folk L.cur.1 ∧ (folk L.cur.1).length < 64 ∧ L.cur.2 ≠ 0 ∧ L.steps.length < 1000 ∧
      ∀ H', SameBut a H H' → LiveA K H' a (stepL L [some "strike", some s] (rest L.cur.1 [s], L.cur.2 - 1)) bg → Q .non H'
  | _ => False
theorem sc_Live_strike : FnScope ["self", "person"] ["self", "person"] (defScope s_Live_strike) := ⟨rfl, rfl, rfl, by decide +kernel, rfl, by decide +kernel, by decide +kernel⟩
theorem sp_Live_strike_len : ∀ (vs : List V) (H : Hp) (Q : VK) (E : XK), (sp_Live_strike K) vs H Q E → vs.length = 2
  | [_, _], _, _, _, _ => rfl
  | [], _, _, _, h => h.elim
  | [_], _, _, _, h => h.elim
  | _ :: _ :: _ :: _, _, _, _, h => h.elim
theorem me_Live_strike (T : Tx P w K mg) : Me P w K mg base 9 (He.ga K "Live") "strike" (sp_Live_strike K) := by
  refine me_of (st := s_Live_strike) (qual := "Live.strike") (kws := []) (He.cls_ok (T.c.fact 136 rfl)) (He.meth_ok (T.c.fact 154 rfl)) (T.c.def_ 60 (d := d_Live_strike) rfl) sc_Live_strike sp_Live_strike_len (fun _ _ _ _ _ _ us hl => match us, hl with | [_, _], _ => rfl) (fun cdv A outer s H vs Q E hr h => ⟨_, (pss_cons (ps_expr (pe_me (me_Live_need_person T) hr (by decide) (pv 0) (pa_cons (pv 1) pa_nil)))
  (pss_cons (ps_if (pt_cmpR (op_any T hr) (pe_pr (pr_Live_few T) hr (by decide) (pv 0) rfl) pe_int (nomark _)) pss_never pss_nil)
  (pss_one (ps_expr (pe_me (me_Live_stand T) hr (by decide) (pv 0) (pa_cons (pe_tup (pa_cons pe_str (pa_cons (pv 1) pa_nil))) (pa_cons (pe_cl (cal_without_of T) hr (by decide) rfl (pa_cons (pe_pr (pr_Live_log T) hr (by decide) (pv 0) rfl) (pa_cons (pe_tup (pa_cons (pv 1) pa_nil)) pa_nil))) (pa_cons (pe_op (op_any T hr) (pe_pr (pr_Live_few T) hr (by decide) (pv 0) rfl) pe_int) pa_nil)))))))), ?_⟩)
  obtain ⟨a0, a1, rfl⟩ := len2 (sp_Live_strike_len _ _ _ _ h)
  obtain ⟨a, L, bg, z, rfl, hL, hz, hm, n6, f0, n8, q⟩ := h
  obtain ⟨rfl, hw⟩ := id hz
  walk_at "S"
  refine hL.me (nolook (by decide +kernel)) ?_
  refine ⟨a, L, bg, z, rfl, hL, rfl, hm, n6, fun H1 s1 => ?_⟩
  walk_at "S"
  refine (hL.mo s1).pr ⟨a, L, bg, rfl, hL.mo s1, fun H2 s2 => ?_⟩
  have s12 := s1.trans s2
  walk_at "G"
  rw [decide_eq_false f0]
  walk_at "S"
  refine (hL.mo s12).me (nolook (by decide +kernel)) ?_
  refine ⟨by decide, fun t3 ht3 => ?_⟩
  have s3 : Same H2 (upd H2 t3 (.tup [.str "strike", .str z])) := same_new (same_refl _) ht3
  have k3 : rDe (upd H2 t3 (.tup [.str "strike", .str z])) (.ref t3) [some "strike", some z] :=
    ⟨t3, _, rfl, upd_same, ⟨⟨rfl, fun _ e => by cases e; exact wstrike⟩, ⟨rfl, fun _ e => by cases e; exact hw⟩, trivial⟩, (by decide : 2 ≤ lim)⟩
  generalize upd H2 t3 (.tup [.str "strike", .str z]) = H3 at s3 k3
  have s13 := s12.trans s3
  refine (hL.mo s13).pr ⟨a, L, bg, rfl, hL.mo s13, fun l H4 s4 hl k4 => ?_⟩
  have s14 := s13.trans s4
  refine ⟨by decide, fun t5 ht5 => ?_⟩
  have s5 : Same H4 (upd H4 t5 (.tup [.str z])) := same_new (same_refl _) ht5
  have k5 : rT rS (upd H4 t5 (.tup [.str z])) (.ref t5) [z] := ⟨t5, _, rfl, upd_same, A2.one ⟨rfl, hw⟩, (by decide : 1 ≤ lim)⟩
  generalize upd H4 t5 (.tup [.str z]) = H5 at s5 k5
  have s15 := s14.trans s5
  refine ⟨L.cur.1, [z], Mo.mo s5 k4, .inr k5, fun l6 H6 s6 hl6 k6 => ?_⟩
  have s16 := s15.trans s6
  refine (hL.mo s16).pr ⟨a, L, bg, rfl, hL.mo s16, fun H7 s7 => ?_⟩
  have s17 := s16.trans s7
  walk_at "G"
  exact ⟨a, L, bg, _, _, _, rfl, hL.mo s17, Mo.mo (((s4.trans s5).trans s6).trans s7) k3, Mo.mo s7 k6, rfl, n8, fun H' b k => q H' (fun c u n e => b c u n (s17 _ _ e)) k⟩
def sp_Live_forget (K : PySem.W.Frag) : Sp := fun vs H Q _ => match vs with
  | [x] => ∃ a L bg, x = .ref a ∧ LiveA K H a L bg ∧ okRows L.M.deeds L.cur.1 ∧ (folk L.cur.1).length ≤ 3 ∧ 0 ≤ L.cur.2 ∧ L.cur.2 ≤ 3 ∧ L.M.seen.length ^ (lots (folk L.cur.1) L.cur.2).length ≤ 4096 ∧ L.steps.length < 1000 ∧
      ∀ k, ended L.M L.cur.1 L.cur.2 k → ∀ H', SameBut a H H' → LiveA K H' a (stepL L [some "forget"] (short L.M L.cur.1 L.cur.2 k, L.cur.2)) bg → Q .non H'
  | _ => False
theorem sc_Live_forget : FnScope ["self"] ["self"] (defScope s_Live_forget) := ⟨rfl, rfl, rfl, by decide +kernel, rfl, by decide +kernel, by decide +kernel⟩
theorem sp_Live_forget_len : ∀ (vs : List V) (H : Hp) (Q : VK) (E : XK), (sp_Live_forget K) vs H Q E → vs.length = 1
  | [_], _, _, _, _ => rfl
  | [], _, _, _, h => h.elim
  | _ :: _ :: _, _, _, _, h => h.elim
theorem me_Live_forget (T : Tx P w K mg) : Me P w K mg base 6 (He.ga K "Live") "forget" (sp_Live_forget K) := by
  refine me_of (st := s_Live_forget) (qual := "Live.forget") (kws := []) (He.cls_ok (T.c.fact 136 rfl)) (He.meth_ok (T.c.fact 155 rfl)) (T.c.def_ 61 (d := d_Live_forget) rfl) sc_Live_forget sp_Live_forget_len (fun _ _ _ _ _ _ us hl => match us, hl with | [_], _ => rfl) (fun cdv A outer s H vs Q E hr h => ⟨_, (pss_one (ps_expr (pe_me (me_Live_stand T) hr (by decide) (pv 0) (pa_cons (pe_tup (pa_cons pe_str pa_nil)) (pa_cons (pe_cl (cal_shortest T) hr (by decide) rfl (pa_cons (pe_fd T (pv 0) rfl) (pa_cons (pe_pr (pr_Live_log T) hr (by decide) (pv 0) rfl) (pa_cons (pe_pr (pr_Live_few T) hr (by decide) (pv 0) rfl) pa_nil)))) (pa_cons (pe_pr (pr_Live_few T) hr (by decide) (pv 0) rfl) pa_nil)))))), ?_⟩)
  obtain ⟨a0, rfl⟩ := len1 (sp_Live_forget_len _ _ _ _ h)
  obtain ⟨a, L, bg, rfl, hL, ok, n3, f0, f3, hB, n8, q⟩ := h
  walk_at "S"
  refine hL.me (nolook (by decide +kernel)) ?_
  refine ⟨by decide, fun t3 ht3 => ?_⟩
  have s3 : Same H (upd H t3 (.tup [.str "forget"])) := same_new (same_refl _) ht3
  have k3 : rDe (upd H t3 (.tup [.str "forget"])) (.ref t3) [some "forget"] := ⟨t3, _, rfl, upd_same, ⟨⟨rfl, fun _ e => by cases e; exact wforget⟩, trivial⟩, (by decide : 1 ≤ lim)⟩
  generalize upd H t3 (.tup [.str "forget"]) = H3 at s3 k3
  refine fL_machine T (hL.mo s3) fun m km => ?_
  refine (hL.mo s3).pr ⟨a, L, bg, rfl, hL.mo s3, fun l H4 s4 hl k4 => ?_⟩
  have s34 := s3.trans s4
  refine (hL.mo s34).pr ⟨a, L, bg, rfl, hL.mo s34, fun H5 s5 => ?_⟩
  have s35 := s34.trans s5
  refine ⟨L.M, L.cur.1, L.cur.2, Mo.mo (s4.trans s5) km, Mo.mo s5 k4, rfl, ok, n3, f0, f3, hB, fun k he l6 H6 s6 hl6 k6 => ?_⟩
  have s36 := s35.trans s6
  refine (hL.mo s36).pr ⟨a, L, bg, rfl, hL.mo s36, fun H7 s7 => ?_⟩
  have s37 := s36.trans s7
  exact ⟨a, L, bg, _, _, _, rfl, hL.mo s37, Mo.mo (((s4.trans s5).trans s6).trans s7) k3, Mo.mo s7 k6, rfl, n8, fun H' b kk => q k he H' (fun c u n e => b c u n (s37 _ _ e)) kk⟩
theorem cal_matter_matter (T : Tx P w K mg) : Cl P w K mg base 6 "matter_matter" (sp_matter K) [] := by
  obtain ⟨f, fd, ps, ds, F, hm, kp, b, d⟩ := (cal_matter (base := base) T).ex
  refine ⟨f, fd, ps, ds, F, ?_, kp, b, d⟩
  rw [T.glo 97 rfl, T.two, ← T.glo 46 rfl]
  exact hm
def sp_Live_matter (K : PySem.W.Frag) : Sp := fun vs H Q _ => match vs with
  | [x] => ∃ a L bg, x = .ref a ∧ LiveA K H a L bg ∧ okRows L.M.deeds L.cur.1 ∧ (folk L.cur.1).length ≤ 6 ∧ 0 ≤ L.cur.2 ∧ L.cur.2 ≤ 3 ∧ ∀ p H', Same H H' → rT rS H' (.ref p) (matters L.M L.cur.1 L.cur.2) → Q (.ref p) H'
  | _ => False
theorem sc_Live_matter : FnScope ["self"] ["self"] (defScope s_Live_matter) := ⟨rfl, rfl, rfl, by decide +kernel, rfl, by decide +kernel, by decide +kernel⟩
theorem sp_Live_matter_len : ∀ (vs : List V) (H : Hp) (Q : VK) (E : XK), (sp_Live_matter K) vs H Q E → vs.length = 1
  | [_], _, _, _, _ => rfl
  | [], _, _, _, h => h.elim
  | _ :: _ :: _, _, _, _, h => h.elim
theorem me_Live_matter (T : Tx P w K mg) : Me P w K mg base 7 (He.ga K "Live") "matter" (sp_Live_matter K) := by
  refine me_of (st := s_Live_matter) (qual := "Live.matter") (kws := []) (He.cls_ok (T.c.fact 136 rfl)) (He.meth_ok (T.c.fact 159 rfl)) (T.c.def_ 65 (d := d_Live_matter) rfl) sc_Live_matter sp_Live_matter_len (fun _ _ _ _ _ _ us hl => match us, hl with | [_], _ => rfl) (fun cdv A outer s H vs Q E hr h => ⟨_, (pss_one (ps_ret (pe_cl (cal_matter_matter T) hr (by decide) rfl (pa_cons (pe_fd T (pv 0) rfl) (pa_cons (pe_pr (pr_Live_log T) hr (by decide) (pv 0) rfl) (pa_cons (pe_pr (pr_Live_few T) hr (by decide) (pv 0) rfl) pa_nil)))))), ?_⟩)
  obtain ⟨a0, rfl⟩ := len1 (sp_Live_matter_len _ _ _ _ h)
  obtain ⟨a, L, bg, rfl, hL, ok, n6, f0, f3, q⟩ := h
  walk_at "S"
  refine fL_machine T hL fun m km => ?_
  refine hL.pr ⟨a, L, bg, rfl, hL, fun l H1 s1 hl k1 => ?_⟩
  refine (hL.mo s1).pr ⟨a, L, bg, rfl, hL.mo s1, fun H2 s2 => ?_⟩
  exact ⟨L.M, L.cur.1, L.cur.2, Mo.mo (s1.trans s2) km, Mo.mo s2 k1, rfl, ok, n6, f0, f3, fun p H3 s3 k3 => q p H3 ((s1.trans s2).trans s3) k3⟩
def sp_Live_give (K : PySem.W.Frag) : Sp := fun vs H Q _ => match vs with
  | [x, y] => ∃ a L bg s, x = .ref a ∧ LiveA K H a L bg ∧ rS H y s ∧ s ∈ folk L.cur.1 ∧ s ∉ matters L.M L.cur.1 L.cur.2 ∧ okRows L.M.deeds L.cur.1 ∧ (folk L.cur.1).length ≤ 6 ∧ 0 ≤ L.cur.2 ∧ L.cur.2 ≤ 3 ∧ L.steps.length < 1000 ∧
      ∀ H', SameBut a H H' → LiveA K H' a (stepL L [some "give", some s] (gave L.cur.1 s, L.cur.2)) bg → Q .non H'
  | _ => False
theorem sc_Live_give : FnScope ["self", "person"] ["self", "person"] (defScope s_Live_give) := ⟨rfl, rfl, rfl, by decide +kernel, rfl, by decide +kernel, by decide +kernel⟩
theorem sp_Live_give_len : ∀ (vs : List V) (H : Hp) (Q : VK) (E : XK), (sp_Live_give K) vs H Q E → vs.length = 2
  | [_, _], _, _, _, _ => rfl
  | [], _, _, _, h => h.elim
  | [_], _, _, _, h => h.elim
  | _ :: _ :: _ :: _, _, _, _, h => h.elim
theorem me_Live_give (T : Tx P w K mg) : Me P w K mg base 9 (He.ga K "Live") "give" (sp_Live_give K) := by
  refine me_of (st := s_Live_give) (qual := "Live.give") (kws := []) (He.cls_ok (T.c.fact 136 rfl)) (He.meth_ok (T.c.fact 156 rfl)) (T.c.def_ 62 (d := d_Live_give) rfl) sc_Live_give sp_Live_give_len (fun _ _ _ _ _ _ us hl => match us, hl with | [_, _], _ => rfl) (fun cdv A outer s H vs Q E hr h => ⟨_, (pss_cons (ps_expr (pe_me (me_Live_need_person T) hr (by decide) (pv 0) (pa_cons (pv 1) pa_nil)))
  (pss_cons (ps_if (pt_cmpR (op_any T hr) (pv 1) (pe_me0 (me_Live_matter T) hr (by decide) (pv 0)) (by rfl)) pss_never pss_nil)
  (pss_one (ps_expr (pe_me (me_Live_stand T) hr (by decide) (pv 0) (pa_cons (pe_tup (pa_cons pe_str (pa_cons (pv 1) pa_nil))) (pa_cons (pe_cl (cal_freed T) hr (by decide) rfl (pa_cons (pe_fd T (pv 0) rfl) (pa_cons (pe_pr (pr_Live_log T) hr (by decide) (pv 0) rfl) (pa_cons (pv 1) pa_nil)))) (pa_cons (pe_pr (pr_Live_few T) hr (by decide) (pv 0) rfl) pa_nil)))))))), ?_⟩)
  obtain ⟨a0, a1, rfl⟩ := len2 (sp_Live_give_len _ _ _ _ h)
  obtain ⟨a, L, bg, z, rfl, hL, hz, hm, hnm, ok, n6, f0, f3, n8, q⟩ := h
  obtain ⟨rfl, hw⟩ := id hz
  walk_at "S"
  refine hL.me (nolook (by decide +kernel)) ?_
  refine ⟨a, L, bg, z, rfl, hL, rfl, hm, by omega, fun H1 s1 => ?_⟩
  walk_at "S"
  refine (hL.mo s1).me (nolook (by decide +kernel)) ?_
  refine ⟨a, L, bg, rfl, hL.mo s1, ok, n6, f0, f3, fun p H2 s2 k2 => ?_⟩
  have s12 := s1.trans s2
  refine o_inT (o := some z) k2 ?_
  walk_at "S"
  rw [decide_eq_false (show ¬ some z ∈ (matters L.M L.cur.1 L.cur.2).map some from fun e => by simp at e; exact hnm e)]
  walk_at "S"
  refine (hL.mo s12).me (nolook (by decide +kernel)) ?_
  refine ⟨by decide, fun t3 ht3 => ?_⟩
  have s3 : Same H2 (upd H2 t3 (.tup [.str "give", .str z])) := same_new (same_refl _) ht3
  have k3 : rDe (upd H2 t3 (.tup [.str "give", .str z])) (.ref t3) [some "give", some z] :=
    ⟨t3, _, rfl, upd_same, ⟨⟨rfl, fun _ e => by cases e; exact wgive⟩, ⟨rfl, fun _ e => by cases e; exact hw⟩, trivial⟩, (by decide : 2 ≤ lim)⟩
  generalize upd H2 t3 (.tup [.str "give", .str z]) = H3 at s3 k3
  have s13 := s12.trans s3
  refine fL_machine T (hL.mo s13) fun m km => ?_
  refine (hL.mo s13).pr ⟨a, L, bg, rfl, hL.mo s13, fun l H4 s4 hl k4 => ?_⟩
  have s14 := s13.trans s4
  refine ⟨L.M, L.cur.1, z, Mo.mo s4 km, k4, rfl, ok, n6, hm, fun l6 H6 s6 hl6 k6 => ?_⟩
  have s16 := s14.trans s6
  refine (hL.mo s16).pr ⟨a, L, bg, rfl, hL.mo s16, fun H7 s7 => ?_⟩
  have s17 := s16.trans s7
  exact ⟨a, L, bg, _, _, _, rfl, hL.mo s17, Mo.mo ((s4.trans s6).trans s7) k3, Mo.mo s7 k6, rfl, n8, fun H' b k => q H' (fun c u n e => b c u n (s17 _ _ e)) k⟩
def sp_Live_undo (K : PySem.W.Frag) : Sp := fun vs H Q _ => match vs with
  | [x] => ∃ a L bg, x = .ref a ∧ LiveA K H a L bg ∧ L.steps ≠ [] ∧ ∀ H', SameBut a H H' → LiveA K H' a ⟨L.M, L.few0, L.steps.dropLast⟩ bg → Q .non H'
  | _ => False
theorem A2_dl {γ α : Type} {r : γ → α → Prop} : ∀ {xs : List γ} {l : List α}, A2 r xs l → A2 r xs.dropLast l.dropLast
  | [], [], _ => trivial
  | [_], [_], _ => trivial
  | x :: y :: xs, a :: b :: l, h => ⟨h.1, A2_dl (xs := y :: xs) (l := b :: l) h.2⟩
  | [], _ :: _, h => h.elim
  | _ :: _, [], h => h.elim
  | [_], _ :: _ :: _, h => h.2.elim
  | _ :: _ :: _, [_], h => h.2.elim
theorem sc_Live_undo : FnScope ["self"] ["self"] (defScope s_Live_undo) := ⟨rfl, rfl, rfl, by decide +kernel, rfl, by decide +kernel, by decide +kernel⟩
theorem sp_Live_undo_len : ∀ (vs : List V) (H : Hp) (Q : VK) (E : XK), (sp_Live_undo K) vs H Q E → vs.length = 1
  | [_], _, _, _, _ => rfl
  | [], _, _, _, h => h.elim
  | _ :: _ :: _, _, _, _, h => h.elim
theorem me_Live_undo (T : Tx P w K mg) : Me P w K mg base 1 (He.ga K "Live") "undo" (sp_Live_undo K) := by
  refine me_of (st := s_Live_undo) (qual := "Live.undo") (kws := []) (He.cls_ok (T.c.fact 136 rfl)) (He.meth_ok (T.c.fact 157 rfl)) (T.c.def_ 63 (d := d_Live_undo) rfl) sc_Live_undo sp_Live_undo_len (fun _ _ _ _ _ _ us hl => match us, hl with | [_], _ => rfl) (fun cdv A outer s H vs Q E hr h => ⟨_, (pss_cons (ps_if (pt_cmpR (op_any T hr) (pe_callB (cl_any (f := .builtin "len") T hr) rfl (T.free 109 rfl) (by decide +kernel) (pa_cons (pe_fd T (pv 0) rfl) pa_nil)) pe_int (nomark _)) pss_never pss_nil)
  (pss_one (ps_fld (pv 0) (pe_slice sl_tupA (pe_fd T (pv 0) rfl) po_none (po_some (pe_un un_neg pe_int))) rfl))), ?_⟩)
  obtain ⟨a0, rfl⟩ := len1 (sp_Live_undo_len _ _ _ _ h)
  obtain ⟨a, L, bg, rfl, hL, ne, q⟩ := h
  have hp : 0 < L.steps.length := List.length_pos_iff.mpr ne
  walk_at "S"
  refine fL_steps T hL fun y ky => ?_
  refine c_lenRT ky ?_
  walk_at "G"
  rw [decide_eq_false (show ¬ (L.steps.length : Int) = 0 by omega)]
  walk_at "S"
  refine fL_steps T hL fun y ky => ?_
  obtain ⟨t, xs, rfl, e1, e2, e3⟩ := ky
  have hx := e2.len
  refine ⟨t, xs, rfl, .inl (.inl e1), fun z => ?_, fun _ p hp2 => ?_⟩
  · exfalso
    have := z.2
    simp only [HT.sIx] at this
    rw [if_pos (by decide)] at this
    omega
  · have ec : cutV xs none (some (-1)) = xs.dropLast := by
      unfold cutV
      simp only [HT.sIx, List.drop_zero]
      rw [if_pos (by decide), List.dropLast_eq_take]
      congr 1
      omega
    have s1 : Same H (upd H p (.tup (cutV xs none (some (-1))))) := same_new (same_refl _) hp2
    have k1 : rSteps K (upd H p (.tup (cutV xs none (some (-1))))) (.ref p) L.steps.dropLast := ⟨p, _, rfl, upd_same, by rw [ec]; exact (A2_dl e2).mono fun _ _ z => Mo.mo (by rw [← ec]; exact s1) z, by rw [List.length_dropLast]; omega⟩
    generalize upd H p (.tup (cutV xs none (some (-1)))) = H1 at s1 k1
    exact set_steps T (hL.mo s1) k1 fun H2 b k => q H2 (fun c u n e => b c u n (s1 _ _ e)) k
def sp_Live_without (K : PySem.W.Frag) : Sp := fun vs H Q _ => match vs with
  | [x, y] => ∃ a L bg lot, x = .ref a ∧ LiveA K H a L bg ∧ rT rS H y lot ∧ lot.Nodup ∧ (lot.length : Int) ≤ L.cur.2 ∧ okRows L.M.deeds L.cur.1 ∧ PuV (.int (gi L.M.seen (behind L.M.deeds L.cur.1 lot))) Q H
  | _ => False
theorem sc_Live_without : FnScope ["self", "lot"] ["self", "lot"] (defScope s_Live_without) := ⟨rfl, rfl, rfl, by decide +kernel, rfl, by decide +kernel, by decide +kernel⟩
theorem sp_Live_without_len : ∀ (vs : List V) (H : Hp) (Q : VK) (E : XK), (sp_Live_without K) vs H Q E → vs.length = 2
  | [_, _], _, _, _, _ => rfl
  | [], _, _, _, h => h.elim
  | [_], _, _, _, h => h.elim
  | _ :: _ :: _ :: _, _, _, _, h => h.elim
theorem me_Live_without (T : Tx P w K mg) : Me P w K mg base 6 (He.ga K "Live") "without" (sp_Live_without K) := by
  refine me_of (st := s_Live_without) (qual := "Live.without") (kws := []) (He.cls_ok (T.c.fact 136 rfl)) (He.meth_ok (T.c.fact 158 rfl)) (T.c.def_ 64 (d := d_Live_without) rfl) sc_Live_without sp_Live_without_len (fun _ _ _ _ _ _ us hl => match us, hl with | [_, _], _ => rfl) (fun cdv A outer s H vs Q E hr h => ⟨_, (pss_cons (ps_expr (pe_cl (cal_need_lot T) hr (by decide) rfl (pa_cons (pv 1) pa_nil)))
  (pss_cons (ps_if (pt_cmpR (op_any T hr) (pe_callB (cl_any (f := .builtin "len") T hr) rfl (T.free 109 rfl) (by decide +kernel) (pa_cons (pv 1) pa_nil)) (pe_pr (pr_Live_few T) hr (by decide) (pv 0) rfl) (nomark _)) pss_never pss_nil)
  (pss_one (ps_ret (pe_ix (ix_any T hr) (pe_fd T (pe_fd T (pv 0) rfl) rfl) (pe_cl (cal_state_behind T) hr (by decide) rfl (pa_cons (pe_fd T (pv 0) rfl) (pa_cons (pe_pr (pr_Live_log T) hr (by decide) (pv 0) rfl) (pa_cons (pv 1) pa_nil)))) (fun _ _ => rfl)))))), ?_⟩)
  obtain ⟨a0, a1, rfl⟩ := len2 (sp_Live_without_len _ _ _ _ h)
  obtain ⟨a, L, bg, lot, rfl, hL, hl, nd, hf, ok, q⟩ := h
  walk_at "S"
  refine ⟨lot, .inr hl, nd, fun H1 s1 => ?_⟩
  walk_at "S"
  refine c_lenRT (Mo.mo s1 hl) ?_
  refine (hL.mo s1).pr ⟨a, L, bg, rfl, hL.mo s1, fun H2 s2 => ?_⟩
  have s12 := s1.trans s2
  walk_at "G"
  rw [decide_eq_false (show ¬ L.cur.2 < (lot.length : Int) by omega)]
  walk_at "S"
  refine fL_machine T (hL.mo s12) fun m km => ?_
  have lo := km.2.lo
  refine fM_seen T km fun ys kys => ?_
  refine fL_machine T (hL.mo s12) fun m2 km2 => ?_
  refine (hL.mo s12).pr ⟨a, L, bg, rfl, hL.mo s12, fun l H3 s3 hl3 k3 => ?_⟩
  refine ⟨L.M, L.cur.1, lot, Mo.mo s3 km2, k3, ok, .inr (Mo.mo (s12.trans s3) hl), fun H4 s4 => ?_⟩
  exact seen_at T (Mo.mo (s3.trans s4) kys) (behind_ok (by omega) km.2.ok ok) rfl (q _ ((s12.trans s3).trans s4))
/-- what a block keeps -/
def BegA (K : PySem.W.Frag) (H : Hp) (b : Addr) (ss : List (Deed × Stt)) (bg : V) : Prop := ∃ dx st, H b = some (.ins (He.ga K "Begun") dx [("had_steps", st), ("around", bg)]) ∧ rSteps K H st ss
def sp_Live_enter (K : PySem.W.Frag) : Sp := fun vs H Q _ => match vs with
  | [x] => ∃ a L bg, x = .ref a ∧ LiveA K H a L bg ∧ ∀ b H', SameBut a H H' → H b = none → LiveA K H' a L (.ref b) → BegA K H' b L.steps bg → Q (.ref a) H'
  | _ => False
theorem om_hs {x u : V} {fs fs' : List (Str × V)} : (("own_machine" : Str), x) :: fs ≠ (("had_steps" : Str), u) :: fs' := fun z => absurd (show ("own_machine" : Str) = "had_steps" from by injection z with z _; exact congrArg Prod.fst z) (by decide +kernel)
theorem sc_Live_enter : FnScope ["self"] ["self"] (defScope s_Live_enter) := ⟨rfl, rfl, rfl, by decide +kernel, rfl, by decide +kernel, by decide +kernel⟩
theorem sp_Live_enter_len : ∀ (vs : List V) (H : Hp) (Q : VK) (E : XK), (sp_Live_enter K) vs H Q E → vs.length = 1
  | [_], _, _, _, _ => rfl
  | [], _, _, _, h => h.elim
  | _ :: _ :: _, _, _, _, h => h.elim
theorem me_Live_enter (T : Tx P w K mg) : Me P w K mg base 3 (He.ga K "Live") "__enter__" (sp_Live_enter K) := by
  refine me_of (st := s_Live_enter) (qual := "Live.__enter__") (kws := []) (He.cls_ok (T.c.fact 136 rfl)) (He.meth_ok (T.c.fact 161 rfl)) (T.c.def_ 67 (d := d_Live_enter) rfl) sc_Live_enter sp_Live_enter_len (fun _ _ _ _ _ _ us hl => match us, hl with | [_], _ => rfl) (fun cdv A outer s H vs Q E hr h => ⟨_, (pss_cons (ps_fld (pv 0) (pe_ma (ma_Begun T) hr (by decide) rfl (pa_cons (pe_fd T (pv 0) rfl) (pa_cons (pe_fd T (pv 0) rfl) pa_nil))) rfl)
  (pss_one (ps_ret (pv 0)))), ?_⟩)
  obtain ⟨a0, rfl⟩ := len1 (sp_Live_enter_len _ _ _ _ h)
  obtain ⟨a, L, bg, rfl, hL, q⟩ := h
  walk_at "S"
  refine fL_steps T hL fun y ky => ?_
  refine fL_begun T hL ?_
  walk_at "S"
  intro x dx hx hdx hne
  have ps := pre_same (o := .own x) (o' := .ins (He.ga K "Begun") dx []) hx hdx
  refine ⟨x, dx, rfl, upd_same, fun H2 b2 e2 => ⟨rfl, ?_⟩⟩
  have s2 := made_same hx hdx b2
  have kb : BegA K H2 x L.steps bg := ⟨dx, y, e2, Mo.mo s2 ky⟩
  have hL2 := hL.mo s2
  refine set_begun T hL2 fun H3 b3 k3 => ?_
  walk_at "S"
  have hxa : x ≠ a := by
    obtain ⟨dx', m, st, e, _⟩ := hL
    exact (ne_of_none e hx).symm
  obtain ⟨dxa, m, st, ea, _⟩ := hL2
  refine q x H3 (fun c u n e => b3 c u n (s2 _ _ e)) hx k3 ⟨dx, y, b3 _ _ hxa e2, but_Ss b3 ea lf2 (Mo.mo s2 ky)⟩
def sp_Live_exit (K : PySem.W.Frag) : Sp := fun vs H Q _ => match vs with
  | [x, y, _, _] => ∃ a L b ss bg, x = .ref a ∧ LiveA K H a L (.ref b) ∧ BegA K H b ss bg ∧ y ≠ .non ∧ ∀ H', SameBut a H H' → LiveA K H' a ⟨L.M, L.few0, ss⟩ bg → Q .non H'
  | _ => False
theorem sc_Live_exit : FnScope ["self", "kind", "value", "trace"] ["self", "kind", "value", "trace"] (defScope s_Live_exit) := ⟨rfl, rfl, rfl, by decide +kernel, rfl, by decide +kernel, by decide +kernel⟩
theorem sp_Live_exit_len : ∀ (vs : List V) (H : Hp) (Q : VK) (E : XK), (sp_Live_exit K) vs H Q E → vs.length = 4
  | [_, _, _, _], _, _, _, _ => rfl
  | [], _, _, _, h => h.elim
  | [_], _, _, _, h => h.elim
  | [_, _], _, _, _, h => h.elim
  | [_, _, _], _, _, _, h => h.elim
  | _ :: _ :: _ :: _ :: _ :: _, _, _, _, h => h.elim
theorem me_Live_exit (T : Tx P w K mg) : Me P w K mg base 1 (He.ga K "Live") "__exit__" (sp_Live_exit K) := by
  refine me_of (st := s_Live_exit) (qual := "Live.__exit__") (kws := []) (He.cls_ok (T.c.fact 136 rfl)) (He.meth_ok (T.c.fact 162 rfl)) (T.c.def_ 68 (d := d_Live_exit) rfl) sc_Live_exit sp_Live_exit_len (fun _ _ _ _ _ _ us hl => match us, hl with | [_, _, _, _], _ => rfl) (fun cdv A outer s H vs Q E hr h => ⟨_, (pss_cons (ps_if (pt_cmpR (op_any T hr) (pv 1) pe_non (nomark _)) (pss_one (ps_fld (pv 0) (pe_fd T (pe_fd T (pv 0) rfl) rfl) rfl)) pss_nil)
  (pss_one (ps_fld (pv 0) (pe_fd T (pe_fd T (pv 0) rfl) rfl) rfl))), ?_⟩)
  obtain ⟨a0, a1, a2, a3, rfl⟩ := len4 (sp_Live_exit_len _ _ _ _ h)
  obtain ⟨a, L, b, ss, bg, rfl, hL, hb, hk, q⟩ := h
  walk_at "G"
  rw [decide_eq_false hk]
  walk_at "S"
  obtain ⟨dxb, st, eb, ks⟩ := hb
  refine fL_begun T hL ?_
  refine fl_a eb T.cl_Begun T.na_Begun_had_steps rfl ?_
  refine set_steps T hL ks fun H1 b1 k1 => ?_
  walk_at "S"
  have hba : b ≠ a := by
    obtain ⟨dx', m, st', e, _⟩ := hL
    exact ne_of eb e fun z => by injection z with _ _ z; exact absurd z.symm om_hs
  refine fL_begun T k1 ?_
  refine fl_a (b1 _ _ hba eb) T.cl_Begun T.na_Begun_around rfl ?_
  refine set_begun T k1 fun H2 b2 k2 => ?_
  exact q H2 (fun c u n e => b2 c u n (b1 c u n e)) k2
end
end Nb

/-! part D14 -/
set_option Elab.async false
set_option linter.all false
set_option maxRecDepth 100000
set_option maxHeartbeats 4000000
namespace Nb
open PySem PySem.Spec PyProof.Rows L2
local macro_rules | `(tactic| walk_at "S") => `(tactic| (try simp only [tSeq, tNext, tRet, tIfS, tDrop, tAsg, gName, tFor_eq, tWhile_eq, tLc_eq, tLc2_eq, tDc_eq, sFld_eq, sDPut_eq, tPar, tPar3, tC, tVar, tCB, tOp, tTup, tLst, tChain, tDGet_eq, tDGet2, tAndV, tOrV, tNotV, tIf, tLstRg, tRg1, tDisp, tPairs, tUn, rU, tTest, tNot, tB, tAnd, tOr, tYes, tSl, tPart, tNoPart, tRevL, tM1, tDNewK, tDNewT, gCons_c, gNil_n, gSub, gTup_eq, iRng1_eq, iList_eq, iTup_eq, iSeq_eq, iStr, iKeys_eq, iVals_eq, iEnum_eq, cx_K, tCons, tNil, tBM, tCall, tMake, tProp_eq, tMeth_eq, tFld_eq, tStar_eq, iZipM_eq, tDisp1, L2.start, List.map_cons, List.map_nil, List.length_cons, List.length_nil, List.cons_append, List.nil_append, List.append_nil, List.getElem?_cons_zero, List.getElem?_cons_succ, List.set_cons_zero, List.set_cons_succ, Option.some.injEq, exists_eq_left', exists_eq_left, V.bl.injEq, V.int.injEq, V.str.injEq, V.ref.injEq, if_true, if_false, Nat.reduceAdd, Nat.reduceSub, List.replicate_succ, List.replicate_zero, Bool.not_true, Bool.not_false, Bool.false_eq_true, if_neg, not_false_eq_true, wipe]))
local macro_rules | `(tactic| walk_at "G") => `(tactic| (walk_at "S"; repeat ((first | with_reducible refine o_add ?_ | with_reducible refine o_sub ?_ | with_reducible refine o_mul ?_ | with_reducible refine o_lt ?_ | with_reducible refine o_le ?_ | with_reducible refine o_gt ?_ | with_reducible refine o_ge ?_ | with_reducible refine o_eqI ?_ | with_reducible refine o_neI ?_ | with_reducible refine o_eqS ?_ | with_reducible refine o_neS ?_ | with_reducible refine o_isN ?_ | with_reducible refine o_notN ?_ | with_reducible refine i_int ?_ | with_reducible refine i_intB ?_ | with_reducible refine i_str ?_); walk_at "S")))
section
variable {P : Program} {w : World} {K : PySem.W.Frag} {mg : Str → Option Value} {base : Heap}
def sp__law_led : Sp := fun vs H Q _ => match vs with
  | [x, i, v] => ∃ m s l, rMo H x m ∧ i = .int s ∧ rL rS H v l ∧ inN m.1.length s ∧ (∀ b ∈ l, b ∈ m.2.map Prod.fst) ∧ Q (.int (runM m.2 s l)) H
  | _ => False
theorem sc__law_led : FnScope ["_law_model_here", "_law_spot", "_law_acts", "_law_name"] ["_law_model_here", "_law_spot", "_law_acts"] (defScope s__law_led) := ⟨rfl, rfl, rfl, by decide +kernel, rfl, by decide +kernel, by decide +kernel⟩
theorem sp__law_led_len : ∀ (vs : List V) (H : Hp) (Q : VK) (E : XK), sp__law_led vs H Q E → vs.length = 3
  | [_, _, _], _, _, _, _ => rfl
  | [], _, _, _, h => h.elim
  | [_], _, _, _, h => h.elim
  | [_, _], _, _, _, h => h.elim
  | _ :: _ :: _ :: _ :: _, _, _, _, h => h.elim
theorem cal__law_led (T : Tx P w K mg) : Cl P w K mg base 1 "_law_led" sp__law_led [] := by
  refine cl_of (st := s__law_led) (qual := "_law_led") (kws := []) (T.c.def_ 84 (d := d__law_led) rfl) sc__law_led sp__law_led_len (T.glo 74 rfl) (fun _ _ _ _ _ _ us hl => match us, hl with | [_, _, _], _ => rfl) (fun cdv A outer s H vs Q E hr h => ⟨_, (pss_cons (ps_for PassesOwn.never rfl (pi_ls T (pv 2)) (pg_name (i := 3) sc__law_led.nd rfl (Or.inl rfl)) (pss_one (ps_set (i := 1) sc__law_led.nd rfl (Or.inl rfl) (pe_ix (ix_any T hr) (pe_dget (hu_of hr) (pe_dget (hu_of hr) (pv 0) pe_str (fun _ _ => rfl)) (pv 3) (fun _ _ => rfl)) (pv 1) (fun _ _ => rfl)))))
  (pss_one (ps_ret (pv 1)))), ?_⟩)
  obtain ⟨a0, a1, a2, rfl⟩ := len3 (sp__law_led_len _ _ _ _ h)
  obtain ⟨m, s', l, hM, rfl, hl, hs, hb, q⟩ := h
  walk_at "S"
  refine ls_L hl fun c ec hc => ?_
  refine for_L (r := rS) (l := l) (fun i σ H' => H' = H ∧ ∃ o, σ = [some a0, some (.int (runM m.2 s' (l.take i))), some a2, o]) ⟨rfl, none, rfl⟩ (fun i σ H' _ ⟨e, _⟩ => e ▸ hc) ?_ ?_
  · rintro i x b σ H' hi ⟨rfl, hw⟩ ⟨rfl, o, rfl⟩
    have hbm := hb b (List.mem_of_getElem? hi)
    obtain ⟨mp, hm⟩ := lookup_of_key hbm
    obtain ⟨o1, o2⟩ := hM.2.ok _ (lookup_mem hm)
    have hst : inN m.1.length (runM m.2 s' (l.take i)) := runM_ok hM.2.ok (fun a ha => hb a (List.mem_of_mem_take ha)) hs
    walk_at "S"
    refine gMo_maps hM fun d kd => ?_
    refine dg_R (r := rL rI) kd hm fun y ry => ?_
    refine seen_atL ry hst o1 ?_
    have e2 : runM m.2 s' (l.take (i + 1)) = gi mp (runM m.2 s' (l.take i)) := by
      unfold runM
      rw [fold_take _ _ hi]
      simp [step1, hm]
    rw [e2]
    exact ⟨rfl, _, rfl⟩
  · rintro σ H' ⟨rfl, o, rfl⟩
    walk_at "S"
    rw [List.take_length]
    exact q
def sp__law_folk : Sp := fun vs H Q _ => match vs with
  | [x] => ∃ rows, rL rE H x rows ∧ rows.length < 64 ∧ PuF (rL rS) (folk rows) Q H
  | _ => False
theorem sc__law_folk : FnScope ["_law_rows", "_law_who", "_law_name"] ["_law_rows"] (defScope s__law_folk) := ⟨rfl, rfl, rfl, by decide +kernel, rfl, by decide +kernel, by decide +kernel⟩
theorem sp__law_folk_len : ∀ (vs : List V) (H : Hp) (Q : VK) (E : XK), sp__law_folk vs H Q E → vs.length = 1
  | [_], _, _, _, _ => rfl
  | [], _, _, _, h => h.elim
  | _ :: _ :: _, _, _, _, h => h.elim
theorem cal__law_folk (T : Tx P w K mg) : Cl P w K mg base 1 "_law_folk" sp__law_folk [] := by
  refine cl_of (st := s__law_folk) (qual := "_law_folk") (kws := []) (T.c.def_ 88 (d := d__law_folk) rfl) sc__law_folk sp__law_folk_len (T.glo 78 rfl) (fun _ _ _ _ _ _ us hl => match us, hl with | [_], _ => rfl) (fun cdv A outer s H vs Q E hr h => ⟨_, (pss_one (ps_ret (pe_callB (cl_any (f := .builtin "sorted") T hr) rfl (T.free 116 rfl) (by decide +kernel) (pa_cons (pe_callTy (cl_any (f := .type "set") T hr) rfl (T.free 115 rfl) (by decide +kernel) (pa_cons (pe_lc (own := [("_law_who", 1), ("_law_name", 2)]) rfl sc__law_folk.nd (pi_ls T (pv 0)) (blkOk_by (own := [("_law_who", 1), ("_law_name", 2)]) (N := ["_law_rows", "_law_who", "_law_name"]) (sc := defScope s__law_folk) (by decide +kernel)) (fun _ _ _ _ _ => (pg_tk (n := 2) T rfl (pgs_cons (pg_name (i := 1) sc__law_folk.nd rfl (Or.inl rfl)) (pgs_cons (pg_name (i := 2) sc__law_folk.nd rfl (Or.inl rfl)) pgs_nil)))) (fun _ _ _ _ _ => pts_one (pt_cmpR (op_any T hr) (pv 1) pe_non (nomark _))) (fun _ _ _ _ _ => (pv 1))) pa_nil)) pa_nil)))), ?_⟩)
  obtain ⟨a0, rfl⟩ := len1 (sp__law_folk_len _ _ _ _ h)
  obtain ⟨rows, hr', h64, q⟩ := h
  walk_at "S"
  refine ls_L hr' fun c ec hc => ?_
  refine lc_L (r := rE) (r' := rS) (fun e => e.1) hc (fun x e H1 hb s1 rx Yk N k1 k2 => ?_) fun D H1 s1 hD kD => ?_
  · walk_at "S"
    refine tup_P rx fun y z ry rz => ?_
    obtain ⟨rfl, hw⟩ := ry
    walk_at "S"
    refine ⟨trivial, o_notNO ?_⟩
    walk_at "S"
    cases e1 : e.1 with
    | none =>
      simp only [decide_true, Bool.not_true, Bool.false_eq_true, if_false]
      exact k2 e1 _ (same_refl _)
    | some s =>
      simp only [reduceCtorEq, decide_false, Bool.not_false, if_true]
      exact k1 _ e1 _ _ (same_refl _) ⟨rfl, hw _ e1⟩
  · walk_at "S"
    have n64 : (whos rows).length < 64 := Nat.lt_of_le_of_lt (List.length_filterMap_le _ _) h64
    have kD' : rL rS H1 (.ref D) (whos rows) := kD
    refine c_setS kD' n64 fun p hp => ?_
    refine c_sortSet upd_same (rL_all kD' fun _ _ z => z.2) n64 fun t H2 s2 ht k2 => ?_
    have s12 := (same_new (o := SetW w p (whos rows)) s1 hp).trans s2
    exact q t H2 s12 ((same_new (o := SetW w p (whos rows)) s1 hp).free ht) k2
def sp__law_rest : Sp := fun vs H Q _ => match vs with
  | [x, y] => ∃ rows lot, rL rE H x rows ∧ rT rS H y lot ∧ PuF (rL rE) (rest rows lot) Q H
  | _ => False
theorem sc__law_rest : FnScope ["_law_rows", "_law_lot_here", "_law_entry"] ["_law_rows", "_law_lot_here"] (defScope s__law_rest) := ⟨rfl, rfl, rfl, by decide +kernel, rfl, by decide +kernel, by decide +kernel⟩
theorem sp__law_rest_len : ∀ (vs : List V) (H : Hp) (Q : VK) (E : XK), sp__law_rest vs H Q E → vs.length = 2
  | [_, _], _, _, _, _ => rfl
  | [], _, _, _, h => h.elim
  | [_], _, _, _, h => h.elim
  | _ :: _ :: _ :: _, _, _, _, h => h.elim
theorem cal__law_rest (T : Tx P w K mg) : Cl P w K mg base 1 "_law_rest" sp__law_rest [] := by
  refine cl_of (st := s__law_rest) (qual := "_law_rest") (kws := []) (T.c.def_ 89 (d := d__law_rest) rfl) sc__law_rest sp__law_rest_len (T.glo 79 rfl) (fun _ _ _ _ _ _ us hl => match us, hl with | [_, _], _ => rfl) (fun cdv A outer s H vs Q E hr h => ⟨_, (pss_one (ps_ret (pe_lc (own := [("_law_entry", 2)]) rfl sc__law_rest.nd (pi_ls T (pv 0)) (blkOk_by (own := [("_law_entry", 2)]) (N := ["_law_rows", "_law_lot_here", "_law_entry"]) (sc := defScope s__law_rest) (by decide +kernel)) (fun _ _ _ _ _ => (pg_name (i := 2) sc__law_rest.nd rfl (Or.inl rfl))) (fun _ _ _ _ _ => pts_one (pt_cmpR (op_any T hr) (pe_ix (ix_any T hr) (pv 2) pe_int (fun _ _ => rfl)) (pv 1) (by rfl))) (fun _ _ _ _ _ => (pv 2))))), ?_⟩)
  obtain ⟨a0, a1, rfl⟩ := len2 (sp__law_rest_len _ _ _ _ h)
  obtain ⟨rows, lot, hr', hl, q⟩ := h
  walk_at "S"
  refine ls_L hr' fun c ec hc => ?_
  refine lc_L (r := rE) (r' := rE) (fun e => if (!decide (e.1 ∈ lot.map some)) = true then some e else none) hc (fun x e H1 hb s1 rx Yk N k1 k2 => ?_) fun D H1 s1 hD kD => ?_
  · walk_at "S"
    refine ⟨trivial, ?_⟩
    refine x_P0 rx fun y ry => ?_
    obtain ⟨rfl, hw⟩ := ry
    refine o_notinT (Mo.mo s1 hl) ?_
    walk_at "S"
    by_cases hm : e.1 ∈ lot.map some
    · rw [decide_eq_true hm]
      walk_at "S"
      exact k2 (by rw [decide_eq_true hm]; rfl) _ (same_refl _)
    · rw [decide_eq_false hm]
      walk_at "S"
      exact k1 _ (by rw [decide_eq_false hm]; rfl) _ _ (same_refl _) rx
  · rw [fm_if, List.map_id'] at kD
    exact q D H1 s1 hD kD
def sp__law_behind : Sp := fun vs H Q _ => match vs with
  | [x, y, z] => ∃ m rows lot, rMo H x m ∧ rL rE H y rows ∧ rT rS H z lot ∧ okRows m.2 rows ∧ PuV (.int (behind m.2 rows lot)) Q H
  | _ => False
theorem sc__law_behind : FnScope ["_law_model_here", "_law_rows", "_law_lot_here", "_law_who", "_law_name"] ["_law_model_here", "_law_rows", "_law_lot_here"] (defScope s__law_behind) := ⟨rfl, rfl, rfl, by decide +kernel, rfl, by decide +kernel, by decide +kernel⟩
theorem sp__law_behind_len : ∀ (vs : List V) (H : Hp) (Q : VK) (E : XK), sp__law_behind vs H Q E → vs.length = 3
  | [_, _, _], _, _, _, _ => rfl
  | [], _, _, _, h => h.elim
  | [_], _, _, _, h => h.elim
  | [_, _], _, _, _, h => h.elim
  | _ :: _ :: _ :: _ :: _, _, _, _, h => h.elim
theorem cal__law_behind (T : Tx P w K mg) : Cl P w K mg base 2 "_law_behind" sp__law_behind [] := by
  refine cl_of (st := s__law_behind) (qual := "_law_behind") (kws := []) (T.c.def_ 90 (d := d__law_behind) rfl) sc__law_behind sp__law_behind_len (T.glo 80 rfl) (fun _ _ _ _ _ _ us hl => match us, hl with | [_, _, _], _ => rfl) (fun cdv A outer s H vs Q E hr h => ⟨_, (pss_one (ps_ret (pe_cl (cal__law_led T) hr (by decide) rfl (pa_cons (pv 0) (pa_cons pe_int (pa_cons (pe_lc (own := [("_law_who", 3), ("_law_name", 4)]) rfl sc__law_behind.nd (pi_ls T (pe_cl (cal__law_rest T) hr (by decide) rfl (pa_cons (pv 1) (pa_cons (pv 2) pa_nil)))) (blkOk_by (own := [("_law_who", 3), ("_law_name", 4)]) (N := ["_law_model_here", "_law_rows", "_law_lot_here", "_law_who", "_law_name"]) (sc := defScope s__law_behind) (by decide +kernel)) (fun _ _ _ _ _ => (pg_tk (n := 2) T rfl (pgs_cons (pg_name (i := 3) sc__law_behind.nd rfl (Or.inl rfl)) (pgs_cons (pg_name (i := 4) sc__law_behind.nd rfl (Or.inl rfl)) pgs_nil)))) (fun _ _ _ _ _ => pts_nil) (fun _ _ _ _ _ => (pv 4))) pa_nil)))))), ?_⟩)
  obtain ⟨a0, a1, a2, rfl⟩ := len3 (sp__law_behind_len _ _ _ _ h)
  obtain ⟨m, rows, lot, hM, hr', hl, ok, q⟩ := h
  have lo := hM.2.lo
  walk_at "S"
  refine ⟨rows, lot, hr', hl, fun t H1 s1 ht k1 => ?_⟩
  refine ls_L k1 fun c ec hc => ?_
  refine lc_L (r := rE) (r' := rS) (fun e => some e.2) hc (fun x e H2 hb s2 rx Yk N k1 k2 => ?_) fun D H2 s2 hD kD => ?_
  · walk_at "S"
    refine tup_P rx fun y z ry rz => ?_
    walk_at "S"
    exact ⟨trivial, k1 _ rfl _ _ (same_refl _) rz⟩
  · rw [fm_some] at kD
    refine ⟨m, 0, _, Mo.mo (s1.trans s2) hM, rfl, kD, ⟨by omega, by omega⟩, fun b hb => ?_, q _ (s1.trans s2)⟩
    obtain ⟨e, he, rfl⟩ := List.mem_map.mp hb
    exact rest_ok ok e he
def sp__law_truth : Sp := fun vs H Q _ => match vs with
  | [x, y, z] => ∃ m rows lot, rMo H x m ∧ rL rE H y rows ∧ rT rS H z lot ∧ okRows m.2 rows ∧ PuV (.int (gi m.1 (behind m.2 rows lot))) Q H
  | _ => False
theorem sc__law_truth : FnScope ["_law_model_here", "_law_rows", "_law_lot_here"] ["_law_model_here", "_law_rows", "_law_lot_here"] (defScope s__law_truth) := ⟨rfl, rfl, rfl, by decide +kernel, rfl, by decide +kernel, by decide +kernel⟩
theorem sp__law_truth_len : ∀ (vs : List V) (H : Hp) (Q : VK) (E : XK), sp__law_truth vs H Q E → vs.length = 3
  | [_, _, _], _, _, _, _ => rfl
  | [], _, _, _, h => h.elim
  | [_], _, _, _, h => h.elim
  | [_, _], _, _, _, h => h.elim
  | _ :: _ :: _ :: _ :: _, _, _, _, h => h.elim
theorem cal__law_truth (T : Tx P w K mg) : Cl P w K mg base 3 "_law_truth" sp__law_truth [] := by
  refine cl_of (st := s__law_truth) (qual := "_law_truth") (kws := []) (T.c.def_ 93 (d := d__law_truth) rfl) sc__law_truth sp__law_truth_len (T.glo 83 rfl) (fun _ _ _ _ _ _ us hl => match us, hl with | [_, _, _], _ => rfl) (fun cdv A outer s H vs Q E hr h => ⟨_, (pss_one (ps_ret (pe_ix (ix_any T hr) (pe_dget (hu_of hr) (pv 0) pe_str (fun _ _ => rfl)) (pe_cl (cal__law_behind T) hr (by decide) rfl (pa_cons (pv 0) (pa_cons (pv 1) (pa_cons (pv 2) pa_nil)))) (fun _ _ => rfl)))), ?_⟩)
  obtain ⟨a0, a1, a2, rfl⟩ := len3 (sp__law_truth_len _ _ _ _ h)
  obtain ⟨m, rows, lot, hM, hr', hl, ok, q⟩ := h
  have lo := hM.2.lo
  walk_at "S"
  refine gMo_shows hM fun y ky => ?_
  refine ⟨m, rows, lot, hM, hr', hl, ok, fun H1 s1 => ?_⟩
  exact seen_atL (Mo.mo s1 ky) (behind_ok (by omega) hM.2.ok ok) rfl (q _ s1)
def sp__law_given : Sp := fun vs H Q _ => match vs with
  | [x, y] => ∃ rows p, rL rE H x rows ∧ y = .str p ∧ PuF (rL rE) (gave rows p) Q H
  | _ => False
theorem sc__law_given : FnScope ["_law_rows", "_law_who", "_law_entry"] ["_law_rows", "_law_who"] (defScope s__law_given) := ⟨rfl, rfl, rfl, by decide +kernel, rfl, by decide +kernel, by decide +kernel⟩
theorem sp__law_given_len : ∀ (vs : List V) (H : Hp) (Q : VK) (E : XK), sp__law_given vs H Q E → vs.length = 2
  | [_, _], _, _, _, _ => rfl
  | [], _, _, _, h => h.elim
  | [_], _, _, _, h => h.elim
  | _ :: _ :: _ :: _, _, _, _, h => h.elim
theorem cal__law_given (T : Tx P w K mg) : Cl P w K mg base 1 "_law_given" sp__law_given [] := by
  refine cl_of (st := s__law_given) (qual := "_law_given") (kws := []) (T.c.def_ 97 (d := d__law_given) rfl) sc__law_given sp__law_given_len (T.glo 87 rfl) (fun _ _ _ _ _ _ us hl => match us, hl with | [_, _], _ => rfl) (fun cdv A outer s H vs Q E hr h => ⟨_, (pss_one (ps_ret (pe_lc (own := [("_law_entry", 2)]) rfl sc__law_given.nd (pi_ls T (pv 0)) (blkOk_by (own := [("_law_entry", 2)]) (N := ["_law_rows", "_law_who", "_law_entry"]) (sc := defScope s__law_given) (by decide +kernel)) (fun _ _ _ _ _ => (pg_name (i := 2) sc__law_given.nd rfl (Or.inl rfl))) (fun _ _ _ _ _ => pts_nil) (fun _ _ _ _ _ => (pe_tup (pa_cons (pe_ifExp (pt_cmpR (op_any T hr) (pe_ix (ix_any T hr) (pv 2) pe_int (fun _ _ => rfl)) (pv 1) (nomark _)) pe_non (pe_ix (ix_any T hr) (pv 2) pe_int (fun _ _ => rfl))) (pa_cons (pe_ix (ix_any T hr) (pv 2) pe_int (fun _ _ => rfl)) pa_nil))))))), ?_⟩)
  obtain ⟨a0, a1, rfl⟩ := len2 (sp__law_given_len _ _ _ _ h)
  obtain ⟨rows, p, hr', rfl, q⟩ := h
  walk_at "S"
  refine ls_L hr' fun c ec hc => ?_
  refine lc_L (r := rE) (r' := rE) (fun e => some (if e.1 = some p then (none, e.2) else e)) hc (fun x e H1 hb s1 rx Yk N k1 k2 => ?_) fun D H1 s1 hD kD => ?_
  · walk_at "S"
    refine ⟨trivial, ?_⟩
    refine x_P0 rx fun y ry => ?_
    obtain ⟨rfl, hw⟩ := id ry
    refine o_eq scOS ?_
    rw [eqOS]
    walk_at "S"
    by_cases he : e.1 = some p
    · rw [decide_eq_true he]
      walk_at "S"
      refine x_P1 rx fun z rz => ?_
      walk_at "S"
      exact ⟨by decide, fun t ht => k1 _ (by rw [if_pos he]) _ _ (same_new (same_refl _) ht) (mk_P (r := rO) ht ⟨rfl, fun _ z => by cases z⟩ rz)⟩
    · rw [decide_eq_false he]
      walk_at "S"
      refine x_P0 rx fun z rz => ?_
      refine x_P1 rx fun z2 rz2 => ?_
      walk_at "S"
      exact ⟨by decide, fun t ht => k1 _ (by rw [if_neg he]) _ _ (same_new (same_refl _) ht) (mk_P ht rz rz2)⟩
  · rw [fm_some] at kD
    exact q D H1 s1 hD kD
def sp__law_entries : Sp := fun vs H Q _ => match vs with
  | [x, y] => ∃ m ppl, rMo H x m ∧ rL rS H y ppl ∧ ppl.length ≤ 6 ∧ PuF (rL rE) (ents ppl (m.2.map Prod.fst)) Q H
  | _ => False
theorem sc__law_entries : FnScope ["_law_model_here", "_law_folk_here", "_law_found", "_law_who", "_law_name"] ["_law_model_here", "_law_folk_here"] (defScope s__law_entries) := ⟨rfl, rfl, rfl, by decide +kernel, rfl, by decide +kernel, by decide +kernel⟩
theorem sp__law_entries_len : ∀ (vs : List V) (H : Hp) (Q : VK) (E : XK), sp__law_entries vs H Q E → vs.length = 2
  | [_, _], _, _, _, _ => rfl
  | [], _, _, _, h => h.elim
  | [_], _, _, _, h => h.elim
  | _ :: _ :: _ :: _, _, _, _, h => h.elim
theorem cal__law_entries (T : Tx P w K mg) : Cl P w K mg base 1 "_law_entries" sp__law_entries [] := by
  refine cl_of (st := s__law_entries) (qual := "_law_entries") (kws := []) (T.c.def_ 94 (d := d__law_entries) rfl) sc__law_entries sp__law_entries_len (T.glo 84 rfl) (fun _ _ _ _ _ _ us hl => match us, hl with | [_, _], _ => rfl) (fun cdv A outer s H vs Q E hr h => ⟨_, (pss_cons (ps_set (i := 2) sc__law_entries.nd rfl (Or.inl rfl) (pe_lst pa_nil))
  (pss_cons (ps_for PassesOwn.never rfl (pi_ls T (pe_op (op_any T hr) (pe_lst (pa_cons pe_non pa_nil)) (pe_callB (cl_any (f := .builtin "sorted") T hr) rfl (T.free 116 rfl) (by decide +kernel) (pa_cons (pv 1) pa_nil)))) (pg_name (i := 3) sc__law_entries.nd rfl (Or.inr rfl)) (pss_one (ps_set (i := 2) sc__law_entries.nd rfl (Or.inl rfl) (pe_op (op_any T hr) (pv 2) (pe_lc (own := [("_law_name", 4)]) rfl sc__law_entries.nd (pi_ls T (pe_callB (cl_any (f := .builtin "sorted") T hr) rfl (T.free 116 rfl) (by decide +kernel) (pa_cons (pe_dget (hu_of hr) (pv 0) pe_str (fun _ _ => rfl)) pa_nil))) (blkOk_by (own := [("_law_name", 4)]) (N := ["_law_model_here", "_law_folk_here", "_law_found", "_law_who", "_law_name"]) (sc := defScope s__law_entries) (by decide +kernel)) (fun _ _ _ _ _ => (pg_name (i := 4) sc__law_entries.nd rfl (Or.inl rfl))) (fun _ _ _ _ _ => pts_nil) (fun _ _ _ _ _ => (pe_tup (pa_cons (pv 3) (pa_cons (pv 4) pa_nil)))))))))
  (pss_one (ps_ret (pv 2))))), ?_⟩)
  obtain ⟨a0, a1, rfl⟩ := len2 (sp__law_entries_len _ _ _ _ h)
  obtain ⟨m, ppl, hM, hp, n6, q⟩ := h
  have d2 := hM.2.d2
  walk_at "S"
  refine ⟨by decide, fun f hf => ⟨by decide, fun t ht => ?_⟩⟩
  have s1 : Same H (upd H f (.lst [])) := same_new (same_refl _) hf
  have s2 : Same H (upd (upd H f (.lst [])) t (.lst [.non])) := same_new s1 ht
  have kf : rL rE (upd (upd H f (.lst [])) t (.lst [.non])) (.ref f) [] := Mo.mo (same_new (same_refl _) ht) (mk_L (r := rE) hf trivial (by decide))
  have kt : rL rO (upd (upd H f (.lst [])) t (.lst [.non])) (.ref t) [none] := mk_L ht (A2.one ⟨rfl, nofun⟩) (by decide : 1 ≤ lim)
  generalize upd (upd H f (.lst [])) t (.lst [.non]) = H2 at s2 kf kt
  refine c_sortS (Mo.mo s2 hp) fun p3 H3 s3 hp3 k3 => ?_
  have k3' : rL rO H3 (.ref p3) ((srt ppl).map some) := by
    obtain ⟨a, xs, e, e1, k, hl⟩ := k3
    exact ⟨a, xs, e, e1, A2_some k, by rw [List.length_map]; exact hl⟩
  have h0 : 28 ≤ lim := by decide
  refine o_catR (Mo.mo s3 kt) k3' (by simp only [List.length_cons, List.length_nil, List.length_map, srt_len]; omega) fun p4 H4 s4 hp4 k4 => ?_
  have s24 := s3.trans s4
  have s04 := s2.trans s24
  walk_at "S"
  refine ls_L k4 fun c ec hc => ?_
  have part : ∀ i, ((([none] ++ (srt ppl).map some).take i).flatMap fun p => (srt (m.2.map Prod.fst)).map fun d => ((p, d) : Entry)).length ≤ 14 := fun i => by
    rw [flat_len _ m.2.length _ (fun _ => by rw [List.length_map, srt_len, List.length_map]), List.length_take]
    have h1 : min i ([none] ++ (srt ppl).map some).length ≤ 7 := by simp only [List.length_append, List.length_cons, List.length_nil, List.length_map, srt_len]; omega
    exact Nat.le_trans (Nat.mul_le_mul h1 d2) (by decide)
  refine for_L (r := rO) (l := [none] ++ (srt ppl).map some) (fun i σ H' => ∃ f o3, σ = [some a0, some a1, some (.ref f), o3, none] ∧ Same H4 H' ∧ H f = none ∧ rL rE H' (.ref f) ((([none] ++ (srt ppl).map some).take i).flatMap fun p => (srt (m.2.map Prod.fst)).map fun d => ((p, d) : Entry))) ⟨f, none, rfl, same_refl _, hf, Mo.mo s24 kf⟩ (fun i σ H' _ ⟨_, _, _, s, _⟩ => Mo.mo s hc) ?_ ?_
  · rintro i x b σ H5 hi rx ⟨f, o3, rfl, s5, hf5, k5⟩
    have s05 := s04.trans s5
    have pt := part (i + 1)
    have e1 : ([none] ++ (srt ppl).map some).take (i + 1) = ([none] ++ (srt ppl).map some).take i ++ [b] := by rw [List.take_succ, hi]; rfl
    rw [e1, List.flatMap_append] at pt ⊢
    generalize (([none] ++ (srt ppl).map some).take i).flatMap (fun p => (srt (m.2.map Prod.fst)).map fun d => ((p, d) : Entry)) = F at k5 pt ⊢
    walk_at "S"
    refine gMo_maps (Mo.mo s05 hM) fun y ky => ?_
    refine c_sortD (m := m.2) ky (by omega) fun p6 H6 s6 hp6 k6 => ?_
    refine ls_L k6 fun c' ec' hc' => ?_
    refine lc_L (r := rS) (r' := rE) (fun d => some ((b, d) : Entry)) hc' (fun z d H7 hb s7 rz Yk N j1 j2 => ?_) fun D H7 s7 hD kD => ?_
    · walk_at "S"
      exact ⟨trivial, by decide, fun p hp => j1 _ rfl _ _ (same_new (same_refl _) hp) (mk_P hp (Tt.tm (same_t (s6.trans s7)) rx) rz)⟩
    · rw [fm_some] at kD
      have s67 := s6.trans s7
      have es : [b].flatMap (fun p => (srt (m.2.map Prod.fst)).map fun d => ((p, d) : Entry)) = (srt (m.2.map Prod.fst)).map fun d => ((b, d) : Entry) := by simp
      rw [es] at pt ⊢
      rw [List.length_append] at pt
      refine o_catR (Mo.mo s67 k5) kD (by simp only [List.length_map] at pt ⊢; omega) fun p8 H8 s8 hp8 k8 => ?_
      walk_at "S"
      exact ⟨p8, _, rfl, (s5.trans s67).trans s8, (s05.trans s67).free hp8, k8⟩
  · rintro σ H5 ⟨f, o3, rfl, s5, hf5, k5⟩
    rw [List.take_length] at k5
    walk_at "S"
    exact q f H5 (s04.trans s5) hf5 k5
def sp__law_lots : Sp := fun vs H Q _ => match vs with
  | [x, y] => ∃ l few, rL rS H x l ∧ y = .int few ∧ few ≤ 6 ∧ l.length ≤ 6 ∧ PuF (rL (rT rS)) (lots l few) Q H
  | _ => False
theorem sc__law_lots : FnScope ["_law_folk_here", "_law_few", "_law_found", "_law_who", "_law_size", "_law_lot_here"] ["_law_folk_here", "_law_few"] (defScope s__law_lots) := ⟨rfl, rfl, rfl, by decide +kernel, rfl, by decide +kernel, by decide +kernel⟩
theorem sp__law_lots_len : ∀ (vs : List V) (H : Hp) (Q : VK) (E : XK), sp__law_lots vs H Q E → vs.length = 2
  | [_, _], _, _, _, _ => rfl
  | [], _, _, _, h => h.elim
  | [_], _, _, _, h => h.elim
  | _ :: _ :: _ :: _, _, _, _, h => h.elim
theorem cal__law_lots (T : Tx P w K mg) : Cl P w K mg base 1 "_law_lots" sp__law_lots [] := by
  refine cl_of (st := s__law_lots) (qual := "_law_lots") (kws := []) (T.c.def_ 91 (d := d__law_lots) rfl) sc__law_lots sp__law_lots_len (T.glo 81 rfl) (fun _ _ _ _ _ _ us hl => match us, hl with | [_, _], _ => rfl) (fun cdv A outer s H vs Q E hr h => ⟨_, (pss_cons (ps_set (i := 2) sc__law_lots.nd rfl (Or.inl rfl) (pe_lst (pa_cons (pe_tup pa_nil) pa_nil)))
  (pss_cons (ps_for PassesOwn.never rfl (pi_ls T (pe_callB (cl_any (f := .builtin "sorted") T hr) rfl (T.free 116 rfl) (by decide +kernel) (pa_cons (pv 0) pa_nil))) (pg_name (i := 3) sc__law_lots.nd rfl (Or.inr rfl)) (pss_one (ps_set (i := 2) sc__law_lots.nd rfl (Or.inl rfl) (pe_op (op_any T hr) (pv 2) (pe_lc (own := [("_law_lot_here", 5)]) rfl sc__law_lots.nd (pi_ls T (pv 2)) (blkOk_by (own := [("_law_lot_here", 5)]) (N := ["_law_folk_here", "_law_few", "_law_found", "_law_who", "_law_size", "_law_lot_here"]) (sc := defScope s__law_lots) (by decide +kernel)) (fun _ _ _ _ _ => (pg_name (i := 5) sc__law_lots.nd rfl (Or.inl rfl))) (fun _ _ _ _ _ => pts_one (pt_cmpR (op_any T hr) (pe_callB (cl_any (f := .builtin "len") T hr) rfl (T.free 109 rfl) (by decide +kernel) (pa_cons (pv 5) pa_nil)) (pv 1) (nomark _))) (fun _ _ _ _ _ => (pe_op (op_any T hr) (pv 5) (pe_tup (pa_cons (pv 3) pa_nil)))))))))
  (pss_one (ps_ret (pe_lc (own := [("_law_size", 4), ("_law_lot_here", 5)]) rfl sc__law_lots.nd (pi_ls T (pe_callB (cl_any (f := .builtin "sorted") T hr) rfl (T.free 116 rfl) (by decide +kernel) (pa_cons (pe_lc (own := [("_law_lot_here", 5)]) rfl sc__law_lots.nd (pi_ls T (pv 2)) (blkOk_by (own := [("_law_lot_here", 5)]) (N := ["_law_folk_here", "_law_few", "_law_found", "_law_who", "_law_size", "_law_lot_here"]) (sc := defScope s__law_lots) (by decide +kernel)) (fun _ _ _ _ _ => (pg_name (i := 5) sc__law_lots.nd rfl (Or.inl rfl))) (fun _ _ _ _ _ => pts_nil) (fun _ _ _ _ _ => (pe_tup (pa_cons (pe_callB (cl_any (f := .builtin "len") T hr) rfl (T.free 109 rfl) (by decide +kernel) (pa_cons (pv 5) pa_nil)) (pa_cons (pv 5) pa_nil))))) pa_nil))) (blkOk_by (own := [("_law_size", 4), ("_law_lot_here", 5)]) (N := ["_law_folk_here", "_law_few", "_law_found", "_law_who", "_law_size", "_law_lot_here"]) (sc := defScope s__law_lots) (by decide +kernel)) (fun _ _ _ _ _ => (pg_tk (n := 2) T rfl (pgs_cons (pg_name (i := 4) sc__law_lots.nd rfl (Or.inl rfl)) (pgs_cons (pg_name (i := 5) sc__law_lots.nd rfl (Or.inl rfl)) pgs_nil)))) (fun _ _ _ _ _ => pts_nil) (fun _ _ _ _ _ => (pv 5))))))), ?_⟩)
  obtain ⟨a0, a1, rfl⟩ := len2 (sp__law_lots_len _ _ _ _ h)
  obtain ⟨l, few, hl, rfl, f6, n6, q⟩ := h
  have h0 : 128 ≤ lim := by decide
  walk_at "S"
  refine ⟨by decide, fun p hp => ⟨by decide, fun f hf => ?_⟩⟩
  have s1 : Same H (upd H p (.tup [])) := same_new (same_refl _) hp
  have s2 : Same H (upd (upd H p (.tup [])) f (.lst [.ref p])) := same_new s1 hf
  have k2 : rL (rT rS) (upd (upd H p (.tup [])) f (.lst [.ref p])) (.ref f) [[]] := mk_L hf (A2.one ⟨p, [], rfl, upd_same, trivial, by decide⟩) (by decide)
  have hfH := s1.free hf
  generalize upd (upd H p (.tup [])) f (.lst [.ref p]) = H2 at s2 k2
  refine c_sortS (Mo.mo s2 hl) fun t H3 s3 ht k3 => ?_
  walk_at "S"
  refine ls_L k3 fun c ec hc => ?_
  have nl : (srt l).length ≤ 6 := by rw [srt_len]; exact n6
  have part : ∀ i, (((srt l).take i).foldl (lotsStep few) [[]]).length ≤ 64 := fun i => by
    have h1 := lotsStep_len (few := few) ((srt l).take i) [[]]
    have h2 : ((srt l).take i).length ≤ 6 := by rw [List.length_take]; omega
    have h3 : 2 ^ ((srt l).take i).length ≤ 2 ^ 6 := Nat.pow_le_pow_right (by decide) h2
    simp at h1
    simp at h3
    omega
  refine for_L (r := rS) (l := srt l) (fun i σ H' => ∃ f o3, σ = [some a0, some (.int few), some (.ref f), o3, none, none] ∧ Same H3 H' ∧ H f = none ∧ rL (rT rS) H' (.ref f) (((srt l).take i).foldl (lotsStep few) [[]])) ⟨f, none, rfl, same_refl _, hfH, Mo.mo s3 k2⟩ (fun i σ H' _ ⟨_, _, _, s, _⟩ => Mo.mo s hc) ?_ ?_
  · rintro i x b σ H4 hi rx ⟨f, o3, rfl, s4, hf4, k4⟩
    obtain ⟨rfl, hw⟩ := rx
    have pt := part (i + 1)
    rw [fold_take _ _ hi] at pt ⊢
    generalize ((srt l).take i).foldl (lotsStep few) [[]] = F at k4 pt ⊢
    walk_at "S"
    refine ls_L k4 fun f' ef hf' => ?_
    refine lc_L (r := rT rS) (r' := rT rS) (fun l => if decide ((l.length : Int) < few) = true then some (l ++ [b]) else none) hf' (fun x lt H5 hb5 s5 rx Yk N j1 j2 => ?_) fun D H5 s5 hD kD => ?_
    · walk_at "S"
      refine ⟨trivial, ?_⟩
      refine c_lenRT rx ?_
      walk_at "G"
      by_cases hlt : (lt.length : Int) < few
      · rw [decide_eq_true hlt]
        walk_at "S"
        refine ⟨by decide, fun p hp => ?_⟩
        have s6 : Same H5 (upd H5 p (.tup [.str b])) := same_new (same_refl _) hp
        have k6 : rT rS (upd H5 p (.tup [.str b])) (.ref p) [b] := mk_T hp (A2.one ⟨rfl, hw⟩) (by decide : 1 ≤ lim)
        generalize upd H5 p (.tup [.str b]) = H6 at s6 k6
        refine o_catTR (Mo.mo s6 rx) k6 (by simp; omega) fun p7 H7 s7 k7 => ?_
        exact j1 _ (by rw [if_pos (decide_eq_true hlt)]) _ _ (s6.trans s7) k7
      · rw [decide_eq_false hlt]
        walk_at "S"
        exact j2 (by rw [decide_eq_false hlt]; rfl) _ (same_refl _)
    · rw [fm_if] at kD
      simp only [lotsStep, List.length_append] at pt
      refine o_catR (Mo.mo s5 k4) kD (by omega) fun p8 H8 s8 hp8 k8 => ?_
      walk_at "S"
      exact ⟨p8, _, rfl, (s4.trans s5).trans s8, ((s2.trans s3).trans (s4.trans s5)).free hp8, k8⟩
  · rintro σ H' ⟨f, o3, rfl, s4, hf4, k⟩
    rw [List.take_length] at k
    have sH := (s2.trans s3).trans s4
    have nF := part (srt l).length
    rw [List.take_length] at nF
    have k' : rL (rT rS) H' (.ref f) (lotsF (srt l) few) := k
    have nF' : (lotsF (srt l) few).length ≤ 64 := nF
    generalize hF : lotsF (srt l) few = F at k' nF'
    walk_at "S"
    refine ls_L k' fun f' ef hf' => ?_
    refine lc_L (r := rT rS) (r' := rL2) (fun l => some ((l.length : Int), l)) hf' (fun x lt H5 hb5 s5 rx Yk N k1 k2 => ?_) fun D H5 s5 hD kD => ?_
    · walk_at "S"
      refine ⟨trivial, ?_⟩
      refine c_lenRT rx ?_
      walk_at "S"
      exact ⟨by decide, fun p hp => k1 _ rfl _ _ (same_new (same_refl _) hp) (mk_P hp rfl rx)⟩
    · walk_at "S"
      rw [fm_some] at kD
      refine c_sort (r := rL2) kD fun t6 H6 s6 ht6 k6 => ?_
      walk_at "S"
      refine ls_L k6 fun c7 ec7 hc7 => ?_
      refine lc_L (r := rL2) (r' := rT rS) (fun p => some p.2) hc7 (fun x lt H8 hb8 s8 rx Yk N k1 k2 => ?_) fun D8 H8 s8 hD8 kD8 => ?_
      · walk_at "S"
        refine tup_P rx fun y z ry rz => ?_
        walk_at "S"
        exact ⟨trivial, k1 _ rfl _ _ (same_refl _) rz⟩
      · have s58 := (s5.trans s6).trans s8
        refine q D8 _ (sH.trans s58) ((sH.trans (s5.trans s6)).free hD8) ?_
        rw [fm_some] at kD8
        show rL (rT rS) H8 (.ref D8) (lotsS (lotsF (srt l) few))
        rw [hF]
        exact kD8
def sp__law_blank : Sp := fun vs H Q _ => match vs with
  | [x] => ∃ few, x = .int few ∧ ∀ d H', Same H H' → H d = none → rH H' (.ref d) ([], few, []) → Q (.ref d) H'
  | _ => False
theorem sc__law_blank : FnScope ["_law_few"] ["_law_few"] (defScope s__law_blank) := ⟨rfl, rfl, rfl, by decide +kernel, rfl, by decide +kernel, by decide +kernel⟩
theorem sp__law_blank_len : ∀ (vs : List V) (H : Hp) (Q : VK) (E : XK), sp__law_blank vs H Q E → vs.length = 1
  | [_], _, _, _, _ => rfl
  | [], _, _, _, h => h.elim
  | _ :: _ :: _, _, _, _, h => h.elim
theorem cal__law_blank (T : Tx P w K mg) : Cl P w K mg base 1 "_law_blank" sp__law_blank [] := by
  refine cl_of (st := s__law_blank) (qual := "_law_blank") (kws := []) (T.c.def_ 98 (d := d__law_blank) rfl) sc__law_blank sp__law_blank_len (T.glo 88 rfl) (fun _ _ _ _ _ _ us hl => match us, hl with | [_], _ => rfl) (fun cdv A outer s H vs Q E hr h => ⟨_, (pss_one (ps_ret (pe_disp (pps_cons pe_str (pe_lst pa_nil) (pps_cons pe_str (pv 0) (pps_cons pe_str (pe_lst pa_nil) pps_nil))) (by rfl) (by rfl) (fun z => by cases z) (by decide)))), ?_⟩)
  obtain ⟨a0, rfl⟩ := len1 (sp__law_blank_len _ _ _ _ h)
  obtain ⟨few, rfl, q⟩ := h
  walk_at "S"
  intro d hd
  refine ⟨by decide, fun r hr2 => ⟨by decide, fun z hz => ?_⟩⟩
  have n1 : d ≠ r := ne_of_none (upd_same : upd H d (.dK []) d = _) hr2
  have n2 : d ≠ z := ne_of_none (by rw [upd_ne n1]; exact upd_same) hz
  have g1 : Same H (upd H d (.dK [])) := same_new (same_refl _) hd
  have g2 := same_new (o := .lst []) g1 hr2
  have g3 := same_new (o := .lst []) g2 hz
  refine ⟨by rw [upd_ne n2, upd_ne n1]; exact upd_same, [(.inr "rows", .ref r), (.inr "few", .int few), (.inr "deeds", .ref z)], rfl, by show 3 ≤ 15; decide, ?_⟩
  have hrz : r ≠ z := ne_of_none (upd_same : upd (upd H d (.dK [])) r (.lst []) r = _) hz
  refine q d _ (same_put g3 hd) hd ⟨d, .ref r, .ref z, rfl, ?_, ⟨r, [], rfl, ?_, trivial, (by decide : 0 ≤ lim)⟩, ⟨z, [], rfl, ?_, trivial, (by decide : 0 ≤ lim)⟩⟩
  · rw [upd_same]
    have k1 : ¬ ((.inr "rows" : Key) = .inr "few") := nk1
    rfl
  · rw [upd_ne (Ne.symm n1), upd_ne hrz]; exact upd_same
  · rw [upd_ne (Ne.symm n2)]; exact upd_same
end
end Nb

/-! part D15 -/
set_option Elab.async false
set_option linter.all false
set_option maxRecDepth 100000
set_option maxHeartbeats 4000000
namespace Nb
open PySem PySem.Spec PyProof.Rows L2
local macro_rules | `(tactic| walk_at "S") => `(tactic| (try simp only [tSeq, tNext, tRet, tIfS, tDrop, tAsg, gName, tFor_eq, tWhile_eq, tLc_eq, tLc2_eq, tDc_eq, sFld_eq, sDPut_eq, tPar, tPar3, tC, tVar, tCB, tOp, tTup, tLst, tChain, tDGet_eq, tDGet2, tAndV, tOrV, tNotV, tIf, tLstRg, tRg1, tDisp, tPairs, tUn, rU, tTest, tNot, tB, tAnd, tOr, tYes, tSl, tPart, tNoPart, tRevL, tM1, tDNewK, tDNewT, gCons_c, gNil_n, gSub, gTup_eq, iRng1_eq, iList_eq, iTup_eq, iSeq_eq, iStr, iKeys_eq, iVals_eq, iEnum_eq, cx_K, tCons, tNil, tBM, tCall, tMake, tProp_eq, tMeth_eq, tFld_eq, tStar_eq, iZipM_eq, tDisp1, L2.start, List.map_cons, List.map_nil, List.length_cons, List.length_nil, List.cons_append, List.nil_append, List.append_nil, List.getElem?_cons_zero, List.getElem?_cons_succ, List.set_cons_zero, List.set_cons_succ, Option.some.injEq, exists_eq_left', exists_eq_left, V.bl.injEq, V.int.injEq, V.str.injEq, V.ref.injEq, if_true, if_false, Nat.reduceAdd, Nat.reduceSub, List.replicate_succ, List.replicate_zero, Bool.not_true, Bool.not_false, Bool.false_eq_true, if_neg, not_false_eq_true, wipe]))
local macro_rules | `(tactic| walk_at "G") => `(tactic| (walk_at "S"; repeat ((first | with_reducible refine o_add ?_ | with_reducible refine o_sub ?_ | with_reducible refine o_mul ?_ | with_reducible refine o_lt ?_ | with_reducible refine o_le ?_ | with_reducible refine o_gt ?_ | with_reducible refine o_ge ?_ | with_reducible refine o_eqI ?_ | with_reducible refine o_neI ?_ | with_reducible refine o_eqS ?_ | with_reducible refine o_neS ?_ | with_reducible refine o_isN ?_ | with_reducible refine o_notN ?_ | with_reducible refine i_int ?_ | with_reducible refine i_intB ?_ | with_reducible refine i_str ?_); walk_at "S")))
section
variable {P : Program} {w : World} {K : PySem.W.Frag} {mg : Str → Option Value} {base : Heap}
abbrev dsO (m : Mdl) : List (List Int) := m.2.map Prod.snd
/-- which pairs are apart: those visited by the turn k + 1, all by the turn k -/
structure Ap (m : Mdl) (k : Nat) (vis : Int → Int → Prop) (f : List (St1 × Int)) : Prop where
  nd : (f.map Prod.fst).Nodup
  key : ∀ p ∈ f, ∃ a b, p.1 = [a, b] ∧ inN m.1.length a ∧ inN m.1.length b
  mem : ∀ a b, inN m.1.length a → inN m.1.length b → ([a, b] ∈ f.map Prod.fst ↔ ek m.1 (dsO m) k a b = false ∨ (vis a b ∧ ek m.1 (dsO m) (k + 1) a b = false))
  val : ∀ p ∈ f, ∀ a b, p.1 = [a, b] → p.2 ≤ (k : Int) + 1 ∧ (p.2 < (k : Int) + 1 ↔ ek m.1 (dsO m) k a b = false)
theorem pair_len {m : Mdl} {f : List (St1 × Int)} (nd : (f.map Prod.fst).Nodup) (key : ∀ p ∈ f, ∃ a b, p.1 = [a, b] ∧ inN m.1.length a ∧ inN m.1.length b) : f.length ≤ m.1.length ^ 2 := by
  have h := few_lists (n := m.1.length) (k := 2) nd fun x hx => by
    obtain ⟨p, hp, rfl⟩ := List.mem_map.mp hx
    obtain ⟨a, b, e, h1, h2⟩ := key p hp
    rw [e]
    exact ⟨rfl, fun i hi => by
      rcases List.mem_cons.mp hi with rfl | hi
      · exact h1
      · simp at hi; subst hi; exact h2⟩
  simpa using h
theorem sq_small {n : Nat} (h : n ≤ 3) : n ^ 2 ≤ 9 := by
  have := Nat.pow_le_pow_left h 2
  simpa using this
theorem lock_S {t : TS} {D : Ends} {σ : L2.St} {H : Hp} {d : Addr} {o : HO} (e : H d = some o) (mu : Mut (some o)) (h : ∀ od, t { nx := fun σ' H' => H' d = some (.frz od o) ∧ D.nx σ' (upd H' d o), rt := fun v H' => H' d = some (.frz od o) ∧ D.rt v (upd H' d o), bk := fun σ' H' => H' d = some (.frz od o) ∧ D.bk σ' (upd H' d o), ct := fun σ' H' => H' d = some (.frz od o) ∧ D.ct σ' (upd H' d o) } σ (upd H d (.frz od o))) : tLock t D σ H := ⟨d, o, e, mu, h⟩
theorem unlock_L {α : Type} {r : RR α} [Tt r] {H : Hp} {v : V} {l : List α} {d : Addr} {kvs : List (Key × V)} {od : Obj} (h : rL r H v l) (e : H d = some (.frz od (.dK kvs))) : rL r (upd H d (.dK kvs)) v l := by
  obtain ⟨a, xs, e0, e1, k, hl⟩ := h
  have n : a ≠ d := ne_of e1 e nofun
  have t : SameT H (upd H d (.dK kvs)) := SameT.upd (SameT.refl _) e nofun
  exact ⟨a, xs, e0, by rw [upd_ne n]; exact e1, k.mono fun _ _ z => Tt.tm t z, hl⟩
abbrev rng (n : Nat) : List Int := (List.range n).map Int.ofNat
theorem rng_at {n i : Nat} {b : Int} (h : (rng n)[i]? = some b) : b = (i : Int) ∧ i < n := by
  rw [List.getElem?_map] at h
  by_cases hi : i < n
  · rw [List.getElem?_range hi] at h
    exact ⟨(Option.some.inj h).symm, hi⟩
  · rw [List.getElem?_eq_none (by simp; omega)] at h; cases h
theorem c_listRg {n : Nat} {p : Addr} {H : Hp} (hp : H p = none) (hn : n ≤ 5) : rL rI (upd H p (.lst (rgV 0 n))) (.ref p) (rng n) := by
  have e : rgV 0 (n : Int) = (rng n).map V.int := by
    unfold rgV rng
    simp [List.map_map, Function.comp_def]
  rw [e]
  exact mk_L hp (A2.of (rng n) fun _ _ => rfl) (by have h0 : 5 ≤ lim := by decide
                                                   simp; omega)
abbrev vis (i j : Nat) (a b : Int) : Prop := a < i ∨ (a = i ∧ b < j)
structure Ap0 (m : Mdl) (vs : Int → Int → Prop) (f : List (St1 × Int)) : Prop where
  nd : (f.map Prod.fst).Nodup
  key : ∀ p ∈ f, ∃ a b, p.1 = [a, b] ∧ inN m.1.length a ∧ inN m.1.length b
  mem : ∀ a b, inN m.1.length a → inN m.1.length b → ([a, b] ∈ f.map Prod.fst ↔ vs a b ∧ ek m.1 (dsO m) 0 a b = false)
  val : ∀ p ∈ f, p.2 = 0
theorem pair_inj {a b c d : Int} : ([a, b] : St1) = [c, d] ↔ a = c ∧ b = d := by simp
theorem nd_snoc {f : List (St1 × Int)} {s : St1} {v : Int} (h : (f.map Prod.fst).Nodup) (n : s ∉ f.map Prod.fst) : ((f ++ [(s, v)]).map Prod.fst).Nodup := by
  rw [List.map_append, List.nodup_append]
  exact ⟨h, by simp, fun x hx y hy e => by simp at hy; subst hy; subst e; exact n hx⟩
section
variable {m : Mdl} {k i j : Nat} {vs ws : Int → Int → Prop} {f : List (St1 × Int)} {a b : Int}
theorem Ap0.congr (h : Ap0 m vs f) (e : ∀ a b, inN m.1.length a → inN m.1.length b → (vs a b ↔ ws a b)) : Ap0 m ws f := ⟨h.nd, h.key, fun a b ha hb => by rw [h.mem a b ha hb, e a b ha hb], h.val⟩
theorem Ap.congr (h : Ap m k vs f) (e : ∀ a b, inN m.1.length a → inN m.1.length b → (vs a b ↔ ws a b)) : Ap m k ws f := ⟨h.nd, h.key, fun a b ha hb => by rw [h.mem a b ha hb, e a b ha hb], h.val⟩
theorem vis_row (h : inN m.1.length b) : vis i m.1.length a b ↔ vis (i + 1) 0 a b := by
  have h1 := h.1
  have h2 := h.2
  unfold vis
  omega
theorem Ap0.put (h : Ap0 m (vis i j) f) (hi : inN m.1.length (i : Int)) (hj : inN m.1.length (j : Int)) (e : ek m.1 (dsO m) 0 i j = false) : ([(i : Int), (j : Int)] : St1) ∉ f.map Prod.fst ∧ Ap0 m (vis i (j + 1)) (f ++ [([(i : Int), (j : Int)], 0)]) := by
  have hn : ([(i : Int), (j : Int)] : St1) ∉ f.map Prod.fst := fun z => by
    have := ((h.mem _ _ hi hj).mp z).1
    unfold vis at this
    omega
  refine ⟨hn, nd_snoc h.nd hn, fun p hp => ?_, fun a b ha hb => ?_, fun p hp => ?_⟩
  · rcases List.mem_append.mp hp with hp | hp
    · exact h.key p hp
    · simp at hp; subst hp; exact ⟨_, _, rfl, hi, hj⟩
  · rw [List.map_append, List.mem_append, h.mem a b ha hb]
    simp only [List.map_cons, List.map_nil, List.mem_singleton, pair_inj]
    unfold vis
    constructor
    · rintro (⟨h1, h2⟩ | ⟨rfl, rfl⟩)
      · exact ⟨by omega, h2⟩
      · exact ⟨by omega, e⟩
    · rintro ⟨h1, h2⟩
      by_cases q : a = i ∧ b = j
      · exact .inr q
      · exact .inl ⟨by omega, h2⟩
  · rcases List.mem_append.mp hp with hp | hp
    · exact h.val p hp
    · simp at hp; subst hp; rfl
theorem Ap0.skip (h : Ap0 m (vis i j) f) (e : ek m.1 (dsO m) 0 i j = true) : Ap0 m (vis i (j + 1)) f := by
  refine ⟨h.nd, h.key, fun a b ha hb => ?_, h.val⟩
  rw [h.mem a b ha hb]
  unfold vis
  constructor
  · rintro ⟨h1, h2⟩
    exact ⟨by omega, h2⟩
  · rintro ⟨h1, h2⟩
    refine ⟨?_, h2⟩
    by_cases q : a = i ∧ b = j
    · obtain ⟨rfl, rfl⟩ := q; rw [e] at h2; cases h2
    · omega
theorem Ap0.done (h : Ap0 m (vis m.1.length 0) f) : Ap m 0 (fun _ _ => False) f := by
  have all : ∀ a b, inN m.1.length a → vis m.1.length 0 a b := fun a b ha => .inl ha.2
  refine ⟨h.nd, h.key, fun a b ha hb => ?_, fun p hp a b e => ?_⟩
  · rw [h.mem a b ha hb]
    exact ⟨fun z => .inl z.2, fun z => ⟨all a b ha, z.resolve_right fun y => y.1⟩⟩
  · obtain ⟨c, d, e2, h1, h2⟩ := h.key p hp
    rw [h.val p hp]
    rw [e] at e2
    obtain ⟨rfl, rfl⟩ := pair_inj.mp e2
    have z := (h.mem _ _ h1 h2).mp (List.mem_map.mpr ⟨p, hp, e⟩)
    exact ⟨by omega, fun _ => z.2, fun _ => by omega⟩
theorem Ap.put (h : Ap m k (vis i j) f) (hi : inN m.1.length (i : Int)) (hj : inN m.1.length (j : Int)) (hn : ([(i : Int), (j : Int)] : St1) ∉ f.map Prod.fst) (e : ek m.1 (dsO m) (k + 1) i j = false) : Ap m k (vis i (j + 1)) (f ++ [([(i : Int), (j : Int)], (k : Int) + 1)]) := by
  refine ⟨nd_snoc h.nd hn, fun p hp => ?_, fun a b ha hb => ?_, fun p hp a b e2 => ?_⟩
  · rcases List.mem_append.mp hp with hp | hp
    · exact h.key p hp
    · simp at hp; subst hp; exact ⟨_, _, rfl, hi, hj⟩
  · rw [List.map_append, List.mem_append, h.mem a b ha hb]
    simp only [List.map_cons, List.map_nil, List.mem_singleton, pair_inj]
    unfold vis
    constructor
    · rintro ((h1 | ⟨h1, h2⟩) | ⟨rfl, rfl⟩)
      · exact .inl h1
      · exact .inr ⟨by omega, h2⟩
      · exact .inr ⟨by omega, e⟩
    · rintro (h1 | ⟨h1, h2⟩)
      · exact .inl (.inl h1)
      · by_cases q : a = i ∧ b = j
        · exact .inr q
        · exact .inl (.inr ⟨by omega, h2⟩)
  · rcases List.mem_append.mp hp with hp | hp
    · exact h.val p hp a b e2
    · simp at hp; subst hp
      obtain ⟨rfl, rfl⟩ := pair_inj.mp e2
      refine ⟨Int.le_refl _, fun z => by simp at z, fun z => ?_⟩
      exact absurd ((h.mem _ _ hi hj).mpr (.inl z)) hn
theorem Ap.skip (h : Ap m k (vis i j) f) (e : ([(i : Int), (j : Int)] : St1) ∈ f.map Prod.fst ∨ ek m.1 (dsO m) (k + 1) i j = true) : Ap m k (vis i (j + 1)) f := by
  refine ⟨h.nd, h.key, fun a b ha hb => ?_, h.val⟩
  rw [h.mem a b ha hb]
  unfold vis
  constructor
  · rintro (h1 | ⟨h1, h2⟩)
    · exact .inl h1
    · exact .inr ⟨by omega, h2⟩
  · rintro (h1 | ⟨h1, h2⟩)
    · exact .inl h1
    · by_cases q : a = i ∧ b = j
      · obtain ⟨rfl, rfl⟩ := q
        rcases e with e | e
        · exact (h.mem _ _ ha hb).mp e
        · rw [e] at h2; cases h2
      · exact .inr ⟨by omega, h2⟩
theorem Ap.done (h : Ap m k (vis m.1.length 0) f) : Ap m (k + 1) (fun _ _ => False) f := by
  have up : ∀ a b, ek m.1 (dsO m) k a b = false → ek m.1 (dsO m) (k + 1) a b = false := fun a b z => by
    cases e : ek m.1 (dsO m) (k + 1) a b
    · rfl
    · rw [ek_down e] at z; cases z
  have mm : ∀ a b, inN m.1.length a → inN m.1.length b → ([a, b] ∈ f.map Prod.fst ↔ ek m.1 (dsO m) (k + 1) a b = false) := fun a b ha hb => by
    rw [h.mem a b ha hb]
    exact ⟨fun z => z.elim (up a b) fun y => y.2, fun z => .inr ⟨.inl ha.2, z⟩⟩
  refine ⟨h.nd, h.key, fun a b ha hb => ?_, fun p hp a b e => ?_⟩
  · rw [mm a b ha hb]
    exact ⟨.inl, fun z => z.resolve_right fun y => y.1⟩
  · obtain ⟨c, d, e2, h1, h2⟩ := h.key p hp
    have z := (h.val p hp a b e).1
    rw [e] at e2
    obtain ⟨rfl, rfl⟩ := pair_inj.mp e2
    refine ⟨by omega, fun _ => (mm _ _ h1 h2).mp (List.mem_map.mpr ⟨p, hp, e⟩), fun _ => by omega⟩
theorem Ap.start (h : Ap m k (fun _ _ => False) f) : Ap m k (vis 0 0) f := h.congr fun a b ha hb => by
  have := ha.1
  have := hb.1
  unfold vis
  constructor
  · intro z; exact z.elim
  · intro z; omega
end
theorem dg_find {H : Hp} {d : Addr} {y : V} {f : List (St1 × Int)} {s : St1} (h : rDT rI H (.ref d) f) (k : rT rI H y s) : ∃ o : Option V, DGet H d y o ∧ ((f.find? (fun q => decide (q.1 = s)) = none ∧ o = none) ∨ ∃ p, f.find? (fun q => decide (q.1 = s)) = some p ∧ o = some (.int p.2)) := by
  obtain ⟨d', kvs, e0, e1, k1, _⟩ := h
  cases e0
  obtain ⟨a, rfl, e2⟩ := keyT k
  rcases find_A2 (R := rI H) (s := s) k1 with ⟨q1, q2⟩ | ⟨p, z, q1, q2, q3⟩
  · exact ⟨none, .inr ⟨kvs, keyI s, a, .inl e1, rfl, e2, q2.symm⟩, .inl ⟨q1, rfl⟩⟩
  · cases q3
    exact ⟨some _, .inr ⟨kvs, keyI s, a, .inl e1, rfl, e2, q2.symm⟩, .inr ⟨p, q1, rfl⟩⟩
/-- the dict of the maps is another one than the model -/
theorem mdl_ne {H : Hp} {md dd : Addr} {sh : V} {kvs : List (Key × V)} {l : List (Str × List Int)} (h : H md = some (.dK [(.inr "shows", sh), (.inr "maps", .ref dd)])) (e : H dd = some (.dK kvs)) (k : dkA (rL rI H) kvs l) : md ≠ dd := by
  intro z
  subst z
  rw [h] at e
  cases e
  match l, k with
  | [p, q], ⟨_, ⟨⟨_, _, k3⟩, _⟩⟩ =>
    obtain ⟨a, xs, e0, e1, _⟩ := k3
    cases e0
    rw [h] at e1
    cases e1
def sp__law_apart : Sp := fun vs H Q _ => match vs with
  | [x] => ∃ m, rMo H x m ∧ ∀ d H' f, Same H H' → H d = none → rDT rI H' (.ref d) f → Ap m m.1.length (fun _ _ => False) f → Q (.ref d) H'
  | _ => False
theorem sc__law_apart : FnScope ["_law_model_here", "_law_one", "_law_spots", "_law_found", "_law_size", "_law_other", "_law_near", "_law_led_here", "_law_pair"] ["_law_model_here"] (defScope s__law_apart) := ⟨rfl, rfl, rfl, by decide +kernel, rfl, by decide +kernel, by decide +kernel⟩
theorem sp__law_apart_len : ∀ (vs : List V) (H : Hp) (Q : VK) (E : XK), sp__law_apart vs H Q E → vs.length = 1
  | [_], _, _, _, _ => rfl
  | [], _, _, _, h => h.elim
  | _ :: _ :: _, _, _, _, h => h.elim
theorem cal__law_apart (T : Tx P w K mg) : Cl P w K mg base 1 "_law_apart" sp__law_apart [] := by
  refine cl_of (st := s__law_apart) (qual := "_law_apart") (kws := []) (T.c.def_ 85 (d := d__law_apart) rfl) sc__law_apart sp__law_apart_len (T.glo 75 rfl) (fun _ _ _ _ _ _ us hl => match us, hl with | [_], _ => rfl) (fun cdv A outer s H vs Q E hr h => ⟨_, (pss_cons (ps_asg (pe_tup (pa_cons (pe_listRg rfl rfl (T.free 110 rfl) (prg_1 rfl (T.free 113 rfl) (pe_callB (cl_any (f := .builtin "len") T hr) rfl (T.free 109 rfl) (by decide +kernel) (pa_cons (pe_dget (hu_of hr) (pv 0) pe_str (fun _ _ => rfl)) pa_nil)))) (pa_cons pe_dnewT (pa_cons pe_int pa_nil)))) (pg_tk (n := 3) T rfl (pgs_cons (pg_name (i := 2) sc__law_apart.nd rfl (Or.inl rfl)) (pgs_cons (pg_name (i := 3) sc__law_apart.nd rfl (Or.inr rfl)) (pgs_cons (pg_name (i := 4) sc__law_apart.nd rfl (Or.inr rfl)) pgs_nil)))))
  (pss_cons (ps_for PassesOwn.never rfl (pi_ls T (pv 2)) (pg_name (i := 1) sc__law_apart.nd rfl (Or.inr rfl)) (pss_one (ps_for PassesOwn.never rfl (pi_ls T (pv 2)) (pg_name (i := 5) sc__law_apart.nd rfl (Or.inr rfl)) (pss_one (ps_if (pt_cmpR (op_any T hr) (pe_ix (ix_any T hr) (pe_dget (hu_of hr) (pv 0) pe_str (fun _ _ => rfl)) (pv 1) (fun _ _ => rfl)) (pe_ix (ix_any T hr) (pe_dget (hu_of hr) (pv 0) pe_str (fun _ _ => rfl)) (pv 5) (fun _ _ => rfl)) (nomark _)) (pss_one (ps_dput (hu_of hr) (pv 3) (pe_tup (pa_cons (pv 1) (pa_cons (pv 5) pa_nil))) pe_int rfl)) pss_nil)))))
  (pss_cons (ps_while PassesOwn.never (pt_cmpR (op_any T hr) (pv 4) (pe_callB (cl_any (f := .builtin "len") T hr) rfl (T.free 109 rfl) (by decide +kernel) (pa_cons (pv 2) pa_nil)) (nomark _)) (pss_cons (ps_set (i := 4) sc__law_apart.nd rfl (Or.inr rfl) (pe_op (op_any T hr) (pv 4) pe_int))
  (pss_one (ps_for PassesOwn.never rfl (pi_ls T (pv 2)) (pg_name (i := 1) sc__law_apart.nd rfl (Or.inr rfl)) (pss_one (ps_for PassesOwn.never rfl (pi_ls T (pv 2)) (pg_name (i := 5) sc__law_apart.nd rfl (Or.inr rfl)) (pss_cons (ps_lock (ps_setLc (i := 6) (own := [("_law_led_here", 7)]) rfl sc__law_apart.nd rfl rfl (sw_true rfl rfl rfl (by decide +kernel)) (pi_values (pe_dget (hu_of hr) (pv 0) pe_str (fun _ _ => rfl))) (blkOk_by (own := [("_law_led_here", 7)]) (N := ["_law_model_here", "_law_one", "_law_spots", "_law_found", "_law_size", "_law_other", "_law_near", "_law_led_here", "_law_pair"]) (sc := defScope s__law_apart) (by decide +kernel)) (fun _ _ _ _ _ => (pg_name (i := 7) sc__law_apart.nd rfl (Or.inl rfl))) (fun _ _ _ _ _ => pts_nil) (fun _ _ _ _ _ => (pe_tup (pa_cons (pe_ix (ix_any T hr) (pv 7) (pv 1) (fun _ _ => rfl)) (pa_cons (pe_ix (ix_any T hr) (pv 7) (pv 5) (fun _ _ => rfl)) pa_nil))))))
  (pss_one (ps_if (PW.pt (pw_and (pt_cmpR (op_any T hr) (pe_tup (pa_cons (pv 1) (pa_cons (pv 5) pa_nil))) (pv 3) (by rfl)) (pw_and1 (pt_cmpR (op_any T hr) (pe_lc (own := [("_law_pair", 8)]) rfl sc__law_apart.nd (pi_ls T (pv 6)) (blkOk_by (own := [("_law_pair", 8)]) (N := ["_law_model_here", "_law_one", "_law_spots", "_law_found", "_law_size", "_law_other", "_law_near", "_law_led_here", "_law_pair"]) (sc := defScope s__law_apart) (by decide +kernel)) (fun _ _ _ _ _ => (pg_name (i := 8) sc__law_apart.nd rfl (Or.inl rfl))) (fun _ _ _ _ _ => pts_one (pt_cmpR (op_any T hr) (pe_dget2 (hu_of hr) (pv 3) (pv 8) pe_int ⟨rfl, by rfl, rfl, rfl⟩) (pv 4) (nomark _))) (fun _ _ _ _ _ => (pv 8))) (pe_lst pa_nil) (nomark _))))) (pss_one (ps_dput (hu_of hr) (pv 3) (pe_tup (pa_cons (pv 1) (pa_cons (pv 5) pa_nil))) (pv 4) rfl)) pss_nil)))))))))
  (pss_one (ps_ret (pv 3)))))), ?_⟩)
  obtain ⟨a0, rfl⟩ := len1 (sp__law_apart_len _ _ _ _ h)
  obtain ⟨m, hM, q⟩ := h
  have lo := hM.2.lo
  have hi3 := hM.2.hi
  have h0 : 20 ≤ lim := by decide
  walk_at "S"
  refine gMo_shows hM fun y ky => ?_
  refine c_lenRL ky ?_
  walk_at "S"
  refine ⟨RgOk.of_le (by omega) (by omega) (by omega) (by omega), fun sp hsp d hd => ?_⟩
  have g1 : Same H (upd H sp (.lst (rgV 0 m.1.length))) := same_new (same_refl _) hsp
  have ks : rL rI (upd H sp (.lst (rgV 0 m.1.length))) (.ref sp) (rng m.1.length) := c_listRg hsp (by omega)
  generalize upd H sp (.lst (rgV 0 m.1.length)) = H1 at g1 ks hd
  refine ⟨by decide, fun t ht => ?_⟩
  have g2 : Same H1 (upd H1 d (.dT [])) := same_new (same_refl _) hd
  have g3 := same_new (o := .tup [.ref sp, .ref d, .int 0]) g2 ht
  have kd : rDT rI (upd (upd H1 d (.dT [])) t (.tup [.ref sp, .ref d, .int 0])) (.ref d) [] := Mo.mo (same_new (same_refl _) ht) (show rDT rI (upd H1 d (.dT [])) (.ref d) [] from ⟨d, [], rfl, upd_same, trivial, (by decide : 0 ≤ lim)⟩)
  have et : upd (upd H1 d (.dT [])) t (.tup [.ref sp, .ref d, .int 0]) t = some (.tup [.ref sp, .ref d, .int 0]) := upd_same
  generalize upd (upd H1 d (.dT [])) t (.tup [.ref sp, .ref d, .int 0]) = H2 at g3 kd et
  refine tup_n et rfl ?_
  walk_at "S"
  have hM1 := Mo.mo g1 hM
  refine ls_L (Mo.mo g3 ks) fun c ec hc => ?_
  cases ec
  have rl : (rng m.1.length).length = m.1.length := by simp
  refine for_L (r := rI) (l := rng m.1.length) (fun i σ H' => (∃ o1 o5 f, σ = [some a0, o1, some (.ref sp), some (.ref d), some (.int 0), o5, none, none, none] ∧ rDT rI H' (.ref d) f ∧ Ap0 m (vis i 0) f) ∧ Same H1 H') ⟨⟨none, none, [], rfl, kd, by simp, by simp, fun a b ha hb => by
    have := ha.1
    have := hb.1
    simp [vis]
    omega, by simp⟩, g3⟩ (fun i σ H' _ ⟨_, s⟩ => Mo.mo s ks) ?_ ?_
  · rintro i x b σ H3 hi rx ⟨⟨o1, o5, f, rfl, kf, ap⟩, s3⟩
    cases rx
    obtain ⟨rfl, hin⟩ := rng_at hi
    have ha : inN m.1.length (i : Int) := ⟨by omega, by omega⟩
    walk_at "S"
    refine ls_L (Mo.mo s3 ks) fun c ec hc => ?_
    cases ec
    refine for_L (r := rI) (l := rng m.1.length) (fun j σ H' => (∃ o5 f, σ = [some a0, some (.int i), some (.ref sp), some (.ref d), some (.int 0), o5, none, none, none] ∧ rDT rI H' (.ref d) f ∧ Ap0 m (vis i j) f) ∧ Same H1 H') ⟨⟨o5, f, rfl, kf, ap⟩, s3⟩ (fun i σ H' _ ⟨_, s⟩ => Mo.mo s ks) ?_ ?_
    · rintro j x b σ H4 hj rx ⟨⟨o5, f, rfl, kf, ap⟩, s4⟩
      cases rx
      obtain ⟨rfl, hjn⟩ := rng_at hj
      have hb : inN m.1.length (j : Int) := ⟨by omega, by omega⟩
      walk_at "S"
      refine gMo_shows (Mo.mo s4 hM1) fun y ky => ?_
      refine seen_atL ky ha rfl ?_
      refine gMo_shows (Mo.mo s4 hM1) fun y ky => ?_
      refine seen_atL ky hb rfl ?_
      walk_at "G"
      have ee : ek m.1 (dsO m) 0 i j = decide (gi m.1 i = gi m.1 j) := rfl
      by_cases e : gi m.1 (i : Int) = gi m.1 (j : Int)
      · rw [decide_eq_true e]
        walk_at "S"
        exact ⟨⟨_, f, rfl, kf, ap.skip (by rw [ee, decide_eq_true e])⟩, s4⟩
      · rw [decide_eq_false e]
        walk_at "S"
        obtain ⟨hn, ap2⟩ := ap.put ha hb (by rw [ee, decide_eq_false e])
        refine ⟨by decide, fun t5 ht5 => ?_⟩
        have s5 : Same H4 (upd H4 t5 (.tup [.int i, .int j])) := same_new (same_refl _) ht5
        have k5 : rT rI (upd H4 t5 (.tup [.int i, .int j])) (.ref t5) [(i : Int), (j : Int)] := ⟨t5, _, rfl, upd_same, ⟨rfl, rfl, trivial⟩, (by decide : 2 ≤ lim)⟩
        generalize upd H4 t5 (.tup [.int i, .int j]) = H5 at s5 k5
        have fl := pair_len ap.nd ap.key
        have := sq_small hi3
        refine dp_DT (r := rI) (b := 0) (Mo.mo s5 kf) k5 rfl hn (by omega) fun o6 _ k6 => ?_
        exact ⟨⟨_, _, rfl, k6, ap2⟩, same_put (s4.trans s5) hd⟩
    · rintro σ H4 ⟨⟨o5, f, rfl, kf, ap⟩, s4⟩
      rw [rl] at ap
      walk_at "S"
      exact ⟨⟨_, o5, f, rfl, kf, ap.congr fun a b _ hb => vis_row hb⟩, s4⟩
  · rintro σ H3 ⟨⟨o1, o5, f, rfl, kf, ap0⟩, s3⟩
    rw [rl] at ap0
    walk_at "S"
    have ap := ap0.done
    clear ap0
    refine ⟨fun mm σ H' => ∃ k o1 o5 o6 f, mm = m.1.length - k ∧ k ≤ m.1.length ∧ σ = [some a0, o1, some (.ref sp), some (.ref d), some (.int (k : Int)), o5, o6, none, none] ∧ rDT rI H' (.ref d) f ∧ Ap m k (fun _ _ => False) f ∧ Same H1 H', ⟨_, 0, o1, o5, none, f, rfl, by omega, rfl, kf, ap, s3⟩, ?_⟩
    clear kf ap s3
    rintro mm σ H4 ⟨k, o1, o5, o6, f, rfl, hk, rfl, kf, ap, s4⟩
    walk_at "S"
    refine c_lenRL (Mo.mo s4 ks) ?_
    walk_at "G"
    rw [rl]
    by_cases lt : (k : Int) < (m.1.length : Int)
    · rw [decide_eq_true lt]
      walk_at "S"
      refine ⟨_, fun σ' H'' z => z, ?_⟩
      walk_at "G"
      refine ls_L (Mo.mo s4 ks) fun c ec hc => ?_
      cases ec
      refine for_L (r := rI) (l := rng m.1.length) (fun i σ H' => (∃ o1 o5 o6 f, σ = [some a0, o1, some (.ref sp), some (.ref d), some (.int ((k : Int) + 1)), o5, o6, none, none] ∧ rDT rI H' (.ref d) f ∧ Ap m k (vis i 0) f) ∧ Same H1 H') ⟨⟨_, _, _, f, rfl, kf, ap.start⟩, s4⟩ (fun i σ H' _ ⟨_, s⟩ => Mo.mo s ks) ?_ ?_
      · rintro i x b σ H5 hi rx ⟨⟨o1, o5, o6, f, rfl, kf, ap⟩, s5⟩
        cases rx
        obtain ⟨rfl, hin⟩ := rng_at hi
        have ha : inN m.1.length (i : Int) := ⟨by omega, by omega⟩
        walk_at "S"
        refine ls_L (Mo.mo s5 ks) fun c ec hc => ?_
        cases ec
        refine for_L (r := rI) (l := rng m.1.length) (fun j σ H' => (∃ o5 o6 f, σ = [some a0, some (.int i), some (.ref sp), some (.ref d), some (.int ((k : Int) + 1)), o5, o6, none, none] ∧ rDT rI H' (.ref d) f ∧ Ap m k (vis i j) f) ∧ Same H1 H') ⟨⟨o5, o6, f, rfl, kf, ap⟩, s5⟩ (fun i σ H' _ ⟨_, s⟩ => Mo.mo s ks) ?_ ?_
        · clear kf ap s5 hi
          rintro j x b σ H6 hj rx ⟨⟨o5, o6, f, rfl, kf, ap⟩, s6⟩
          cases rx
          obtain ⟨rfl, hjn⟩ := rng_at hj
          have hb : inN m.1.length (j : Int) := ⟨by omega, by omega⟩
          obtain ⟨⟨md, sh, mp, rfl, emd, ksh, kmp⟩, okm⟩ := id (Mo.mo s6 hM1)
          obtain ⟨dd, kvs, rfl, edd, kk, ndk, hkl⟩ := kmp
          have nmd := mdl_ne emd edd kk
          obtain ⟨l6, e6⟩ := rDT_at kf
          have ndd : d ≠ dd := ne_of e6 edd nofun
          walk_at "S"
          refine lock_S edd trivial fun od => ?_
          have kl : dkA (rL rI (upd H6 dd (.frz od (.dK kvs)))) kvs m.2 := dkA_mono (R := rL rI H6) (fun x a z => lock_L z edd) kk
          have emd7 : upd H6 dd (.frz od (.dK kvs)) md = some (.dK [(.inr "shows", sh), (.inr "maps", .ref dd)]) := by rw [upd_ne nmd]; exact emd
          walk_at "S"
          refine ⟨md, .ref dd, rfl, .inl ⟨_, .inr "maps", .inl emd7, rfl, vk2.symm⟩, ?_⟩
          refine vl_d upd_same (lc_V (r' := rT rI) (m := m.2) (fun l => some [gi l i, gi l j]) upd_same kl hkl (fun x l H7 hl s7 rx Yk N k1 k2 => ?_) fun D H7 s7 hD kD => ?_)
          · have hln := (okDs_of okm.ok l hl).1
            walk_at "S"
            refine ⟨trivial, ?_⟩
            refine seen_atL (Mo.mo s7 rx) ha hln ?_
            refine seen_atL (Mo.mo s7 rx) hb hln ?_
            walk_at "S"
            exact ⟨by decide, fun p hp => k1 _ rfl _ _ (same_new (same_refl _) hp) ⟨p, _, rfl, upd_same, ⟨rfl, rfl, trivial⟩, (by decide : 2 ≤ lim)⟩⟩
          · have e7 := s7 _ _ upd_same
            refine ⟨e7, ?_⟩
            have s67 := unlock edd s7
            have kn : rL (rT rI) (upd H7 dd (.dK kvs)) (.ref D) ((dsO m).map fun l => [gi l i, gi l j]) := by
              rw [fm_some] at kD
              exact unlock_L kD e7
            have s8 := s6.trans s67
            have kf8 := Mo.mo s67 kf
            generalize upd H7 dd (.dK kvs) = H8 at s67 kn s8 kf8
            clear kD e7 s7 hD
            walk_at "S"
            refine ⟨by decide, fun t9 ht9 => ?_⟩
            have s9 : Same H8 (upd H8 t9 (.tup [.int i, .int j])) := same_new (same_refl _) ht9
            have k9 : rT rI (upd H8 t9 (.tup [.int i, .int j])) (.ref t9) [(i : Int), (j : Int)] := ⟨t9, _, rfl, upd_same, ⟨rfl, rfl, trivial⟩, (by decide : 2 ≤ lim)⟩
            generalize upd H8 t9 (.tup [.int i, .int j]) = H9 at s9 k9
            have s19 := s8.trans s9
            refine o_notinDT (Mo.mo s9 kf8) k9 ?_
            walk_at "S"
            by_cases hin2 : ([(i : Int), (j : Int)] : St1) ∈ f.map Prod.fst
            · rw [decide_eq_true hin2]
              walk_at "S"
              exact ⟨⟨_, _, f, rfl, Mo.mo s9 kf8, ap.skip (.inl hin2)⟩, s19⟩
            · rw [decide_eq_false hin2]
              walk_at "S"
              have ekt : ek m.1 (dsO m) k i j = true := by
                cases e : ek m.1 (dsO m) k i j
                · exact absurd ((ap.mem _ _ ha hb).mpr (.inl e)) hin2
                · rfl
              refine ls_L (Mo.mo s9 kn) fun c ec hc => ?_
              refine lc_L (r := rT rI) (r' := rT rI) (fun s => if (match s with | [a, b] => !ek m.1 (dsO m) k a b | _ => false) = true then some s else none) hc (fun x s H10 hs s10 rx Yk N k1 k2 => ?_) fun D2 H10 s10 hD2 kD2 => ?_
              · obtain ⟨l, hl, rfl⟩ := List.mem_map.mp hs
                have h1 := okDs_at (okDs_of okm.ok) hl ha
                have h2 := okDs_at (okDs_of okm.ok) hl hb
                have kf10 := Mo.mo (s9.trans s10) kf8
                obtain ⟨o, dg, dcase⟩ := dg_find (s := [gi l i, gi l j]) kf10 rx
                obtain ⟨l10, e10⟩ := rDT_at kf10
                have val : ∃ z : Int, o.getD (.int 99) = .int z ∧ decide (z < (k : Int) + 1) = !ek m.1 (dsO m) k (gi l i) (gi l j) := by
                  rcases dcase with ⟨d1, rfl⟩ | ⟨p, d1, rfl⟩
                  · refine ⟨99, rfl, ?_⟩
                    rw [decide_eq_false (by omega)]
                    cases e : ek m.1 (dsO m) k (gi l i) (gi l j)
                    · have z := (ap.mem _ _ h1 h2).mpr (.inl e)
                      have y := find_keys (m := f) (s := [gi l i, gi l j])
                      rw [d1, decide_eq_true z] at y
                      cases y
                    · rfl
                  · refine ⟨p.2, rfl, ?_⟩
                    have pm := List.mem_of_find?_eq_some d1
                    have pe : p.1 = [gi l (i : Int), gi l (j : Int)] := of_decide_eq_true (List.find?_some (p := fun q : St1 × Int => decide (q.1 = [gi l (i : Int), gi l (j : Int)])) d1)
                    have z := (ap.val p pm _ _ pe).2
                    cases e : ek m.1 (dsO m) k (gi l i) (gi l j)
                    · exact decide_eq_true (z.mpr e)
                    · exact decide_eq_false fun y => by rw [z.mp y] at e; cases e
                obtain ⟨z, v1, v2⟩ := val
                walk_at "S"
                refine ⟨trivial, .inr ⟨l10, .inl e10⟩, o, dg, ?_⟩
                rw [v1]
                walk_at "G"
                rw [v2]
                cases e : ek m.1 (dsO m) k (gi l i) (gi l j)
                · walk_at "S"
                  exact k1 _ (by simp [e]) _ _ (same_refl _) rx
                · walk_at "S"
                  exact k2 (by simp [e]) _ (same_refl _)
              · walk_at "S"
                refine ⟨by decide, fun t11 ht11 => ?_⟩
                have s11 : Same H10 (upd H10 t11 (.lst [])) := same_new (same_refl _) ht11
                have k11 : rL (rT rI) (upd H10 t11 (.lst [])) (.ref t11) [] := mk_L ht11 trivial (by decide)
                generalize upd H10 t11 (.lst []) = H11 at s11 k11
                rw [fm_if, List.map_id'] at kD2
                have s111 := (s19.trans s10).trans s11
                refine o_neR (r := rL (rT rI)) (Mo.mo s11 kD2) k11 ?_
                walk_at "S"
                have ekn : ek m.1 (dsO m) (k + 1) i j = (dsO m).all fun l => ek m.1 (dsO m) k (gi l i) (gi l j) := by rw [ek, ekt, Bool.true_and]
                by_cases hf : (((dsO m).map fun l => [gi l i, gi l j]).filter fun s => match s with | [a, b] => !ek m.1 (dsO m) k a b | _ => false) = []
                · rw [decide_eq_true hf]
                  walk_at "S"
                  refine ⟨⟨_, _, f, rfl, Mo.mo (((s9.trans s10).trans s11)) kf8, ap.skip (.inr ?_)⟩, s111⟩
                  rw [ekn, List.all_eq_true]
                  intro l hl
                  have z := List.filter_eq_nil_iff.mp hf _ (List.mem_map.mpr ⟨l, hl, rfl⟩)
                  simpa using z
                · rw [decide_eq_false hf]
                  walk_at "S"
                  have ekf : ek m.1 (dsO m) (k + 1) i j = false := by
                    cases e : ek m.1 (dsO m) (k + 1) i j
                    · rfl
                    · rw [ekn, List.all_eq_true] at e
                      refine absurd (List.filter_eq_nil_iff.mpr ?_) hf
                      intro s hs
                      obtain ⟨l, hl, rfl⟩ := List.mem_map.mp hs
                      simp [e l hl]
                  refine ⟨by decide, fun t12 ht12 => ?_⟩
                  have s12 : Same H11 (upd H11 t12 (.tup [.int i, .int j])) := same_new (same_refl _) ht12
                  have k12 : rT rI (upd H11 t12 (.tup [.int i, .int j])) (.ref t12) [(i : Int), (j : Int)] := ⟨t12, _, rfl, upd_same, ⟨rfl, rfl, trivial⟩, (by decide : 2 ≤ lim)⟩
                  generalize upd H11 t12 (.tup [.int i, .int j]) = H12 at s12 k12
                  have fl := pair_len ap.nd ap.key
                  have := sq_small hi3
                  refine dp_DT (r := rI) (b := (k : Int) + 1) (Mo.mo (((s9.trans s10).trans s11).trans s12) kf8) k12 rfl hin2 (by omega) fun o13 _ k13 => ?_
                  exact ⟨⟨_, _, _, rfl, k13, ap.put ha hb hin2 ekf⟩, same_put (s111.trans s12) hd⟩
        · rintro σ H6 ⟨⟨o5, o6, f, rfl, kf, ap⟩, s6⟩
          rw [rl] at ap
          walk_at "S"
          exact ⟨⟨_, o5, o6, f, rfl, kf, ap.congr fun a b _ hb => vis_row hb⟩, s6⟩
      · rintro σ H5 ⟨⟨o1, o5, o6, f, rfl, kf, ap⟩, s5⟩
        rw [rl] at ap
        walk_at "S"
        exact ⟨m.1.length - (k + 1), by omega, k + 1, o1, o5, o6, f, rfl, by omega, by simp, kf, ap.done, s5⟩
    · rw [decide_eq_false lt]
      walk_at "S"
      have ek : k = m.1.length := by omega
      subst ek
      exact q d H4 f (g1.trans s4) (g1.free hd) kf ap
def sp__law_images : Sp := fun vs H Q _ => match vs with
  | [x] => ∃ m, rMo H x m ∧ PuF (rL rI) (mach m).img Q H
  | _ => False
theorem sc__law_images : FnScope ["_law_model_here", "_law_far", "_law_spots", "_law_spot", "_law_other"] ["_law_model_here"] (defScope s__law_images) := ⟨rfl, rfl, rfl, by decide +kernel, rfl, by decide +kernel, by decide +kernel⟩
theorem sp__law_images_len : ∀ (vs : List V) (H : Hp) (Q : VK) (E : XK), sp__law_images vs H Q E → vs.length = 1
  | [_], _, _, _, _ => rfl
  | [], _, _, _, h => h.elim
  | _ :: _ :: _, _, _, _, h => h.elim
theorem cal__law_images (T : Tx P w K mg) : Cl P w K mg base 2 "_law_images" sp__law_images [] := by
  refine cl_of (st := s__law_images) (qual := "_law_images") (kws := []) (T.c.def_ 86 (d := d__law_images) rfl) sc__law_images sp__law_images_len (T.glo 76 rfl) (fun _ _ _ _ _ _ us hl => match us, hl with | [_], _ => rfl) (fun cdv A outer s H vs Q E hr h => ⟨_, (pss_cons (ps_asg (pe_tup (pa_cons (pe_cl (cal__law_apart T) hr (by decide) rfl (pa_cons (pv 0) pa_nil)) (pa_cons (pe_listRg rfl rfl (T.free 110 rfl) (prg_1 rfl (T.free 113 rfl) (pe_callB (cl_any (f := .builtin "len") T hr) rfl (T.free 109 rfl) (by decide +kernel) (pa_cons (pe_dget (hu_of hr) (pv 0) pe_str (fun _ _ => rfl)) pa_nil)))) pa_nil))) (pg_tk (n := 2) T rfl (pgs_cons (pg_name (i := 1) sc__law_images.nd rfl (Or.inr rfl)) (pgs_cons (pg_name (i := 2) sc__law_images.nd rfl (Or.inr rfl)) pgs_nil))))
  (pss_one (ps_ret (pe_lc (own := [("_law_spot", 3)]) rfl sc__law_images.nd (pi_ls T (pv 2)) (blkOk_by (own := [("_law_spot", 3)]) (N := ["_law_model_here", "_law_far", "_law_spots", "_law_spot", "_law_other"]) (sc := defScope s__law_images) (by decide +kernel)) (fun _ _ _ _ _ => (pg_name (i := 3) sc__law_images.nd rfl (Or.inr rfl))) (fun _ _ _ _ _ => pts_nil) (fun _ _ _ _ _ => (pe_ix (ix_any T hr) (pe_lc (own := [("_law_other", 4)]) rfl sc__law_images.nd (pi_ls T (pv 2)) (blkOk_by (own := [("_law_other", 4)]) (by kernel_rfl)) (fun _ _ _ _ _ => (pg_name (i := 4) sc__law_images.nd rfl (Or.inl rfl))) (fun _ _ _ _ _ => pts_one (pt_cmpR (op_any T hr) (pe_tup (pa_cons (pv 3) (pa_cons (pv 4) pa_nil))) (pv 1) (by rfl))) (fun _ _ _ _ _ => (pv 4))) pe_int (fun _ _ => rfl))))))), ?_⟩)
  obtain ⟨a0, rfl⟩ := len1 (sp__law_images_len _ _ _ _ h)
  obtain ⟨m, hM, q⟩ := h
  have lo := hM.2.lo
  have hi3 := hM.2.hi
  have h0 : 20 ≤ lim := by decide
  have OM := mach_ok hM.2
  walk_at "S"
  refine ⟨m, hM, fun d H1 f s1 hd kf ap => ?_⟩
  refine gMo_shows (Mo.mo s1 hM) fun y ky => ?_
  refine c_lenRL ky ?_
  walk_at "S"
  refine ⟨RgOk.of_le (by omega) (by omega) (by omega) (by omega), fun sp hsp => ?_⟩
  have g2 : Same H1 (upd H1 sp (.lst (rgV 0 m.1.length))) := same_new (same_refl _) hsp
  have ks : rL rI (upd H1 sp (.lst (rgV 0 m.1.length))) (.ref sp) (rng m.1.length) := c_listRg hsp (by omega)
  generalize upd H1 sp (.lst (rgV 0 m.1.length)) = H2 at g2 ks
  have kf2 := Mo.mo g2 kf
  refine ⟨by decide, fun t0 ht0 => ?_⟩
  refine tup_n upd_same rfl ?_
  have g3 : Same H2 (upd H2 t0 (.tup [.ref d, .ref sp])) := same_new (same_refl _) ht0
  have ks := Mo.mo g3 ks
  have kf2 := Mo.mo g3 kf2
  have s2 := (s1.trans g2).trans g3
  generalize upd H2 t0 (.tup [.ref d, .ref sp]) = H2 at g3 ks kf2 s2 ⊢
  walk_at "S"
  have keyn : ∀ a b, inN m.1.length a → inN m.1.length b → decide ([a, b] ∈ f.map Prod.fst) = !ek m.1 (dsO m) m.1.length a b := fun a b ha hb => by
    have z := ap.mem a b ha hb
    cases e : ek m.1 (dsO m) m.1.length a b
    · exact decide_eq_true (z.mpr (.inl e))
    · refine decide_eq_false fun y => ?_
      rcases z.mp y with y | y
      · rw [e] at y; cases y
      · exact y.1
  refine ls_L ks fun c ec hc => ?_
  cases ec
  refine lc_L (r := rI) (r' := rI) (fun a => some (gi (mach m).img a)) hc (fun x a H3 hb s3 rx Yk N k1 k2 => ?_) fun D H3 s3 hD kD => ?_
  · cases rx
    obtain ⟨i, hi, rfl⟩ := List.mem_map.mp hb
    have ha : inN m.1.length ((Int.ofNat i)) := ⟨Int.natCast_nonneg i, by have := List.mem_range.mp hi; simp; omega⟩
    walk_at "S"
    refine ⟨trivial, ?_⟩
    refine ls_L (Mo.mo s3 ks) fun c ec hc => ?_
    cases ec
    refine lc_L (r := rI) (r' := rI) (fun b => if ek m.1 (dsO m) m.1.length (Int.ofNat i) b = true then some b else none) hc (fun x b H4 hb4 s4 rx Yk2 N2 j1 j2 => ?_) fun D2 H4 s4 hD2 kD2 => ?_
    · cases rx
      obtain ⟨j, hj, rfl⟩ := List.mem_map.mp hb4
      have hb : inN m.1.length ((Int.ofNat j)) := ⟨Int.natCast_nonneg j, by have := List.mem_range.mp hj; simp; omega⟩
      walk_at "S"
      refine ⟨trivial, by decide, fun t ht => ?_⟩
      have s5 : Same H4 (upd H4 t (.tup [.int (Int.ofNat i), .int (Int.ofNat j)])) := same_new (same_refl _) ht
      have k5 : rT rI (upd H4 t (.tup [.int (Int.ofNat i), .int (Int.ofNat j)])) (.ref t) [(Int.ofNat i), (Int.ofNat j)] := ⟨t, _, rfl, upd_same, ⟨rfl, rfl, trivial⟩, (by decide : 2 ≤ lim)⟩
      generalize upd H4 t (.tup [.int (Int.ofNat i), .int (Int.ofNat j)]) = H5 at s5 k5
      refine o_notinDT (Mo.mo ((s3.trans s4).trans s5) kf2) k5 ?_
      rw [keyn _ _ ha hb]
      walk_at "S"
      cases e : ek m.1 (dsO m) m.1.length (Int.ofNat i) (Int.ofNat j)
      · walk_at "S"
        exact j2 (by rw [e]; rfl) _ s5
      · walk_at "S"
        exact j1 _ (by rw [e]; rfl) _ _ s5 rfl
    · rw [fm_if, List.map_id'] at kD2
      obtain ⟨k, hk⟩ : ∃ k, m.1.length = k + 1 := ⟨m.1.length - 1, by omega⟩
      have z := img_first (sh := m.1) (ds := dsO m) (n := m.1.length) (k := k) (okDs_of hM.2.ok) ha
      rw [← hk] at z
      have ei : itr (cstep m.1.length (dsO m)) m.1.length m.1 = (mach m).img := rfl
      rw [ei] at z
      have e3 : ((rng m.1.length).filter fun b => ek m.1 (dsO m) m.1.length (Int.ofNat i) b)[0]? = some (gi (mach m).img (Int.ofNat i)) := by
        unfold rng
        rw [List.filter_map, List.getElem?_map]
        have z1 := z.1
        rw [show ((List.range m.1.length).filter ((fun b => ek m.1 (dsO m) m.1.length (Int.ofNat i) b) ∘ Int.ofNat))[0]? = _ from z1]
        show some (Int.ofNat (gi (mach m).img (Int.ofNat i)).toNat) = _
        congr 1
        exact toN z.2
      refine x_RL (n := 0) kD2 rfl e3 fun y ry => ?_
      cases ry
      exact k1 _ rfl _ _ s4 rfl
  · rw [fm_some] at kD
    have e : (rng m.1.length).map (fun a => gi (mach m).img a) = (mach m).img := by
      refine List.ext_getElem? fun i => ?_
      have il := im_len OM
      by_cases hi : i < m.1.length
      · rw [List.getElem?_map, List.getElem?_map, List.getElem?_range hi]
        have z := gi_at (l := (mach m).img) (i := (i : Int)) (n := m.1.length) (by omega) (by omega) il
        simp at z
        show some (gi (mach m).img (i : Int)) = _
        rw [z]
      · rw [List.getElem?_eq_none (by simp; omega), List.getElem?_eq_none (by rw [il]; show m.1.length ≤ i; omega)]
    rw [e] at kD
    exact q D H3 (s2.trans s3) (s2.free hD) kD
end
end Nb

/-! part D16 -/
set_option Elab.async false
set_option linter.all false
set_option maxRecDepth 100000
set_option maxHeartbeats 4000000
namespace Nb
open PySem PySem.Spec PyProof.Rows L2
local macro_rules | `(tactic| walk_at "S") => `(tactic| (try simp only [tSeq, tNext, tRet, tIfS, tDrop, tAsg, gName, tFor_eq, tWhile_eq, tLc_eq, tLc2_eq, tDc_eq, sFld_eq, sDPut_eq, tPar, tPar3, tC, tVar, tCB, tOp, tTup, tLst, tChain, tDGet_eq, tDGet2, tAndV, tOrV, tNotV, tIf, tLstRg, tRg1, tDisp, tPairs, tUn, rU, tTest, tNot, tB, tAnd, tOr, tYes, tSl, tPart, tNoPart, tRevL, tM1, tDNewK, tDNewT, gCons_c, gNil_n, gSub, gTup_eq, iRng1_eq, iList_eq, iTup_eq, iSeq_eq, iStr, iKeys_eq, iVals_eq, iEnum_eq, cx_K, tCons, tNil, tBM, tCall, tMake, tProp_eq, tMeth_eq, tFld_eq, tStar_eq, iZipM_eq, tDisp1, L2.start, List.map_cons, List.map_nil, List.length_cons, List.length_nil, List.cons_append, List.nil_append, List.append_nil, List.getElem?_cons_zero, List.getElem?_cons_succ, List.set_cons_zero, List.set_cons_succ, Option.some.injEq, exists_eq_left', exists_eq_left, V.bl.injEq, V.int.injEq, V.str.injEq, V.ref.injEq, if_true, if_false, Nat.reduceAdd, Nat.reduceSub, List.replicate_succ, List.replicate_zero, Bool.not_true, Bool.not_false, Bool.false_eq_true, if_neg, not_false_eq_true, wipe]))
local macro_rules | `(tactic| walk_at "G") => `(tactic| (walk_at "S"; repeat ((first | with_reducible refine o_add ?_ | with_reducible refine o_sub ?_ | with_reducible refine o_mul ?_ | with_reducible refine o_lt ?_ | with_reducible refine o_le ?_ | with_reducible refine o_gt ?_ | with_reducible refine o_ge ?_ | with_reducible refine o_eqI ?_ | with_reducible refine o_neI ?_ | with_reducible refine o_eqS ?_ | with_reducible refine o_neS ?_ | with_reducible refine o_isN ?_ | with_reducible refine o_notN ?_ | with_reducible refine i_int ?_ | with_reducible refine i_intB ?_ | with_reducible refine i_str ?_); walk_at "S")))
section
variable {P : Program} {w : World} {K : PySem.W.Frag} {mg : Str → Option Value} {base : Heap}
def sp__law_vector : Sp := fun vs H Q _ => match vs with
  | [x, y, z, n] => ∃ m rows ppl few, rMo H x m ∧ rL rE H y rows ∧ rL rS H z ppl ∧ n = .int few ∧ okRows m.2 rows ∧ few ≤ 6 ∧ ppl.length ≤ 6 ∧ PuF (rL rI) (vecF (mach m) (lots ppl few) rows) Q H
  | _ => False
theorem sc__law_vector : FnScope ["_law_model_here", "_law_rows", "_law_folk_here", "_law_few", "_law_same", "_law_lot_here"] ["_law_model_here", "_law_rows", "_law_folk_here", "_law_few"] (defScope s__law_vector) := ⟨rfl, rfl, rfl, by decide +kernel, rfl, by decide +kernel, by decide +kernel⟩
theorem sp__law_vector_len : ∀ (vs : List V) (H : Hp) (Q : VK) (E : XK), sp__law_vector vs H Q E → vs.length = 4
  | [_, _, _, _], _, _, _, _ => rfl
  | [], _, _, _, h => h.elim
  | [_], _, _, _, h => h.elim
  | [_, _], _, _, _, h => h.elim
  | [_, _, _], _, _, _, h => h.elim
  | _ :: _ :: _ :: _ :: _ :: _, _, _, _, h => h.elim
theorem cal__law_vector (T : Tx P w K mg) : Cl P w K mg base 3 "_law_vector" sp__law_vector [] := by
  refine cl_of (st := s__law_vector) (qual := "_law_vector") (kws := []) (T.c.def_ 92 (d := d__law_vector) rfl) sc__law_vector sp__law_vector_len (T.glo 82 rfl) (fun _ _ _ _ _ _ us hl => match us, hl with | [_, _, _, _], _ => rfl) (fun cdv A outer s H vs Q E hr h => ⟨_, (pss_cons (ps_set (i := 4) sc__law_vector.nd rfl (Or.inr rfl) (pe_cl (cal__law_images T) hr (by decide) rfl (pa_cons (pv 0) pa_nil)))
  (pss_one (ps_ret (pe_lc (own := [("_law_lot_here", 5)]) rfl sc__law_vector.nd (pi_ls T (pe_cl (cal__law_lots T) hr (by decide) rfl (pa_cons (pv 2) (pa_cons (pv 3) pa_nil)))) (blkOk_by (own := [("_law_lot_here", 5)]) (N := ["_law_model_here", "_law_rows", "_law_folk_here", "_law_few", "_law_same", "_law_lot_here"]) (sc := defScope s__law_vector) (by decide +kernel)) (fun _ _ _ _ _ => (pg_name (i := 5) sc__law_vector.nd rfl (Or.inl rfl))) (fun _ _ _ _ _ => pts_nil) (fun _ _ _ _ _ => (pe_ix (ix_any T hr) (pv 4) (pe_cl (cal__law_behind T) hr (by decide) rfl (pa_cons (pv 0) (pa_cons (pv 1) (pa_cons (pv 5) pa_nil)))) (fun _ _ => rfl))))))), ?_⟩)
  obtain ⟨a0, a1, a2, a3, rfl⟩ := len4 (sp__law_vector_len _ _ _ _ h)
  obtain ⟨m, rows, ppl, few, hM, hr', hp, rfl, ok, f6, n6, q⟩ := h
  have lo := hM.2.lo
  have OM := mach_ok hM.2
  walk_at "S"
  refine ⟨m, hM, fun im H1 s1 him kim => ?_⟩
  walk_at "S"
  refine ⟨ppl, few, Mo.mo s1 hp, rfl, f6, n6, fun l H2 s2 hl k2 => ?_⟩
  refine ls_L k2 fun c ec hc => ?_
  refine lc_L (r := rT rS) (r' := rI) (fun lot => some (gi (mach m).img (behind (mach m).deeds rows lot))) hc (fun x lot H3 hb s3 rx Yk N k1 k2' => ?_) fun D H3 s3 hD kD => ?_
  · have s13 := (s1.trans s2).trans s3
    walk_at "S"
    refine ⟨trivial, m, rows, lot, Mo.mo s13 hM, Mo.mo s13 hr', rx, ok, fun H4 s4 => ?_⟩
    refine seen_atL (Mo.mo ((s2.trans s3).trans s4) kim) (behind_ok (by omega) hM.2.ok ok) (im_len OM) ?_
    exact k1 _ rfl _ _ s4 rfl
  · rw [fm_some] at kD
    exact q D H3 ((s1.trans s2).trans s3) ((s1.trans s2).free hD) kD
def matL (M : Mach) (rows : List Entry) (few : Int) : List Str := (folk rows).foldl (fun acc p => ((lots (folk rows) few).filter fun lot => decide (some p ∈ lot.map some)).foldl (fun acc lot => if p ∉ acc ∧ shows M rows lot p = true then acc ++ [p] else acc) acc) []
def sp__law_matter : Sp := fun vs H Q _ => match vs with
  | [x, y, n] => ∃ m rows few, rMo H x m ∧ rL rE H y rows ∧ n = .int few ∧ okRows m.2 rows ∧ rows.length < 64 ∧ few ≤ 6 ∧ (folk rows).length ≤ 6 ∧ ∀ p H', Same H H' → rT rS H' (.ref p) (matL (mach m) rows few) → Q (.ref p) H'
  | _ => False
theorem matIn_len (M : Mach) (rows : List Entry) (p : Str) : ∀ (l : List (List Str)) (acc : List Str), (l.foldl (fun acc lot => if p ∉ acc ∧ shows M rows lot p = true then acc ++ [p] else acc) acc).length ≤ acc.length + 1 ∧ ((l.foldl (fun acc lot => if p ∉ acc ∧ shows M rows lot p = true then acc ++ [p] else acc) acc).length = acc.length + 1 → p ∈ (l.foldl (fun acc lot => if p ∉ acc ∧ shows M rows lot p = true then acc ++ [p] else acc) acc)) ∧ (p ∈ acc → (l.foldl (fun acc lot => if p ∉ acc ∧ shows M rows lot p = true then acc ++ [p] else acc) acc) = acc)
  | [], acc => by simp
  | a :: l, acc => by
    rw [List.foldl_cons]
    by_cases h : p ∉ acc ∧ shows M rows a p = true
    · rw [if_pos h]
      have z := (matIn_len M rows p l (acc ++ [p])).2.2 (List.mem_append_right acc (List.mem_singleton.mpr rfl) : p ∈ acc ++ [p])
      rw [z]
      refine ⟨by simp, fun _ => ?_, fun q => absurd q h.1⟩
      exact List.mem_append_right _ (List.mem_singleton.mpr rfl)
    · rw [if_neg h]
      exact matIn_len M rows p l acc
theorem matL_len {M : Mach} {rows : List Entry} {few : Int} : ∀ (l : List Str) (acc : List Str), (l.foldl (fun acc p => ((lots (folk rows) few).filter fun lot => decide (some p ∈ lot.map some)).foldl (fun acc lot => if p ∉ acc ∧ shows M rows lot p = true then acc ++ [p] else acc) acc) acc).length ≤ acc.length + l.length
  | [], acc => by simp
  | a :: l, acc => by
    rw [List.foldl_cons]
    refine Nat.le_trans (matL_len l _) ?_
    have z := (matIn_len M rows a ((lots (folk rows) few).filter fun lot => decide (some a ∈ lot.map some)) acc).1
    rw [List.length_cons]
    omega
theorem sc__law_matter : FnScope ["_law_model_here", "_law_rows", "_law_few", "_law_who", "_law_same", "_law_folk_here", "_law_found", "_law_lot_here", "_law_less", "_law_pair", "_law_one", "_law_other"] ["_law_model_here", "_law_rows", "_law_few"] (defScope s__law_matter) := ⟨rfl, rfl, rfl, by decide +kernel, rfl, by decide +kernel, by decide +kernel⟩
theorem sp__law_matter_len : ∀ (vs : List V) (H : Hp) (Q : VK) (E : XK), sp__law_matter vs H Q E → vs.length = 3
  | [_, _, _], _, _, _, _ => rfl
  | [], _, _, _, h => h.elim
  | [_], _, _, _, h => h.elim
  | [_, _], _, _, _, h => h.elim
  | _ :: _ :: _ :: _ :: _, _, _, _, h => h.elim
theorem cal__law_matter (T : Tx P w K mg) : Cl P w K mg base 3 "_law_matter" sp__law_matter [] := by
  refine cl_of (st := s__law_matter) (qual := "_law_matter") (kws := []) (T.c.def_ 96 (d := d__law_matter) rfl) sc__law_matter sp__law_matter_len (T.glo 86 rfl) (fun _ _ _ _ _ _ us hl => match us, hl with | [_, _, _], _ => rfl) (fun cdv A outer s H vs Q E hr h => ⟨_, (pss_cons (ps_par3 (i := 4) (j := 5) (l := 6) rfl sc__law_matter.nd rfl rfl rfl (by decide) (by decide) (by decide) rfl rfl rfl (pa_cons (pe_cl (cal__law_images T) hr (by decide) rfl (pa_cons (pv 0) pa_nil)) (pa_cons (pe_cl (cal__law_folk T) hr (by decide) rfl (pa_cons (pv 1) pa_nil)) (pa_cons (pe_lst pa_nil) pa_nil))) (by rfl))
  (pss_cons (ps_for PassesOwn.never rfl (pi_ls T (pv 5)) (pg_name (i := 3) sc__law_matter.nd rfl (Or.inr rfl)) (pss_one (ps_for PassesOwn.never rfl (pi_ls T (pe_lc (own := [("_law_one", 10)]) rfl sc__law_matter.nd (pi_ls T (pe_cl (cal__law_lots T) hr (by decide) rfl (pa_cons (pv 5) (pa_cons (pv 2) pa_nil)))) (blkOk_by (own := [("_law_one", 10)]) (N := ["_law_model_here", "_law_rows", "_law_few", "_law_who", "_law_same", "_law_folk_here", "_law_found", "_law_lot_here", "_law_less", "_law_pair", "_law_one", "_law_other"]) (sc := defScope s__law_matter) (by decide +kernel)) (fun _ _ _ _ _ => (pg_name (i := 10) sc__law_matter.nd rfl (Or.inl rfl))) (fun _ _ _ _ _ => pts_one (pt_cmpR (op_any T hr) (pv 3) (pv 10) (by rfl))) (fun _ _ _ _ _ => (pv 10)))) (pg_name (i := 7) sc__law_matter.nd rfl (Or.inl rfl)) (pss_cons (ps_set (i := 8) sc__law_matter.nd rfl (Or.inl rfl) (pe_callTy (cl_any (f := .type "tuple") T hr) rfl (T.free 119 rfl) (by decide +kernel) (pa_cons (pe_lc (own := [("_law_other", 11)]) rfl sc__law_matter.nd (pi_tp T (pv 7)) (blkOk_by (own := [("_law_other", 11)]) (N := ["_law_model_here", "_law_rows", "_law_few", "_law_who", "_law_same", "_law_folk_here", "_law_found", "_law_lot_here", "_law_less", "_law_pair", "_law_one", "_law_other"]) (sc := defScope s__law_matter) (by decide +kernel)) (fun _ _ _ _ _ => (pg_name (i := 11) sc__law_matter.nd rfl (Or.inl rfl))) (fun _ _ _ _ _ => pts_one (pt_cmpR (op_any T hr) (pv 11) (pv 3) (nomark _))) (fun _ _ _ _ _ => (pv 11))) pa_nil)))
  (pss_cons (ps_set (i := 9) sc__law_matter.nd rfl (Or.inl rfl) (pe_tup (pa_cons (pe_cl (cal__law_behind T) hr (by decide) rfl (pa_cons (pv 0) (pa_cons (pv 1) (pa_cons (pv 7) pa_nil)))) (pa_cons (pe_cl (cal__law_behind T) hr (by decide) rfl (pa_cons (pv 0) (pa_cons (pv 1) (pa_cons (pv 8) pa_nil)))) pa_nil))))
  (pss_one (ps_if (PW.pt (pw_and (pt_cmpR (op_any T hr) (pv 3) (pv 6) (by rfl)) (pw_and1 (pt_cmpR (op_any T hr) (pe_ix (ix_any T hr) (pv 4) (pe_ix (ix_any T hr) (pv 9) pe_int (fun _ _ => rfl)) (fun _ _ => rfl)) (pe_ix (ix_any T hr) (pv 4) (pe_ix (ix_any T hr) (pv 9) pe_int (fun _ _ => rfl)) (fun _ _ => rfl)) (nomark _))))) (pss_one (ps_expr (pe_bk T PySem.F.plainAttrs_list PySem.F.slot_list_append PySem.F.type_list_append (mt_any T hr) (pv 6) (pa_cons (pv 3) pa_nil)))) pss_nil)))))))
  (pss_one (ps_ret (pe_callTy (cl_any (f := .type "tuple") T hr) rfl (T.free 119 rfl) (by decide +kernel) (pa_cons (pv 6) pa_nil)))))), ?_⟩)
  obtain ⟨a0, a1, a2, rfl⟩ := len3 (sp__law_matter_len _ _ _ _ h)
  obtain ⟨m, rows, few, hM, hr', rfl, ok, h64, f6, n6, q⟩ := h
  have lo := hM.2.lo
  have OM := mach_ok hM.2
  have h0 : 64 ≤ lim := by decide
  walk_at "S"
  refine ⟨m, hM, fun im H1 s1 him kim => ?_⟩
  walk_at "S"
  refine ⟨rows, Mo.mo s1 hr', h64, fun fk H2 s2 hfk kfk => ?_⟩
  walk_at "S"
  refine ⟨by decide, fun fd hfd => ?_⟩
  have g3 : Same H2 (upd H2 fd (.lst [])) := same_new (same_refl _) hfd
  have kf0 : rL rS (upd H2 fd (.lst [])) (.ref fd) [] := mk_L hfd trivial (by decide)
  refine ⟨_, _, _, rfl, ?_⟩
  generalize upd H2 fd (.lst []) = H3 at g3 kf0
  walk_at "S"
  refine ls_L (Mo.mo g3 kfk) fun c ec hc => ?_
  cases ec
  have B : ∀ i, (((folk rows).take i).foldl (fun acc p => ((lots (folk rows) few).filter fun lot => decide (some p ∈ lot.map some)).foldl (fun acc lot => if p ∉ acc ∧ shows (mach m) rows lot p = true then acc ++ [p] else acc) acc) []).length ≤ 6 := fun i => by
    have z := matL_len (M := mach m) (rows := rows) (few := few) ((folk rows).take i) []
    rw [List.length_take] at z
    simp only [List.length_nil] at z
    omega
  refine for_L (r := rS) (l := folk rows) (fun i σ H' => (∃ o3 o7 o8 o9, σ = [some a0, some a1, some (.int few), o3, some (.ref im), some (.ref fk), some (.ref fd), o7, o8, o9, none, none]) ∧ Same H2 H' ∧ rL rS H' (.ref fd) (((folk rows).take i).foldl (fun acc p => ((lots (folk rows) few).filter fun lot => decide (some p ∈ lot.map some)).foldl (fun acc lot => if p ∉ acc ∧ shows (mach m) rows lot p = true then acc ++ [p] else acc) acc) [])) ⟨⟨_, _, _, _, rfl⟩, g3, kf0⟩ (fun i σ H' _ ⟨_, s, _⟩ => Mo.mo s kfk) ?_ ?_
  · rintro i x p σ H4 hi rx ⟨⟨o3, o7, o8, o9, rfl⟩, s4, k4⟩
    obtain ⟨rfl, hw⟩ := rx
    have bi := B i
    rw [fold_take _ _ hi]
    generalize ((folk rows).take i).foldl (fun acc p => ((lots (folk rows) few).filter fun lot => decide (some p ∈ lot.map some)).foldl (fun acc lot => if p ∉ acc ∧ shows (mach m) rows lot p = true then acc ++ [p] else acc) acc) [] = F at k4 bi ⊢
    walk_at "S"
    refine ⟨folk rows, few, Mo.mo s4 kfk, rfl, f6, n6, fun l5 H5 s5 hl5 k5 => ?_⟩
    refine ls_L k5 fun c5 ec5 hc5 => ?_
    refine lc_L (r := rT rS) (r' := rT rS) (fun lot => if decide (some p ∈ lot.map some) = true then some lot else none) hc5 (fun x lot H6 hb s6 rx Yk N j1 j2 => ?_) fun D6 H6 s6 hD6 kD6 => ?_
    · walk_at "S"
      refine ⟨trivial, o_inT (o := some p) rx ?_⟩
      walk_at "S"
      by_cases hm : some p ∈ lot.map some
      · rw [decide_eq_true hm]
        walk_at "S"
        exact j1 _ (by rw [decide_eq_true hm]; rfl) _ _ (same_refl _) rx
      · rw [decide_eq_false hm]
        walk_at "S"
        exact j2 (by rw [decide_eq_false hm]; rfl) _ (same_refl _)
    · rw [fm_if, List.map_id'] at kD6
      have s26 := (s4.trans s5).trans s6
      have hD2 := (s4.trans s5).free hD6
      have hDf : D6 ≠ fd := by
        intro z
        subst z
        obtain ⟨xs, e⟩ := rL_at k4
        have := (s5.trans (same_refl _)) _ _ e
        rw [this] at hD6
        cases hD6
      walk_at "S"
      refine ls_L kD6 fun c7 ec7 hc7 => ?_
      cases ec7
      have kF6 := Mo.mo (s5.trans s6) k4
      have bnd : ∀ j, ((((lots (folk rows) few).filter fun lot => decide (some p ∈ lot.map some)).take j).foldl (fun acc lot => if p ∉ acc ∧ shows (mach m) rows lot p = true then acc ++ [p] else acc) F).length ≤ 7 := fun j => by
        have z := (matIn_len (mach m) rows p (((lots (folk rows) few).filter fun lot => decide (some p ∈ lot.map some)).take j) F).1
        omega
      generalize hLP : (lots (folk rows) few).filter (fun lot => decide (some p ∈ lot.map some)) = LP at kD6 bnd hc7 ⊢
      have wokp : ∀ lot ∈ LP, p ∈ lot := fun lot hl => by
        rw [← hLP] at hl
        have z := of_decide_eq_true (List.mem_filter.mp hl).2
        simpa using z
      refine for_L (r := rT rS) (l := LP) (fun j σ H' => (∃ o7 o8 o9, σ = [some a0, some a1, some (.int few), some (.str p), some (.ref im), some (.ref fk), some (.ref fd), o7, o8, o9, none, none]) ∧ Same H2 H' ∧ rL (rT rS) H' (.ref D6) LP ∧ rL rS H' (.ref fd) ((LP.take j).foldl (fun acc lot => if p ∉ acc ∧ shows (mach m) rows lot p = true then acc ++ [p] else acc) F)) ⟨⟨_, _, _, rfl⟩, s26, hc7, kF6⟩ (fun i σ H' _ ⟨_, _, h, _⟩ => h) ?_ ?_
      · rintro j x lot σ H7 hj rx ⟨⟨o7, o8, o9, rfl⟩, s7, k7, kf7⟩
        have bj := bnd j
        rw [fold_take _ _ hj]
        generalize (LP.take j).foldl (fun acc lot => if p ∉ acc ∧ shows (mach m) rows lot p = true then acc ++ [p] else acc) F = G at kf7 bj ⊢
        walk_at "S"
        refine tp_T rx fun c8 ec8 hc8 => ?_
        refine lc_T (r := rS) (r' := rS) (fun o => if (!decide (o = p)) = true then some o else none) hc8 (fun x o H8 hb s8 rx8 Yk N j1 j2 => ?_) fun D8 H8 s8 hD8 kD8 => ?_
        · obtain ⟨rfl, hw8⟩ := id rx8
          walk_at "S"
          refine ⟨trivial, o_neS ?_⟩
          walk_at "S"
          by_cases he : o = p
          · rw [decide_eq_true he]
            walk_at "S"
            exact j2 (by rw [decide_eq_true he]; rfl) _ (same_refl _)
          · rw [decide_eq_false he]
            walk_at "S"
            exact j1 _ (by rw [decide_eq_false he]; rfl) _ _ (same_refl _) rx8
        · rw [fm_if, List.map_id'] at kD8
          refine c_tupRL kD8 fun t9 H9 s9 ht9 k9 => ?_
          have s79 := s8.trans s9
          have s29 := s7.trans s79
          have sA := s1.trans (s2.trans s29)
          walk_at "S"
          refine ⟨m, rows, lot, Mo.mo sA hM, Mo.mo sA hr', Mo.mo s79 rx, ok, fun H10 s10 => ?_⟩
          walk_at "S"
          refine ⟨m, rows, _, Mo.mo (sA.trans s10) hM, Mo.mo (sA.trans s10) hr', Mo.mo s10 k9, ok, fun H11 s11 => ?_⟩
          walk_at "S"
          refine ⟨by decide, fun t12 ht12 => ?_⟩
          have s12 : Same H11 (upd H11 t12 (.tup [.int (behind m.2 rows lot), .int (behind m.2 rows (less lot p))])) := same_new (same_refl _) ht12
          have k12 : rP rI rI (upd H11 t12 (.tup [.int (behind m.2 rows lot), .int (behind m.2 rows (less lot p))])) (.ref t12) (behind m.2 rows lot, behind m.2 rows (less lot p)) := mk_P ht12 rfl rfl
          generalize upd H11 t12 (.tup [.int (behind m.2 rows lot), .int (behind m.2 rows (less lot p))]) = H12 at s12 k12
          have s712 := (((s79.trans s10).trans s11).trans s12)
          have s212 := s7.trans s712
          walk_at "S"
          refine o_notinL (o := some p) (Mo.mo s712 kf7) ?_
          walk_at "S"
          have eg : decide (some p ∈ G.map some) = decide (p ∈ G) := decide_eq_decide.mpr (by simp)
          rw [eg]
          have nlD : fd ≠ D6 := Ne.symm hDf
          by_cases hg : p ∈ G
          · have eI : (if p ∉ G ∧ shows (mach m) rows lot p = true then G ++ [p] else G) = G := if_neg fun z => z.1 hg
            rw [decide_eq_true hg, eI]
            walk_at "S"
            exact ⟨⟨_, _, _, rfl⟩, s212, Mo.mo s712 k7, Mo.mo s712 kf7⟩
          · rw [decide_eq_false hg]
            walk_at "S"
            refine x_P0 k12 fun y ry => ?_
            cases ry
            refine seen_atL (Mo.mo (s2.trans s212) kim) (behind_ok (by omega) hM.2.ok ok) (im_len OM) ?_
            refine x_P1 k12 fun y ry => ?_
            cases ry
            refine seen_atL (Mo.mo (s2.trans s212) kim) (behind_ok (by omega) hM.2.ok ok) (im_len OM) ?_
            walk_at "G"
            have esh : shows (mach m) rows lot p = !decide (gi (mach m).img (behind m.2 rows lot) = gi (mach m).img (behind m.2 rows (less lot p))) := rfl
            by_cases he : gi (mach m).img (behind m.2 rows lot) = gi (mach m).img (behind m.2 rows (less lot p))
            · have eI : (if p ∉ G ∧ shows (mach m) rows lot p = true then G ++ [p] else G) = G := if_neg fun z => by
                have := z.2
                rw [esh, decide_eq_true he] at this
                cases this
              rw [decide_eq_true he, eI]
              walk_at "S"
              exact ⟨⟨_, _, _, rfl⟩, s212, Mo.mo s712 k7, Mo.mo s712 kf7⟩
            · have eI : (if p ∉ G ∧ shows (mach m) rows lot p = true then G ++ [p] else G) = G ++ [p] := if_pos ⟨hg, by rw [esh, decide_eq_false he]; rfl⟩
              rw [decide_eq_false he, eI]
              walk_at "S"
              refine ⟨ty_L (Mo.mo s712 kf7), ?_⟩
              refine m_appR (Mo.mo s712 kf7) ⟨rfl, hw⟩ (by omega) fun o ko => ?_
              obtain ⟨xs13, e13⟩ := rL_at (Mo.mo s712 kf7)
              exact ⟨⟨_, _, _, rfl⟩, same_put s212 hfd, rL_put (Mo.mo s712 k7) e13 nofun hDf, ko⟩
      · rintro σ H7 ⟨⟨o7, o8, o9, rfl⟩, s7, k7, kf7⟩
        rw [List.take_length] at kf7
        walk_at "S"
        exact ⟨⟨_, _, _, _, rfl⟩, s7, kf7⟩
  · rintro σ H4 ⟨⟨o3, o7, o8, o9, rfl⟩, s4, k4⟩
    rw [List.take_length] at k4
    walk_at "S"
    exact c_tupRL k4 fun p H5 s5 hp k5 => q p H5 ((s1.trans (s2.trans s4)).trans s5) k5
end
end Nb

/-! part D17 -/
set_option Elab.async false
set_option linter.all false
set_option maxRecDepth 100000
set_option maxHeartbeats 4000000
namespace Nb
open PySem PySem.Spec PyProof.Rows L2
local macro_rules | `(tactic| walk_at "S") => `(tactic| (try simp only [tSeq, tNext, tRet, tIfS, tDrop, tAsg, gName, tFor_eq, tWhile_eq, tLc_eq, tLc2_eq, tDc_eq, sFld_eq, sDPut_eq, tPar, tPar3, tC, tVar, tCB, tOp, tTup, tLst, tChain, tDGet_eq, tDGet2, tAndV, tOrV, tNotV, tIf, tLstRg, tRg1, tDisp, tPairs, tUn, rU, tTest, tNot, tB, tAnd, tOr, tYes, tSl, tPart, tNoPart, tRevL, tM1, tDNewK, tDNewT, gCons_c, gNil_n, gSub, gTup_eq, iRng1_eq, iList_eq, iTup_eq, iSeq_eq, iStr, iKeys_eq, iVals_eq, iEnum_eq, cx_K, tCons, tNil, tBM, tCall, tMake, tProp_eq, tMeth_eq, tFld_eq, tStar_eq, iZipM_eq, tDisp1, L2.start, List.map_cons, List.map_nil, List.length_cons, List.length_nil, List.cons_append, List.nil_append, List.append_nil, List.getElem?_cons_zero, List.getElem?_cons_succ, List.set_cons_zero, List.set_cons_succ, Option.some.injEq, exists_eq_left', exists_eq_left, V.bl.injEq, V.int.injEq, V.str.injEq, V.ref.injEq, if_true, if_false, Nat.reduceAdd, Nat.reduceSub, List.replicate_succ, List.replicate_zero, Bool.not_true, Bool.not_false, Bool.false_eq_true, if_neg, not_false_eq_true, wipe]))
local macro_rules | `(tactic| walk_at "G") => `(tactic| (walk_at "S"; repeat ((first | with_reducible refine o_add ?_ | with_reducible refine o_sub ?_ | with_reducible refine o_mul ?_ | with_reducible refine o_lt ?_ | with_reducible refine o_le ?_ | with_reducible refine o_gt ?_ | with_reducible refine o_ge ?_ | with_reducible refine o_eqI ?_ | with_reducible refine o_neI ?_ | with_reducible refine o_eqS ?_ | with_reducible refine o_neS ?_ | with_reducible refine o_isN ?_ | with_reducible refine o_notN ?_ | with_reducible refine i_int ?_ | with_reducible refine i_intB ?_ | with_reducible refine i_str ?_); walk_at "S")))
section
variable {P : Program} {w : World} {K : PySem.W.Frag} {mg : Str → Option Value} {base : Heap}
/-- the heap without two addresses -/
def wo2 (d l : Addr) (H : Hp) : Hp := fun a => if a = d ∨ a = l then none else H a
section
variable {d l : Addr} {H H' : Hp} {o : HO}
theorem wo2_same : Same (wo2 d l H) H := fun a u e => by
  unfold wo2 at e
  split at e
  · cases e
  · exact e
theorem wo2_mono (h : Same H H') : Same (wo2 d l H) (wo2 d l H') := fun a u e => by
  unfold wo2 at e ⊢
  split at e
  · cases e
  · rename_i n
    rw [if_neg n]
    exact h _ _ e
theorem wo2_d : wo2 d l (upd H d o) = wo2 d l H := by
  funext a
  unfold wo2
  split
  · rfl
  · rename_i n
    exact upd_ne fun e => n (.inl e)
theorem wo2_l : wo2 d l (upd H l o) = wo2 d l H := by
  funext a
  unfold wo2
  split
  · rfl
  · rename_i n
    exact upd_ne fun e => n (.inr e)
theorem wo2_t {u v : HO} (h1 : H d = some u) (n1 : ∀ xs, u ≠ .tup xs) (h2 : H l = some v) (n2 : ∀ xs, v ≠ .tup xs) : SameT H (wo2 d l H) := fun a xs e => by
  unfold wo2
  rw [if_neg]
  · exact e
  · rintro (rfl | rfl)
    · rw [h1] at e; cases e; exact n1 _ rfl
    · rw [h2] at e; cases e; exact n2 _ rfl
theorem wo2_at {a : Addr} (n1 : a ≠ d) (n2 : a ≠ l) : wo2 d l H a = H a := by
  unfold wo2
  rw [if_neg]
  rintro (h | h)
  · exact n1 h
  · exact n2 h
theorem wo2_L {α : Type} {r : RR α} [Tt r] {a : Addr} {xs : List α} {u v : HO} (h : rL r H (.ref a) xs) (h1 : H d = some u) (n1 : ∀ xs, u ≠ .tup xs) (h2 : H l = some v) (n2 : ∀ xs, v ≠ .tup xs) (m1 : a ≠ d) (m2 : a ≠ l) : rL r (wo2 d l H) (.ref a) xs := by
  obtain ⟨b, ys, e, e1, k, hl⟩ := h
  cases e
  exact ⟨a, ys, rfl, by rw [wo2_at m1 m2]; exact e1, k.mono fun _ _ z => Tt.tm (wo2_t h1 n1 h2 n2) z, hl⟩
end
abbrev rPr : RR (St1 × List Entry) := rP (rT rI) (rL rE)
theorem round_mid {M : Mach} {ls : List (List Str)} {ppl : List Str} (OM : OkM M) {k : Nat} (i : Nat) : Mid (ledF M ls) (ents ppl (M.deeds.map Prod.fst)) (begF M ls) (okSt M.seen.length ls.length) (bF M ls ppl k).1 k (((bF M ls ppl k).2.take i).foldl (visits (ledF M ls) (ents ppl (M.deeds.map Prod.fst))) ((bF M ls ppl k).1, [])) :=
  line_mid (fun _ _ hs he => ledF_ok OM hs (ents_ok he).1) _ (fun p hp => ⟨(lv_P OM k).sub p (List.mem_of_mem_take hp), (lv_P OM k).len p (List.mem_of_mem_take hp)⟩) (lv_P OM k).mid
theorem lv_grow {S E : Type} [DecidableEq S] {f : S → E → S} {es : List E} {b : S} {G : S → Prop} (hG : ∀ s e, G s → e ∈ es → G (f s e)) (hb : G b) (k : Nat) : ∀ j, ∀ p ∈ (lv f es b k).1, p ∈ (lv f es b (k + j)).1
  | 0, p, h => h
  | j + 1, p, h => line_sub (f := f) (es := es) (lv f es b (k + j)).2 (acc := ((lv f es b (k + j)).1, [])) (lv_grow hG hb k j p h)
theorem lv_stop {S E : Type} [DecidableEq S] {f : S → E → S} {es : List E} {b : S} {k : Nat} (h : (lv f es b k).2 = []) : ∀ j, lv f es b (k + j) = lv f es b k
  | 0 => rfl
  | j + 1 => by
    show round f es (lv f es b (k + j)).1 (lv f es b (k + j)).2 = _
    rw [lv_stop h j, h]
    unfold round
    rw [List.foldl_nil]
    exact Prod.ext rfl h.symm
/-- the path found at any level is the one at the end -/
theorem short_at {M : Mach} (OM : OkM M) {rows : List Entry} {few : Int} {j k : Nat} {p : St1 × List Entry} (hp : p ∈ (bF M (lots (folk rows) few) (folk rows) j).1) (e : p.1 = standF M (lots (folk rows) few) rows) (hk : ended M rows few k) : short M rows few k = p.2 := by
  have hin : p ∈ (bF M (lots (folk rows) few) (folk rows) k).1 := by
    by_cases le : j ≤ k
    · have z := lv_grow (f := ledF M (lots (folk rows) few)) (es := ents (folk rows) (M.deeds.map Prod.fst)) (b := begF M (lots (folk rows) few)) (G := okSt M.seen.length (lots (folk rows) few).length) (fun _ _ hs he => ledF_ok OM hs (ents_ok he).1) (begF_ok OM _) j (k - j) p hp
      rwa [show j + (k - j) = k by omega] at z
    · have z := lv_stop (show (lv (ledF M (lots (folk rows) few)) (ents (folk rows) (M.deeds.map Prod.fst)) (begF M (lots (folk rows) few)) k).2 = [] from hk) (j - k)
      rw [show k + (j - k) = j by omega] at z
      have hp' : p ∈ (lv (ledF M (lots (folk rows) few)) (ents (folk rows) (M.deeds.map Prod.fst)) (begF M (lots (folk rows) few)) j).1 := hp
      rw [z] at hp'
      exact hp'
  have pf := pair_of (lv_P OM k).nd hin
  rw [e] at pf
  unfold short
  rw [pf]
  rfl
/-- a relation in the heap without two addresses -/
def rW {α : Type} (d l : Addr) (r : RR α) : RR α := fun H v x => r (wo2 d l H) v x
instance {α : Type} {d l : Addr} {r : RR α} [Mo r] : Mo (rW d l r) := ⟨fun h k => Mo.mo (r := r) (wo2_mono h) k⟩
theorem rW_new {α : Type} {r : RR α} [Mo r] {d lt ln : Addr} {H : Hp} {xs : List α} (h : rL (rW d d r) H (.ref ln) xs) (hl : H lt = none) : rL (rW d lt r) (upd H lt (.lst [])) (.ref ln) xs := by
  obtain ⟨a, ys, e, e1, k, b⟩ := h
  cases e
  have s : Same (wo2 d d H) (wo2 d lt (upd H lt (.lst []))) := fun c u z => by
    unfold wo2 at z ⊢
    split at z
    · cases z
    · rename_i n
      have n1 : c ≠ lt := ne_of_none z hl
      rw [if_neg (by rintro (q | q); exact n (.inl q); exact n1 q), upd_ne n1]
      exact z
  exact ⟨ln, ys, rfl, by rw [upd_ne (ne_of_none e1 hl)]; exact e1, k.mono fun _ _ z => Mo.mo (r := r) s z, b⟩
theorem rW_old {α : Type} {r : RR α} [Mo r] {d lt ln : Addr} {H : Hp} {xs : List α} (h : rL (rW d lt r) H (.ref ln) xs) : rL (rW d d r) H (.ref ln) xs := by
  obtain ⟨a, ys, e, e1, k, b⟩ := h
  cases e
  have s : Same (wo2 d lt H) (wo2 d d H) := fun c u z => by
    unfold wo2 at z ⊢
    split at z
    · cases z
    · rename_i n
      rw [if_neg (by rintro (q | q) <;> exact n (.inl q))]
      exact z
  exact ⟨ln, ys, rfl, e1, k.mono fun _ _ z => Mo.mo (r := r) s z, b⟩
theorem rW_out {α : Type} {r : RR α} [Mo r] {d lt : Addr} {H : Hp} {v : V} {x : α} (h : rW d lt r H v x) : r H v x := Mo.mo (r := r) wo2_same h
theorem rW_outL {α : Type} {r : RR α} [Mo r] {d lt : Addr} {H : Hp} {v : V} {x : List α} (h : rL (rW d lt r) H v x) : rL r H v x := by
  obtain ⟨a, ys, e, e1, k, b⟩ := h
  exact ⟨a, ys, e, e1, k.mono fun _ _ z => rW_out z, b⟩
abbrev yes (P : Ps St1 Entry) : List (St1 × Bool) := P.map fun p => (p.1, true)
theorem yes_keys (P : Ps St1 Entry) : (yes P).map Prod.fst = P.map Prod.fst := by unfold yes; rw [List.map_map]; rfl
def sp__law_short : Sp := fun vs H Q _ => match vs with
  | [x, y, n] => ∃ m rows few, rMo H x m ∧ rL rE H y rows ∧ n = .int few ∧ okRows m.2 rows ∧ rows.length < 64 ∧ few ≤ 6 ∧ (folk rows).length ≤ 6 ∧ m.1.length ^ (lots (folk rows) few).length ≤ 4096 ∧ ∀ k, ended (mach m) rows few k → ∀ l H', Same H H' → rL rE H' (.ref l) (short (mach m) rows few k) → Q (.ref l) H'
  | _ => False
theorem fresh_of_wo {α : Type} {r : RR α} {H : Hp} {a d l : Addr} {xs : List α} (h : rL r (wo2 d l H) (.ref a) xs) : a ≠ d ∧ a ≠ l := by
  obtain ⟨b, ys, e, e1, _⟩ := h
  cases e
  unfold wo2 at e1
  constructor
  · rintro rfl; simp at e1
  · rintro rfl; simp at e1
theorem o_neRp {H : Hp} {x y : V} {a b : List (St1 × List Entry)} {Q : VK} (h1 : rL rPr H x a) (h2 : rL rPr H y b) (q : Q (.bl (!decide (a = b))) H) : rOp P w K mg (compareOp .NotEq) x y H Q := o_neR (r := rL rPr) h1 h2 q
theorem sc__law_short : FnScope ["_law_model_here", "_law_rows", "_law_few", "_law_lots_here", "_law_due", "_law_begin_here", "_law_folk_here", "_law_same", "_law_line", "_law_seen", "_law_longer", "_law_spots", "_law_some", "_law_entry", "_law_led_here", "_law_behind_here", "_law_lot_here", "_law_spot"] ["_law_model_here", "_law_rows", "_law_few"] (defScope s__law_short) := ⟨rfl, rfl, rfl, by decide +kernel, rfl, by decide +kernel, by decide +kernel⟩
theorem sp__law_short_len : ∀ (vs : List V) (H : Hp) (Q : VK) (E : XK), sp__law_short vs H Q E → vs.length = 3
  | [_, _, _], _, _, _, _ => rfl
  | [], _, _, _, h => h.elim
  | [_], _, _, _, h => h.elim
  | [_, _], _, _, _, h => h.elim
  | _ :: _ :: _ :: _ :: _, _, _, _, h => h.elim
theorem cal__law_short (T : Tx P w K mg) : Cl P w K mg base 4 "_law_short" sp__law_short [] := by
  refine cl_of (st := s__law_short) (qual := "_law_short") (kws := []) (T.c.def_ 95 (d := d__law_short) rfl) sc__law_short sp__law_short_len (T.glo 85 rfl) (fun _ _ _ _ _ _ us hl => match us, hl with | [_, _, _], _ => rfl) (fun cdv A outer s H vs Q E hr h => ⟨_, (pss_cons (ps_par (i := 6) (j := 7) rfl sc__law_short.nd rfl rfl (by decide) rfl rfl (pa_cons (pe_cl (cal__law_folk T) hr (by decide) rfl (pa_cons (pv 1) pa_nil)) (pa_cons (pe_cl (cal__law_images T) hr (by decide) rfl (pa_cons (pv 0) pa_nil)) pa_nil)) (by rfl))
  (pss_cons (ps_set (i := 3) sc__law_short.nd rfl (Or.inl rfl) (pe_cl (cal__law_lots T) hr (by decide) rfl (pa_cons (pv 6) (pa_cons (pv 2) pa_nil))))
  (pss_cons (ps_set (i := 4) sc__law_short.nd rfl (Or.inl rfl) (pe_callTy (cl_any (f := .type "tuple") T hr) rfl (T.free 119 rfl) (by decide +kernel) (pa_cons (pe_cl (cal__law_vector T) hr (by decide) rfl (pa_cons (pv 0) (pa_cons (pv 1) (pa_cons (pv 6) (pa_cons (pv 2) pa_nil))))) pa_nil)))
  (pss_cons (ps_set (i := 5) sc__law_short.nd rfl (Or.inl rfl) (pe_callTy (cl_any (f := .type "tuple") T hr) rfl (T.free 119 rfl) (by decide +kernel) (pa_cons (pe_op (op_any T hr) (pe_lst (pa_cons (pe_ix (ix_any T hr) (pv 7) pe_int (fun _ _ => rfl)) pa_nil)) (pe_callB (cl_any (f := .builtin "len") T hr) rfl (T.free 109 rfl) (by decide +kernel) (pa_cons (pv 3) pa_nil))) pa_nil)))
  (pss_cons (ps_par (i := 8) (j := 9) rfl sc__law_short.nd rfl rfl (by decide) rfl rfl (pa_cons (pe_lst (pa_cons (pe_tup (pa_cons (pv 5) (pa_cons (pe_lst pa_nil) pa_nil))) pa_nil)) (pa_cons (pe_dispT1 (hu_of hr) (pv 5) pe_bl) pa_nil)) (by rfl))
  (pss_cons (ps_while PassesOwn.never (pt_cmpR (op_any T hr) (pv 8) (pe_lst pa_nil) (nomark _)) (pss_cons (ps_set (i := 10) sc__law_short.nd rfl (Or.inl rfl) (pe_lst pa_nil))
  (pss_cons (ps_for PassesOwn.never rfl (pi_ls T (pv 8)) (pg_tk (n := 2) T rfl (pgs_cons (pg_name (i := 11) sc__law_short.nd rfl (Or.inl rfl)) (pgs_cons (pg_name (i := 12) sc__law_short.nd rfl (Or.inl rfl)) pgs_nil))) (pss_cons (ps_if (pt_cmpR (op_any T hr) (pv 11) (pv 4) (nomark _)) (pss_one (ps_ret (pv 12))) pss_nil)
  (pss_one (ps_for PassesOwn.never rfl (pi_ls T (pe_cl (cal__law_entries T) hr (by decide) rfl (pa_cons (pv 0) (pa_cons (pv 6) pa_nil)))) (pg_name (i := 13) sc__law_short.nd rfl (Or.inl rfl)) (pss_cons (ps_set (i := 14) sc__law_short.nd rfl (Or.inl rfl) (pe_dget (hu_of hr) (pe_dget (hu_of hr) (pv 0) pe_str (fun _ _ => rfl)) (pe_ix (ix_any T hr) (pv 13) pe_int (fun _ _ => rfl)) (fun _ _ => rfl)))
  (pss_cons (ps_set (i := 15) sc__law_short.nd rfl (Or.inl rfl) (pe_lst pa_nil))
  (pss_cons (ps_for PassesOwn.never rfl (pi_zipLT rfl (T.free 120 rfl) (pa_cons (pv 3) (pa_cons (pv 11) pa_nil))) (pg_tk (n := 2) T rfl (pgs_cons (pg_name (i := 16) sc__law_short.nd rfl (Or.inl rfl)) (pgs_cons (pg_name (i := 17) sc__law_short.nd rfl (Or.inl rfl)) pgs_nil))) (pss_one (ps_expr (pe_bk T PySem.F.plainAttrs_list PySem.F.slot_list_append PySem.F.type_list_append (mt_any T hr) (pv 15) (pa_cons (pe_ifExp (pt_cmpR (op_any T hr) (pe_ix (ix_any T hr) (pv 13) pe_int (fun _ _ => rfl)) (pv 16) (by rfl)) (pv 17) (pe_ix (ix_any T hr) (pv 7) (pe_ix (ix_any T hr) (pv 14) (pv 17) (fun _ _ => rfl)) (fun _ _ => rfl))) pa_nil)))))
  (pss_cons (ps_set (i := 15) sc__law_short.nd rfl (Or.inl rfl) (pe_callTy (cl_any (f := .type "tuple") T hr) rfl (T.free 119 rfl) (by decide +kernel) (pa_cons (pv 15) pa_nil)))
  (pss_one (ps_if (pt_cmpR (op_any T hr) (pv 15) (pv 9) (by rfl)) (pss_cons (ps_dput (hu_of hr) (pv 9) (pv 15) pe_bl rfl)
  (pss_one (ps_expr (pe_bk T PySem.F.plainAttrs_list PySem.F.slot_list_append PySem.F.type_list_append (mt_any T hr) (pv 10) (pa_cons (pe_tup (pa_cons (pv 15) (pa_cons (pe_op (op_any T hr) (pv 12) (pe_lst (pa_cons (pv 13) pa_nil))) pa_nil))) pa_nil))))) pss_nil))))))))))
  (pss_one (ps_set (i := 8) sc__law_short.nd rfl (Or.inl rfl) (pv 10))))))
  (pss_one (ps_ret pe_non)))))))), ?_⟩)
  obtain ⟨a0, a1, a2, rfl⟩ := len3 (sp__law_short_len _ _ _ _ h)
  obtain ⟨m, rows, few, hM, hr', rfl, ok, h64, f6, n6, hB, q⟩ := h
  have lo := hM.2.lo
  have OM := mach_ok hM.2
  have h0 : 5000 ≤ lim := by decide
  walk_at "S"
  refine ⟨rows, hr', h64, fun fk H1 s1 hfk kfk => ?_⟩
  walk_at "S"
  refine ⟨m, Mo.mo s1 hM, fun im H2 s2 him kim => ?_⟩
  refine ⟨_, _, rfl, ?_⟩
  walk_at "S"
  have s02 := s1.trans s2
  refine ⟨folk rows, few, Mo.mo s2 kfk, rfl, f6, n6, fun l3 H3 s3 hl3 k3 => ?_⟩
  have s03 := s02.trans s3
  walk_at "S"
  refine ⟨m, rows, folk rows, few, Mo.mo s03 hM, Mo.mo s03 hr', Mo.mo (s2.trans s3) kfk, rfl, ok, f6, n6, fun v4 H4 s4 hv4 k4 => ?_⟩
  have s04 := s03.trans s4
  walk_at "S"
  refine c_tupRL k4 fun t5 H5 s5 ht5 k5 => ?_
  have s05 := s04.trans s5
  rw [← stand_vec OM rows ok] at k5
  have k3' : rL (rT rS) H5 (.ref l3) (lots (folk rows) few) := Mo.mo (s4.trans s5) k3
  have kfk' : rL rS H5 (.ref fk) (folk rows) := Mo.mo (((s2.trans s3).trans s4).trans s5) kfk
  have kim' : rL rI H5 (.ref im) (mach m).img := Mo.mo ((s3.trans s4).trans s5) kim
  have hM' := Mo.mo s05 hM
  have hend : ∀ k l H', Same H5 H' → ended (mach m) rows few k → rL rE H' (.ref l) (short (mach m) rows few k) → Q (.ref l) H' := fun k l H' s he kl => q k he l H' (s05.trans s) kl
  clear q
  generalize hL : lots (folk rows) few = L at *
  have Bd : ∀ k, (bF (mach m) L (folk rows) k).1.length ≤ 4096 := fun k => Nat.le_trans (few_P (lv_P OM k).nd (lv_P OM k).good) hB
  walk_at "S"
  refine seen_atL kim' (n := m.1.length) ⟨by omega, by omega⟩ (im_len OM) ?_
  walk_at "S"
  refine ⟨by decide, fun l6 hl6 => ?_⟩
  have s6 : Same H5 (upd H5 l6 (.lst [.int (gi (mach m).img 0)])) := same_new (same_refl _) hl6
  have e6 : upd H5 l6 (.lst [.int (gi (mach m).img 0)]) l6 = some (.lst [.int (gi (mach m).img 0)]) := upd_same
  generalize upd H5 l6 (.lst [.int (gi (mach m).img 0)]) = H6 at s6 e6
  refine c_lenRL (Mo.mo s6 k3') ?_
  have hLb := rL_bnd k3'
  have lim2 : lim ≤ sizeLine := by decide
  have lim3 : lim = 2 ^ 20 := rfl
  refine o_rep e6 (by omega) (by omega) (by simp; omega) fun l7 hl7 => ?_
  have s7 : Same H6 (upd H6 l7 (.lst (List.replicate ((L.length : Int)).toNat [V.int (gi (mach m).img 0)]).flatten)) := same_new (same_refl _) hl7
  have eb : (List.replicate ((L.length : Int)).toNat [V.int (gi (mach m).img 0)]).flatten = (begF (mach m) L).map V.int := by
    unfold begF
    simp [List.map_const']
  have k7 : rL rI (upd H6 l7 (.lst (List.replicate ((L.length : Int)).toNat [V.int (gi (mach m).img 0)]).flatten)) (.ref l7) (begF (mach m) L) := by
    rw [eb]
    exact mk_L hl7 (A2.of _ fun _ _ => rfl) (by simp [begF]; omega)
  generalize upd H6 l7 (.lst (List.replicate ((L.length : Int)).toNat [V.int (gi (mach m).img 0)]).flatten) = H7 at s7 k7
  refine c_tupRL k7 fun t8 H8 s8 ht8 k8 => ?_
  have s58 := (s6.trans s7).trans s8
  walk_at "S"
  refine ⟨by decide, fun la hla => ?_⟩
  have s9 : Same H8 (upd H8 la (.lst [])) := same_new (same_refl _) hla
  have k9 : rL rE (upd H8 la (.lst [])) (.ref la) [] := mk_L hla trivial (by decide)
  generalize upd H8 la (.lst []) = H9 at s9 k9
  refine ⟨by decide, fun ta hta => ?_⟩
  have s10 : Same H9 (upd H9 ta (.tup [.ref t8, .ref la])) := same_new (same_refl _) hta
  have k10 : rPr (upd H9 ta (.tup [.ref t8, .ref la])) (.ref ta) (begF (mach m) L, []) := ⟨ta, _, _, rfl, upd_same, Mo.mo (s9.trans s10) k8, Mo.mo s10 k9⟩
  generalize upd H9 ta (.tup [.ref t8, .ref la]) = H10 at s10 k10
  refine ⟨by decide, fun ln hln => ?_⟩
  have s11 : Same H10 (upd H10 ln (.lst [.ref ta])) := same_new (same_refl _) hln
  have k11 : rL rPr (upd H10 ln (.lst [.ref ta])) (.ref ln) [(begF (mach m) L, [])] := ⟨ln, _, rfl, upd_same, A2.one (Mo.mo s11 k10), (by decide : 1 ≤ lim)⟩
  generalize upd H10 ln (.lst [.ref ta]) = H11 at s11 k11
  intro d hd
  have s12 : Same H11 (upd H11 d (.dT [])) := same_new (same_refl _) hd
  have e12 : upd H11 d (.dT []) d = some (.dT []) := upd_same
  have kb12 : rT rI (upd H11 d (.dT [])) (.ref t8) (begF (mach m) L) := Mo.mo (((s9.trans s10).trans s11).trans s12) k8
  obtain ⟨b8, eb8, hb8⟩ := keyT kb12
  cases eb8
  refine ⟨t8, keyI (begF (mach m) L), rfl, hb8, e12, ?_⟩
  have s13 : Same H11 (upd (upd H11 d (.dT [])) d (.dT [(keyI (begF (mach m) L), .bl true)])) := same_put s12 hd
  have k13 : rDT rB (upd (upd H11 d (.dT [])) d (.dT [(keyI (begF (mach m) L), .bl true)])) (.ref d) [(begF (mach m) L, true)] := ⟨d, _, rfl, upd_same, A2.one ⟨rfl, rfl⟩, (by decide : 1 ≤ lim)⟩
  generalize upd (upd H11 d (.dT [])) d (.dT [(keyI (begF (mach m) L), .bl true)]) = H13 at s13 k13
  have s5b : Same H5 H11 := ((s58.trans s9).trans s10).trans s11
  have k11' : rL rPr H13 (.ref ln) [(begF (mach m) L, [])] := Mo.mo s13 k11
  have s513 := s5b.trans s13
  have hd5 : H5 d = none := s5b.free hd
  walk_at "S"
  refine ⟨_, _, rfl, ?_⟩
  have kl0 : rL (rW d d rPr) H13 (.ref ln) [(begF (mach m) L, [])] := by
    obtain ⟨a, ys, e, e1, k, b⟩ := k11
    cases e
    have sw : Same H11 (wo2 d d H13) := fun c u z => by
      have n1 : c ≠ d := ne_of_none z hd
      rw [wo2_at n1 n1]
      exact s13 _ _ z
    exact ⟨ln, ys, rfl, s13 _ _ e1, k.mono fun _ _ z => Mo.mo (r := rPr) sw z, b⟩
  have hln50 : H5 ln = none := ((s58.trans s9).trans s10).free hln
  clear k11 k11' s12 e12 kb12 hb8 k10 k9 k8 k7 eb e6 s58 s5b s13 s11 s10 s9 s8 s7 s6 hln hta hla
  have EO : ∀ e ∈ ents (folk rows) (m.2.map Prod.fst), e.2 ∈ m.2.map Prod.fst := fun e he => (ents_ok (M := mach m) he).1
  refine ⟨fun mm σ H' => ∃ k ln o10 o11 o12 o13 o14 o15 o16 o17, mm = 2 * (4097 - (bF (mach m) L (folk rows) k).1.length) + (if (bF (mach m) L (folk rows) k).2 = [] then 0 else 1) ∧
    σ = [some a0, some a1, some (.int few), some (.ref l3), some (.ref t5), some (.ref t8), some (.ref fk), some (.ref im), some (.ref ln), some (.ref d), o10, o11, o12, o13, o14, o15, o16, o17] ∧ Same H5 H' ∧
    rDT rB H' (.ref d) (yes (bF (mach m) L (folk rows) k).1) ∧ rL (rW d d rPr) H' (.ref ln) (bF (mach m) L (folk rows) k).2 ∧ H5 ln = none ∧ ∀ p ∈ (bF (mach m) L (folk rows) k).1, p.1 = standF (mach m) L rows → p ∈ (bF (mach m) L (folk rows) k).2, ⟨_, 0, ln, none, none, none, none, none, none, none, none, rfl, rfl, s513, k13, kl0, hln50, fun p hp _ => hp⟩, ?_⟩
  clear k13 kl0 s513
  rintro mm σ H' ⟨k, ln, o10, o11, o12, o13, o14, o15, o16, o17, rfl, rfl, s7, kd, kl, hln5, unseen⟩
  have LV := lv_P OM (ls := L) (ppl := folk rows) k
  have nx : bF (mach m) L (folk rows) (k + 1) = round (ledF (mach m) L) (ents (folk rows) (m.2.map Prod.fst)) (bF (mach m) L (folk rows) k).1 (bF (mach m) L (folk rows) k).2 := rfl
  have BN := Bd (k + 1)
  have BK := Bd k
  have SA : ∀ p ∈ (bF (mach m) L (folk rows) k).1, p.1 = standF (mach m) L rows → ∀ kk, ended (mach m) rows few kk → short (mach m) rows few kk = p.2 := fun p hp e kk hk => by
    subst hL
    exact short_at OM hp e hk
  have SI : (bF (mach m) L (folk rows) k).2 = [] → ∃ p ∈ (bF (mach m) L (folk rows) k).1, p.1 = standF (mach m) L rows := fun he => by
    subst hL
    exact short_in OM ok he
  have SE : ended (mach m) rows few 4096 := by
    subst hL
    refine Classical.byContradiction fun no => ?_
    have z := (lv_P OM (ls := lots (folk rows) few) (ppl := folk rows) 4096).much no
    have y := Bd 4096
    omega
  rw [nx] at BN
  generalize hP : (bF (mach m) L (folk rows) k).1 = P at kd kl LV BK BN nx unseen SA SI ⊢
  generalize hN : (bF (mach m) L (folk rows) k).2 = line at kd kl LV BK BN nx unseen SA SI ⊢
  walk_at "S"
  refine ⟨by decide, fun t9 ht9 => ?_⟩
  have s9 : Same H' (upd H' t9 (.lst [])) := same_new (same_refl _) ht9
  have k9 : rL rPr (upd H' t9 (.lst [])) (.ref t9) [] := ⟨t9, [], rfl, upd_same, trivial, (by decide : 0 ≤ lim)⟩
  generalize upd H' t9 (.lst []) = H9 at s9 k9
  refine o_neRp (Mo.mo s9 (rW_outL kl)) k9 ?_
  walk_at "S"
  by_cases hz : line = []
  · exfalso
    obtain ⟨p, hp, e⟩ := SI hz
    have := unseen p hp e
    rw [hz] at this
    simp at this
  · rw [decide_eq_false hz]
    walk_at "S"
    refine ⟨_, fun σ' H'' z => z, ?_⟩
    have s79 := s7.trans s9
    have kd9 := Mo.mo s9 kd
    have kl9 := Mo.mo s9 kl
    walk_at "S"
    refine ⟨by decide, fun lt hlt => ?_⟩
    have s10 : Same H9 (upd H9 lt (.lst [])) := same_new (same_refl _) hlt
    have kl10 : rL (rW d lt rPr) (upd H9 lt (.lst [])) (.ref ln) line := rW_new kl9 hlt
    have klt : rL (rW d lt rPr) (upd H9 lt (.lst [])) (.ref lt) [] := ⟨lt, [], rfl, upd_same, trivial, (by decide : 0 ≤ lim)⟩
    have nll : ln ≠ lt := by obtain ⟨xs, e⟩ := rL_at kl9; exact ne_of_none e hlt
    have kd10 := Mo.mo s10 kd9
    have hlt5 : H5 lt = none := s79.free hlt
    generalize upd H9 lt (.lst []) = H10 at s10 kl10 klt kd10
    have s510 := s79.trans s10
    walk_at "S"
    refine ls_L kl10 fun c ec hc => ?_
    cases ec
    refine for_L (r := rW d lt rPr) (l := line) (fun i σ H' => (∃ o11 o12 o13 o14 o15 o16 o17, σ = [some a0, some a1, some (.int few), some (.ref l3), some (.ref t5), some (.ref t8), some (.ref fk), some (.ref im), some (.ref ln), some (.ref d), some (.ref lt), o11, o12, o13, o14, o15, o16, o17]) ∧ Same H5 H' ∧ rL (rW d lt rPr) H' (.ref ln) line ∧
      rDT rB H' (.ref d) (yes ((line.take i).foldl (visits (ledF (mach m) L) (ents (folk rows) (m.2.map Prod.fst))) (P, [])).1) ∧ rL (rW d lt rPr) H' (.ref lt) ((line.take i).foldl (visits (ledF (mach m) L) (ents (folk rows) (m.2.map Prod.fst))) (P, [])).2 ∧ ∀ p ∈ line.take i, p.1 ≠ standF (mach m) L rows)
      ⟨⟨_, _, _, _, _, _, _, rfl⟩, s510, kl10, kd10, klt, by simp⟩ (fun i σ H' _ ⟨_, _, h, _⟩ => h) ?_ ?_
    · rintro i x p σ H11 hi rx ⟨⟨o11, o12, o13, o14, o15, o16, o17, rfl⟩, s11, kl11, kd11, klt11, un11⟩
      have hpl := List.mem_of_getElem? hi
      have md0 : Mid (ledF (mach m) L) (ents (folk rows) (m.2.map Prod.fst)) (begF (mach m) L) (okSt m.1.length L.length) P k ((line.take i).foldl (visits (ledF (mach m) L) (ents (folk rows) (m.2.map Prod.fst))) (P, [])) :=
        line_mid (fun _ _ hs he => ledF_ok OM hs (EO _ he)) _ (fun p hp => ⟨LV.sub p (List.mem_of_mem_take hp), LV.len p (List.mem_of_mem_take hp)⟩) LV.mid
      have ft : (line.take (i + 1)).foldl (visits (ledF (mach m) L) (ents (folk rows) (m.2.map Prod.fst))) (P, []) = (ents (folk rows) (m.2.map Prod.fst)).foldl (visit (ledF (mach m) L) p) ((line.take i).foldl (visits (ledF (mach m) L) (ents (folk rows) (m.2.map Prod.fst))) (P, [])) := fold_take _ _ hi
      rw [ft]
      have eti : line.take (i + 1) = line.take i ++ [p] := by rw [List.take_succ, hi]; rfl
      rw [eti]
      generalize (line.take i).foldl (visits (ledF (mach m) L) (ents (folk rows) (m.2.map Prod.fst))) (P, []) = acc0 at kd11 klt11 md0 ⊢
      obtain ⟨tp, xs0, xe0, rfl, etp, rsp, rso⟩ := id rx
      have etp1 : H11 tp = some (.tup [xs0, xe0]) := wo2_same _ _ etp
      walk_at "S"
      refine tup_n etp1 rfl ?_
      walk_at "S"
      have rsp1 : rT rI H11 xs0 p.1 := Mo.mo wo2_same rsp
      refine o_eqR (r := rT rI) rsp1 (Mo.mo s11 k5) ?_
      walk_at "S"
      by_cases hdue : p.1 = standF (mach m) L rows
      · rw [decide_eq_true hdue]
        walk_at "S"
        have epath := SA p (LV.sub p hpl) hdue _ SE
        obtain ⟨lr, ys, er, er1, er2, er3⟩ := id rso
        cases er
        refine hend _ lr H11 s11 SE ?_
        rw [epath]
        exact Mo.mo wo2_same rso
      · rw [decide_eq_false hdue]
        walk_at "S"
        refine ⟨m, folk rows, Mo.mo s11 hM', Mo.mo s11 kfk', n6, fun l12 H12 s12 hl12 k12 => ?_⟩
        have s512 := s11.trans s12
        refine ls_L k12 fun c ec hc12 => ?_
        cases ec
        obtain ⟨lx, elt⟩ := rL_at klt11
        obtain ⟨dx, edd⟩ := rDT_at kd11
        have n12t : l12 ≠ lt := Ne.symm (ne_of_none elt hl12)
        have n12d : l12 ≠ d := Ne.symm (ne_of_none edd hl12)
        refine for_L (r := rE) (l := ents (folk rows) (m.2.map Prod.fst)) (fun j σ H' => (∃ o13 o14 o15 o16 o17, σ = [some a0, some a1, some (.int few), some (.ref l3), some (.ref t5), some (.ref t8), some (.ref fk), some (.ref im), some (.ref ln), some (.ref d), some (.ref lt), some xs0, some xe0, o13, o14, o15, o16, o17]) ∧ Same H5 H' ∧ rL (rW d lt rPr) H' (.ref ln) line ∧
          rDT rB H' (.ref d) (yes (((ents (folk rows) (m.2.map Prod.fst)).take j).foldl (visit (ledF (mach m) L) p) acc0).1) ∧ rL (rW d lt rPr) H' (.ref lt) (((ents (folk rows) (m.2.map Prod.fst)).take j).foldl (visit (ledF (mach m) L) p) acc0).2 ∧ rL rE H' (.ref l12) (ents (folk rows) (m.2.map Prod.fst)) ∧ rT rI H' xs0 p.1 ∧ rW d lt (rL rE) H' xe0 p.2)
          ⟨⟨_, _, _, _, _, rfl⟩, s512, Mo.mo s12 kl11, Mo.mo s12 kd11, Mo.mo s12 klt11, hc12, Mo.mo s12 rsp1, Mo.mo (r := rW d lt (rL rE)) s12 rso⟩ (fun i σ H' _ ⟨_, _, _, _, _, h, _⟩ => h) ?_ ?_
        · rintro j y e σ H13 hj ry ⟨⟨o13, o14, o15, o16, o17, rfl⟩, s13, kl13, kd13, klt13, k13, rsp13, rso13⟩
          have hem := List.mem_of_getElem? hj
          have hek := EO e hem
          have md : Mid (ledF (mach m) L) (ents (folk rows) (m.2.map Prod.fst)) (begF (mach m) L) (okSt m.1.length L.length) P k (((ents (folk rows) (m.2.map Prod.fst)).take j).foldl (visit (ledF (mach m) L) p) acc0) :=
            visits_mid (fun _ _ hs he => ledF_ok OM hs (EO _ he)) (LV.sub p hpl) (LV.len p hpl) _ (fun a ha => List.mem_of_mem_take ha) md0
          have fe := fold_take (visit (ledF (mach m) L) p) acc0 hj
          rw [fe]
          generalize ((ents (folk rows) (m.2.map Prod.fst)).take j).foldl (visit (ledF (mach m) L) p) acc0 = acc at kd13 klt13 md ⊢
          have hpa : p ∈ acc.1 := by rw [md.pre]; exact List.mem_append_left _ (LV.sub p hpl)
          have bacc : acc.1.length ≤ 4096 := Nat.le_trans (few_P md.nd md.good) hB
          have bacc2 : acc.2.length ≤ 4096 := by have := congrArg List.length md.pre; rw [List.length_append] at this; omega
          have okst := md.good p hpa
          obtain ⟨mp, hmp⟩ := lookup_of_key hek
          walk_at "S"
          refine gMo_maps (Mo.mo s13 hM') fun ymp kymp => ?_
          refine x_P1 ry fun ynm rynm => ?_
          obtain ⟨rfl, hwnm⟩ := rynm
          refine dg_R (r := rL rI) kymp hmp fun yld kyld => ?_
          walk_at "S"
          refine ⟨by decide, fun bh hbh => ?_⟩
          have s14 : Same H13 (upd H13 bh (.lst [])) := same_new (same_refl _) hbh
          have kb14 : rL rI (upd H13 bh (.lst [])) (.ref bh) [] := mk_L hbh trivial (by decide)
          generalize upd H13 bh (.lst []) = H14 at s14 kb14
          have s514 := s13.trans s14
          walk_at "S"
          refine zp_LT (Mo.mo s514 k3') (Mo.mo s14 rsp13) fun c dd ec ed => ?_
          cases ec
          subst ed
          have hlen : L.length = p.1.length := okst.1.symm
          refine for_Z (r := rT rS) (r2 := rI) hlen (fun i σ H' => (∃ o16 o17, σ = [some a0, some a1, some (.int few), some (.ref l3), some (.ref t5), some (.ref t8), some (.ref fk), some (.ref im), some (.ref ln), some (.ref d), some (.ref lt), some (.ref dd), some xe0, some y, some yld, some (.ref bh), o16, o17]) ∧ Same H13 H' ∧ rL rI H' (.ref bh) ((ledF (mach m) L p.1 e).take i)) ⟨⟨_, _, rfl⟩, s14, kb14⟩ (fun i σ H' ⟨_, s, _⟩ => ⟨Mo.mo (s13.trans s) k3', Mo.mo s rsp13⟩) ?_ ?_
          · rintro i2 x2 y2 lot s0 t σ H15 q1 q2 rx2 ry2 ⟨⟨o16, o17, rfl⟩, s15, kb15⟩ ht
            cases ry2
            have hin := okst.2 s0 (List.mem_of_getElem? q2)
            have s16 : Same H15 (upd H15 t (.tup [x2, .int s0])) := same_new (same_refl _) ht
            have et := zip_take (fun lot s => if e.1 ∈ lot.map some then s else gi (mach m).img (step1 (mach m).deeds s e.2)) i2 L p.1 q1 q2
            have nl : i2 < lim := by
              have z1 := (List.getElem?_eq_some_iff.mp q1).1
              omega
            have ln2 : ((ledF (mach m) L p.1 e).take i2).length < lim := by rw [List.length_take]; omega
            have hbhH : ∀ u, Same H13 u → Same H13 u := fun _ z => z
            walk_at "S"
            refine tup_n upd_same rfl ?_
            walk_at "S"
            generalize upd H15 t (.tup [x2, .int s0]) = H16 at s16
            have s136 := s15.trans s16
            refine ⟨ty_L (Mo.mo s16 kb15), ?_⟩
            refine x_P0 (Mo.mo s136 ry) fun yw ryw => ?_
            obtain ⟨rfl, hyw⟩ := ryw
            refine o_inT (o := e.1) (Mo.mo s16 rx2) ?_
            walk_at "S"
            by_cases hm : e.1 ∈ lot.map some
            · rw [decide_eq_true hm]
              walk_at "S"
              refine m_appR (Mo.mo s16 kb15) (show rI H16 (.int s0) s0 from rfl) ln2 fun o ko => ?_
              refine ⟨⟨_, _, rfl⟩, same_put s136 hbh, ?_⟩
              show rL rI _ _ ((List.zipWith _ L p.1).take (i2 + 1))
              rw [et, if_pos hm]
              exact ko
            · rw [decide_eq_false hm]
              walk_at "S"
              have hst := step1_ok OM.ok hek hin
              have e1 : step1 (mach m).deeds s0 e.2 = gi mp s0 := by unfold step1; rw [show (mach m).deeds.lookup e.2 = some mp from hmp]; rfl
              refine seen_atL (Mo.mo s136 kyld) hin (hM.2.ok _ (lookup_mem hmp)).1 ?_
              rw [e1] at hst et
              refine seen_atL (Mo.mo (s13.trans s136) kim') hst (im_len OM) ?_
              refine m_appR (Mo.mo s16 kb15) (show rI H16 (.int (gi (mach m).img (gi mp s0))) _ from rfl) ln2 fun o ko => ?_
              refine ⟨⟨_, _, rfl⟩, same_put s136 hbh, ?_⟩
              show rL rI _ _ ((List.zipWith _ L p.1).take (i2 + 1))
              rw [et, if_neg hm]
              exact ko
          · rintro σ H15 ⟨⟨o16, o17, rfl⟩, s15, kb15⟩
            have ef : (ledF (mach m) L p.1 e).take L.length = ledF (mach m) L p.1 e := by
              rw [List.take_of_length_le]
              have := (ledF_ok OM okst hek).1
              omega
            rw [ef] at kb15
            walk_at "S"
            refine c_tupRL kb15 fun tb H16 s16 htb k16 => ?_
            have s136 := s15.trans s16
            have s516 := s13.trans s136
            have kd16 := Mo.mo s136 kd13
            have klt16 := Mo.mo s136 klt13
            have kl16 := Mo.mo s136 kl13
            have k16e := Mo.mo s136 k13
            have rsp16 := Mo.mo s136 rsp13
            have rso16 := Mo.mo (r := rW d lt (rL rE)) s136 rso13
            walk_at "S"
            have ykeys : ∀ s, decide (s ∈ (yes acc.1).map Prod.fst) = decide (s ∈ acc.1.map Prod.fst) := fun s => by rw [yes_keys]
            refine o_notinDT kd16 k16 ?_
            rw [ykeys]
            walk_at "S"
            unfold visit
            by_cases hin : ledF (mach m) L p.1 e ∈ acc.1.map Prod.fst
            · rw [decide_eq_true hin, if_pos hin]
              walk_at "S"
              exact ⟨⟨_, _, _, _, _, rfl⟩, s516, kl16, kd16, klt16, k16e, rsp16, rso16⟩
            · rw [decide_eq_false hin, if_neg hin]
              walk_at "S"
              refine dp_DT (r := rB) (b := true) kd16 k16 rfl (by rw [yes_keys]; exact hin) (by simp; omega) fun o17 ⟨l17, e17⟩ kd17 => ?_
              obtain ⟨xl17, el17⟩ := rL_at klt16
              have t17 : SameT H16 (upd H16 d o17) := SameT.upd (SameT.refl _) e17 nofun
              have nld : ln ≠ d := by obtain ⟨ys, ey⟩ := rL_at kl16; exact ne_of ey e17 nofun
              have nltd : lt ≠ d := ne_of el17 e17 nofun
              have wd : wo2 d lt (upd H16 d o17) = wo2 d lt H16 := wo2_d
              have kl17 : rL (rW d lt rPr) (upd H16 d o17) (.ref ln) line := by
                obtain ⟨a, ys, e0, e1, kk, b⟩ := kl16
                cases e0
                exact ⟨ln, ys, rfl, by rw [upd_ne nld]; exact e1, kk.mono fun _ _ z => by unfold rW at z ⊢; rw [wd]; exact z, b⟩
              have klt17 : rL (rW d lt rPr) (upd H16 d o17) (.ref lt) acc.2 := by
                obtain ⟨a, ys, e0, e1, kk, b⟩ := klt16
                cases e0
                exact ⟨lt, ys, rfl, by rw [upd_ne nltd]; exact e1, kk.mono fun _ _ z => by unfold rW at z ⊢; rw [wd]; exact z, b⟩
              have rso17 : rW d lt (rL rE) (upd H16 d o17) xe0 p.2 := by unfold rW at rso16 ⊢; rw [wd]; exact rso16
              have n12 : l12 ≠ d := by obtain ⟨ys, ey⟩ := rL_at k16e; exact ne_of ey e17 nofun
              have k17e : rL rE (upd H16 d o17) (.ref l12) (ents (folk rows) (m.2.map Prod.fst)) := rL_put k16e e17 nofun n12
              have rsp17 : rT rI (upd H16 d o17) (.ref dd) p.1 := Tt.tm t17 rsp16
              have ktb17 : rT rI (upd H16 d o17) (.ref tb) (ledF (mach m) L p.1 e) := Tt.tm t17 k16
              have ry17 : rE (upd H16 d o17) y e := Tt.tm ((same_t s136).trans t17) ry
              have s517 : Same H5 (upd H16 d o17) := same_put s516 hd5
              obtain ⟨dl17, ed17⟩ := rDT_at kd17
              generalize upd H16 d o17 = H17 at kd17 kl17 klt17 rso17 k17e rsp17 ktb17 ry17 s517 ed17
              walk_at "S"
              obtain ⟨xl18, el18⟩ := rL_at klt17
              refine ⟨.inl ⟨rfl, xl18, .inl (.inl el18)⟩, by decide, fun l18 hl18 => ?_⟩
              have s18 : Same H17 (upd H17 l18 (.lst [y])) := same_new (same_refl _) hl18
              have k18 : rL rE (upd H17 l18 (.lst [y])) (.ref l18) [e] := mk_L hl18 (A2.one ry17) (by decide : 1 ≤ lim)
              generalize upd H17 l18 (.lst [y]) = H18 at s18 k18
              have plen : p.2.length + [e].length ≤ lim := by
                have h1 := LV.len p hpl
                have h2 := LV.much hz
                simp; omega
              refine o_catR (Mo.mo s18 (rW_out rso17)) k18 plen fun l19 H19 s19 hl19 k19 => ?_
              have s179 := s18.trans s19
              walk_at "S"
              refine ⟨by decide, fun t20 ht20 => ?_⟩
              have e20 : upd H19 t20 (.tup [.ref tb, .ref l19]) t20 = some (.tup [.ref tb, .ref l19]) := upd_same
              have s20 : Same H19 (upd H19 t20 (.tup [.ref tb, .ref l19])) := same_new (same_refl _) ht20
              have el20 := s20 _ _ (s179 _ _ el18)
              have ed20 := s20 _ _ (s179 _ _ ed17)
              have n20t : t20 ≠ lt := ne_of e20 el20 nofun
              have n20d : t20 ≠ d := ne_of e20 ed20 nofun
              have n19t : l19 ≠ lt := fun z => by rw [z] at hl19; rw [s18 _ _ el18] at hl19; cases hl19
              have n19d : l19 ≠ d := fun z => by rw [z] at hl19; rw [s18 _ _ ed17] at hl19; cases hl19
              have k20 : rW d lt rPr (upd H19 t20 (.tup [.ref tb, .ref l19])) (.ref t20) (ledF (mach m) L p.1 e, p.2 ++ [e]) :=
                ⟨t20, _, _, rfl, by rw [wo2_at n20d n20t]; exact e20, Tt.tm ((same_t (s179.trans s20)).trans (wo2_t ed20 nofun el20 nofun)) ktb17, wo2_L (Mo.mo s20 k19) ed20 nofun el20 nofun n19d n19t⟩
              have klt20 := Mo.mo (s179.trans s20) klt17
              have kl20 := Mo.mo (s179.trans s20) kl17
              have kd20 := Mo.mo (s179.trans s20) kd17
              have k20e := Mo.mo (s179.trans s20) k17e
              have rsp20 := Mo.mo (s179.trans s20) rsp17
              have rso20 := Mo.mo (r := rW d lt (rL rE)) (s179.trans s20) rso17
              have s520 := (s517.trans s179).trans s20
              generalize upd H19 t20 (.tup [.ref tb, .ref l19]) = H20 at klt20 kl20 kd20 k20e rsp20 rso20 s520 k20 el20
              obtain ⟨a, ys, e0, e1, kk, b⟩ := klt20
              cases e0
              refine m_append e1 (by rw [kk.len]; omega) ?_
              have wl : wo2 d lt (upd H20 lt (.lst (ys ++ [.ref t20]))) = wo2 d lt H20 := wo2_l
              have tl : SameT H20 (upd H20 lt (.lst (ys ++ [.ref t20]))) := SameT.upd (SameT.refl _) e1 nofun
              refine ⟨⟨_, _, _, _, _, rfl⟩, same_put s520 hlt5, ?_, ?_, ?_, rL_put k20e e1 nofun n12t, Tt.tm tl rsp20, ?_⟩
              · obtain ⟨a, zs, f0, f1, fk, fb⟩ := kl20
                cases f0
                exact ⟨ln, zs, rfl, by rw [upd_ne nll]; exact f1, fk.mono fun _ _ z => by unfold rW at z ⊢; rw [wl]; exact z, fb⟩
              · have := rDT_put kd20 e1 nofun (o := .lst (ys ++ [.ref t20])) (Ne.symm nltd)
                simpa [yes] using this
              · refine ⟨lt, _, rfl, upd_same, A2.app (kk.mono fun _ _ z => by unfold rW at z ⊢; rw [wl]; exact z) (.one (by unfold rW at k20 ⊢; rw [wl]; exact k20)), ?_⟩
                simp; omega
              · unfold rW at rso20 ⊢; rw [wl]; exact rso20
        · rintro σ H13 ⟨⟨o13, o14, o15, o16, o17, rfl⟩, s13, kl13, kd13, klt13, k13, rsp13, rso13⟩
          rw [List.take_length] at kd13 klt13
          walk_at "S"
          refine ⟨⟨_, _, _, _, _, _, _, rfl⟩, s13, kl13, kd13, klt13, fun a ha => ?_⟩
          rcases List.mem_append.mp ha with ha | ha
          · exact un11 a ha
          · simp at ha; subst ha; exact hdue
    · rintro σ H11 ⟨⟨o11, o12, o13, o14, o15, o16, o17, rfl⟩, s11, kl11, kd11, klt11, un11⟩
      rw [List.take_length] at kd11 klt11 un11
      walk_at "S"
      refine ⟨2 * (4097 - (bF (mach m) L (folk rows) (k + 1)).1.length) + (if (bF (mach m) L (folk rows) (k + 1)).2 = [] then 0 else 1), ?_, k + 1, lt, _, _, _, _, _, _, _, _, rfl, rfl, s11, by rw [nx]; exact kd11, by rw [nx]; exact rW_old klt11, hlt5, ?_⟩
      · have mdr : Mid (ledF (mach m) L) (ents (folk rows) (m.2.map Prod.fst)) (begF (mach m) L) (okSt m.1.length L.length) P k (round (ledF (mach m) L) (ents (folk rows) (m.2.map Prod.fst)) P line) :=
          line_mid (fun _ _ hs he => ledF_ok OM hs (EO _ he)) line (fun p hp => ⟨LV.sub p hp, LV.len p hp⟩) LV.mid
        have el := congrArg List.length mdr.pre
        rw [List.length_append] at el
        rw [nx, if_neg hz]
        split
        · omega
        · rename_i hne
          have := List.length_pos_iff.mpr hne
          omega
      · intro p hp e
        rw [nx] at hp ⊢
        have mdr : Mid (ledF (mach m) L) (ents (folk rows) (m.2.map Prod.fst)) (begF (mach m) L) (okSt m.1.length L.length) P k (round (ledF (mach m) L) (ents (folk rows) (m.2.map Prod.fst)) P line) :=
          line_mid (fun _ _ hs he => ledF_ok OM hs (EO _ he)) line (fun p hp => ⟨LV.sub p hp, LV.len p hp⟩) LV.mid
        rw [mdr.pre] at hp
        rcases List.mem_append.mp hp with hp | hp
        · exact absurd e (un11 p (unseen p hp e))
        · exact hp
end
end Nb

/-! part D18 -/
set_option Elab.async false
set_option linter.all false
set_option maxRecDepth 100000
set_option maxHeartbeats 4000000
namespace Nb
open PySem PySem.Spec PyProof.Rows L2
local macro_rules | `(tactic| walk_at "S") => `(tactic| (try simp only [tSeq, tNext, tRet, tIfS, tDrop, tAsg, gName, tFor_eq, tWhile_eq, tLc_eq, tLc2_eq, tDc_eq, sFld_eq, sDPut_eq, tPar, tPar3, tC, tVar, tCB, tOp, tTup, tLst, tChain, tDGet_eq, tDGet2, tAndV, tOrV, tNotV, tIf, tLstRg, tRg1, tDisp, tPairs, tUn, rU, tTest, tNot, tB, tAnd, tOr, tYes, tSl, tPart, tNoPart, tRevL, tM1, tDNewK, tDNewT, gCons_c, gNil_n, gSub, gTup_eq, iRng1_eq, iList_eq, iTup_eq, iSeq_eq, iStr, iKeys_eq, iVals_eq, iEnum_eq, cx_K, tCons, tNil, tBM, tCall, tMake, tProp_eq, tMeth_eq, tFld_eq, tStar_eq, iZipM_eq, tDisp1, L2.start, List.map_cons, List.map_nil, List.length_cons, List.length_nil, List.cons_append, List.nil_append, List.append_nil, List.getElem?_cons_zero, List.getElem?_cons_succ, List.set_cons_zero, List.set_cons_succ, Option.some.injEq, exists_eq_left', exists_eq_left, V.bl.injEq, V.int.injEq, V.str.injEq, V.ref.injEq, if_true, if_false, Nat.reduceAdd, Nat.reduceSub, List.replicate_succ, List.replicate_zero, Bool.not_true, Bool.not_false, Bool.false_eq_true, if_neg, not_false_eq_true, wipe]))
local macro_rules | `(tactic| walk_at "G") => `(tactic| (walk_at "S"; repeat ((first | with_reducible refine o_add ?_ | with_reducible refine o_sub ?_ | with_reducible refine o_mul ?_ | with_reducible refine o_lt ?_ | with_reducible refine o_le ?_ | with_reducible refine o_gt ?_ | with_reducible refine o_ge ?_ | with_reducible refine o_eqI ?_ | with_reducible refine o_neI ?_ | with_reducible refine o_eqS ?_ | with_reducible refine o_neS ?_ | with_reducible refine o_isN ?_ | with_reducible refine o_notN ?_ | with_reducible refine i_int ?_ | with_reducible refine i_intB ?_ | with_reducible refine i_str ?_); walk_at "S")))
section
variable {P : Program} {w : World} {K : PySem.W.Frag} {mg : Str → Option Value} {base : Heap}
theorem ended_all {M : Mach} (OM : OkM M) {rows : List Entry} {few : Int} (hB : M.seen.length ^ (lots (folk rows) few).length ≤ 4096) : ended M rows few 4096 := by
  refine Classical.byContradiction fun no => ?_
  have LV := lv_P OM (ls := lots (folk rows) few) (ppl := folk rows) 4096
  have z := LV.much no
  have y := Nat.le_trans (few_P LV.nd LV.good) hB
  omega
theorem short_any {M : Mach} (OM : OkM M) {rows : List Entry} {few : Int} {j k : Nat} (ok : okRows M.deeds rows) (hj : ended M rows few j) (hk : ended M rows few k) : short M rows few j = short M rows few k := by
  obtain ⟨p, hp, e⟩ := short_in OM ok hj
  rw [short_at OM hp e hj, short_at OM hp e hk]
theorem dp_D {α : Type} {H : Hp} {d : Addr} {m : List (Str × List α)} {r : RR α} [Tt r] {s : Str} {y : V} {b : List α} {q : Hp → Prop} (h : rD (rL r) H (.ref d) m) (hw : wok s = true) (hy : rL r H y b) (hn : s ∉ m.map Prod.fst) (hl : m.length < lim) (g : ∀ o, rD (rL r) (upd H d o) (.ref d) (m ++ [(s, b)]) → (∃ l, H d = some (.dK l)) → q (upd H d o)) : dpB (.ref d) (.str s) y H q := by
  obtain ⟨d', kvs, e, e1, k, nd, _⟩ := h
  cases e
  have b1 : lim ≤ sizeLine := by decide
  have kp : dkA (rL r H) (putK kvs (.inr s) y) (putW m s b) := putA hw hy k
  rw [putW_new hn] at kp
  refine ⟨d, _, rfl, .inl ⟨kvs, .inr s, e1, rfl, by rw [k.len]; omega, rfl⟩, ?_⟩
  refine g _ ⟨d, _, rfl, upd_same, dkA_mono (R := rL r H) (R' := rL r (upd H d _)) (fun x a z => ?_) kp, ?_, by rw [List.length_append]; exact hl⟩ ⟨_, e1⟩
  · obtain ⟨c, xs, e2, e3, k3, hl3⟩ := z
    have n : c ≠ d := ne_of e3 e1 nofun
    exact ⟨c, xs, e2, by rw [upd_ne n]; exact e3, k3.mono fun _ _ z => Tt.tm (SameT.upd (SameT.refl _) e1 nofun) z, hl3⟩
  · rw [List.map_append, List.nodup_append]
    exact ⟨nd, by simp, fun x hx y hy e => by simp at hy; subst hy; subst e; exact hn hx⟩
theorem mkM_mach {m : Mdl} (h : OkMdl m) : mkM m.1 ((srt (m.2.map Prod.fst)).reverse.map fun nm => (nm, (m.2.lookup nm).getD [])) = mach m := by
  have hk : ((srt (m.2.map Prod.fst)).reverse.map fun nm => (nm, (m.2.lookup nm).getD [])).map Prod.fst = (srt (m.2.map Prod.fst)).reverse := by
    rw [List.map_map]; exact List.map_id _
  have hs : srt (m.2.map Prod.fst) = m.2.map Prod.fst := (srt_of (List.Perm.refl _) h.st).symm
  have ho : ordD ((srt (m.2.map Prod.fst)).reverse.map fun nm => (nm, (m.2.lookup nm).getD [])) = m.2 := by
    unfold ordD
    rw [hk, hs, srt_congr (List.reverse_perm _), hs]
    have hnd : (((m.2.map Prod.fst).reverse.map fun nm => (nm, (m.2.lookup nm).getD [])).map Prod.fst).Nodup := by
      rw [List.map_map]
      rw [show (m.2.map Prod.fst).reverse.map (Prod.fst ∘ fun nm => (nm, (m.2.lookup nm).getD [])) = (m.2.map Prod.fst).reverse from List.map_id _]
      exact (List.reverse_perm _).nodup_iff.mpr h.nd
    have key : ∀ p ∈ m.2, (fun nm => (nm, (((m.2.map Prod.fst).reverse.map fun nm => (nm, (m.2.lookup nm).getD [])).lookup nm).getD [])) p.1 = p := by
      intro p hp
      have z := lookup_of_mem hnd (p := (p.1, (m.2.lookup p.1).getD [])) (List.mem_map.mpr ⟨p.1, List.mem_reverse.mpr (List.mem_map.mpr ⟨p, hp, rfl⟩), rfl⟩)
      simp only at z ⊢
      rw [z, lookup_of_mem h.nd hp]
      rfl
    rw [List.map_map]
    conv => rhs; rw [← List.map_id m.2]
    exact List.map_congr_left key
  unfold mkM mach
  rw [ho]
def sp__law_made (K : PySem.W.Frag) : Sp := fun vs H Q _ => match vs with
  | [x] => ∃ m, rMo H x m ∧ PuR (rM K) (mach m) Q H
  | _ => False
theorem sc__law_made : FnScope ["_law_model_here", "_law_rows", "_law_name"] ["_law_model_here"] (defScope s__law_made) := ⟨rfl, rfl, rfl, by decide +kernel, rfl, by decide +kernel, by decide +kernel⟩
theorem sp__law_made_len : ∀ (vs : List V) (H : Hp) (Q : VK) (E : XK), (sp__law_made K) vs H Q E → vs.length = 1
  | [_], _, _, _, _ => rfl
  | [], _, _, _, h => h.elim
  | _ :: _ :: _, _, _, _, h => h.elim
theorem cal__law_made (T : Tx P w K mg) : Cl P w K mg base 7 "_law_made" (sp__law_made K) [] := by
  refine cl_of (st := s__law_made) (qual := "_law_made") (kws := []) (T.c.def_ 83 (d := d__law_made) rfl) sc__law_made sp__law_made_len (T.glo 73 rfl) (fun _ _ _ _ _ _ us hl => match us, hl with | [_], _ => rfl) (fun cdv A outer s H vs Q E hr h => ⟨_, (pss_cons (ps_set (i := 1) sc__law_made.nd rfl (Or.inl rfl) pe_dnewK)
  (pss_cons (ps_for PassesOwn.never rfl (pi_ls T (pe_revL (pe_callB (cl_any (f := .builtin "sorted") T hr) rfl (T.free 116 rfl) (by decide +kernel) (pa_cons (pe_dget (hu_of hr) (pv 0) pe_str (fun _ _ => rfl)) pa_nil)))) (pg_name (i := 2) sc__law_made.nd rfl (Or.inl rfl)) (pss_one (ps_dput (hu_of hr) (pv 1) (pv 2) (pe_callTy (cl_any (f := .type "list") T hr) rfl (T.free 110 rfl) (by decide +kernel) (pa_cons (pe_dget (hu_of hr) (pe_dget (hu_of hr) (pv 0) pe_str (fun _ _ => rfl)) (pv 2) (fun _ _ => rfl)) pa_nil)) rfl)))
  (pss_one (ps_ret (pe_ma (ma_Machine T) hr (by decide) rfl (pa_cons (pe_callTy (cl_any (f := .type "list") T hr) rfl (T.free 110 rfl) (by decide +kernel) (pa_cons (pe_dget (hu_of hr) (pv 0) pe_str (fun _ _ => rfl)) pa_nil)) (pa_cons (pv 1) pa_nil))))))), ?_⟩)
  obtain ⟨a0, rfl⟩ := len1 (sp__law_made_len _ _ _ _ h)
  obtain ⟨m, hM, q⟩ := h
  have d2 := hM.2.d2
  have h0 : 20 ≤ lim := by decide
  walk_at "S"
  intro d hd
  have s1 : Same H (upd H d (.dK [])) := same_new (same_refl _) hd
  have k1 : rD (rL rI) (upd H d (.dK [])) (.ref d) [] := ⟨d, [], rfl, upd_same, trivial, by simp, (by decide : 0 ≤ lim)⟩
  generalize upd H d (.dK []) = H1 at s1 k1
  walk_at "S"
  refine gMo_maps (Mo.mo s1 hM) fun y ky => ?_
  refine c_sortD (m := m.2) ky (by omega) fun p2 H2 s2 hp2 k2 => ?_
  walk_at "S"
  obtain ⟨a, xs, ea, e2, kx, hb⟩ := k2
  cases ea
  refine ⟨p2, xs, rfl, .inl (.inl e2), fun p3 hp3 => ?_⟩
  have s3 : Same H2 (upd H2 p3 (.lst xs.reverse)) := same_new (same_refl _) hp3
  have kr : A2 (rS H2) xs.reverse (srt (m.2.map Prod.fst)).reverse := by
    rw [rS_map kx]
    rw [← List.map_reverse]
    exact A2_strs fun s hs => by
      obtain ⟨v, hv, rv⟩ := kx.to (List.getElem?_of_mem (List.mem_reverse.mp hs)).choose_spec
      exact rv.2
  have k3 := mk_L hp3 kr (by rw [List.length_reverse]; exact hb)
  generalize upd H2 p3 (.lst xs.reverse) = H3 at s3 k3
  refine ls_L k3 fun c ec hc => ?_
  have hnl : (srt (m.2.map Prod.fst)).reverse.length ≤ 2 := by rw [List.length_reverse, srt_len, List.length_map]; exact d2
  have hnd : (srt (m.2.map Prod.fst)).reverse.Nodup := (List.reverse_perm _).nodup_iff.mpr ((srt_perm _).nodup_iff.mpr hM.2.nd)
  have s13 := s2.trans s3
  refine for_L (r := rS) (l := (srt (m.2.map Prod.fst)).reverse) (fun i σ H' => (∃ o2, σ = [some a0, some (.ref d), o2]) ∧ Same H H' ∧ rL rS H' (.ref c) (srt (m.2.map Prod.fst)).reverse ∧ rD (rL rI) H' (.ref d) (((srt (m.2.map Prod.fst)).reverse.take i).map fun nm => (nm, (m.2.lookup nm).getD []))) ⟨⟨_, rfl⟩, s1.trans s13, hc, Mo.mo s13 k1⟩ (fun i σ H' _ ⟨_, _, h, _⟩ => h) ?_ ?_
  · rintro i x nm σ H4 hi rx ⟨⟨o2, rfl⟩, s4, kc4, k4⟩
    obtain ⟨rfl, hw⟩ := rx
    have hnm := List.mem_of_getElem? hi
    obtain ⟨ld, hld⟩ := lookup_of_key (srt_mem.mp (List.mem_reverse.mp hnm))
    have et : (srt (m.2.map Prod.fst)).reverse.take (i + 1) = (srt (m.2.map Prod.fst)).reverse.take i ++ [nm] := by rw [List.take_succ, hi]; rfl
    walk_at "S"
    refine gMo_maps (Mo.mo s4 hM) fun y ky => ?_
    refine dg_R (r := rL rI) ky hld fun z kz => ?_
    refine c_listRL kz fun t H5 s5 ht k5 => ?_
    walk_at "S"
    have hno : nm ∉ (((srt (m.2.map Prod.fst)).reverse.take i).map fun nm => (nm, (m.2.lookup nm).getD [])).map Prod.fst := by
      rw [List.map_map]
      rw [show ((srt (m.2.map Prod.fst)).reverse.take i).map (Prod.fst ∘ fun nm => (nm, (m.2.lookup nm).getD [])) = (srt (m.2.map Prod.fst)).reverse.take i from List.map_id _]
      intro hmem
      have h2 : ((srt (m.2.map Prod.fst)).reverse.take (i + 1)).Nodup := List.Sublist.nodup (List.take_sublist _ _) hnd
      rw [et, List.nodup_append] at h2
      exact h2.2.2 nm hmem nm (by simp) rfl
    refine dp_D (Mo.mo s5 k4) hw k5 hno (by rw [List.length_map, List.length_take]; omega) fun o k6 ⟨l6, e6⟩ => ?_
    refine ⟨⟨_, rfl⟩, same_put (s4.trans s5) hd, rL_put (Mo.mo s5 kc4) e6 nofun ?_, ?_⟩
    · obtain ⟨ys, ey⟩ := rL_at (Mo.mo s5 kc4)
      exact ne_of ey e6 nofun
    · rw [et, List.map_append]
      have e7 : [nm].map (fun nm => (nm, (m.2.lookup nm).getD [])) = [(nm, ld)] := by rw [List.map_cons, hld]; rfl
      rw [e7]
      exact k6
  · rintro σ H4 ⟨⟨o2, rfl⟩, s4, kc4, k4⟩
    rw [List.take_length] at k4
    walk_at "S"
    refine gMo_shows (Mo.mo s4 hM) fun y ky => ?_
    refine c_listRL ky fun t H5 s5 ht k5 => ?_
    walk_at "S"
    intro x dx hx hdx hne
    have ps := pre_same (o := .own x) (o' := .ins (He.ga K "Machine") dx []) hx hdx
    have s45 := s5.trans ps
    refine ⟨x, dx, m.1, _, rfl, upd_same, Mo.mo ps k5, Mo.mo s45 k4, hM.2.lo, by have := hM.2.hi; omega, hM.2.sh, ?_, ?_, ?_, fun H6 b6 k6 => ⟨rfl, ?_⟩⟩
    · rw [List.length_map, List.length_reverse, srt_len, List.length_map]; exact hM.2.d1
    · rw [List.length_map]; omega
    · intro p hp
      obtain ⟨nm, hnm, rfl⟩ := List.mem_map.mp hp
      obtain ⟨ld, hld⟩ := lookup_of_key (srt_mem.mp (List.mem_reverse.mp hnm))
      simp only [hld, Option.getD_some]
      exact hM.2.ok _ (lookup_mem hld)
    · rw [mkM_mach hM.2] at k6
      exact q _ H6 ((s4.trans s5).trans (made_same hx hdx b6)) k6
/-- the deeds -/
inductive Dk where
  | add (o : Option Str) (s : Str)
  | strike (p : Str)
  | give (p : Str)
  | forget
def Dk.enc : Dk → Deed
  | .add o s => [some "add", o, some s]
  | .strike p => [some "strike", some p]
  | .give p => [some "give", some p]
  | .forget => [some "forget"]
def ansR (m : Mdl) (rows : List Entry) (few : Int) : Dk → Stt
  | .add o s => (rows ++ [(o, s)], few)
  | .strike p => (rest rows [p], few - 1)
  | .give p => (gave rows p, few)
  | .forget => (short (mach m) rows few 4096, few)
def ansF (m : Mdl) (h : Here) (k : Dk) : Here := ((ansR m h.1 h.2.1 k).1, (ansR m h.1 h.2.1 k).2, h.2.2 ++ [k.enc])
theorem pk_deeds {a b c v : V} : putK [((.inr "rows" : Key), a), (.inr "few", b), (.inr "deeds", c)] (.inr "deeds") v = [(.inr "rows", a), (.inr "few", b), (.inr "deeds", v)] := by
  have n2 := nk2
  have n3 := nk3
  unfold putK
  simp only [List.any_cons, List.any_nil, decide_eq_false n2, decide_eq_false n3, decide_true, Bool.false_or, Bool.or_false, if_true, List.map_cons, List.map_nil, if_neg n2, if_neg n3]
theorem nk4 : ¬ ((.inr "few" : Key) = .inr "rows") := by decide +kernel
theorem nk5 : ¬ ((.inr "deeds" : Key) = .inr "rows") := by decide +kernel
theorem nk6 : ¬ ((.inr "deeds" : Key) = .inr "few") := by decide +kernel
theorem pk_rows {a b c v : V} : putK [((.inr "rows" : Key), a), (.inr "few", b), (.inr "deeds", c)] (.inr "rows") v = [(.inr "rows", v), (.inr "few", b), (.inr "deeds", c)] := by
  have n2 := nk4
  have n3 := nk5
  unfold putK
  simp only [List.any_cons, List.any_nil, decide_true, Bool.true_or, if_true, List.map_cons, List.map_nil, if_neg n2, if_neg n3]
theorem pk_few {a b c v : V} : putK [((.inr "rows" : Key), a), (.inr "few", b), (.inr "deeds", c)] (.inr "few") v = [(.inr "rows", a), (.inr "few", v), (.inr "deeds", c)] := by
  have n2 := nk1
  have n3 := nk6
  unfold putK
  simp only [List.any_cons, List.any_nil, decide_eq_false n2, decide_true, Bool.false_or, Bool.true_or, if_true, List.map_cons, List.map_nil, if_neg n2, if_neg n3]
/-- the first word of a deed, its parts -/
theorem x_De {H : Hp} {v : V} {d : Deed} {n : Nat} {o : Option Str} {Q : VK} (h : rDe H v d) (e : d[n]? = some o) (q : (∀ s, o = some s → wok s = true) → Q (oV o) H) : rXx P w K mg v (.int (n : Int)) H Q :=
  x_RT (n := n) (b := o) h rfl e fun y ry => by obtain ⟨rfl, hw⟩ := ry; exact q hw
theorem set_dict {X : Cx} (hu : X.A.units + 1 < cLine) : PSet X (fun o i v H Q => ∃ a H4, o = .ref a ∧ DPut H a i v H4 ∧ Q H4) := by
  intro pins s σ H o i v ov iv u Q I ro ri rv h
  obtain ⟨a, H4, e, g, q⟩ := h
  subst e
  cases ro
  exact d_setItem hu I g ri rv fun s4 I4 => ⟨H4, I4, q⟩
theorem t_setD {H H4 : Hp} {d : Addr} {i v : V} {q : Hp → Prop} (g : DPut H d i v H4) (k : q H4) : rSt P w K mg (.ref d) i v H q := fun X L => ⟨_, set_dict (by have := L.un; omega), d, H4, rfl, g, k⟩
def sp__law_answer : Sp := fun vs H Q _ => match vs with
  | [x, y, z] => ∃ (m : Mdl) (h : Here) (dk : Dk), rMo H x m ∧ rH H y h ∧ rDe H z dk.enc ∧ okRows m.2 h.1 ∧ h.1.length < 63 ∧ h.2.1 ≤ 6 ∧ (folk h.1).length ≤ 6 ∧ m.1.length ^ (lots (folk h.1) h.2.1).length ≤ 4096 ∧ h.2.2.length < 63 ∧ PuR rH (ansF m h dk) Q H
  | _ => False
theorem sc__law_answer : FnScope ["_law_model_here", "_law_here", "_law_deed_here", "_law_later", "_law_rows"] ["_law_model_here", "_law_here", "_law_deed_here"] (defScope s__law_answer) := ⟨rfl, rfl, rfl, by decide +kernel, rfl, by decide +kernel, by decide +kernel⟩
theorem sp__law_answer_len : ∀ (vs : List V) (H : Hp) (Q : VK) (E : XK), sp__law_answer vs H Q E → vs.length = 3
  | [_, _, _], _, _, _, _ => rfl
  | [], _, _, _, h => h.elim
  | [_], _, _, _, h => h.elim
  | [_, _], _, _, _, h => h.elim
  | _ :: _ :: _ :: _ :: _, _, _, _, h => h.elim
theorem cal__law_answer (T : Tx P w K mg) : Cl P w K mg base 5 "_law_answer" sp__law_answer [] := by
  refine cl_of (st := s__law_answer) (qual := "_law_answer") (kws := []) (T.c.def_ 99 (d := d__law_answer) rfl) sc__law_answer sp__law_answer_len (T.glo 89 rfl) (fun _ _ _ _ _ _ us hl => match us, hl with | [_, _, _], _ => rfl) (fun cdv A outer s H vs Q E hr h => ⟨_, (pss_cons (ps_par (i := 3) (j := 4) rfl sc__law_answer.nd rfl rfl (by decide) rfl rfl (pa_cons (pe_callTy (cl_any (f := .type "dict") T hr) rfl (T.free 105 rfl) (by decide +kernel) (pa_cons (pv 1) pa_nil)) (pa_cons (pe_dget (hu_of hr) (pv 1) pe_str (fun _ _ => rfl)) pa_nil)) (by rfl))
  (pss_cons (ps_dput (hu_of hr) (pv 3) pe_str (pe_op (op_any T hr) (pe_dget (hu_of hr) (pv 1) pe_str (fun _ _ => rfl)) (pe_lst (pa_cons (pv 2) pa_nil))) rfl)
  (pss_cons (ps_if (pt_cmpR (op_any T hr) (pe_ix (ix_any T hr) (pv 2) pe_int (fun _ _ => rfl)) pe_str (nomark _)) (pss_one (ps_dput (hu_of hr) (pv 3) pe_str (pe_op (op_any T hr) (pv 4) (pe_lst (pa_cons (pe_tup (pa_cons (pe_ix (ix_any T hr) (pv 2) pe_int (fun _ _ => rfl)) (pa_cons (pe_ix (ix_any T hr) (pv 2) pe_int (fun _ _ => rfl)) pa_nil))) pa_nil))) rfl)) (pss_one (ps_if (pt_cmpR (op_any T hr) (pe_ix (ix_any T hr) (pv 2) pe_int (fun _ _ => rfl)) pe_str (nomark _)) (pss_one (ps_asg (pe_tup (pa_cons (pe_cl (cal__law_rest T) hr (by decide) rfl (pa_cons (pv 4) (pa_cons (pe_tup (pa_cons (pe_ix (ix_any T hr) (pv 2) pe_int (fun _ _ => rfl)) pa_nil)) pa_nil))) (pa_cons (pe_op (op_any T hr) (pe_dget (hu_of hr) (pv 1) pe_str (fun _ _ => rfl)) pe_int) pa_nil))) (pg_tk (n := 2) T rfl (pgs_cons (pg_sub (pv 3) pe_str (set_any T hr)) (pgs_cons (pg_sub (pv 3) pe_str (set_any T hr)) pgs_nil))))) (pss_one (ps_if (pt_cmpR (op_any T hr) (pe_ix (ix_any T hr) (pv 2) pe_int (fun _ _ => rfl)) pe_str (nomark _)) (pss_one (ps_dput (hu_of hr) (pv 3) pe_str (pe_cl (cal__law_given T) hr (by decide) rfl (pa_cons (pv 4) (pa_cons (pe_ix (ix_any T hr) (pv 2) pe_int (fun _ _ => rfl)) pa_nil))) rfl)) (pss_one (ps_dput (hu_of hr) (pv 3) pe_str (pe_cl (cal__law_short T) hr (by decide) rfl (pa_cons (pv 0) (pa_cons (pv 4) (pa_cons (pe_dget (hu_of hr) (pv 1) pe_str (fun _ _ => rfl)) pa_nil)))) rfl)))))))
  (pss_one (ps_ret (pv 3)))))), ?_⟩)
  obtain ⟨a0, a1, a2, rfl⟩ := len3 (sp__law_answer_len _ _ _ _ h)
  obtain ⟨m, ⟨rows, few, deeds⟩, dk, hM, hH, hd, ok, h64, f6, n6, hB, d64, q⟩ := h
  have OM := mach_ok hM.2
  have h0 : 64 ≤ lim := by decide
  simp only at ok h64 f6 n6 hB d64
  obtain ⟨hd0, r0, q0, rfl, e0, kr0, kq0⟩ := id hH
  simp only at e0 kr0 kq0
  walk_at "S"
  refine c_dict e0 fun ld hld => ?_
  have s1 : Same H (upd H ld (.dK [(.inr "rows", r0), (.inr "few", .int few), (.inr "deeds", q0)])) := same_new (same_refl _) hld
  have e1 : upd H ld (.dK [(.inr "rows", r0), (.inr "few", .int few), (.inr "deeds", q0)]) ld = some (.dK [(.inr "rows", r0), (.inr "few", .int few), (.inr "deeds", q0)]) := upd_same
  generalize upd H ld (.dK [(.inr "rows", r0), (.inr "few", .int few), (.inr "deeds", q0)]) = H1 at s1 e1
  refine gH_rows (Mo.mo s1 hH) fun yr kyr => ?_
  simp only at kyr
  refine ⟨_, _, rfl, ?_⟩
  walk_at "S"
  refine gH_deeds (Mo.mo s1 hH) fun yd kyd => ?_
  simp only at kyd
  refine ⟨by decide, fun t2 ht2 => ?_⟩
  have s2 : Same H1 (upd H1 t2 (.lst [a2])) := same_new (same_refl _) ht2
  have k2 : rL rDe (upd H1 t2 (.lst [a2])) (.ref t2) [dk.enc] := mk_L ht2 (A2.one (Mo.mo s1 hd)) (by decide : 1 ≤ lim)
  generalize upd H1 t2 (.lst [a2]) = H2 at s2 k2
  refine o_catR (Mo.mo s2 kyd) k2 (by simp; omega) fun p3 H3 s3 hp3 k3 => ?_
  have s13 := s2.trans s3
  refine ⟨ld, _, rfl, .inl ⟨_, .inr "deeds", s13 _ _ e1, rfl, by show 3 < sizeLine; decide, rfl⟩, ?_⟩
  rw [pk_deeds]
  have s03 := s1.trans s13
  have s4 : Same H (upd H3 ld (.dK [(.inr "rows", r0), (.inr "few", .int few), (.inr "deeds", .ref p3)])) := same_put s03 hld
  have e4 : upd H3 ld (.dK [(.inr "rows", r0), (.inr "few", .int few), (.inr "deeds", .ref p3)]) ld = some (.dK [(.inr "rows", r0), (.inr "few", .int few), (.inr "deeds", .ref p3)]) := upd_same
  have n3 : p3 ≠ ld := by
    intro z
    rw [z] at hp3
    rw [s2 _ _ e1] at hp3
    cases hp3
  have k4 : rL rDe (upd H3 ld (.dK [(.inr "rows", r0), (.inr "few", .int few), (.inr "deeds", .ref p3)])) (.ref p3) (deeds ++ [dk.enc]) := rL_put k3 (s13 _ _ e1) nofun n3
  have kyr4 : rL rE (upd H3 ld (.dK [(.inr "rows", r0), (.inr "few", .int few), (.inr "deeds", .ref p3)])) yr rows := by
    obtain ⟨a, xs, ea, eb, kx, hb⟩ := id (Mo.mo s13 kyr)
    subst ea
    exact rL_put (Mo.mo s13 kyr) (s13 _ _ e1) nofun (ne_of eb (s13 _ _ e1) nofun)
  generalize upd H3 ld (.dK [(.inr "rows", r0), (.inr "few", .int few), (.inr "deeds", .ref p3)]) = H4 at s4 e4 k4 kyr4
  have fin : ∀ (rr : V) (rows' : List Entry) (few' : Int) (H5 : Hp), Same H4 H5 → rL rE H5 rr rows' → ansR m rows few dk = (rows', few') → ∀ H6, H6 = upd H5 ld (.dK [(.inr "rows", rr), (.inr "few", .int few'), (.inr "deeds", .ref p3)]) → Q (.ref ld) H6 := fun rr rows' few' H5 s5 kr ea H6 e6 => by
    subst e6
    refine q _ _ (same_put (s4.trans s5) hld) ?_
    unfold ansF
    simp only [ea]
    have e5 := s5 _ _ e4
    refine ⟨ld, rr, .ref p3, rfl, upd_same, ?_, rL_put (Mo.mo s5 k4) e5 nofun n3⟩
    obtain ⟨a, xs, ec, eb, kx, hb⟩ := id kr
    subst ec
    exact rL_put kr e5 nofun (ne_of eb e5 nofun)
  have hd4 := Mo.mo s4 hd
  have hM4 := Mo.mo s4 hM
  have hH4 := Mo.mo s4 hH
  walk_at "S"
  refine x_De (n := 0) (o := dk.enc.head?.join) hd4 (by cases dk <;> rfl) fun _ => ?_
  cases dk with
  | add o s =>
    refine o_eqS ?_
    rw [decide_eq_true rfl]
    walk_at "S"
    refine x_De (n := 1) (o := o) hd4 rfl fun hwo => ?_
    refine x_De (n := 2) (o := some s) hd4 rfl fun hws => ?_
    walk_at "S"
    refine ⟨by decide, fun t5 ht5 => ?_⟩
    have s5 : Same H4 (upd H4 t5 (.tup [oV o, oV (some s)])) := same_new (same_refl _) ht5
    have k5 : rE (upd H4 t5 (.tup [oV o, oV (some s)])) (.ref t5) (o, s) := mk_P (r := rO) (r2 := rS) ht5 ⟨rfl, hwo⟩ ⟨rfl, hws s rfl⟩
    generalize upd H4 t5 (.tup [oV o, oV (some s)]) = H5 at s5 k5
    refine ⟨by decide, fun t6 ht6 => ?_⟩
    have s6 : Same H5 (upd H5 t6 (.lst [.ref t5])) := same_new (same_refl _) ht6
    have k6 : rL rE (upd H5 t6 (.lst [.ref t5])) (.ref t6) [(o, s)] := mk_L ht6 (A2.one k5) (by decide : 1 ≤ lim)
    generalize upd H5 t6 (.lst [.ref t5]) = H6 at s6 k6
    have s46 := s5.trans s6
    refine o_catR (Mo.mo s46 kyr4) k6 (by simp; omega) fun p7 H7 s7 hp7 k7 => ?_
    have s47 := s46.trans s7
    walk_at "S"
    refine ⟨ld, _, rfl, .inl ⟨_, .inr "rows", s47 _ _ e4, rfl, by show 3 < sizeLine; decide, rfl⟩, ?_⟩
    walk_at "S"
    rw [pk_rows]
    exact fin _ _ _ H7 s47 k7 rfl _ rfl
  | strike p =>
    refine o_eqS ?_
    rw [decide_eq_false (by decide +kernel)]
    walk_at "S"
    refine x_De (n := 0) (o := some "strike") hd4 rfl fun _ => ?_
    refine o_eqS ?_
    rw [decide_eq_true rfl]
    walk_at "S"
    refine x_De (n := 1) (o := some p) hd4 rfl fun hwp => ?_
    refine ⟨by decide, fun t5 ht5 => ?_⟩
    have s5 : Same H4 (upd H4 t5 (.tup [oV (some p)])) := same_new (same_refl _) ht5
    have k5 : rT rS (upd H4 t5 (.tup [oV (some p)])) (.ref t5) [p] := mk_T ht5 (A2.one (r := rS H4) ⟨rfl, hwp p rfl⟩) (by decide : 1 ≤ lim)
    generalize upd H4 t5 (.tup [oV (some p)]) = H5 at s5 k5
    refine ⟨rows, [p], Mo.mo s5 kyr4, k5, fun l6 H6 s6 hl6 k6 => ?_⟩
    have s46 := s5.trans s6
    walk_at "S"
    refine gH_few (Mo.mo s46 hH4) ?_
    walk_at "G"
    refine ⟨by decide, fun t7 ht7 => ?_⟩
    have s7 : Same H6 (upd H6 t7 (.tup [.ref l6, .int (few - 1)])) := same_new (same_refl _) ht7
    have e7 : upd H6 t7 (.tup [.ref l6, .int (few - 1)]) t7 = some (.tup [.ref l6, .int (few - 1)]) := upd_same
    generalize upd H6 t7 (.tup [.ref l6, .int (few - 1)]) = H7 at s7 e7
    have s47 := s46.trans s7
    refine tup_n e7 rfl ?_
    walk_at "S"
    refine t_setD (.inl ⟨_, .inr "rows", s47 _ _ e4, rfl, by show 3 < sizeLine; decide, rfl⟩) ?_
    rw [pk_rows]
    refine t_setD (.inl ⟨_, .inr "few", upd_same, rfl, by show 3 < sizeLine; decide, rfl⟩) ?_
    rw [pk_few]
    walk_at "S"
    refine fin _ _ _ H7 s47 (Mo.mo s7 k6) rfl _ ?_
    funext c
    unfold upd
    split <;> rfl
  | give p =>
    refine o_eqS ?_
    rw [decide_eq_false (by decide +kernel)]
    walk_at "S"
    refine x_De (n := 0) (o := some "give") hd4 rfl fun _ => ?_
    refine o_eqS ?_
    rw [decide_eq_false (by decide +kernel)]
    walk_at "S"
    refine x_De (n := 0) (o := some "give") hd4 rfl fun _ => ?_
    refine o_eqS ?_
    rw [decide_eq_true rfl]
    walk_at "S"
    refine x_De (n := 1) (o := some p) hd4 rfl fun hwp => ?_
    refine ⟨rows, p, kyr4, rfl, fun l6 H6 s6 hl6 k6 => ?_⟩
    refine ⟨ld, _, rfl, .inl ⟨_, .inr "rows", s6 _ _ e4, rfl, by show 3 < sizeLine; decide, rfl⟩, ?_⟩
    walk_at "S"
    rw [pk_rows]
    exact fin _ _ _ H6 s6 k6 rfl _ rfl
  | forget =>
    refine o_eqS ?_
    rw [decide_eq_false (by decide +kernel)]
    walk_at "S"
    refine x_De (n := 0) (o := some "forget") hd4 rfl fun _ => ?_
    refine o_eqS ?_
    rw [decide_eq_false (by decide +kernel)]
    walk_at "S"
    refine x_De (n := 0) (o := some "forget") hd4 rfl fun _ => ?_
    refine o_eqS ?_
    rw [decide_eq_false (by decide +kernel)]
    walk_at "S"
    refine gH_few hH4 ?_
    refine ⟨m, rows, few, hM4, kyr4, rfl, ok, by omega, f6, n6, hB, fun k hk l6 H6 s6 k6 => ?_⟩
    rw [short_any OM ok hk (ended_all OM hB)] at k6
    refine ⟨ld, _, rfl, .inl ⟨_, .inr "rows", s6 _ _ e4, rfl, by show 3 < sizeLine; decide, rfl⟩, ?_⟩
    walk_at "S"
    rw [pk_rows]
    exact fin _ _ _ H6 s6 k6 rfl _ rfl
end
end Nb

/-! part D19 -/
set_option Elab.async false
set_option linter.all false
set_option maxRecDepth 100000
set_option maxHeartbeats 4000000
namespace Nb
open PySem PySem.Spec PyProof.Rows L2
local macro_rules | `(tactic| walk_at "S") => `(tactic| (try simp only [tSeq, tNext, tRet, tIfS, tDrop, tAsg, gName, tFor_eq, tWhile_eq, tLc_eq, tLc2_eq, tDc_eq, sFld_eq, sDPut_eq, tPar, tPar3, tC, tVar, tCB, tOp, tTup, tLst, tChain, tDGet_eq, tDGet2, tAndV, tOrV, tNotV, tIf, tLstRg, tRg1, tDisp, tPairs, tUn, rU, tTest, tNot, tB, tAnd, tOr, tYes, tSl, tPart, tNoPart, tRevL, tM1, tDNewK, tDNewT, gCons_c, gNil_n, gSub, gTup_eq, iRng1_eq, iList_eq, iTup_eq, iSeq_eq, iStr, iKeys_eq, iVals_eq, iEnum_eq, cx_K, tCons, tNil, tBM, tCall, tMake, tProp_eq, tMeth_eq, tFld_eq, tStar_eq, iZipM_eq, tDisp1, L2.start, List.map_cons, List.map_nil, List.length_cons, List.length_nil, List.cons_append, List.nil_append, List.append_nil, List.getElem?_cons_zero, List.getElem?_cons_succ, List.set_cons_zero, List.set_cons_succ, Option.some.injEq, exists_eq_left', exists_eq_left, V.bl.injEq, V.int.injEq, V.str.injEq, V.ref.injEq, if_true, if_false, Nat.reduceAdd, Nat.reduceSub, List.replicate_succ, List.replicate_zero, Bool.not_true, Bool.not_false, Bool.false_eq_true, if_neg, not_false_eq_true, wipe]))
local macro_rules | `(tactic| walk_at "G") => `(tactic| (walk_at "S"; repeat ((first | with_reducible refine o_add ?_ | with_reducible refine o_sub ?_ | with_reducible refine o_mul ?_ | with_reducible refine o_lt ?_ | with_reducible refine o_le ?_ | with_reducible refine o_gt ?_ | with_reducible refine o_ge ?_ | with_reducible refine o_eqI ?_ | with_reducible refine o_neI ?_ | with_reducible refine o_eqS ?_ | with_reducible refine o_neS ?_ | with_reducible refine o_isN ?_ | with_reducible refine o_notN ?_ | with_reducible refine i_int ?_ | with_reducible refine i_intB ?_ | with_reducible refine i_str ?_); walk_at "S")))
section
variable {P : Program} {w : World} {K : PySem.W.Frag} {mg : Str → Option Value} {base : Heap}
/-! ### draws -/
def wo3 (d g c : Addr) (H : Hp) : Hp := fun a => if a = d ∨ a = g ∨ a = c then none else H a
section
variable {d g c : Addr} {H H' : Hp} {o : HO}
theorem wo3_same : Same (wo3 d g c H) H := fun a u e => by
  unfold wo3 at e
  split at e
  · cases e
  · exact e
theorem wo3_mono (h : Same H H') : Same (wo3 d g c H) (wo3 d g c H') := fun a u e => by
  unfold wo3 at e ⊢
  split at e
  · cases e
  · rename_i n
    rw [if_neg n]
    exact h _ _ e
theorem wo3_at {a : Addr} (h : a ≠ d ∧ a ≠ g ∧ a ≠ c) : wo3 d g c H a = H a := by
  unfold wo3
  rw [if_neg]
  rintro (e | e | e)
  · exact h.1 e
  · exact h.2.1 e
  · exact h.2.2 e
theorem wo3_d : wo3 d g c (upd H d o) = wo3 d g c H := by
  funext a
  unfold wo3
  split
  · rfl
  · rename_i n
    exact upd_ne fun e => n (.inl e)
theorem wo3_g : wo3 d g c (upd H g o) = wo3 d g c H := by
  funext a
  unfold wo3
  split
  · rfl
  · rename_i n
    exact upd_ne fun e => n (.inr (.inl e))
end
theorem dk1 : ¬ ((.inr "great" : Key) = .inr "rest") := by decide +kernel
theorem dk2 : ¬ ((.inr "great" : Key) = .inr "cells") := by decide +kernel
theorem dk3 : ¬ ((.inr "great" : Key) = .inr "turn") := by decide +kernel
theorem dk4 : ¬ ((.inr "rest" : Key) = .inr "cells") := by decide +kernel
theorem dk5 : ¬ ((.inr "rest" : Key) = .inr "turn") := by decide +kernel
theorem dk6 : ¬ ((.inr "cells" : Key) = .inr "turn") := by decide +kernel
theorem dk7 : ¬ ((.inr "cells" : Key) = .inr "rest") := by decide +kernel
theorem dk8 : ¬ ((.inr "turn" : Key) = .inr "rest") := by decide +kernel
abbrev drF (g c : Addr) (r t : Int) : List (Key × V) := [(.inr "great", .ref g), (.inr "rest", .int r), (.inr "cells", .ref c), (.inr "turn", .int t)]
theorem pk_rest {g c : Addr} {r t z : Int} : putK (drF g c r t) (.inr "rest") (.int z) = drF g c z t := by
  have n1 := dk1
  have n2 := dk7
  have n3 := dk8
  unfold putK drF
  simp only [List.any_cons, List.any_nil, decide_eq_false n1, decide_true, Bool.false_or, Bool.true_or, if_true, List.map_cons, List.map_nil, if_neg n1, if_neg n2, if_neg n3]
theorem pk_turn {g c : Addr} {r t z : Int} : putK (drF g c r t) (.inr "turn") (.int z) = drF g c r z := by
  have n1 := dk3
  have n2 := dk5
  have n3 := dk6
  unfold putK drF
  simp only [List.any_cons, List.any_nil, decide_eq_false n1, decide_eq_false n2, decide_eq_false n3, decide_true, Bool.false_or, Bool.or_false, if_true, List.map_cons, List.map_nil, if_neg n1, if_neg n2, if_neg n3]
/-- the state of the draws -/
def Dr (d g c : Addr) (H : Hp) : Prop := g ≠ c ∧ ∃ r t gs cs, H d = some (.dK (drF g c r t)) ∧ rL rI H (.ref g) gs ∧ rL rI H (.ref c) cs
section
variable {d g c : Addr} {H H' : Hp} {Q : VK} {v : V}
theorem Dr.mo (s : Same H H') (h : Dr d g c H) : Dr d g c H' := by
  obtain ⟨n, r, t, gs, cs, e, e1, e2⟩ := h
  exact ⟨n, r, t, gs, cs, s _ _ e, Mo.mo s e1, Mo.mo s e2⟩
theorem Dr.t (h : Dr d g c H) : SameT H (wo3 d g c H) := fun a xs e => by
  obtain ⟨n, r, t, gs, cs, e0, e1, e2⟩ := h
  obtain ⟨ys, e1⟩ := rL_at e1
  obtain ⟨zs, e2⟩ := rL_at e2
  rw [wo3_at ⟨ne_of e e0 nofun, ne_of e e1 nofun, ne_of e e2 nofun⟩]
  exact e
theorem Dr.new {a : Addr} (h : Dr d g c H) (ha : H a = none) : a ≠ d ∧ a ≠ g ∧ a ≠ c := by
  obtain ⟨n, r, t, gs, cs, e0, e1, e2⟩ := h
  obtain ⟨ys, e1⟩ := rL_at e1
  obtain ⟨zs, e2⟩ := rL_at e2
  exact ⟨(ne_of_none e0 ha).symm, (ne_of_none e1 ha).symm, (ne_of_none e2 ha).symm⟩
/-- a new list is no part of the draws -/
theorem Dr.L {α : Type} {r : RR α} [Tt r] {a : Addr} {l : List α} (h : Dr d g c H) (n : a ≠ d ∧ a ≠ g ∧ a ≠ c) (k : rL r H (.ref a) l) : rL r (wo3 d g c H) (.ref a) l := by
  obtain ⟨b, ys, e, e1, k, hl⟩ := k
  cases e
  exact ⟨a, ys, rfl, by rw [wo3_at n]; exact e1, k.mono fun _ _ z => Tt.tm h.t z, hl⟩
theorem Dr.not {a : Addr} {o : HO} (e : wo3 d g c H a = some o) : a ≠ d ∧ a ≠ g ∧ a ≠ c := by
  unfold wo3 at e
  split at e
  · cases e
  · rename_i n
    exact ⟨fun z => n (.inl z), fun z => n (.inr (.inl z)), fun z => n (.inr (.inr z))⟩
/-- an object outside the draws written or made -/
theorem Dr.put {a : Addr} {o : HO} (h : Dr d g c H) (n : a ≠ d ∧ a ≠ g ∧ a ≠ c) (hm : ∀ xs, H a ≠ some (.tup xs)) : Dr d g c (upd H a o) := by
  obtain ⟨n0, r, t, gs, cs, e, e1, e2⟩ := h
  have tt : SameT H (upd H a o) := fun b xs z => by
    by_cases q : b = a
    · subst q; exact absurd z (hm xs)
    · rw [upd_ne q]; exact z
  refine ⟨n0, r, t, gs, cs, by rw [upd_ne (Ne.symm n.1)]; exact e, ?_, ?_⟩
  · obtain ⟨b, ys, f0, f1, k, hl⟩ := e1
    cases f0
    exact ⟨g, ys, rfl, by rw [upd_ne (Ne.symm n.2.1)]; exact f1, k, hl⟩
  · obtain ⟨b, ys, f0, f1, k, hl⟩ := e2
    cases f0
    exact ⟨c, ys, rfl, by rw [upd_ne (Ne.symm n.2.2)]; exact f1, k, hl⟩
theorem wo3_upd {a : Addr} {o : HO} (n : a ≠ d ∧ a ≠ g ∧ a ≠ c) : wo3 d g c (upd H a o) = upd (wo3 d g c H) a o := by
  funext b
  by_cases q : b = a
  · subst q; rw [wo3_at n, upd_same, upd_same]
  · rw [upd_ne q]
    unfold wo3
    split
    · rfl
    · exact upd_ne q
theorem gD_rest (h : H d = some (.dK (drF g c r t))) (q : Q (.int r) H) : dgB (.ref d) (.str "rest") H Q := ⟨d, _, rfl, .inl ⟨_, .inr "rest", .inl h, rfl, by rw [vv_tl dk1, vv_hd]⟩, q⟩
theorem gD_great (h : H d = some (.dK (drF g c r t))) (q : Q (.ref g) H) : dgB (.ref d) (.str "great") H Q := ⟨d, _, rfl, .inl ⟨_, .inr "great", .inl h, rfl, vv_hd.symm⟩, q⟩
theorem gD_cells (h : H d = some (.dK (drF g c r t))) (q : Q (.ref c) H) : dgB (.ref d) (.str "cells") H Q := ⟨d, _, rfl, .inl ⟨_, .inr "cells", .inl h, rfl, by rw [vv_tl dk2, vv_tl dk4, vv_hd]⟩, q⟩
theorem gD_turn (h : H d = some (.dK (drF g c r t))) (q : Q (.int t) H) : dgB (.ref d) (.str "turn") H Q := ⟨d, _, rfl, .inl ⟨_, .inr "turn", .inl h, rfl, by rw [vv_tl dk3, vv_tl dk5, vv_tl dk6, vv_hd]⟩, q⟩
theorem pD_rest {q : Hp → Prop} {z : Int} (h : H d = some (.dK (drF g c r t))) (k : q (upd H d (.dK (drF g c z t)))) : dpB (.ref d) (.str "rest") (.int z) H q := ⟨d, _, rfl, .inl ⟨_, .inr "rest", h, rfl, by show 4 < sizeLine; decide, rfl⟩, by rw [pk_rest]; exact k⟩
theorem pD_turn {q : Hp → Prop} {z : Int} (h : H d = some (.dK (drF g c r t))) (k : q (upd H d (.dK (drF g c r z)))) : dpB (.ref d) (.str "turn") (.int z) H q := ⟨d, _, rfl, .inl ⟨_, .inr "turn", h, rfl, by show 4 < sizeLine; decide, rfl⟩, by rw [pk_turn]; exact k⟩
end
theorem rL_dK {α : Type} {r : RR α} [Tt r] {H : Hp} {a d : Addr} {l : List α} {kvs : List (Key × V)} {o : HO} (k : rL r H (.ref a) l) (e : H d = some (.dK kvs)) : rL r (upd H d o) (.ref a) l := by
  obtain ⟨b, ys, f0, f1, k, hl⟩ := k
  cases f0
  exact ⟨a, ys, rfl, by rw [upd_ne (ne_of f1 e nofun)]; exact f1, k.mono fun _ _ z => Tt.tm (SameT.upd (SameT.refl _) e nofun) z, hl⟩
def sp__law_blend : Sp := fun vs H Q _ => match vs with
  | [x] => ∃ d g c, x = .ref d ∧ Dr d g c H ∧ ∀ z H', Dr d g c H' → Same (wo3 d g c H) (wo3 d g c H') → Q (.int z) H'
  | _ => False
theorem sc__law_blend : FnScope ["_law_draw", "_law_turn", "_law_found", "_law_prime", "_law_blend_here", "_law_cell"] ["_law_draw"] (defScope s__law_blend) := ⟨rfl, rfl, rfl, by decide +kernel, rfl, by decide +kernel, by decide +kernel⟩
theorem sp__law_blend_len : ∀ (vs : List V) (H : Hp) (Q : VK) (E : XK), sp__law_blend vs H Q E → vs.length = 1
  | [_], _, _, _, _ => rfl
  | [], _, _, _, h => h.elim
  | _ :: _ :: _, _, _, _, h => h.elim
theorem cal__law_blend (T : Tx P w K mg) : Cl P w K mg base 1 "_law_blend" sp__law_blend [] := by
  refine cl_of (st := s__law_blend) (qual := "_law_blend") (kws := []) (T.c.def_ 75 (d := d__law_blend) rfl) sc__law_blend sp__law_blend_len (T.glo 65 rfl) (fun _ _ _ _ _ _ us hl => match us, hl with | [_], _ => rfl) (fun cdv A outer s H vs Q E hr h => ⟨_, (pss_cons (ps_set (i := 1) sc__law_blend.nd rfl (Or.inl rfl) (pe_op (op_any T hr) (pe_dget (hu_of hr) (pv 0) pe_str (fun _ _ => rfl)) pe_int))
  (pss_cons (ps_dput (hu_of hr) (pv 0) pe_str (pv 1) rfl)
  (pss_cons (ps_set (i := 2) sc__law_blend.nd rfl (Or.inl rfl) pe_int)
  (pss_cons (ps_for PassesOwn.never rfl (pi_ls T (pe_lst (pa_cons pe_int (pa_cons pe_int (pa_cons pe_int (pa_cons pe_int pa_nil)))))) (pg_name (i := 3) sc__law_blend.nd rfl (Or.inl rfl)) (pss_cons (ps_set (i := 4) sc__law_blend.nd rfl (Or.inl rfl) (pe_op (op_any T hr) (pe_callTy (cl_any (f := .type "int") T hr) rfl (T.free 107 rfl) (by decide +kernel) (pa_cons (pe_op (op_any T hr) (pe_op (op_any T hr) (pv 1) pe_int) (pe_op (op_any T hr) (pv 3) pe_int)) pa_nil)) (pv 3)))
  (pss_cons (ps_for PassesOwn.never rfl (pi_ls T (pe_dget (hu_of hr) (pv 0) pe_str (fun _ _ => rfl))) (pg_name (i := 5) sc__law_blend.nd rfl (Or.inl rfl)) (pss_one (ps_set (i := 4) sc__law_blend.nd rfl (Or.inl rfl) (pe_op (op_any T hr) (pe_callTy (cl_any (f := .type "int") T hr) rfl (T.free 107 rfl) (by decide +kernel) (pa_cons (pe_op (op_any T hr) (pe_op (op_any T hr) (pv 4) pe_int) (pv 5)) pa_nil)) (pv 3)))))
  (pss_one (ps_set (i := 2) sc__law_blend.nd rfl (Or.inl rfl) (pe_op (op_any T hr) (pe_op (op_any T hr) (pv 2) pe_int) (pe_op (op_any T hr) (pe_callTy (cl_any (f := .type "int") T hr) rfl (T.free 107 rfl) (by decide +kernel) (pa_cons (pe_op (op_any T hr) (pv 4) pe_int) pa_nil)) (pv 3))))))))
  (pss_one (ps_ret (pv 2))))))), ?_⟩)
  obtain ⟨a0, rfl⟩ := len1 (sp__law_blend_len _ _ _ _ h)
  obtain ⟨d, g, c, rfl, ⟨n0, r, t, gs, cs, e, e1, e2⟩, q⟩ := h
  walk_at "S"
  refine gD_turn e ?_
  walk_at "G"
  refine pD_turn e ?_
  have s1 : wo3 d g c (upd H d (.dK (drF g c r (t + 1)))) = wo3 d g c H := wo3_d
  have k1 := rL_dK (o := .dK (drF g c r (t + 1))) e1 e
  have k2 := rL_dK (o := .dK (drF g c r (t + 1))) e2 e
  have e3 : upd H d (.dK (drF g c r (t + 1))) d = some (.dK (drF g c r (t + 1))) := upd_same
  generalize upd H d (.dK (drF g c r (t + 1))) = H1 at s1 k1 k2 e3
  walk_at "S"
  refine ⟨by decide, fun lp hlp => ?_⟩
  have s2 : Same H1 (upd H1 lp (.lst [.int 2147483629, .int 2147483587, .int 2147483579, .int 2147483563])) := same_new (same_refl _) hlp
  have kp : rL rI (upd H1 lp (.lst [.int 2147483629, .int 2147483587, .int 2147483579, .int 2147483563])) (.ref lp) [2147483629, 2147483587, 2147483579, 2147483563] := mk_L hlp ⟨rfl, rfl, rfl, rfl, trivial⟩ (by decide)
  generalize upd H1 lp (.lst [.int 2147483629, .int 2147483587, .int 2147483579, .int 2147483563]) = H2 at s2 kp
  refine ls_L kp fun cc ec hc => ?_
  cases ec
  refine for_L (r := rI) (l := [2147483629, 2147483587, 2147483579, 2147483563]) (fun i σ H' => H2 = H' ∧ ∃ (z : Int) (o3 o4 o5 : Option V), σ = [some (.ref d), some (.int (t + 1)), some (.int z), o3, o4, o5]) ⟨rfl, _, _, _, _, rfl⟩ (fun i σ H' _ ⟨e, _⟩ => e ▸ kp) ?_ ?_
  · rintro i x p σ H' hi rx ⟨rfl, z, o3, o4, o5, rfl⟩
    cases rx
    have hp : 2147483563 ≤ p ∧ p ≤ 2147483629 := by
      have hm := List.mem_of_getElem? hi
      simp at hm
      omega
    walk_at "S"
    refine o_mul (.inr ⟨by omega, by omega⟩) ?_
    walk_at "S"
    refine o_fdiv ⟨by omega, by omega⟩ ?_
    walk_at "G"
    refine c_int ?_
    refine o_mod (by omega) ?_
    walk_at "S"
    refine gD_cells (s2 _ _ e3) ?_
    refine ls_L (Mo.mo s2 k2) fun cc ec hc => ?_
    cases ec
    refine for_L (r := rI) (l := cs) (fun j σ H' => H2 = H' ∧ ∃ (y : Int) (o5 : Option V), 0 ≤ y ∧ y < p ∧ σ = [some (.ref d), some (.int (t + 1)), some (.int z), some (.int p), some (.int y), o5]) ⟨by first | rfl | trivial, _, _, Int.emod_nonneg _ (by omega), Int.emod_lt_of_pos _ (by omega), rfl⟩ (fun i σ H' _ ⟨e, _⟩ => e ▸ hc) ?_ ?_
    · rintro j x a σ H' hj rx ⟨rfl, y, o5, y0, y1, rfl⟩
      cases rx
      walk_at "S"
      refine o_mul (.inr ⟨by omega, by omega⟩) ?_
      walk_at "G"
      refine c_int ?_
      refine o_mod (by omega) ?_
      exact ⟨by first | rfl | trivial, _, _, Int.emod_nonneg _ (by omega), Int.emod_lt_of_pos _ (by omega), rfl⟩
    · rintro σ H' ⟨rfl, y, o5, y0, y1, rfl⟩
      walk_at "S"
      refine o_mul (.inr ⟨by omega, by omega⟩) ?_
      walk_at "S"
      refine o_pow ⟨by omega, by omega, by omega⟩ ?_
      refine c_int ?_
      refine o_mod (by omega) ?_
      walk_at "G"
      exact ⟨by first | rfl | trivial, _, _, _, _, rfl⟩
  · rintro σ H' ⟨rfl, z, o3, o4, o5, rfl⟩
    walk_at "S"
    refine q z H2 ⟨n0, r, t + 1, gs, cs, s2 _ _ e3, Mo.mo s2 k1, Mo.mo s2 k2⟩ ?_
    rw [← s1]
    exact wo3_mono s2
def sp__law_take : Sp := fun vs H Q _ => match vs with
  | [x, y] => ∃ (d g c : Addr) (n : Int), x = .ref d ∧ y = .int n ∧ 0 < n ∧ n < 1000 ∧ Dr d g c H ∧ ∀ z H', 0 ≤ z → z < n → Dr d g c H' → Same (wo3 d g c H) (wo3 d g c H') → Q (.int z) H'
  | _ => False
theorem seq_cut {t u : TS} {D : Ends} {σ : L2.St} {H : Hp} (Pc : Hp → Prop) (h1 : ∀ H1, Pc H1 → u D σ H1) (h2 : ∀ N : L2.St → Hp → Prop, (∀ H1, Pc H1 → N σ H1) → t { D with nx := N } σ H) : tSeq t u D σ H := h2 (u D) h1
theorem sc__law_take : FnScope ["_law_draw", "_law_size", "_law_found"] ["_law_draw", "_law_size"] (defScope s__law_take) := ⟨rfl, rfl, rfl, by decide +kernel, rfl, by decide +kernel, by decide +kernel⟩
theorem sp__law_take_len : ∀ (vs : List V) (H : Hp) (Q : VK) (E : XK), sp__law_take vs H Q E → vs.length = 2
  | [_, _], _, _, _, _ => rfl
  | [], _, _, _, h => h.elim
  | [_], _, _, _, h => h.elim
  | _ :: _ :: _ :: _, _, _, _, h => h.elim
theorem cal__law_take (T : Tx P w K mg) : Cl P w K mg base 2 "_law_take" sp__law_take [] := by
  refine cl_of (st := s__law_take) (qual := "_law_take") (kws := []) (T.c.def_ 78 (d := d__law_take) rfl) sc__law_take sp__law_take_len (T.glo 68 rfl) (fun _ _ _ _ _ _ us hl => match us, hl with | [_, _], _ => rfl) (fun cdv A outer s H vs Q E hr h => ⟨_, (pss_cons (ps_if (PW.pt (pw_and (pt_cmpR (op_any T hr) (pe_dget (hu_of hr) (pv 0) pe_str (fun _ _ => rfl)) pe_int (nomark _)) (pw_and1 (pt_cmpR (op_any T hr) (pe_dget (hu_of hr) (pv 0) pe_str (fun _ _ => rfl)) (pe_lst pa_nil) (nomark _))))) (pss_one (ps_dput (hu_of hr) (pv 0) pe_str (pe_bk T PySem.F.plainAttrs_list PySem.F.slot_list_pop PySem.F.type_list_pop (mt_any T hr) (pe_dget (hu_of hr) (pv 0) pe_str (fun _ _ => rfl)) (pa_cons pe_int pa_nil)) rfl)) pss_nil)
  (pss_cons (ps_if (pt_cmpR (op_any T hr) (pe_dget (hu_of hr) (pv 0) pe_str (fun _ _ => rfl)) pe_int (nomark _)) (pss_one (ps_dput (hu_of hr) (pv 0) pe_str (pe_cl (cal__law_blend T) hr (by decide) rfl (pa_cons (pv 0) pa_nil)) rfl)) pss_nil)
  (pss_cons (ps_set (i := 2) sc__law_take.nd rfl (Or.inl rfl) (pe_op (op_any T hr) (pe_callTy (cl_any (f := .type "int") T hr) rfl (T.free 107 rfl) (by decide +kernel) (pa_cons (pe_dget (hu_of hr) (pv 0) pe_str (fun _ _ => rfl)) pa_nil)) (pv 1)))
  (pss_cons (ps_dput (hu_of hr) (pv 0) pe_str (pe_op (op_any T hr) (pe_dget (hu_of hr) (pv 0) pe_str (fun _ _ => rfl)) (pv 1)) rfl)
  (pss_one (ps_ret (pv 2))))))), ?_⟩)
  obtain ⟨a0, a1, rfl⟩ := len2 (sp__law_take_len _ _ _ _ h)
  obtain ⟨d, g, c, n, rfl, rfl, n0, n9, D0, q⟩ := h
  obtain ⟨ngc, r, t, gs, cs, e, e1, e2⟩ := id D0
  refine seq_cut (fun H1 => Dr d g c H1 ∧ Same (wo3 d g c H) (wo3 d g c H1)) (fun H1 ⟨D1, s1⟩ => ?_) fun N hN => ?_
  · refine seq_cut (fun H1 => Dr d g c H1 ∧ Same (wo3 d g c H) (wo3 d g c H1)) (fun H2 ⟨D2, s2⟩ => ?_) fun N hN => ?_
    · obtain ⟨_, r2, t2, gs2, cs2, f, f1, f2⟩ := D2
      walk_at "S"
      refine gD_rest f ?_
      refine c_int ?_
      refine o_mod n0 ?_
      refine gD_rest f ?_
      refine o_fdiv ⟨n0, by omega⟩ ?_
      refine pD_rest f ?_
      walk_at "S"
      refine q _ _ (Int.emod_nonneg _ (by omega)) (Int.emod_lt_of_pos _ n0) ⟨ngc, r2 / n, t2, gs2, cs2, upd_same, rL_dK f1 f, rL_dK f2 f⟩ ?_
      rw [wo3_d]
      exact s2
    · obtain ⟨_, r1, t1, gs1, cs1, f, f1, f2⟩ := id D1
      walk_at "S"
      refine gD_rest f ?_
      walk_at "G"
      by_cases hz : r1 = 0
      · rw [decide_eq_true hz]
        walk_at "S"
        refine ⟨d, g, c, rfl, D1, fun z H2 D2 s2 => ?_⟩
        obtain ⟨_, r2, t2, gs2, cs2, f, f1, f2⟩ := id D2
        refine pD_rest f ?_
        refine hN _ ⟨⟨ngc, z, t2, gs2, cs2, upd_same, rL_dK f1 f, rL_dK f2 f⟩, ?_⟩
        rw [wo3_d]
        exact s1.trans s2
      · rw [decide_eq_false hz]
        walk_at "S"
        exact hN _ ⟨D1, s1⟩
  walk_at "S"
  refine gD_rest e ?_
  walk_at "G"
  by_cases hz : r = 0
  · rw [decide_eq_true hz]
    walk_at "S"
    refine gD_great e ?_
    walk_at "S"
    refine ⟨by decide, fun p hp => ?_⟩
    have s1 : Same H (upd H p (.lst [])) := same_new (same_refl _) hp
    have k1 : rL rI (upd H p (.lst [])) (.ref p) [] := mk_L hp trivial (by decide)
    generalize upd H p (.lst []) = H1 at s1 k1
    have D1 := D0.mo s1
    have w1 : Same (wo3 d g c H) (wo3 d g c H1) := wo3_mono s1
    refine o_neR (r := rL rI) (Mo.mo s1 e1) k1 ?_
    walk_at "S"
    by_cases hg : gs = []
    · rw [decide_eq_true hg]
      walk_at "S"
      exact hN _ ⟨D1, w1⟩
    · rw [decide_eq_false hg]
      walk_at "S"
      refine gD_great (s1 _ _ e) ?_
      walk_at "S"
      refine ⟨ty_L (Mo.mo s1 e1), ?_⟩
      obtain ⟨a, xs, ea, f1, kx, hl⟩ := id (Mo.mo s1 e1)
      cases ea
      obtain ⟨z, gs', rfl⟩ := List.exists_cons_of_ne_nil hg
      match xs, kx, f1 with
      | x :: xs, kx, f1 =>
        obtain ⟨hx, kx⟩ := kx
        cases hx
        have e1' := Mo.mo s1 e2
        refine m_popAt (k := 0) f1 (by omega) (by omega) rfl rfl ?_
        obtain ⟨zs, fc⟩ := rL_at e1'
        have f2 : upd H1 g (.lst ((V.int z :: xs).eraseIdx 0)) d = some (.dK (drF g c r t)) := by rw [upd_ne (ne_of (s1 _ _ e) f1 nofun)]; exact s1 _ _ e
        have k2 : rL rI (upd H1 g (.lst ((V.int z :: xs).eraseIdx 0))) (.ref g) gs' := ⟨g, xs, rfl, upd_same, kx, by simp at hl; omega⟩
        have k3 : rL rI (upd H1 g (.lst ((V.int z :: xs).eraseIdx 0))) (.ref c) cs := rL_put e1' f1 nofun (Ne.symm ngc)
        have w2 : wo3 d g c (upd H1 g (.lst ((V.int z :: xs).eraseIdx 0))) = wo3 d g c H1 := wo3_g
        generalize upd H1 g (.lst ((V.int z :: xs).eraseIdx 0)) = H2 at f2 k2 k3 w2
        refine pD_rest f2 ?_
        refine hN _ ⟨⟨ngc, z, t, gs', cs, upd_same, rL_dK k2 f2, rL_dK k3 f2⟩, ?_⟩
        rw [wo3_d, w2]
        exact w1
  · rw [decide_eq_false hz]
    walk_at "S"
    exact hN _ ⟨D0, same_refl _⟩
end
end Nb

/-! part D20 -/
set_option Elab.async false
set_option linter.all false
set_option maxRecDepth 100000
set_option maxHeartbeats 4000000
namespace Nb
open PySem PySem.Spec PyProof.Rows L2
local macro_rules | `(tactic| walk_at "S") => `(tactic| (try simp only [tSeq, tNext, tRet, tIfS, tDrop, tAsg, gName, tFor_eq, tWhile_eq, tLc_eq, tLc2_eq, tDc_eq, sFld_eq, sDPut_eq, tPar, tPar3, tC, tVar, tCB, tOp, tTup, tLst, tChain, tDGet_eq, tDGet2, tAndV, tOrV, tNotV, tIf, tLstRg, tRg1, tDisp, tPairs, tUn, rU, tTest, tNot, tB, tAnd, tOr, tYes, tSl, tPart, tNoPart, tRevL, tM1, tDNewK, tDNewT, gCons_c, gNil_n, gSub, gTup_eq, iRng1_eq, iList_eq, iTup_eq, iSeq_eq, iStr, iKeys_eq, iVals_eq, iEnum_eq, cx_K, tCons, tNil, tBM, tCall, tMake, tProp_eq, tMeth_eq, tFld_eq, tStar_eq, iZipM_eq, tDisp1, L2.start, List.map_cons, List.map_nil, List.length_cons, List.length_nil, List.cons_append, List.nil_append, List.append_nil, List.getElem?_cons_zero, List.getElem?_cons_succ, List.set_cons_zero, List.set_cons_succ, Option.some.injEq, exists_eq_left', exists_eq_left, V.bl.injEq, V.int.injEq, V.str.injEq, V.ref.injEq, if_true, if_false, Nat.reduceAdd, Nat.reduceSub, List.replicate_succ, List.replicate_zero, Bool.not_true, Bool.not_false, Bool.false_eq_true, if_neg, not_false_eq_true, wipe]))
local macro_rules | `(tactic| walk_at "G") => `(tactic| (walk_at "S"; repeat ((first | with_reducible refine o_add ?_ | with_reducible refine o_sub ?_ | with_reducible refine o_mul ?_ | with_reducible refine o_lt ?_ | with_reducible refine o_le ?_ | with_reducible refine o_gt ?_ | with_reducible refine o_ge ?_ | with_reducible refine o_eqI ?_ | with_reducible refine o_neI ?_ | with_reducible refine o_eqS ?_ | with_reducible refine o_neS ?_ | with_reducible refine o_isN ?_ | with_reducible refine o_notN ?_ | with_reducible refine i_int ?_ | with_reducible refine i_intB ?_ | with_reducible refine i_str ?_); walk_at "S")))
section
variable {P : Program} {w : World} {K : PySem.W.Frag} {mg : Str → Option Value} {base : Heap}
theorem A2.erase {γ α : Type} {r : γ → α → Prop} : ∀ {xs : List γ} {l : List α} (i : Nat), A2 r xs l → A2 r (xs.eraseIdx i) (l.eraseIdx i)
  | [], [], _, h => h
  | _ :: _, _ :: _, 0, h => h.2
  | _ :: _, _ :: _, i + 1, h => ⟨h.1, A2.erase i h.2⟩
  | [], _ :: _, _, h => h.elim
  | _ :: _, [], _, h => h.elim
section
variable {P : Program} {w : World} {K : PySem.W.Frag} {mg : Str → Option Value} {d g c : Addr} {H : Hp} {Q : VK} {α : Type} {r : RR α}
/-- an item put at the end of a list outside the draws -/
theorem m_app3 [Tt r] {l : Addr} {y : V} {b : α} {xs : List α} (D : Dr d g c H) (h : rL r (wo3 d g c H) (.ref l) xs) (k : r (wo3 d g c H) y b) (n : xs.length < lim) (q : ∀ o, rL r (wo3 d g c (upd H l o)) (.ref l) (xs ++ [b]) → Dr d g c (upd H l o) → wo3 d g c (upd H l o) = upd (wo3 d g c H) l o → Q .non (upd H l o)) : rMt P w K mg "list.append" (.ref l) [y] H Q := by
  obtain ⟨a, us, e, e1, k1, _⟩ := h
  cases e
  have b1 : lim ≤ sizeLine := by decide
  have nl := Dr.not e1
  have eH := wo3_same _ _ e1
  have w1 : wo3 d g c (upd H l (.lst (us ++ [y]))) = upd (wo3 d g c H) l (.lst (us ++ [y])) := wo3_upd nl
  refine m_append eH (by rw [k1.len]; omega) (q _ ?_ (D.put nl fun ys e => by rw [eH] at e; cases e) w1)
  rw [w1]
  refine ⟨_, _, rfl, upd_same, ?_, by rw [List.length_append]; exact n⟩
  have t : SameT (wo3 d g c H) (upd (wo3 d g c H) l (.lst (us ++ [y]))) := SameT.upd (SameT.refl _) e1 nofun
  exact (k1.app (.one k)).mono fun _ _ z => Tt.tm t z
end
def sp__law_begin : Sp := fun vs H Q _ => match vs with
  | [x] => ∃ cs : List Int, rL rI H x cs ∧ ∀ d g c H', Same H H' → Dr d g c H' → H d = none → H g = none → H c = none → Q (.ref d) H'
  | _ => False
theorem sc__law_begin : FnScope ["_law_script", "_law_great", "_law_cell"] ["_law_script"] (defScope s__law_begin) := ⟨rfl, rfl, rfl, by decide +kernel, rfl, by decide +kernel, by decide +kernel⟩
theorem sp__law_begin_len : ∀ (vs : List V) (H : Hp) (Q : VK) (E : XK), sp__law_begin vs H Q E → vs.length = 1
  | [_], _, _, _, _ => rfl
  | [], _, _, _, h => h.elim
  | _ :: _ :: _, _, _, _, h => h.elim
theorem cal__law_begin (T : Tx P w K mg) : Cl P w K mg base 1 "_law_begin" sp__law_begin [] := by
  refine cl_of (st := s__law_begin) (qual := "_law_begin") (kws := []) (T.c.def_ 74 (d := d__law_begin) rfl) sc__law_begin sp__law_begin_len (T.glo 64 rfl) (fun _ _ _ _ _ _ us hl => match us, hl with | [_], _ => rfl) (fun cdv A outer s H vs Q E hr h => ⟨_, (pss_cons (ps_setLc (i := 1) (own := [("_law_cell", 2)]) rfl sc__law_begin.nd rfl rfl (sw_true rfl rfl rfl (by decide +kernel)) (pi_ls T (pv 0)) (blkOk_by (own := [("_law_cell", 2)]) (N := ["_law_script", "_law_great", "_law_cell"]) (sc := defScope s__law_begin) (by decide +kernel)) (fun _ _ _ _ _ => (pg_name (i := 2) sc__law_begin.nd rfl (Or.inl rfl))) (fun _ _ _ _ _ => pts_one (pt_cmpR (op_any T hr) (pe_callB (cl_any (f := .builtin "abs") T hr) rfl (T.free 101 rfl) (by decide +kernel) (pa_cons (pv 2) pa_nil)) (pe_op (op_any T hr) pe_int pe_int) (nomark _))) (fun _ _ _ _ _ => (pe_op (op_any T hr) (pe_callB (cl_any (f := .builtin "abs") T hr) rfl (T.free 101 rfl) (by decide +kernel) (pa_cons (pv 2) pa_nil)) (pe_op (op_any T hr) pe_int pe_int))))
  (pss_one (ps_ret (pe_disp (pps_cons pe_str (pv 1) (pps_cons pe_str pe_int (pps_cons pe_str (pe_lc (own := [("_law_cell", 2)]) rfl sc__law_begin.nd (pi_ls T (pv 0)) (blkOk_by (own := [("_law_cell", 2)]) (N := ["_law_script", "_law_great", "_law_cell"]) (sc := defScope s__law_begin) (by decide +kernel)) (fun _ _ _ _ _ => (pg_name (i := 2) sc__law_begin.nd rfl (Or.inl rfl))) (fun _ _ _ _ _ => pts_nil) (fun _ _ _ _ _ => (pe_callB (cl_any (f := .builtin "abs") T hr) rfl (T.free 101 rfl) (by decide +kernel) (pa_cons (pv 2) pa_nil)))) (pps_cons pe_str pe_int pps_nil)))) (by rfl) (by rfl) (fun z => by cases z) (by decide))))), ?_⟩)
  obtain ⟨a0, rfl⟩ := len1 (sp__law_begin_len _ _ _ _ h)
  obtain ⟨cs, hcs, q⟩ := h
  walk_at "S"
  refine ls_L hcs fun cc ec hc => ?_
  refine lc_L (r := rI) (r' := rI) (fun z => if decide ((10 : Int) ^ 18 ≤ (if z < 0 then -z else z)) = true then some ((if z < 0 then -z else z) - (10 : Int) ^ 18) else none) hc (fun x z H1 hb s1 rx Yk N k1 k2 => ?_) fun g H1 s1 hg kg => ?_
  · cases rx
    walk_at "S"
    refine ⟨trivial, c_abs ?_⟩
    refine o_pow ⟨by omega, by omega, by decide⟩ ?_
    walk_at "G"
    by_cases hz : (10 : Int) ^ 18 ≤ (if z < 0 then -z else z)
    · rw [decide_eq_true (by simpa using hz)]
      walk_at "S"
      refine c_abs ?_
      refine o_pow ⟨by omega, by omega, by decide⟩ ?_
      walk_at "G"
      refine k1 _ (by rw [if_pos (decide_eq_true hz)]) _ _ (same_refl _) ?_
      show V.int _ = V.int _
      congr 1
    · rw [decide_eq_false (by simpa using hz)]
      walk_at "S"
      exact k2 (by rw [decide_eq_false hz]; rfl) _ (same_refl _)
  · walk_at "S"
    intro d hd
    have s2 : Same H1 (upd H1 d (.dK [])) := same_new (same_refl _) hd
    have e2 : upd H1 d (.dK []) d = some (.dK []) := upd_same
    generalize upd H1 d (.dK []) = H2 at s2 e2
    walk_at "S"
    have s12 := s1.trans s2
    refine ls_L (Mo.mo s12 hcs) fun cc ec hc2 => ?_
    refine lc_L (r := rI) (r' := rI) (fun z => some (if z < 0 then -z else z)) hc2 (fun x z H3 hb s3 rx Yk N k1 k2 => ?_) fun c H3 s3 hc3 kc => ?_
    · cases rx
      walk_at "S"
      exact ⟨trivial, c_abs (k1 _ rfl _ _ (same_refl _) rfl)⟩
    · walk_at "S"
      refine ⟨s3 _ _ e2, [(.inr "great", .ref g), (.inr "rest", .int 0), (.inr "cells", .ref c), (.inr "turn", .int 0)], rfl, by show 4 ≤ 15; decide, ?_⟩
      have kg2 := Mo.mo (s2.trans s3) kg
      have em : mergeK [] [((.inr "great" : Key), V.ref g), (.inr "rest", .int 0), (.inr "cells", .ref c), (.inr "turn", .int 0)] = drF g c 0 0 := by rfl
      rw [em]
      have hdH : H d = none := s1.free hd
      have ngc : g ≠ c := by
        obtain ⟨ys, ey⟩ := rL_at (Mo.mo s2 kg)
        exact ne_of_none ey hc3
      obtain ⟨ys, ey⟩ := rL_at kg2
      obtain ⟨zs, ez⟩ := rL_at kc
      have j1 := rL_put (o := .dK (drF g c 0 0)) kg2 (s3 _ _ e2) nofun (ne_of ey (s3 _ _ e2) nofun)
      have j2 := rL_put (o := .dK (drF g c 0 0)) kc (s3 _ _ e2) nofun (ne_of ez (s3 _ _ e2) nofun)
      exact q d g c _ (same_put (s12.trans s3) hdH) ⟨ngc, 0, 0, _, _, upd_same, j1, j2⟩ hdH hg (s12.free hc3)
def sp__law_pick : Sp := fun vs H Q _ => match vs with
  | [x, y] => ∃ d g c, x = .ref d ∧ Dr d g c H ∧ ((∃ (α : Type) (r : RR α) (_ : Mo r) (l : List α), rL r (wo3 d g c H) y l ∧ l ≠ [] ∧ l.length < 1000 ∧ ∀ v b H', b ∈ l → r (wo3 d g c H') v b → Dr d g c H' → Same (wo3 d g c H) (wo3 d g c H') → Q v H') ∨
      (∃ z : Str, y = .str z ∧ 0 < z.length ∧ z.length < 1000 ∧ ∀ k H', k ∈ z.cps.toList → Dr d g c H' → Same (wo3 d g c H) (wo3 d g c H') → Q (.str ⟨#[k]⟩) H'))
  | _ => False
theorem sc__law_pick : FnScope ["_law_draw", "_law_some"] ["_law_draw", "_law_some"] (defScope s__law_pick) := ⟨rfl, rfl, rfl, by decide +kernel, rfl, by decide +kernel, by decide +kernel⟩
theorem sp__law_pick_len : ∀ (vs : List V) (H : Hp) (Q : VK) (E : XK), sp__law_pick vs H Q E → vs.length = 2
  | [_, _], _, _, _, _ => rfl
  | [], _, _, _, h => h.elim
  | [_], _, _, _, h => h.elim
  | _ :: _ :: _ :: _, _, _, _, h => h.elim
theorem cal__law_pick (T : Tx P w K mg) : Cl P w K mg base 3 "_law_pick" sp__law_pick [] := by
  refine cl_of (st := s__law_pick) (qual := "_law_pick") (kws := []) (T.c.def_ 76 (d := d__law_pick) rfl) sc__law_pick sp__law_pick_len (T.glo 66 rfl) (fun _ _ _ _ _ _ us hl => match us, hl with | [_, _], _ => rfl) (fun cdv A outer s H vs Q E hr h => ⟨_, (pss_one (ps_ret (pe_ix (ix_any T hr) (pv 1) (pe_cl (cal__law_take T) hr (by decide) rfl (pa_cons (pv 0) (pa_cons (pe_callB (cl_any (f := .builtin "len") T hr) rfl (T.free 109 rfl) (by decide +kernel) (pa_cons (pv 1) pa_nil)) pa_nil))) (fun _ _ => rfl)))), ?_⟩)
  obtain ⟨a0, a1, rfl⟩ := len2 (sp__law_pick_len _ _ _ _ h)
  obtain ⟨d, g, c, rfl, D0, q | q⟩ := h
  · obtain ⟨α, r, mo, l, hl, ne, n9, q⟩ := q
    have hp : 0 < l.length := List.length_pos_iff.mpr ne
    walk_at "S"
    have hlH : rL r H a1 l := Mo.mo wo3_same hl
    refine c_lenRL hlH ?_
    refine ⟨d, g, c, _, rfl, rfl, by omega, by omega, D0, fun z H' z0 z1 D1 s1 => ?_⟩
    have hl1 := Mo.mo s1 hl
    have hz : z.toNat < l.length := by omega
    obtain ⟨a, xs, ea, e1, kx, hb⟩ := hl1
    subst ea
    have hx := kx.len
    have ex : xs[z.toNat]? = some (xs[z.toNat]'(by omega)) := List.getElem?_eq_getElem _
    obtain ⟨b, eb, rb⟩ := kx.at ex
    refine x_L (.inl (.inl (wo3_same _ _ e1))) (by rw [atI_of (n := z.toNat) (by omega) (by omega)]; exact ex) ?_
    exact q _ b H' (List.mem_of_getElem? eb) rb D1 s1
  · obtain ⟨z, rfl, z0, z9, q⟩ := q
    walk_at "S"
    refine c_lenS (by have : 1000 ≤ sizeLine := by decide
                      omega) ?_
    refine ⟨d, g, c, _, rfl, rfl, by omega, by omega, D0, fun i H' i0 i1 D1 s1 => ?_⟩
    have el : z.length = z.cps.toList.length := by simp [Str.length]
    have ex : z.cps.toList[i.toNat]? = some (z.cps.toList[i.toNat]'(by omega)) := List.getElem?_eq_getElem _
    have hsz : 1000 ≤ sizeLine := by decide
    refine fun X L => ⟨_, ix_str, z, i, _, rfl, rfl, by omega, ?_, q _ H' (List.mem_of_getElem? ex) D1 s1⟩
    unfold atI ixN
    rw [if_pos i0, if_pos (by omega)]
    exact ex
def sp__law_mixed : Sp := fun vs H Q _ => match vs with
  | [x, y] => ∃ d g c l, x = .ref d ∧ Dr d g c H ∧ rL rI (wo3 d g c H) y l ∧ l.length < 64 ∧ ∀ p H' (l' : List Int), (∀ z ∈ l', z ∈ l) → l'.length = l.length → rL rI (wo3 d g c H') (.ref p) l' → wo3 d g c H p = none → Dr d g c H' → Same (wo3 d g c H) (wo3 d g c H') → Q (.ref p) H'
  | _ => False
theorem sc__law_mixed : FnScope ["_law_draw", "_law_some", "_law_left", "_law_found"] ["_law_draw", "_law_some"] (defScope s__law_mixed) := ⟨rfl, rfl, rfl, by decide +kernel, rfl, by decide +kernel, by decide +kernel⟩
theorem sp__law_mixed_len : ∀ (vs : List V) (H : Hp) (Q : VK) (E : XK), sp__law_mixed vs H Q E → vs.length = 2
  | [_, _], _, _, _, _ => rfl
  | [], _, _, _, h => h.elim
  | [_], _, _, _, h => h.elim
  | _ :: _ :: _ :: _, _, _, _, h => h.elim
theorem cal__law_mixed (T : Tx P w K mg) : Cl P w K mg base 3 "_law_mixed" sp__law_mixed [] := by
  refine cl_of (st := s__law_mixed) (qual := "_law_mixed") (kws := []) (T.c.def_ 77 (d := d__law_mixed) rfl) sc__law_mixed sp__law_mixed_len (T.glo 67 rfl) (fun _ _ _ _ _ _ us hl => match us, hl with | [_, _], _ => rfl) (fun cdv A outer s H vs Q E hr h => ⟨_, (pss_cons (ps_par (i := 2) (j := 3) rfl sc__law_mixed.nd rfl rfl (by decide) rfl rfl (pa_cons (pe_callTy (cl_any (f := .type "list") T hr) rfl (T.free 110 rfl) (by decide +kernel) (pa_cons (pv 1) pa_nil)) (pa_cons (pe_lst pa_nil) pa_nil)) (by rfl))
  (pss_cons (ps_while PassesOwn.never (pt_cmpR (op_any T hr) (pv 2) (pe_lst pa_nil) (nomark _)) (pss_one (ps_expr (pe_bk T PySem.F.plainAttrs_list PySem.F.slot_list_append PySem.F.type_list_append (mt_any T hr) (pv 3) (pa_cons (pe_bk T PySem.F.plainAttrs_list PySem.F.slot_list_pop PySem.F.type_list_pop (mt_any T hr) (pv 2) (pa_cons (pe_cl (cal__law_take T) hr (by decide) rfl (pa_cons (pv 0) (pa_cons (pe_callB (cl_any (f := .builtin "len") T hr) rfl (T.free 109 rfl) (by decide +kernel) (pa_cons (pv 2) pa_nil)) pa_nil))) pa_nil)) pa_nil)))))
  (pss_one (ps_ret (pv 3))))), ?_⟩)
  obtain ⟨a0, a1, rfl⟩ := len2 (sp__law_mixed_len _ _ _ _ h)
  obtain ⟨d, g, c, l, rfl, D0, hl, n9, q⟩ := h
  have h0 : 1000 ≤ lim := by decide
  walk_at "S"
  refine c_listRL (Mo.mo wo3_same hl) fun lf H1 s1 hlf k1 => ?_
  walk_at "S"
  refine ⟨by decide, fun fd hfd => ?_⟩
  have s2 : Same H1 (upd H1 fd (.lst [])) := same_new (same_refl _) hfd
  have k2 : rL rI (upd H1 fd (.lst [])) (.ref fd) [] := mk_L hfd trivial (by decide)
  have k1' := Mo.mo s2 k1
  have nlf : lf ≠ fd := by obtain ⟨ys, ey⟩ := rL_at k1; exact ne_of_none ey hfd
  generalize upd H1 fd (.lst []) = H2 at s2 k2 k1'
  have D2 := D0.mo (s1.trans s2)
  have nl := D0.new hlf
  have nf := (D0.mo s1).new hfd
  refine ⟨_, _, rfl, ?_⟩
  walk_at "S"
  have base : Same (wo3 d g c H) (wo3 d g c H2) := wo3_mono (s1.trans s2)
  refine ⟨fun mm σ H' => ∃ left found : List Int, mm = left.length ∧ σ = [some (.ref d), some a1, some (.ref lf), some (.ref fd)] ∧ Dr d g c H' ∧ rL rI (wo3 d g c H') (.ref lf) left ∧ rL rI (wo3 d g c H') (.ref fd) found ∧ (∀ z ∈ left, z ∈ l) ∧ (∀ z ∈ found, z ∈ l) ∧ left.length + found.length = l.length ∧ Same (wo3 d g c H) (wo3 d g c H'), ⟨_, l, [], rfl, rfl, D2, D2.L nl k1', D2.L nf k2, fun _ z => z, by simp, by simp, base⟩, ?_⟩
  rintro mm σ H' ⟨left, found, rfl, rfl, D3, kl, kf, il, if_, ln, s3⟩
  walk_at "S"
  refine ⟨by decide, fun t ht => ?_⟩
  have s4 : Same H' (upd H' t (.lst [])) := same_new (same_refl _) ht
  have k4 : rL rI (upd H' t (.lst [])) (.ref t) [] := mk_L ht trivial (by decide)
  generalize upd H' t (.lst []) = H4 at s4 k4
  have D4 := D3.mo s4
  have w4 : Same (wo3 d g c H') (wo3 d g c H4) := wo3_mono s4
  refine o_neR (r := rL rI) (Mo.mo s4 (Mo.mo wo3_same kl)) k4 ?_
  walk_at "S"
  by_cases hz : left = []
  · subst hz
    rw [decide_eq_true rfl]
    walk_at "S"
    refine q fd H4 found if_ (by simpa using ln) (Mo.mo w4 kf) ?_ D4 (s3.trans w4)
    unfold wo3
    split
    · rfl
    · exact s1.free hfd
  · have hp : 0 < left.length := List.length_pos_iff.mpr hz
    rw [decide_eq_false hz]
    walk_at "S"
    refine ⟨_, fun σ' H'' z => z, ?_⟩
    have kl4 := Mo.mo w4 kl
    have kf4 := Mo.mo w4 kf
    walk_at "S"
    refine ⟨ty_L (Mo.mo wo3_same kf4), ty_L (Mo.mo wo3_same kl4), ?_⟩
    refine c_lenRL (Mo.mo wo3_same kl4) ?_
    refine ⟨d, g, c, _, rfl, rfl, by omega, by omega, D4, fun i H5 i0 i1 D5 s5 => ?_⟩
    have kl5 := Mo.mo s5 kl4
    have kf5 := Mo.mo s5 kf4
    obtain ⟨a, xs, ea, e5, kx, hb⟩ := id kl5
    cases ea
    have hx := kx.len
    have eH := wo3_same _ _ e5
    have ex : xs[i.toNat]? = some (xs[i.toNat]'(by omega)) := List.getElem?_eq_getElem _
    obtain ⟨b, eb, rb⟩ := kx.at ex
    refine m_popAt (k := i.toNat) eH (by omega) (by omega) (by omega) ex ?_
    have D6 : Dr d g c (upd H5 lf (.lst (xs.eraseIdx i.toNat))) := D5.put nl fun ys e => by rw [eH] at e; cases e
    have w6 : wo3 d g c (upd H5 lf (.lst (xs.eraseIdx i.toNat))) = upd (wo3 d g c H5) lf (.lst (xs.eraseIdx i.toNat)) := wo3_upd nl
    have kl6 : rL rI (wo3 d g c (upd H5 lf (.lst (xs.eraseIdx i.toNat)))) (.ref lf) (left.eraseIdx i.toNat) := by
      rw [w6]
      refine ⟨lf, _, rfl, upd_same, ?_, by have := List.length_eraseIdx_le left i.toNat; omega⟩
      exact kx.erase _
    have kf6 : rL rI (wo3 d g c (upd H5 lf (.lst (xs.eraseIdx i.toNat)))) (.ref fd) found := by
      rw [w6]
      exact rL_put kf5 e5 nofun (Ne.symm nlf)
    have s6 : Same (wo3 d g c H) (wo3 d g c (upd H5 lf (.lst (xs.eraseIdx i.toNat)))) := by
      rw [w6]
      refine same_put ((s3.trans w4).trans s5) ?_
      unfold wo3
      split
      · rfl
      · exact hlf
    have hbm := List.mem_of_getElem? eb
    generalize upd H5 lf (.lst (xs.eraseIdx i.toNat)) = H6 at D6 kl6 kf6 s6
    have bl : found.length < lim := by omega
    refine m_app3 D6 kf6 rb bl fun o ko Do wo => ?_
    have hle : left.eraseIdx i.toNat = left.eraseIdx i.toNat := rfl
    have hl1 := List.length_eraseIdx_of_lt (l := left) (i := i.toNat) (by omega)
    refine ⟨(left.eraseIdx i.toNat).length, by omega, left.eraseIdx i.toNat, found ++ [b], rfl, trivial, Do, ?_, ko, ?_, ?_, ?_, ?_⟩
    · rw [wo]
      exact rL_put kl6 (rL_at kf6).choose_spec nofun nlf
    · exact fun z hz => il z (List.mem_of_mem_eraseIdx hz)
    · intro z hz
      rcases List.mem_append.mp hz with hz | hz
      · exact if_ z hz
      · rw [List.mem_singleton.mp hz]
        exact il b hbm
    · rw [List.length_append, hl1]
      simp only [List.length_singleton]
      omega
    · rw [wo]
      exact same_put s6 (by
        unfold wo3
        split
        · rfl
        · exact s1.free hfd)
end
end Nb

/-! part D21 -/
set_option Elab.async false
set_option linter.all false
set_option maxRecDepth 100000
set_option maxHeartbeats 4000000
namespace Nb
open PySem PySem.Spec PyProof.Rows L2
local macro_rules | `(tactic| walk_at "S") => `(tactic| (try simp only [tSeq, tNext, tRet, tIfS, tDrop, tAsg, gName, tFor_eq, tWhile_eq, tLc_eq, tLc2_eq, tDc_eq, sFld_eq, sDPut_eq, tPar, tPar3, tC, tVar, tCB, tOp, tTup, tLst, tChain, tDGet_eq, tDGet2, tAndV, tOrV, tNotV, tIf, tLstRg, tRg1, tDisp, tPairs, tUn, rU, tTest, tNot, tB, tAnd, tOr, tYes, tSl, tPart, tNoPart, tRevL, tM1, tDNewK, tDNewT, gCons_c, gNil_n, gSub, gTup_eq, iRng1_eq, iList_eq, iTup_eq, iSeq_eq, iStr, iKeys_eq, iVals_eq, iEnum_eq, cx_K, tCons, tNil, tBM, tCall, tMake, tProp_eq, tMeth_eq, tFld_eq, tStar_eq, iZipM_eq, tDisp1, L2.start, List.map_cons, List.map_nil, List.length_cons, List.length_nil, List.cons_append, List.nil_append, List.append_nil, List.getElem?_cons_zero, List.getElem?_cons_succ, List.set_cons_zero, List.set_cons_succ, Option.some.injEq, exists_eq_left', exists_eq_left, V.bl.injEq, V.int.injEq, V.str.injEq, V.ref.injEq, if_true, if_false, Nat.reduceAdd, Nat.reduceSub, List.replicate_succ, List.replicate_zero, Bool.not_true, Bool.not_false, Bool.false_eq_true, if_neg, not_false_eq_true, wipe]))
local macro_rules | `(tactic| walk_at "G") => `(tactic| (walk_at "S"; repeat ((first | with_reducible refine o_add ?_ | with_reducible refine o_sub ?_ | with_reducible refine o_mul ?_ | with_reducible refine o_lt ?_ | with_reducible refine o_le ?_ | with_reducible refine o_gt ?_ | with_reducible refine o_ge ?_ | with_reducible refine o_eqI ?_ | with_reducible refine o_neI ?_ | with_reducible refine o_eqS ?_ | with_reducible refine o_neS ?_ | with_reducible refine o_isN ?_ | with_reducible refine o_notN ?_ | with_reducible refine i_int ?_ | with_reducible refine i_intB ?_ | with_reducible refine i_str ?_); walk_at "S")))
section
variable {P : Program} {w : World} {K : PySem.W.Frag} {mg : Str → Option Value} {base : Heap}
/-! ### comprehensions that draw -/
section
variable {P : Program} {w : World} {K : PySem.W.Frag} {mg : Str → Option Value} {d g c : Addr} {tt : TT} {te : TE} {g0 : TG} {H H1 : Hp} {Q : VK} {J : It} {n : Nat} {G : Hp → Prop} {Y : Nat → Hp → V → Hp → Prop} {vs : List Nat} {α β : Type} {r : RR α} {r' : RR β} {σ : L2.St}
theorem seq_cut2 {t u : TS} {D : Ends} {σ : L2.St} {H : Hp} (Pc : L2.St → Hp → Prop) (h1 : ∀ σ1 H1, Pc σ1 H1 → u D σ1 H1) (h2 : ∀ N : L2.St → Hp → Prop, (∀ σ1 H1, Pc σ1 H1 → N σ1 H1) → t { D with nx := N } σ H) : tSeq t u D σ H := h2 (u D) h1
/-- turn i draws an item -/
theorem lc_w3 [Tt r'] (wk : Walk J n G Y) (p : β → Prop) (D0 : Dr d g c H1) (hG : ∀ H', Same (wo3 d g c H1) (wo3 d g c H') → G H') (hn : n ≤ lim)
    (hs : ∀ i x H H', i < n → Dr d g c H → Same (wo3 d g c H1) (wo3 d g c H) → Y i H x H' → ∀ (Yk : VK) (N : Hp → Prop), (∀ b y H4, p b → Dr d g c H4 → Same (wo3 d g c H) (wo3 d g c H4) → r' (wo3 d g c H4) y b → Yk y H4) →
      g0 x (wipe σ vs) H' fun σ2 H2 => wipe σ2 vs = wipe σ vs ∧ tt σ2 H2 fun b H3 => if b = true then te σ2 H3 Yk else N H3)
    (q : ∀ D H' bs, Dr d g c H' → Same (wo3 d g c H1) (wo3 d g c H') → wo3 d g c H1 D = none → bs.length = n → (∀ b ∈ bs, p b) → rL r' (wo3 d g c H') (.ref D) bs → Q (.ref D) H') : lcB J g0 tt te vs σ H1 Q := by
  intro D hD
  have nD := D0.new hD
  have wD : wo3 d g c H1 D = none := by rw [wo3_at nD]; exact hD
  have D1 : Dr d g c (upd H1 D (.lst [])) := D0.mo (same_new (same_refl _) hD)
  refine L2.lc_it wk (fun i H => i ≤ n ∧ Dr d g c H ∧ Same (wo3 d g c H1) (wo3 d g c H) ∧ ∃ acc bs, wo3 d g c H D = some (.lst acc) ∧ bs.length = i ∧ (∀ b ∈ bs, p b) ∧ A2 (r' (wo3 d g c H)) acc bs) ⟨Nat.zero_le _, D1, wo3_mono (same_new (same_refl _) hD), [], [], by rw [wo3_at nD]; exact upd_same, rfl, by simp, trivial⟩ (fun i H hi ⟨_, _, p, _⟩ => hG H p) ?_ fun H ⟨_, DH, s, acc, bs, e, lb, hb, k⟩ => ?_
  · rintro i x H H' hi ⟨_, DH, s, acc, bs, e, lb, hb, k⟩ y
    refine hs i x H H' hi DH s y _ _ fun b y H4 pb D4 s4 ry => ?_
    have e4 := s4 _ _ e
    have t4 : SameT (wo3 d g c H4) (upd (wo3 d g c H4) D (.lst (acc ++ [y]))) := SameT.upd (SameT.refl _) e4 nofun
    have w4 : wo3 d g c (upd H4 D (.lst (acc ++ [y]))) = upd (wo3 d g c H4) D (.lst (acc ++ [y])) := wo3_upd nD
    have eH := wo3_same _ _ e4
    refine ⟨acc, eH, ?_, hi, D4.put nD (fun ys e => by rw [eH] at e; cases e), ?_, acc ++ [y], bs ++ [b], ?_, by rw [List.length_append, lb]; rfl, ?_, ?_⟩
    · have h1 := k.len
      have h3 : lim < sizeLine := by decide
      omega
    · rw [w4]; exact same_put (s.trans s4) wD
    · rw [w4]; exact upd_same
    · intro z hz
      rcases List.mem_append.mp hz with hz | hz
      · exact hb z hz
      · rw [List.mem_singleton.mp hz]; exact pb
    · rw [w4]
      exact (k.mono fun _ _ z => Tt.tm ((same_t s4).trans t4) z).app (.one (Tt.tm t4 ry))
  · exact q D H bs DH s wD lb hb ⟨D, acc, rfl, e, k, by omega⟩
theorem lc_R3 [Tt r'] (p : β → Prop) (D0 : Dr d g c H1) (hn : n ≤ lim)
    (hs : ∀ (i : Nat) H, i < n → Dr d g c H → Same (wo3 d g c H1) (wo3 d g c H) → ∀ (Yk : VK) (N : Hp → Prop), (∀ b y H4, p b → Dr d g c H4 → Same (wo3 d g c H) (wo3 d g c H4) → r' (wo3 d g c H4) y b → Yk y H4) →
      g0 (.int (0 + (i : Int))) (wipe σ vs) H fun σ2 H2 => wipe σ2 vs = wipe σ vs ∧ tt σ2 H2 fun b H3 => if b = true then te σ2 H3 Yk else N H3)
    (q : ∀ D H' bs, Dr d g c H' → Same (wo3 d g c H1) (wo3 d g c H') → wo3 d g c H1 D = none → bs.length = n → (∀ b ∈ bs, p b) → rL r' (wo3 d g c H') (.ref D) bs → Q (.ref D) H') : lcB (Itr 0 n) g0 tt te vs σ H1 Q := by
  refine lc_w3 (r' := r') (L2.walk_range (lo := 0) (n := n)) p D0 (fun _ _ => trivial) hn ?_ q
  rintro i x H H' hi D1 s ⟨rfl, rfl⟩ Yk N h1
  exact hs i _ hi D1 s Yk N h1
theorem lc_L3 [Mo r] [Tt r'] {a : Addr} {l : List α} (p : β → Prop) (D0 : Dr d g c H1) (h : rL r (wo3 d g c H1) (.ref a) l)
    (hs : ∀ x b H, b ∈ l → Dr d g c H → Same (wo3 d g c H1) (wo3 d g c H) → r (wo3 d g c H) x b → ∀ (Yk : VK) (N : Hp → Prop), (∀ b y H4, p b → Dr d g c H4 → Same (wo3 d g c H) (wo3 d g c H4) → r' (wo3 d g c H4) y b → Yk y H4) →
      g0 x (wipe σ vs) H fun σ2 H2 => wipe σ2 vs = wipe σ vs ∧ tt σ2 H2 fun b H3 => if b = true then te σ2 H3 Yk else N H3)
    (q : ∀ D H' bs, Dr d g c H' → Same (wo3 d g c H1) (wo3 d g c H') → wo3 d g c H1 D = none → bs.length = l.length → (∀ b ∈ bs, p b) → rL r' (wo3 d g c H') (.ref D) bs → Q (.ref D) H') : lcB (Itl K a) g0 tt te vs σ H1 Q := by
  obtain ⟨a0, xs, e, e1, k, hl⟩ := h
  cases e
  have hx := k.len
  refine lc_w3 (r' := r') (L2.walk_list (K := K) (a := a) (xs := xs)) p D0 (fun H' s => .inl (.inl (wo3_same _ _ (s _ _ e1)))) (by omega) ?_ fun D H' bs D1 s hD hb pb z => q D H' bs D1 s hD (by omega) pb z
  rintro i x H H' hi D1 s ⟨rfl, y⟩ Yk N h1
  obtain ⟨b, hb, rb⟩ := k.at y
  exact hs x b _ (List.mem_of_getElem? hb) D1 s (Mo.mo s rb) Yk N h1
end
/-! ### words drawn -/
def rC : RR Nat := fun _ v k => v = .str ⟨#[k]⟩ ∧ k ∈ letters.cps.toList
instance : Tt rC := ⟨fun _ h => h⟩
theorem wok_by {s : Str} (h1 : 1 ≤ s.length) (h2 : s.length ≤ 6) (h3 : ∀ c ∈ s.cps.toList, c ∈ letters.cps.toList) : wok s = true := by
  unfold wok
  rw [Bool.and_eq_true, Bool.and_eq_true]
  exact ⟨⟨decide_eq_true h1, decide_eq_true h2⟩, List.all_eq_true.mpr fun c hc => decide_eq_true (h3 c hc)⟩
theorem cps_app (x y : Str) : (x ++ y).cps.toList = x.cps.toList ++ y.cps.toList := by
  show (x.cps ++ y.cps).toList = _
  exact Array.toList_append
theorem len_cps (x : Str) : x.length = x.cps.toList.length := by simp [Str.length]
theorem ext_cps {x y : Str} (h : x.cps.toList = y.cps.toList) : x = y := Str.ext' (Array.toList_inj.mp h)
theorem join_cps : ∀ (ks : List Nat), (Str.join Str.empty (ks.map fun k => (⟨#[k]⟩ : Str))).cps.toList = ks
  | [] => rfl
  | [k] => rfl
  | k :: k2 :: ks => by
    have h := join_cps (k2 :: ks)
    show ((⟨#[k]⟩ : Str) ++ Str.empty ++ Str.join Str.empty ((k2 :: ks).map _)).cps.toList = _
    rw [cps_app, h, cps_app]
    rfl
theorem rng_take {l : List Nat} : ∀ {m : Nat}, m ≤ l.length → (List.range m).filterMap (fun i => l[i]?) = l.take m
  | 0, _ => rfl
  | m + 1, h => by
    have e : l[m]? = some l[m] := List.getElem?_eq_getElem (by omega)
    rw [List.range_succ, List.filterMap_append, rng_take (by omega), List.take_add_one, e]
    simp only [List.filterMap_cons, e, List.filterMap_nil, Option.toList_some]
def cut5 (w : Str) : Str := Txt.slice w none (some 5)
theorem cut5_cps (w : Str) : (cut5 w).cps.toList = w.cps.toList.take 5 := by
  have e : Builtin.Str.strSliceIndices none (some 5) 1 w.length = List.range (min 5 w.length) := by
    unfold Builtin.Str.strSliceIndices sliceRange
    have e1 : max (0 : Int) (min 5 (w.length : Int)) = ((min 5 w.length : Nat) : Int) := by omega
    simp only [show (1 : Int) > 0 by decide, if_true, show ¬ (5 : Int) < 0 by decide, if_false, e1, Int.zero_add, Int.one_mul, Int.toNat_natCast, List.map_id']
    by_cases h : (0 : Int) < ((min 5 w.length : Nat) : Int)
    · rw [if_pos h]
      congr 1
      omega
    · rw [if_neg h]
      have : min 5 w.length = 0 := by omega
      rw [this]
      rfl
  unfold cut5 Txt.slice
  rw [e, List.length_range]
  split
  · rename_i h
    rw [List.take_of_length_le]
    rw [← len_cps]
    have h2 := h
    simp only [beq_self_eq_true, Bool.true_and, beq_iff_eq] at h2
    omega
  · rename_i h
    have h2 := h
    simp only [beq_self_eq_true, Bool.true_and, beq_iff_eq] at h2
    rw [show min 5 w.length = 5 by omega, ← rng_take (by rw [← len_cps]; omega)]
    show (List.filterMap (fun x => w.cps[x]?) (List.range 5)) = _
    congr 1
    funext i
    simp
def near (w : Str) : List Str := w :: letters.cps.toList.map fun k => cut5 w ++ ⟨#[k]⟩
theorem near_len (w : Str) : (near w).length = 27 := by
  unfold near
  rw [List.length_cons, List.length_map]
  rfl
theorem near_wok {w s : Str} (h : wok w = true) (hs : s ∈ near w) : wok s = true := by
  unfold near at hs
  rcases List.mem_cons.mp hs with rfl | hs
  · exact h
  · obtain ⟨k, hk, rfl⟩ := List.mem_map.mp hs
    obtain ⟨h1, h2, h3⟩ := wok_of h
    have e : (cut5 w ++ (⟨#[k]⟩ : Str)).cps.toList = w.cps.toList.take 5 ++ [k] := by rw [cps_app, cut5_cps]
    refine wok_by ?_ ?_ fun c hc => ?_
    · rw [len_cps, e, List.length_append]; simp
    · rw [len_cps, e, List.length_append, List.length_take]; simp; omega
    · rw [e] at hc
      rcases List.mem_append.mp hc with hc | hc
      · exact h3 c (List.mem_of_mem_take hc)
      · rw [List.mem_singleton.mp hc]; exact hk
theorem near_new {w : Str} {found : List Str} (h : found.length ≤ 20) : ∃ s rest, (near w).filter (fun s => !decide (s ∈ found)) = s :: rest := by
  cases e : (near w).filter (fun s => !decide (s ∈ found)) with
  | cons s rest => exact ⟨s, rest, rfl⟩
  | nil =>
    exfalso
    have all : ∀ s ∈ near w, s ∈ found := fun s hs => by
      have z := List.filter_eq_nil_iff.mp e s hs
      simpa using z
    have nd : (letters.cps.toList.map fun k => cut5 w ++ (⟨#[k]⟩ : Str)).Nodup := by
      have n0 : letters.cps.toList.Nodup := by decide +kernel
      rw [List.nodup_iff_pairwise_ne, List.pairwise_map]
      refine n0.imp fun {a b} ne z => ne ?_
      have z2 := congrArg (fun s : Str => s.cps.toList) z
      simp only [cps_app] at z2
      have := List.append_cancel_left z2
      simpa using this
    have := nd_len nd fun a ha => all a (List.mem_cons_of_mem _ ha)
    rw [List.length_map] at this
    have l26 : letters.cps.toList.length = 26 := by decide +kernel
    omega
end
end Nb

/-! part D22 -/
set_option Elab.async false
set_option linter.all false
set_option maxRecDepth 100000
set_option maxHeartbeats 4000000
namespace Nb
open PySem PySem.Spec PyProof.Rows L2
local macro_rules | `(tactic| walk_at "S") => `(tactic| (try simp only [tSeq, tNext, tRet, tIfS, tDrop, tAsg, gName, tFor_eq, tWhile_eq, tLc_eq, tLc2_eq, tDc_eq, sFld_eq, sDPut_eq, tPar, tPar3, tC, tVar, tCB, tOp, tTup, tLst, tChain, tDGet_eq, tDGet2, tAndV, tOrV, tNotV, tIf, tLstRg, tRg1, tDisp, tPairs, tUn, rU, tTest, tNot, tB, tAnd, tOr, tYes, tSl, tPart, tNoPart, tRevL, tM1, tDNewK, tDNewT, gCons_c, gNil_n, gSub, gTup_eq, iRng1_eq, iList_eq, iTup_eq, iSeq_eq, iStr, iKeys_eq, iVals_eq, iEnum_eq, cx_K, tCons, tNil, tBM, tCall, tMake, tProp_eq, tMeth_eq, tFld_eq, tStar_eq, iZipM_eq, tDisp1, L2.start, List.map_cons, List.map_nil, List.length_cons, List.length_nil, List.cons_append, List.nil_append, List.append_nil, List.getElem?_cons_zero, List.getElem?_cons_succ, List.set_cons_zero, List.set_cons_succ, Option.some.injEq, exists_eq_left', exists_eq_left, V.bl.injEq, V.int.injEq, V.str.injEq, V.ref.injEq, if_true, if_false, Nat.reduceAdd, Nat.reduceSub, List.replicate_succ, List.replicate_zero, Bool.not_true, Bool.not_false, Bool.false_eq_true, if_neg, not_false_eq_true, wipe]))
local macro_rules | `(tactic| walk_at "G") => `(tactic| (walk_at "S"; repeat ((first | with_reducible refine o_add ?_ | with_reducible refine o_sub ?_ | with_reducible refine o_mul ?_ | with_reducible refine o_lt ?_ | with_reducible refine o_le ?_ | with_reducible refine o_gt ?_ | with_reducible refine o_ge ?_ | with_reducible refine o_eqI ?_ | with_reducible refine o_neI ?_ | with_reducible refine o_eqS ?_ | with_reducible refine o_neS ?_ | with_reducible refine o_isN ?_ | with_reducible refine o_notN ?_ | with_reducible refine i_int ?_ | with_reducible refine i_intB ?_ | with_reducible refine i_str ?_); walk_at "S")))
section
variable {P : Program} {w : World} {K : PySem.W.Frag} {mg : Str → Option Value} {base : Heap}
theorem o_addS {P : Program} {w : World} {K : PySem.W.Frag} {mg : Str → Option Value} {H : Hp} {Q : VK} {i j : Str} (h : i.length + j.length ≤ sizeLine) (q : Q (.str (i ++ j)) H) : rOp P w K mg (binaryOp .Add) (.str i) (.str j) H Q := fun _ _ => ⟨_, op_add_str, _, _, rfl, rfl, h, q⟩
def wordsC : List Str := ["a", "b", "x", "ann", "add", "seen", "deed", "size", "zzzzzz"]
theorem wordsC_ok : ∀ s ∈ wordsC, wok s = true := by decide +kernel
def sp__law_names : Sp := fun vs H Q _ => match vs with
  | [x, y] => ∃ (d g c : Addr) (n : Nat), x = .ref d ∧ y = .int n ∧ n ≤ 8 ∧ Dr d g c H ∧ ∀ p H' (l : List Str), l.length = n → l.Nodup → rL rS (wo3 d g c H') (.ref p) l → wo3 d g c H p = none → Dr d g c H' → Same (wo3 d g c H) (wo3 d g c H') → Q (.ref p) H'
  | _ => False
theorem sc__law_names : FnScope ["_law_draw", "_law_size", "_law_k", "_law_letters", "_law_found", "_law_word", "_law_near", "_law_letter", "_law_j", "_law_one"] ["_law_draw", "_law_size"] (defScope s__law_names) := ⟨rfl, rfl, rfl, by decide +kernel, rfl, by decide +kernel, by decide +kernel⟩
theorem sp__law_names_len : ∀ (vs : List V) (H : Hp) (Q : VK) (E : XK), sp__law_names vs H Q E → vs.length = 2
  | [_, _], _, _, _, _ => rfl
  | [], _, _, _, h => h.elim
  | [_], _, _, _, h => h.elim
  | _ :: _ :: _ :: _, _, _, _, h => h.elim
theorem cal__law_names (T : Tx P w K mg) : Cl P w K mg base 4 "_law_names" sp__law_names [] := by
  refine cl_of (st := s__law_names) (qual := "_law_names") (kws := []) (T.c.def_ 80 (d := d__law_names) rfl) sc__law_names sp__law_names_len (T.glo 70 rfl) (fun _ _ _ _ _ _ us hl => match us, hl with | [_, _], _ => rfl) (fun cdv A outer s H vs Q E hr h => ⟨_, (pss_cons (ps_asg (pe_tup (pa_cons pe_str (pa_cons (pe_lst pa_nil) pa_nil))) (pg_tk (n := 2) T rfl (pgs_cons (pg_name (i := 3) sc__law_names.nd rfl (Or.inr rfl)) (pgs_cons (pg_name (i := 4) sc__law_names.nd rfl (Or.inr rfl)) pgs_nil))))
  (pss_cons (ps_for PassesOwn.never rfl (pi_range1 rfl (T.free 113 rfl) (pa_cons (pv 1) pa_nil)) (pg_name (i := 2) sc__law_names.nd rfl (Or.inl rfl)) (pss_cons (ps_set (i := 5) sc__law_names.nd rfl (Or.inr rfl) (pe_cl (cal__law_pick T) hr (by decide) rfl (pa_cons (pv 0) (pa_cons (pe_lst (pa_cons pe_str (pa_cons pe_str (pa_cons pe_str (pa_cons pe_str (pa_cons pe_str (pa_cons pe_str (pa_cons pe_str (pa_cons pe_str (pa_cons pe_str pa_nil)))))))))) pa_nil))))
  (pss_cons (ps_if (pt_cmpR (op_any T hr) (pe_cl (cal__law_take T) hr (by decide) rfl (pa_cons (pv 0) (pa_cons pe_int pa_nil))) pe_int (nomark _)) (pss_one (ps_set (i := 5) sc__law_names.nd rfl (Or.inr rfl) (pe_join pe_str (pe_lc (own := [("_law_j", 8)]) rfl sc__law_names.nd (pi_range1 rfl (T.free 113 rfl) (pa_cons (pe_op (op_any T hr) pe_int (pe_cl (cal__law_take T) hr (by decide) rfl (pa_cons (pv 0) (pa_cons pe_int pa_nil)))) pa_nil)) (blkOk_by (own := [("_law_j", 8)]) (N := ["_law_draw", "_law_size", "_law_k", "_law_letters", "_law_found", "_law_word", "_law_near", "_law_letter", "_law_j", "_law_one"]) (sc := defScope s__law_names) (by decide +kernel)) (fun _ _ _ _ _ => (pg_name (i := 8) sc__law_names.nd rfl (Or.inl rfl))) (fun _ _ _ _ _ => pts_nil) (fun _ _ _ _ _ => (pe_cl (cal__law_pick T) hr (by decide) rfl (pa_cons (pv 0) (pa_cons (pv 3) pa_nil)))))))) pss_nil)
  (pss_cons (ps_set (i := 6) sc__law_names.nd rfl (Or.inl rfl) (pe_op (op_any T hr) (pe_lst (pa_cons (pv 5) pa_nil)) (pe_lc (own := [("_law_letter", 7)]) rfl sc__law_names.nd (pi_str (pv 3)) (blkOk_by (own := [("_law_letter", 7)]) (N := ["_law_draw", "_law_size", "_law_k", "_law_letters", "_law_found", "_law_word", "_law_near", "_law_letter", "_law_j", "_law_one"]) (sc := defScope s__law_names) (by decide +kernel)) (fun _ _ _ _ _ => (pg_name (i := 7) sc__law_names.nd rfl (Or.inl rfl))) (fun _ _ _ _ _ => pts_nil) (fun _ _ _ _ _ => (pe_op (op_any T hr) (pe_slice C8.sl_txt (pv 5) po_none (po_some pe_int)) (pv 7))))))
  (pss_one (ps_expr (pe_bk T PySem.F.plainAttrs_list PySem.F.slot_list_append PySem.F.type_list_append (mt_any T hr) (pv 4) (pa_cons (pe_ix (ix_any T hr) (pe_lc (own := [("_law_one", 9)]) rfl sc__law_names.nd (pi_ls T (pv 6)) (blkOk_by (own := [("_law_one", 9)]) (N := ["_law_draw", "_law_size", "_law_k", "_law_letters", "_law_found", "_law_word", "_law_near", "_law_letter", "_law_j", "_law_one"]) (sc := defScope s__law_names) (by decide +kernel)) (fun _ _ _ _ _ => (pg_name (i := 9) sc__law_names.nd rfl (Or.inl rfl))) (fun _ _ _ _ _ => pts_one (pt_cmpR (op_any T hr) (pv 9) (pv 4) (by rfl))) (fun _ _ _ _ _ => (pv 9))) pe_int (fun _ _ => rfl)) pa_nil))))))))
  (pss_one (ps_ret (pv 4))))), ?_⟩)
  obtain ⟨a0, a1, rfl⟩ := len2 (sp__law_names_len _ _ _ _ h)
  obtain ⟨d, g, c, n, rfl, rfl, n8, D0, q⟩ := h
  have h0 : 5000 ≤ lim := by decide
  have hsz : 5000 ≤ sizeLine := by decide
  walk_at "S"
  refine ⟨by decide, fun fd hfd => ⟨by decide, fun tp htp => ?_⟩⟩
  have s1 : Same H (upd H fd (.lst [])) := same_new (same_refl _) hfd
  have k1 : rL rS (upd H fd (.lst [])) (.ref fd) [] := mk_L hfd trivial (by decide)
  generalize upd H fd (.lst []) = H1 at s1 k1 htp
  have s2 : Same H1 (upd H1 tp (.tup [V.str (Str.ofString "abcdefghijklmnopqrstuvwxyz"), .ref fd])) := same_new (same_refl _) htp
  have e2 : upd H1 tp (.tup [V.str (Str.ofString "abcdefghijklmnopqrstuvwxyz"), .ref fd]) tp = some (.tup [V.str (Str.ofString "abcdefghijklmnopqrstuvwxyz"), .ref fd]) := upd_same
  generalize upd H1 tp (.tup [V.str (Str.ofString "abcdefghijklmnopqrstuvwxyz"), .ref fd]) = H2 at s2 e2
  have D2 := D0.mo (s1.trans s2)
  have nf := D0.new hfd
  have k2 : rL rS (wo3 d g c H2) (.ref fd) [] := D2.L nf (Mo.mo s2 k1)
  have w2 : Same (wo3 d g c H) (wo3 d g c H2) := wo3_mono (s1.trans s2)
  have wf : wo3 d g c H fd = none := by rw [wo3_at nf]; exact hfd
  refine tup_n e2 rfl ?_
  walk_at "S"
  refine rg_n (by omega) ?_
  refine for_w (L2.walk_range (lo := 0) (n := n)) (fun i σ H' => ∃ (o2 o5 o6 o7 o8 o9 : Option V) (l : List Str), σ = [some (.ref d), some (.int n), o2, some (.str letters), some (.ref fd), o5, o6, o7, o8, o9] ∧ l.length = i ∧ l.Nodup ∧ rL rS (wo3 d g c H') (.ref fd) l ∧ Dr d g c H' ∧ Same (wo3 d g c H) (wo3 d g c H')) ⟨none, none, none, none, none, none, [], rfl, rfl, .nil, k2, D2, w2⟩ (fun _ _ _ _ _ => trivial) ?_ ?_
  · rintro i x σ H' H3 hi ⟨o2, o5, o6, o7, o8, o9, l, rfl, ll, nd, k3, D3, w3⟩ ⟨rfl, rfl⟩
    simp only [gName, List.set_cons_zero, List.set_cons_succ]
    refine seq_cut2 (fun σ' H' => ∃ (wd : Str), wok wd = true ∧ σ' = [some (.ref d), some (.int n), some (.int (0 + (i : Int))), some (.str letters), some (.ref fd), some (.str wd), o6, o7, o8, o9] ∧ Dr d g c H' ∧ Same (wo3 d g c H3) (wo3 d g c H')) ?_ fun N hN => ?_
    · rintro σ1 H4 ⟨wd, okw, rfl, D4, w4⟩
      refine seq_cut2 (fun σ' H' => ∃ (wd : Str) (o8 : Option V), wok wd = true ∧ σ' = [some (.ref d), some (.int n), some (.int (0 + (i : Int))), some (.str letters), some (.ref fd), some (.str wd), o6, o7, o8, o9] ∧ Dr d g c H' ∧ Same (wo3 d g c H4) (wo3 d g c H')) ?_ fun N hN => ?_
      · rintro σ1 H5 ⟨wd, o8, okw, rfl, D5, w5⟩
        have w35 := w4.trans w5
        have k5 : rL rS (wo3 d g c H5) (.ref fd) l := Mo.mo w35 k3
        walk_at "S"
        refine ⟨by decide, fun p hp => ?_⟩
        have s6 : Same H5 (upd H5 p (.lst [V.str wd])) := same_new (same_refl _) hp
        have k6 : rL rS (upd H5 p (.lst [V.str wd])) (.ref p) [wd] := mk_L hp ⟨⟨rfl, okw⟩, trivial⟩ (by show 1 ≤ lim; omega)
        generalize upd H5 p (.lst [V.str wd]) = H6 at s6 k6
        refine lc_S (r' := rS) (fun k => some (cut5 wd ++ (⟨#[k]⟩ : Str))) (by decide +kernel) (fun k H7 hk s7 Yk N k1 k2 => ?_) fun p2 H7 s7 hp2 k7 => ?_
        · walk_at "S"
          obtain ⟨h1, h2, h3⟩ := wok_of okw
          refine ⟨trivial, ⟨_, rfl, by omega, ?_⟩⟩
          have okn : wok (cut5 wd ++ (⟨#[k]⟩ : Str)) = true := near_wok okw (List.mem_cons_of_mem _ (List.mem_map_of_mem hk))
          refine o_addS ?_ (k1 _ rfl _ _ (same_refl _) ⟨rfl, okn⟩)
          have := Txt.slice_le wd none (some 5)
          show (Txt.slice wd none (some 5)).length + 1 ≤ _
          omega
        · rw [fm_some] at k7
          refine o_catR (Mo.mo s7 k6) k7 (by rw [List.length_map, show letters.cps.toList.length = 26 by decide +kernel]; show 1 + 26 ≤ lim; omega) fun p3 H8 s8 hp3 k8 => ?_
          have s58 := (s6.trans s7).trans s8
          have D8 := D5.mo s58
          have w58 : Same (wo3 d g c H5) (wo3 d g c H8) := wo3_mono s58
          have kl8 := Mo.mo w58 k5
          refine ⟨ty_L (Mo.mo wo3_same kl8), ?_⟩
          refine ls_L k8 fun cc ec k8 => ?_
          cases ec
          refine lc_L (r := rS) (r' := rS) (fun s => if (!decide (s ∈ l)) = true then some s else none) k8 (fun x s H9 hs s9 rx Yk N k1 k2 => ?_) fun p4 H9 s9 hp4 k9 => ?_
          · obtain ⟨rfl, okx⟩ := id rx
            walk_at "S"
            have kl9 : rL rS H9 (.ref fd) l := Mo.mo s9 (Mo.mo wo3_same kl8)
            refine ⟨trivial, o_notinL (o := some s) kl9 ?_⟩
            have e0 : decide (some s ∈ l.map some) = decide (s ∈ l) := by
              apply decide_eq_decide.mpr
              simp
            rw [e0]
            by_cases hz : s ∈ l
            · rw [decide_eq_true hz]
              walk_at "S"
              exact k2 (by rw [decide_eq_true hz]; rfl) _ (same_refl _)
            · rw [decide_eq_false hz]
              walk_at "S"
              exact k1 _ (by rw [decide_eq_false hz]; rfl) _ _ (same_refl _) rx
          · rw [fm_if, List.map_id'] at k9
            obtain ⟨s, rest, es⟩ := near_new (w := wd) (found := l) (by omega)
            have en : [wd] ++ letters.cps.toList.map (fun k => cut5 wd ++ (⟨#[k]⟩ : Str)) = near wd := rfl
            rw [en, es] at k9
            have D9 := D8.mo s9
            have w9 : Same (wo3 d g c H8) (wo3 d g c H9) := wo3_mono s9
            have ms : s ∈ (near wd).filter (fun s => !decide (s ∈ l)) := by rw [es]; exact List.mem_cons_self
            obtain ⟨m1, m2⟩ := List.mem_filter.mp ms
            have m3 : s ∉ l := by simpa using m2
            refine x_RL (n := 0) k9 rfl rfl fun y ry => ?_
            refine m_app3 D9 (Mo.mo w9 kl8) ry (by omega) fun o ko Do wo => ?_
            refine ⟨_, _, _, _, _, _, _, rfl, by rw [List.length_append, ll]; rfl, ?_, ko, Do, ?_⟩
            · rw [List.nodup_append]
              refine ⟨nd, by simp, ?_⟩
              intro a ha b hb z
              rw [List.mem_singleton.mp hb] at z
              exact m3 (z ▸ ha)
            · rw [wo]
              exact same_put (((w3.trans w35).trans w58).trans w9) wf
      · walk_at "S"
        refine ⟨d, g, c, 2, rfl, rfl, by decide, by decide, D4, fun z H5 z0 z1 D5 w5 => ?_⟩
        walk_at "G"
        by_cases hz : z = 0
        · rw [decide_eq_true hz]
          walk_at "S"
          refine ⟨⟨_, rfl⟩, ?_⟩
          refine ⟨d, g, c, 6, rfl, rfl, by decide, by decide, D5, fun z2 H6 z20 z21 D6 w6 => ?_⟩
          walk_at "G"
          obtain ⟨n6, rfl⟩ : ∃ n6 : Nat, z2 = n6 := ⟨z2.toNat, by omega⟩
          rw [show (1 : Int) + (n6 : Int) = ((n6 + 1 : Nat) : Int) by omega]
          refine rg_n (by omega) ?_
          refine lc_R3 (r' := rC) (fun k => k ∈ letters.cps.toList) D6 (by omega) (fun j H7 hj D7 w7 Yk N k1 => ?_) fun p H7 bs D7 w7 hp lb hb k7 => ?_
          · walk_at "S"
            refine ⟨trivial, d, g, c, rfl, D7, .inr ⟨letters, rfl, by decide +kernel, by decide +kernel, fun k H8 hk D8 w8 => k1 k _ _ hk D8 w8 ⟨rfl, hk⟩⟩⟩
          · obtain ⟨a, xs, ea, e7, kx, hl⟩ := id k7
            cases ea
            have ex : xs = (bs.map fun k => (⟨#[k]⟩ : Str)).map V.str := by
              rw [List.map_map]
              exact (kx.mono fun _ _ z => z.1).eq
            refine ⟨_, p, bs.map fun k => (⟨#[k]⟩ : Str), rfl, rfl, .inl (.inl (.inl (by rw [← ex]; exact wo3_same _ _ e7))), ?_, hN _ _ ⟨_, _, ?_, rfl, D7, (w5.trans w6).trans w7⟩⟩
            · rw [List.map_map, List.length_map]
              have e1 : ∀ l : List Nat, (l.map ((fun x : Str => x.length) ∘ fun k => (⟨#[k]⟩ : Str))).sum = l.length := by
                intro l
                induction l with
                | nil => rfl
                | cons a l ih => rw [List.map_cons, List.sum_cons, ih, List.length_cons]; show 1 + _ = _; omega
              rw [e1]
              show bs.length + bs.length * 0 ≤ _
              omega
            · have ej : (Txt.join (Str.ofString "") (bs.map fun k => (⟨#[k]⟩ : Str))).cps.toList = bs := by
                have e0 : Txt.join (Str.ofString "") (bs.map fun k => (⟨#[k]⟩ : Str)) = Str.join (Str.ofString "") (bs.map fun k => (⟨#[k]⟩ : Str)) := StrLaws.glued_eq_join _ _
                rw [e0]
                exact join_cps bs
              refine wok_by ?_ ?_ fun k hk => ?_
              · rw [len_cps, ej]; omega
              · rw [len_cps, ej]; omega
              · rw [ej] at hk; exact hb k hk
        · rw [decide_eq_false hz]
          walk_at "S"
          exact hN _ _ ⟨wd, o8, okw, rfl, D5, w5⟩
    · walk_at "S"
      refine ⟨by decide, fun p hp => ?_⟩
      have k4 : rL rS (upd H3 p (.lst (wordsC.map V.str))) (.ref p) wordsC := mk_L hp (A2.of _ fun s hs => ⟨rfl, wordsC_ok s hs⟩) (by decide)
      have s4 : Same H3 (upd H3 p (.lst (wordsC.map V.str))) := same_new (same_refl _) hp
      have D4 := D3.mo s4
      have w4 : Same (wo3 d g c H3) (wo3 d g c (upd H3 p (.lst (wordsC.map V.str)))) := wo3_mono s4
      refine ⟨d, g, c, rfl, D4, .inl ⟨Str, rS, inferInstance, wordsC, D4.L (D3.new hp) k4, by decide, by decide, fun v s H' hs rv D5 w5 => ?_⟩⟩
      obtain ⟨rfl, okv⟩ := rv
      exact hN _ _ ⟨s, okv, rfl, D5, w4.trans w5⟩
  · rintro σ H' ⟨o2, o5, o6, o7, o8, o9, l, rfl, ll, nd, k3, D3, w3⟩
    walk_at "S"
    exact q fd H' l ll nd k3 wf D3 w3
end
end Nb

/-! part D23 -/
set_option Elab.async false
set_option linter.all false
set_option maxRecDepth 100000
set_option maxHeartbeats 4000000
namespace Nb
open PySem PySem.Spec PyProof.Rows L2
local macro_rules | `(tactic| walk_at "S") => `(tactic| (try simp only [tSeq, tNext, tRet, tIfS, tDrop, tAsg, gName, tFor_eq, tWhile_eq, tLc_eq, tLc2_eq, tDc_eq, sFld_eq, sDPut_eq, tPar, tPar3, tC, tVar, tCB, tOp, tTup, tLst, tChain, tDGet_eq, tDGet2, tAndV, tOrV, tNotV, tIf, tLstRg, tRg1, tDisp, tPairs, tUn, rU, tTest, tNot, tB, tAnd, tOr, tYes, tSl, tPart, tNoPart, tRevL, tM1, tDNewK, tDNewT, gCons_c, gNil_n, gSub, gTup_eq, iRng1_eq, iList_eq, iTup_eq, iSeq_eq, iStr, iKeys_eq, iVals_eq, iEnum_eq, cx_K, tCons, tNil, tBM, tCall, tMake, tProp_eq, tMeth_eq, tFld_eq, tStar_eq, iZipM_eq, tDisp1, L2.start, List.map_cons, List.map_nil, List.length_cons, List.length_nil, List.cons_append, List.nil_append, List.append_nil, List.getElem?_cons_zero, List.getElem?_cons_succ, List.set_cons_zero, List.set_cons_succ, Option.some.injEq, exists_eq_left', exists_eq_left, V.bl.injEq, V.int.injEq, V.str.injEq, V.ref.injEq, if_true, if_false, Nat.reduceAdd, Nat.reduceSub, List.replicate_succ, List.replicate_zero, Bool.not_true, Bool.not_false, Bool.false_eq_true, if_neg, not_false_eq_true, wipe]))
local macro_rules | `(tactic| walk_at "G") => `(tactic| (walk_at "S"; repeat ((first | with_reducible refine o_add ?_ | with_reducible refine o_sub ?_ | with_reducible refine o_mul ?_ | with_reducible refine o_lt ?_ | with_reducible refine o_le ?_ | with_reducible refine o_gt ?_ | with_reducible refine o_ge ?_ | with_reducible refine o_eqI ?_ | with_reducible refine o_neI ?_ | with_reducible refine o_eqS ?_ | with_reducible refine o_neS ?_ | with_reducible refine o_isN ?_ | with_reducible refine o_notN ?_ | with_reducible refine i_int ?_ | with_reducible refine i_intB ?_ | with_reducible refine i_str ?_); walk_at "S")))
section
variable {P : Program} {w : World} {K : PySem.W.Frag} {mg : Str → Option Value} {base : Heap}
theorem rng_len {n : Nat} : (rng n).length = n := by unfold rng; simp
theorem rng_mem {n : Nat} {z : Int} (h : z ∈ rng n) : 0 ≤ z ∧ z < (n : Int) := by
  obtain ⟨i, hi⟩ := List.getElem?_of_mem h
  obtain ⟨rfl, k⟩ := rng_at hi
  omega
def sp__law_map : Sp := fun vs H Q _ => match vs with
  | [x, y] => ∃ (d g c : Addr) (n : Nat), x = .ref d ∧ y = .int n ∧ 0 < n ∧ n ≤ 5 ∧ Dr d g c H ∧ ∀ p H' (l : List Int), l.length = n → (∀ z ∈ l, 0 ≤ z ∧ z < n) → rL rI (wo3 d g c H') (.ref p) l → wo3 d g c H p = none → Dr d g c H' → Same (wo3 d g c H) (wo3 d g c H') → Q (.ref p) H'
  | _ => False
theorem sc__law_map : FnScope ["_law_draw", "_law_size", "_law_sort", "_law_spots", "_law_spot"] ["_law_draw", "_law_size"] (defScope s__law_map) := ⟨rfl, rfl, rfl, by decide +kernel, rfl, by decide +kernel, by decide +kernel⟩
theorem sp__law_map_len : ∀ (vs : List V) (H : Hp) (Q : VK) (E : XK), sp__law_map vs H Q E → vs.length = 2
  | [_, _], _, _, _, _ => rfl
  | [], _, _, _, h => h.elim
  | [_], _, _, _, h => h.elim
  | _ :: _ :: _ :: _, _, _, _, h => h.elim
theorem cal__law_map (T : Tx P w K mg) : Cl P w K mg base 4 "_law_map" sp__law_map [] := by
  refine cl_of (st := s__law_map) (qual := "_law_map") (kws := []) (T.c.def_ 81 (d := d__law_map) rfl) sc__law_map sp__law_map_len (T.glo 71 rfl) (fun _ _ _ _ _ _ us hl => match us, hl with | [_, _], _ => rfl) (fun cdv A outer s H vs Q E hr h => ⟨_, (pss_cons (ps_par (i := 2) (j := 3) rfl sc__law_map.nd rfl rfl (by decide) rfl rfl (pa_cons (pe_cl (cal__law_take T) hr (by decide) rfl (pa_cons (pv 0) (pa_cons pe_int pa_nil))) (pa_cons (pe_listRg rfl rfl (T.free 110 rfl) (prg_1 rfl (T.free 113 rfl) (pv 1))) pa_nil)) (by rfl))
  (pss_cons (ps_if (pt_cmpR (op_any T hr) (pv 2) pe_int (nomark _)) (pss_one (ps_ret (pe_lc (own := [("_law_spot", 4)]) rfl sc__law_map.nd (pi_ls T (pv 3)) (blkOk_by (own := [("_law_spot", 4)]) (N := ["_law_draw", "_law_size", "_law_sort", "_law_spots", "_law_spot"]) (sc := defScope s__law_map) (by decide +kernel)) (fun _ _ _ _ _ => (pg_name (i := 4) sc__law_map.nd rfl (Or.inl rfl))) (fun _ _ _ _ _ => pts_nil) (fun _ _ _ _ _ => (pe_cl (cal__law_take T) hr (by decide) rfl (pa_cons (pv 0) (pa_cons (pv 1) pa_nil))))))) pss_nil)
  (pss_cons (ps_if (pt_cmpR (op_any T hr) (pv 2) pe_int (nomark _)) (pss_one (ps_ret (pe_cl (cal__law_mixed T) hr (by decide) rfl (pa_cons (pv 0) (pa_cons (pv 3) pa_nil))))) pss_nil)
  (pss_cons (ps_if (pt_cmpR (op_any T hr) (pv 2) pe_int (nomark _)) (pss_one (ps_ret (pe_op (op_any T hr) (pe_lst (pa_cons (pe_cl (cal__law_take T) hr (by decide) rfl (pa_cons (pv 0) (pa_cons (pv 1) pa_nil))) pa_nil)) (pv 1)))) pss_nil)
  (pss_one (ps_ret (pe_ifExp (pt_cmpR (op_any T hr) (pv 2) pe_int (nomark _)) (pe_lc (own := [("_law_spot", 4)]) rfl sc__law_map.nd (pi_ls T (pv 3)) (blkOk_by (own := [("_law_spot", 4)]) (N := ["_law_draw", "_law_size", "_law_sort", "_law_spots", "_law_spot"]) (sc := defScope s__law_map) (by decide +kernel)) (fun _ _ _ _ _ => (pg_name (i := 4) sc__law_map.nd rfl (Or.inl rfl))) (fun _ _ _ _ _ => pts_nil) (fun _ _ _ _ _ => (pe_callB (cl_any (f := .builtin "min") T hr) rfl (T.free 111 rfl) (by decide +kernel) (pa_cons (pe_op (op_any T hr) (pv 4) pe_int) (pa_cons (pe_op (op_any T hr) (pv 1) pe_int) pa_nil))))) (pv 3)))))))), ?_⟩)
  obtain ⟨a0, a1, rfl⟩ := len2 (sp__law_map_len _ _ _ _ h)
  obtain ⟨d, g, c, n, rfl, rfl, n0, n8, D0, q⟩ := h
  have h0 : 5000 ≤ lim := by decide
  have hsz : 5000 ≤ sizeLine := by decide
  walk_at "S"
  refine ⟨d, g, c, 7, rfl, rfl, by decide, by decide, D0, fun z H1 z0 z1 D1 w1 => ?_⟩
  refine ⟨RgOk.of_le (by omega) (by omega) (by omega) (by omega), fun sp hsp => ?_⟩
  have s2 : Same H1 (upd H1 sp (.lst (rgV 0 n))) := same_new (same_refl _) hsp
  have k2 : rL rI (upd H1 sp (.lst (rgV 0 n))) (.ref sp) (rng n) := c_listRg hsp (by omega)
  generalize upd H1 sp (.lst (rgV 0 n)) = H2 at s2 k2
  have D2 := D1.mo s2
  have nsp := D1.new hsp
  have k2' : rL rI (wo3 d g c H2) (.ref sp) (rng n) := D2.L nsp k2
  have w2 : Same (wo3 d g c H1) (wo3 d g c H2) := wo3_mono s2
  have wsp : wo3 d g c H1 sp = none := by rw [wo3_at nsp]; exact hsp
  have w02 := w1.trans w2
  have wsp0 := w1.free wsp
  have rl : (rng n).length = n := rng_len
  have rm : ∀ z ∈ rng n, 0 ≤ z ∧ z < (n : Int) := fun z hz => rng_mem hz
  refine ⟨_, _, rfl, ?_⟩
  walk_at "G"
  by_cases c1 : z < 3
  · rw [decide_eq_true c1]
    walk_at "S"
    refine ls_L k2 fun cc ec hc => ?_
    cases ec
    refine lc_L3 (r := rI) (r' := rI) (fun z : Int => 0 ≤ z ∧ z < n) D2 k2' (fun x b H3 hb D3 w3 rx Yk N k1 => ?_) fun p H3 bs D3 w3 hp lb hb k3 => ?_
    · walk_at "S"
      exact ⟨trivial, d, g, c, n, rfl, rfl, by omega, by omega, D3, fun z H4 z0 z1 D4 w4 => k1 z _ _ ⟨z0, z1⟩ D4 w4 rfl⟩
    · exact q p H3 bs (by omega) hb k3 (w02.free hp) D3 (w02.trans w3)
  · rw [decide_eq_false c1]
    walk_at "G"
    by_cases c2 : z = 3
    · rw [decide_eq_true c2]
      walk_at "S"
      refine ⟨d, g, c, rng n, rfl, D2, k2', by omega, fun p H3 l' hl ll k3 hp D3 w3 => ?_⟩
      exact q p H3 l' (by omega) (fun z hz => rm z (hl z hz)) k3 (w02.free hp) D3 (w02.trans w3)
    · rw [decide_eq_false c2]
      walk_at "G"
      by_cases c3 : z = 4
      · rw [decide_eq_true c3]
        walk_at "S"
        refine ⟨d, g, c, n, rfl, rfl, by omega, by omega, D2, fun y H3 y0 y1 D3 w3 => ?_⟩
        refine ⟨by decide, fun p hp => ?_⟩
        have e4 : upd H3 p (.lst [V.int y]) p = some (.lst [V.int y]) := upd_same
        have s4 : Same H3 (upd H3 p (.lst [V.int y])) := same_new (same_refl _) hp
        generalize upd H3 p (.lst [V.int y]) = H4 at e4 s4
        refine o_rep e4 (by omega) (by omega) (by simp; omega) fun p2 hp2 => ?_
        have e5 : (List.replicate (n : Int).toNat [V.int y]).flatten = (List.replicate n y).map V.int := by
          rw [Int.toNat_natCast]
          simp [List.flatten_replicate_singleton]
        rw [e5]
        have s5 : Same H4 (upd H4 p2 (.lst ((List.replicate n y).map V.int))) := same_new (same_refl _) hp2
        have k5 : rL rI (upd H4 p2 (.lst ((List.replicate n y).map V.int))) (.ref p2) (List.replicate n y) := mk_L hp2 (A2.of _ fun _ _ => rfl) (by simp; omega)
        have D4 := D3.mo s4
        have D5 := D4.mo s5
        have np := D4.new hp2
        have w45 : Same (wo3 d g c H3) (wo3 d g c (upd H4 p2 (.lst ((List.replicate n y).map V.int)))) := wo3_mono (s4.trans s5)
        refine q p2 _ _ (by simp) (fun z hz => ?_) (D5.L np k5) (w02.free (w3.free ?_)) D5 ((w02.trans w3).trans w45)
        · rw [List.eq_of_mem_replicate hz]; exact ⟨y0, y1⟩
        · rw [wo3_at (D3.new (s4.free hp2))]; exact s4.free hp2
      · rw [decide_eq_false c3]
        walk_at "G"
        by_cases c4 : z = 5
        · rw [decide_eq_true c4]
          walk_at "S"
          refine ls_L k2 fun cc ec hc => ?_
          cases ec
          refine lc_L3 (r := rI) (r' := rI) (fun z : Int => 0 ≤ z ∧ z < n) D2 k2' (fun x b H3 hb D3 w3 rx Yk N k1 => ?_) fun p H3 bs D3 w3 hp lb hb k3 => ?_
          · cases rx
            walk_at "G"
            refine ⟨trivial, ?_⟩
            walk_at "G"
            refine c_min (k1 _ _ _ ?_ D3 (fun _ _ z => z) rfl)
            have := rm b hb
            split <;> omega
          · exact q p H3 bs (by omega) hb k3 (w02.free hp) D3 (w02.trans w3)
        · rw [decide_eq_false c4]
          walk_at "S"
          exact q sp H2 _ rl rm k2' wsp0 D2 w02
end
end Nb

/-! part D24 -/
set_option Elab.async false
set_option linter.all false
set_option maxRecDepth 100000
set_option maxHeartbeats 4000000
namespace Nb
open PySem PySem.Spec PyProof.Rows L2
local macro_rules | `(tactic| walk_at "S") => `(tactic| (try simp only [tSeq, tNext, tRet, tIfS, tDrop, tAsg, gName, tFor_eq, tWhile_eq, tLc_eq, tLc2_eq, tDc_eq, sFld_eq, sDPut_eq, tPar, tPar3, tC, tVar, tCB, tOp, tTup, tLst, tChain, tDGet_eq, tDGet2, tAndV, tOrV, tNotV, tIf, tLstRg, tRg1, tDisp, tPairs, tUn, rU, tTest, tNot, tB, tAnd, tOr, tYes, tSl, tPart, tNoPart, tRevL, tM1, tDNewK, tDNewT, gCons_c, gNil_n, gSub, gTup_eq, iRng1_eq, iList_eq, iTup_eq, iSeq_eq, iStr, iKeys_eq, iVals_eq, iEnum_eq, cx_K, tCons, tNil, tBM, tCall, tMake, tProp_eq, tMeth_eq, tFld_eq, tStar_eq, iZipM_eq, tDisp1, L2.start, List.map_cons, List.map_nil, List.length_cons, List.length_nil, List.cons_append, List.nil_append, List.append_nil, List.getElem?_cons_zero, List.getElem?_cons_succ, List.set_cons_zero, List.set_cons_succ, Option.some.injEq, exists_eq_left', exists_eq_left, V.bl.injEq, V.int.injEq, V.str.injEq, V.ref.injEq, if_true, if_false, Nat.reduceAdd, Nat.reduceSub, List.replicate_succ, List.replicate_zero, Bool.not_true, Bool.not_false, Bool.false_eq_true, if_neg, not_false_eq_true, wipe]))
local macro_rules | `(tactic| walk_at "G") => `(tactic| (walk_at "S"; repeat ((first | with_reducible refine o_add ?_ | with_reducible refine o_sub ?_ | with_reducible refine o_mul ?_ | with_reducible refine o_lt ?_ | with_reducible refine o_le ?_ | with_reducible refine o_gt ?_ | with_reducible refine o_ge ?_ | with_reducible refine o_eqI ?_ | with_reducible refine o_neI ?_ | with_reducible refine o_eqS ?_ | with_reducible refine o_neS ?_ | with_reducible refine o_isN ?_ | with_reducible refine o_notN ?_ | with_reducible refine i_int ?_ | with_reducible refine i_intB ?_ | with_reducible refine i_str ?_); walk_at "S")))
section
variable {P : Program} {w : World} {K : PySem.W.Frag} {mg : Str → Option Value} {base : Heap}
/-! ### the model being made -/
theorem A2.set {γ α : Type} {r : γ → α → Prop} {v : γ} {b : α} (hv : r v b) : ∀ {xs : List γ} {l : List α} (i : Nat), A2 r xs l → A2 r (xs.set i v) (l.set i b)
  | [], [], _, h => h
  | _ :: _, _ :: _, 0, h => ⟨hv, h.2⟩
  | _ :: _, _ :: _, i + 1, h => ⟨h.1, A2.set hv i h.2⟩
  | [], _ :: _, _, h => h.elim
  | _ :: _, [], _, h => h.elim
theorem okInts_set {n v : Int} {l : List Int} {j : Nat} (h : okInts n l) (h0 : 0 ≤ v) (h1 : v ≤ n) : okInts n (l.set j v) := fun x hx => by
  rcases List.mem_or_eq_of_mem_set hx with h2 | rfl
  · exact h x h2
  · exact ⟨h0, h1⟩
section
variable {P : Program} {w : World} {K : PySem.W.Frag} {mg : Str → Option Value} {d g c : Addr} {H : Hp} {Q : VK}
theorem t_set3 {p : Addr} {l : List Int} {v i : Int} {j : Nat} {q : Hp → Prop} (D : Dr d g c H) (h : rL rI (wo3 d g c H) (.ref p) l) (hi : i = (j : Int)) (hj : j < l.length)
    (k : ∀ xs, rL rI (upd (wo3 d g c H) p (.lst xs)) (.ref p) (l.set j v) → Dr d g c (upd H p (.lst xs)) → wo3 d g c (upd H p (.lst xs)) = upd (wo3 d g c H) p (.lst xs) → q (upd H p (.lst xs))) : rSt P w K mg (.ref p) (.int i) (.int v) H q := by
  obtain ⟨a, us, e, e1, k1, hl⟩ := h
  cases e
  have nl := Dr.not e1
  have eH := wo3_same _ _ e1
  have w1 : wo3 d g c (upd H p (.lst (us.set j (.int v)))) = upd (wo3 d g c H) p (.lst (us.set j (.int v))) := wo3_upd nl
  refine t_setL (n := j) eH ?_ (k _ ⟨p, _, rfl, upd_same, A2.set (r := rI (wo3 d g c H)) (v := .int v) rfl j k1, by rw [List.length_set]; exact hl⟩ (D.put nl fun ys e => by rw [eH] at e; cases e) w1)
  have := k1.len
  unfold ixN
  rw [if_pos (by omega)]
  have e2 : i.toNat = j := by omega
  rw [e2, if_pos (by omega)]
end
theorem A2.of2 {γ α τ : Type} {r : γ → α → Prop} {f : τ → γ} {g : τ → α} : ∀ l : List τ, (∀ a ∈ l, r (f a) (g a)) → A2 r (l.map f) (l.map g)
  | [], _ => trivial
  | a :: l, h => ⟨h a List.mem_cons_self, A2.of2 l fun b hb => h b (List.mem_cons_of_mem _ hb)⟩
theorem x_R0 {P : Program} {w : World} {K : PySem.W.Frag} {mg : Str → Option Value} {H : Hp} {Q : VK} {l : List Int} {v : V} (h : rL rI H v l) (hl : 0 < l.length) (q : Q (.int (gi l 0)) H) : rXx P w K mg v (.int 0) H Q :=
  x_RL (n := 0) (b := gi l 0) h rfl (by have := gi_at (l := l) (i := 0) (Int.le_refl _) (Int.ofNat_lt.mpr hl) rfl; exact this) fun y ry => by cases ry; exact q
theorem ok_0 {l : List Int} {n : Int} (h : okInts n l) (hl : 0 < l.length) : 0 ≤ gi l 0 ∧ gi l 0 ≤ n := h _ (gi_mem (Int.le_refl _) (Int.ofNat_lt.mpr hl))
/-- a name, where its list lies, the list -/
abbrev Tr := Str × Addr × List Int
def tkv (t : Tr) : Key × V := (.inr t.1, .ref t.2.1)
structure Mp (R0 R : Hp) (an as f : Addr) (names : List Str) (sh : List Int) (ts : List Tr) (n : Nat) : Prop where
  kn : rL rS R (.ref an) names
  ks : rL rI R (.ref as) sh
  kf : R f = some (.dK (ts.map tkv))
  nd : (an :: as :: ts.map (fun t => t.2.1)).Nodup
  nk : (ts.map (fun t => t.1)).Nodup
  al : ∀ t ∈ ts, wok t.1 = true ∧ rL rI R (.ref t.2.1) t.2.2 ∧ t.2.2.length = n ∧ okInts (n - 1) t.2.2
  l8 : ts.length ≤ 8
  sl : sh.length = n ∧ okInts 9 sh
  sm : Same R0 R
  fr : ∀ a ∈ f :: an :: as :: ts.map (fun t => t.2.1), R0 a = none
theorem val_ts : ∀ {ts : List Tr}, (ts.map (fun t => t.1)).Nodup → ∀ t ∈ ts, valV (ts.map tkv) (.inr t.1) = some (.ref t.2.1)
  | u :: ts, nd, t, ht => by
    rw [List.map_cons, List.nodup_cons] at nd
    by_cases e : u.1 = t.1
    · rcases List.mem_cons.mp ht with rfl | ht
      · exact vv_hd
      · exact absurd (e ▸ List.mem_map_of_mem (f := fun t : Tr => t.1) ht) nd.1
    · rcases List.mem_cons.mp ht with rfl | ht
      · exact absurd rfl e
      · show valV ((.inr u.1, .ref u.2.1) :: ts.map tkv) _ = _
        rw [vv_tl fun z => e (Sum.inr.inj z)]
        exact val_ts nd.2 t ht
section
variable {R0 R R' : Hp} {an as f : Addr} {names : List Str} {sh : List Int} {ts : List Tr} {n : Nat} {d g c : Addr} {H : Hp} {Q : VK}
theorem Mp.mo (h : Mp R0 R an as f names sh ts n) (s : Same R R') : Mp R0 R' an as f names sh ts n :=
  { h with kn := Mo.mo s h.kn, ks := Mo.mo s h.ks, kf := s _ _ h.kf, al := fun t ht => ⟨(h.al t ht).1, Mo.mo s (h.al t ht).2.1, (h.al t ht).2.2⟩, sm := h.sm.trans s }
theorem Mp.get (h : Mp R0 (wo3 d g c H) an as f names sh ts n) {t : Tr} (ht : t ∈ ts) (q : Q (.ref t.2.1) H) : dgB (.ref f) (.str t.1) H Q :=
  ⟨f, _, rfl, .inl ⟨_, .inr t.1, .inl (wo3_same _ _ h.kf), rfl, (val_ts h.nk t ht).symm⟩, q⟩
theorem Mp.setS {xs : List V} {sh' : List Int} (h : Mp R0 R an as f names sh ts n) (k : rL rI (upd R as (.lst xs)) (.ref as) sh') (h1 : sh'.length = n) (h2 : okInts 9 sh') : Mp R0 (upd R as (.lst xs)) an as f names sh' ts n := by
  have nd := h.nd
  rw [List.nodup_cons, List.nodup_cons] at nd
  obtain ⟨ys, es⟩ := rL_at h.ks
  refine { h with kn := rL_put h.kn es nofun fun z => nd.1 (z ▸ List.mem_cons_self), ks := k, kf := ?_, al := fun t ht => ⟨(h.al t ht).1, rL_put (h.al t ht).2.1 es nofun fun z => nd.2.1 (z ▸ List.mem_map_of_mem (f := fun t : Tr => t.2.1) ht), (h.al t ht).2.2⟩, sl := ⟨h1, h2⟩, sm := same_put h.sm (h.fr _ (by simp)) }
  rw [upd_ne (ne_of h.kf es nofun)]
  exact h.kf
def reT (a : Addr) (l : List Int) (t : Tr) : Tr := if t.2.1 = a then (t.1, t.2.1, l) else t
theorem reT_1 {a : Addr} {l : List Int} {t : Tr} : (reT a l t).1 = t.1 := by unfold reT; split <;> rfl
theorem reT_2 {a : Addr} {l : List Int} {t : Tr} : (reT a l t).2.1 = t.2.1 := by unfold reT; split <;> rfl
theorem Mp.setT {xs : List V} {l : List Int} {t : Tr} (h : Mp R0 R an as f names sh ts n) (ht : t ∈ ts) (k : rL rI (upd R t.2.1 (.lst xs)) (.ref t.2.1) l) (h1 : l.length = n) (h2 : okInts (n - 1) l) : Mp R0 (upd R t.2.1 (.lst xs)) an as f names sh (ts.map (reT t.2.1 l)) n := by
  have nd := h.nd
  rw [List.nodup_cons, List.nodup_cons] at nd
  obtain ⟨ys, es⟩ := rL_at (h.al t ht).2.1
  have mt : t.2.1 ∈ ts.map (fun t => t.2.1) := List.mem_map_of_mem (f := fun t : Tr => t.2.1) ht
  have e1 : (ts.map (reT t.2.1 l)).map (fun t => t.1) = ts.map (fun t => t.1) := by
    rw [List.map_map]; exact List.map_congr_left fun _ _ => reT_1
  have e2 : (ts.map (reT t.2.1 l)).map (fun t => t.2.1) = ts.map (fun t => t.2.1) := by
    rw [List.map_map]; exact List.map_congr_left fun _ _ => reT_2
  have e3 : (ts.map (reT t.2.1 l)).map tkv = ts.map tkv := by
    rw [List.map_map]; exact List.map_congr_left fun _ _ => by
      show tkv _ = _
      unfold tkv; rw [reT_1, reT_2]
  exact {
    kn := rL_put h.kn es nofun fun z => nd.1 (z ▸ List.mem_cons_of_mem _ mt)
    ks := rL_put h.ks es nofun fun z => nd.2.1 (z ▸ mt)
    kf := by rw [upd_ne (ne_of h.kf es nofun), e3]; exact h.kf
    nd := by rw [e2]; exact h.nd
    nk := by rw [e1]; exact h.nk
    al := by
      intro u hu
      obtain ⟨v, hv, rfl⟩ := List.mem_map.mp hu
      unfold reT
      by_cases e : v.2.1 = t.2.1
      · rw [if_pos e]
        exact ⟨(h.al v hv).1, by show rL rI _ (.ref v.2.1) l; rw [e]; exact k, h1, h2⟩
      · rw [if_neg e]
        exact ⟨(h.al v hv).1, rL_put (h.al v hv).2.1 es nofun e, (h.al v hv).2.2⟩
    l8 := by rw [List.length_map]; exact h.l8
    sl := h.sl
    sm := same_put h.sm (h.fr _ (List.mem_cons_of_mem _ (List.mem_cons_of_mem _ (List.mem_cons_of_mem _ mt))))
    fr := by rw [e2]; exact h.fr }
theorem putK_no {kvs : List (Key × V)} {k : Key} {v : V} (h : ∀ p ∈ kvs, ¬ p.1 = k) : putK kvs k v = kvs ++ [(k, v)] := by
  unfold putK
  rw [if_neg]
  intro z
  obtain ⟨p, hp, e⟩ := List.any_eq_true.mp z
  exact h p hp (of_decide_eq_true e)
theorem Mp.add {k : Str} {p : Addr} {l : List Int} {kvs : List (Key × V)} (h : Mp R0 R an as f names sh ts n) (hk : k ∉ ts.map (fun t => t.1)) (wk : wok k = true) (hp : p ∉ an :: as :: ts.map (fun t => t.2.1)) (fp : R0 p = none) (kl : rL rI R (.ref p) l) (h1 : l.length = n) (h2 : okInts (n - 1) l) (l8 : ts.length < 8) (ek : putK (ts.map tkv) (.inr k) (.ref p) = kvs) :
    Mp R0 (upd R f (.dK kvs)) an as f names sh (ts ++ [(k, p, l)]) n := by
  have nd := h.nd
  have e1 : (ts ++ [(k, p, l)]).map (fun t => t.2.1) = ts.map (fun t => t.2.1) ++ [p] := by simp
  have e2 : (ts ++ [(k, p, l)]).map (fun t => t.1) = ts.map (fun t => t.1) ++ [k] := by simp
  exact {
    kn := rL_dK h.kn h.kf
    ks := rL_dK h.ks h.kf
    kf := by
      rw [upd_same, ← ek, List.map_append]
      congr 2
      refine putK_no fun q hq e => ?_
      obtain ⟨t, ht, rfl⟩ := List.mem_map.mp hq
      exact hk (Sum.inr.inj e ▸ List.mem_map_of_mem (f := fun t : Tr => t.1) ht)
    nd := by
      rw [e1, ← List.cons_append, ← List.cons_append, List.nodup_append]
      exact ⟨nd, by simp, fun a ha b hb z => hp (by rw [List.mem_singleton.mp hb] at z; exact z ▸ ha)⟩
    nk := by
      rw [e2, List.nodup_append]
      exact ⟨h.nk, by simp, fun a ha b hb z => hk (by rw [List.mem_singleton.mp hb] at z; exact z ▸ ha)⟩
    al := by
      intro t ht
      rcases List.mem_append.mp ht with ht | ht
      · exact ⟨(h.al t ht).1, rL_dK (h.al t ht).2.1 h.kf, (h.al t ht).2.2⟩
      · rw [List.mem_singleton.mp ht]
        exact ⟨wk, rL_dK kl h.kf, h1, h2⟩
    l8 := by rw [List.length_append]; exact l8
    sl := h.sl
    sm := same_put h.sm (h.fr _ List.mem_cons_self)
    fr := by
      intro a ha
      rw [e1, ← List.cons_append, ← List.cons_append, ← List.cons_append] at ha
      rcases List.mem_append.mp ha with ha | ha
      · exact h.fr a ha
      · rw [List.mem_singleton.mp ha]; exact fp }
theorem Mp.rD (h : Mp R0 R an as f names sh ts n) : rD (rL rI) R (.ref f) (ts.map fun t => (t.1, t.2.2)) := by
  refine ⟨f, _, rfl, h.kf, ?_, ?_, ?_⟩
  · exact A2.of2 ts fun t ht => ⟨rfl, (h.al t ht).1, (h.al t ht).2.1⟩
  · rw [List.map_map]; exact h.nk
  · rw [List.length_map]
    have := h.l8
    have : 5000 ≤ lim := by decide
    omega
end
def sp__law_model : Sp := fun vs H Q _ => match vs with
  | [x, y, z] => ∃ (d g c : Addr), x = .ref d ∧ y = .int 3 ∧ z = .int 2 ∧ Dr d g c H ∧ ∀ p H' m, rMo (wo3 d g c H') (.ref p) m → Dr d g c H' → Same (wo3 d g c H) (wo3 d g c H') → Q (.ref p) H'
  | _ => False
theorem sc__law_model : FnScope ["_law_draw", "_law_most", "_law_many", "_law_shows_here", "_law_name", "_law_size", "_law_top", "_law_names_here", "_law_found", "_law_spot"] ["_law_draw", "_law_most", "_law_many"] (defScope s__law_model) := ⟨rfl, rfl, rfl, by decide +kernel, rfl, by decide +kernel, by decide +kernel⟩
theorem sp__law_model_len : ∀ (vs : List V) (H : Hp) (Q : VK) (E : XK), sp__law_model vs H Q E → vs.length = 3
  | [_, _, _], _, _, _, _ => rfl
  | [], _, _, _, h => h.elim
  | [_], _, _, _, h => h.elim
  | [_, _], _, _, _, h => h.elim
  | _ :: _ :: _ :: _ :: _, _, _, _, h => h.elim
theorem cal__law_model (T : Tx P w K mg) : Cl P w K mg base 5 "_law_model" sp__law_model [] := by
  refine cl_of (st := s__law_model) (qual := "_law_model") (kws := []) (T.c.def_ 82 (d := d__law_model) rfl) sc__law_model sp__law_model_len (T.glo 72 rfl) (fun _ _ _ _ _ _ us hl => match us, hl with | [_, _, _], _ => rfl) (fun cdv A outer s H vs Q E hr h => ⟨_, (pss_cons (ps_asg (pe_tup (pa_cons (pe_op (op_any T hr) pe_int (pe_cl (cal__law_take T) hr (by decide) rfl (pa_cons (pv 0) (pa_cons (pe_op (op_any T hr) (pv 1) pe_int) pa_nil)))) (pa_cons (pe_cl (cal__law_pick T) hr (by decide) rfl (pa_cons (pv 0) (pa_cons (pe_lst (pa_cons pe_int (pa_cons pe_int (pa_cons pe_int (pa_cons pe_int pa_nil))))) pa_nil))) pa_nil))) (pg_tk (n := 2) T rfl (pgs_cons (pg_name (i := 5) sc__law_model.nd rfl (Or.inl rfl)) (pgs_cons (pg_name (i := 6) sc__law_model.nd rfl (Or.inr rfl)) pgs_nil))))
  (pss_cons (ps_setLc (i := 3) (own := [("_law_spot", 9)]) rfl sc__law_model.nd rfl rfl (sw_true rfl rfl rfl (by decide +kernel)) (pi_range1 rfl (T.free 113 rfl) (pa_cons (pv 5) pa_nil)) (blkOk_by (own := [("_law_spot", 9)]) (N := ["_law_draw", "_law_most", "_law_many", "_law_shows_here", "_law_name", "_law_size", "_law_top", "_law_names_here", "_law_found", "_law_spot"]) (sc := defScope s__law_model) (by decide +kernel)) (fun _ _ _ _ _ => (pg_name (i := 9) sc__law_model.nd rfl (Or.inl rfl))) (fun _ _ _ _ _ => pts_nil) (fun _ _ _ _ _ => (pe_cl (cal__law_take T) hr (by decide) rfl (pa_cons (pv 0) (pa_cons (pv 6) pa_nil)))))
  (pss_cons (ps_if (pt_cmpR (op_any T hr) (pe_cl (cal__law_take T) hr (by decide) rfl (pa_cons (pv 0) (pa_cons pe_int pa_nil))) pe_int (nomark _)) (pss_one (ps_asg (pe_op (op_any T hr) (pe_op (op_any T hr) (pe_op (op_any T hr) (pe_ix (ix_any T hr) (pv 3) pe_int (fun _ _ => rfl)) pe_int) (pe_cl (cal__law_take T) hr (by decide) rfl (pa_cons (pv 0) (pa_cons (pe_op (op_any T hr) (pv 6) pe_int) pa_nil)))) (pv 6)) (pg_sub (pv 3) pe_int (set_any T hr)))) pss_nil)
  (pss_cons (ps_par (i := 7) (j := 8) rfl sc__law_model.nd rfl rfl (by decide) rfl rfl (pa_cons (pe_callB (cl_any (f := .builtin "sorted") T hr) rfl (T.free 116 rfl) (by decide +kernel) (pa_cons (pe_cl (cal__law_names T) hr (by decide) rfl (pa_cons (pv 0) (pa_cons (pe_op (op_any T hr) pe_int (pe_cl (cal__law_take T) hr (by decide) rfl (pa_cons (pv 0) (pa_cons (pv 2) pa_nil)))) pa_nil))) pa_nil)) (pa_cons pe_dnewK pa_nil)) (by rfl))
  (pss_cons (ps_for PassesOwn.never rfl (pi_ls T (pv 7)) (pg_name (i := 4) sc__law_model.nd rfl (Or.inl rfl)) (pss_one (ps_dput (hu_of hr) (pv 8) (pv 4) (pe_cl (cal__law_map T) hr (by decide) rfl (pa_cons (pv 0) (pa_cons (pv 5) pa_nil))) rfl)))
  (pss_cons (ps_if (pt_cmpR (op_any T hr) (pe_cl (cal__law_take T) hr (by decide) rfl (pa_cons (pv 0) (pa_cons pe_int pa_nil))) pe_int (nomark _)) (pss_one (ps_asg (pe_op (op_any T hr) pe_int (pe_cl (cal__law_take T) hr (by decide) rfl (pa_cons (pv 0) (pa_cons (pe_op (op_any T hr) (pv 5) pe_int) pa_nil)))) (pg_sub (pe_dget (hu_of hr) (pv 8) (pe_ix (ix_any T hr) (pv 7) pe_int (fun _ _ => rfl)) (fun _ _ => rfl)) pe_int (set_any T hr)))) pss_nil)
  (pss_cons (ps_if (PW.pt (pw_and (pt_cmpR (op_any T hr) (pv 5) pe_int (nomark _)) (pw_and1 (pt_cmpR (op_any T hr) (pe_cl (cal__law_take T) hr (by decide) rfl (pa_cons (pv 0) (pa_cons pe_int pa_nil))) pe_int (nomark _))))) (pss_cons (ps_asg (pe_ix (ix_any T hr) (pv 3) pe_int (fun _ _ => rfl)) (pg_sub (pv 3) (pe_op (op_any T hr) (pv 5) pe_int) (set_any T hr)))
  (pss_one (ps_for PassesOwn.never rfl (pi_ls T (pv 7)) (pg_name (i := 4) sc__law_model.nd rfl (Or.inl rfl)) (pss_one (ps_asg (pe_ix (ix_any T hr) (pe_dget (hu_of hr) (pv 8) (pv 4) (fun _ _ => rfl)) pe_int (fun _ _ => rfl)) (pg_sub (pe_dget (hu_of hr) (pv 8) (pv 4) (fun _ _ => rfl)) (pe_op (op_any T hr) (pv 5) pe_int) (set_any T hr))))))) pss_nil)
  (pss_one (ps_ret (pe_disp (pps_cons pe_str (pv 3) (pps_cons pe_str (pv 8) pps_nil)) (by rfl) (by rfl) (fun z => by cases z) (by decide))))))))))), ?_⟩)
  obtain ⟨a0, a1, a2, rfl⟩ := len3 (sp__law_model_len _ _ _ _ h)
  obtain ⟨d, g, c, rfl, rfl, rfl, D0, q⟩ := h
  have h0 : 5000 ≤ lim := by decide
  have hsz : 5000 ≤ sizeLine := by decide
  walk_at "G"
  refine ⟨d, g, c, 2, rfl, rfl, by decide, by decide, D0, fun z H1 z0 z1 D1 w1 => ?_⟩
  walk_at "G"
  obtain ⟨n, en, n2, n3⟩ : ∃ n : Nat, 2 + z = (n : Int) ∧ 2 ≤ n ∧ n ≤ 3 := ⟨(2 + z).toNat, by omega, by omega, by omega⟩
  rw [en]
  refine ⟨by decide, fun lp hlp => ?_⟩
  have s2 : Same H1 (upd H1 lp (.lst [.int 2, .int 2, .int 3, .int 10])) := same_new (same_refl _) hlp
  have k2 : rL rI (upd H1 lp (.lst [.int 2, .int 2, .int 3, .int 10])) (.ref lp) [2, 2, 3, 10] := mk_L hlp ⟨rfl, rfl, rfl, rfl, trivial⟩ (by decide)
  generalize upd H1 lp (.lst [.int 2, .int 2, .int 3, .int 10]) = H2 at s2 k2
  have D2 := D1.mo s2
  have w2 : Same (wo3 d g c H) (wo3 d g c H2) := w1.trans (wo3_mono s2)
  refine ⟨d, g, c, rfl, D2, .inl ⟨Int, rI, inferInstance, _, D2.L (D1.new hlp) k2, by decide, by decide, fun v top H3 ht rv D3 w3 => ?_⟩⟩
  cases rv
  have tt : 2 ≤ top ∧ top ≤ 10 := by simp at ht; omega
  refine ⟨by decide, fun tp htp => ?_⟩
  have s4 : Same H3 (upd H3 tp (.tup [.int n, .int top])) := same_new (same_refl _) htp
  have e4 : upd H3 tp (.tup [.int n, .int top]) tp = some (.tup [.int n, .int top]) := upd_same
  generalize upd H3 tp (.tup [.int n, .int top]) = H4 at s4 e4
  have D4 := D3.mo s4
  have w4 : Same (wo3 d g c H) (wo3 d g c H4) := (w2.trans w3).trans (wo3_mono s4)
  refine tup_n e4 rfl ?_
  simp only [gCons_c, gNil_n, gName, List.set_cons_zero, List.set_cons_succ]
  have cs : ∀ {l : List Int}, (∀ z ∈ l, 0 ≤ z ∧ z < top) → okInts 9 l := fun hl z hz => by have := hl z hz; omega
  let S0 : L2.St → Hp → Prop := fun σ' H' => ∃ as sh, σ' = [some (.ref d), some (.int 3), some (.int 2), some (.ref as), none, some (.int n), some (.int top), none, none, none] ∧ sh.length = n ∧ okInts 9 sh ∧ rL rI (wo3 d g c H') (.ref as) sh ∧ wo3 d g c H as = none ∧ Dr d g c H' ∧ Same (wo3 d g c H) (wo3 d g c H')
  refine seq_cut2 S0 ?_ fun N hN => ?_
  · rintro σ1 H5 ⟨as, sh, rfl, shl, sh9, k5, fas, D5, w5⟩
    refine seq_cut2 S0 ?_ fun N hN => ?_
    · clear k5 D5 w5 shl sh9 fas
      rintro σ1 H5 ⟨as, sh, rfl, shl, sh9, k5, fas, D5, w5⟩
      refine seq_cut2 (fun σ' H' => ∃ an f names, σ' = [some (.ref d), some (.int 3), some (.int 2), some (.ref as), none, some (.int n), some (.int top), some (.ref an), some (.ref f), none] ∧ Dr d g c H' ∧ 1 ≤ names.length ∧ names.length ≤ 2 ∧ names.Nodup ∧ (names.Pairwise fun a b => leS a b = true) ∧ Mp (wo3 d g c H) (wo3 d g c H') an as f names sh [] n) ?_ fun N hN => ?_
      · rintro σ1 H6 ⟨an, f, names, rfl, D6, nl1, nl2, ndn, pwn, M6⟩
        let S1 : L2.St → Hp → Prop := fun σ' H' => ∃ sh ts nm, σ' = [some (.ref d), some (.int 3), some (.int 2), some (.ref as), nm, some (.int n), some (.int top), some (.ref an), some (.ref f), none] ∧ Dr d g c H' ∧ ts.map (fun t => t.1) = names ∧ Mp (wo3 d g c H) (wo3 d g c H') an as f names sh ts n
        refine seq_cut2 S1 ?_ fun N hN => ?_
        · rintro σ1 H7 ⟨sh7, ts7, nm, rfl, D7, et7, M7⟩
          refine seq_cut2 S1 ?_ fun N hN => ?_
          · rintro σ1 H8 ⟨sh8, ts8, nm, rfl, D8, et8, M8⟩
            refine seq_cut2 S1 ?_ fun N hN => ?_
            · rintro σ1 H9 ⟨sh9, ts9, nm, rfl, D9, et9, M9⟩
              walk_at "S"
              intro p hp
              refine ⟨upd_same, [(.inr "shows", .ref as), (.inr "maps", .ref f)], rfl, by show 2 ≤ 15; decide, ?_⟩
              have em : mergeK [] [((.inr "shows" : Key), V.ref as), (.inr "maps", .ref f)] = [((.inr "shows" : Key), V.ref as), (.inr "maps", .ref f)] := by rfl
              have eu : upd (upd H9 p (.dK [])) p (.dK (mergeK [] [((.inr "shows" : Key), V.ref as), (.inr "maps", .ref f)])) = upd H9 p (.dK [((.inr "shows" : Key), V.ref as), (.inr "maps", .ref f)]) := by
                rw [em]
                exact upd_upd
              rw [eu]
              have s10 : Same H9 (upd H9 p (.dK [((.inr "shows" : Key), V.ref as), (.inr "maps", .ref f)])) := same_new (same_refl _) hp
              have e10 : upd H9 p (.dK [((.inr "shows" : Key), V.ref as), (.inr "maps", .ref f)]) p = some (.dK [((.inr "shows" : Key), V.ref as), (.inr "maps", .ref f)]) := upd_same
              generalize upd H9 p (.dK [((.inr "shows" : Key), V.ref as), (.inr "maps", .ref f)]) = H10 at s10 e10
              have np := D9.new hp
              have w10 : Same (wo3 d g c H9) (wo3 d g c H10) := wo3_mono s10
              have M10 := M9.mo w10
              have ef : (ts9.map fun t => (t.1, t.2.2)).map Prod.fst = ts9.map (fun t => t.1) := by rw [List.map_map]; rfl
              have tl : ts9.length = names.length := by rw [← et9, List.length_map]
              refine q p H10 (sh9, ts9.map fun t => (t.1, t.2.2)) ⟨⟨p, .ref as, .ref f, rfl, by rw [wo3_at np]; exact e10, M10.ks, M10.rD⟩, ?_⟩ (D9.mo s10) M10.sm
              exact {
                lo := by show 2 ≤ sh9.length; rw [M9.sl.1]; exact n2
                hi := by show sh9.length ≤ 3; rw [M9.sl.1]; exact n3
                sh := M9.sl.2
                d1 := by show 1 ≤ (ts9.map _).length; rw [List.length_map]; omega
                d2 := by show (ts9.map _).length ≤ 2; rw [List.length_map]; omega
                ok := by
                  intro r hr
                  obtain ⟨t, ht, rfl⟩ := List.mem_map.mp hr
                  show t.2.2.length = sh9.length ∧ okInts ((sh9.length : Int) - 1) t.2.2
                  rw [M9.sl.1]
                  exact (M9.al t ht).2.2
                st := by rw [show (sh9, ts9.map fun t => (t.1, t.2.2)).2.map Prod.fst = ts9.map (fun t => t.1) from ef, et9]; exact pwn
                nd := by rw [show (sh9, ts9.map fun t => (t.1, t.2.2)).2.map Prod.fst = ts9.map (fun t => t.1) from ef, et9]; exact ndn }
            · walk_at "G"
              have hno := hN _ _ ⟨sh8, ts8, nm, rfl, D8, et8, M8⟩
              by_cases c1 : (2 : Int) < n
              · rw [decide_eq_true c1]
                walk_at "S"
                refine ⟨d, g, c, 4, rfl, rfl, by decide, by decide, D8, fun z H9 z0 z1 D9 w9 => ?_⟩
                have M9 := M8.mo w9
                walk_at "G"
                by_cases c2 : z = 0
                · rw [decide_eq_true c2]
                  walk_at "S"
                  have lsh := M9.sl.1
                  have ok1 := ok_0 M9.sl.2 (by omega)
                  refine x_R0 (Mo.mo wo3_same M9.ks) (by omega) ?_
                  walk_at "G"
                  refine t_set3 (j := n - 1) D9 M9.ks (by omega) (by rw [M9.sl.1]; omega) fun xs k10 D10 w10 => ?_
                  have M10 := M9.setS k10 (by rw [List.length_set]; exact M9.sl.1) (okInts_set M9.sl.2 ok1.1 ok1.2)
                  rw [← w10] at M10
                  generalize upd H9 as (.lst xs) = H10 at D10 M10
                  refine ls_L (Mo.mo wo3_same M10.kn) fun cc ec _ => ?_
                  cases ec
                  refine for_L (r := rS) (l := names) (fun _ σ H' => S1 σ H') ⟨_, ts8, nm, rfl, D10, et8, M10⟩ (fun _ _ _ _ ⟨_, _, _, _, _, _, M⟩ => Mo.mo wo3_same M.kn) ?_ (fun σ H' h => hN _ _ h)
                  rintro i x s σ H11 hi ⟨rfl, okx⟩ ⟨sh11, ts11, nm, rfl, D11, et11, M11⟩
                  walk_at "S"
                  have hs : s ∈ ts11.map (fun t => t.1) := by rw [et11]; exact List.mem_of_getElem? hi
                  obtain ⟨t, ht, rfl⟩ := List.mem_map.mp hs
                  obtain ⟨a1, a2, a3, a4⟩ := M11.al t ht
                  refine M11.get ht ?_
                  refine x_R0 (Mo.mo wo3_same a2) (by omega) ?_
                  refine M11.get ht ?_
                  walk_at "G"
                  refine t_set3 (j := n - 1) D11 a2 (by omega) (by omega) fun xs k12 D12 w12 => ?_
                  have ok0 := ok_0 a4 (by omega)
                  have M12 := M11.setT ht k12 (by rw [List.length_set]; exact a3) (okInts_set a4 ok0.1 ok0.2)
                  rw [← w12] at M12
                  refine ⟨_, _, _, rfl, D12, ?_, M12⟩
                  rw [List.map_map, ← et11]
                  exact List.map_congr_left fun _ _ => reT_1
                · rw [decide_eq_false c2]
                  walk_at "S"
                  exact hN _ _ ⟨sh8, ts8, nm, rfl, D9, et8, M9⟩
              · rw [decide_eq_false c1]
                walk_at "S"
                exact hno
          · walk_at "S"
            refine ⟨d, g, c, 10, rfl, rfl, by decide, by decide, D7, fun z H8 z0 z1 D8 w8 => ?_⟩
            have M8 := M7.mo w8
            walk_at "G"
            by_cases c1 : (0 : Int) < z
            · rw [decide_eq_true c1]
              walk_at "G"
              refine ⟨d, g, c, (n : Int) - 1, rfl, rfl, by omega, by omega, D8, fun y H9 y0 y1 D9 w9 => ?_⟩
              have M9 := M8.mo w9
              walk_at "G"
              have nl : ts7.length = names.length := by rw [← et7, List.length_map]
              obtain ⟨t, ht⟩ : ∃ t, ts7[0]? = some t := ⟨_, List.getElem?_eq_getElem (by omega)⟩
              have hm := List.mem_of_getElem? ht
              have e0 : names[0]? = some t.1 := by rw [← et7, List.getElem?_map, ht]; rfl
              refine x_RL (n := 0) (Mo.mo wo3_same M9.kn) rfl e0 fun v rv => ?_
              obtain ⟨rfl, _⟩ := rv
              obtain ⟨a1, a2, a3, a4⟩ := M9.al t hm
              refine M9.get hm ?_
              refine t_set3 (j := 0) D9 a2 rfl (by omega) fun xs k12 D12 w12 => ?_
              have M12 := M9.setT hm k12 (by rw [List.length_set]; exact a3) (okInts_set a4 (by omega) (by omega))
              rw [← w12] at M12
              refine hN _ _ ⟨_, _, _, rfl, D12, ?_, M12⟩
              rw [List.map_map, ← et7]
              exact List.map_congr_left fun _ _ => reT_1
            · rw [decide_eq_false c1]
              walk_at "S"
              exact hN _ _ ⟨sh7, ts7, nm, rfl, D8, et7, M8⟩
        · walk_at "S"
          refine ls_L (Mo.mo wo3_same M6.kn) fun cc ec _ => ?_
          cases ec
          refine for_L (r := rS) (l := names) (fun i σ H' => ∃ ts nm, σ = [some (.ref d), some (.int 3), some (.int 2), some (.ref as), nm, some (.int n), some (.int top), some (.ref an), some (.ref f), none] ∧ Dr d g c H' ∧ ts.map (fun t => t.1) = names.take i ∧ Mp (wo3 d g c H) (wo3 d g c H') an as f names sh ts n) ⟨[], none, rfl, D6, rfl, M6⟩ (fun _ _ _ _ ⟨_, _, _, _, _, M⟩ => Mo.mo wo3_same M.kn) ?_ ?_
          · rintro i x s σ H7 hi ⟨rfl, okx⟩ ⟨ts7, nm, rfl, D7, et7, M7⟩
            walk_at "S"
            refine ⟨d, g, c, n, rfl, rfl, by omega, by omega, D7, fun p H8 l ll lr k8 hp D8 w8 => ?_⟩
            have M8 := M7.mo w8
            have hil : i < names.length := (List.getElem?_eq_some_iff.mp hi).1
            have tl7 : ts7.length = i := by
              have := congrArg List.length et7
              rw [List.length_map, List.length_take] at this
              omega
            have hfp : p ∉ an :: as :: ts7.map (fun t => t.2.1) := by
              intro z
              rcases List.mem_cons.mp z with rfl | z
              · obtain ⟨_, e⟩ := rL_at M7.kn; rw [hp] at e; cases e
              rcases List.mem_cons.mp z with rfl | z
              · obtain ⟨_, e⟩ := rL_at M7.ks; rw [hp] at e; cases e
              · obtain ⟨t, ht, rfl⟩ := List.mem_map.mp z
                obtain ⟨_, e⟩ := rL_at (M7.al t ht).2.1; rw [hp] at e; cases e
            have hks : s ∉ ts7.map (fun t => t.1) := by
              rw [et7]
              intro z
              obtain ⟨j, hj, e⟩ := List.mem_take_iff_getElem.mp z
              have := (List.getElem?_eq_some_iff.mp hi).2
              have := (List.getElem_inj (h₀ := by omega) (h₁ := hil) ndn).mp (e.trans this.symm)
              omega
            have kf8 := M8.kf
            have M9 := M8.add hks okx hfp (M7.sm.free hp) k8 ll (fun z hz => by have := lr z hz; omega) (by omega) rfl
            have nf := Dr.not kf8
            have w9 : wo3 d g c (upd H8 f (.dK (putK (ts7.map tkv) (.inr s) (.ref p)))) = upd (wo3 d g c H8) f (.dK (putK (ts7.map tkv) (.inr s) (.ref p))) := wo3_upd nf
            have eH := wo3_same _ _ kf8
            refine ⟨f, _, rfl, .inl ⟨_, .inr s, eH, rfl, by rw [List.length_map]; omega, rfl⟩, ?_⟩
            rw [← w9] at M9
            refine ⟨_, _, rfl, D8.put nf (fun ys e => by rw [eH] at e; cases e), ?_, M9⟩
            rw [List.map_append, et7, List.take_add_one, hi]
            rfl
          · rintro σ H7 ⟨ts7, nm, rfl, D7, et7, M7⟩
            rw [List.take_length] at et7
            exact hN _ _ ⟨sh, ts7, nm, rfl, D7, et7, M7⟩
      · walk_at "S"
        refine ⟨d, g, c, 2, rfl, rfl, by decide, by decide, D5, fun z H6 z0 z1 D6 w6 => ?_⟩
        walk_at "G"
        obtain ⟨k, ek, k1, k2⟩ : ∃ k : Nat, 1 + z = (k : Int) ∧ 1 ≤ k ∧ k ≤ 2 := ⟨(1 + z).toNat, by omega, by omega, by omega⟩
        rw [ek]
        refine ⟨d, g, c, k, rfl, rfl, by omega, D6, fun p H7 l ll nd k7 hp D7 w7 => ?_⟩
        refine c_sortS (Mo.mo wo3_same k7) fun an H8 s8 han k8 => ?_
        walk_at "S"
        intro f hf
        have s9 : Same H8 (upd H8 f (.dK [])) := same_new (same_refl _) hf
        have e9 : upd H8 f (.dK []) f = some (.dK []) := upd_same
        generalize upd H8 f (.dK []) = H9 at s9 e9
        refine ⟨_, _, rfl, ?_⟩
        have D8 := D7.mo s8
        have D9 := D8.mo s9
        have na := D7.new han
        have nf := D8.new hf
        have w57 := w6.trans w7
        have w79 : Same (wo3 d g c H7) (wo3 d g c H9) := wo3_mono (s8.trans s9)
        have ks9 := Mo.mo (w57.trans w79) k5
        obtain ⟨ys, es⟩ := rL_at (Mo.mo w57 k5)
        have nas : an ≠ as := by
          intro z
          have := wo3_same _ _ es
          rw [← z, han] at this
          cases this
        have fan : wo3 d g c H7 an = none := by rw [wo3_at na]; exact han
        have ff : wo3 d g c H8 f = none := by rw [wo3_at nf]; exact hf
        have w07 := w5.trans w57
        have w08 : Same (wo3 d g c H) (wo3 d g c H8) := w07.trans (wo3_mono s8)
        refine hN _ _ ⟨an, f, srt l, rfl, D9, by rw [srt_len]; omega, by rw [srt_len]; omega, (srt_perm l).nodup_iff.mpr nd, srt_pw l, ?_⟩
        exact {
          kn := D9.L na (Mo.mo s9 k8)
          ks := ks9
          kf := by rw [wo3_at nf]; exact e9
          nd := by simp [nas]
          nk := .nil
          al := by simp
          l8 := by simp
          sl := ⟨shl, sh9⟩
          sm := w07.trans w79
          fr := by
            intro a ha
            simp only [List.map_nil, List.mem_cons, List.not_mem_nil, or_false] at ha
            rcases ha with rfl | rfl | rfl
            · exact w08.free ff
            · exact w07.free fan
            · exact fas }
    · walk_at "S"
      refine ⟨d, g, c, 10, rfl, rfl, by decide, by decide, D5, fun z H6 z0 z1 D6 w6 => ?_⟩
      have k6 := Mo.mo w6 k5
      walk_at "G"
      by_cases c1 : (0 : Int) < z
      · rw [decide_eq_true c1]
        walk_at "S"
        refine x_R0 (Mo.mo wo3_same k6) (by omega) ?_
        walk_at "G"
        refine ⟨d, g, c, top - 1, rfl, rfl, by omega, by omega, D6, fun y H7 y0 y1 D7 w7 => ?_⟩
        walk_at "G"
        refine o_mod (by omega) ?_
        refine t_set3 (j := 1) D7 (Mo.mo w7 k6) rfl (by omega) fun xs k8 D8 w8 => ?_
        refine hN _ _ ⟨as, sh.set 1 ((gi sh 0 + 1 + y) % top), rfl, by rw [List.length_set]; exact shl, okInts_set sh9 (Int.emod_nonneg _ (by omega)) ?_, ?_, fas, D8, ?_⟩
        · have := Int.emod_lt_of_pos (gi sh 0 + 1 + y) (show 0 < top by omega)
          omega
        · rw [w8]; exact k8
        · rw [w8]; exact same_put ((w5.trans w6).trans w7) fas
      · rw [decide_eq_false c1]
        walk_at "S"
        exact hN _ _ ⟨as, sh, rfl, shl, sh9, k6, fas, D6, w5.trans w6⟩
  · walk_at "S"
    refine rg_n (by omega) ?_
    refine lc_R3 (r' := rI) (fun z : Int => 0 ≤ z ∧ z < top) D4 (by omega) (fun j H7 hj D7 w7 Yk N k1 => ?_) fun p H7 bs D7 w7 hp lb hb k7 => ?_
    · walk_at "S"
      exact ⟨trivial, d, g, c, top, rfl, rfl, by omega, by omega, D7, fun z H8 z0 z1 D8 w8 => k1 z _ _ ⟨z0, z1⟩ D8 w8 rfl⟩
    · exact hN _ _ ⟨p, bs, rfl, lb, cs hb, k7, w4.free hp, D7, w4.trans w7⟩
end
end Nb

/-! part D25 -/
set_option Elab.async false
set_option linter.all false
set_option maxRecDepth 100000
set_option maxHeartbeats 4000000
namespace Nb
open PySem PySem.Spec PyProof.Rows L2
local macro_rules | `(tactic| walk_at "S") => `(tactic| (try simp only [tSeq, tNext, tRet, tIfS, tDrop, tAsg, gName, tFor_eq, tWhile_eq, tLc_eq, tLc2_eq, tDc_eq, sFld_eq, sDPut_eq, tPar, tPar3, tC, tVar, tCB, tOp, tTup, tLst, tChain, tDGet_eq, tDGet2, tAndV, tOrV, tNotV, tIf, tLstRg, tRg1, tDisp, tPairs, tUn, rU, tTest, tNot, tB, tAnd, tOr, tYes, tSl, tPart, tNoPart, tRevL, tM1, tDNewK, tDNewT, gCons_c, gNil_n, gSub, gTup_eq, iRng1_eq, iList_eq, iTup_eq, iSeq_eq, iStr, iKeys_eq, iVals_eq, iEnum_eq, cx_K, tCons, tNil, tBM, tCall, tMake, tProp_eq, tMeth_eq, tFld_eq, tStar_eq, iZipM_eq, tDisp1, L2.start, List.map_cons, List.map_nil, List.length_cons, List.length_nil, List.cons_append, List.nil_append, List.append_nil, List.getElem?_cons_zero, List.getElem?_cons_succ, List.set_cons_zero, List.set_cons_succ, Option.some.injEq, exists_eq_left', exists_eq_left, V.bl.injEq, V.int.injEq, V.str.injEq, V.ref.injEq, if_true, if_false, Nat.reduceAdd, Nat.reduceSub, List.replicate_succ, List.replicate_zero, Bool.not_true, Bool.not_false, Bool.false_eq_true, if_neg, not_false_eq_true, wipe]))
local macro_rules | `(tactic| walk_at "G") => `(tactic| (walk_at "S"; repeat ((first | with_reducible refine o_add ?_ | with_reducible refine o_sub ?_ | with_reducible refine o_mul ?_ | with_reducible refine o_lt ?_ | with_reducible refine o_le ?_ | with_reducible refine o_gt ?_ | with_reducible refine o_ge ?_ | with_reducible refine o_eqI ?_ | with_reducible refine o_neI ?_ | with_reducible refine o_eqS ?_ | with_reducible refine o_neS ?_ | with_reducible refine o_isN ?_ | with_reducible refine o_notN ?_ | with_reducible refine i_int ?_ | with_reducible refine i_intB ?_ | with_reducible refine i_str ?_); walk_at "S")))
section
variable {P : Program} {w : World} {K : PySem.W.Frag} {mg : Str → Option Value} {base : Heap}
def sp__law_log : Sp := fun vs H Q _ => match vs with
  | [x, y, z, u] => ∃ (d g c : Addr) (m : Mdl) (fk : List Str) (n : Nat), x = .ref d ∧ rMo (wo3 d g c H) y m ∧ rL rS (wo3 d g c H) z fk ∧ fk.length < 1000 ∧ u = .int n ∧ n ≤ 64 ∧ Dr d g c H ∧ ∀ p H' (rows : List Entry), rL rE (wo3 d g c H') (.ref p) rows → rows.length = n → okRows m.2 rows → (∀ e ∈ rows, ∀ s, e.1 = some s → s ∈ fk) → wo3 d g c H p = none → Dr d g c H' → Same (wo3 d g c H) (wo3 d g c H') → Q (.ref p) H'
  | _ => False
theorem sc__law_log : FnScope ["_law_draw", "_law_model_here", "_law_folk_here", "_law_size", "_law_turn", "_law_found", "_law_names_here", "_law_who"] ["_law_draw", "_law_model_here", "_law_folk_here", "_law_size"] (defScope s__law_log) := ⟨rfl, rfl, rfl, by decide +kernel, rfl, by decide +kernel, by decide +kernel⟩
theorem sp__law_log_len : ∀ (vs : List V) (H : Hp) (Q : VK) (E : XK), sp__law_log vs H Q E → vs.length = 4
  | [_, _, _, _], _, _, _, _ => rfl
  | [], _, _, _, h => h.elim
  | [_], _, _, _, h => h.elim
  | [_, _], _, _, _, h => h.elim
  | [_, _, _], _, _, _, h => h.elim
  | _ :: _ :: _ :: _ :: _ :: _, _, _, _, h => h.elim
theorem cal__law_log (T : Tx P w K mg) : Cl P w K mg base 4 "_law_log" sp__law_log [] := by
  refine cl_of (st := s__law_log) (qual := "_law_log") (kws := []) (T.c.def_ 87 (d := d__law_log) rfl) sc__law_log sp__law_log_len (T.glo 77 rfl) (fun _ _ _ _ _ _ us hl => match us, hl with | [_, _, _, _], _ => rfl) (fun cdv A outer s H vs Q E hr h => ⟨_, (pss_cons (ps_par (i := 5) (j := 6) rfl sc__law_log.nd rfl rfl (by decide) rfl rfl (pa_cons (pe_lst pa_nil) (pa_cons (pe_callB (cl_any (f := .builtin "sorted") T hr) rfl (T.free 116 rfl) (by decide +kernel) (pa_cons (pe_dget (hu_of hr) (pv 1) pe_str (fun _ _ => rfl)) pa_nil)) pa_nil)) (by rfl))
  (pss_cons (ps_for PassesOwn.never rfl (pi_range1 rfl (T.free 113 rfl) (pa_cons (pv 3) pa_nil)) (pg_name (i := 4) sc__law_log.nd rfl (Or.inl rfl)) (pss_cons (ps_set (i := 7) sc__law_log.nd rfl (Or.inl rfl) (pe_ifExp (PW.pt (pw_or (pt_cmpR (op_any T hr) (pv 2) (pe_lst pa_nil) (nomark _)) (pw_or1 (pt_cmpR (op_any T hr) (pe_cl (cal__law_take T) hr (by decide) rfl (pa_cons (pv 0) (pa_cons pe_int pa_nil))) pe_int (nomark _))))) pe_non (pe_cl (cal__law_pick T) hr (by decide) rfl (pa_cons (pv 0) (pa_cons (pv 2) pa_nil)))))
  (pss_one (ps_expr (pe_bk T PySem.F.plainAttrs_list PySem.F.slot_list_append PySem.F.type_list_append (mt_any T hr) (pv 5) (pa_cons (pe_tup (pa_cons (pv 7) (pa_cons (pe_cl (cal__law_pick T) hr (by decide) rfl (pa_cons (pv 0) (pa_cons (pv 6) pa_nil))) pa_nil))) pa_nil))))))
  (pss_one (ps_ret (pv 5))))), ?_⟩)
  obtain ⟨a0, a1, a2, a3, rfl⟩ := len4 (sp__law_log_len _ _ _ _ h)
  obtain ⟨d, g, c, m, fk, n, rfl, hM, hf, f9, rfl, n8, D0, q⟩ := h
  have h0 : 5000 ≤ lim := by decide
  have hsz : 5000 ≤ sizeLine := by decide
  walk_at "S"
  refine ⟨by decide, fun fd hfd => ?_⟩
  have s1 : Same H (upd H fd (.lst [])) := same_new (same_refl _) hfd
  have k1 : rL rE (upd H fd (.lst [])) (.ref fd) [] := mk_L hfd trivial (by decide)
  generalize upd H fd (.lst []) = H1 at s1 k1
  have D1 := D0.mo s1
  have nf := D0.new hfd
  have wf : wo3 d g c H fd = none := by rw [wo3_at nf]; exact hfd
  have w1 : Same (wo3 d g c H) (wo3 d g c H1) := wo3_mono s1
  refine gMo_maps (Mo.mo wo3_same (Mo.mo w1 hM)) fun y ky => ?_
  refine c_sortD ky (by have := hM.2.d2; omega) fun nm H2 s2 hnm k2 => ?_
  refine ⟨_, _, rfl, ?_⟩
  have D2 := D1.mo s2
  have kn : rL rS (wo3 d g c H2) (.ref nm) (srt (m.2.map Prod.fst)) := D2.L (D1.new hnm) k2
  have kf : rL rE (wo3 d g c H2) (.ref fd) [] := D2.L nf (Mo.mo s2 k1)
  have w2 : Same (wo3 d g c H) (wo3 d g c H2) := w1.trans (wo3_mono s2)
  refine rg_n (by omega) ?_
  refine for_w (L2.walk_range (lo := 0) (n := n)) (fun i σ H' => ∃ (o4 o7 : Option V) (l : List Entry), σ = [some (.ref d), some a1, some a2, some (.int n), o4, some (.ref fd), some (.ref nm), o7] ∧ l.length = i ∧ okRows m.2 l ∧ (∀ e ∈ l, ∀ s, e.1 = some s → s ∈ fk) ∧ rL rE (wo3 d g c H') (.ref fd) l ∧ rL rS (wo3 d g c H') (.ref nm) (srt (m.2.map Prod.fst)) ∧ Dr d g c H' ∧ Same (wo3 d g c H) (wo3 d g c H')) ⟨none, none, [], rfl, rfl, by simp, by simp, kf, kn, D2, w2⟩ (fun _ _ _ _ _ => trivial) ?_ ?_
  · rintro i x σ H' H3 hi ⟨o4, o7, l, rfl, ll, okl, wl, k3, kn3, D3, w3⟩ ⟨rfl, rfl⟩
    simp only [gName, List.set_cons_zero, List.set_cons_succ]
    refine seq_cut2 (fun σ' H' => ∃ (o : Option Str), (∀ s, o = some s → s ∈ fk ∧ wok s = true) ∧ σ' = [some (.ref d), some a1, some a2, some (.int n), some (.int (0 + (i : Int))), some (.ref fd), some (.ref nm), some (oV o)] ∧ Dr d g c H' ∧ Same (wo3 d g c H3) (wo3 d g c H')) ?_ fun N hN => ?_
    · rintro σ1 H4 ⟨o, okO, rfl, D4, w4⟩
      have w24 := w3.trans w4
      walk_at "S"
      refine ⟨ty_L (Mo.mo wo3_same (Mo.mo w4 k3)), ?_⟩
      have kn4 := Mo.mo w4 kn3
      have m1 : 1 ≤ m.2.length := hM.2.d1
      have m2 : m.2.length ≤ 2 := hM.2.d2
      refine ⟨d, g, c, rfl, D4, .inl ⟨Str, rS, inferInstance, _, kn4, ?_, by rw [srt_len, List.length_map]; omega, fun v s H5 hs rv D5 w5 => ?_⟩⟩
      · intro z
        have := congrArg List.length z
        rw [srt_len, List.length_map, List.length_nil] at this
        omega
      refine ⟨by decide, fun p hp => ?_⟩
      have s6 : Same H5 (upd H5 p (.tup [oV o, v])) := same_new (same_refl _) hp
      have k6 : rE (upd H5 p (.tup [oV o, v])) (.ref p) (o, s) := mk_P (r := rO) (r2 := rS) hp ⟨rfl, fun s hs => (okO s hs).2⟩ rv
      generalize upd H5 p (.tup [oV o, v]) = H6 at s6 k6
      have D6 := D5.mo s6
      have w56 : Same (wo3 d g c H5) (wo3 d g c H6) := wo3_mono s6
      have w36 := (w4.trans w5).trans w56
      refine m_app3 D6 (Mo.mo w36 k3) (Tt.tm D6.t k6) (by omega) fun u ku Du wu => ?_
      have nmf : nm ≠ fd := by
        obtain ⟨_, e⟩ := rL_at (Mo.mo s2 k1)
        intro z
        obtain ⟨_, e'⟩ := rL_at (Mo.mo s2 k1)
        have hn := hnm
        rw [z] at hn
        obtain ⟨_, e2⟩ := rL_at k1
        rw [hn] at e2
        cases e2
      refine ⟨_, _, _, rfl, by rw [List.length_append, ll]; rfl, ?_, ?_, ku, ?_, Du, ?_⟩
      · intro e he
        rcases List.mem_append.mp he with he | he
        · exact okl e he
        · rw [List.mem_singleton.mp he]
          exact srt_mem.mp hs
      · intro e he
        rcases List.mem_append.mp he with he | he
        · exact wl e he
        · rw [List.mem_singleton.mp he]
          exact fun s hs => (okO s hs).1
      · rw [wu]
        exact rL_put (Mo.mo w36 kn3) (rL_at (Mo.mo w36 k3)).choose_spec nofun nmf
      · rw [wu]
        exact same_put (w3.trans w36) wf
    · walk_at "S"
      refine ⟨by decide, fun t ht => ?_⟩
      have s4 : Same H3 (upd H3 t (.lst [])) := same_new (same_refl _) ht
      have k4 : rL rS (upd H3 t (.lst [])) (.ref t) [] := mk_L ht trivial (by decide)
      generalize upd H3 t (.lst []) = H4 at s4 k4
      have D4 := D3.mo s4
      have w4 : Same (wo3 d g c H3) (wo3 d g c H4) := wo3_mono s4
      have hf4 := Mo.mo (w3.trans w4) hf
      refine o_eqR (r := rL rS) (Mo.mo wo3_same hf4) k4 ?_
      walk_at "S"
      by_cases c1 : fk = []
      · rw [decide_eq_true c1]
        walk_at "S"
        exact hN _ _ ⟨none, nofun, rfl, D4, w4⟩
      · rw [decide_eq_false c1]
        walk_at "S"
        refine ⟨d, g, c, 4, rfl, rfl, by decide, by decide, D4, fun z H5 z0 z1 D5 w5 => ?_⟩
        walk_at "G"
        by_cases c2 : z = 0
        · rw [decide_eq_true c2]
          walk_at "S"
          exact hN _ _ ⟨none, nofun, rfl, D5, w4.trans w5⟩
        · rw [decide_eq_false c2]
          walk_at "S"
          refine ⟨d, g, c, rfl, D5, .inl ⟨Str, rS, inferInstance, fk, Mo.mo w5 hf4, c1, f9, fun v s H6 hs rv D6 w6 => ?_⟩⟩
          obtain ⟨rfl, okv⟩ := rv
          exact hN _ _ ⟨some s, fun s' e => (Option.some.inj e) ▸ ⟨hs, okv⟩, rfl, D6, (w4.trans w5).trans w6⟩
  · rintro σ H' ⟨o4, o7, l, rfl, ll, okl, wl, k3, kn3, D3, w3⟩
    walk_at "S"
    exact q fd H' l k3 ll okl wl wf D3 w3
end
end Nb

/-! part D26 -/
set_option Elab.async false
set_option linter.all false
set_option maxRecDepth 100000
set_option maxHeartbeats 4000000
namespace Nb
open PySem PySem.Spec PyProof.Rows L2
local macro_rules | `(tactic| walk_at "S") => `(tactic| (try simp only [tSeq, tNext, tRet, tIfS, tDrop, tAsg, gName, tFor_eq, tWhile_eq, tLc_eq, tLc2_eq, tDc_eq, sFld_eq, sDPut_eq, tPar, tPar3, tC, tVar, tCB, tOp, tTup, tLst, tChain, tDGet_eq, tDGet2, tAndV, tOrV, tNotV, tIf, tLstRg, tRg1, tDisp, tPairs, tUn, rU, tTest, tNot, tB, tAnd, tOr, tYes, tSl, tPart, tNoPart, tRevL, tM1, tDNewK, tDNewT, gCons_c, gNil_n, gSub, gTup_eq, iRng1_eq, iList_eq, iTup_eq, iSeq_eq, iStr, iKeys_eq, iVals_eq, iEnum_eq, cx_K, tCons, tNil, tBM, tCall, tMake, tProp_eq, tMeth_eq, tFld_eq, tStar_eq, iZipM_eq, tDisp1, L2.start, List.map_cons, List.map_nil, List.length_cons, List.length_nil, List.cons_append, List.nil_append, List.append_nil, List.getElem?_cons_zero, List.getElem?_cons_succ, List.set_cons_zero, List.set_cons_succ, Option.some.injEq, exists_eq_left', exists_eq_left, V.bl.injEq, V.int.injEq, V.str.injEq, V.ref.injEq, if_true, if_false, Nat.reduceAdd, Nat.reduceSub, List.replicate_succ, List.replicate_zero, Bool.not_true, Bool.not_false, Bool.false_eq_true, if_neg, not_false_eq_true, wipe]))
local macro_rules | `(tactic| walk_at "G") => `(tactic| (walk_at "S"; repeat ((first | with_reducible refine o_add ?_ | with_reducible refine o_sub ?_ | with_reducible refine o_mul ?_ | with_reducible refine o_lt ?_ | with_reducible refine o_le ?_ | with_reducible refine o_gt ?_ | with_reducible refine o_ge ?_ | with_reducible refine o_eqI ?_ | with_reducible refine o_neI ?_ | with_reducible refine o_eqS ?_ | with_reducible refine o_neS ?_ | with_reducible refine o_isN ?_ | with_reducible refine o_notN ?_ | with_reducible refine i_int ?_ | with_reducible refine i_intB ?_ | with_reducible refine i_str ?_); walk_at "S")))
section
variable {P : Program} {w : World} {K : PySem.W.Frag} {mg : Str → Option Value} {base : Heap}
/-- the deed fits what stands -/
def DkOk (m : Mdl) (fk : List Str) (s : Here) : Dk → Prop
  | .add o n => n ∈ m.2.map Prod.fst ∧ ∀ t, o = some t → t ∈ fk
  | .strike p => 0 < s.2.1 ∧ p ∈ folk s.1
  | .give p => p ∈ folk s.1 ∧ p ∉ matL (mach m) s.1 s.2.1
  | .forget => True
def sp__law_deed : Sp := fun vs H Q _ => match vs with
  | [x, y, z, u] => ∃ (d g c : Addr) (m : Mdl) (fk : List Str) (s : Here), x = .ref d ∧ rMo (wo3 d g c H) y m ∧ rL rS (wo3 d g c H) z fk ∧ fk.length < 1000 ∧ rH (wo3 d g c H) u s ∧ okRows m.2 s.1 ∧ s.1.length < 64 ∧ s.2.1 ≤ 6 ∧ (folk s.1).length ≤ 6 ∧ Dr d g c H ∧ ∀ v H' dk, DkOk m fk s dk → rDe (wo3 d g c H') v dk.enc → Dr d g c H' → Same (wo3 d g c H) (wo3 d g c H') → Q v H'
  | _ => False
theorem sc__law_deed : FnScope ["_law_draw", "_law_model_here", "_law_folk_here", "_law_here", "_law_idle", "_law_there", "_law_way", "_law_who"] ["_law_draw", "_law_model_here", "_law_folk_here", "_law_here"] (defScope s__law_deed) := ⟨rfl, rfl, rfl, by decide +kernel, rfl, by decide +kernel, by decide +kernel⟩
theorem sp__law_deed_len : ∀ (vs : List V) (H : Hp) (Q : VK) (E : XK), sp__law_deed vs H Q E → vs.length = 4
  | [_, _, _, _], _, _, _, _ => rfl
  | [], _, _, _, h => h.elim
  | [_], _, _, _, h => h.elim
  | [_, _], _, _, _, h => h.elim
  | [_, _, _], _, _, _, h => h.elim
  | _ :: _ :: _ :: _ :: _ :: _, _, _, _, h => h.elim
theorem cal__law_deed (T : Tx P w K mg) : Cl P w K mg base 5 "_law_deed" sp__law_deed [] := by
  refine cl_of (st := s__law_deed) (qual := "_law_deed") (kws := []) (T.c.def_ 100 (d := d__law_deed) rfl) sc__law_deed sp__law_deed_len (T.glo 90 rfl) (fun _ _ _ _ _ _ us hl => match us, hl with | [_, _, _, _], _ => rfl) (fun cdv A outer s H vs Q E hr h => ⟨_, (pss_cons (ps_par (i := 5) (j := 6) rfl sc__law_deed.nd rfl rfl (by decide) rfl rfl (pa_cons (pe_cl (cal__law_folk T) hr (by decide) rfl (pa_cons (pe_dget (hu_of hr) (pv 3) pe_str (fun _ _ => rfl)) pa_nil)) (pa_cons (pe_cl (cal__law_take T) hr (by decide) rfl (pa_cons (pv 0) (pa_cons pe_int pa_nil))) pa_nil)) (by rfl))
  (pss_cons (ps_setLc (i := 4) (own := [("_law_who", 7)]) rfl sc__law_deed.nd rfl rfl (sw_true rfl rfl rfl (by decide +kernel)) (pi_ls T (pv 5)) (blkOk_by (own := [("_law_who", 7)]) (N := ["_law_draw", "_law_model_here", "_law_folk_here", "_law_here", "_law_idle", "_law_there", "_law_way", "_law_who"]) (sc := defScope s__law_deed) (by decide +kernel)) (fun _ _ _ _ _ => (pg_name (i := 7) sc__law_deed.nd rfl (Or.inl rfl))) (fun _ _ _ _ _ => pts_one (pt_cmpR (op_any T hr) (pv 7) (pe_cl (cal__law_matter T) hr (by decide) rfl (pa_cons (pv 1) (pa_cons (pe_dget (hu_of hr) (pv 3) pe_str (fun _ _ => rfl)) (pa_cons (pe_dget (hu_of hr) (pv 3) pe_str (fun _ _ => rfl)) pa_nil)))) (by rfl))) (fun _ _ _ _ _ => (pv 7)))
  (pss_cons (ps_if (PW.pt (pw_and (pt_cmpR (op_any T hr) (pv 6) pe_int (nomark _)) (pw_and (pt_cmpR (op_any T hr) (pe_dget (hu_of hr) (pv 3) pe_str (fun _ _ => rfl)) pe_int (nomark _)) (pw_and1 (pt_cmpR (op_any T hr) (pv 5) (pe_lst pa_nil) (nomark _)))))) (pss_one (ps_ret (pe_tup (pa_cons pe_str (pa_cons (pe_cl (cal__law_pick T) hr (by decide) rfl (pa_cons (pv 0) (pa_cons (pv 5) pa_nil))) pa_nil))))) pss_nil)
  (pss_cons (ps_if (PW.pt (pw_and (pt_cmpR (op_any T hr) (pv 6) pe_int (nomark _)) (pw_and1 (pt_cmpR (op_any T hr) (pe_callB (cl_any (f := .builtin "len") T hr) rfl (T.free 109 rfl) (by decide +kernel) (pa_cons (pv 5) pa_nil)) pe_int (nomark _))))) (pss_one (ps_ret (pe_tup (pa_cons pe_str pa_nil)))) pss_nil)
  (pss_cons (ps_if (PW.pt (pw_and (pt_cmpR (op_any T hr) (pv 6) pe_int (nomark _)) (pw_and1 (pt_cmpR (op_any T hr) (pv 4) (pe_lst pa_nil) (nomark _))))) (pss_one (ps_ret (pe_tup (pa_cons pe_str (pa_cons (pe_cl (cal__law_pick T) hr (by decide) rfl (pa_cons (pv 0) (pa_cons (pv 4) pa_nil))) pa_nil))))) pss_nil)
  (pss_one (ps_ret (pe_op (op_any T hr) (pe_tup (pa_cons pe_str pa_nil)) (pe_ix (ix_any T hr) (pe_cl (cal__law_log T) hr (by decide) rfl (pa_cons (pv 0) (pa_cons (pv 1) (pa_cons (pv 2) (pa_cons pe_int pa_nil))))) pe_int (fun _ _ => rfl)))))))))), ?_⟩)
  obtain ⟨a0, a1, a2, a3, rfl⟩ := len4 (sp__law_deed_len _ _ _ _ h)
  obtain ⟨d, g, c, m, fk, s, rfl, hM, hf, f9, hH, ok, h64, f6, n6, D0, q⟩ := h
  have h0 : 5000 ≤ lim := by decide
  have hsz : 5000 ≤ sizeLine := by decide
  let S0 : Int → L2.St → Hp → Prop := fun way σ' H' => ∃ th iv, σ' = [some (.ref d), some a1, some a2, some a3, some iv, some th, some (.int way), none] ∧ rL rS (wo3 d g c H') th (folk s.1) ∧ rL rS (wo3 d g c H') iv ((folk s.1).filter fun p => !decide (p ∈ matL (mach m) s.1 s.2.1)) ∧ Dr d g c H' ∧ Same (wo3 d g c H) (wo3 d g c H')
  refine seq_cut2 (fun σ' H' => ∃ th way, σ' = [some (.ref d), some a1, some a2, some a3, none, some th, some (.int way), none] ∧ rL rS (wo3 d g c H') th (folk s.1) ∧ Dr d g c H' ∧ Same (wo3 d g c H) (wo3 d g c H')) ?_ fun N hN => ?_
  · rintro σ1 H1 ⟨th, way, rfl, k1, D1, w1⟩
    refine seq_cut2 (S0 way) ?_ fun N hN => ?_
    · clear k1 D1 w1
      rintro σ1 H1 ⟨th, iv, rfl, k1, j1, D1, w1⟩
      refine seq_cut2 (S0 way) ?_ fun N hN => ?_
      · clear k1 D1 w1 j1
        rintro σ1 H1 ⟨th, iv, rfl, k1, j1, D1, w1⟩
        refine seq_cut2 (S0 way) ?_ fun N hN => ?_
        · clear k1 D1 w1 j1
          rintro σ1 H1 ⟨th, iv, rfl, k1, j1, D1, w1⟩
          refine seq_cut2 (S0 way) ?_ fun N hN => ?_
          · clear k1 D1 w1 j1
            rintro σ1 H1 ⟨th, iv, rfl, k1, j1, D1, w1⟩
            walk_at "S"
            refine ⟨by decide, fun p hp => ?_⟩
            have s2 : Same H1 (upd H1 p (.tup [V.str (Str.ofString "add")])) := same_new (same_refl _) hp
            have e2 : upd H1 p (.tup [V.str (Str.ofString "add")]) p = some (.tup [V.str (Str.ofString "add")]) := upd_same
            generalize upd H1 p (.tup [V.str (Str.ofString "add")]) = H2 at s2 e2
            have D2 := D1.mo s2
            have w2 : Same (wo3 d g c H) (wo3 d g c H2) := w1.trans (wo3_mono s2)
            refine ⟨d, g, c, m, fk, 1, rfl, Mo.mo w2 hM, Mo.mo w2 hf, f9, rfl, by omega, D2, fun lp H3 rows k3 l3 ok3 wk3 hlp D3 w3 => ?_⟩
            match rows, l3 with
            | [(o, nm)], _ =>
              refine x_RL (n := 0) (b := (o, nm)) (Mo.mo wo3_same k3) rfl rfl fun y ry => ?_
              obtain ⟨b, v1, v2, rfl, e3, r1, r2⟩ := ry
              have e23 : H3 p = some (.tup [V.str (Str.ofString "add")]) := by
                have np := D1.new hp
                have z := w3 p _ (by rw [wo3_at np]; exact e2)
                exact wo3_same _ _ z
              refine o_catT e23 e3 (by show 1 + 2 ≤ sizeLine; omega) (fun z => by cases z) (fun _ z => by cases z) fun p2 hp2 => ?_
              have s4 : Same H3 (upd H3 p2 (.tup ([V.str (Str.ofString "add")] ++ [v1, v2]))) := same_new (same_refl _) hp2
              have D4 := D3.mo s4
              have k4 : rDe (upd H3 p2 (.tup ([V.str (Str.ofString "add")] ++ [v1, v2]))) (.ref p2) (Dk.enc (.add o nm)) := mk_T hp2 ⟨⟨rfl, fun s e => by cases e; decide +kernel⟩, r1, ⟨r2.1, fun s e => by cases e; exact r2.2⟩, trivial⟩ (by show 3 ≤ lim; omega)
              exact q _ _ (.add o nm) ⟨ok3 (o, nm) List.mem_cons_self, fun t e => wk3 (o, nm) List.mem_cons_self t e⟩ (Tt.tm D4.t k4) D4 ((w2.trans w3).trans (wo3_mono s4))
          · walk_at "G"
            by_cases c1 : way < 4
            · rw [decide_eq_true c1]
              walk_at "S"
              refine ⟨by decide, fun p hp => ?_⟩
              have s2 : Same H1 (upd H1 p (.lst [])) := same_new (same_refl _) hp
              have k2 : rL rS (upd H1 p (.lst [])) (.ref p) [] := mk_L hp trivial (by decide)
              generalize upd H1 p (.lst []) = H2 at s2 k2
              have D2 := D1.mo s2
              have w2 := wo3_mono (d := d) (g := g) (c := c) s2
              have j2 := Mo.mo w2 j1
              refine o_neR (r := rL rS) (Mo.mo wo3_same j2) k2 ?_
              walk_at "S"
              by_cases c2 : (folk s.1).filter (fun p => !decide (p ∈ matL (mach m) s.1 s.2.1)) = []
              · rw [decide_eq_true c2]
                walk_at "S"
                exact hN _ _ ⟨th, iv, rfl, Mo.mo w2 k1, j2, D2, w1.trans w2⟩
              · rw [decide_eq_false c2]
                walk_at "S"
                refine ⟨d, g, c, rfl, D2, .inl ⟨Str, rS, inferInstance, _, j2, c2, ?_, fun v t H3 ht rv D3 w3 => ?_⟩⟩
                · have := List.length_filter_le (fun p => !decide (p ∈ matL (mach m) s.1 s.2.1)) (folk s.1)
                  omega
                refine ⟨by decide, fun p hp => ?_⟩
                have s4 : Same H3 (upd H3 p (.tup [V.str (Str.ofString "give"), v])) := same_new (same_refl _) hp
                have D4 := D3.mo s4
                have k4 : rDe (upd H3 p (.tup [V.str (Str.ofString "give"), v])) (.ref p) (Dk.enc (.give t)) := mk_T hp ⟨⟨rfl, fun s e => by cases e; decide +kernel⟩, ⟨rv.1, fun s e => by cases e; exact rv.2⟩, trivial⟩ (by show 2 ≤ lim; omega)
                obtain ⟨m1, m2⟩ := List.mem_filter.mp ht
                exact q _ _ (.give t) ⟨m1, by simpa using m2⟩ (Tt.tm D4.t k4) D4 (((w1.trans w2).trans w3).trans (wo3_mono s4))
            · rw [decide_eq_false c1]
              walk_at "S"
              exact hN _ _ ⟨th, iv, rfl, k1, j1, D1, w1⟩
        · walk_at "G"
          by_cases c1 : way = 1
          · rw [decide_eq_true c1]
            walk_at "S"
            refine c_lenRL (Mo.mo wo3_same k1) ?_
            walk_at "G"
            by_cases c2 : ((folk s.1).length : Int) < 4
            · rw [decide_eq_true c2]
              walk_at "S"
              refine ⟨by decide, fun p hp => ?_⟩
              have s4 : Same H1 (upd H1 p (.tup [V.str (Str.ofString "forget")])) := same_new (same_refl _) hp
              have D4 := D1.mo s4
              have k4 : rDe (upd H1 p (.tup [V.str (Str.ofString "forget")])) (.ref p) (Dk.enc .forget) := mk_T hp ⟨⟨rfl, fun s e => by cases e; decide +kernel⟩, trivial⟩ (by show 1 ≤ lim; omega)
              exact q _ _ .forget trivial (Tt.tm D4.t k4) D4 (w1.trans (wo3_mono s4))
            · rw [decide_eq_false c2]
              walk_at "S"
              exact hN _ _ ⟨th, iv, rfl, k1, j1, D1, w1⟩
          · rw [decide_eq_false c1]
            walk_at "S"
            exact hN _ _ ⟨th, iv, rfl, k1, j1, D1, w1⟩
      · walk_at "G"
        by_cases c1 : way = 0
        · rw [decide_eq_true c1]
          walk_at "S"
          refine gH_few (Mo.mo wo3_same (Mo.mo w1 hH)) ?_
          walk_at "G"
          by_cases c2 : 0 < s.2.1
          · rw [decide_eq_true c2]
            walk_at "S"
            refine ⟨by decide, fun p hp => ?_⟩
            have s2 : Same H1 (upd H1 p (.lst [])) := same_new (same_refl _) hp
            have k2 : rL rS (upd H1 p (.lst [])) (.ref p) [] := mk_L hp trivial (by decide)
            generalize upd H1 p (.lst []) = H2 at s2 k2
            have D2 := D1.mo s2
            have w2 := wo3_mono (d := d) (g := g) (c := c) s2
            have j2 := Mo.mo w2 k1
            refine o_neR (r := rL rS) (Mo.mo wo3_same j2) k2 ?_
            walk_at "S"
            by_cases c3 : folk s.1 = []
            · rw [decide_eq_true c3]
              walk_at "S"
              exact hN _ _ ⟨th, iv, rfl, j2, Mo.mo w2 j1, D2, w1.trans w2⟩
            · rw [decide_eq_false c3]
              walk_at "S"
              refine ⟨d, g, c, rfl, D2, .inl ⟨Str, rS, inferInstance, _, j2, c3, by omega, fun v t H3 ht rv D3 w3 => ?_⟩⟩
              refine ⟨by decide, fun p hp => ?_⟩
              have s4 : Same H3 (upd H3 p (.tup [V.str (Str.ofString "strike"), v])) := same_new (same_refl _) hp
              have D4 := D3.mo s4
              have k4 : rDe (upd H3 p (.tup [V.str (Str.ofString "strike"), v])) (.ref p) (Dk.enc (.strike t)) := mk_T hp ⟨⟨rfl, fun s e => by cases e; decide +kernel⟩, ⟨rv.1, fun s e => by cases e; exact rv.2⟩, trivial⟩ (by show 2 ≤ lim; omega)
              exact q _ _ (.strike t) ⟨c2, ht⟩ (Tt.tm D4.t k4) D4 (((w1.trans w2).trans w3).trans (wo3_mono s4))
          · rw [decide_eq_false c2]
            walk_at "S"
            exact hN _ _ ⟨th, iv, rfl, k1, j1, D1, w1⟩
        · rw [decide_eq_false c1]
          walk_at "S"
          exact hN _ _ ⟨th, iv, rfl, k1, j1, D1, w1⟩
    · walk_at "S"
      refine ls_L (Mo.mo wo3_same k1) fun cc ec hc => ?_
      refine lc_L (r := rS) (r' := rS) (fun p => if (!decide (p ∈ matL (mach m) s.1 s.2.1)) = true then some p else none) hc (fun x p H2 hb s2 rx Yk N k1 k2 => ?_) fun iv H2 s2 hiv k2 => ?_
      · obtain ⟨rfl, okx⟩ := id rx
        have w2 : Same (wo3 d g c H) (wo3 d g c H2) := w1.trans (wo3_mono s2)
        have hM2 : rMo H2 a1 m := Mo.mo wo3_same (Mo.mo w2 hM)
        have hH2 : rH H2 a3 s := Mo.mo wo3_same (Mo.mo w2 hH)
        walk_at "S"
        refine ⟨trivial, gH_rows hH2 fun y ry => gH_few hH2 ?_⟩
        refine ⟨m, s.1, s.2.1, hM2, ry, rfl, ok, h64, f6, n6, fun tp H3 s3 k3 => ?_⟩
        refine o_notinT (o := some p) k3 ?_
        have e0 : decide (some p ∈ (matL (mach m) s.1 s.2.1).map some) = decide (p ∈ matL (mach m) s.1 s.2.1) := by
          apply decide_eq_decide.mpr
          simp
        rw [e0]
        by_cases hz : p ∈ matL (mach m) s.1 s.2.1
        · rw [decide_eq_true hz]
          walk_at "S"
          exact k2 (by rw [decide_eq_true hz]; rfl) _ s3
        · rw [decide_eq_false hz]
          walk_at "S"
          exact k1 _ (by rw [decide_eq_false hz]; rfl) _ _ s3 rx
      · rw [fm_if, List.map_id'] at k2
        have D2 := D1.mo s2
        have w2 := wo3_mono (d := d) (g := g) (c := c) s2
        refine hN _ _ ⟨th, .ref iv, rfl, Mo.mo w2 k1, D2.L (D1.new hiv) k2, D2, w1.trans w2⟩
  · walk_at "S"
    refine gH_rows (Mo.mo wo3_same hH) fun y ry => ?_
    refine ⟨s.1, ry, h64, fun th H1 s1 hth k1 => ?_⟩
    have D1 := D0.mo s1
    have w1 : Same (wo3 d g c H) (wo3 d g c H1) := wo3_mono s1
    have k1' := D1.L (D0.new hth) k1
    refine ⟨d, g, c, 10, rfl, rfl, by decide, by decide, D1, fun z H2 z0 z1 D2 w2 => ?_⟩
    exact ⟨_, _, rfl, hN _ _ ⟨_, z, rfl, Mo.mo w2 k1', D2, w1.trans w2⟩⟩
end
end Nb

/-! part D27 -/
set_option Elab.async false
set_option linter.all false
set_option maxRecDepth 100000
set_option maxHeartbeats 4000000
namespace Nb
open PySem PySem.Spec PyProof.Rows L2
local macro_rules | `(tactic| walk_at "S") => `(tactic| (try simp only [tSeq, tNext, tRet, tIfS, tDrop, tAsg, gName, tFor_eq, tWhile_eq, tLc_eq, tLc2_eq, tDc_eq, sFld_eq, sDPut_eq, tPar, tPar3, tC, tVar, tCB, tOp, tTup, tLst, tChain, tDGet_eq, tDGet2, tAndV, tOrV, tNotV, tIf, tLstRg, tRg1, tDisp, tPairs, tUn, rU, tTest, tNot, tB, tAnd, tOr, tYes, tSl, tPart, tNoPart, tRevL, tM1, tDNewK, tDNewT, gCons_c, gNil_n, gSub, gTup_eq, iRng1_eq, iList_eq, iTup_eq, iSeq_eq, iStr, iKeys_eq, iVals_eq, iEnum_eq, cx_K, tCons, tNil, tBM, tCall, tMake, tProp_eq, tMeth_eq, tFld_eq, tStar_eq, iZipM_eq, tDisp1, L2.start, List.map_cons, List.map_nil, List.length_cons, List.length_nil, List.cons_append, List.nil_append, List.append_nil, List.getElem?_cons_zero, List.getElem?_cons_succ, List.set_cons_zero, List.set_cons_succ, Option.some.injEq, exists_eq_left', exists_eq_left, V.bl.injEq, V.int.injEq, V.str.injEq, V.ref.injEq, if_true, if_false, Nat.reduceAdd, Nat.reduceSub, List.replicate_succ, List.replicate_zero, Bool.not_true, Bool.not_false, Bool.false_eq_true, if_neg, not_false_eq_true, wipe]))
local macro_rules | `(tactic| walk_at "G") => `(tactic| (walk_at "S"; repeat ((first | with_reducible refine o_add ?_ | with_reducible refine o_sub ?_ | with_reducible refine o_mul ?_ | with_reducible refine o_lt ?_ | with_reducible refine o_le ?_ | with_reducible refine o_gt ?_ | with_reducible refine o_ge ?_ | with_reducible refine o_eqI ?_ | with_reducible refine o_neI ?_ | with_reducible refine o_eqS ?_ | with_reducible refine o_neS ?_ | with_reducible refine o_isN ?_ | with_reducible refine o_notN ?_ | with_reducible refine i_int ?_ | with_reducible refine i_intB ?_ | with_reducible refine i_str ?_); walk_at "S")))
section
variable {P : Program} {w : World} {K : PySem.W.Frag} {mg : Str → Option Value} {base : Heap}
/-! ### plain laws of the deeds -/
section
variable {M : Mach} {rows one other : List Entry} {few : Int} {p : Str} {lot : List Str}
theorem inner_keep {x : Str} : ∀ (l : List (List Str)) {acc : List Str}, x ∈ acc → x ∈ l.foldl (fun acc lot => if p ∉ acc ∧ shows M rows lot p = true then acc ++ [p] else acc) acc
  | [], _, h => h
  | a :: l, acc, h => by
    rw [List.foldl_cons]
    refine inner_keep l ?_
    split
    · exact List.mem_append_left _ h
    · exact h
theorem inner_has : ∀ (l : List (List Str)) {acc : List Str}, lot ∈ l → shows M rows lot p = true → p ∈ l.foldl (fun acc lot => if p ∉ acc ∧ shows M rows lot p = true then acc ++ [p] else acc) acc
  | a :: l, acc, h, hs => by
    rw [List.foldl_cons]
    rcases List.mem_cons.mp h with rfl | h
    · refine inner_keep l ?_
      by_cases c : p ∈ acc
      · rw [if_neg (fun z => z.1 c)]; exact c
      · rw [if_pos ⟨c, hs⟩]; exact List.mem_append_right _ (List.mem_singleton.mpr rfl)
    · exact inner_has l h hs
theorem outer_keep {x : Str} : ∀ (l : List Str) {acc : List Str}, x ∈ acc → x ∈ l.foldl (fun acc p => ((lots (folk rows) few).filter fun lot => decide (some p ∈ lot.map some)).foldl (fun acc lot => if p ∉ acc ∧ shows M rows lot p = true then acc ++ [p] else acc) acc) acc
  | [], _, h => h
  | a :: l, acc, h => by
    rw [List.foldl_cons]
    exact outer_keep l (inner_keep _ h)
theorem outer_has (h1 : lot ∈ lots (folk rows) few) (h2 : p ∈ lot) (hs : shows M rows lot p = true) : ∀ (l : List Str) {acc : List Str}, p ∈ l → p ∈ l.foldl (fun acc p => ((lots (folk rows) few).filter fun lot => decide (some p ∈ lot.map some)).foldl (fun acc lot => if p ∉ acc ∧ shows M rows lot p = true then acc ++ [p] else acc) acc) acc
  | a :: l, acc, h => by
    rw [List.foldl_cons]
    rcases List.mem_cons.mp h with rfl | h
    · refine outer_keep l (inner_has _ (List.mem_filter.mpr ⟨h1, ?_⟩) hs)
      simpa using h2
    · exact outer_has h1 h2 hs l h
/-- who does not matter by the law does not matter -/
theorem matL_no (hp : p ∈ folk rows) (hn : p ∉ matL M rows few) : (∀ lot ∈ lots (folk rows) few, p ∈ lot → shows M rows lot p = false) ∧ p ∉ matters M rows few := by
  have key : ∀ lot ∈ lots (folk rows) few, p ∈ lot → shows M rows lot p = false := fun lot h1 h2 => by
    cases hs : shows M rows lot p
    · rfl
    · exact absurd (outer_has h1 h2 hs (folk rows) hp) hn
  refine ⟨key, fun z => ?_⟩
  obtain ⟨_, z⟩ := List.mem_filter.mp z
  have : reason M rows few p = none := by
    unfold reason
    rw [List.find?_eq_none]
    intro lot hl
    rw [Bool.and_eq_true]
    rintro ⟨a, b⟩
    rw [key lot hl (of_decide_eq_true a)] at b
    cases b
  rw [this] at z
  simp at z
theorem both_sub (h : ∀ a ∈ folk one, a ∈ folk other) : lots (both one other) few = lots (folk other) few := by
  unfold lots
  have : srt (both one other) = srt (folk other) := srt_congr (nd_perm (dd_nd _) (folk_nd _) fun x => by
    unfold both
    rw [dd_mem, List.mem_append]
    exact ⟨fun z => z.elim (h x) id, .inr⟩)
  rw [this]
theorem unlike_none (h : ∀ a ∈ folk one, a ∈ folk other) (k : ∀ lot ∈ lots (folk other) few, gi M.img (behind M.deeds one lot) = gi M.img (behind M.deeds other lot)) : unlike M one other few = none := by
  unfold unlike
  rw [both_sub h, List.find?_eq_none]
  intro lot hl
  rw [k lot hl]
  simp
theorem gave_folk : ∀ a ∈ folk (gave rows p), a ∈ folk rows := fun a ha => by
  obtain ⟨e, he, h1⟩ := folk_mem.mp ha
  obtain ⟨e0, h0, rfl⟩ := List.mem_map.mp he
  by_cases c : e0.1 = some p
  · rw [if_pos c] at h1; cases h1
  · rw [if_neg c] at h1; exact folk_mem.mpr ⟨e0, h0, h1⟩
theorem gave_rest (lot : List Str) : ∀ rows : List Entry, (rest (gave rows p) lot).map Prod.snd = (rest rows (less lot p)).map Prod.snd
  | [] => rfl
  | e :: rows => by
    have ih := gave_rest lot rows
    unfold rest gave at ih ⊢
    rw [List.map_cons, List.filter_cons, List.filter_cons]
    by_cases c : e.1 = some p
    · rw [if_pos c]
      have h1 : ¬ ((none, e.2) : Entry).1 ∈ lot.map some := by simp
      have h2 : ¬ e.1 ∈ (less lot p).map some := by
        rw [c]
        intro z
        obtain ⟨x, hx, e1⟩ := List.mem_map.mp z
        cases e1
        have := (List.mem_filter.mp hx).2
        simp at this
      rw [decide_eq_false h1, decide_eq_false h2]
      simp only [Bool.not_false, if_true, List.map_cons, ih]
    · rw [if_neg c]
      have h3 : e.1 ∈ lot.map some ↔ e.1 ∈ (less lot p).map some := by
        constructor
        · intro z
          obtain ⟨x, hx, e1⟩ := List.mem_map.mp z
          refine List.mem_map.mpr ⟨x, List.mem_filter.mpr ⟨hx, ?_⟩, e1⟩
          have : x ≠ p := fun q => c (by rw [← e1, q])
          simpa using this
        · intro z
          obtain ⟨x, hx, e1⟩ := List.mem_map.mp z
          exact List.mem_map.mpr ⟨x, (List.mem_filter.mp hx).1, e1⟩
      by_cases c2 : e.1 ∈ lot.map some
      · rw [decide_eq_true c2, decide_eq_true (h3.mp c2)]
        simpa using ih
      · rw [decide_eq_false c2, decide_eq_false (fun z => c2 (h3.mpr z))]
        simp only [Bool.not_false, if_true, List.map_cons, ih]
theorem gave_behind {m : List (Str × List Int)} (lot : List Str) : behind m (gave rows p) lot = behind m rows (less lot p) := by
  unfold behind
  rw [gave_rest]
theorem gave_alike (h : ∀ lot ∈ lots (folk rows) few, p ∈ lot → shows M rows lot p = false) : unlike M (gave rows p) rows few = none := by
  refine unlike_none gave_folk fun lot hl => ?_
  rw [gave_behind]
  by_cases c : p ∈ lot
  · have z := h lot hl c
    unfold shows at z
    simp only [Bool.not_eq_false', decide_eq_true_eq] at z
    exact z.symm
  · have e : less lot p = lot := by
      refine List.filter_eq_self.mpr fun x hx => ?_
      have : x ≠ p := fun q => c (q ▸ hx)
      simpa using this
    rw [e]
/-- the shortest log stands as the log, is not longer, and names nobody else -/
theorem short_ok (OM : OkM M) (ok : okRows M.deeds rows) (hB : M.seen.length ^ (lots (folk rows) few).length ≤ 4096) : okRows M.deeds (short M rows few 4096) ∧ (∀ a ∈ folk (short M rows few 4096), a ∈ folk rows) ∧ (short M rows few 4096).length ≤ rows.length ∧ unlike M (short M rows few 4096) rows few = none := by
  have hk := ended_all OM hB
  have LV := lv_P OM (ls := lots (folk rows) few) (ppl := folk rows) rows.length
  obtain ⟨p, hp, e⟩ := List.mem_map.mp (LV.all rows (rows_ents ok) (Nat.le_refl _))
  have e' : p.1 = standF M (lots (folk rows) few) rows := e
  have es := short_at OM hp e' hk
  rw [es]
  obtain ⟨w1, w2⟩ := LV.way p hp
  have okp : okRows M.deeds p.2 := fun x hx => (ents_ok (w2 x hx)).1
  have fp : ∀ a ∈ folk p.2, a ∈ folk rows := fun a ha => by
    obtain ⟨x, hx, h1⟩ := folk_mem.mp ha
    exact (ents_ok (w2 x hx)).2 a h1
  refine ⟨okp, fp, LV.lens p hp, unlike_none fp fun lot hl => ?_⟩
  have v1 := stand_vec (ls := lots (folk rows) few) OM p.2 okp
  have v2 := stand_vec (ls := lots (folk rows) few) OM rows ok
  have v3 : standF M (lots (folk rows) few) p.2 = standF M (lots (folk rows) few) rows := w1.trans e'
  rw [v1, v2] at v3
  unfold vecF at v3
  exact List.map_inj_left.mp v3 lot hl
theorem least_mem : ∀ (l : List (List Str)) {acc : List (List Str)}, lot ∈ l.foldl (fun acc lot => if (acc.map fun less => within less lot).any id then acc else acc ++ [lot]) acc → lot ∈ acc ∨ lot ∈ l
  | [], _, h => .inl h
  | a :: l, acc, h => by
    rw [List.foldl_cons] at h
    rcases least_mem l h with h | h
    · split at h
      · exact .inl h
      · rcases List.mem_append.mp h with h | h
        · exact .inl h
        · exact .inr (List.mem_singleton.mp h ▸ List.mem_cons_self)
    · exact .inr (List.mem_cons_of_mem _ h)
theorem causes_mem (h : lot ∈ causesF M rows) : lot.Nodup ∧ (∀ a ∈ lot, a ∈ folk rows) ∧ gi M.seen (behind M.deeds rows lot) ≠ gi M.seen (behind M.deeds rows []) := by
  rcases least_mem _ h with h | h
  · cases h
  · obtain ⟨h1, h2⟩ := List.mem_filter.mp h
    obtain ⟨a, b, _⟩ := lots_of (by omega) (folk_nd rows) h1
    exact ⟨a, b, by simpa using h2⟩
end
end
end Nb

/-! part D28 -/
set_option Elab.async false
set_option linter.all false
set_option maxRecDepth 100000
set_option maxHeartbeats 4000000
namespace Nb
open PySem PySem.Spec PyProof.Rows L2
local macro_rules | `(tactic| walk_at "S") => `(tactic| (try simp only [tSeq, tNext, tRet, tIfS, tDrop, tAsg, gName, tFor_eq, tWhile_eq, tLc_eq, tLc2_eq, tDc_eq, sFld_eq, sDPut_eq, tPar, tPar3, tC, tVar, tCB, tOp, tTup, tLst, tChain, tDGet_eq, tDGet2, tAndV, tOrV, tNotV, tIf, tLstRg, tRg1, tDisp, tPairs, tUn, rU, tTest, tNot, tB, tAnd, tOr, tYes, tSl, tPart, tNoPart, tRevL, tM1, tDNewK, tDNewT, gCons_c, gNil_n, gSub, gTup_eq, iRng1_eq, iList_eq, iTup_eq, iSeq_eq, iStr, iKeys_eq, iVals_eq, iEnum_eq, cx_K, tCons, tNil, tBM, tCall, tMake, tProp_eq, tMeth_eq, tFld_eq, tStar_eq, iZipM_eq, tDisp1, L2.start, List.map_cons, List.map_nil, List.length_cons, List.length_nil, List.cons_append, List.nil_append, List.append_nil, List.getElem?_cons_zero, List.getElem?_cons_succ, List.set_cons_zero, List.set_cons_succ, Option.some.injEq, exists_eq_left', exists_eq_left, V.bl.injEq, V.int.injEq, V.str.injEq, V.ref.injEq, if_true, if_false, Nat.reduceAdd, Nat.reduceSub, List.replicate_succ, List.replicate_zero, Bool.not_true, Bool.not_false, Bool.false_eq_true, if_neg, not_false_eq_true, wipe]))
local macro_rules | `(tactic| walk_at "G") => `(tactic| (walk_at "S"; repeat ((first | with_reducible refine o_add ?_ | with_reducible refine o_sub ?_ | with_reducible refine o_mul ?_ | with_reducible refine o_lt ?_ | with_reducible refine o_le ?_ | with_reducible refine o_gt ?_ | with_reducible refine o_ge ?_ | with_reducible refine o_eqI ?_ | with_reducible refine o_neI ?_ | with_reducible refine o_eqS ?_ | with_reducible refine o_neS ?_ | with_reducible refine o_isN ?_ | with_reducible refine o_notN ?_ | with_reducible refine i_int ?_ | with_reducible refine i_intB ?_ | with_reducible refine i_str ?_); walk_at "S")))
section
variable {P : Program} {w : World} {K : PySem.W.Frag} {mg : Str → Option Value} {base : Heap}
structure Ev (m : Mdl) (fk : List Str) (s : Stt) (n : Nat) : Prop where
  mo : OkMdl m
  ok : okRows m.2 s.1
  fo : ∀ a ∈ folk s.1, a ∈ fk
  fk2 : fk.length ≤ 2
  len : s.1.length ≤ n
  n10 : n ≤ 10
  f0 : 0 ≤ s.2
  f2 : s.2 ≤ 2
section
variable {m : Mdl} {fk : List Str} {s : Stt} {n : Nat}
theorem Ev.n2 (h : Ev m fk s n) : (folk s.1).length ≤ 2 := Nat.le_trans (nd_len (folk_nd _) h.fo) h.fk2
theorem Ev.pw (h : Ev m fk s n) (few : Int) : m.1.length ^ (lots (folk s.1) few).length ≤ 4096 := by
  have h1 : (lots (folk s.1) few).length ≤ 4 := Nat.le_trans (lots_len _ _) (Nat.pow_le_pow_right (by decide) h.n2)
  have h2 : m.1.length ^ (lots (folk s.1) few).length ≤ 3 ^ (lots (folk s.1) few).length := Nat.pow_le_pow_left h.mo.hi _
  have h3 : 3 ^ (lots (folk s.1) few).length ≤ 3 ^ 4 := Nat.pow_le_pow_right (by decide) h1
  have h4 : (3 : Nat) ^ 4 ≤ 4096 := by decide
  omega
theorem Ev.next {dk : Dk} {qs : List Deed} (h : Ev m fk s n) (hn : n < 10) (hd : DkOk m fk (s.1, s.2, qs) dk) : Ev m fk (ansR m s.1 s.2 dk) (n + 1) := by
  have hl := h.len
  have f0 := h.f0
  have f2 := h.f2
  cases dk with
  | add o nm =>
    refine ⟨h.mo, ?_, ?_, h.fk2, ?_, hn, f0, f2⟩
    · intro e he
      rcases List.mem_append.mp he with he | he
      · exact h.ok e he
      · rw [List.mem_singleton.mp he]; exact hd.1
    · intro a ha
      obtain ⟨e, he, h1⟩ := folk_mem.mp ha
      rcases List.mem_append.mp he with he | he
      · exact h.fo a (folk_mem.mpr ⟨e, he, h1⟩)
      · rw [List.mem_singleton.mp he] at h1; exact hd.2 a h1
    · show (s.1 ++ [(o, nm)]).length ≤ _
      rw [List.length_append]; simp; omega
  | strike p =>
    have fp : 0 < s.2 := hd.1
    refine ⟨h.mo, rest_ok h.ok, ?_, h.fk2, ?_, hn, ?_, ?_⟩
    · intro a ha
      obtain ⟨e, he, h1⟩ := folk_mem.mp ha
      exact h.fo a (folk_mem.mpr ⟨e, (List.mem_filter.mp he).1, h1⟩)
    · have := List.length_filter_le (fun e : Entry => !decide (e.1 ∈ [p].map some)) s.1
      show (rest s.1 [p]).length ≤ _
      unfold rest
      omega
    · show 0 ≤ s.2 - 1; omega
    · show s.2 - 1 ≤ 2; omega
  | give p =>
    refine ⟨h.mo, ?_, fun a ha => h.fo a (gave_folk a ha), h.fk2, ?_, hn, f0, f2⟩
    · intro e he
      obtain ⟨e0, h0, rfl⟩ := List.mem_map.mp he
      have := h.ok e0 h0
      split
      · exact this
      · exact this
    · show (gave s.1 p).length ≤ _
      unfold gave
      rw [List.length_map]; omega
  | forget =>
    have e : ansR m s.1 s.2 .forget = (short (mach m) s.1 s.2 4096, s.2) := by unfold ansR; rfl
    obtain ⟨a1, a2, a3, a4⟩ := short_ok (M := mach m) (mach_ok h.mo) h.ok (h.pw s.2)
    rw [e]
    clear e a4
    generalize short (mach m) s.1 s.2 4096 = sh at a1 a2 a3
    exact ⟨h.mo, a1, fun a ha => h.fo a (a2 a ha), h.fk2, by show sh.length ≤ _; omega, hn, f0, f2⟩
end
def sp__law_do (K : PySem.W.Frag) : Sp := fun vs H Q _ => match vs with
  | [x, y] => ∃ a L bg m fk n dk qs, x = .ref a ∧ LiveA K H a L bg ∧ L.M = mach m ∧ Ev m fk L.cur n ∧ n < 10 ∧ L.steps.length < 100 ∧ DkOk m fk (L.cur.1, L.cur.2, qs) dk ∧ rDe H y dk.enc ∧ ∀ H', SameBut a H H' → LiveA K H' a (stepL L dk.enc (ansR m L.cur.1 L.cur.2 dk)) bg → Q .non H'
  | _ => False
theorem sc__law_do : FnScope ["_law_live_here", "_law_deed_here"] ["_law_live_here", "_law_deed_here"] (defScope s__law_do) := ⟨rfl, rfl, rfl, by decide +kernel, rfl, by decide +kernel, by decide +kernel⟩
theorem sp__law_do_len : ∀ (vs : List V) (H : Hp) (Q : VK) (E : XK), (sp__law_do K) vs H Q E → vs.length = 2
  | [_, _], _, _, _, _ => rfl
  | [], _, _, _, h => h.elim
  | [_], _, _, _, h => h.elim
  | _ :: _ :: _ :: _, _, _, _, h => h.elim
theorem cal__law_do (T : Tx P w K mg) : Cl P w K mg base 10 "_law_do" (sp__law_do K) [] := by
  refine cl_of (st := s__law_do) (qual := "_law_do") (kws := []) (T.c.def_ 101 (d := d__law_do) rfl) sc__law_do sp__law_do_len (T.glo 91 rfl) (fun _ _ _ _ _ _ us hl => match us, hl with | [_, _], _ => rfl) (fun cdv A outer s H vs Q E hr h => ⟨_, (pss_cons (ps_if (pt_cmpR (op_any T hr) (pe_ix (ix_any T hr) (pv 1) pe_int (fun _ _ => rfl)) pe_str (nomark _)) (pss_one (ps_ret (pe_me (me_Live_add T) hr (by decide) (pv 0) (pa_cons (pe_ix (ix_any T hr) (pv 1) pe_int (fun _ _ => rfl)) (pa_cons (pe_ix (ix_any T hr) (pv 1) pe_int (fun _ _ => rfl)) pa_nil))))) pss_nil)
  (pss_cons (ps_if (pt_cmpR (op_any T hr) (pe_ix (ix_any T hr) (pv 1) pe_int (fun _ _ => rfl)) pe_str (nomark _)) (pss_one (ps_ret (pe_me0 (me_Live_forget T) hr (by decide) (pv 0)))) pss_nil)
  (pss_one (ps_ret (pe_ifExp (pt_cmpR (op_any T hr) (pe_ix (ix_any T hr) (pv 1) pe_int (fun _ _ => rfl)) pe_str (nomark _)) (pe_me (me_Live_strike T) hr (by decide) (pv 0) (pa_cons (pe_ix (ix_any T hr) (pv 1) pe_int (fun _ _ => rfl)) pa_nil)) (pe_me (me_Live_give T) hr (by decide) (pv 0) (pa_cons (pe_ix (ix_any T hr) (pv 1) pe_int (fun _ _ => rfl)) pa_nil))))))), ?_⟩)
  obtain ⟨a0, a1, rfl⟩ := len2 (sp__law_do_len _ _ _ _ h)
  obtain ⟨a, L, bg, m, fk, n, dk, qs, rfl, hL, eM, ev, hn, h100, hd, hy, q⟩ := h
  walk_at "S"
  have n2 := ev.n2
  have f0 := ev.f0
  have f2 := ev.f2
  have hl := ev.len
  have n10 := ev.n10
  have ok : okRows L.M.deeds L.cur.1 := by rw [eM]; exact ev.ok
  refine x_De (n := 0) (o := dk.enc.head?.join) hy (by cases dk <;> rfl) fun _ => ?_
  cases dk with
  | add o s =>
    refine o_eqS ?_
    rw [decide_eq_true rfl]
    walk_at "S"
    refine hL.me (nolook (by decide +kernel)) ?_
    refine x_RT (n := 1) (b := o) hy rfl rfl fun y1 r1 => ?_
    refine x_RT (n := 2) (b := some s) hy rfl rfl fun y2 r2 => ?_
    have ev' := ev.next hn hd
    refine ⟨a, L, bg, o, s, rfl, hL, r1, ⟨r2.1, r2.2 s rfl⟩, by rw [eM]; exact hd.1, ok, Nat.le_trans ev'.n2 (by decide), by omega, by omega, q⟩
  | strike p =>
    refine o_eqS ?_
    rw [decide_eq_false (by show ¬ ("strike" : Str) = "add"; decide +kernel)]
    walk_at "S"
    refine x_De (n := 0) (o := some "strike") hy rfl fun _ => ?_
    refine o_eqS ?_
    rw [decide_eq_false (by show ¬ ("strike" : Str) = "forget"; decide +kernel)]
    walk_at "S"
    refine x_De (n := 0) (o := some "strike") hy rfl fun _ => ?_
    refine o_eqS ?_
    rw [decide_eq_true rfl]
    walk_at "S"
    refine hL.me (nolook (by decide +kernel)) ?_
    refine x_RT (n := 1) (b := some p) hy rfl rfl fun y1 r1 => ?_
    have fp : 0 < L.cur.2 := hd.1
    exact ⟨a, L, bg, p, rfl, hL, ⟨r1.1, r1.2 p rfl⟩, hd.2, by omega, by omega, by omega, q⟩
  | give p =>
    refine o_eqS ?_
    rw [decide_eq_false (by show ¬ ("give" : Str) = "add"; decide +kernel)]
    walk_at "S"
    refine x_De (n := 0) (o := some "give") hy rfl fun _ => ?_
    refine o_eqS ?_
    rw [decide_eq_false (by show ¬ ("give" : Str) = "forget"; decide +kernel)]
    walk_at "S"
    refine x_De (n := 0) (o := some "give") hy rfl fun _ => ?_
    refine o_eqS ?_
    rw [decide_eq_false (by show ¬ ("give" : Str) = "strike"; decide +kernel)]
    walk_at "S"
    refine hL.me (nolook (by decide +kernel)) ?_
    refine x_RT (n := 1) (b := some p) hy rfl rfl fun y1 r1 => ?_
    exact ⟨a, L, bg, p, rfl, hL, ⟨r1.1, r1.2 p rfl⟩, hd.1, by rw [eM]; exact (matL_no hd.1 hd.2).2, ok, by omega, f0, by omega, by omega, q⟩
  | forget =>
    refine o_eqS ?_
    rw [decide_eq_false (by show ¬ ("forget" : Str) = "add"; decide +kernel)]
    walk_at "S"
    refine x_De (n := 0) (o := some "forget") hy rfl fun _ => ?_
    refine o_eqS ?_
    rw [decide_eq_true rfl]
    walk_at "S"
    refine hL.me (nolook (by decide +kernel)) ?_
    have hB : L.M.seen.length ^ (lots (folk L.cur.1) L.cur.2).length ≤ 4096 := by rw [eM]; exact ev.pw _
    have OM : OkM L.M := by rw [eM]; exact mach_ok ev.mo
    have e : ansR m L.cur.1 L.cur.2 .forget = (short (mach m) L.cur.1 L.cur.2 4096, L.cur.2) := by unfold ansR; rfl
    rw [e] at q
    refine ⟨a, L, bg, rfl, hL, ok, by omega, f0, by omega, hB, by omega, fun k hk H' b kk => q H' b ?_⟩
    rw [← eM, short_any OM ok (ended_all OM hB) hk]
    exact kk
end
end Nb

/-! part D29 -/
set_option Elab.async false
set_option linter.all false
set_option maxRecDepth 100000
set_option maxHeartbeats 4000000
namespace Nb
open PySem PySem.Spec PyProof.Rows L2
local macro_rules | `(tactic| walk_at "S") => `(tactic| (try simp only [tSeq, tNext, tRet, tIfS, tDrop, tAsg, gName, tFor_eq, tWhile_eq, tLc_eq, tLc2_eq, tDc_eq, sFld_eq, sDPut_eq, tPar, tPar3, tC, tVar, tCB, tOp, tTup, tLst, tChain, tDGet_eq, tDGet2, tAndV, tOrV, tNotV, tIf, tLstRg, tRg1, tDisp, tPairs, tUn, rU, tTest, tNot, tB, tAnd, tOr, tYes, tSl, tPart, tNoPart, tRevL, tM1, tDNewK, tDNewT, gCons_c, gNil_n, gSub, gTup_eq, iRng1_eq, iList_eq, iTup_eq, iSeq_eq, iStr, iKeys_eq, iVals_eq, iEnum_eq, cx_K, tCons, tNil, tBM, tCall, tMake, tProp_eq, tMeth_eq, tFld_eq, tStar_eq, iZipM_eq, tDisp1, L2.start, List.map_cons, List.map_nil, List.length_cons, List.length_nil, List.cons_append, List.nil_append, List.append_nil, List.getElem?_cons_zero, List.getElem?_cons_succ, List.set_cons_zero, List.set_cons_succ, Option.some.injEq, exists_eq_left', exists_eq_left, V.bl.injEq, V.int.injEq, V.str.injEq, V.ref.injEq, if_true, if_false, Nat.reduceAdd, Nat.reduceSub, List.replicate_succ, List.replicate_zero, Bool.not_true, Bool.not_false, Bool.false_eq_true, if_neg, not_false_eq_true, wipe]))
local macro_rules | `(tactic| walk_at "G") => `(tactic| (walk_at "S"; repeat ((first | with_reducible refine o_add ?_ | with_reducible refine o_sub ?_ | with_reducible refine o_mul ?_ | with_reducible refine o_lt ?_ | with_reducible refine o_le ?_ | with_reducible refine o_gt ?_ | with_reducible refine o_ge ?_ | with_reducible refine o_eqI ?_ | with_reducible refine o_neI ?_ | with_reducible refine o_eqS ?_ | with_reducible refine o_neS ?_ | with_reducible refine o_isN ?_ | with_reducible refine o_notN ?_ | with_reducible refine i_int ?_ | with_reducible refine i_intB ?_ | with_reducible refine i_str ?_); walk_at "S")))
section
variable {P : Program} {w : World} {K : PySem.W.Frag} {mg : Str → Option Value} {base : Heap}
def sp__law_deed_right (K : PySem.W.Frag) : Sp := fun vs H Q _ => match vs with
  | [x, y, z, u, v] => ∃ a L bg m fk n dk qs s, rM K H x (mach m) ∧ y = .ref a ∧ LiveA K H a L bg ∧ L.cur = ansR m s.1 s.2 dk ∧ rL rE H z s.1 ∧ u = .int s.2 ∧ Ev m fk s n ∧ n < 10 ∧ DkOk m fk (s.1, s.2, qs) dk ∧ rDe H v dk.enc ∧ PuV (.bl true) Q H
  | _ => False
theorem sc__law_deed_right : FnScope ["_law_made_here", "_law_live_here", "_law_ahead", "_law_few", "_law_deed_here", "_law_rows"] ["_law_made_here", "_law_live_here", "_law_ahead", "_law_few", "_law_deed_here"] (defScope s__law_deed_right) := ⟨rfl, rfl, rfl, by decide +kernel, rfl, by decide +kernel, by decide +kernel⟩
theorem sp__law_deed_right_len : ∀ (vs : List V) (H : Hp) (Q : VK) (E : XK), (sp__law_deed_right K) vs H Q E → vs.length = 5
  | [_, _, _, _, _], _, _, _, _ => rfl
  | [], _, _, _, h => h.elim
  | [_], _, _, _, h => h.elim
  | [_, _], _, _, _, h => h.elim
  | [_, _, _], _, _, _, h => h.elim
  | [_, _, _, _], _, _, _, h => h.elim
  | _ :: _ :: _ :: _ :: _ :: _ :: _, _, _, _, h => h.elim
theorem cal__law_deed_right (T : Tx P w K mg) : Cl P w K mg base 6 "_law_deed_right" (sp__law_deed_right K) [] := by
  refine cl_of (st := s__law_deed_right) (qual := "_law_deed_right") (kws := []) (T.c.def_ 104 (d := d__law_deed_right) rfl) sc__law_deed_right sp__law_deed_right_len (T.glo 94 rfl) (fun _ _ _ _ _ _ us hl => match us, hl with | [_, _, _, _, _], _ => rfl) (fun cdv A outer s H vs Q E hr h => ⟨_, (pss_cons (ps_set (i := 5) sc__law_deed_right.nd rfl (Or.inl rfl) (pe_pr (pr_Live_log T) hr (by decide) (pv 1) rfl))
  (pss_cons (ps_if (pt_cmpR (op_any T hr) (pe_ix (ix_any T hr) (pv 4) pe_int (fun _ _ => rfl)) pe_str (nomark _)) (pss_one (ps_ret (pe_cmpR (op_any T hr) (pv 5) (pe_op (op_any T hr) (pv 2) (pe_lst (pa_cons (pe_tup (pa_cons (pe_ix (ix_any T hr) (pv 4) pe_int (fun _ _ => rfl)) (pa_cons (pe_ix (ix_any T hr) (pv 4) pe_int (fun _ _ => rfl)) pa_nil))) pa_nil))) (nomark _)))) pss_nil)
  (pss_cons (ps_if (pt_cmpR (op_any T hr) (pe_ix (ix_any T hr) (pv 4) pe_int (fun _ _ => rfl)) pe_str (nomark _)) (pss_one (ps_ret (pe_and (pe_cmpR (op_any T hr) (pv 5) (pe_cl (cal_without T) hr (by decide) rfl (pa_cons (pv 0) (pa_cons (pv 2) (pa_cons (pe_lst (pa_cons (pe_ix (ix_any T hr) (pv 4) pe_int (fun _ _ => rfl)) pa_nil)) pa_nil)))) (nomark _)) (pe_one (pe_cmpR (op_any T hr) (pe_pr (pr_Live_few T) hr (by decide) (pv 1) rfl) (pe_op (op_any T hr) (pv 3) pe_int) (nomark _)))))) pss_nil)
  (pss_cons (ps_if (pt_cmpR (op_any T hr) (pe_ix (ix_any T hr) (pv 4) pe_int (fun _ _ => rfl)) pe_str (nomark _)) (pss_one (ps_ret (pe_and (pe_cmpR (op_any T hr) (pv 5) (pe_cl (cal_freed T) hr (by decide) rfl (pa_cons (pv 0) (pa_cons (pv 2) (pa_cons (pe_ix (ix_any T hr) (pv 4) pe_int (fun _ _ => rfl)) pa_nil)))) (nomark _)) (pe_one (pe_cl (cal_alike T) hr (by decide) rfl (pa_cons (pv 0) (pa_cons (pv 5) (pa_cons (pv 2) (pa_cons (pv 3) pa_nil))))))))) pss_nil)
  (pss_one (ps_ret (pe_and (pe_cmpR (op_any T hr) (pv 5) (pe_cl (cal_shortest T) hr (by decide) rfl (pa_cons (pv 0) (pa_cons (pv 2) (pa_cons (pv 3) pa_nil)))) (nomark _)) (pe_and (pe_cl (cal_alike T) hr (by decide) rfl (pa_cons (pv 0) (pa_cons (pv 5) (pa_cons (pv 2) (pa_cons (pv 3) pa_nil))))) (pe_one (pe_cmpR (op_any T hr) (pe_callB (cl_any (f := .builtin "len") T hr) rfl (T.free 109 rfl) (by decide +kernel) (pa_cons (pv 5) pa_nil)) (pe_callB (cl_any (f := .builtin "len") T hr) rfl (T.free 109 rfl) (by decide +kernel) (pa_cons (pv 2) pa_nil)) (nomark _))))))))))), ?_⟩)
  obtain ⟨a0, a1, a2, a3, a4, rfl⟩ := len5 (sp__law_deed_right_len _ _ _ _ h)
  obtain ⟨a, L, bg, m, fk, n, dk, qs, s, hM, rfl, hL, ec, ha, rfl, ev, hn, hd, hy, q⟩ := h
  have n2 := ev.n2
  have f0 := ev.f0
  have f2 := ev.f2
  have hl := ev.len
  have n10 := ev.n10
  walk_at "S"
  have OM := mach_ok ev.mo
  have ok : okRows (mach m).deeds s.1 := ev.ok
  have ev' := ev.next hn hd
  have n2' := ev'.n2
  have bl : ∀ {one : List Entry}, (∀ x ∈ folk one, x ∈ folk s.1) → (both one s.1).length ≤ 6 := fun h => by
    have := nd_len (l := both _ s.1) (m := folk s.1) (dd_nd _) fun x hx => by
      rcases List.mem_append.mp (dd_mem.mp hx) with z | z
      · exact h x z
      · exact z
    omega
  refine hL.pr ⟨a, L, bg, rfl, hL, fun l H1 s1 hl1 k1 => ?_⟩
  rw [ec] at k1
  have hM1 := Mo.mo s1 hM
  have ha1 := Mo.mo s1 ha
  have hy1 := Mo.mo s1 hy
  refine x_De (n := 0) (o := dk.enc.head?.join) hy1 (by cases dk <;> rfl) fun _ => ?_
  cases dk with
  | add o t =>
    refine o_eqS ?_
    rw [decide_eq_true rfl]
    walk_at "S"
    refine x_RT (n := 1) (b := o) hy1 rfl rfl fun y1 r1 => ?_
    refine x_RT (n := 2) (b := some t) hy1 rfl rfl fun y2 r2 => ?_
    refine ⟨by decide, fun tp htp => ⟨by decide, fun lp hlp => ?_⟩⟩
    have s2 : Same H1 (upd H1 tp (.tup [y1, y2])) := same_new (same_refl _) htp
    have k2 : rE (upd H1 tp (.tup [y1, y2])) (.ref tp) (o, t) := mk_P htp r1 ⟨r2.1, r2.2 t rfl⟩
    generalize upd H1 tp (.tup [y1, y2]) = H2 at s2 k2 hlp
    have s3 : Same H2 (upd H2 lp (.lst [.ref tp])) := same_new (same_refl _) hlp
    have k3 : rL rE (upd H2 lp (.lst [.ref tp])) (.ref lp) [(o, t)] := mk_L hlp (A2.one k2) (by show 1 ≤ lim; decide)
    generalize upd H2 lp (.lst [.ref tp]) = H3 at s3 k3
    have s23 := s2.trans s3
    have h0 : 100 ≤ lim := by decide
    refine o_catR (Mo.mo s23 ha1) k3 (by simp; omega) fun p4 H4 s4 hp4 k4 => ?_
    refine o_eqR (r := rL rE) (Mo.mo (s23.trans s4) k1) k4 ?_
    rw [decide_eq_true (show (ansR m s.1 s.2 (.add o t)).1 = s.1 ++ [(o, t)] from rfl)]
    exact q _ ((s1.trans s23).trans s4)
  | strike p =>
    refine o_eqS ?_
    rw [decide_eq_false (by show ¬ ("strike" : Str) = "add"; decide +kernel)]
    walk_at "S"
    refine x_De (n := 0) (o := some "strike") hy1 rfl fun _ => ?_
    refine o_eqS ?_
    rw [decide_eq_true rfl]
    walk_at "S"
    refine x_RT (n := 1) (b := some p) hy1 rfl rfl fun y1 r1 => ?_
    refine ⟨by decide, fun lp hlp => ?_⟩
    have s2 : Same H1 (upd H1 lp (.lst [y1])) := same_new (same_refl _) hlp
    have k2 : rL rS (upd H1 lp (.lst [y1])) (.ref lp) [p] := mk_L hlp (A2.one ⟨r1.1, r1.2 p rfl⟩) (by show 1 ≤ lim; decide)
    generalize upd H1 lp (.lst [y1]) = H2 at s2 k2
    refine ⟨mach m, s.1, [p], Mo.mo s2 hM1, Mo.mo s2 ha1, ok, by omega, .inl k2, by simp, fun l4 H4 s4 hl4 k4 => ?_⟩
    have s24 := s2.trans s4
    refine o_eqR (r := rL rE) (Mo.mo s24 k1) k4 ?_
    rw [decide_eq_true (show (ansR m s.1 s.2 (.strike p)).1 = rest s.1 [p] from rfl)]
    walk_at "S"
    have s14 := s1.trans s24
    refine (hL.mo s14).pr ⟨a, L, bg, rfl, hL.mo s14, fun H5 s5 => ?_⟩
    rw [ec]
    walk_at "G"
    rw [decide_eq_true (show (ansR m s.1 s.2 (.strike p)).2 = s.2 - 1 from rfl)]
    exact q _ (s14.trans s5)
  | give p =>
    refine o_eqS ?_
    rw [decide_eq_false (by show ¬ ("give" : Str) = "add"; decide +kernel)]
    walk_at "S"
    refine x_De (n := 0) (o := some "give") hy1 rfl fun _ => ?_
    refine o_eqS ?_
    rw [decide_eq_false (by show ¬ ("give" : Str) = "strike"; decide +kernel)]
    walk_at "S"
    refine x_De (n := 0) (o := some "give") hy1 rfl fun _ => ?_
    refine o_eqS ?_
    rw [decide_eq_true rfl]
    walk_at "S"
    refine x_RT (n := 1) (b := some p) hy1 rfl rfl fun y1 r1 => ?_
    refine ⟨mach m, s.1, p, hM1, ha1, r1.1, ok, by omega, hd.1, fun l4 H4 s4 hl4 k4 => ?_⟩
    refine o_eqR (r := rL rE) (Mo.mo s4 k1) k4 ?_
    rw [decide_eq_true (show (ansR m s.1 s.2 (.give p)).1 = gave s.1 p from rfl)]
    walk_at "S"
    refine ⟨mach m, gave s.1 p, s.1, s.2, Mo.mo s4 hM1, Mo.mo s4 k1, Mo.mo s4 ha1, rfl, ev'.ok, ok, by show (folk (ansR m s.1 s.2 (.give p)).1).length ≤ 6; omega, by omega, bl gave_folk, f0, by omega, fun H5 s5 => ?_⟩
    rw [decide_eq_true (gave_alike (matL_no hd.1 hd.2).1)]
    exact q _ ((s1.trans s4).trans s5)
  | forget =>
    obtain ⟨a1', a2', a3', a4'⟩ := short_ok (M := mach m) OM ok (ev.pw s.2)
    have e : ansR m s.1 s.2 .forget = (short (mach m) s.1 s.2 4096, s.2) := by unfold ansR; rfl
    have hk0 := ended_all OM (rows := s.1) (few := s.2) (ev.pw s.2)
    have hsh : ∀ k, ended (mach m) s.1 s.2 k → short (mach m) s.1 s.2 k = short (mach m) s.1 s.2 4096 := fun k hk => short_any OM ok hk hk0
    rw [e] at k1 n2'
    simp only at n2'
    generalize short (mach m) s.1 s.2 4096 = sh at a1' a2' a3' a4' k1 hsh n2'
    refine o_eqS ?_
    rw [decide_eq_false (by show ¬ ("forget" : Str) = "add"; decide +kernel)]
    walk_at "S"
    refine x_De (n := 0) (o := some "forget") hy1 rfl fun _ => ?_
    refine o_eqS ?_
    rw [decide_eq_false (by show ¬ ("forget" : Str) = "strike"; decide +kernel)]
    walk_at "S"
    refine x_De (n := 0) (o := some "forget") hy1 rfl fun _ => ?_
    refine o_eqS ?_
    rw [decide_eq_false (by show ¬ ("forget" : Str) = "give"; decide +kernel)]
    walk_at "S"
    refine ⟨mach m, s.1, s.2, hM1, ha1, rfl, ok, by omega, f0, by omega, ev.pw s.2, fun k hk l4 H4 s4 hl4 k4 => ?_⟩
    rw [hsh k hk] at k4
    refine o_eqR (r := rL rE) (Mo.mo s4 k1) k4 ?_
    rw [decide_eq_true rfl]
    walk_at "S"
    refine ⟨mach m, sh, s.1, s.2, Mo.mo s4 hM1, Mo.mo s4 k1, Mo.mo s4 ha1, rfl, a1', ok, by omega, by omega, bl a2', f0, by omega, fun H5 s5 => ?_⟩
    rw [decide_eq_true a4']
    walk_at "S"
    have s45 := s4.trans s5
    refine c_lenRL (Mo.mo s45 k1) ?_
    refine c_lenRL (Mo.mo s45 ha1) ?_
    walk_at "G"
    rw [decide_eq_true (by omega)]
    exact q _ (s1.trans s45)
end
end Nb

/-! part D30 -/
set_option Elab.async false
set_option linter.all false
set_option maxRecDepth 100000
set_option maxHeartbeats 4000000
namespace Nb
open PySem PySem.Spec PyProof.Rows L2
local macro_rules | `(tactic| walk_at "S") => `(tactic| (try simp only [tSeq, tNext, tRet, tIfS, tDrop, tAsg, gName, tFor_eq, tWhile_eq, tLc_eq, tLc2_eq, tDc_eq, sFld_eq, sDPut_eq, tPar, tPar3, tC, tVar, tCB, tOp, tTup, tLst, tChain, tDGet_eq, tDGet2, tAndV, tOrV, tNotV, tIf, tLstRg, tRg1, tDisp, tPairs, tUn, rU, tTest, tNot, tB, tAnd, tOr, tYes, tSl, tPart, tNoPart, tRevL, tM1, tDNewK, tDNewT, gCons_c, gNil_n, gSub, gTup_eq, iRng1_eq, iList_eq, iTup_eq, iSeq_eq, iStr, iKeys_eq, iVals_eq, iEnum_eq, cx_K, tCons, tNil, tBM, tCall, tMake, tProp_eq, tMeth_eq, tFld_eq, tStar_eq, iZipM_eq, tDisp1, L2.start, List.map_cons, List.map_nil, List.length_cons, List.length_nil, List.cons_append, List.nil_append, List.append_nil, List.getElem?_cons_zero, List.getElem?_cons_succ, List.set_cons_zero, List.set_cons_succ, Option.some.injEq, exists_eq_left', exists_eq_left, V.bl.injEq, V.int.injEq, V.str.injEq, V.ref.injEq, if_true, if_false, Nat.reduceAdd, Nat.reduceSub, List.replicate_succ, List.replicate_zero, Bool.not_true, Bool.not_false, Bool.false_eq_true, if_neg, not_false_eq_true, wipe]))
local macro_rules | `(tactic| walk_at "G") => `(tactic| (walk_at "S"; repeat ((first | with_reducible refine o_add ?_ | with_reducible refine o_sub ?_ | with_reducible refine o_mul ?_ | with_reducible refine o_lt ?_ | with_reducible refine o_le ?_ | with_reducible refine o_gt ?_ | with_reducible refine o_ge ?_ | with_reducible refine o_eqI ?_ | with_reducible refine o_neI ?_ | with_reducible refine o_eqS ?_ | with_reducible refine o_neS ?_ | with_reducible refine o_isN ?_ | with_reducible refine o_notN ?_ | with_reducible refine i_int ?_ | with_reducible refine i_intB ?_ | with_reducible refine i_str ?_); walk_at "S")))
section
variable {P : Program} {w : World} {K : PySem.W.Frag} {mg : Str → Option Value} {base : Heap}
def sp__law_agrees (K : PySem.W.Frag) : Sp := fun vs H Q _ => match vs with
  | [x, y] => ∃ a L bg m fk n, rM K H x (mach m) ∧ y = .ref a ∧ LiveA K H a L bg ∧ L.M = mach m ∧ Ev m fk L.cur n ∧ PuV (.bl true) Q H
  | _ => False
theorem sc__law_agrees : FnScope ["_law_made_here", "_law_live_here", "_law_lot_here", "_law_rows", "_law_few", "_law_one"] ["_law_made_here", "_law_live_here"] (defScope s__law_agrees) := ⟨rfl, rfl, rfl, by decide +kernel, rfl, by decide +kernel, by decide +kernel⟩
theorem sp__law_agrees_len : ∀ (vs : List V) (H : Hp) (Q : VK) (E : XK), (sp__law_agrees K) vs H Q E → vs.length = 2
  | [_, _], _, _, _, _ => rfl
  | [], _, _, _, h => h.elim
  | [_], _, _, _, h => h.elim
  | _ :: _ :: _ :: _, _, _, _, h => h.elim
theorem cal__law_agrees (T : Tx P w K mg) : Cl P w K mg base 8 "_law_agrees" (sp__law_agrees K) [] := by
  refine cl_of (st := s__law_agrees) (qual := "_law_agrees") (kws := []) (T.c.def_ 105 (d := d__law_agrees) rfl) sc__law_agrees sp__law_agrees_len (T.glo 95 rfl) (fun _ _ _ _ _ _ us hl => match us, hl with | [_, _], _ => rfl) (fun cdv A outer s H vs Q E hr h => ⟨_, (pss_cons (ps_asg (pe_tup (pa_cons (pe_pr (pr_Live_log T) hr (by decide) (pv 1) rfl) (pa_cons (pe_pr (pr_Live_few T) hr (by decide) (pv 1) rfl) pa_nil))) (pg_tk (n := 2) T rfl (pgs_cons (pg_name (i := 3) sc__law_agrees.nd rfl (Or.inl rfl)) (pgs_cons (pg_name (i := 4) sc__law_agrees.nd rfl (Or.inr rfl)) pgs_nil))))
  (pss_cons (ps_if (PW.pt (pw_or (pt_cmpR (op_any T hr) (pe_pr (pr_Live_people T) hr (by decide) (pv 1) rfl) (pe_cl (cal_people_of T) hr (by decide) rfl (pa_cons (pv 0) (pa_cons (pv 3) pa_nil))) (nomark _)) (pw_or1 (pt_cmpR (op_any T hr) (pe_me0 (me_Live_matter T) hr (by decide) (pv 1)) (pe_cl (cal_matter_matter T) hr (by decide) rfl (pa_cons (pv 0) (pa_cons (pv 3) (pa_cons (pv 4) pa_nil)))) (nomark _))))) (pss_one (ps_ret pe_bl)) pss_nil)
  (pss_cons (ps_for PassesOwn.never rfl (pi_ls T (pe_cl (cal_lots T) hr (by decide) rfl (pa_cons (pe_pr (pr_Live_people T) hr (by decide) (pv 1) rfl) (pa_cons (pv 4) pa_nil)))) (pg_name (i := 2) sc__law_agrees.nd rfl (Or.inl rfl)) (pss_one (ps_if (pt_cmpR (op_any T hr) (pe_me (me_Live_without T) hr (by decide) (pv 1) (pa_cons (pv 2) pa_nil)) (pe_cl (cal_seen_of T) hr (by decide) rfl (pa_cons (pv 0) (pa_cons (pv 3) (pa_cons (pv 2) pa_nil)))) (nomark _)) (pss_one (ps_ret pe_bl)) pss_nil)))
  (pss_cons (ps_for PassesOwn.never rfl (pi_ls T (pe_lc (own := [("_law_one", 5)]) rfl sc__law_agrees.nd (pi_ls T (pe_cl (cal_causes T) hr (by decide) rfl (pa_cons (pv 0) (pa_cons (pv 3) pa_nil)))) (blkOk_by (own := [("_law_one", 5)]) (N := ["_law_made_here", "_law_live_here", "_law_lot_here", "_law_rows", "_law_few", "_law_one"]) (sc := defScope s__law_agrees) (by decide +kernel)) (fun _ _ _ _ _ => (pg_name (i := 5) sc__law_agrees.nd rfl (Or.inl rfl))) (fun _ _ _ _ _ => pts_one (pt_cmpR (op_any T hr) (pe_callB (cl_any (f := .builtin "len") T hr) rfl (T.free 109 rfl) (by decide +kernel) (pa_cons (pv 5) pa_nil)) (pv 4) (nomark _))) (fun _ _ _ _ _ => (pv 5)))) (pg_name (i := 2) sc__law_agrees.nd rfl (Or.inl rfl)) (pss_one (ps_if (pt_cmpR (op_any T hr) (pe_me (me_Live_without T) hr (by decide) (pv 1) (pa_cons (pv 2) pa_nil)) (pe_pr (pr_Live_seen T) hr (by decide) (pv 1) rfl) (nomark _)) (pss_one (ps_ret pe_bl)) pss_nil)))
  (pss_one (ps_ret pe_bl)))))), ?_⟩)
  obtain ⟨a0, a1, rfl⟩ := len2 (sp__law_agrees_len _ _ _ _ h)
  obtain ⟨a, L, bg, m, fk, n, hM, rfl, hL, eM, ev, q⟩ := h
  have n2 := ev.n2
  have f0 := ev.f0
  have f2 := ev.f2
  have hl := ev.len
  have n10 := ev.n10
  have OM := mach_ok ev.mo
  have ok : okRows (mach m).deeds L.cur.1 := ev.ok
  walk_at "S"
  refine hL.pr ⟨a, L, bg, rfl, hL, fun l H1 s1 hl1 k1 => ?_⟩
  refine (hL.mo s1).pr ⟨a, L, bg, rfl, hL.mo s1, fun H2 s2 => ?_⟩
  refine ⟨by decide, fun tp htp => ?_⟩
  have s3 : Same H2 (upd H2 tp (.tup [.ref l, .int L.cur.2])) := same_new (same_refl _) htp
  have e3 : upd H2 tp (.tup [.ref l, .int L.cur.2]) tp = some (.tup [.ref l, .int L.cur.2]) := upd_same
  generalize upd H2 tp (.tup [.ref l, .int L.cur.2]) = H3 at s3 e3
  have s13 := s2.trans s3
  have s03 := s1.trans s13
  have k3 := Mo.mo s13 k1
  have hM3 := Mo.mo s03 hM
  have hL3 := hL.mo s03
  clear s1 s2 s3 s13 k1 hl1
  refine tup_n e3 rfl ?_
  walk_at "S"
  refine hL3.pr ⟨a, L, bg, rfl, hL3, by omega, fun p4 H4 s4 k4 => ?_⟩
  refine ⟨mach m, L.cur.1, Mo.mo s4 hM3, Mo.mo s4 k3, ok, by omega, fun p5 H5 s5 k5 => ?_⟩
  refine o_neR (r := rT rS) (Mo.mo s5 k4) k5 ?_
  rw [decide_eq_true rfl]
  walk_at "S"
  have s35 := s4.trans s5
  have hL5 := hL3.mo s35
  refine hL5.me (nolook (by decide +kernel)) ?_
  refine ⟨a, L, bg, rfl, hL5, by rw [eM]; exact ok, by omega, f0, by omega, fun p6 H6 s6 k6 => ?_⟩
  have s36 := s35.trans s6
  refine ⟨mach m, L.cur.1, L.cur.2, Mo.mo s36 hM3, Mo.mo s36 k3, rfl, ok, by omega, f0, by omega, fun p7 H7 s7 k7 => ?_⟩
  rw [eM] at k6
  refine o_neR (r := rT rS) (Mo.mo s7 k6) k7 ?_
  rw [decide_eq_true rfl]
  walk_at "S"
  have s37 := s36.trans s7
  have hL7 := hL3.mo s37
  refine hL7.pr ⟨a, L, bg, rfl, hL7, by omega, fun p8 H8 s8 k8 => ?_⟩
  refine ⟨folk L.cur.1, L.cur.2, .inr k8, rfl, folk_nd _, by omega, f0, by omega, fun p9 H9 s9 hp9 k9 => ?_⟩
  have s39 := (s37.trans s8).trans s9
  refine ls_L k9 fun c' ec' hc' => ?_
  cases ec'
  refine for_L (r := rT rS) (l := lots (folk L.cur.1) L.cur.2) (fun i σ H' => ∃ o, σ = [some a0, some (.ref a), o, some (.ref l), some (.int L.cur.2), none] ∧ Same H9 H') ⟨none, rfl, same_refl _⟩ (fun i σ H' _ ⟨_, _, s⟩ => Mo.mo s k9) ?_ ?_
  · rintro i x lot σ H10 hi rx ⟨o, rfl, s10⟩
    have hm := List.mem_of_getElem? hi
    obtain ⟨n1, n2', n3⟩ := lots_of f0 (folk_nd _) hm
    have s310 := s39.trans s10
    have hL10 := hL3.mo s310
    walk_at "S"
    refine hL10.me (nolook (by decide +kernel)) ?_
    refine ⟨a, L, bg, lot, rfl, hL10, rx, n1, n3, by rw [eM]; exact ok, fun H11 s11 => ?_⟩
    have s311 := s310.trans s11
    refine ⟨mach m, L.cur.1, lot, Mo.mo s311 hM3, Mo.mo s311 k3, ok, by omega, .inr (Mo.mo s11 rx), n1, fun H12 s12 => ?_⟩
    rw [eM]
    walk_at "G"
    rw [decide_eq_true trivial]
    walk_at "S"
    exact ⟨_, rfl, (s10.trans s11).trans s12⟩
  · rintro σ H10 ⟨o, rfl, s10⟩
    have s310 := s39.trans s10
    walk_at "S"
    refine ⟨mach m, L.cur.1, Mo.mo s310 hM3, Mo.mo s310 k3, ok, by omega, fun p11 H11 s11 hp11 k11 => ?_⟩
    refine ls_L k11 fun c' ec' hc' => ?_
    cases ec'
    refine lc_L (r := rT rS) (r' := rT rS) (fun lot => if decide ((lot.length : Int) ≤ L.cur.2) = true then some lot else none) k11 (fun x lot H12 hb s12 rx Yk N j1 j2 => ?_) fun p12 H12 s12 hp12 k12 => ?_
    · walk_at "S"
      refine ⟨trivial, c_lenRT rx ?_⟩
      walk_at "G"
      by_cases hz : (lot.length : Int) ≤ L.cur.2
      · rw [decide_eq_true hz]
        walk_at "S"
        exact j1 _ (by rw [decide_eq_true hz]; rfl) _ _ (same_refl _) rx
      · rw [decide_eq_false hz]
        walk_at "S"
        exact j2 (by rw [decide_eq_false hz]; rfl) _ (same_refl _)
    · rw [fm_if, List.map_id'] at k12
      have s312 := (s310.trans s11).trans s12
      refine ls_L k12 fun c' ec' hc' => ?_
      cases ec'
      refine for_L (r := rT rS) (l := (causesF (mach m) L.cur.1).filter fun lot => decide ((lot.length : Int) ≤ L.cur.2)) (fun i σ H' => ∃ o, σ = [some a0, some (.ref a), o, some (.ref l), some (.int L.cur.2), none] ∧ Same H12 H') ⟨o, rfl, same_refl _⟩ (fun i σ H' _ ⟨_, _, s⟩ => Mo.mo s k12) ?_ ?_
      · rintro i x lot σ H13 hi rx ⟨o, rfl, s13⟩
        have hm := List.mem_of_getElem? hi
        obtain ⟨h1, h2⟩ := List.mem_filter.mp hm
        obtain ⟨n1, n2', n3⟩ := causes_mem h1
        have s313 := s312.trans s13
        have hL13 := hL3.mo s313
        walk_at "S"
        refine hL13.me (nolook (by decide +kernel)) ?_
        refine ⟨a, L, bg, lot, rfl, hL13, rx, n1, of_decide_eq_true h2, by rw [eM]; exact ok, fun H14 s14 => ?_⟩
        have hL14 := hL13.mo s14
        refine hL14.pr ⟨a, L, bg, rfl, hL14, by rw [eM]; exact ok, fun H15 s15 => ?_⟩
        rw [eM]
        walk_at "G"
        rw [decide_eq_false n3]
        walk_at "S"
        exact ⟨_, rfl, (s13.trans s14).trans s15⟩
      · rintro σ H13 ⟨o, rfl, s13⟩
        walk_at "S"
        exact q _ (s03.trans (s312.trans s13))
end
end Nb

/-! part X1 -/
set_option Elab.async false
set_option linter.all false
set_option maxRecDepth 100000
set_option maxHeartbeats 4000000
/-! A def called while an exception is handled; with; a caught error kept; isinstance of it. -/
namespace Nb
open PySem PySem.Spec PyProof.Rows L2

/-! ### a def called while an exception is handled -/
def cxM (P : Program) (w : World) (K : PySem.W.Frag) (mg : Str → Option Value) (base : Heap) (N : List Str) (q : Str) (sc : Scope) (f : Addr) (cd : Value) (A : Around) (outer : List Env) (s : Shared) (H : Hp) : Cx :=
  { cxOf CX0 P w K mg base N q sc f cd A outer s H E0 with calm := false }
section
variable {P : Program} {w : World} {K : PySem.W.Frag} {mg : Str → Option Value} {base : Heap} {N ps : List Str} {q : Str} {sc : Scope} {f : Addr} {cd : Value} {A : Around} {outer : List Env} {s s1 : Shared} {H : Hp} {us : List Value} {vs : List V}
theorem inv_startM (S : FnScope N ps sc) (e0 : Env0 P w K mg base A outer s H) (hl : vs.length = ps.length) (r : Vals vs us)
    (x : InCallC s s.heap.objs.size (bindL (envOfC q sc s.heap.objs.size f cd).kindOf (ps.zip us) fun _ => none) (cellsFrom (s.heap.objs.size + 1) sc.names []) (bindC (envOfC q sc s.heap.objs.size f cd).kindOf (ps.zip us) fun _ => none) s1) :
    Inv (cxM P w K mg base N q sc f cd A outer s H) [] (L2.start N vs) H s1 := by
  have e1 : Env0 P w K mg base { A with handled := none } outer s H := ⟨e0.frames, e0.mod, e0.bs, e0.bsz, e0.funs, e0.frf, e0.hok, e0.bare⟩
  have I := inv_start (CX := CX0) (E := E0) S (A := { A with handled := none }) rfl e1 hl r x
  have ok := I.ok
  exact ⟨⟨ok.mod, ok.kind, ok.glob, ok.blt, ok.above, ok.inj, ok.has, ok.cab, (fun z => Bool.noConfusion (show false = true from z)), Around.frames_deeper e0.frames, ok.stk, ok.exf, ok.bs, ok.bsz, ok.noex, ok.exfs, ok.funs, ok.frf⟩, I.os, I.bare, I.base, I.loc, I.cell, I.free, I.freeC, I.pin, I.hok, I.len⟩
end
/-- what it promises there; nothing leaves it -/
structure FnM (P : Program) (w : World) (K : PySem.W.Frag) (mg : Str → Option Value) (base : Heap) (f : Addr) (sp : Sp) : Prop where
  run : ∀ (A : Around) (outer : List Env) (s : Shared) (H : Hp) (us : List Value) (vs : List V) (Q : VK), A.depth < recursionLimit → Env0 P w K mg base A outer s H → Vals vs us → sp vs H Q E0 →
    codeAny (model P w) A (.call (.ref f) ⟨us, []⟩) (CR CX0 outer P w H s Q E0) s
section
variable {P : Program} {w : World} {K : PySem.W.Frag} {mg : Str → Option Value} {base : Heap} {x qual : Str} {st : Stmt} {f : Addr} {N ps : List Str} {sp : Sp} {kws : List (Str × V)}
theorem fm_of (F : ∃ fd, FunD K x qual (defArgs st) (defBody st) (defScope st) [] kws f fd) (S : FnScope N ps (defScope st)) (hl : ∀ (vs : List V) (H : Hp) (Q : VK) (E : XK), sp vs H Q E → vs.length = ps.length)
    (hb : ∀ (kV doc pm : Value) (an : Option Addr) (cdv ct : Value) (us : List Value), us.length = ps.length → bindArgs (PySem.W.fnOf x qual (defArgs st) (defBody st) (defScope st) Value.none kV doc pm an cdv ct) { pos := us } = pure (ps.zip us))
    (h : ∀ (cdv : Value) (A : Around) (outer : List Env) (s : Shared) (H : Hp) (vs : List V) (Q : VK), sp vs H Q E0 →
      ∃ t, PSs (cxM P w K mg base N qual (defScope st) f cdv A outer s H) (defBody st) t ∧ t { nx := fun _ H' => Q .non H', rt := Q } (L2.start N vs) H) : FnM P w K mg base f sp := by
  obtain ⟨fd, F⟩ := F
  obtain ⟨oc, od, kV, doc, pm, an, cdv, ct, osl, hfd, lk, hcd⟩ := (He5.fun_of F).ex
  have B := F.bindsN (ps := ps) hb
  subst hfd
  refine ⟨fun A outer s H us vs Q hd e0 r hsp => ?_⟩
  have hlen := hl _ _ _ _ hsp
  have KX : K.In s.heap := e0.mod.kin.keeps fun b o e => (e0.bs b o e).1
  have lim : s.heap.NoLimit := e0.mod.nolimit.keeps fun b o e => (e0.bs b o e).1
  have hkind : ∀ y ∈ ps.zip us, (defScope st).names.lookup y.1 = some .local ∨ ((defScope st).names.lookup y.1 = some .cell ∧ ((cellsFrom (s.heap.objs.size + 1) (defScope st).names []).lookup y.1).isSome = true) := fun ⟨n, v⟩ hy => by
    rcases S.par n (List.of_mem_zip hy).1 with z | z
    · exact .inl z
    · exact .inr ⟨z, PySem.W.cellsFrom_some _ _ _ (.inl z)⟩
  have hbd := B s us KX (by rw [List.append_nil, ← r.length]; exact hlen)
  rw [List.append_nil] at hbd
  refine codeAny_call_function hd (KX _ _ lk) rfl S.co S.gen rfl (PySem.W.codeRec_of KX hcd) (hbd _ _ _ _ ?_)
  refine wpAny_newFunctionEnv_cells S.kind hkind fun env he s1 z => ?_
  subst he
  refine ⟨lim.keeps z.toInCall.keep, codeAny_func ?_⟩
  obtain ⟨t, ht, hq⟩ := h cdv A outer s H vs Q hsp
  have I : Inv (cxM P w K mg base N qual (defScope st) f cdv A outer s H) [] (L2.start N vs) H s1 := inv_startM S e0 hlen r z
  refine wpAny_mono (ht.run [] s1 (L2.start N vs) H _ I hq) (fun fl s' hs => ?_) fun e s' hs => hs
  have fin : ∀ {σ' : L2.St} {H' : Hp} {v : V} {u : Value}, Inv (cxM P w K mg base N qual (defScope st) f cdv A outer s H) [] σ' H' s' → L2.RelV v u → Q v H' → CE outer P w H s Q u s' :=
    fun {σ' H' v u} J rv y => ⟨v, H', J.os, J.bare, J.base, J.hok, rv, y⟩
  cases fl with
  | ret u =>
    obtain ⟨v, σ', H', J, rv, y⟩ := hs
    exact fin J rv y
  | next =>
    obtain ⟨σ', H', J, y⟩ := hs
    exact fin (v := V.non) (u := Value.none) J rfl y
  | brk =>
    obtain ⟨_, _, _, y⟩ := hs
    exact False.elim y
  | cont =>
    obtain ⟨_, _, _, y⟩ := hs
    exact False.elim y
end
end Nb

/-! part X2 -/
set_option Elab.async false
set_option linter.all false
set_option maxRecDepth 100000
set_option maxHeartbeats 4000000
namespace Nb
open PySem PySem.Spec PyProof.Rows L2
/-! ### with o: body, and the body raises -/
/-- what is wished of the body's exception: the object's __exit__ runs, then Wout -/
def wWith (a : Addr) (sp : Sp) (Wout : WX) : WX := fun cls d σ H => ∃ C, cls = .ref C ∧ ∀ (e : Addr) (tb : V), sp [.ref a, .ref C, .ref e, tb] H (fun v H' => v = .non ∧ Wout cls d σ H') E0
section
variable {X : Cx} {te : TE} {C fe fx : Addr} {fd : FuncData} {ps : List Str} {k : Nat} {spE spX : Sp} {tb : WX → TS} {Wout : WX} {ctx : Expr} {body : List Stmt} {pos : Pos}
/-- the exception meets the with: noted, __exit__ called, on it goes -/
theorem with_exc {pins : List (Addr × Obj)} {D : Ends} {u : Value} {s' : Shared} {a : Addr} {xe : Value → Shared → Prop} (hs : X.stack = X.env :: X.outer) (hf : X.env.frame = some X.env.locals) (hex : X.ex = []) (ok : X.Ok) (tk : Takes X Wout)
    (hd : X.A.depth < recursionLimit) (FX : FnM X.prog X.w X.K X.mg X.base fx spX) (xx : XE (X.tr (X.pn ++ pins) xe) (wWith a spX Wout) u s') :
    wpAny (model X.prog X.w) X.A (do
      noteFrame u X.env
      setFlight u none
      standAt pos
      holding [u] do
      let r ← withItem.marked u (.call (.ref fx) ⟨[.ref a] ++ [← typeOf u, u, ← tracebackOf u], []⟩)
      let r ← pure r
      let swallow ← match r with
        | .none => pure false
        | .bool b => pure b
        | _ => do pure ((← withItem.marked u (.call (.type "bool") ⟨[r], []⟩)) == .bool true)
      if swallow then rule "with.exit-swallows"; setFlight u none; pure .next else passOn "with" u X.env) (SP X pins D) X.xe s' := by
  have hfr : X.A.frames = some (X.env :: X.outer) := by rw [ok.frames, hs]
  obtain ⟨e, B, sI, pins', σ', H', cls, d, rfl, J', nb, up, sky, na, os, ag, C, rfl, hw⟩ := xx
  have J : Inv X pins σ' H' sI := J'.ofTry ok
  have sky' : Sky B (X.env :: X.outer) e (Zc (.ref C) d) X.env.locals s'.heap := by rw [← hs]; exact sky
  refine wpAny_bind (wpAny_mono (Sky.land Zc.steady hfr hf sky' (E₁ := X.xe) (Q := fun _ s3 => ∃ h3, s3 = { s' with heap := h3 } ∧ HandSPX.FlyingZ B (X.env :: X.outer) e (Zc (.ref C) d) h3 ∧ s'.heap.UpToSlots h3) fun h3 fl3 up3 => ⟨h3, rfl, fl3, up3⟩) (fun _ s2 h2 => wpAny_bind (wpAny_mono h2 (fun _ s3 h3 => ?_) fun _ _ z => z)) fun _ _ z => z)
  obtain ⟨h3, rfl, fl3, up3⟩ := h3
  have J3 : Inv X pins σ' H' { s' with heap := h3 } := J.landed nb fl3.1 (up.trans up3) os ag
  obtain ⟨k1, k2, k3, oe, vs, T, oT, ts, he3, hz, hdt, hv1, hnT, hTe, hT, hdT, ht3⟩ := id fl3
  have nT : H' T = none := (J.inGround nb).gone hnT
  have notFr : ∀ (b : Addr) (o : Obj) (fv : Array Value), h3.get? b = some o → o.data = .fields fv → b ∉ frs (X.env :: X.outer) := fun b o fv e1 dd hm => by
    obtain ⟨_, o', e', hnf⟩ := k3.mem hm
    have eo : o = o' := Option.some.inj (e1.symm.trans e')
    rw [← eo] at hnf
    exact hnf _ dd
  have locF : X.env.locals ∈ frs (X.env :: X.outer) := List.mem_filterMap.mpr ⟨X.env, List.mem_cons_self, hf⟩
  have fsF : ∀ b, b ∈ X.fs → b ∈ frs (X.env :: X.outer) := fun b hm => by
    obtain ⟨e1, h1, q⟩ := List.mem_filterMap.mp hm
    exact List.mem_filterMap.mpr ⟨e1, List.mem_cons_of_mem _ h1, q⟩
  have fa := notFr e oe vs he3 hdt
  have fT := notFr T oT ts hT hdT
  -- with the two records pinned
  have S3 : Inv X ((e, oe) :: (T, oT) :: pins) σ' H' { s' with heap := h3 } :=
    ⟨J3.ok, J3.os, J3.bare, J3.base, J3.loc, J3.cell, J3.free, J3.freeC, fun p hp => by
      rcases List.mem_append.mp hp with hp | hp
      · exact J3.pin p (List.mem_append_left _ hp)
      rcases List.mem_cons.mp hp with z | hp
      · rw [z]
        exact ⟨he3, na, fun z2 => fa (by rw [show e = X.env.locals from z2]; exact locF), fun z2 => fa (fsF _ z2), fun v z2 => by
          have z3 : oe.data = .cell v := z2
          rw [hdt] at z3
          cases z3⟩
      rcases List.mem_cons.mp hp with z | hp
      · rw [z]
        exact ⟨hT, nT, fun z2 => fT (by rw [show T = X.env.locals from z2]; exact locF), fun z2 => fT (fsF _ z2), fun v z2 => by
          have z3 : oT.data = .cell v := z2
          rw [hdT] at z3
          cases z3⟩
      · exact J3.pin p (List.mem_append_right _ hp), J3.hok, J3.len⟩
  refine wpAny_bind (wpAny_standAt (wpAny_holding ?_))
  refine wpAny_bind (wpAny_typeOf_ref he3 ?_)
  rw [hz.1]
  have tbk : ∀ {Q : Value → Shared → Prop}, (∀ v u, L2.RelV v u → Q u { s' with heap := h3 }) → wpAny (model X.prog X.w) X.A (tracebackOf (.ref e)) Q X.xe { s' with heap := h3 } := fun {Q} hq => by
    unfold tracebackOf
    refine wpAny_bind (wpAny_field he3 hdt hv1 ?_)
    have hsz : 1 < ts.size := by
      have := (Array.getElem?_eq_some_iff.mp ht3).1
      omega
    refine wpAny_bind (wpAny_field hT hdT (x := ts[1]) (Array.getElem?_eq_getElem hsz) ?_)
    by_cases c : (ts[1] == Value.none) = true
    · rw [if_pos c]
      first
        | exact wpAny_pure (hq .non _ rfl)
        | exact wpAny_bind (wpAny_pure (hq .non _ rfl))
    · rw [if_neg c]
      first
        | exact wpAny_pure (hq (.ref T) _ rfl)
        | exact wpAny_bind (wpAny_pure (wpAny_pure (hq (.ref T) _ rfl)))
  refine wpAny_bind (tbk fun v u ru => ?_)
  have hsp := hw e v
  have e0 : Env0 X.prog X.w X.K X.mg X.base (X.A.mark (some (.ref e))) X.stack { s' with heap := h3 } H' := by
    have z := S3.env0
    exact ⟨z.frames, z.mod, z.bs, z.bsz, z.funs, z.frf, z.hok, z.bare⟩
  have rc := FX.run (X.A.mark (some (.ref e))) X.stack { s' with heap := h3 } H' [.ref a, .ref C, .ref e, u] [.ref a, .ref C, .ref e, v] _ hd e0 (.cons rfl (.cons rfl (.cons rfl (.cons ru .nil)))) hsp
  unfold withItem.marked
  refine wpAny_bind (wpAny_bind (wpAny_run (codeAny_mono rc fun r s4 hq => ?_)))
  cases r with
  | error z => exact (show False from hq).elim
  | ok fl =>
    cases fl with
    | next => exact False.elim hq
    | brk => exact False.elim hq
    | cont => exact False.elim hq
    | ret u4 =>
      obtain ⟨v4, H6, S6, r4, rfl, q6⟩ := S3.after hq
      obtain rfl : u4 = Value.none := r4
      refine wpAny_pure (wpAny_bind (wpAny_pure (wpAny_bind (wpAny_pure ?_))))
      show wpAny (model X.prog X.w) X.A (PySem.passOn "with" (.ref e) X.env) (SP X pins D) X.xe s4
      have J6 : Inv X pins σ' H6 s4 := ⟨ok, S6.os, S6.bare, S6.base, S6.loc, S6.cell, S6.free, S6.freeC, fun p hp => S6.pin p (by
        rcases List.mem_append.mp hp with hp | hp
        · exact List.mem_append_left _ hp
        · exact List.mem_append_right _ (List.mem_cons_of_mem _ (List.mem_cons_of_mem _ hp))), S6.hok, S6.len⟩
      have pa := S6.pin (e, oe) (List.mem_append_right _ List.mem_cons_self)
      have pT := S6.pin (T, oT) (List.mem_append_right _ (List.mem_cons_of_mem _ List.mem_cons_self))
      have ga : s4.heap.get? e = some oe := pa.1
      have gT : s4.heap.get? T = some oT := pT.1
      have na6 : H6 e = none := pa.2.1
      have nT6 : H6 T = none := pT.2.1
      have far : ∀ b o, sI.heap.get? b = some o → b ≠ e ∧ b ≠ T := fun b o e1 => by
        by_cases hb : b ∈ frs X.stack
        · rw [hs] at hb
          exact ⟨fun z => fa (by rw [← z]; exact hb), fun z => fT (by rw [← z]; exact hb)⟩
        · have q := nb b o e1 hb
          refine ⟨fun z => ?_, fun z => ?_⟩
          · rw [z, k2] at q; cases q
          · rw [z, hnT] at q; cases q
      have far0 : ∀ b o, X.s_0.heap.get? b = some o → b ≠ e ∧ b ≠ T := fun b o e1 => by
        obtain ⟨o', q⟩ := J.base.there b o e1 (by rw [hex]; simp)
        exact far b o' q
      have farP : ∀ p ∈ X.pn ++ pins, p.1 ≠ e ∧ p.1 ≠ T := fun p hp => far p.1 p.2 (J.pin p hp).1
      obtain ⟨G, g1, g2⟩ := restrict s4.heap fun b => !(decide (b = e) || decide (b = T))
      have gIn : ∀ b o, G.get? b = some o → s4.heap.get? b = some o ∧ b ≠ e ∧ b ≠ T := fun b o e1 => by
        cases q : (!(decide (b = e) || decide (b = T))) with
        | false => rw [g2 b q] at e1; cases e1
        | true =>
          rw [g1 b q] at e1
          simp only [Bool.not_eq_true', Bool.or_eq_false_iff, decide_eq_false_iff_not] at q
          exact ⟨e1, q.1, q.2⟩
      have gOf : ∀ b o, b ≠ e → b ≠ T → s4.heap.get? b = some o → G.get? b = some o := fun b o h1 h2 e1 => by
        rw [g1 b (by simp [h1, h2])]
        exact e1
      have I6 : Inv X pins σ' H6 { s4 with heap := G } := J6.less (fun b o e1 => (gIn b o e1).1) gOf ⟨oe, vs, ga, hdt⟩ ⟨oT, ts, gT, hdT⟩ na6 nT6 far0 farP
      have B6in : ∀ b o, (PySem.W.hideAll G (frs X.stack)).get? b = some o → s4.heap.get? b = some o := fun b o e1 => (gIn b o (PySem.W.of_hideAll _ e1)).1
      have Bno : ∀ b, (b = e ∨ b = T) → (PySem.W.hideAll G (frs X.stack)).get? b = none := fun b hb => by
        cases q : (PySem.W.hideAll G (frs X.stack)).get? b with
        | none => rfl
        | some o =>
          obtain ⟨_, n1, n2⟩ := gIn b o (PySem.W.of_hideAll _ q)
          rcases hb with z | z
          · exact absurd z n1
          · exact absurd z n2
      have fl6 : HandSPX.FlyingZ (PySem.W.hideAll G (frs X.stack)) (X.env :: X.outer) e (Zc (.ref C) d) s4.heap := by
        refine ⟨B6in, Bno e (.inl rfl), ?_, oe, vs, T, oT, ts, ga, hz, hdt, hv1, Bno T (.inr rfl), hTe, gT, hdT, ht3⟩
        have ff := funFrames_none (B := PySem.W.hideAll G (frs X.stack)) J6.stack fun b hb => PySem.W.hideAll_none _ hb
        rw [← hs]
        exact ff
      unfold PySem.passOn
      refine wpAny_bind (wpAny_field ga hdt hv1 ?_)
      rw [if_neg (show ¬ ((Value.ref T == Value.none) = true) from by simp)]
      have goOn : wpAny (model X.prog X.w) X.A (setFlight (.ref e) X.env.frame) (fun _ s7 => wpAny (model X.prog X.w) X.A (throw (.ref e) : Sem Flow) (SP X pins D) X.xe s7) X.xe s4 := by
        rw [hf]
        refine HandSPX.setFlight_upZ fl6 fun h7 hh7 up7 => wpAny_throw (tk _ _ ?_)
        refine ⟨e, PySem.W.hideAll G (frs X.stack), { s4 with heap := G }, pins, σ', H6, .ref C, d, rfl, I6, fun b o e1 hb => PySem.W.hideAll_get _ e1 hb, ?_, .inr (.inr (by rw [← hs] at hh7; exact hh7)), na6, rfl, J6.bare, q6⟩
        exact Heap.UpToSlots.trans (Heap.UpToSlots.of_keeps fun b o e1 => (gIn b o e1).1) up7
      first
        | exact wpAny_bind (wpAny_pure (wpAny_bind goOn))
        | exact wpAny_bind goOn
end
end Nb

/-! part X3 -/
set_option Elab.async false
set_option linter.all false
set_option maxRecDepth 100000
set_option maxHeartbeats 4000000
namespace Nb
open PySem PySem.Spec PyProof.Rows L2
section
variable {X : Cx} {te : TE} {C fe fx : Addr} {fd : FuncData} {ps : List Str} {k : Nat} {spE spX : Sp} {tb : WX → TS} {Wout : WX} {ctx : Expr} {body : List Stmt} {pos : Pos}
/-- with o: body, where the body always raises -/
theorem ps_with (hs : X.stack = X.env :: X.outer) (hf : X.env.frame = some X.env.locals) (hex : X.ex = []) (tk : Takes X Wout) (he : PE X ctx te) (hE : Meth X.K C "__enter__" fe) (hX : Meth X.K C "__exit__" fx)
    (FE : FnOk X.prog X.w X.K X.mg X.base CX0 k fe fd ps spE) (hr : Room k X.A) (hbE : Binds X.K fd ps []) (FX : FnM X.prog X.w X.K X.mg X.base fx spX)
    (hb : ∀ (W : WX) (pn : List (Addr × Obj)) (xe : Value → Shared → Prop), Takes (X.tr pn xe) W → PSs (X.tr pn xe) body (tb W)) :
    PS X (.With [⟨ctx, none⟩] body pos) (fun _ σ H => te σ H fun x H1 => ∃ a dx fs, x = .ref a ∧ H1 a = some (.ins C dx fs) ∧ spE [.ref a] H1 (fun _ H2 => tb (wWith a spX Wout) { nx := fun _ _ => False, rt := fun _ _ => False } σ H2) E0) := by
  refine ⟨fun pins s σ H D I h => ?_⟩
  refine PySem.W.kw_exec0 (thn (he.run pins s σ H _ I h) fun u s1 hu => ?_)
  obtain ⟨x, H1, I1, r1, a, dx, fs, rfl, ea, q⟩ := hu
  obtain rfl : u = Value.ref a := r1
  unfold PySem.W.KwIn
  obtain ⟨mA, J, _⟩ := ins_get I1.hok ea
  obtain ⟨od, J, _⟩ := J.look
  obtain ⟨cd, hcd, ae⟩ := PySem.W.kw_along hE.at_
  obtain ⟨cd', hcd', ax⟩ := PySem.W.kw_along hX.at_
  cases hcd.symm.trans hcd'
  have kk := I1.kIn
  have call1 := run_fn (us := [.ref a]) (vs := [.ref a]) FE hr hbE .nil pass0 I1 (.cons rfl .nil) q
  have hd := hr.depth
  obtain ⟨hh, g, d, tt, os⟩ := s1
  have l1 : PySem.W.Looks (model X.prog X.w) hh (specialOnItsLine (.ref a) "__enter__") (some (.ref fe), cd.mro) := PySem.W.kw_special kk J hcd ae
  have l2 : PySem.W.Looks (model X.prog X.w) hh (specialOnItsLine (.ref a) "__exit__") (some (.ref fx), cd.mro) := PySem.W.kw_special kk J hcd ax
  have l3 : PySem.W.Looks (model X.prog X.w) hh (bindSpecial (.ref fe) (.ref a)) (.ref fe, [.ref a]) := PySem.W.bind_fn kk _ (beq_iff_eq.mp hE.fn)
  have l4 : PySem.W.Looks (model X.prog X.w) hh (bindSpecial (.ref fx) (.ref a)) (.ref fx, [.ref a]) := PySem.W.bind_fn kk _ (beq_iff_eq.mp hX.fn)
  have l5 : PySem.W.Looks (model X.prog X.w) hh (aMethodOfAnotherBuiltinTypeStops (.ref fe) cd.mro) () := PySem.W.Looks.of_pure rfl
  have l6 : PySem.W.Looks (model X.prog X.w) hh (aMethodOfAnotherBuiltinTypeStops (.ref fx) cd.mro) () := PySem.W.Looks.of_pure rfl
  unfold withItem
  refine wpAny_bind (wpAny_pure ?_)
  refine wpAny_bind (wpAny_standAt ?_)
  simp only [Bool.false_eq_true, if_false]
  kw_lk
  refine wpAny_mono call1 (fun v s2 h2 => ?_) fun _ _ z => z
  obtain ⟨v2, H2, I2, _, q2⟩ := h2
  kw_lk
  refine wpAny_attempt (PySem.W.kw_held ?_)
  show wpAny _ _ (execs body X.env) _ _ _
  have key : ∀ xe : Value → Shared → Prop, Takes (X.tr (X.pn ++ pins) xe) (wWith a spX Wout) → wpAny (model X.prog X.w) X.A (execs body X.env) (fun _ _ => False) xe s2 := fun xe tk' =>
    wpAny_mono ((hb (wWith a spX Wout) (X.pn ++ pins) xe tk').run [] s2 σ H2 _ (I2.toTry xe) q2) (fun f s3 hsp => by
      cases f with
      | next => obtain ⟨_, _, _, z⟩ := hsp; exact z
      | brk => obtain ⟨_, _, _, z⟩ := hsp; exact z
      | cont => obtain ⟨_, _, _, z⟩ := hsp; exact z
      | ret u => obtain ⟨_, _, _, _, _, z⟩ := hsp; exact z) fun _ _ z => z
  refine wpAny_mono (key _ ?_) (fun _ _ z => z.elim) (fun e s3 z => z)
  intro u s3 xx
  exact with_exc hs hf hex I.ok tk hd FX xx
end
end Nb

/-! part X4 -/
set_option Elab.async false
set_option linter.all false
set_option maxRecDepth 100000
set_option maxHeartbeats 4000000
namespace Nb
open PySem PySem.Spec PyProof.Rows L2
/-! ### a caught error, kept -/
/-- an exception of the class cls, caught once, at a -/
def ExT (cls : Value) (a : Addr) : HO := .ext fun h => ∃ (oe : Obj) (vs : Array Value), h.get? a = some oe ∧ Zc cls none oe ∧ oe.data = .fields vs
section
variable {X : Cx} {pins : List (Addr × Obj)} {σ : L2.St} {H : Hp} {s : Shared} {a : Addr} {oe : Obj} {vs : Array Value} {cls : Value}
theorem track_T (I : Inv X pins σ H s) (e : s.heap.get? a = some oe) (z : Zc cls none oe) (hd : oe.data = .fields vs) (na : H a = none) (n0 : X.s_0.heap.get? a = none) (nL : a ≠ X.env.locals) (hp : ∀ p ∈ X.pn ++ pins, p.1 ≠ a) :
    Inv X pins σ (upd H a (ExT cls a)) s := by
  have new : ObjOk X.prog X.w (upd H a (ExT cls a)) s.heap a (ExT cls a) := ⟨⟨oe, vs, e, z, hd⟩, ⟨oe, e⟩, fun _ _ ⟨o, v, q, r⟩ k => ⟨o, v, k o q, r⟩⟩
  have ne0 : ∀ b o, X.s_0.heap.get? b = some o → b ≠ a := fun b o q y => by rw [y, n0] at q; cases q
  have neT : ∀ b u, H b = some u → b ≠ a := fun b u q => ne_of_none q na
  refine ⟨I.ok, I.os, I.bare, ⟨I.base.keep, I.base.slot, fun b o q n h => ?_, I.base.there, fun b xs q => ?_, fun b o u q => ?_, fun b ps q => ?_⟩, I.loc, I.cell, ?_, fun x c q => ?_, fun p h => ?_, fun b u q => ?_, I.len⟩
  · rw [upd_ne (ne0 b o q)]; exact I.base.free b o q n h
  · have y := I.base.tups b xs q
    rw [upd_ne (neT b _ y)]; exact y
  · have y := I.base.frzs b o u q
    rw [upd_ne (neT b _ y)]; exact y
  · obtain ⟨m, y⟩ := I.base.tbls b ps q
    exact ⟨m, by rw [upd_ne (neT b _ y)]; exact y⟩
  · rw [upd_ne (Ne.symm nL)]; exact I.free
  · obtain ⟨v, o, h1, h2⟩ := I.cell x c q
    rw [upd_ne (fun y => by rw [y, e] at h1; cases h1; rw [hd] at h2; cases h2)]; exact I.freeC x c q
  · obtain ⟨h1, h2, h3⟩ := I.pin p h
    exact ⟨h1, by rw [upd_ne (hp p h)]; exact h2, h3⟩
  · by_cases hb : b = a
    · subst hb
      rw [upd_same] at q
      cases q
      exact new
    · rw [upd_ne hb] at q
      exact (I.hok b u q).stay (fun c v _ y => y) (fun c y => by rw [upd_ne (neT c _ y)]; exact y) fun c xs y => by rw [upd_ne (neT c _ y)]; exact y
theorem unsuite2 {pn' : List (Addr × Obj)} {q : Addr × Obj} (I : Inv (X.suite a (q :: (X.pn ++ pins))) pn' σ H s) (ok : X.Ok) : Inv X (q :: pins) σ H s :=
  ⟨ok, I.os, I.bare, I.base, I.loc, I.cell, I.free, I.freeC, fun p hp => I.pin p (by
    rcases List.mem_append.mp hp with hp | hp
    · exact List.mem_append_left _ (List.mem_cons_of_mem _ (List.mem_append_left _ hp))
    rcases List.mem_cons.mp hp with z | hp
    · rw [z]; exact List.mem_append_left _ List.mem_cons_self
    · exact List.mem_append_left _ (List.mem_cons_of_mem _ (List.mem_append_right _ hp))), I.hok, I.len⟩
end
/-- what the clause 'except x as n' wishes, the error kept: n slots in all, slot i is n's; the class is one of c's, nothing else comes -/
def wHeld (K : PySem.W.Frag) (c : Value) (m i : Nat) (ts : Addr → TS) (D : Ends) : WX := fun cls d σ H =>
  σ.length = m → d = none ∧ PySem.W.exmOne K cls c = some true ∧ ∀ a, H a = none → ts a { nx := fun σ' H' => H' a = none → D.nx (σ'.set i none) (upd H' a (ExT cls a)), rt := fun _ _ => False } (σ.set i (some (.ref a))) H
section
variable {X : Cx} {x n : Str} {c : Value} {i : Nat} {body suite : List Stmt} {b₀ : Stmt} {np pos pos' : Pos} {tb : WX → TS} {ts : Addr → TS}
theorem ps_try_held (hs : X.stack = X.env :: X.outer) (hf : X.env.frame = some X.env.locals) (hex : X.ex = []) (hN : X.N.Nodup) (hi : X.N[i]? = some n) (hln : X.env.kindOf n = some .local) (hc : Names X x c)
    (hb : ∀ (W : WX) (pn : List (Addr × Obj)) (xe : Value → Shared → Prop), Takes (X.tr pn xe) W → PSs (X.tr pn xe) body (tb W))
    (hsu : ∀ (a : Addr) (oe : Obj) (pn : List (Addr × Obj)), PSs (X.suite a ((a, oe) :: pn)) (b₀ :: suite) (ts a)) :
    PS X (.Try body [.ExceptHandler (some (.Name x np)) (some n) (b₀ :: suite) pos'] [] [] pos) (fun D σ H => tb (wHeld X.K c X.N.length i ts D) D σ H) := by
  refine ⟨fun pins s σ H D I h => ?_⟩
  have ok := I.ok
  have hfr : X.A.frames = some (X.env :: X.outer) := by rw [ok.frames, hs]
  have hloc : Loc X.env.scope n := .inl hln
  refine wpAny_Try_except ?_
  have key : ∀ xe : Value → Shared → Prop, Takes (X.tr (X.pn ++ pins) xe) (wHeld X.K c X.N.length i ts D) → wpAny (model X.prog X.w) X.A (execs body X.env) (SP X pins D) xe s := fun xe tk' =>
    wpAny_mono ((hb _ (X.pn ++ pins) xe tk').run [] s σ H D (I.toTry xe) h) (fun f s3 hsp => by
      cases f with
      | next => obtain ⟨σ', H', J', q⟩ := hsp; exact ⟨σ', H', J'.ofTry ok, q⟩
      | brk => obtain ⟨σ', H', J', q⟩ := hsp; exact ⟨σ', H', J'.ofTry ok, q⟩
      | cont => obtain ⟨σ', H', J', q⟩ := hsp; exact ⟨σ', H', J'.ofTry ok, q⟩
      | ret u => obtain ⟨v, σ', H', J', r, q⟩ := hsp; exact ⟨v, σ', H', J'.ofTry ok, r, q⟩) fun _ _ z => z
  refine wpAny_mono (key _ ?_) (fun f s1 hsp => ?_) (fun e s1 z => z)
  · intro u s' xx
    obtain ⟨a, B, sI, pins', σ', H', cls, d, rfl, J', nb, up, sky, na, os, ag, wh⟩ := xx
    have J : Inv X pins σ' H' sI := J'.ofTry ok
    obtain ⟨rfl, hb1, hyes⟩ := wh J.len
    have sky' : Sky B (X.env :: X.outer) a (Zc cls none) X.env.locals s'.heap := by rw [← hs]; exact sky
    show wpAny (model X.prog X.w) X.A (noteFrame (.ref a) X.env) _ _ _
    refine Sky.land Zc.steady hfr hf sky' fun h3 fl3 up3 => ?_
    have J3 : Inv X pins σ' H' { s' with heap := h3 } := J.landed nb fl3.1 (up.trans up3) os ag
    obtain ⟨oe3, vs3, he3, hz3, hd3⟩ := fl3.there
    have nfr : a ∉ frs (X.env :: X.outer) := fun hm => by
      obtain ⟨_, o', e', hnf⟩ := fl3.2.2.1.mem hm
      rw [he3] at e'; cases e'
      exact hnf _ hd3
    have nL : a ≠ X.env.locals := fun z => nfr (List.mem_filterMap.mpr ⟨X.env, List.mem_cons_self, by rw [hf, z]⟩)
    have nF : a ∉ X.fs := fun hm => by
      obtain ⟨e, he, q⟩ := List.mem_filterMap.mp hm
      exact nfr (List.mem_filterMap.mpr ⟨e, List.mem_cons_of_mem _ he, q⟩)
    have far : ∀ b o, sI.heap.get? b = some o → b ≠ a := fun b o e z => by
      subst z
      have q := nb b o e (by rw [hs]; exact nfr)
      rw [fl3.2.1] at q; cases q
    have n0 : X.s_0.heap.get? a = none := by
      cases q : X.s_0.heap.get? a with
      | none => rfl
      | some o =>
        obtain ⟨o', z⟩ := J.base.there a o q (by rw [hex]; simp)
        exact absurd rfl (far a o' z)
    have farP : ∀ p ∈ X.pn ++ pins, p.1 ≠ a := fun p hp => far p.1 p.2 (J.pin p hp).1
    have S3 := J3.suite he3 hd3 na nL nF
    refine wpAny_handleBy_cons (codeAny_handlers_test ?_) (by intro q; cases q)
    have LT : PySem.W.Looks (model X.prog X.w) h3 (typeOf (.ref a)) cls := fun A Q E s k q => wpAny_typeOf_ref (k _ _ he3) (by rw [hz3.1]; exact q)
    have LM := PySem.W.exm_one (M := model X.prog X.w) (J3.kIn) LT hb1
    have test : ∀ {Q : Value → Shared → Prop} {E : Value → Shared → Prop}, Q c { s' with heap := h3 } → wpAny (model X.prog X.w) (X.A.mark (some (.ref a))) (eval (.Name x np) X.env) Q E { s' with heap := h3 } := fun {Q E} q => by
      obtain ⟨hg, hdbg, hm | ⟨hm, hv, hnn⟩⟩ := hc
      · exact ld_glob (X := X.suite a ((a, oe3) :: (X.pn ++ pins))) S3 hg hm q hdbg
      · exact ld_blt (X := X.suite a ((a, oe3) :: (X.pn ++ pins))) S3 hg hm hv q hnn hdbg
    refine test (LM.here ?_)
    refine codeAny_handlers_suite_as ?_
    refine HandSPX.lands_againZ fl3 fun h4 fl4 up4 => ?_
    have J4 : Inv X pins σ' H' { s' with heap := h4 } := J.landed nb fl4.1 ((up.trans up3).trans up4) os ag
    obtain ⟨oe4, vs4, he4, hz4, hd4⟩ := fl4.there
    have S4 := J4.suite he4 hd4 na nL nF
    refine store_ok (X := X.suite a ((a, oe4) :: (X.pn ++ pins))) (v := .ref a) S4 hN hi hloc rfl (fun s5 S5 => ?_) (.inr hln)
    refine wpAny_mono ((hsu a oe4 (X.pn ++ pins)).run [] s5 _ H' _ S5 (hyes a na)) (fun f s6 hsp => ?_) (fun _ _ z => False.elim z)
    cases f with
    | next =>
      obtain ⟨σ6, H6, S6, q6⟩ := hsp
      refine gone_ok (unsuite2 S6 ok) hN hi hln fun s7 J7 => ?_
      have p7 := J7.pin (a, oe4) (List.mem_append_right _ List.mem_cons_self)
      have J8 : Inv X pins (σ6.set i none) H6 s7 := ⟨J7.ok, J7.os, J7.bare, J7.base, J7.loc, J7.cell, J7.free, J7.freeC, fun p hp => J7.pin p (by
        rcases List.mem_append.mp hp with hp | hp
        · exact List.mem_append_left _ hp
        · exact List.mem_append_right _ (List.mem_cons_of_mem _ hp)), J7.hok, J7.len⟩
      exact ⟨_, _, track_T J8 p7.1 hz4 hd4 p7.2.1 n0 nL farP, q6 p7.2.1⟩
    | brk => obtain ⟨_, _, _, z⟩ := hsp; exact False.elim z
    | cont => obtain ⟨_, _, _, z⟩ := hsp; exact False.elim z
    | ret u => obtain ⟨_, _, _, _, _, z⟩ := hsp; exact False.elim z
  · cases f with
    | next => obtain ⟨σ', H', J', q⟩ := hsp; exact wpAny_execs_nil ⟨σ', H', J', q⟩
    | brk => exact hsp
    | cont => exact hsp
    | ret u => exact hsp
/-- isinstance(e, c) of a kept error -/
theorem call_isT {D : Addr} (C : ExcC X.K D) : CallR X (.builtin "isinstance") (fun xs H Q => ∃ (a : Addr) (c : V) (cv : Value) (b : Bool), xs = [.ref a, c] ∧ H a = some (ExT (.ref D) a) ∧ (∀ u, L2.RelV c u → u = cv) ∧ PySem.W.kitOne X.K (.ref D) cv = some b ∧ Q (.bl b) H) := by
  intro pins s σ H xs us Q I r h
  obtain ⟨a, c, cv, b, rfl, ha, hcv, e, q⟩ := h
  cases r with
  | cons rx rr =>
    cases rr with
    | cons rt rr =>
      cases rr
      cases rx
      have ec := hcv _ rt
      subst ec
      obtain ⟨⟨oe, vs, hget, hz, hv⟩, _, _⟩ := I.hok a _ ha
      have J : PySem.W.InstAt s.heap a oe D none := by
        obtain ⟨oc, od, oda, osl⟩ := oe
        obtain ⟨h1, h2⟩ := hz
        dsimp only at h1 h2 hv
        subst h1 h2 hv
        exact ⟨hget, rfl, rfl, trivial⟩
      exact PySem.W.kia_one (PySem.W.handS_kitx_exc C.hg C.hk C.hs C.hd C.ha C.hn C.ht C.hm) I.kIn J e (fun z => nomatch z) fun tk => ⟨.bl b, H, I.kept (t' := tk) fun _ _ z => z, rfl, q⟩
end
end Nb

/-! part X5 -/
set_option Elab.async false
set_option linter.all false
set_option maxRecDepth 100000
set_option maxHeartbeats 4000000
namespace Nb
open PySem PySem.Spec PyProof.Rows L2
/-! ### x != y by the class's own __eq__; dicts of data; repr -/
section
variable {prog : Program} {w : World} {A : Around} {E : Value → Shared → Prop} {s : Shared} {K : PySem.W.Frag} {x y C f : Addr} {ox oy : Obj} {od od' : Option Obj}
theorem ne_own {Q : Value → Shared → Prop} (hu : A.units + 1 < cLine) (X : K.In s.heap) (I : PySem.W.InstAt s.heap x ox C od) (J : PySem.W.InstAt s.heap y oy C od') (hne : PySem.W.findIn K (.ref C) "__ne__" = some (some (.builtin "object.__ne__")))
    (heq : PySem.W.findIn K (.ref C) "__eq__" = some (some (.ref f))) (hf : PySem.W.isFn K (.ref f) = true) (hm : PySem.W.mroIn K C (.type "object") = some true)
    (h : wpAny (model prog w) A.in1 (call (.ref f) [.ref x, .ref y]) (fun v s' => ∃ b, v = .bool b ∧ Q (.bool (!b)) s') E s) : wpAny (model prog w) A (richCompare .NotEq (.ref x) (.ref y)) Q E s := by
  have hobj : PySem.W.Looks (model prog w) s.heap (isInstance (.ref x) (.type "object")) true := I.type.andThen (PySem.W.looks_mroIn X hm)
  have body : wpAny (model prog w) A (call (.builtin "object.__ne__") [.ref x, .ref y]) (fun v s' => ∃ b, v = .bool b ∧ Q v s') E s := by
    refine wpAny_call (codeAny_call_builtin PySem.F.cmp_object.ne.plain PySem.F.cmpEntry_ne (PySem.W.check_slot PySem.F.cmpKind_ne PySem.F.cmpSplit_ne hobj (PySem.F.cmpArgs_ne _ _) ?_))
    unfold Builtin.«object.__ne__»
    refine wpAny_bind (wpAny_of_eq (a := ((Value.ref x : Value), [Value.ref y])) (by first | rfl | (simp only [slotArgs]; rfl)) ?_)
    refine wpAny_bind (wpAny_cRoomFor hu ?_)
    refine wpAny_bind (PySem.W.ifBound_K X I heq hf (wpAny_mono h (fun v s' hv => ?_) fun _ _ z => z))
    obtain ⟨b, rfl, q⟩ := hv
    refine wpAny_bind (wpAny_truthy_bool ?_)
    exact wpAny_pure ⟨_, rfl, q⟩
  have one : wpAny (model prog w) A (tryCompare (.ref x) "__ne__" (.ref y)) (fun r s' => ∃ v, r = some v ∧ Q v s') E s := by
    unfold tryCompare
    simp only [callSpecialIfBound?, bindSpecialIfBound?]
    refine wpAny_bind (wpAny_holding (wpAny_bind (wpAny_bind (wpAny_bind (I.type.here ((PySem.W.looks_findIn X hne).here ?_))))))
    simp only [PySem.F.cmp_object.ne.bind]
    refine wpAny_bind (wpAny_askSetting (wpAny_ite ?_))
    have fin : wpAny (model prog w) A (call (.builtin "object.__ne__") ([.ref x] ++ [.ref y]) >>= fun v => pure (some v)) (fun r s' => wpAny (model prog w) A (match r with
      | some .notImplemented | none => pure none
      | some v => pure (some v)) (fun r s' => ∃ v, r = some v ∧ Q v s') E s') E s := wpAny_bind (wpAny_mono body (fun v s' hv => by
        obtain ⟨b, rfl, q⟩ := hv
        exact wpAny_pure (wpAny_pure ⟨_, rfl, q⟩)) fun _ _ z => z)
    split
    · exact wpAny_bind (wpAny_pure (wpAny_pure fin))
    · exact wpAny_tryCatch (wpAny_bind (wpAny_pure (wpAny_pure fin)))
  unfold richCompare
  simp only [oneThing_ref]
  refine wpAny_holding (wpAny_bind (wpAny_cRoomFor (Nat.lt_of_succ_lt hu) ?_))
  rw [cmpInfo_NotEq]
  dsimp only
  refine wpAny_bind (I.type.here (wpAny_bind (J.type.here ?_)))
  rw [show (Value.ref C != Value.ref C) = false from by simp]
  simp only [Bool.false_eq_true, if_false]
  refine wpAny_bind (wpAny_pure ?_)
  simp only [Bool.false_eq_true, if_false]
  refine wpAny_bind (wpAny_mono one (fun r s' z => ?_) fun _ _ z => z)
  obtain ⟨v, rfl, q⟩ := z
  exact wpAny_pure q
end
section
variable {X : Cx} {C f : Addr} {fd : FuncData} {ps : List Str} {sp : Sp} {n : Nat}
/-- x != y, two instances of a class with its own __eq__ -/
def rNeOwn (C : Addr) (sp : Sp) : R2 := fun x y H Q => ∃ a b dx dy fs gs, x = .ref a ∧ y = .ref b ∧ H a = some (.ins C dx fs) ∧ H b = some (.ins C dy gs) ∧ sp [.ref a, .ref b] H (fun v H' => ∃ t, v = .bl t ∧ Q (.bl (!t)) H') E0
theorem op_neOwn (F : FnOk X.prog X.w X.K X.mg X.base CX0 n f fd ps sp) (hs : Meth X.K C "__eq__" f) (hne : PySem.W.findIn X.K (.ref C) "__ne__" = some (some (.builtin "object.__ne__"))) (hm : PySem.W.mroIn X.K C (.type "object") = some true) (hb : Binds X.K fd ps []) (hr : Room (n + 1) X.A) :
    OpR X (compareOp .NotEq) (rNeOwn C sp) := by
  intro pins s σ H x y v u Q I rx ry h
  obtain ⟨a, b, dx, dy, fs, gs, rfl, rfl, ha, hb', q⟩ := h
  cases rx
  cases ry
  obtain ⟨mA, J, _⟩ := ins_get I.hok ha
  obtain ⟨mB, J', _⟩ := ins_get I.hok hb'
  obtain ⟨o1, J, _⟩ := J.look
  obtain ⟨o2, J', _⟩ := J'.look
  have e0 : Env0 X.prog X.w X.K X.mg X.base X.A.in1 X.stack s H := I.env0.in1
  have hl := F.len _ _ _ _ q
  have r2 : Vals [V.ref a, V.ref b] [Value.ref a, Value.ref b] := .cons rfl (.cons rfl .nil)
  have bd := hb s [.ref a, .ref b] I.kIn (by simpa using hl)
  rw [List.append_nil] at bd
  have hu : X.A.units + 1 < cLine := by have := hr.un; omega
  show wpAny (model X.prog X.w) X.A (richCompare .NotEq (.ref a) (.ref b)) (EP X pins σ Q) X.xe s
  refine ne_own hu I.kIn J J' hne hs.at_ hs.fn hm (wpAny_call (codeAny_mono (F.run X.A.in1 X.stack s H ⟨[.ref a, .ref b], []⟩ _ _ _ E0 hr.in1 e0 bd r2 q) fun r s' hq => ?_))
  cases r with
  | error e => exact (show False from hq).elim
  | ok fl =>
    cases fl with
    | ret u =>
      obtain ⟨z, H', I', rz, t, rfl, ez⟩ := I.after hq
      obtain rfl : u = Value.bool t := rz
      exact ⟨t, rfl, .bl (!t), H', I', rfl, ez⟩
    | next => exact False.elim hq
    | brk => exact False.elim hq
    | cont => exact False.elim hq
/-- d == e, two dicts of the same keys, each value the same data -/
def rEqDD (K : PySem.W.Frag) : R2 := fun x y H Q => ∃ a b ks ls, x = .ref a ∧ y = .ref b ∧ H a = some (.dK ks) ∧ H b = some (.dK ls) ∧ ks.length = ls.length ∧
  (∀ p ∈ ks, ∃ u d, valV ls p.1 = some u ∧ Dp K H p.2 d ∧ Dp K H u d ∧ d.plain = true ∧ d.depth ≤ 60 ∧ PyData.eqv d d = true) ∧ Q (.bl true) H
theorem op_eqDD (hu : X.A.units + 64 < cLine) : OpR X (compareOp .Eq) (rEqDD X.K) := by
  intro pins s σ H x y v u Q I rx ry h
  obtain ⟨a, b, ks, ls, rfl, rfl, ha, hb, hl, hp, q⟩ := h
  cases (show v = Value.ref a from rx)
  cases (show u = Value.ref b from ry)
  obtain ⟨_, ya, va, ra, da⟩ := (show ObjOk X.prog X.w H s.heap a (.dK ks) from I.hok a _ ha)
  obtain ⟨_, yb, vb, rb, db⟩ := (show ObjOk X.prog X.w H s.heap b (.dK ls) from I.hok b _ hb)
  have run : ∀ x y v u, (∃ d, Dp X.K H x d ∧ Dp X.K H y d ∧ d.plain = true ∧ d.depth ≤ 60 ∧ PyData.eqv d d = true) → L2.RelV x v → L2.RelV y u → SeqAt.EqP X.prog X.w X.A.in1 s v u true := by
    rintro x y v u ⟨d, h1, h2, h3, h4, h5⟩ r1 r2
    obtain ⟨as, k1⟩ := Dp.reads I d x v h1 r1
    obtain ⟨bs, k2⟩ := Dp.reads I d y u h2 r2
    have z := SeqAt.eqAt_plain d d X.A.in1 s v u as bs k1 k2 h3 h3 (by show X.A.units + 1 + min d.depth d.depth < cLine; omega)
    rw [h5] at z
    exact SeqAt.EqAt.eqP z
  refine PySem.W.rcP_dicts (knd := mixKind X.prog X.w) (r := true) ya yb da db (by omega) (fun _ => hits_run run rb ra fun p hm => ?_) _ _ ?_
  · obtain ⟨u, d, e, h1, h2, h3⟩ := hp p hm
    exact ⟨u, e, d, h1, h2, h3⟩
  · have e : va.length = vb.length := by rw [← ra.length, ← rb.length]; exact hl
    rw [show (va.length == vb.length && true) = true from by rw [e]; simp]
    exact ⟨.bl true, H, I, rfl, q⟩
/-- repr(x) of lists and tuples, where no repr is under way -/
def rRepr (K : PySem.W.Frag) : List V → Hp → VK → Prop := fun xs H Q => ∃ v d, xs = [v] ∧ Dp K H v d ∧ d.showable = true ∧ d.hasDict = false ∧ d.depth ≤ 60 ∧ d.shown.length ≤ sizeLine ∧ (PyProof.Rows.isDisplay d = true ∨ ∃ i, d = .int i ∧ i.natAbs.log2 < 1920) ∧ Q (.str d.shown) H
theorem call_reprD (hg : X.A.guards = some []) (hu : X.A.units + 64 < cLine) : CallR X (.builtin "repr") (rRepr X.K) := by
  intro pins s σ H xs us Q I r h
  obtain ⟨v, d, rfl, hd, h1, h2, h3, h4, h5, q⟩ := h
  cases r with
  | cons rx rr =>
    cases rr
    rename_i u
    rcases h5 with h5 | ⟨i, rfl, hi⟩
    · obtain ⟨as, k⟩ := Dp.reads I d v u hd rx
      obtain ⟨a, rfl⟩ := PyProof.Rows.isRef_of_reads k h5
      refine repr_of_reads' k h1 (PyData.noDict_hsm h2) hg (by omega) (fun _ _ e => e) (fun h' t tk hk => ?_) h4
      exact ⟨.str d.shown, H, I.kept (t' := tk) hk, ⟨t, rfl⟩, q⟩
    · cases hd
      obtain ⟨t, rfl⟩ := rx
      exact PySem.P.repr_of_int hi ⟨.str (toString i), H, I.tok _, ⟨_, rfl⟩, q⟩
end
end Nb

/-! part X6 -/
set_option Elab.async false
set_option linter.all false
set_option maxRecDepth 100000
set_option maxHeartbeats 4000000
namespace Nb
open PySem PySem.Spec PyProof.Rows L2
/-! ### a def that is called where no repr is under way -/
structure ClG (P : Program) (w : World) (K : PySem.W.Frag) (mg : Str → Option Value) (base : Heap) (k : Nat) (x : Str) (sp : Sp) : Prop where
  ex : ∃ (f : Addr) (fd : FuncData) (ps : List Str), (∀ vs H Q E, sp vs H Q E → vs.length = ps.length) ∧
    (∀ (A : Around) (outer : List Env) (s : Shared) (H : Hp) (args : Args) (us : List Value) (vs : List V) (Q : VK), A.guards = some [] → Room k A → Env0 P w K mg base A outer s H → BindsTo s fd args (ps.zip us) → Vals vs us → sp vs H Q E0 →
      codeAny (model P w) A (.call (.ref f) args) (CR CX0 outer P w H s Q E0) s) ∧ mg x = some (.ref f) ∧ PySem.W.keepIn K (.ref f) = true ∧ Binds K fd ps []
section
variable {P : Program} {w : World} {K : PySem.W.Frag} {mg : Str → Option Value} {base : Heap} {x qual : Str} {st : Stmt} {f : Addr} {N ps : List Str} {k : Nat} {sp : Sp} {kws : List (Str × V)}
theorem clG_of (F : ∃ fd, FunD K x qual (defArgs st) (defBody st) (defScope st) [] kws f fd) (sc : FnScope N ps (defScope st)) (hl : ∀ (vs : List V) (H : Hp) (Q : VK) (E : XK), sp vs H Q E → vs.length = ps.length) (hm : mg x = some (.ref f))
    (hb : ∀ (kV doc pm : Value) (an : Option Addr) (cdv ct : Value) (us : List Value), us.length = ps.length → bindArgs (PySem.W.fnOf x qual (defArgs st) (defBody st) (defScope st) Value.none kV doc pm an cdv ct) { pos := us } = pure (ps.zip us))
    (h : ∀ (cdv : Value) (A : Around) (outer : List Env) (s : Shared) (H : Hp) (vs : List V) (Q : VK), A.guards = some [] → PySem.W.codeIn K cdv qual = true → (∃ oc od kV doc pm an ct osl, K.lookup f = some ⟨oc, od, .func (PySem.W.fnOf x qual (defArgs st) (defBody st) (defScope st) .none kV doc pm an cdv ct), osl⟩) →
      Room k (A.deeper (envOfC qual (defScope st) s.heap.objs.size f cdv)) → sp vs H Q E0 →
      ∃ t, PSs (cxOf CX0 P w K mg base N qual (defScope st) f cdv A outer s H E0).nox (defBody st) t ∧ t { nx := fun _ H' => Q .non H', rt := Q } (L2.start N vs) H) : ClG P w K mg base (k + 1) x sp := by
  obtain ⟨fd, F⟩ := F
  obtain ⟨oc, od, kV, doc, pm, an, cdv, ct, osl, hfd, lk, hcd⟩ := (He5.fun_of F).ex
  have B := F.bindsN (ps := ps) hb
  refine ⟨f, fd, ps, hl, fun A outer s H args us vs Q hg hr e0 hbd r hsp => ?_, hm, F.kp, B⟩
  subst hfd
  refine LamX.run_ofS lk hcd sc hr e0 hbd r (hl _ _ _ _ hsp) fun hr' => ?_
  obtain ⟨t, ht, hq⟩ := h cdv A outer s H vs Q hg hcd ⟨oc, od, kV, doc, pm, an, ct, osl, lk⟩ hr' hsp
  exact ⟨t, ht.nox, hq⟩
end
section
variable {X : Cx} {j k : Nat} {x : Str} {sp : Sp} {e : Expr} {es : List Expr} {t : TA} {p pos : Pos}
theorem pe_clG (c : ClG X.prog X.w X.K X.mg X.base k x sp) (hgd : X.A.guards = some []) (hr : Room j X.A) (hk : k ≤ j) (hg : Gl X x) (ha : PA X (e :: es) t)
    (hdb : (x == ("__debug__" : Str)) = false := by decide) (he : starEach (e :: es) X.env = (false, eval e X.env) :: starEach es X.env := by rfl) (hpl : (backTo pos (starEach es X.env)).any (·.1) = false := by rfl) :
    PE X (.Call (.Name x p) (e :: es) [] pos) (tCall sp [] E0 t) := by
  obtain ⟨f, fd, ps, len, F, hm, kp, b⟩ := c.ex
  refine ⟨fun pins s σ H Q I h => ?_⟩
  refine wpAny_Call_Name_kw (ld_glob I hg hm ?_ hdb)
  refine PySem.W.callWith_K (h₀ := X.base) I.ok.mod.kin kp (thn (ha.run pos pins s σ H _ I h) fun us s1 ⟨vs, H1, I1, r, q⟩ => ⟨I1.kIn, ?_⟩) he hpl
  have q : sp (vs ++ []) H1 Q E0 := q
  rw [List.append_nil] at q
  have hl : us.length = ps.length := by rw [← r.length]; exact len _ _ _ _ q
  have bd := b s1 us I1.kIn (by rw [List.append_nil]; exact hl)
  rw [List.append_nil] at bd
  refine wpAny_call (codeAny_mono (F X.A X.stack s1 H1 ⟨us, []⟩ us vs Q hgd (hr.mono hk) I1.env0 bd r q) fun r s' hq => ?_)
  cases r with
  | error e => exact (show False from hq).elim
  | ok fl =>
    cases fl with
    | ret u => exact I1.after hq
    | next => exact False.elim hq
    | brk => exact False.elim hq
    | cont => exact False.elim hq
theorem op_neM {m : Nat} {C : Addr} (c : Me X.prog X.w X.K X.mg X.base m C "__eq__" sp) (hne : PySem.W.findIn X.K (.ref C) "__ne__" = some (some (.builtin "object.__ne__"))) (hm : PySem.W.mroIn X.K C (.type "object") = some true) (hr : Room j X.A) (hk : m + 1 ≤ j) :
    OpR X (compareOp .NotEq) (rNeOwn C sp) := by
  obtain ⟨f, fd, ps, cl, me, F, b⟩ := c.ex
  exact op_neOwn F me hne hm b (hr.mono hk)
end
/-! ### what repr tells of data -/
class Rp {α : Type} (r : RR α) [Da r] : Prop where
  sh : ∀ x : α, (Da.enc r x).showable = true
  nd : ∀ x : α, (Da.enc r x).hasDict = false
  lv : ∀ {H : Hp} {v : V} {x : α}, r H v x → (Da.enc r x).leavesShort 8 = true
theorem lv_str {z : Str} (h : wok z = true) : (PyData.str z).leavesShort 8 = true := PyData.leavesShort_of_canLay0 8 (.str z) (wok_str h) rfl
instance : Rp rS := ⟨fun _ => rfl, fun _ => rfl, fun h => lv_str h.2⟩
instance : Rp rO := ⟨fun x => by cases x <;> rfl, fun x => by cases x <;> rfl, fun {H v x} h => by
  cases x
  · rfl
  · exact lv_str (h.2 _ rfl)⟩
section
variable {α β : Type} {r : RR α} {r2 : RR β} [Da r] [Da r2]
theorem sh_all [Rp r] : ∀ l : List α, PyData.showableAll (l.map (Da.enc r)) = true
  | [] => rfl
  | a :: l => by rw [List.map_cons, PyData.showableAll, Rp.sh, sh_all l]; rfl
theorem nd_all [Rp r] : ∀ l : List α, PyData.hasDictAll (l.map (Da.enc r)) = false
  | [] => rfl
  | a :: l => by rw [List.map_cons, PyData.hasDictAll, Rp.nd, nd_all l]; rfl
theorem lv_all [Rp r] {H : Hp} : ∀ {xs : List V} {l : List α}, A2 (r H) xs l → PyData.leavesShortAll 8 (l.map (Da.enc r)) = true
  | [], [], _ => rfl
  | _ :: _, _ :: _, h => by rw [List.map_cons, PyData.leavesShortAll, Rp.lv h.1, lv_all h.2]; rfl
  | [], _ :: _, h => h.elim
  | _ :: _, [], h => h.elim
instance [Rp r] : Rp (rT r) := ⟨fun l => by show PyData.showable (.tuple _) = true; rw [PyData.showable]; exact sh_all l, fun l => by show PyData.hasDict (.tuple _) = false; rw [PyData.hasDict]; exact nd_all l,
  fun ⟨a, xs, e, e1, e2, e3⟩ => by show PyData.leavesShort 8 (.tuple _) = true; rw [PyData.leavesShort]; exact lv_all e2⟩
instance [Rp r] : Rp (rL r) := ⟨fun l => by show PyData.showable (.list _) = true; rw [PyData.showable]; exact sh_all l, fun l => by show PyData.hasDict (.list _) = false; rw [PyData.hasDict]; exact nd_all l,
  fun ⟨a, xs, e, e1, e2, e3⟩ => by show PyData.leavesShort 8 (.list _) = true; rw [PyData.leavesShort]; exact lv_all e2⟩
instance [Rp r] [Rp r2] : Rp (rP r r2) := ⟨fun p => by show PyData.showable (.tuple [_, _]) = true; simp only [PyData.showable, PyData.showableAll, Rp.sh, Bool.and_self],
  fun p => by show PyData.hasDict (.tuple [_, _]) = false; simp only [PyData.hasDict, PyData.hasDictAll, Rp.nd, Bool.or_self],
  fun ⟨a, x, y, e, e1, e2, e3⟩ => by show PyData.leavesShort 8 (.tuple [_, _]) = true; simp only [PyData.leavesShort, PyData.leavesShortAll, Rp.lv e2, Rp.lv e3, Bool.and_self]⟩
theorem wt_all {n : Nat} : ∀ l : List α, (∀ x ∈ l, (Da.enc r x).weight ≤ n) → PyData.weightAll (l.map (Da.enc r)) ≤ l.length * (n + 1)
  | [], _ => by simp [PyData.weightAll]
  | a :: l, h => by
    have h1 := h a List.mem_cons_self
    have h2 := wt_all l fun x hx => h x (List.mem_cons_of_mem _ hx)
    rw [List.map_cons, PyData.weightAll, List.length_cons, Nat.add_mul, Nat.one_mul]
    omega
theorem wt_S {z : Str} (h : wok z = true) : (PyData.str z).weight ≤ 6 := by
  have := (wok_of h).2.1
  show z.cps.size ≤ 6
  exact this
theorem wt_O {H : Hp} {v : V} {o : Option Str} (h : rO H v o) : (Da.enc rO o).weight ≤ 6 := by
  cases o
  · show (PyData.none).weight ≤ 6
    simp [PyData.weight]
  · exact wt_S (h.2 _ rfl)
theorem wt_E {H : Hp} {v : V} {e : Entry} (h : rE H v e) : (Da.enc rE e).weight ≤ 14 := by
  obtain ⟨a, x, y, _, _, h1, h2⟩ := h
  have k1 := wt_O h1
  have k2 : (Da.enc rS e.2).weight ≤ 6 := wt_S h2.2
  show (PyData.tuple [Da.enc rO e.1, Da.enc rS e.2]).weight ≤ 14
  simp only [PyData.weight, PyData.weightAll]
  omega
theorem wt_L {H : Hp} {v : V} {l : List α} {n m : Nat} (h : rL r H v l) (k : ∀ x a, r H x a → (Da.enc r a).weight ≤ n) (hl : l.length ≤ m) (hn : m * (n + 1) ≤ 2 ^ 20) : (Da.enc (rL r) l).weight ≤ 2 ^ 20 := by
  obtain ⟨a, xs, _, _, e, _⟩ := h
  have h1 := wt_all (r := r) l (e.all k)
  have h2 : l.length * (n + 1) ≤ m * (n + 1) := Nat.mul_le_mul_right _ hl
  show PyData.weight (.list _) ≤ _
  rw [PyData.weight]
  omega
theorem wt_T {H : Hp} {v : V} {l : List α} {n m : Nat} (h : rT r H v l) (k : ∀ x a, r H x a → (Da.enc r a).weight ≤ n) (hl : l.length ≤ m) : (Da.enc (rT r) l).weight ≤ m * (n + 1) := by
  obtain ⟨a, xs, _, _, e, _⟩ := h
  have h1 := wt_all (r := r) l (e.all k)
  have h2 : l.length * (n + 1) ≤ m * (n + 1) := Nat.mul_le_mul_right _ hl
  show PyData.weight (.tuple _) ≤ _
  rw [PyData.weight]
  omega
theorem rp_R {K : PySem.W.Frag} {H : Hp} {v : V} {x : α} {Q : VK} [Rp r] (h : r H v x) (hw : (Da.enc r x).weight ≤ 2 ^ 20) (hd : PyProof.Rows.isDisplay (Da.enc r x) = true) (q : Q (.str (Da.enc r x).shown) H) (dp : Da.dep r ≤ 60 := by decide) : rRepr K [v] H Q :=
  ⟨v, _, rfl, Da.dp h, Rp.sh x, Rp.nd x, Nat.le_trans (Da.deep x) dp, PyData.shown_fits (B := 8) (by omega) (by omega) (Rp.lv h) hw, .inl hd, q⟩
theorem rp_I {K : PySem.W.Frag} {H : Hp} {i : Int} {Q : VK} (h0 : 0 ≤ i) (h9 : i ≤ 9) (q : Q (.str (PyData.int i).shown) H) : rRepr K [.int i] H Q := by
  have both : i.natAbs.log2 < 1920 ∧ (PyData.int i).shown.length ≤ 3 := by
    have c : i = 0 ∨ i = 1 ∨ i = 2 ∨ i = 3 ∨ i = 4 ∨ i = 5 ∨ i = 6 ∨ i = 7 ∨ i = 8 ∨ i = 9 := by omega
    rcases c with rfl | rfl | rfl | rfl | rfl | rfl | rfl | rfl | rfl | rfl <;> decide +kernel
  have sl : 3 ≤ sizeLine := by decide
  exact ⟨.int i, .int i, rfl, .int i, by rw [PyData.showable]; exact decide_eq_true both.1, rfl, by simp [PyData.depth], Nat.le_trans both.2 sl, .inr ⟨i, rfl, both.1⟩, q⟩
end
end Nb

/-! part X7 -/
set_option Elab.async false
set_option linter.all false
set_option maxRecDepth 100000
set_option maxHeartbeats 4000000
namespace Nb
open PySem PySem.Spec PyProof.Rows L2
/-! ### defs that raise -/
section
variable (P : Program) (w : World) (K : PySem.W.Frag) (mg : Str → Option Value) (base : Heap)
structure ClX (k : Nat) (x : Str) (sp : Sp) : Prop where
  ex : ∃ (fd : FuncData) (ps : List Str), FnOk P w K mg base (L2.CX P w) k (He.ga K x) fd ps sp ∧ mg x = some (.ref (He.ga K x)) ∧ PySem.W.keepIn K (.ref (He.ga K x)) = true ∧ Binds K fd ps []
structure MeX (k : Nat) (C : Addr) (m : Str) (sp : Sp) : Prop where
  ex : ∃ (f : Addr) (fd : FuncData) (ps : List Str), Cls K C ∧ Meth K C m f ∧ FnOk P w K mg base (L2.CX P w) k f fd ps sp ∧ Binds K fd ps []
end
section
variable {P : Program} {w : World} {K : PySem.W.Frag} {mg : Str → Option Value} {base : Heap} {x qual : Str} {st : Stmt} {f : Addr} {N ps : List Str} {k : Nat} {sp : Sp} {kws : List (Str × V)} {C : Str}
theorem clX_of (F : ∃ fd, FunD K x qual (defArgs st) (defBody st) (defScope st) [] kws (He.ga K x) fd) (sc : FnScope N ps (defScope st)) (hl : ∀ (vs : List V) (H : Hp) (Q : VK) (E : XK), sp vs H Q E → vs.length = ps.length) (hm : mg x = some (.ref (He.ga K x)))
    (hb : ∀ (kV doc pm : Value) (an : Option Addr) (cdv ct : Value) (us : List Value), us.length = ps.length → bindArgs (PySem.W.fnOf x qual (defArgs st) (defBody st) (defScope st) Value.none kV doc pm an cdv ct) { pos := us } = pure (ps.zip us))
    (h : ∀ (cdv : Value) (A : Around) (outer : List Env) (s : Shared) (H : Hp) (vs : List V) (Q : VK) (E : XK), Room k (A.deeper (envOfC qual (defScope st) s.heap.objs.size (He.ga K x) cdv)) → sp vs H Q E →
      ∃ t, PSs (cxOf (L2.CX P w) P w K mg base N qual (defScope st) (He.ga K x) cdv A outer s H E) (defBody st) t ∧ t { nx := fun _ H' => Q .non H', rt := Q } (L2.start N vs) H) : ClX P w K mg base (k + 1) x sp := by
  obtain ⟨fd, F⟩ := F
  exact ⟨fd, ps, Fun.okX (He5.fun_of F) sc hl h, hm, F.kp, F.bindsN hb⟩
theorem meX_of {m : Str} (hc : Cls K (He.ga K C)) (hm : Meth K (He.ga K C) m f) (F : ∃ fd, FunD K x qual (defArgs st) (defBody st) (defScope st) [] kws f fd) (sc : FnScope N ps (defScope st)) (hl : ∀ (vs : List V) (H : Hp) (Q : VK) (E : XK), sp vs H Q E → vs.length = ps.length)
    (hb : ∀ (kV doc pm : Value) (an : Option Addr) (cdv ct : Value) (us : List Value), us.length = ps.length → bindArgs (PySem.W.fnOf x qual (defArgs st) (defBody st) (defScope st) Value.none kV doc pm an cdv ct) { pos := us } = pure (ps.zip us))
    (h : ∀ (cdv : Value) (A : Around) (outer : List Env) (s : Shared) (H : Hp) (vs : List V) (Q : VK) (E : XK), Room k (A.deeper (envOfC qual (defScope st) s.heap.objs.size f cdv)) → sp vs H Q E →
      ∃ t, PSs (cxOf (L2.CX P w) P w K mg base N qual (defScope st) f cdv A outer s H E) (defBody st) t ∧ t { nx := fun _ H' => Q .non H', rt := Q } (L2.start N vs) H) : MeX P w K mg base (k + 1) (He.ga K C) m sp := by
  obtain ⟨fd, F⟩ := F
  exact ⟨f, fd, ps, hc, hm, Fun.okX (He5.fun_of F) sc hl h, F.bindsN hb⟩
end
section
variable {X : Cx} {j k : Nat} {x m : Str} {C : Addr} {sp : Sp} {e o : Expr} {es : List Expr} {ta te : TE} {t : TA} {p pos apos : Pos} {E : XK}
theorem pe_meX {pl : Sem Bool} (c : MeX X.prog X.w X.K X.mg X.base k C m sp) (hr : Room j X.A) (hk : k ≤ j) (hx : Passes (L2.CX X.prog X.w) X E) (he : PE X o ta) (ha : PA X (e :: es) t)
    (hst : starEach (e :: es) X.env = (false, eval e X.env) :: starEach es X.env := by rfl) (hpl : (backTo pos (starEach es X.env)).any (·.1) = false := by rfl)
    (ht : eval (.Call (.Attribute o m apos) (e :: es) [] pos) X.env = (do let ov ← eval o X.env; standAt apos.atName; let (f, first) ← holding [ov] (getMethod ov m pl); callWith pos f first (backTo pos (starEach (e :: es) X.env)) (backToKw pos (keywordEach [] X.env))) := by rfl) :
    PE X (.Call (.Attribute o m apos) (e :: es) [] pos) (tMeth C m sp [] E ta t) := by
  obtain ⟨f, fd, ps, cl, hm, F, b⟩ := c.ex
  exact pe_meth he cl hm F (hr.mono hk) b .nil hx ha hst hpl ht
theorem pe_clL {P : Program} {w : World} {K : PySem.W.Frag} {mg : Str → Option Value} {base : Heap} {i : Nat} (c : ClX P w K mg base k m sp) (hr : Room j X.A) (hk : k ≤ j) (hN : X.N[i]? = some x) (hv : Vis X.env.scope x) (hx : Passes (L2.CX X.prog X.w) X E) (ha : PA X (e :: es) t)
    (h1 : X.prog = P := by rfl) (h2 : X.w = w := by rfl) (h3 : X.K = K := by rfl) (h4 : X.mg = mg := by rfl) (h5 : X.base = base := by rfl)
    (hdb : (x == ("__debug__" : Str)) = false := by decide) (hcd : (x == ("__classdict__" : Str)) = false := by decide)
    (he : starEach (e :: es) X.env = (false, eval e X.env) :: starEach es X.env := by rfl) (hpl : (backTo pos (starEach es X.env)).any (·.1) = false := by rfl) : PE X (.Call (.Name x p) (e :: es) [] pos) (tCallL i (He.ga K m) sp [] E t) := by
  subst h1 h2 h3 h4 h5
  obtain ⟨fd, ps, F, hm, kp, b⟩ := c.ex
  exact pe_callL F (hr.mono hk) hN hv kp b .nil hx ha hdb hcd he hpl
end
end Nb

/-! part D31 -/
set_option Elab.async false
set_option linter.all false
set_option maxRecDepth 100000
set_option maxHeartbeats 4000000
namespace Nb
open PySem PySem.Spec PyProof.Rows L2
local macro_rules | `(tactic| walk_at "S") => `(tactic| (try simp only [tSeq, tNext, tRet, tIfS, tDrop, tAsg, gName, tFor_eq, tWhile_eq, tLc_eq, tLc2_eq, tDc_eq, sFld_eq, sDPut_eq, tPar, tPar3, tC, tVar, tCB, tOp, tTup, tLst, tChain, tDGet_eq, tDGet2, tAndV, tOrV, tNotV, tIf, tLstRg, tRg1, tDisp, tPairs, tUn, rU, tTest, tNot, tB, tAnd, tOr, tYes, tSl, tPart, tNoPart, tRevL, tM1, tDNewK, tDNewT, gCons_c, gNil_n, gSub, gTup_eq, iRng1_eq, iList_eq, iTup_eq, iSeq_eq, iStr, iKeys_eq, iVals_eq, iEnum_eq, cx_K, tCons, tNil, tBM, tCall, tMake, tProp_eq, tMeth_eq, tFld_eq, tStar_eq, iZipM_eq, tDisp1, L2.start, List.map_cons, List.map_nil, List.length_cons, List.length_nil, List.cons_append, List.nil_append, List.append_nil, List.getElem?_cons_zero, List.getElem?_cons_succ, List.set_cons_zero, List.set_cons_succ, Option.some.injEq, exists_eq_left', exists_eq_left, V.bl.injEq, V.int.injEq, V.str.injEq, V.ref.injEq, if_true, if_false, Nat.reduceAdd, Nat.reduceSub, List.replicate_succ, List.replicate_zero, Bool.not_true, Bool.not_false, Bool.false_eq_true, if_neg, not_false_eq_true, wipe]))
local macro_rules | `(tactic| walk_at "G") => `(tactic| (walk_at "S"; repeat ((first | with_reducible refine o_add ?_ | with_reducible refine o_sub ?_ | with_reducible refine o_mul ?_ | with_reducible refine o_lt ?_ | with_reducible refine o_le ?_ | with_reducible refine o_gt ?_ | with_reducible refine o_ge ?_ | with_reducible refine o_eqI ?_ | with_reducible refine o_neI ?_ | with_reducible refine o_eqS ?_ | with_reducible refine o_neS ?_ | with_reducible refine o_isN ?_ | with_reducible refine o_notN ?_ | with_reducible refine i_int ?_ | with_reducible refine i_intB ?_ | with_reducible refine i_str ?_); walk_at "S")))
section
variable {P : Program} {w : World} {K : PySem.W.Frag} {mg : Str → Option Value} {base : Heap}
theorem crR {j : Nat} {X : Cx} (T : Tx P w K mg) (hg : X.A.guards = some []) (hr : Room j X.A) (h3 : X.K = K := by rfl) : CallR X (.builtin "repr") (rRepr K) := by
  subst h3
  exact call_reprD hg (by have := hr.un; omega)
theorem o_eqDD {H : Hp} {x y : V} {Q : VK} {m : List (Str × List Int)} (h1 : rD (rT rI) H x m) (h2 : rD (rT rI) H y m) (hd : ∀ p ∈ m, p.2.length ≤ 5) (q : Q (.bl true) H) : rOp P w K mg (compareOp .Eq) x y H Q := fun X L => by
  obtain ⟨a, ks, rfl, e1, k1, nd, ln1⟩ := h1
  obtain ⟨b, ls, rfl, e2, k2, nd2, ln2⟩ := h2
  refine ⟨_, op_eqDD (by have := L.un; omega), a, b, ks, ls, rfl, rfl, e1, e2, by rw [k1.len, k2.len], fun p hp => ?_, q⟩
  obtain ⟨i, hi⟩ := List.mem_iff_getElem?.mp hp
  obtain ⟨c, hc, e3, hw, r3⟩ := k1.at hi
  have lk : List.lookup c.1 m = some c.2 := by
    have hm := List.mem_of_getElem? hc
    clear hc k1 k2 hi r3 hd ln1 ln2 nd2
    induction m with
    | nil => simp at hm
    | cons z m ih =>
      rw [List.lookup_cons]
      rcases List.mem_cons.mp hm with rfl | hm
      · simp
      · rw [List.map_cons, List.nodup_cons] at nd
        have n1 : c.1 ≠ z.1 := fun y => nd.1 (y ▸ List.mem_map.mpr ⟨c, hm, rfl⟩)
        rw [show (c.1 == z.1) = false from beq_eq_false_iff_ne.mpr n1]
        exact ih nd.2 hm
  obtain ⟨u, h4, h5⟩ := look_A2 (R := rT rI H) k2 lk
  refine ⟨u, Da.enc (rT rI) c.2, by rw [e3]; exact h4, L.kk ▸ Da.dp r3, L.kk ▸ Da.dp h5, ?_, Nat.le_trans (Da.deep (r := rT rI) c.2) (by decide), Da.inj.mpr rfl⟩
  show PyData.plain (.tuple (c.2.map PyData.int)) = true
  rw [PyData.plain]
  generalize c.2 = l
  induction l with
  | nil => rfl
  | cons z l ih => rw [List.map_cons, PyData.plainAll, ih]; rfl
def sp_Machine_eq (K : PySem.W.Frag) : Sp := fun vs H Q _ => match vs with
  | [x, y] => ∃ M, rM K H x M ∧ rM K H y M ∧ Q (.bl true) H
  | _ => False
theorem sc_Machine_eq : FnScope ["self", "other"] ["self", "other"] (defScope s_Machine_eq) := ⟨rfl, rfl, rfl, by decide +kernel, rfl, by decide +kernel, by decide +kernel⟩
theorem sp_Machine_eq_len : ∀ (vs : List V) (H : Hp) (Q : VK) (E : XK), (sp_Machine_eq K) vs H Q E → vs.length = 2
  | [_, _], _, _, _, _ => rfl
  | [], _, _, _, h => h.elim
  | [_], _, _, _, h => h.elim
  | _ :: _ :: _ :: _, _, _, _, h => h.elim
theorem me_Machine_eq (T : Tx P w K mg) : Me P w K mg base 1 (He.ga K "Machine") "__eq__" (sp_Machine_eq K) := by
  refine me_of (st := s_Machine_eq) (qual := "Machine.__eq__") (kws := []) (He.cls_ok (T.c.fact 130 rfl)) (He.meth_ok (T.c.fact 149 rfl)) (T.c.def_ 9 (d := d_Machine_eq) rfl) sc_Machine_eq sp_Machine_eq_len (fun _ _ _ _ _ _ us hl => match us, hl with | [_, _], _ => rfl) (fun cdv A outer s H vs Q E hr h => ⟨_, (pss_cons (ps_if (pt_not (pt_val (pe_callB (cl_any (f := .builtin "isinstance") T hr) rfl (T.free 108 rfl) (by decide +kernel) (pa_cons (pv 1) (pa_cons (pe_glob (v := .ref (He.ga K "Machine")) rfl (T.glo 18 rfl) rfl) pa_nil))))) (pss_one (ps_ret pe_bl)) pss_nil)
  (pss_one (ps_ret (pe_and (pe_cmpR (op_any T hr) (pe_fd T (pv 0) rfl) (pe_fd T (pv 1) rfl) (nomark _)) (pe_one (pe_cmpR (op_any T hr) (pe_fd T (pv 0) rfl) (pe_fd T (pv 1) rfl) (nomark _))))))), ?_⟩)
  obtain ⟨a0, a1, rfl⟩ := len2 (sp_Machine_eq_len _ _ _ _ h)
  obtain ⟨M, h1, h2, q⟩ := h
  walk_at "S"
  refine iM T h2 ?_
  walk_at "S"
  refine fM_seen T h1 fun y1 k1 => ?_
  refine fM_seen T h2 fun y2 k2 => ?_
  refine o_eqR (r := rT rI) k1 k2 ?_
  rw [decide_eq_true rfl]
  walk_at "S"
  refine fM_deeds T h1 fun y1 k1 => ?_
  refine fM_deeds T h2 fun y2 k2 => ?_
  have hi := h1.2.hi
  exact o_eqDD k1 k2 (fun p hp => by rw [(h1.2.ok p hp).1]; exact hi) q
theorem ne_M {H : Hp} {x y : V} {Q : VK} {M : Mach} (h1 : rM K H x M) (h2 : rM K H y M) (q : Q (.bl false) H) : rNeOwn (He.ga K "Machine") (sp_Machine_eq K) x y H Q := by
  obtain ⟨⟨a, dx, s, d, g, rfl, e, _⟩, _⟩ := id h1
  obtain ⟨⟨a', dx', s', d', g', rfl, e', _⟩, _⟩ := id h2
  exact ⟨a, a', dx, dx', _, _, rfl, rfl, e, e', M, h1, h2, true, rfl, q⟩
theorem wt_H {H : Hp} {v : V} {l : List Deed} (h : rL rDe H v l) (k : ∀ d ∈ l, d.length ≤ 3) (hl : l.length ≤ 100) : (Da.enc (rL rDe) l).weight ≤ 2 ^ 20 := by
  obtain ⟨a, xs, _, _, e, _⟩ := h
  have key : ∀ d ∈ l, d.length ≤ 3 → (Da.enc rDe d).weight ≤ 21 := e.all fun x d r hd => wt_T (n := 6) (m := 3) r (fun _ _ z => wt_O z) hd
  have h1 := wt_all (r := rDe) (n := 21) l fun d hd => key d hd (k d hd)
  have h2 : l.length * 22 ≤ 100 * 22 := Nat.mul_le_mul_right _ hl
  show PyData.weight (.list _) ≤ _
  rw [PyData.weight]
  have h3 : (100 : Nat) * 22 ≤ 2 ^ 20 := by decide
  omega
def sp__law_is_so (K : PySem.W.Frag) : Sp := fun vs H Q _ => match vs with
  | [x, y, z] => ∃ a L bg m, rMo H x m ∧ y = .ref a ∧ LiveA K H a L bg ∧ L.M = mach m ∧ rH H z (L.cur.1, L.cur.2, L.steps.map Prod.fst) ∧ L.cur.1.length ≤ 10 ∧ L.steps.length ≤ 100 ∧ (∀ s ∈ L.steps, s.1.length ≤ 3) ∧ (folk L.cur.1).length ≤ 2 ∧ okRows m.2 L.cur.1 ∧ 0 ≤ L.cur.2 ∧ L.cur.2 ≤ 2 ∧ PuV (.bl true) Q H
  | _ => False
theorem sc__law_is_so : FnScope ["_law_model_here", "_law_live_here", "_law_here"] ["_law_model_here", "_law_live_here", "_law_here"] (defScope s__law_is_so) := ⟨rfl, rfl, rfl, by decide +kernel, rfl, by decide +kernel, by decide +kernel⟩
theorem sp__law_is_so_len : ∀ (vs : List V) (H : Hp) (Q : VK) (E : XK), (sp__law_is_so K) vs H Q E → vs.length = 3
  | [_, _, _], _, _, _, _ => rfl
  | [], _, _, _, h => h.elim
  | [_], _, _, _, h => h.elim
  | [_, _], _, _, _, h => h.elim
  | _ :: _ :: _ :: _ :: _, _, _, _, h => h.elim
theorem calg__law_is_so (T : Tx P w K mg) : ClG P w K mg base 8 "_law_is_so" (sp__law_is_so K) := by
  refine clG_of (st := s__law_is_so) (qual := "_law_is_so") (kws := []) (T.c.def_ 102 (d := d__law_is_so) rfl) sc__law_is_so sp__law_is_so_len (T.glo 92 rfl) (fun _ _ _ _ _ _ us hl => match us, hl with | [_, _, _], _ => rfl) (fun cdv A outer s H vs Q hgd hcd lk hr h => ⟨_, (pss_cons (ps_if (PW.pt (pw_or (pt_cmpR (op_neM (me_Machine_eq T) T.ne_M T.insM.hm hr (by decide)) (pe_pr (pr_Live_machine T) hr (by decide) (pv 1) rfl) (pe_cl (cal__law_made T) hr (by decide) rfl (pa_cons (pv 0) pa_nil)) (nomark _)) (pw_or1 (pt_cmpR (op_any T hr) (pe_callB (crR T hgd hr) rfl (T.free 114 rfl) (by decide +kernel) (pa_cons (pe_pr (pr_Live_few T) hr (by decide) (pv 1) rfl) pa_nil)) (pe_callB (crR T hgd hr) rfl (T.free 114 rfl) (by decide +kernel) (pa_cons (pe_dget (hu_of hr) (pv 2) pe_str (fun _ _ => rfl)) pa_nil)) (nomark _))))) (pss_one (ps_ret pe_bl)) pss_nil)
  (pss_cons (ps_if (PW.pt (pw_or (pt_cmpR (op_any T hr) (pe_callB (crR T hgd hr) rfl (T.free 114 rfl) (by decide +kernel) (pa_cons (pe_pr (pr_Live_log T) hr (by decide) (pv 1) rfl) pa_nil)) (pe_callB (crR T hgd hr) rfl (T.free 114 rfl) (by decide +kernel) (pa_cons (pe_dget (hu_of hr) (pv 2) pe_str (fun _ _ => rfl)) pa_nil)) (nomark _)) (pw_or1 (pt_cmpR (op_any T hr) (pe_callB (crR T hgd hr) rfl (T.free 114 rfl) (by decide +kernel) (pa_cons (pe_pr (pr_Live_history T) hr (by decide) (pv 1) rfl) pa_nil)) (pe_callB (crR T hgd hr) rfl (T.free 114 rfl) (by decide +kernel) (pa_cons (pe_dget (hu_of hr) (pv 2) pe_str (fun _ _ => rfl)) pa_nil)) (nomark _))))) (pss_one (ps_ret pe_bl)) pss_nil)
  (pss_cons (ps_if (pt_cmpR (op_any T hr) (pe_callB (crR T hgd hr) rfl (T.free 114 rfl) (by decide +kernel) (pa_cons (pe_pr (pr_Live_people T) hr (by decide) (pv 1) rfl) pa_nil)) (pe_callB (crR T hgd hr) rfl (T.free 114 rfl) (by decide +kernel) (pa_cons (pe_callTy (cl_any (f := .type "tuple") T hr) rfl (T.free 119 rfl) (by decide +kernel) (pa_cons (pe_cl (cal__law_folk T) hr (by decide) rfl (pa_cons (pe_dget (hu_of hr) (pv 2) pe_str (fun _ _ => rfl)) pa_nil)) pa_nil)) pa_nil)) (nomark _)) (pss_one (ps_ret pe_bl)) pss_nil)
  (pss_one (ps_ret (pe_cmpR (op_any T hr) (pe_callB (crR T hgd hr) rfl (T.free 114 rfl) (by decide +kernel) (pa_cons (pe_pr (pr_Live_seen T) hr (by decide) (pv 1) rfl) pa_nil)) (pe_callB (crR T hgd hr) rfl (T.free 114 rfl) (by decide +kernel) (pa_cons (pe_cl (cal__law_truth T) hr (by decide) rfl (pa_cons (pv 0) (pa_cons (pe_dget (hu_of hr) (pv 2) pe_str (fun _ _ => rfl)) (pa_cons (pe_tup pa_nil) pa_nil)))) pa_nil)) (nomark _))))))), ?_⟩)
  obtain ⟨a0, a1, a2, rfl⟩ := len3 (sp__law_is_so_len _ _ _ _ h)
  obtain ⟨a, L, bg, m, hm, rfl, hL, eM, hz, n10, n100, n3, n2, ok, f0, f2, q⟩ := h
  have OM := mach_ok hm.2
  walk_at "S"
  refine hL.pr ⟨a, L, bg, rfl, hL, fun v1 k1 => ?_⟩
  rw [eM] at k1
  refine ⟨m, hm, fun v2 H1 s1 k2 => ?_⟩
  refine ne_M (Mo.mo s1 k1) k2 ?_
  walk_at "S"
  have hL1 := hL.mo s1
  refine hL1.pr ⟨a, L, bg, rfl, hL1, fun H2 s2 => ?_⟩
  have s12 := s1.trans s2
  refine rp_I f0 (show L.cur.2 ≤ 9 by omega) ?_
  refine gH_few (Mo.mo s12 hz) ?_
  refine rp_I f0 (show L.cur.2 ≤ 9 by omega) ?_
  refine o_neS ?_
  rw [decide_eq_true rfl]
  walk_at "S"
  have hL2 := hL.mo s12
  refine hL2.pr ⟨a, L, bg, rfl, hL2, fun l3 H3 s3 hl3 k3 => ?_⟩
  have s13 := s12.trans s3
  have w3 := wt_L (m := 10) (n := 14) k3 (fun _ _ z => wt_E z) n10 (by decide)
  refine rp_R k3 w3 rfl ?_
  refine gH_rows (Mo.mo s13 hz) fun y4 k4 => ?_
  refine rp_R k4 w3 rfl ?_
  refine o_neS ?_
  rw [decide_eq_true rfl]
  walk_at "S"
  have hL3 := hL.mo s13
  refine hL3.pr ⟨a, L, bg, rfl, hL3, fun l5 H5 s5 hl5 k5 => ?_⟩
  have s15 := s13.trans s5
  have w5 := wt_H k5 (fun d hd => by
    obtain ⟨z, h1, rfl⟩ := List.mem_map.mp hd
    exact n3 z h1) (by rw [List.length_map]; exact n100)
  refine rp_R k5 w5 rfl ?_
  refine gH_deeds (Mo.mo s15 hz) fun y6 k6 => ?_
  refine rp_R k6 w5 rfl ?_
  refine o_neS ?_
  rw [decide_eq_true rfl]
  walk_at "S"
  have hL5 := hL.mo s15
  refine hL5.pr ⟨a, L, bg, rfl, hL5, by omega, fun l7 H7 s7 k7 => ?_⟩
  have s17 := s15.trans s7
  have w7 : (Da.enc (rT rS) (folk L.cur.1)).weight ≤ 2 ^ 20 := Nat.le_trans (wt_T (n := 6) (m := 2) k7 (fun _ _ z => wt_S z.2) n2) (by decide)
  refine rp_R k7 w7 rfl ?_
  refine gH_rows (Mo.mo s17 hz) fun y8 k8 => ?_
  refine ⟨L.cur.1, k8, by omega, fun l9 H9 s9 hl9 k9 => ?_⟩
  refine c_tupRL k9 fun p10 H10 s10 hp10 k10 => ?_
  have s110 := (s17.trans s9).trans s10
  refine rp_R k10 w7 rfl ?_
  refine o_neS ?_
  rw [decide_eq_true rfl]
  walk_at "S"
  have hL10 := hL.mo s110
  have ok' : okRows L.M.deeds L.cur.1 := by rw [eM]; exact ok
  refine hL10.pr ⟨a, L, bg, rfl, hL10, ok', fun H11 s11 => ?_⟩
  rw [eM]
  have hs0 : inN m.1.length (behind m.2 L.cur.1 []) := behind_ok (by have := hm.2.lo; omega) hm.2.ok ok
  have hg := hm.2.sh _ (gi_mem hs0.1 hs0.2)
  refine rp_I (i := gi m.1 (behind m.2 L.cur.1 [])) hg.1 hg.2 ?_
  have s111 := s110.trans s11
  refine gH_rows (Mo.mo s111 hz) fun y12 k12 => ?_
  refine ⟨by decide, fun t13 ht13 => ?_⟩
  have s13' : Same H11 (upd H11 t13 (.tup [])) := same_new (same_refl _) ht13
  have k13 : rT rS (upd H11 t13 (.tup [])) (.ref t13) [] := ⟨t13, [], rfl, upd_same, trivial, by decide⟩
  generalize upd H11 t13 (.tup []) = H13 at s13' k13
  refine ⟨m, L.cur.1, [], Mo.mo (s111.trans s13') hm, Mo.mo s13' k12, k13, ok, fun H14 s14 => ?_⟩
  refine rp_I (i := gi m.1 (behind m.2 L.cur.1 [])) hg.1 hg.2 ?_
  refine o_eqS ?_
  rw [decide_eq_true rfl]
  exact q _ ((s111.trans s13').trans s14)
end
end Nb

/-! part D32 -/
set_option Elab.async false
set_option linter.all false
set_option maxRecDepth 100000
set_option maxHeartbeats 4000000
namespace Nb
open PySem PySem.Spec PyProof.Rows L2
local macro_rules | `(tactic| walk_at "S") => `(tactic| (try simp only [tSeq, tNext, tRet, tIfS, tDrop, tAsg, gName, tFor_eq, tWhile_eq, tLc_eq, tLc2_eq, tDc_eq, sFld_eq, sDPut_eq, tPar, tPar3, tC, tVar, tCB, tOp, tTup, tLst, tChain, tDGet_eq, tDGet2, tAndV, tOrV, tNotV, tIf, tLstRg, tRg1, tDisp, tPairs, tUn, rU, tTest, tNot, tB, tAnd, tOr, tYes, tSl, tPart, tNoPart, tRevL, tM1, tDNewK, tDNewT, gCons_c, gNil_n, gSub, gTup_eq, iRng1_eq, iList_eq, iTup_eq, iSeq_eq, iStr, iKeys_eq, iVals_eq, iEnum_eq, cx_K, tCons, tNil, tBM, tCall, tMake, tProp_eq, tMeth_eq, tFld_eq, tStar_eq, iZipM_eq, tDisp1, L2.start, List.map_cons, List.map_nil, List.length_cons, List.length_nil, List.cons_append, List.nil_append, List.append_nil, List.getElem?_cons_zero, List.getElem?_cons_succ, List.set_cons_zero, List.set_cons_succ, Option.some.injEq, exists_eq_left', exists_eq_left, V.bl.injEq, V.int.injEq, V.str.injEq, V.ref.injEq, if_true, if_false, Nat.reduceAdd, Nat.reduceSub, List.replicate_succ, List.replicate_zero, Bool.not_true, Bool.not_false, Bool.false_eq_true, if_neg, not_false_eq_true, wipe]))
local macro_rules | `(tactic| walk_at "G") => `(tactic| (walk_at "S"; repeat ((first | with_reducible refine o_add ?_ | with_reducible refine o_sub ?_ | with_reducible refine o_mul ?_ | with_reducible refine o_lt ?_ | with_reducible refine o_le ?_ | with_reducible refine o_gt ?_ | with_reducible refine o_ge ?_ | with_reducible refine o_eqI ?_ | with_reducible refine o_neI ?_ | with_reducible refine o_eqS ?_ | with_reducible refine o_neS ?_ | with_reducible refine o_isN ?_ | with_reducible refine o_notN ?_ | with_reducible refine i_int ?_ | with_reducible refine i_intB ?_ | with_reducible refine i_str ?_); walk_at "S")))
section
variable {P : Program} {w : World} {K : PySem.W.Frag} {mg : Str → Option Value} {base : Heap}
/-- what forget wishes of a live log -/
structure Fgt (L : Lv) : Prop where
  ok : okRows L.M.deeds L.cur.1
  n3 : (folk L.cur.1).length ≤ 3
  f0 : 0 ≤ L.cur.2
  f3 : L.cur.2 ≤ 3
  pw : L.M.seen.length ^ (lots (folk L.cur.1) L.cur.2).length ≤ 4096
  st : L.steps.length < 1000
def sp__law_fails (K : PySem.W.Frag) : Sp := fun vs H _ E => match vs with
  | [x] => ∃ a L bg, x = .ref a ∧ LiveA K H a L bg ∧ Fgt L ∧ ∀ H', SameBut a H H' → LiveA K H' a L bg → E (.ref (He.ga K "NothingDone")) none H'
  | _ => False
theorem sc__law_fails : FnScope ["_law_same"] ["_law_same"] (defScope s__law_fails) := ⟨rfl, rfl, rfl, by decide +kernel, rfl, by decide +kernel, by decide +kernel⟩
theorem sp__law_fails_len : ∀ (vs : List V) (H : Hp) (Q : VK) (E : XK), (sp__law_fails K) vs H Q E → vs.length = 1
  | [_], _, _, _, _ => rfl
  | [], _, _, _, h => h.elim
  | _ :: _ :: _, _, _, _, h => h.elim
theorem clx__law_fails (T : Tx P w K mg) : ClX P w K mg base 7 "_law_fails" (sp__law_fails K) := by
  have ex := He.exc_ok (T.c.fact 163 rfl)
  refine clX_of (st := s__law_fails) (qual := "_law_fails") (kws := []) (T.c.def_ 103 (d := d__law_fails) rfl) sc__law_fails sp__law_fails_len (T.glo 93 rfl) (fun _ _ _ _ _ _ us hl => match us, hl with | [_], _ => rfl)
    (fun cdv A outer s H vs Q E hr h => ⟨_, pss_cons (ps_expr (pe_me0 (me_Live_forget T) hr (by decide) (pv 0))) (pss_cons (ps_expr (pe_me0 (me_Live_undo T) hr (by decide) (pv 0)))
      (pss_one (ps_raise rfl (takes_of rfl rfl rfl rfl) (pmk_own PySem.F.excBase_ValueError ex.1 (T.glo 9 rfl) ex.2.1 (raises_own ex.2.2.1 ex.2.2.2) rfl)))), ?_⟩)
  obtain ⟨a0, rfl⟩ := len1 (sp__law_fails_len _ _ _ _ h)
  obtain ⟨a, L, bg, rfl, hL, fg, q⟩ := h
  walk_at "S"
  refine hL.me (nolook (by decide +kernel)) ?_
  refine ⟨a, L, bg, rfl, hL, fg.ok, fg.n3, fg.f0, fg.f3, fg.pw, fg.st, fun k hk H1 b1 k1 => ?_⟩
  walk_at "S"
  refine k1.me (nolook (by decide +kernel)) ?_
  refine ⟨a, _, bg, rfl, k1, by simp [stepL], fun H2 b2 k2 => ?_⟩
  refine q H2 (fun c o n z => b2 c o n (b1 c o n z)) ?_
  have e : (stepL L [some "forget"] (short L.M L.cur.1 L.cur.2 k, L.cur.2)).steps.dropLast = L.steps := by simp [stepL]
  rw [e] at k2
  exact k2
end
end Nb

/-! part D33 -/
set_option Elab.async false
set_option linter.all false
set_option maxRecDepth 100000
set_option maxHeartbeats 4000000
namespace Nb
open PySem PySem.Spec PyProof.Rows L2
local macro_rules | `(tactic| walk_at "S") => `(tactic| (try simp only [tSeq, tNext, tRet, tIfS, tDrop, tAsg, gName, tFor_eq, tWhile_eq, tLc_eq, tLc2_eq, tDc_eq, sFld_eq, sDPut_eq, tPar, tPar3, tC, tVar, tCB, tOp, tTup, tLst, tChain, tDGet_eq, tDGet2, tAndV, tOrV, tNotV, tIf, tLstRg, tRg1, tDisp, tPairs, tUn, rU, tTest, tNot, tB, tAnd, tOr, tYes, tSl, tPart, tNoPart, tRevL, tM1, tDNewK, tDNewT, gCons_c, gNil_n, gSub, gTup_eq, iRng1_eq, iList_eq, iTup_eq, iSeq_eq, iStr, iKeys_eq, iVals_eq, iEnum_eq, cx_K, tCons, tNil, tBM, tCall, tMake, tProp_eq, tMeth_eq, tFld_eq, tStar_eq, iZipM_eq, tDisp1, L2.start, List.map_cons, List.map_nil, List.length_cons, List.length_nil, List.cons_append, List.nil_append, List.append_nil, List.getElem?_cons_zero, List.getElem?_cons_succ, List.set_cons_zero, List.set_cons_succ, Option.some.injEq, exists_eq_left', exists_eq_left, V.bl.injEq, V.int.injEq, V.str.injEq, V.ref.injEq, if_true, if_false, Nat.reduceAdd, Nat.reduceSub, List.replicate_succ, List.replicate_zero, Bool.not_true, Bool.not_false, Bool.false_eq_true, if_neg, not_false_eq_true, wipe]))
local macro_rules | `(tactic| walk_at "G") => `(tactic| (walk_at "S"; repeat ((first | with_reducible refine o_add ?_ | with_reducible refine o_sub ?_ | with_reducible refine o_mul ?_ | with_reducible refine o_lt ?_ | with_reducible refine o_le ?_ | with_reducible refine o_gt ?_ | with_reducible refine o_ge ?_ | with_reducible refine o_eqI ?_ | with_reducible refine o_neI ?_ | with_reducible refine o_eqS ?_ | with_reducible refine o_neS ?_ | with_reducible refine o_isN ?_ | with_reducible refine o_notN ?_ | with_reducible refine i_int ?_ | with_reducible refine i_intB ?_ | with_reducible refine i_str ?_); walk_at "S")))
section
variable {P : Program} {w : World} {K : PySem.W.Frag} {mg : Str → Option Value} {base : Heap}
theorem fm_Live_exit (T : Tx P w K mg) : FnM P w K mg base (He.ma K (He.ga K "Live") "__exit__") (sp_Live_exit K) := by
  refine fm_of (st := s_Live_exit) (qual := "Live.__exit__") (kws := []) (T.c.def_ 68 (d := d_Live_exit) rfl) sc_Live_exit sp_Live_exit_len (fun _ _ _ _ _ _ us hl => match us, hl with | [_, _, _, _], _ => rfl)
    (fun cdv A outer s H vs Q h => ⟨_, (pss_cons (ps_if (pt_cmpR op_notN (pv 1) pe_non (nomark _)) (pss_one (ps_fld (pv 0) (pe_fd T (pe_fd T (pv 0) rfl) rfl) rfl)) pss_nil)
  (pss_one (ps_fld (pv 0) (pe_fd T (pe_fd T (pv 0) rfl) rfl) rfl))), ?_⟩)
  obtain ⟨a0, a1, a2, a3, rfl⟩ := len4 (sp_Live_exit_len _ _ _ _ h)
  obtain ⟨a, L, b, ss, bg, rfl, hL, hb, hk, q⟩ := h
  walk_at "S"
  refine ⟨trivial, ?_⟩
  rw [decide_eq_false hk]
  walk_at "S"
  obtain ⟨dxb, st, eb, ks⟩ := hb
  refine fL_begun T hL ?_
  refine fl_a eb T.cl_Begun T.na_Begun_had_steps rfl ?_
  refine set_steps T hL ks fun H1 b1 k1 => ?_
  walk_at "S"
  have hba : b ≠ a := by
    obtain ⟨dx', m, st', e, _⟩ := hL
    exact ne_of eb e fun z => by injection z with _ _ z; exact absurd z.symm om_hs
  refine fL_begun T k1 ?_
  refine fl_a (b1 _ _ hba eb) T.cl_Begun T.na_Begun_around rfl ?_
  refine set_begun T k1 fun H2 b2 k2 => ?_
  exact q H2 (fun c u n e => b2 c u n (b1 c u n e)) k2
def sp_Live_tried (K : PySem.W.Frag) : Sp := fun vs H _ E => match vs with
  | [x, y] => ∃ a L bg, x = .ref a ∧ y = .ref (He.ga K "_law_fails") ∧ LiveA K H a L bg ∧ Fgt L ∧ ∀ H', SameBut a H H' → LiveA K H' a L bg → E (.ref (He.ga K "NothingDone")) none H'
  | _ => False
theorem sc_Live_tried : FnScope ["self", "work"] ["self", "work"] (defScope s_Live_tried) := ⟨rfl, rfl, rfl, by decide +kernel, rfl, by decide +kernel, by decide +kernel⟩
theorem sp_Live_tried_len : ∀ (vs : List V) (H : Hp) (Q : VK) (E : XK), (sp_Live_tried K) vs H Q E → vs.length = 2
  | [_, _], _, _, _, _ => rfl
  | [], _, _, _, h => h.elim
  | [_], _, _, _, h => h.elim
  | _ :: _ :: _ :: _, _, _, _, h => h.elim
theorem begA_but {H H' : Hp} {a b : Addr} {L : Lv} {bg bg' : V} {ss : List (Deed × Stt)} (s : SameBut a H H') (hL : LiveA K H a L bg') (h : BegA K H b ss bg) : BegA K H' b ss bg := by
  obtain ⟨dx, st, eb, ks⟩ := h
  obtain ⟨dx', m, st', e, _⟩ := hL
  have hba : b ≠ a := ne_of eb e fun z => by injection z with _ _ z; exact absurd z.symm om_hs
  exact ⟨dx, st, s _ _ hba eb, but_Ss s e lf2 ks⟩
theorem mex_Live_tried (T : Tx P w K mg) : MeX P w K mg base 9 (He.ga K "Live") "tried" (sp_Live_tried K) := by
  obtain ⟨fe, fd, ps, cl, hE, FE, bE⟩ := (me_Live_enter (base := base) T).ex
  refine meX_of (st := s_Live_tried) (qual := "Live.tried") (kws := []) (He.cls_ok (T.c.fact 136 rfl)) (He.meth_ok (T.c.fact 160 rfl)) (T.c.def_ 66 (d := d_Live_tried) rfl) sc_Live_tried sp_Live_tried_len (fun _ _ _ _ _ _ us hl => match us, hl with | [_, _], _ => rfl)
    (fun cdv A outer s H vs Q E hr h => ⟨_, pss_one (ps_with (k := 8) rfl rfl rfl (takes_of rfl rfl rfl rfl) (pv 0) hE (He.meth_ok (T.c.fact 162 rfl)) (FE.mono (by decide)) hr bE (fm_Live_exit T)
      (fun W pn xe tk => pss_one (ps_ret (pe_clL (P := P) (w := w) (K := K) (mg := mg) (base := base) (i := 1) (E := fun cls d H => ∀ σ, W cls d σ H) (clx__law_fails T) hr (by decide) rfl (.inl rfl) (passes_call tk fun cls d σ H h => h σ) (pa_cons (pv 0) pa_nil))))), ?_⟩)
  obtain ⟨a0, a1, rfl⟩ := len2 (sp_Live_tried_len _ _ _ _ h)
  obtain ⟨a, L, bg, rfl, rfl, hL, fg, q⟩ := h
  walk_at "S"
  obtain ⟨dx, mm, st, ea, _⟩ := id hL
  refine ⟨a, dx, _, rfl, ea, a, L, bg, rfl, hL, fun b H1 b1 hb k1 kb => ?_⟩
  refine ⟨rfl, ?_⟩
  walk_at "S"
  refine ⟨a, L, .ref b, rfl, k1, fg, fun H2 b2 k2 σ => ?_⟩
  refine ⟨_, rfl, fun e tb => ⟨a, L, b, L.steps, bg, rfl, k2, begA_but b2 k1 kb, nofun, fun H3 b3 k3 => ⟨rfl, ?_⟩⟩⟩
  exact q H3 (fun c u n z => b3 c u n (b2 c u n (b1 c u n z))) k3
end
end Nb

/-! part D34 -/
set_option Elab.async false
set_option linter.all false
set_option maxRecDepth 100000
set_option maxHeartbeats 4000000
namespace Nb
open PySem PySem.Spec PyProof.Rows L2
local macro_rules | `(tactic| walk_at "S") => `(tactic| (try simp only [tSeq, tNext, tRet, tIfS, tDrop, tAsg, gName, tFor_eq, tWhile_eq, tLc_eq, tLc2_eq, tDc_eq, sFld_eq, sDPut_eq, tPar, tPar3, tC, tVar, tCB, tOp, tTup, tLst, tChain, tDGet_eq, tDGet2, tAndV, tOrV, tNotV, tIf, tLstRg, tRg1, tDisp, tPairs, tUn, rU, tTest, tNot, tB, tAnd, tOr, tYes, tSl, tPart, tNoPart, tRevL, tM1, tDNewK, tDNewT, gCons_c, gNil_n, gSub, gTup_eq, iRng1_eq, iList_eq, iTup_eq, iSeq_eq, iStr, iKeys_eq, iVals_eq, iEnum_eq, cx_K, tCons, tNil, tBM, tCall, tMake, tProp_eq, tMeth_eq, tFld_eq, tStar_eq, iZipM_eq, tDisp1, L2.start, List.map_cons, List.map_nil, List.length_cons, List.length_nil, List.cons_append, List.nil_append, List.append_nil, List.getElem?_cons_zero, List.getElem?_cons_succ, List.set_cons_zero, List.set_cons_succ, Option.some.injEq, exists_eq_left', exists_eq_left, V.bl.injEq, V.int.injEq, V.str.injEq, V.ref.injEq, if_true, if_false, Nat.reduceAdd, Nat.reduceSub, List.replicate_succ, List.replicate_zero, Bool.not_true, Bool.not_false, Bool.false_eq_true, if_neg, not_false_eq_true, wipe]))
local macro_rules | `(tactic| walk_at "G") => `(tactic| (walk_at "S"; repeat ((first | with_reducible refine o_add ?_ | with_reducible refine o_sub ?_ | with_reducible refine o_mul ?_ | with_reducible refine o_lt ?_ | with_reducible refine o_le ?_ | with_reducible refine o_gt ?_ | with_reducible refine o_ge ?_ | with_reducible refine o_eqI ?_ | with_reducible refine o_neI ?_ | with_reducible refine o_eqS ?_ | with_reducible refine o_neS ?_ | with_reducible refine o_isN ?_ | with_reducible refine o_notN ?_ | with_reducible refine i_int ?_ | with_reducible refine i_intB ?_ | with_reducible refine i_str ?_); walk_at "S")))
section
variable {P : Program} {w : World} {K : PySem.W.Frag} {mg : Str → Option Value} {base : Heap}
theorem sc__law_caught : FnScope ["_law_act", "_law_found", "error"] ["_law_act"] (defScope s__law_caught) := ⟨rfl, rfl, rfl, by decide +kernel, rfl, by decide +kernel, by decide +kernel⟩
/-- the error of the class at CB that act() raises, kept -/
def TTc (K : PySem.W.Frag) (CB : Addr) : (XK → Hp → VK → Prop) → Hp → VK → Prop := fun tl H Q =>
  tl (fun cls d H' => d = none ∧ PySem.W.exmOne K cls (.ref CB) = some true ∧ ∀ a, H' a = none → Q (.ref a) (upd H' a (ExT cls a))) H (fun _ H' => Q .non H')
theorem caught_gives {X : Cx} {CB g : Addr} {cdg : Value} {q : Str} (hm : X.mg "BeenError" = some (.ref CB)) : LamX.GivesTo X ["_law_act", "_law_found", "error"] "_law_caught" (defScope s__law_caught) g cdg (defBody s__law_caught) "_law_act" q (TTc X.K CB) := by
  intro f c' s H Q tl act hc h
  refine ⟨_, pss_cons (ps_set (i := 1) sc__law_caught.nd rfl (.inl rfl) pe_non) (pss_cons (ps_try_held (i := 2) (c := .ref CB)
    (tb := fun W D σ H => ∃ Ech : XK, (∀ cls d σ' H', Ech cls d H' → W cls d σ' H') ∧ σ[0]? = some (some (.ref f)) ∧ H c' = some (LamX.CodeO c' q) ∧ tl Ech H (fun _ H' => D.nx σ H'))
    rfl rfl rfl sc__law_caught.nd rfl rfl ⟨rfl, rfl, .inl hm⟩ (fun W pn xe tk => ?_) (fun a oe pn => pss_one (ps_set (i := 1) sc__law_caught.nd rfl (.inl rfl) (pv 2)))) (pss_one (ps_ret (pv 1)))), ?_⟩
  · refine ⟨fun pins s' σ H' D I h' => ?_⟩
    obtain ⟨Ech, hW, h1, h2, h3⟩ := h'
    exact (pss_one (ps_expr (act W pn xe Ech _ _ tk hW))).run pins s' σ H' D I ⟨h1, h2, h3⟩
  · walk_at "S"
    refine ⟨fun cls d H' => d = none ∧ PySem.W.exmOne X.K cls (.ref CB) = some true ∧ ∀ a, H' a = none → Q (.ref a) (upd H' a (ExT cls a)), fun cls d σ' H' hE hl => ?_, trivial, hc, h⟩
    obtain ⟨e1, e2, e3⟩ := hE
    refine ⟨e1, e2, fun a na => ?_⟩
    match σ', hl with
    | [x, y, z], _ =>
      walk_at "S"
      intro na'
      exact e3 a na
end
end Nb

/-! part D35 -/
set_option Elab.async false
set_option linter.all false
set_option maxRecDepth 100000
set_option maxHeartbeats 4000000
namespace Nb
open PySem PySem.Spec PyProof.Rows L2
local macro_rules | `(tactic| walk_at "S") => `(tactic| (try simp only [tSeq, tNext, tRet, tIfS, tDrop, tAsg, gName, tFor_eq, tWhile_eq, tLc_eq, tLc2_eq, tDc_eq, sFld_eq, sDPut_eq, tPar, tPar3, tC, tVar, tCB, tOp, tTup, tLst, tChain, tDGet_eq, tDGet2, tAndV, tOrV, tNotV, tIf, tLstRg, tRg1, tDisp, tPairs, tUn, rU, tTest, tNot, tB, tAnd, tOr, tYes, tSl, tPart, tNoPart, tRevL, tM1, tDNewK, tDNewT, gCons_c, gNil_n, gSub, gTup_eq, iRng1_eq, iList_eq, iTup_eq, iSeq_eq, iStr, iKeys_eq, iVals_eq, iEnum_eq, cx_K, tCons, tNil, tBM, tCall, tMake, tProp_eq, tMeth_eq, tFld_eq, tStar_eq, iZipM_eq, tDisp1, L2.start, List.map_cons, List.map_nil, List.length_cons, List.length_nil, List.cons_append, List.nil_append, List.append_nil, List.getElem?_cons_zero, List.getElem?_cons_succ, List.set_cons_zero, List.set_cons_succ, Option.some.injEq, exists_eq_left', exists_eq_left, V.bl.injEq, V.int.injEq, V.str.injEq, V.ref.injEq, if_true, if_false, Nat.reduceAdd, Nat.reduceSub, List.replicate_succ, List.replicate_zero, Bool.not_true, Bool.not_false, Bool.false_eq_true, if_neg, not_false_eq_true, wipe]))
local macro_rules | `(tactic| walk_at "G") => `(tactic| (walk_at "S"; repeat ((first | with_reducible refine o_add ?_ | with_reducible refine o_sub ?_ | with_reducible refine o_mul ?_ | with_reducible refine o_lt ?_ | with_reducible refine o_le ?_ | with_reducible refine o_gt ?_ | with_reducible refine o_ge ?_ | with_reducible refine o_eqI ?_ | with_reducible refine o_neI ?_ | with_reducible refine o_eqS ?_ | with_reducible refine o_neS ?_ | with_reducible refine o_isN ?_ | with_reducible refine o_notN ?_ | with_reducible refine i_int ?_ | with_reducible refine i_intB ?_ | with_reducible refine i_str ?_); walk_at "S")))
section
variable {P : Program} {w : World} {K : PySem.W.Frag} {mg : Str → Option Value} {base : Heap}
/-! ### what tables and live logs leave alone -/
def keepO (o : HO) : Prop := (∀ ps, o ≠ .tbl ps) ∧ (∀ od u, o ≠ .frz od u) ∧ ∀ C dx x fs, o ≠ .ins C dx (("own_machine", x) :: fs)
def KeepN (H H' : Hp) : Prop := ∀ b o, H b = some o → keepO o → H' b = some o
theorem KeepN.of (s : Same H H') : KeepN H H' := fun b o e _ => s b o e
theorem KeepN.trans {H H1 H2 : Hp} (a : KeepN H H1) (b : KeepN H1 H2) : KeepN H H2 := fun c o e k => b c o (a c o e k) k
theorem KeepN.ext {H H' : Hp} (s : LamX.ExtN H H') : KeepN H H' := fun b o e k => s b o e k.1
theorem KeepN.but {K : PySem.W.Frag} {H H' : Hp} {a : Addr} {L : Lv} {bg : V} (s : SameBut a H H') (h : LiveA K H a L bg) : KeepN H H' := fun b o e k => by
  obtain ⟨dx, m, st, ea, _⟩ := h
  refine s b o (fun z => ?_) e
  subst z
  rw [ea] at e
  cases e
  exact k.2.2 _ _ _ _ rfl
theorem KeepN.wo {H H' : Hp} {d g c : Addr} (s : KeepN H H') : KeepN (wo3 d g c H) (wo3 d g c H') := fun b o e k => by
  unfold wo3 at e ⊢
  split at e
  · cases e
  · rename_i n
    rw [if_neg n]
    exact s b o e k
theorem ko_tup {xs : List V} : keepO (.tup xs) := ⟨fun _ z => (by cases z), ⟨fun _ _ z => (by cases z), fun _ _ _ _ z => (by cases z)⟩⟩
theorem ko_lst {xs : List V} : keepO (.lst xs) := ⟨fun _ z => (by cases z), ⟨fun _ _ z => (by cases z), fun _ _ _ _ z => (by cases z)⟩⟩
theorem ko_dK {kvs : List (Key × V)} : keepO (.dK kvs) := ⟨fun _ z => (by cases z), ⟨fun _ _ z => (by cases z), fun _ _ _ _ z => (by cases z)⟩⟩
theorem ko_ins {C dx : Addr} {f : Str} {x : V} {fs : List (Str × V)} (h : f ≠ "own_machine") : keepO (.ins C dx ((f, x) :: fs)) := by
  refine ⟨fun _ z => (by cases z), ⟨fun _ _ z => (by cases z), fun C' dx' x' fs' z => ?_⟩⟩
  injection z with _ _ z
  injection z with z _
  exact h (congrArg Prod.fst z)
class Kn {α : Type} (r : RR α) : Prop where
  kn : ∀ {H H' : Hp} {v : V} {x : α}, KeepN H H' → r H v x → r H' v x
instance : Kn rI := ⟨fun _ h => h⟩
instance : Kn rS := ⟨fun _ h => h⟩
instance : Kn rO := ⟨fun _ h => h⟩
instance {α β : Type} {r1 : RR α} {r2 : RR β} [Kn r1] [Kn r2] : Kn (rP r1 r2) := ⟨fun h ⟨a, x, y, e, e1, e2, e3⟩ => ⟨a, x, y, e, h _ _ e1 ko_tup, Kn.kn h e2, Kn.kn h e3⟩⟩
instance {α : Type} {r : RR α} [Kn r] : Kn (rT r) := ⟨fun h ⟨a, xs, e, e1, e2, e3⟩ => ⟨a, xs, e, h _ _ e1 ko_tup, e2.mono fun _ _ => Kn.kn h, e3⟩⟩
instance {α : Type} {r : RR α} [Kn r] : Kn (rL r) := ⟨fun h ⟨a, xs, e, e1, e2, e3⟩ => ⟨a, xs, e, h _ _ e1 ko_lst, e2.mono fun _ _ => Kn.kn h, e3⟩⟩
instance {α : Type} {r : RR α} [Kn r] : Kn (rD r) := ⟨fun h ⟨a, xs, e, e1, e2, e3⟩ => ⟨a, xs, e, h _ _ e1 ko_dK, e2.mono fun _ _ z => ⟨z.1, z.2.1, Kn.kn h z.2.2⟩, e3⟩⟩
instance : Kn rMo := ⟨fun h ⟨⟨d, sh, mp, e, e1, e2, e3⟩, ok⟩ => ⟨⟨d, sh, mp, e, h _ _ e1 ko_dK, Kn.kn h e2, Kn.kn h e3⟩, ok⟩⟩
instance : Kn rH := ⟨fun h ⟨d, r, q, e, e1, e2, e3⟩ => ⟨d, r, q, e, h _ _ e1 ko_dK, Kn.kn h e2, Kn.kn h e3⟩⟩
theorem os_om : ("own_seen" : Str) ≠ "own_machine" := by decide +kernel
theorem se_om : ("s_entries" : Str) ≠ "own_machine" := by decide +kernel
instance {K : PySem.W.Frag} : Kn (rM K) := ⟨fun h ⟨⟨a, dx, s, d, g, e, e1, e2, e3, e4⟩, ok⟩ => ⟨⟨a, dx, s, d, g, e, h _ _ e1 (ko_ins os_om), Kn.kn h e2, Kn.kn h e3, Kn.kn h e4⟩, ok⟩⟩
instance {K : PySem.W.Frag} : Kn (rStt K) := ⟨fun h ⟨a, dx, e, e0, e1, e2⟩ => ⟨a, dx, e, e0, h _ _ e1 (ko_ins se_om), Kn.kn h e2⟩⟩
theorem LiveA.extN {K : PySem.W.Frag} {H H' : Hp} {a : Addr} {L : Lv} {bg : V} (s : LamX.ExtN H H') (h : LiveA K H a L bg) : LiveA K H' a L bg := by
  obtain ⟨dx, m, st, e, e1, e2⟩ := h
  exact ⟨dx, m, st, s _ _ e nofun, Kn.kn (KeepN.ext s) e1, Kn.kn (KeepN.ext s) e2⟩
theorem Dr.kn {H H' : Hp} {d g c : Addr} (s : KeepN H H') (h : Dr d g c H) : Dr d g c H' := by
  obtain ⟨n, r, t, gs, cs, e, e1, e2⟩ := h
  exact ⟨n, r, t, gs, cs, s _ _ e ko_dK, Kn.kn s e1, Kn.kn s e2⟩
/-! ### what is no part of the draws -/
section
variable {d g c : Addr} {H H' : Hp}
theorem Dr.at (D : Dr d g c H) {a : Addr} {o : HO} (e : H a = some o) (n1 : ∀ xs, o ≠ .lst xs) (n2 : ∀ kvs, o ≠ .dK kvs) : wo3 d g c H a = some o := by
  obtain ⟨n0, r, t, gs, cs, e0, e1, e2⟩ := D
  obtain ⟨ys, e1⟩ := rL_at e1
  obtain ⟨zs, e2⟩ := rL_at e2
  rw [wo3_at ⟨ne_of e e0 (n2 _), ne_of e e1 (n1 _), ne_of e e2 (n1 _)⟩]
  exact e
theorem Dr.rD (D : Dr d g c H) {v : V} {m : List (Str × List Int)} (k : rD (rT rI) H v m) : rD (rT rI) (wo3 d g c H) v m := by
  have tt := D.t
  obtain ⟨n0, r, t, gs, cs, e0, e1, e2⟩ := D
  obtain ⟨ys, e1⟩ := rL_at e1
  obtain ⟨zs, e2⟩ := rL_at e2
  obtain ⟨b, kvs, rfl, eb, k1, k2⟩ := k
  have nd : b ≠ d := fun z => by
    subst z
    rw [e0] at eb
    cases eb
    cases m with
    | nil => exact k1.elim
    | cons p m =>
      obtain ⟨_, _, y, us, e3, e4, _⟩ := k1.1
      cases e3
      rw [e1] at e4
      cases e4
  refine ⟨b, kvs, rfl, ?_, k1.mono fun _ _ z => ⟨z.1, z.2.1, Tt.tm tt z.2.2⟩, k2⟩
  rw [wo3_at ⟨nd, ne_of eb e1 nofun, ne_of eb e2 nofun⟩]
  exact eb
theorem Dr.rM {K : PySem.W.Frag} (D : Dr d g c H) {v : V} {M : Mach} (k : rM K H v M) : rM K (wo3 d g c H) v M := by
  obtain ⟨⟨a, dx, s, d', g', rfl, e, e1, e2, e3⟩, ok⟩ := k
  exact ⟨⟨a, dx, s, d', g', rfl, D.at e nofun nofun, Tt.tm D.t e1, D.rD e2, Tt.tm D.t e3⟩, ok⟩
theorem Dr.live {K : PySem.W.Frag} (D : Dr d g c H) {a : Addr} {L : Lv} {bg : V} (k : LiveA K H a L bg) : LiveA K (wo3 d g c H) a L bg := by
  obtain ⟨dx, m, st, e, e1, t, xs, rfl, e2, e3, e4⟩ := k
  refine ⟨dx, m, .ref t, D.at e nofun nofun, D.rM e1, t, xs, rfl, D.at e2 nofun nofun, e3.mono fun z b ⟨y, y1, y2, q0, q1, q2, a', dx', en, q3, q4, q5⟩ => ?_, e4⟩
  exact ⟨y, y1, y2, q0, D.at q1 nofun nofun, Tt.tm D.t q2, a', dx', en, q3, D.at q4 nofun nofun, Tt.tm D.t q5⟩
theorem tabS_of {P : Addr} {q : Str} (t : LamX.TabS H P q) (e : ∀ b o, H b = some o → (∀ xs, o ≠ .lst xs) → (∀ kvs, o ≠ .dK kvs) → (∀ C dx fs, o ≠ .ins C dx fs) → H' b = some o) : LamX.TabS H' P q := by
  obtain ⟨ps, h1, h2, h3⟩ := t
  refine ⟨ps, e _ _ h1 nofun nofun nofun, h2, fun pos cv hc => ?_⟩
  obtain ⟨c, e1, e2⟩ := h3 pos cv hc
  exact ⟨c, e1, e _ _ e2 nofun nofun nofun⟩
theorem Dr.tab (D : Dr d g c H) {P : Addr} {q : Str} (t : LamX.TabS H P q) : LamX.TabS (wo3 d g c H) P q := tabS_of t fun _ _ e n1 n2 _ => D.at e n1 n2
theorem tab_but {K : PySem.W.Frag} {P a : Addr} {q : Str} {L : Lv} {bg : V} (s : SameBut a H H') (h : LiveA K H a L bg) (t : LamX.TabS H P q) : LamX.TabS H' P q := by
  obtain ⟨dx, m, st, ea, _⟩ := h
  exact tabS_of t fun b o e _ _ n3 => s b o (fun z => by subst z; rw [ea] at e; cases e; exact n3 _ _ _ rfl) e
/-- with the draws locked: what is returned is no part of them -/
theorem lock3 {te : TE} {σ : L2.St} {Q : VK} (D : Dr d g c H) (h : ∀ (HL : Hp) (Q' : VK), Same (wo3 d g c H) HL → (∀ v H', Same HL H' → ∃ H2, Dr d g c H2 ∧ Same (wo3 d g c H) (wo3 d g c H2) ∧ KeepN H' (wo3 d g c H2) ∧ (Q v H2 → Q' v H')) → te σ HL Q') : tLockE (tLockE (tLockE te)) σ H Q := by
  obtain ⟨n0, r, t, gs, cs, e0, e1, e2⟩ := id D
  obtain ⟨ys, e1'⟩ := rL_at e1
  obtain ⟨zs, e2'⟩ := rL_at e2
  have ngd : g ≠ d := ne_of e1' e0 nofun
  have ncd : c ≠ d := ne_of e2' e0 nofun
  refine ⟨d, _, e0, trivial, fun od => ⟨g, .lst ys, by rw [upd_ne ngd]; exact e1', trivial, fun og => ⟨c, .lst zs, by rw [upd_ne (Ne.symm n0), upd_ne ncd]; exact e2', trivial, fun oc => ?_⟩⟩⟩
  have wL : wo3 d g c (upd (upd (upd H d (.frz od (.dK (drF g c r t)))) g (.frz og (.lst ys))) c (.frz oc (.lst zs))) = wo3 d g c H := by
    funext b
    unfold wo3
    split
    · rfl
    · rename_i n
      rw [upd_ne fun z => n (.inr (.inr z)), upd_ne fun z => n (.inr (.inl z)), upd_ne fun z => n (.inl z)]
  have lc : (upd (upd (upd H d (.frz od (.dK (drF g c r t)))) g (.frz og (.lst ys))) c (.frz oc (.lst zs))) c = some (.frz oc (.lst zs)) := upd_same
  have lg : (upd (upd (upd H d (.frz od (.dK (drF g c r t)))) g (.frz og (.lst ys))) c (.frz oc (.lst zs))) g = some (.frz og (.lst ys)) := by rw [upd_ne n0, upd_same]
  have ld : (upd (upd (upd H d (.frz od (.dK (drF g c r t)))) g (.frz og (.lst ys))) c (.frz oc (.lst zs))) d = some (.frz od (.dK (drF g c r t))) := by rw [upd_ne (Ne.symm ncd), upd_ne (Ne.symm ngd), upd_same]
  generalize upd (upd (upd H d (.frz od (.dK (drF g c r t)))) g (.frz og (.lst ys))) c (.frz oc (.lst zs)) = HL at wL lc lg ld
  have sL : Same (wo3 d g c H) HL := by rw [← wL]; exact wo3_same
  refine h HL _ sL fun v H' s => ?_
  have w2 : wo3 d g c (upd (upd (upd H' c (.lst zs)) g (.lst ys)) d (.dK (drF g c r t))) = wo3 d g c H' := by
    funext b
    unfold wo3
    split
    · rfl
    · rename_i n
      rw [upd_ne fun z => n (.inl z), upd_ne fun z => n (.inr (.inl z)), upd_ne fun z => n (.inr (.inr z))]
  have s2 : Same (wo3 d g c H) (wo3 d g c H') := by rw [← wL]; exact wo3_mono s
  refine ⟨upd (upd (upd H' c (.lst zs)) g (.lst ys)) d (.dK (drF g c r t)), ?_, by rw [w2]; exact s2, fun b o e k => ?_, fun q => ⟨s _ _ lc, by rw [upd_ne n0]; exact s _ _ lg, by rw [upd_ne (Ne.symm ngd), upd_ne (Ne.symm ncd)]; exact s _ _ ld, q⟩⟩
  · obtain ⟨b1, u1, f1, f2, f3, f4⟩ := e1
    cases f1
    rw [e1'] at f2
    cases f2
    obtain ⟨b2, u2, f5, f6, f7, f8⟩ := e2
    cases f5
    rw [e2'] at f6
    cases f6
    exact ⟨n0, r, t, gs, cs, upd_same, ⟨g, ys, rfl, by rw [upd_ne ngd, upd_same], f3, f4⟩, ⟨c, zs, rfl, by rw [upd_ne ncd, upd_ne (Ne.symm n0), upd_same], f7, f8⟩⟩
  · rw [w2, wo3_at]
    · exact e
    · refine ⟨fun z => ?_, fun z => ?_, fun z => ?_⟩
      · subst z; rw [s _ _ ld] at e; cases e; exact k.2.1 _ _ rfl
      · subst z; rw [s _ _ lg] at e; cases e; exact k.2.1 _ _ rfl
      · subst z; rw [s _ _ lc] at e; cases e; exact k.2.1 _ _ rfl
end
end
end Nb

/-! part D36 -/
set_option Elab.async false
set_option linter.all false
set_option maxRecDepth 100000
set_option maxHeartbeats 4000000
namespace Nb
open PySem PySem.Spec PyProof.Rows L2
local macro_rules | `(tactic| walk_at "S") => `(tactic| (try simp only [tSeq, tNext, tRet, tIfS, tDrop, tAsg, gName, tFor_eq, tWhile_eq, tLc_eq, tLc2_eq, tDc_eq, sFld_eq, sDPut_eq, tPar, tPar3, tC, tVar, tCB, tOp, tTup, tLst, tChain, tDGet_eq, tDGet2, tAndV, tOrV, tNotV, tIf, tLstRg, tRg1, tDisp, tPairs, tUn, rU, tTest, tNot, tB, tAnd, tOr, tYes, tSl, tPart, tNoPart, tRevL, tM1, tDNewK, tDNewT, gCons_c, gNil_n, gSub, gTup_eq, iRng1_eq, iList_eq, iTup_eq, iSeq_eq, iStr, iKeys_eq, iVals_eq, iEnum_eq, cx_K, tCons, tNil, tBM, tCall, tMake, tProp_eq, tMeth_eq, tFld_eq, tStar_eq, iZipM_eq, tDisp1, L2.start, List.map_cons, List.map_nil, List.length_cons, List.length_nil, List.cons_append, List.nil_append, List.append_nil, List.getElem?_cons_zero, List.getElem?_cons_succ, List.set_cons_zero, List.set_cons_succ, Option.some.injEq, exists_eq_left', exists_eq_left, V.bl.injEq, V.int.injEq, V.str.injEq, V.ref.injEq, if_true, if_false, Nat.reduceAdd, Nat.reduceSub, List.replicate_succ, List.replicate_zero, Bool.not_true, Bool.not_false, Bool.false_eq_true, if_neg, not_false_eq_true, wipe]))
local macro_rules | `(tactic| walk_at "G") => `(tactic| (walk_at "S"; repeat ((first | with_reducible refine o_add ?_ | with_reducible refine o_sub ?_ | with_reducible refine o_mul ?_ | with_reducible refine o_lt ?_ | with_reducible refine o_le ?_ | with_reducible refine o_gt ?_ | with_reducible refine o_ge ?_ | with_reducible refine o_eqI ?_ | with_reducible refine o_neI ?_ | with_reducible refine o_eqS ?_ | with_reducible refine o_neS ?_ | with_reducible refine o_isN ?_ | with_reducible refine o_notN ?_ | with_reducible refine i_int ?_ | with_reducible refine i_intB ?_ | with_reducible refine i_str ?_); walk_at "S")))
section
variable {P : Program} {w : World} {K : PySem.W.Frag} {mg : Str → Option Value} {base : Heap}
theorem ls_Q {K : PySem.W.Frag} {H : Hp} {a : Addr} {xs : List V} {R : It → Hp → Prop} (h : SqL K H a xs) (q : R (Itl K a) H) : lsB K (.ref a) R H := ⟨a, rfl, ⟨xs, h⟩, q⟩
/-- over a list of ints that may be the script -/
theorem lc_Q {K : PySem.W.Frag} {g : TG} {tt : TT} {te : TE} {vs : List Nat} {σ : L2.St} {H1 : Hp} {Q : VK} {β : Type} {r' : RR β} [Tt r'] {a : Addr} {l : List Int} (f : Int → Option β) (h : SqL K H1 a (l.map V.int)) (hn : l.length ≤ lim)
    (hs : ∀ z H, z ∈ l → Same H1 H → ∀ (Yk : VK) (N : Hp → Prop), (∀ c, f z = some c → ∀ y H4, Same H H4 → r' H4 y c → Yk y H4) → (f z = none → ∀ H3, Same H H3 → N H3) →
      g (.int z) (wipe σ vs) H fun σ2 H2 => wipe σ2 vs = wipe σ vs ∧ tt σ2 H2 fun b H3 => if b = true then te σ2 H3 Yk else N H3)
    (q : ∀ D H', Same H1 H' → H1 D = none → rL r' H' (.ref D) (l.filterMap f) → Q (.ref D) H') : lcB (Itl K a) g tt te vs σ H1 Q := by
  refine lc_w (r' := r') (L2.walk_list (K := K) (a := a) (xs := l.map V.int)) (fun i => l[i]?.bind f) (fun H' s => s.seq h) (by rw [List.length_map]; exact hn) ?_ fun D H' s hD z => q D H' s hD ?_
  · rintro i x H H' hi s ⟨rfl, y⟩ Yk N h1 h2
    rw [List.getElem?_map] at y
    cases e : l[i]? with
    | none => rw [e] at y; cases y
    | some b =>
      rw [e] at y h1 h2
      cases y
      exact hs b _ (List.mem_of_getElem? e) s Yk N h1 h2
  · rw [List.length_map, range_get] at z; exact z
def sp__law_beginS (K : PySem.W.Frag) : Sp := fun vs H Q _ => match vs with
  | [x] => ∃ (a : Addr) (cs : List Int), x = .ref a ∧ SqL K H a (cs.map V.int) ∧ cs.length ≤ lim ∧ ∀ d g c H', Same H H' → Dr d g c H' → H d = none → H g = none → H c = none → Q (.ref d) H'
  | _ => False
theorem sp__law_beginS_len : ∀ (vs : List V) (H : Hp) (Q : VK) (E : XK), (sp__law_beginS K) vs H Q E → vs.length = 1
  | [_], _, _, _, _ => rfl
  | [], _, _, _, h => h.elim
  | _ :: _ :: _, _, _, _, h => h.elim
theorem calS__law_begin (T : Tx P w K mg) : Cl P w K mg base 1 "_law_begin" (sp__law_beginS K) [] := by
  refine cl_of (st := s__law_begin) (qual := "_law_begin") (kws := []) (T.c.def_ 74 (d := d__law_begin) rfl) sc__law_begin sp__law_beginS_len (T.glo 64 rfl) (fun _ _ _ _ _ _ us hl => match us, hl with | [_], _ => rfl) (fun cdv A outer s H vs Q E hr h => ⟨_, (pss_cons (ps_setLc (i := 1) (own := [("_law_cell", 2)]) rfl sc__law_begin.nd rfl rfl (sw_true rfl rfl rfl (by decide +kernel)) (pi_ls T (pv 0)) (blkOk_by (own := [("_law_cell", 2)]) (N := ["_law_script", "_law_great", "_law_cell"]) (sc := defScope s__law_begin) (by decide +kernel)) (fun _ _ _ _ _ => (pg_name (i := 2) sc__law_begin.nd rfl (Or.inl rfl))) (fun _ _ _ _ _ => pts_one (pt_cmpR (op_any T hr) (pe_callB (cl_any (f := .builtin "abs") T hr) rfl (T.free 101 rfl) (by decide +kernel) (pa_cons (pv 2) pa_nil)) (pe_op (op_any T hr) pe_int pe_int) (nomark _))) (fun _ _ _ _ _ => (pe_op (op_any T hr) (pe_callB (cl_any (f := .builtin "abs") T hr) rfl (T.free 101 rfl) (by decide +kernel) (pa_cons (pv 2) pa_nil)) (pe_op (op_any T hr) pe_int pe_int))))
  (pss_one (ps_ret (pe_disp (pps_cons pe_str (pv 1) (pps_cons pe_str pe_int (pps_cons pe_str (pe_lc (own := [("_law_cell", 2)]) rfl sc__law_begin.nd (pi_ls T (pv 0)) (blkOk_by (own := [("_law_cell", 2)]) (N := ["_law_script", "_law_great", "_law_cell"]) (sc := defScope s__law_begin) (by decide +kernel)) (fun _ _ _ _ _ => (pg_name (i := 2) sc__law_begin.nd rfl (Or.inl rfl))) (fun _ _ _ _ _ => pts_nil) (fun _ _ _ _ _ => (pe_callB (cl_any (f := .builtin "abs") T hr) rfl (T.free 101 rfl) (by decide +kernel) (pa_cons (pv 2) pa_nil)))) (pps_cons pe_str pe_int pps_nil)))) (by rfl) (by rfl) (fun z => by cases z) (by decide))))), ?_⟩)
  obtain ⟨a0, rfl⟩ := len1 (sp__law_beginS_len _ _ _ _ h)
  obtain ⟨ad, cs, rfl, hcs, hn, q⟩ := h
  walk_at "S"
  refine ls_Q hcs ?_
  refine lc_Q (r' := rI) (fun z => if decide ((10 : Int) ^ 18 ≤ (if z < 0 then -z else z)) = true then some ((if z < 0 then -z else z) - (10 : Int) ^ 18) else none) hcs hn (fun z H1 hb s1 Yk N k1 k2 => ?_) fun g H1 s1 hg kg => ?_
  · walk_at "S"
    refine ⟨trivial, c_abs ?_⟩
    refine o_pow ⟨by omega, by omega, by decide⟩ ?_
    walk_at "G"
    by_cases hz : (10 : Int) ^ 18 ≤ (if z < 0 then -z else z)
    · rw [decide_eq_true (by simpa using hz)]
      walk_at "S"
      refine c_abs ?_
      refine o_pow ⟨by omega, by omega, by decide⟩ ?_
      walk_at "G"
      refine k1 _ (by rw [if_pos (decide_eq_true hz)]) _ _ (same_refl _) ?_
      show V.int _ = V.int _
      congr 1
    · rw [decide_eq_false (by simpa using hz)]
      walk_at "S"
      exact k2 (by rw [decide_eq_false hz]; rfl) _ (same_refl _)
  · walk_at "S"
    intro d hd
    have s2 : Same H1 (upd H1 d (.dK [])) := same_new (same_refl _) hd
    have e2 : upd H1 d (.dK []) d = some (.dK []) := upd_same
    generalize upd H1 d (.dK []) = H2 at s2 e2
    walk_at "S"
    have s12 := s1.trans s2
    refine ls_Q (s12.seq hcs) ?_
    refine lc_Q (r' := rI) (fun z => some (if z < 0 then -z else z)) (s12.seq hcs) hn (fun z H3 hb s3 Yk N k1 k2 => ?_) fun c H3 s3 hc3 kc => ?_
    · walk_at "S"
      exact ⟨trivial, c_abs (k1 _ rfl _ _ (same_refl _) rfl)⟩
    · walk_at "S"
      refine ⟨s3 _ _ e2, [(.inr "great", .ref g), (.inr "rest", .int 0), (.inr "cells", .ref c), (.inr "turn", .int 0)], rfl, by show 4 ≤ 15; decide, ?_⟩
      have kg2 := Mo.mo (s2.trans s3) kg
      have em : mergeK [] [((.inr "great" : Key), V.ref g), (.inr "rest", .int 0), (.inr "cells", .ref c), (.inr "turn", .int 0)] = drF g c 0 0 := by rfl
      rw [em]
      have hdH : H d = none := s1.free hd
      have ngc : g ≠ c := by
        obtain ⟨ys, ey⟩ := rL_at (Mo.mo s2 kg)
        exact ne_of_none ey hc3
      obtain ⟨ys, ey⟩ := rL_at kg2
      obtain ⟨zs, ez⟩ := rL_at kc
      have j1 := rL_put (o := .dK (drF g c 0 0)) kg2 (s3 _ _ e2) nofun (ne_of ey (s3 _ _ e2) nofun)
      have j2 := rL_put (o := .dK (drF g c 0 0)) kc (s3 _ _ e2) nofun (ne_of ez (s3 _ _ e2) nofun)
      exact q d g c _ (same_put (s12.trans s3) hdH) ⟨ngc, 0, 0, _, _, upd_same, j1, j2⟩ hdH hg (s12.free hc3)
end
end Nb

/-! part D37 -/
set_option Elab.async false
set_option linter.all false
set_option maxRecDepth 100000
set_option maxHeartbeats 4000000
namespace Nb
open PySem PySem.Spec PyProof.Rows L2
local macro_rules | `(tactic| walk_at "S") => `(tactic| (try simp only [tSeq, tNext, tRet, tIfS, tDrop, tAsg, gName, tFor_eq, tWhile_eq, tLc_eq, tLc2_eq, tDc_eq, sFld_eq, sDPut_eq, tPar, tPar3, tC, tVar, tCB, tOp, tTup, tLst, tChain, tDGet_eq, tDGet2, tAndV, tOrV, tNotV, tIf, tLstRg, tRg1, tDisp, tPairs, tUn, rU, tTest, tNot, tB, tAnd, tOr, tYes, tSl, tPart, tNoPart, tRevL, tM1, tDNewK, tDNewT, gCons_c, gNil_n, gSub, gTup_eq, iRng1_eq, iList_eq, iTup_eq, iSeq_eq, iStr, iKeys_eq, iVals_eq, iEnum_eq, cx_K, tCons, tNil, tBM, tCall, tMake, tProp_eq, tMeth_eq, tFld_eq, tStar_eq, iZipM_eq, tDisp1, L2.start, List.map_cons, List.map_nil, List.length_cons, List.length_nil, List.cons_append, List.nil_append, List.append_nil, List.getElem?_cons_zero, List.getElem?_cons_succ, List.set_cons_zero, List.set_cons_succ, Option.some.injEq, exists_eq_left', exists_eq_left, V.bl.injEq, V.int.injEq, V.str.injEq, V.ref.injEq, if_true, if_false, Nat.reduceAdd, Nat.reduceSub, List.replicate_succ, List.replicate_zero, Bool.not_true, Bool.not_false, Bool.false_eq_true, if_neg, not_false_eq_true, wipe]))
local macro_rules | `(tactic| walk_at "G") => `(tactic| (walk_at "S"; repeat ((first | with_reducible refine o_add ?_ | with_reducible refine o_sub ?_ | with_reducible refine o_mul ?_ | with_reducible refine o_lt ?_ | with_reducible refine o_le ?_ | with_reducible refine o_gt ?_ | with_reducible refine o_ge ?_ | with_reducible refine o_eqI ?_ | with_reducible refine o_neI ?_ | with_reducible refine o_eqS ?_ | with_reducible refine o_neS ?_ | with_reducible refine o_isN ?_ | with_reducible refine o_notN ?_ | with_reducible refine i_int ?_ | with_reducible refine i_intB ?_ | with_reducible refine i_str ?_); walk_at "S")))
section
variable {P : Program} {w : World} {K : PySem.W.Frag} {mg : Str → Option Value} {base : Heap}
def qLam : Str := ("law" : Str) ++ (".<locals>." : Str) ++ ("<lambda>" : Str)
def tLamT (K : PySem.W.Frag) : XK → TE := fun E => tMeth (He.ga K "Live") "tried" (sp_Live_tried K) [] E (tVar 3) (tCons (tC (.ref (He.ga K "_law_fails"))) tNil)
theorem cur_step {L : Lv} {dk : Deed} {s : Stt} : (stepL L dk s).cur = s := by
  unfold Lv.cur curS stepL
  simp
/-- what stands at a turn -/
def InnP (K : PySem.W.Frag) (d g c a P : Addr) (mv fkv mdv : V) (m : Mdl) (fk : List Str) (n : Nat) (hv : V) (L : Lv) (H : Hp) : Prop :=
  Dr d g c H ∧ LamX.TabS H P qLam ∧ LiveA K H a L .non ∧ L.M = mach m ∧ rMo (wo3 d g c H) mv m ∧ rL rS (wo3 d g c H) fkv fk ∧ rM K (wo3 d g c H) mdv (mach m) ∧
  rH (wo3 d g c H) hv (L.cur.1, L.cur.2, L.steps.map Prod.fst) ∧ Ev m fk L.cur n ∧ L.steps.length ≤ n ∧ ∀ s ∈ L.steps, s.1.length ≤ 3
theorem c_isT (T : Tx P w K mg) {H : Hp} {x : Addr} {Q : VK} (e : H x = some (ExT (.ref (He.ga K "NothingDone")) x)) (q : Q (.bl true) H) : rCl P w K mg (.builtin "isinstance") [.ref x, .ref (He.ga K "NothingDone")] H Q := fun X L =>
  ⟨_, call_isT (X := X) (D := He.ga K "NothingDone") (by rw [L.kk]; exact T.excN), x, .ref (He.ga K "NothingDone"), .ref (He.ga K "NothingDone"), true, rfl, e, fun u r => r, by unfold PySem.W.kitOne; rw [if_pos (beq_self_eq_true _)], q⟩

def sp_law (K : PySem.W.Frag) : Sp := fun vs H Q _ => match vs with
  | [x] => ∃ (a : Addr) (ns : List Int), x = .ref a ∧ SqL K H a (ns.map V.int) ∧ ns.length ≤ 63 ∧ H (He.cT K ("law", none)).2 = some (.tbl #[]) ∧ ∀ H', Q (.bl true) H'
  | _ => False
theorem sc_law : FnScope ["_law_script", "_law_draw", "_law_turn", "_law_live_here", "_law_again", "_law_model_here", "_law_folk_here", "_law_few", "_law_made_here", "_law_here", "_law_deed_here", "_law_ahead", "_law_left"] ["_law_script"] (defScope s_law) := ⟨rfl, rfl, rfl, by decide +kernel, rfl, by decide +kernel, by decide +kernel⟩
theorem sp_law_len : ∀ (vs : List V) (H : Hp) (Q : VK) (E : XK), (sp_law K) vs H Q E → vs.length = 1
  | [_], _, _, _, _ => rfl
  | [], _, _, _, h => h.elim
  | _ :: _ :: _, _, _, _, h => h.elim
theorem calg_law (T : Tx P w K mg) (TB : LamX.TabB base mg (He.cT K ("law", none)).1 (He.cT K ("law", none)).2) : ClG P w K mg base 15 "law" (sp_law K) := by
  obtain ⟨fdc, Fc⟩ := (show ∃ fd, FunD K "_law_caught" "_law_caught" (defArgs s__law_caught) (defBody s__law_caught) (defScope s__law_caught) [] [] (He.ga K "_law_caught") fd from T.c.def_ 79 (d := d__law_caught) rfl)
  obtain ⟨oc, od, kV, doc, pm, an, cdvc, ct, osl, hfd, lkc, hcdc⟩ := (He5.fun_of Fc).ex
  have kpc := Fc.kp
  have bc := Fc.bindsN (ps := ["_law_act"]) (fun _ _ _ _ _ _ us hl => match us, hl with | [_], _ => rfl)
  subst hfd
  refine clG_of (st := s_law) (qual := "law") (kws := []) (T.c.def_ 106 (d := d_law) rfl) sc_law sp_law_len (T.glo 96 rfl) (fun _ _ _ _ _ _ us hl => match us, hl with | [_], _ => rfl) (fun cdv A outer s H vs Q hgd hcd lk hr h => ?_)
  obtain ⟨c, rfl⟩ := He.codeIn_ref hcd
  have hc : (He.cT K ("law", none)).1 = c := by
    obtain ⟨oc, od, kV, doc, pm, an, ct, osl, l⟩ := lk
    exact He.codeOf_eq l rfl
  have TBc : LamX.TabB base mg c (He.cT K ("law", none)).2 := by rw [← hc]; exact TB
  refine ⟨_, (pss_cons (ps_set (i := 1) sc_law.nd rfl (Or.inl rfl) (pe_cl (calS__law_begin T) hr (by decide) rfl (pa_cons (pv 0) pa_nil)))
  (pss_cons (ps_for PassesOwn.never rfl (pi_range1 rfl (T.free 113 rfl) (pa_cons (pe_op (op_any T hr) pe_int (pe_callB (cl_any (f := .builtin "min") T hr) rfl (T.free 111 rfl) (by decide +kernel) (pa_cons (pe_callB (cl_any (f := .builtin "len") T hr) rfl (T.free 109 rfl) (by decide +kernel) (pa_cons (pv 0) pa_nil)) (pa_cons pe_int pa_nil)))) pa_nil)) (pg_name (i := 2) sc_law.nd rfl (Or.inl rfl)) (pss_cons (ps_par3 (i := 5) (j := 6) (l := 7) rfl sc_law.nd rfl rfl rfl (by decide) (by decide) (by decide) rfl rfl rfl (pa_cons (pe_cl (cal__law_model T) hr (by decide) rfl (pa_cons (pv 1) (pa_cons pe_int (pa_cons pe_int pa_nil)))) (pa_cons (pe_cl (cal__law_names T) hr (by decide) rfl (pa_cons (pv 1) (pa_cons pe_int pa_nil))) (pa_cons (pe_cl (cal__law_take T) hr (by decide) rfl (pa_cons (pv 1) (pa_cons pe_int pa_nil))) pa_nil))) (by rfl))
  (pss_cons (ps_par (i := 8) (j := 9) rfl sc_law.nd rfl rfl (by decide) rfl rfl (pa_cons (pe_cl (cal__law_made T) hr (by decide) rfl (pa_cons (pv 5) pa_nil)) (pa_cons (pe_lock (pe_lock (pe_lock (pe_cl (cal__law_blank T) hr (by decide) rfl (pa_cons (pv 7) pa_nil))))) pa_nil)) (by rfl))
  (pss_cons (ps_set (i := 3) sc_law.nd rfl (Or.inr rfl) (pe_ma (ma_Live T) hr (by decide) rfl (pa_cons (pv 8) (pa_cons (pv 7) pa_nil))))
  (pss_one (ps_for PassesOwn.never rfl (pi_range1 rfl (T.free 113 rfl) (pa_cons (pe_cl (cal__law_take T) hr (by decide) rfl (pa_cons (pv 1) (pa_cons pe_int pa_nil))) pa_nil)) (pg_name (i := 4) sc_law.nd rfl (Or.inl rfl)) (pss_cons (ps_par3 (i := 10) (j := 11) (l := 12) rfl sc_law.nd rfl rfl rfl (by decide) (by decide) (by decide) rfl rfl rfl (pa_cons (pe_cl (cal__law_deed T) hr (by decide) rfl (pa_cons (pv 1) (pa_cons (pv 5) (pa_cons (pv 6) (pa_cons (pv 9) pa_nil))))) (pa_cons (pe_pr (pr_Live_log T) hr (by decide) (pv 3) rfl) (pa_cons (pe_pr (pr_Live_few T) hr (by decide) (pv 3) rfl) pa_nil))) (by rfl))
  (pss_cons (ps_expr (pe_cl (cal__law_do T) hr (by decide) rfl (pa_cons (pv 3) (pa_cons (pv 10) pa_nil))))
  (pss_cons (ps_set (i := 9) sc_law.nd rfl (Or.inl rfl) (pe_lock (pe_lock (pe_lock (pe_cl (cal__law_answer T) hr (by decide) rfl (pa_cons (pv 5) (pa_cons (pv 9) (pa_cons (pv 10) pa_nil))))))))
  (pss_cons (ps_if (PW.pt (pw_or (pt_not (pt_val (pe_cl (cal__law_deed_right T) hr (by decide) rfl (pa_cons (pv 8) (pa_cons (pv 3) (pa_cons (pv 11) (pa_cons (pv 12) (pa_cons (pv 10) pa_nil)))))))) (pw_or1 (pt_not (pt_val (pe_cl (cal__law_agrees T) hr (by decide) rfl (pa_cons (pv 8) (pa_cons (pv 3) pa_nil)))))))) (pss_one (ps_ret pe_bl)) pss_nil)
  (pss_cons (ps_if (pt_not (pt_val (pe_callB (cl_any (f := .builtin "isinstance") T hr) rfl (T.free 108 rfl) (by decide +kernel) (pa_cons (LamX.pe_lamcall (k := 9) (c := c) (P := (He.cT K ("law", none)).2) (T := [((He.cT K ("law", none)).2, qLam)]) (t := tLamT K) rfl (T.glo 69 rfl) kpc lkc hcdc bc sc__law_caught rfl (.inl rfl) (caught_gives (T.glo 0 rfl)) TBc rfl (List.mem_singleton.mpr rfl) (fun p hp _ => by rw [List.mem_singleton.mp hp]; rfl) (hr.mono (by decide)) (LamX.lamS_by (by kernel_rfl)) rfl (fun _ _ _ _ _ => rfl)
        (fun A outer s H E f c' hr2 => pe_meX (mex_Live_tried T) hr2 (by decide) (passes_call (takes_of rfl rfl rfl rfl) fun _ _ _ _ h => h) (pv 3) (pa_cons (pe_glob (v := .ref (He.ga K "_law_fails")) rfl (T.glo 93 rfl) rfl) pa_nil))) (pa_cons (pe_glob (v := .ref (He.ga K "NothingDone")) rfl (T.glo 9 rfl) rfl) pa_nil))))) (pss_one (ps_ret pe_bl)) pss_nil)
  (pss_one (ps_if (pt_not (pt_val (pe_clG (calg__law_is_so T) hgd hr (by decide) rfl (pa_cons (pv 5) (pa_cons (pv 3) (pa_cons (pv 9) pa_nil)))))) (pss_one (ps_ret pe_bl)) pss_nil)))))))))))))
  (pss_one (ps_ret pe_bl)))), ?_⟩
  obtain ⟨a0, rfl⟩ := len1 (sp_law_len _ _ _ _ h)
  obtain ⟨ad, ns, rfl, hns, n63, hP, q⟩ := h
  have hlim : ns.length ≤ lim := by
    have : 63 ≤ lim := by decide
    omega
  walk_at "S"
  refine ⟨ad, ns, rfl, hns, hlim, fun d g c' H1 s1 D1 hd hg hcn => ?_⟩
  have t1 : LamX.TabS H1 (He.cT K ("law", none)).2 qLam := LamX.TabS.nil (s1 _ _ hP)
  walk_at "S"
  refine c_lenL (s1.seq hns) ?_
  rw [List.length_map]
  refine c_min ?_
  walk_at "G"
  have eN : ((1 : Int) + if (1 : Int) < (ns.length : Int) then 1 else (ns.length : Int)) = ((if 1 < ns.length then 2 else 1 + ns.length : Nat) : Int) := by split <;> split <;> omega
  rw [eN]
  have hN : (if 1 < ns.length then 2 else 1 + ns.length) ≤ lim := by
    have : 2 ≤ lim := by decide
    split <;> omega
  generalize (if 1 < ns.length then 2 else 1 + ns.length) = N at hN
  refine rg_n hN ?_
  refine for_w (L2.walk_range (lo := 0) (n := N)) (fun i σ H' => ∃ (o2 o3 o4 o5 o6 o7 o8 o9 o10 o11 o12 : Option V), σ = [some (.ref ad), some (.ref d), o2, o3, o4, o5, o6, o7, o8, o9, o10, o11, o12] ∧ Dr d g c' H' ∧ LamX.TabS H' (He.cT K ("law", none)).2 qLam) ⟨none, none, none, none, none, none, none, none, none, none, none, rfl, D1, t1⟩ (fun _ _ _ _ _ => trivial) ?_ ?_
  · rintro i x σ H2 H2' hi ⟨o2, o3, o4, o5, o6, o7, o8, o9, o10, o11, o12, rfl, D2, t2⟩ ⟨rfl, rfl⟩
    walk_at "S"
    refine ⟨d, g, c', rfl, rfl, rfl, D2, fun mp H3 m hm D3 w3 => ?_⟩
    refine ⟨d, g, c', 2, rfl, rfl, by decide, D3, fun fp H4 fk lfk ndfk hfk _ D4 w4 => ?_⟩
    refine ⟨d, g, c', 3, rfl, rfl, by decide, by decide, D4, fun few H5 few0 few3 D5 w5 => ?_⟩
    walk_at "S"
    have hm5 := Mo.mo (w4.trans w5) hm
    have hfk5 := Mo.mo w5 hfk
    have t5 : LamX.TabS H5 (He.cT K ("law", none)).2 qLam := ((D2.tab t2).ext (w3.trans (w4.trans w5))).ext wo3_same
    refine ⟨_, _, _, rfl, m, Mo.mo wo3_same hm5, fun md H6 s6 hmd => ?_⟩
    have D6 := D5.mo s6
    have hmd6 := D6.rM hmd
    refine lock3 D6 fun HL Q' sL k => ?_
    walk_at "S"
    refine ⟨few, rfl, fun hd' H7' s7 _ hh => ?_⟩
    obtain ⟨H7, D7, w7, kn7, fin⟩ := k (.ref hd') H7' s7
    refine fin ?_
    have hh7 := Kn.kn kn7 hh
    refine ⟨_, _, rfl, ?_⟩
    intro a dx ha hdx hne
    have ps := pre_same (o := .own a) (o' := .ins (He.ga K "Live") dx []) ha hdx
    refine ⟨a, dx, mach m, few, rfl, upd_same, Mo.mo ps (Mo.mo wo3_same (Mo.mo w7 hmd6)), rfl, few0, by omega, fun H8 b8 hL => ⟨rfl, ?_⟩⟩
    have s8 := made_same ha hdx b8
    have D8 := D7.mo s8
    have w8 : Same (wo3 d g c' H7) (wo3 d g c' H8) := wo3_mono s8
    have w58 := ((wo3_mono (d := d) (g := g) (c := c') s6).trans w7).trans w8
    have t8 : LamX.TabS H8 (He.cT K ("law", none)).2 qLam := ((D5.tab t5).ext w58).ext wo3_same
    walk_at "S"
    refine ⟨d, g, c', 11, rfl, rfl, by decide, by decide, D8, fun nz H9 nz0 nz11 D9 w9 => ?_⟩
    obtain ⟨n2, rfl⟩ : ∃ n : Nat, nz = (n : Int) := ⟨nz.toNat, by omega⟩
    refine rg_n (by have : 11 ≤ lim := (by decide); omega) ?_
    have w89 := w8.trans w9
    have hL9 : LiveA K H9 a ⟨mach m, few, []⟩ .non := ((D8.live hL).mo w9).mo wo3_same
    have t9 : LamX.TabS H9 (He.cT K ("law", none)).2 qLam := ((D8.tab t8).ext w9).ext wo3_same
    have ev0 : Ev m fk ([], few) 0 := ⟨hm.2, fun e he => absurd he (List.not_mem_nil), fun z hz => absurd (folk_mem.mp hz).choose_spec.1 (List.not_mem_nil), by omega, Nat.le_refl _, by decide, few0, (by show few ≤ 2; omega)⟩
    refine for_w (L2.walk_range (lo := 0) (n := n2)) (fun j σ H' => ∃ (o4 o10 o11 o12 : Option V) (hv : V) (L : Lv), σ = [some (.ref ad), some (.ref d), some (.int (0 + (i : Int))), some (.ref a), o4, some (.ref mp), some (.ref fp), some (.int few), some md, some hv, o10, o11, o12] ∧ InnP K d g c' a (He.cT K ("law", none)).2 (.ref mp) (.ref fp) md m fk j hv L H')
      ⟨_, _, _, _, _, ⟨mach m, few, []⟩, rfl, D9, t9, hL9, rfl, Mo.mo (w58.trans w9) hm5, Mo.mo (w58.trans w9) hfk5, Mo.mo (w7.trans w89) hmd6, Mo.mo w89 hh7, ev0, Nat.le_refl _, fun s hs => absurd hs (List.not_mem_nil)⟩ (fun _ _ _ _ _ => trivial) ?_ ?_
    · rintro j y σ H10 H10' hj ⟨o4, o10, o11, o12, hv, L, rfl, D10, t10, hL10, eM, hm10, hfk10, hmd10, hh10, ev, ls, l3⟩ ⟨rfl, rfl⟩
      have n10 := ev.n10
      have hl := ev.len
      have f0 := ev.f0
      have f2 := ev.f2
      have fn2 := ev.n2
      have fkl := ev.fk2
      walk_at "S"
      refine ⟨d, g, c', m, fk, (L.cur.1, L.cur.2, L.steps.map Prod.fst), rfl, hm10, hfk10, by omega, hh10, ev.ok, by show L.cur.1.length < 64; omega, by show L.cur.2 ≤ 6; omega, by show (folk L.cur.1).length ≤ 6; omega, D10, fun dv H11 dk hdk hdv D11 w11 => ?_⟩
      have hL11 : LiveA K H11 a L .non := ((D10.live hL10).mo w11).mo wo3_same
      refine hL11.pr ⟨a, L, .non, rfl, hL11, fun al H12 s12 hal0 hal => ?_⟩
      have hL12 := hL11.mo s12
      refine hL12.pr ⟨a, L, .non, rfl, hL12, fun H13 s13 => ?_⟩
      have s113 := s12.trans s13
      have hL13 := hL11.mo s113
      have D13 := D11.mo s113
      have w1013 := w11.trans (wo3_mono s113)
      have hdv13 : rDe (wo3 d g c' H13) dv dk.enc := Mo.mo (wo3_mono s113) hdv
      have hal13 : rL rE (wo3 d g c' H13) (.ref al) L.cur.1 := D13.L (D11.new hal0) (Mo.mo s13 hal)
      refine ⟨_, _, _, rfl, ?_⟩
      walk_at "S"
      refine ⟨a, L, .non, m, fk, j, dk, L.steps.map Prod.fst, rfl, hL13, eM, ev, by omega, by omega, hdk, Mo.mo wo3_same hdv13, fun H14 b14 hL14 => ?_⟩
      have k14 : KeepN H13 H14 := KeepN.but b14 hL13
      have D14 := D13.kn k14
      have kw14 := k14.wo (d := d) (g := g) (c := c')
      have t14 := tab_but b14 hL13 (((D10.tab t10).ext w1013).ext wo3_same)
      have ev' := ev.next (by omega) hdk
      have ec : (stepL L dk.enc (ansR m L.cur.1 L.cur.2 dk)).cur = ansR m L.cur.1 L.cur.2 dk := cur_step
      walk_at "S"
      refine lock3 D14 fun HL Q' sL k => ?_
      walk_at "S"
      refine ⟨m, (L.cur.1, L.cur.2, L.steps.map Prod.fst), dk, Mo.mo sL (Kn.kn kw14 (Mo.mo w1013 hm10)), Mo.mo sL (Kn.kn kw14 (Mo.mo w1013 hh10)), Mo.mo sL (Kn.kn kw14 hdv13), ev.ok, by show L.cur.1.length < 63; omega, by show L.cur.2 ≤ 6; omega, by show (folk L.cur.1).length ≤ 6; omega, ev.pw _, by show (L.steps.map Prod.fst).length < 63; rw [List.length_map]; omega, fun hv' H15' s15 hh' => ?_⟩
      obtain ⟨H15, D15, w15, kn15, fin⟩ := k hv' H15' s15
      refine fin ?_
      have hh15 : rH (wo3 d g c' H15) hv' (ansF m (L.cur.1, L.cur.2, L.steps.map Prod.fst) dk) := Kn.kn kn15 hh'
      have hL15 : LiveA K H15 a (stepL L dk.enc (ansR m L.cur.1 L.cur.2 dk)) .non := ((D14.live hL14).mo w15).mo wo3_same
      have t15 : LamX.TabS H15 (He.cT K ("law", none)).2 qLam := ((D14.tab t14).ext w15).ext wo3_same
      have hm15 := Mo.mo w15 (Kn.kn kw14 (Mo.mo w1013 hm10))
      have hfk15 := Mo.mo w15 (Kn.kn kw14 (Mo.mo w1013 hfk10))
      have hmd15 := Mo.mo w15 (Kn.kn kw14 (Mo.mo w1013 hmd10))
      have hal15 := Mo.mo w15 (Kn.kn kw14 hal13)
      have hdv15 := Mo.mo w15 (Kn.kn kw14 hdv13)
      walk_at "S"
      refine ⟨a, _, .non, m, fk, j, dk, L.steps.map Prod.fst, L.cur, Mo.mo wo3_same hmd15, rfl, hL15, ec, Mo.mo wo3_same hal15, rfl, ev, by omega, hdk, Mo.mo wo3_same hdv15, fun H16 s16 => ?_⟩
      walk_at "S"
      refine ⟨a, _, .non, m, fk, j + 1, Mo.mo s16 (Mo.mo wo3_same hmd15), rfl, hL15.mo s16, eM, by rw [ec]; exact ev', fun H17 s17 => ?_⟩
      walk_at "S"
      have t17 := t15.ext (s16.trans s17)
      have hL17 := hL15.mo (s16.trans s17)
      have eL : (stepL L dk.enc (ansR m L.cur.1 L.cur.2 dk)).steps = L.steps ++ [(dk.enc, ansR m L.cur.1 L.cur.2 dk)] := rfl
      have eMs : (stepL L dk.enc (ansR m L.cur.1 L.cur.2 dk)).M = mach m := eM
      have eH : ansF m (L.cur.1, L.cur.2, L.steps.map Prod.fst) dk = ((stepL L dk.enc (ansR m L.cur.1 L.cur.2 dk)).cur.1, (stepL L dk.enc (ansR m L.cur.1 L.cur.2 dk)).cur.2, (stepL L dk.enc (ansR m L.cur.1 L.cur.2 dk)).steps.map Prod.fst) := by
        rw [ec, eL, List.map_append]
        rfl
      rw [eH] at hh15
      rw [← ec] at ev'
      have ls' : (stepL L dk.enc (ansR m L.cur.1 L.cur.2 dk)).steps.length ≤ j + 1 := by rw [eL, List.length_append]; simp; omega
      have l3' : ∀ s ∈ (stepL L dk.enc (ansR m L.cur.1 L.cur.2 dk)).steps, s.1.length ≤ 3 := fun s hs => by
        rw [eL] at hs
        rcases List.mem_append.mp hs with hs | hs
        · exact l3 s hs
        · rw [List.mem_singleton.mp hs]
          cases dk <;> simp [Dk.enc]
      clear eL eH ec
      generalize stepL L dk.enc (ansR m L.cur.1 L.cur.2 dk) = L' at hL15 hL17 hh15 ev' ls' l3' eMs
      have g0 := ev'.f0
      have g2 := ev'.f2
      have gn := ev'.n2
      have gl := ev'.len
      have fg : Fgt L' := ⟨by rw [eMs]; exact ev'.ok, by omega, g0, by omega, by rw [eMs]; exact ev'.pw _, by omega⟩
      refine ⟨fun p hp => by rw [List.mem_singleton.mp hp]; exact t17, fun H18 e18 t18' => ?_⟩
      have t18 := t18' _ (List.mem_singleton.mpr rfl)
      have hL18 := hL17.extN e18
      unfold TTc tLamT
      walk_at "S"
      refine hL18.me (nolook (by decide +kernel)) ?_
      refine ⟨a, L', .non, rfl, rfl, hL18, fg, fun H19 b19 hL19 => ?_⟩
      refine ⟨rfl, He.exm_ok (T.c.fact 164 rfl), fun ex hex => ?_⟩
      have s20 : Same H19 (upd H19 ex (ExT (.ref (He.ga K "NothingDone")) ex)) := same_new (same_refl _) hex
      have e20 : upd H19 ex (ExT (.ref (He.ga K "NothingDone")) ex) ex = some (ExT (.ref (He.ga K "NothingDone")) ex) := upd_same
      generalize upd H19 ex (ExT (.ref (He.ga K "NothingDone")) ex) = H20 at s20 e20
      refine c_isT T e20 ?_
      walk_at "S"
      have kk : KeepN H15 H20 := (((KeepN.of (s16.trans s17)).trans (KeepN.ext e18)).trans (KeepN.but b19 hL18)).trans (KeepN.of s20)
      have kw := kk.wo (d := d) (g := g) (c := c')
      have hL20 := hL19.mo s20
      have D20 := D15.kn kk
      have t20 := (tab_but b19 hL18 t18).ext s20
      have hm20 := Kn.kn kw hm15
      have hh20 := Kn.kn kw hh15
      refine ⟨a, L', .non, m, Mo.mo wo3_same hm20, rfl, hL20, eMs, Mo.mo wo3_same hh20, by omega, by omega, l3', gn, ev'.ok, g0, g2, fun H21 s21 => ?_⟩
      walk_at "S"
      have w21 : Same (wo3 d g c' H20) (wo3 d g c' H21) := wo3_mono s21
      exact ⟨_, _, _, _, hv', L', rfl, D20.mo s21, t20.ext s21, hL20.mo s21, eMs, Mo.mo w21 hm20, Mo.mo w21 (Kn.kn kw hfk15), Mo.mo w21 (Kn.kn kw hmd15), Mo.mo w21 hh20, ev', ls', l3'⟩
    · rintro σ H10 ⟨o4, o10, o11, o12, hv, L, rfl, D10, t10, _⟩
      walk_at "S"
      exact ⟨_, _, _, _, _, _, _, _, _, _, _, rfl, D10, t10⟩
  · rintro σ H2 ⟨o2, o3, o4, o5, o6, o7, o8, o9, o10, o11, o12, rfl, D2, t2⟩
    walk_at "S"
    exact q _
end
end Nb

/-! part En -/
set_option Elab.async false
set_option linter.all false
set_option maxRecDepth 100000
set_option maxHeartbeats 4000000
/-! The law's call by the caller: no repr is under way there. -/
namespace Nb
open PySem PySem.Spec PyProof.Rows L2
/-- what the caller's end asks -/
abbrev EndOk (h0 : Heap) (os0 : OsState) (r : Result) (s' : Shared) : Prop := r = .ok (.ret (.bool true)) ∧ OldK h0 s'.heap ∧ s'.os = os0 ∧ AllBare s'.gens
section
variable {P : Program} {w : World} {K : PySem.W.Frag} {mg mb : Str → Option Value} {k : Nat} {a c Pt : Addr} {x : Str} {sp : Sp} {st : Shared} {vs : List Value} {ns : List Int}
/-- from an abstract heap that tracks the script, perhaps, and the table -/
theorem end_core (KX : K.In st.heap) (gl : st.heap.Ns mainGlobals mg) (bl : st.heap.Ns builtinsNs mb) (bb : ∀ x : Str, x ≠ "__name__" → mb x = bootBuiltins x) (nl : st.heap.NoLimit) (gens : st.gens = #[])
    (hT : st.heap.get? Pt = some { cls := .none, data := .fields #[] }) (nT : K.lookup Pt = none) (C : PySem.W.CodeHd st.heap c Pt)
    (bm : ∃ (bm : Addr) (ob : Obj), mg "__builtins__" = some (.ref bm) ∧ bm ≠ builtinsNs ∧ st.heap.get? bm = some ob ∧ ob.cls = .type "module" ∧ ob.dict = some builtinsNs ∧ ob.data = .plain)
    (oa : st.heap.get? a = some { cls := .type "list", data := .seq vs.toArray }) (room : Room k callerA) (F : ∀ base : Heap, LamX.TabB base mg c Pt → ClG P w K mg base k x sp)
    (hsp : ∀ H : Hp, H Pt = some (.tbl #[]) → SqL K H a (ns.map V.int) → sp [.ref a] H (fun v _ => v = .bl true) E0) {fa : Addr} (hm : mg x = some (.ref fa))
    (H : Hp) (hP : H Pt = some (.tbl #[])) (only : ∀ b u, H b = some u → (b = a ∧ ∃ o xs, u = .frz o (.lst xs)) ∨ (b = Pt ∧ u = .tbl #[])) (sq : SqL K H a (ns.map V.int)) (hok : HOk P w H st.heap) (hK : H a ≠ none → K.lookup a = none) :
    codeAny (model P w) callerA (.call (.ref fa) ⟨[.ref a], []⟩) (EndOk st.heap st.os) st := by
  have keepB : ∀ {b : Addr} {o : Obj}, st.heap.get? b = some o → (∀ xs n, o.data ≠ .seq xs n) → o.data ≠ .fields #[] → (hidT st.heap H).get? b = some o := fun {b o} e n1 n2 => by
    refine hidT_get e ?_
    cases q : H b with
    | none => rfl
    | some u =>
      rcases only b u q with ⟨z, _⟩ | ⟨z, _⟩
      · rw [z, oa] at e; cases e; exact absurd rfl (n1 _ _)
      · rw [z, hT] at e; cases e; exact absurd rfl n2
  have nsB : ∀ {b : Addr} {m : Str → Option Value}, st.heap.Ns b m → (hidT st.heap H).Ns b m := fun {b m} ⟨o, es, ep, e, d, r⟩ => ⟨o, es, ep, keepB e (fun _ _ z => by rw [d] at z; cases z) (fun z => by rw [d] at z; cases z), d, r⟩
  have KB : K.In (hidT st.heap H) := fun b o e => by
    refine hidT_get (KX b o e) ?_
    cases q : H b with
    | none => rfl
    | some u =>
      rcases only b u q with ⟨z, _⟩ | ⟨z, _⟩
      · subst z; rw [hK (by rw [q]; exact nofun)] at e; cases e
      · subst z; rw [nT] at e; cases e
  have tb : LamX.TabB (hidT st.heap H) mg c Pt := by
    refine ⟨?_, ?_, fun z => ?_⟩
    · obtain ⟨o, us, file, tf, flags, tg, inF, text, tt, e1, r1, r2, r3, rest⟩ := C
      exact ⟨o, us, file, tf, flags, tg, inF, text, tt, keepB e1 (fun _ _ z => by rw [r2] at z; cases z) (fun z => by rw [r2] at z; cases z; simp at r3), r1, r2, r3, rest⟩
    · obtain ⟨m, ob, b1, b2, b3, b4, b5, b6⟩ := bm
      refine ⟨m, ob, b1, b2, fun z => ?_, fun z => ?_, keepB b3 (fun _ _ z => by rw [b6] at z; cases z) (fun z => by rw [b6] at z; cases z), b4, b5, b6⟩
      · obtain ⟨o, es, ep, e, d, _⟩ := gl
        rw [z, e] at b3; cases b3; rw [d] at b6; cases b6
      · rw [z, hT] at b3; cases b3; cases b6
    · obtain ⟨o, es, ep, e, d, _⟩ := gl
      rw [z, hT] at e; cases e; cases d
  have md : L2.Mod K mg (hidT st.heap H) := by
    obtain ⟨mc, l1, l2⟩ := nl
    exact ⟨KB, nsB gl, ⟨mb, nsB bl, bb⟩, mc, nsB l1, l2⟩
  have e0 : Env0 P w K mg (hidT st.heap H) callerA [] st H := ⟨rfl, md, fun _ _ e => of_hidT e, Nat.le_of_eq (hidT_size _ _), trivial, fun b hb => absurd (show b ∈ ([] : List Addr) from hb) (List.not_mem_nil), hok, .of_eq gens⟩
  obtain ⟨f, fd, ps, len, run, hmf, kp, bi⟩ := (F _ tb).ex
  rw [hm] at hmf
  cases hmf
  have q0 := hsp H hP sq
  have bd := bi st [.ref a] KX (by rw [List.append_nil]; exact len _ _ _ _ q0)
  rw [List.append_nil] at bd
  refine codeAny_mono (run callerA [] st H ⟨[.ref a], []⟩ [.ref a] [.ref a] _ rfl room e0 bd (.cons rfl .nil) q0) fun r s' hr => ?_
  cases r with
  | error e => exact (show False from hr).elim
  | ok fl =>
    cases fl with
    | next => exact False.elim hr
    | brk => exact False.elim hr
    | cont => exact False.elim hr
    | ret u =>
      obtain ⟨v, H', os, bare, un, hok', rv, rfl⟩ := hr
      obtain rfl : u = Value.bool true := rv
      have same : ∀ b o, b ≠ Pt → st.heap.get? b = some o → s'.heap.get? b = some o := fun b o n e => by
        cases q : H b with
        | none => exact un.keep b o e q (fun z => absurd (show b ∈ ([] : List Addr) from z) (List.not_mem_nil)) (List.not_mem_nil)
        | some u =>
          rcases only b u q with ⟨z, ob, xs, hu⟩ | ⟨z, _⟩
          · subst hu
            obtain ⟨e1, _⟩ := hok b _ q
            obtain ⟨e2, _⟩ := hok' b _ (un.frzs b ob _ q)
            rw [e] at e1; cases e1
            exact e2
          · exact absurd z n
      obtain ⟨more, hmo⟩ := un.tbls Pt #[] hP
      have grown : s'.heap.get? Pt = some { cls := .none, data := .fields (#[] ++ more) } := hok' Pt _ hmo
      refine ⟨rfl, ⟨fun b o e => ?_, fun b o e => ?_⟩, os, bare⟩
      · by_cases n : b = Pt
        · subst n
          rw [hT] at e; cases e
          exact .inr (.inl ⟨(C.tab hT).isCodeTable, rfl, #[], more, rfl, grown⟩)
        · exact .inl (same b o n e)
      · by_cases n : b = Pt
        · subst n; exact ⟨_, grown⟩
        · exact ⟨o, same b o n e⟩
theorem end_call (KX : K.In st.heap) (gl : st.heap.Ns mainGlobals mg) (bl : st.heap.Ns builtinsNs mb) (bb : ∀ x : Str, x ≠ "__name__" → mb x = bootBuiltins x) (nl : st.heap.NoLimit) (gens : st.gens = #[])
    (hT : st.heap.get? Pt = some { cls := .none, data := .fields #[] }) (nT : K.lookup Pt = none) (C : PySem.W.CodeHd st.heap c Pt)
    (bm : ∃ (bm : Addr) (ob : Obj), mg "__builtins__" = some (.ref bm) ∧ bm ≠ builtinsNs ∧ st.heap.get? bm = some ob ∧ ob.cls = .type "module" ∧ ob.dict = some builtinsNs ∧ ob.data = .plain)
    (oa : st.heap.get? a = some { cls := .type "list", data := .seq vs.toArray }) (hi : IntsAre vs ns) (hl : ns.length ≤ sizeLine) (room : Room k callerA) (F : ∀ base : Heap, LamX.TabB base mg c Pt → ClG P w K mg base k x sp)
    (hsp : ∀ H : Hp, H Pt = some (.tbl #[]) → SqL K H a (ns.map V.int) → sp [.ref a] H (fun v _ => v = .bl true) E0) {fa : Addr} (hm : mg x = some (.ref fa)) :
    codeAny (model P w) callerA (.call (.ref fa) ⟨[.ref a], []⟩) (EndOk st.heap st.os) st := by
  have rv := vals_ints hi
  have lv := hi.length
  have aP : a ≠ Pt := fun z => by
    rw [z, hT] at oa
    have y : Data.fields #[] = Data.seq vs.toArray _ := congrArg Obj.data (Option.some.inj oa)
    cases y
  cases hk : K.lookup a with
  | some o =>
    have e := KX a o hk
    rw [oa] at e; cases e
    refine end_core KX gl bl bb nl gens hT nT C bm oa room F hsp hm (fun b => if b = Pt then some (.tbl #[]) else none) (if_pos rfl) (fun b u z => ?_) (.inr ⟨_, vs.toArray, _, hk, rfl, rfl, rfl, by rw [List.size_toArray, lv]; exact hl, by simpa using rv⟩) (fun b u z => ?_) (fun z => absurd (if_neg aP) z)
    · by_cases n : b = Pt
      · exact .inr ⟨n, (Option.some.inj ((if_pos n).symm.trans z)).symm⟩
      · cases (if_neg n).symm.trans z
    · by_cases n : b = Pt
      · cases (if_pos n).symm.trans z
        rw [n]; exact hT
      · cases (if_neg n).symm.trans z
  | none =>
    refine end_core KX gl bl bb nl gens hT nT C bm oa room F hsp hm (fun b => if b = a then some (.frz { cls := .type "list", data := .seq vs.toArray } (.lst (ns.map V.int))) else if b = Pt then some (.tbl #[]) else none) ((if_neg (Ne.symm aP)).trans (if_pos rfl)) (fun b u z => ?_) (.inl (.inr ⟨_, if_pos rfl⟩)) (fun b u z => ?_) (fun _ => hk)
    · by_cases n : b = a
      · exact .inl ⟨n, _, _, (Option.some.inj ((if_pos n).symm.trans z)).symm⟩
      · by_cases n2 : b = Pt
        · exact .inr ⟨n2, (Option.some.inj ((if_pos n2).symm.trans ((if_neg n).symm.trans z))).symm⟩
        · cases (if_neg n2).symm.trans ((if_neg n).symm.trans z)
    · by_cases n : b = a
      · cases (if_pos n).symm.trans z
        rw [n]
        exact ⟨oa, by rw [List.length_map]; exact hl, vs, _, rv, oa⟩
      · by_cases n2 : b = Pt
        · cases (if_pos n2).symm.trans ((if_neg n).symm.trans z)
          rw [n2]; exact hT
        · cases (if_neg n2).symm.trans ((if_neg n).symm.trans z)
end
end Nb

/-! part Fi -/
set_option Elab.async false
set_option linter.all false
set_option maxRecDepth 100000
set_option maxHeartbeats 4000000
/-! The end. -/
namespace Nb
open PySem PySem.Spec PyProof.Rows L2
theorem room_law : Room 15 callerA := ⟨rfl, by decide +kernel, by decide +kernel⟩
theorem walk_law {q : Program} {lo : List Str} {XP : (Str → Option Value) → Heap → Prop} {d : DefRec} (hdf : d.params.defaults = []) (hn : d.name = "law") :
    PySem.W.WalkO q lo XP hookZ.says (PySem.W.OpenRow.toRowW Rw) d [] (fun f vs => PySem.call f vs) := by
  refine Att.attach_callB (l := PySem.Challenge.rw_neverbeen_k70_whole_live_logs_and_functi) (n := 63) rfl hdf fun w s₀ s₁ mg mb fa o pm cd doc a vs ns G Y ho hd hcd hmg hobj hints hlen hbits hg => ?_
  obtain ⟨K, KX, S⟩ := Y
  have T : Tx PySem.Challenge.pw_neverbeen_k70_whole_live_logs_and_functi w K mg := tx_of KX G.T.g S
  obtain ⟨t1, t2, t3⟩ := S.tabs ("law", none) (List.mem_singleton.mpr rfl)
  rw [hn] at hmg
  refine end_call (k := 15) (x := "law") (sp := sp_law K) KX G.T.g G.T.b G.T.builtins G.T.nolimit hg t3 t2 (PySem.W.codeHd_of_K KX t1) G.T.bmain hobj hints (Nat.le_trans hlen (by decide)) room_law (fun base TB => calg_law T TB) (fun H hP hS => ⟨a, ns, rfl, hS, hlen, hP, fun _ => rfl⟩) hmg
end Nb
open PySem PySem.W PySem.Calls PyProof.Rows
theorem PySem.Challenge.cw_neverbeen_k70_whole_live_logs_and_functi_holds : PySem.Challenge.rw_neverbeen_k70_whole_live_logs_and_functi.Holds := by
  refine Nb.hd_law fun said => ?_
  exact HandSHeadRun.head_any (r := Nb.Rw) (q := Nb.vw) (H := Nb.hookZ) (ob := Nb.ob) (M := 20000) (loose := Nb.loose) (d := Nb.dLaw) (kwd := []) Nb.ob_eq Nb.hd_open Nb.hd_fence Nb.run Nb.hd_def Nb.hd_the Nb.hd_kw Nb.hd_wr said Nb.hd_ok Nb.hd_bare Nb.hd_hw (Nb.walk_law Nb.hd_dfl Nb.hd_name)
