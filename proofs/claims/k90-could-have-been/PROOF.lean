import PyProof.Rows.All
import Wide.All
import OpenK.AllK
import Wide.FinOn
import KE.KStateDown
import HandS.ForMost
import HandS.Evl
import HandS.Walk
import HandS.Defaults
import HandS.HeadEnd
import HandS.HeadHook2
import HandS.Head2
import PySem.Challenge.RW_cutstand_k90_whole_cuts_could_have_been
import HandS.More
import HandS.Words
import HandS.WordsExc
import HandS.Head0
import HandS.Head1
import HandS.HeadHook1
import HandS.ClsMeth
import HandS.ExcInit
import HandS.ExcIs
import HandS.TryOnly
import KE.KExcIs
import HandS.Iter
import HandS.Zip
import KE.KDictWalk
import KE.GoesMore
import KE.GoesEnum
import HandS.SortInts
import HandS.SortKw
import HandS.TupMul
import KE.DataMinMax
import PySem.Str
import HandS.Conv
import HandS.IsInst
import HandS.NoneIn
import HandS.Style
import HandS.TupAny
import HandS.SetFor
import HandS.Text
import Lean
set_option Elab.async false
set_option linter.all false
set_option maxRecDepth 100000
set_option maxHeartbeats 0
/-! # CtTxt -/
namespace Ct
open PySem PySem.Spec PyProof.Rows L2
/-! ### the text: each def by its place -/
def topS (i : Nat) : Stmt := PySem.Challenge.pw_cutstand_k90_whole_cuts_could_have_been.main.body.getD i (.Pass ⟨0, 0, 0, 0⟩)
abbrev s_is_whole_forms : Stmt := topS 8
abbrev N_is_whole_forms : List Str := ["thing"]
abbrev P_is_whole_forms : List Str := ["thing"]
abbrev s_is_within : Stmt := topS 10
abbrev N_is_within : List Str := ["thing", "low", "high"]
abbrev P_is_within : List Str := ["thing", "low", "high"]
abbrev s_is_word : Stmt := topS 11
abbrev N_is_word : List Str := ["thing", "sign"]
abbrev P_is_word : List Str := ["thing"]
abbrev s_is_sign : Stmt := topS 12
abbrev N_is_sign : List Str := ["thing"]
abbrev P_is_sign : List Str := ["thing"]
abbrev s_is_tuple : Stmt := topS 13
abbrev N_is_tuple : List Str := ["thing", "many"]
abbrev P_is_tuple : List Str := ["thing", "many"]
abbrev s_answer : Stmt := topS 14
abbrev N_answer : List Str := ["form", "m", "state", "cause", "move"]
abbrev P_answer : List Str := ["form", "m", "state", "cause"]
abbrev s_is_letter : Stmt := topS 16
abbrev N_is_letter : List Str := ["thing", "sent"]
abbrev P_is_letter : List Str := ["thing", "sent"]
abbrev s_is_load : Stmt := topS 17
abbrev N_is_load : List Str := ["thing", "order", "sent", "waiting", "numbers", "letter", "k"]
abbrev P_is_load : List Str := ["thing", "order"]
abbrev s_right_stand : Stmt := topS 18
abbrev N_right_stand : List Str := ["form", "thing", "state", "load", "road"]
abbrev P_right_stand : List Str := ["form", "thing"]
abbrev s_waits : Stmt := topS 19
abbrev N_waits : List Str := ["stand", "road"]
abbrev P_waits : List Str := ["stand", "road"]
abbrev s_is_plain : Stmt := topS 21
abbrev N_is_plain : List Str := ["form", "thing"]
abbrev P_is_plain : List Str := ["form", "thing"]
abbrev s_machine_of : Stmt := topS 22
abbrev N_machine_of : List Str := ["form", "deed"]
abbrev P_machine_of : List Str := ["form", "deed"]
abbrev s_cause_of : Stmt := topS 23
abbrev N_cause_of : List Str := ["form", "stand", "deed", "waiting", "number", "sign"]
abbrev P_cause_of : List Str := ["form", "stand", "deed"]
abbrev s_answered : Stmt := topS 24
abbrev N_answered : List Str := ["form", "stand", "deed", "cause", "m"]
abbrev P_answered : List Str := ["form", "stand", "deed"]
abbrev s_can : Stmt := topS 25
abbrev N_can : List Str := ["form", "stand", "thing"]
abbrev P_can : List Str := ["form", "stand", "thing"]
abbrev s_taken_out : Stmt := topS 26
abbrev N_taken_out : List Str := ["loads", "road", "number", "sent", "waiting", "left", "letter"]
abbrev P_taken_out : List Str := ["loads", "road", "number"]
abbrev s_sent_out : Stmt := topS 27
abbrev N_sent_out : List Str := ["loads", "sends", "road", "sign", "sent", "waiting"]
abbrev P_sent_out : List Str := ["loads", "sends"]
abbrev s_done : Stmt := topS 28
abbrev N_done : List Str := ["form", "stand", "deed", "after", "sends", "word", "m", "states", "loads", "told"]
abbrev P_done : List Str := ["form", "stand", "deed"]
abbrev s_run : Stmt := topS 29
abbrev N_run : List Str := ["form", "stand", "deeds", "words", "number", "deed", "told"]
abbrev P_run : List Str := ["form", "stand", "deeds"]
abbrev s_events_of : Stmt := topS 31
abbrev N_events_of : List Str := ["form", "deeds", "many", "found", "deed", "m", "rule"]
abbrev P_events_of : List Str := ["form", "deeds"]
abbrev s_letters_of : Stmt := topS 32
abbrev N_letters_of : List Str := ["form", "stand", "deeds", "found", "road", "number", "sign", "k", "deed", "letter", "behind"]
abbrev P_letters_of : List Str := ["form", "stand", "deeds"]
abbrev s_is_whole_cuts : Stmt := topS 34
abbrev N_is_whole_cuts : List Str := ["thing"]
abbrev P_is_whole_cuts : List Str := ["thing"]
abbrev s_are_wholes : Stmt := topS 36
abbrev N_are_wholes : List Str := ["thing", "many", "one"]
abbrev P_are_wholes : List Str := ["thing", "many"]
abbrev s_ends_of_run : Stmt := topS 37
abbrev N_ends_of_run : List Str := ["form", "deeds", "many", "machine", "number"]
abbrev P_ends_of_run : List Str := ["form", "deeds"]
abbrev s_is_in : Stmt := topS 38
abbrev N_is_in : List Str := ["event", "cut"]
abbrev P_is_in : List Str := ["event", "cut"]
abbrev s_roads_of_letters : Stmt := topS 39
abbrev N_roads_of_letters : List Str := ["form", "stand", "deeds", "events", "found", "sending", "coming"]
abbrev P_roads_of_letters : List Str := ["form", "stand", "deeds"]
abbrev s_first_come_unsent : Stmt := topS 40
abbrev N_first_come_unsent : List Str := ["form", "stand", "deeds", "cut", "bad", "sending", "coming"]
abbrev P_first_come_unsent : List Str := ["form", "stand", "deeds", "cut"]
abbrev s_right_cut : Stmt := topS 41
abbrev N_right_cut : List Str := ["form", "stand", "deeds", "thing", "ends", "machine"]
abbrev P_right_cut : List Str := ["form", "stand", "deeds", "thing"]
abbrev s_deeds_in : Stmt := topS 42
abbrev N_deeds_in : List Str := ["form", "deeds", "cut", "events", "number"]
abbrev P_deeds_in : List Str := ["form", "deeds", "cut"]
abbrev s_through : Stmt := topS 44
abbrev N_through : List Str := ["form", "stand", "deeds", "cut", "inside", "outside", "number"]
abbrev P_through : List Str := ["form", "stand", "deeds", "cut"]
abbrev s_asked_shape : Stmt := topS 45
abbrev N_asked_shape : List Str := ["way", "number"]
abbrev P_asked_shape : List Str := ["way"]
abbrev s_asked_order : Stmt := topS 46
abbrev N_asked_order : List Str := ["form", "deeds", "numbers", "events", "stood", "place", "number"]
abbrev P_asked_order : List Str := ["form", "deeds", "numbers"]
abbrev s_way_asked : Stmt := topS 47
abbrev N_way_asked : List Str := ["form", "stand", "deeds", "told", "way", "numbers", "many", "stands", "place", "number"]
abbrev P_way_asked : List Str := ["form", "stand", "deeds", "told", "way"]
abbrev s_mix_L : Stmt := topS 49
abbrev N_mix_L : List Str := ["_law_cell_here", "_law_k", "_law_turn"]
abbrev P_mix_L : List Str := ["_law_cell_here", "_law_k"]
abbrev s_cell_L : Stmt := topS 50
abbrev N_cell_L : List Str := ["_law_script", "_law_k", "_law_seed"]
abbrev P_cell_L : List Str := ["_law_script", "_law_k"]
abbrev s_drawn_L : Stmt := topS 51
abbrev N_drawn_L : List Str := ["_law_cell_here", "_law_many", "_law_found", "_law_left", "_law_k"]
abbrev P_drawn_L : List Str := ["_law_cell_here", "_law_many"]
abbrev s_rule_L : Stmt := topS 52
abbrev N_rule_L : List Str := ["_law_drawn_here", "_law_mine", "_law_moves", "_law_k", "_law_x", "_law_y", "_law_z", "_law_sends", "_law_j", "_law_road", "_law_word"]
abbrev P_rule_L : List Str := ["_law_drawn_here", "_law_mine"]
abbrev s_form_L : Stmt := topS 53
abbrev N_form_L : List Str := ["_law_script", "_law_drawn_here", "_law_machines", "_law_roads", "_law_k", "_law_one", "_law_other", "_law_rules", "_law_m", "_law_mine", "_law_more", "_law_r"]
abbrev P_form_L : List Str := ["_law_script"]
abbrev s_base_L : Stmt := topS 54
abbrev N_base_L : List Str := ["_law_script", "_law_form_here", "_law_drawn_here", "_law_roads", "_law_r", "_law_x", "_law_some", "_law_k", "_law_rule_here", "_law_m"]
abbrev P_base_L : List Str := ["_law_script", "_law_form_here"]
abbrev s_answer_L : Stmt := topS 55
abbrev N_answer_L : List Str := ["_law_form_here", "_law_m", "_law_state", "_law_cause_here", "_law_move"]
abbrev P_answer_L : List Str := ["_law_form_here", "_law_m", "_law_state", "_law_cause_here"]
abbrev s_cause_L : Stmt := topS 56
abbrev N_cause_L : List Str := ["_law_form_here", "_law_stand", "_law_deed", "_law_waiting", "_law_found", "_law_one"]
abbrev P_cause_L : List Str := ["_law_form_here", "_law_stand", "_law_deed"]
abbrev s_step_L : Stmt := topS 57
abbrev N_step_L : List Str := ["_law_form_here", "_law_stand", "_law_deed", "_law_m", "_law_cause_here", "_law_after", "_law_sends", "_law_word", "_law_roads", "_law_sent", "_law_waiting", "_law_road", "_law_sign", "_law_one"]
abbrev P_step_L : List Str := ["_law_form_here", "_law_stand", "_law_deed"]
abbrev s_walk_L : Stmt := topS 58
abbrev N_walk_L : List Str := ["_law_form_here", "_law_stand", "_law_deeds", "_law_told", "_law_deed", "_law_found", "_law_word"]
abbrev P_walk_L : List Str := ["_law_form_here", "_law_stand", "_law_deeds"]
abbrev s_options_L : Stmt := topS 59
abbrev N_options_L : List Str := ["_law_form_here", "_law_stand", "_law_found", "_law_r", "_law_some", "_law_m", "_law_one", "_law_deed"]
abbrev P_options_L : List Str := ["_law_form_here", "_law_stand"]
abbrev s_next_L : Stmt := topS 60
abbrev N_next_L : List Str := ["_law_form_here", "_law_stand", "_law_number", "_law_some", "_law_deed"]
abbrev P_next_L : List Str := ["_law_form_here", "_law_stand", "_law_number"]
abbrev s_run_L : Stmt := topS 61
abbrev N_run_L : List Str := ["_law_form_here", "_law_stand", "_law_numbers", "_law_deeds", "_law_number"]
abbrev P_run_L : List Str := ["_law_form_here", "_law_stand", "_law_numbers"]
abbrev s_machine_L : Stmt := topS 62
abbrev N_machine_L : List Str := ["_law_form_here", "_law_deed"]
abbrev P_machine_L : List Str := ["_law_form_here", "_law_deed"]
abbrev s_events_L : Stmt := topS 63
abbrev N_events_L : List Str := ["_law_form_here", "_law_deeds", "_law_counts", "_law_found", "_law_deed", "_law_m"]
abbrev P_events_L : List Str := ["_law_form_here", "_law_deeds"]
abbrev s_ends_L : Stmt := topS 64
abbrev N_ends_L : List Str := ["_law_form_here", "_law_deeds", "_law_machines", "_law_deed", "_law_m"]
abbrev P_ends_L : List Str := ["_law_form_here", "_law_deeds"]
abbrev s_trips_L : Stmt := topS 65
abbrev N_trips_L : List Str := ["_law_form_here", "_law_base_here", "_law_deeds", "_law_found", "_law_events_here", "_law_stand", "_law_r", "_law_k", "_law_sign", "_law_j", "_law_after"]
abbrev P_trips_L : List Str := ["_law_form_here", "_law_base_here", "_law_deeds"]
abbrev s_right_L : Stmt := topS 66
abbrev N_right_L : List Str := ["_law_letters", "_law_cut_here", "_law_letter", "_law_sender", "_law_sent", "_law_taker", "_law_came", "_law_inside"]
abbrev P_right_L : List Str := ["_law_letters", "_law_cut_here"]
abbrev s_in_cut_L : Stmt := topS 67
abbrev N_in_cut_L : List Str := ["_law_form_here", "_law_deeds", "_law_cut_here", "_law_events_here", "_law_j"]
abbrev P_in_cut_L : List Str := ["_law_form_here", "_law_deeds", "_law_cut_here"]
abbrev s_cut_L : Stmt := topS 68
abbrev N_cut_L : List Str := ["_law_drawn_here", "_law_ends_here", "_law_m"]
abbrev P_cut_L : List Str := ["_law_drawn_here", "_law_ends_here"]
abbrev s_asked_L : Stmt := topS 69
abbrev N_asked_L : List Str := ["_law_form_here", "_law_base_here", "_law_deeds", "_law_told", "_law_way", "_law_found", "e"]
abbrev P_asked_L : List Str := ["_law_form_here", "_law_base_here", "_law_deeds", "_law_told", "_law_way"]
abbrev s_is_cut_L : Stmt := topS 70
abbrev N_is_cut_L : List Str := ["_law_form_here", "_law_base_here", "_law_deeds", "_law_cut_here", "_law_found", "e"]
abbrev P_is_cut_L : List Str := ["_law_form_here", "_law_base_here", "_law_deeds", "_law_cut_here"]
abbrev s_bent_L : Stmt := topS 71
abbrev N_bent_L : List Str := ["_law_form_here", "_law_drawn_here", "_law_stand", "_law_way", "_law_numbers", "_law_many", "_law_turn", "_law_at", "_law_other", "_law_m"]
abbrev P_bent_L : List Str := ["_law_form_here", "_law_drawn_here", "_law_stand", "_law_way"]
abbrev s_could_be_L : Stmt := topS 72
abbrev N_could_be_L : List Str := ["_law_form_here", "_law_base_here", "_law_deeds", "_law_told", "_law_way", "_law_events_here", "_law_m", "_law_mine", "_law_inside", "_law_found", "_law_whole", "_law_cut_here", "_law_k"]
abbrev P_could_be_L : List Str := ["_law_form_here", "_law_base_here", "_law_deeds", "_law_told", "_law_way"]
abbrev s_cut_right_L : Stmt := topS 73
abbrev N_cut_right_L : List Str := ["_law_form_here", "_law_base_here", "_law_deeds", "_law_drawn_here", "_law_cut_here", "_law_due", "_law_inside", "_law_told", "_law_way", "_law_head", "_law_k", "_law_other", "_law_bent_here"]
abbrev P_cut_right_L : List Str := ["_law_form_here", "_law_base_here", "_law_deeds", "_law_drawn_here"]
abbrev s_law : Stmt := topS 74
abbrev N_law : List Str := ["_law_script", "_law_form_here", "_law_base_here", "_law_drawn_here", "_law_deeds", "_law_k"]
abbrev P_law : List Str := ["_law_script"]
theorem sc_is_whole_forms : FnScope N_is_whole_forms P_is_whole_forms (defScope s_is_whole_forms) := ⟨rfl, rfl, rfl, by decide +kernel, rfl, by decide +kernel, by decide +kernel⟩
theorem sc_is_within : FnScope N_is_within P_is_within (defScope s_is_within) := ⟨rfl, rfl, rfl, by decide +kernel, rfl, by decide +kernel, by decide +kernel⟩
theorem sc_is_word : FnScope N_is_word P_is_word (defScope s_is_word) := ⟨rfl, rfl, rfl, by decide +kernel, rfl, by decide +kernel, by decide +kernel⟩
theorem sc_is_sign : FnScope N_is_sign P_is_sign (defScope s_is_sign) := ⟨rfl, rfl, rfl, by decide +kernel, rfl, by decide +kernel, by decide +kernel⟩
theorem sc_is_tuple : FnScope N_is_tuple P_is_tuple (defScope s_is_tuple) := ⟨rfl, rfl, rfl, by decide +kernel, rfl, by decide +kernel, by decide +kernel⟩
theorem sc_answer : FnScope N_answer P_answer (defScope s_answer) := ⟨rfl, rfl, rfl, by decide +kernel, rfl, by decide +kernel, by decide +kernel⟩
theorem sc_is_letter : FnScope N_is_letter P_is_letter (defScope s_is_letter) := ⟨rfl, rfl, rfl, by decide +kernel, rfl, by decide +kernel, by decide +kernel⟩
theorem sc_is_load : FnScope N_is_load P_is_load (defScope s_is_load) := ⟨rfl, rfl, rfl, by decide +kernel, rfl, by decide +kernel, by decide +kernel⟩
theorem sc_right_stand : FnScope N_right_stand P_right_stand (defScope s_right_stand) := ⟨rfl, rfl, rfl, by decide +kernel, rfl, by decide +kernel, by decide +kernel⟩
theorem sc_waits : FnScope N_waits P_waits (defScope s_waits) := ⟨rfl, rfl, rfl, by decide +kernel, rfl, by decide +kernel, by decide +kernel⟩
theorem sc_is_plain : FnScope N_is_plain P_is_plain (defScope s_is_plain) := ⟨rfl, rfl, rfl, by decide +kernel, rfl, by decide +kernel, by decide +kernel⟩
theorem sc_machine_of : FnScope N_machine_of P_machine_of (defScope s_machine_of) := ⟨rfl, rfl, rfl, by decide +kernel, rfl, by decide +kernel, by decide +kernel⟩
theorem sc_cause_of : FnScope N_cause_of P_cause_of (defScope s_cause_of) := ⟨rfl, rfl, rfl, by decide +kernel, rfl, by decide +kernel, by decide +kernel⟩
theorem sc_answered : FnScope N_answered P_answered (defScope s_answered) := ⟨rfl, rfl, rfl, by decide +kernel, rfl, by decide +kernel, by decide +kernel⟩
theorem sc_can : FnScope N_can P_can (defScope s_can) := ⟨rfl, rfl, rfl, by decide +kernel, rfl, by decide +kernel, by decide +kernel⟩
theorem sc_taken_out : FnScope N_taken_out P_taken_out (defScope s_taken_out) := ⟨rfl, rfl, rfl, by decide +kernel, rfl, by decide +kernel, by decide +kernel⟩
theorem sc_sent_out : FnScope N_sent_out P_sent_out (defScope s_sent_out) := ⟨rfl, rfl, rfl, by decide +kernel, rfl, by decide +kernel, by decide +kernel⟩
theorem sc_done : FnScope N_done P_done (defScope s_done) := ⟨rfl, rfl, rfl, by decide +kernel, rfl, by decide +kernel, by decide +kernel⟩
theorem sc_run : FnScope N_run P_run (defScope s_run) := ⟨rfl, rfl, rfl, by decide +kernel, rfl, by decide +kernel, by decide +kernel⟩
theorem sc_events_of : FnScope N_events_of P_events_of (defScope s_events_of) := ⟨rfl, rfl, rfl, by decide +kernel, rfl, by decide +kernel, by decide +kernel⟩
theorem sc_letters_of : FnScope N_letters_of P_letters_of (defScope s_letters_of) := ⟨rfl, rfl, rfl, by decide +kernel, rfl, by decide +kernel, by decide +kernel⟩
theorem sc_is_whole_cuts : FnScope N_is_whole_cuts P_is_whole_cuts (defScope s_is_whole_cuts) := ⟨rfl, rfl, rfl, by decide +kernel, rfl, by decide +kernel, by decide +kernel⟩
theorem sc_are_wholes : FnScope N_are_wholes P_are_wholes (defScope s_are_wholes) := ⟨rfl, rfl, rfl, by decide +kernel, rfl, by decide +kernel, by decide +kernel⟩
theorem sc_ends_of_run : FnScope N_ends_of_run P_ends_of_run (defScope s_ends_of_run) := ⟨rfl, rfl, rfl, by decide +kernel, rfl, by decide +kernel, by decide +kernel⟩
theorem sc_is_in : FnScope N_is_in P_is_in (defScope s_is_in) := ⟨rfl, rfl, rfl, by decide +kernel, rfl, by decide +kernel, by decide +kernel⟩
theorem sc_roads_of_letters : FnScope N_roads_of_letters P_roads_of_letters (defScope s_roads_of_letters) := ⟨rfl, rfl, rfl, by decide +kernel, rfl, by decide +kernel, by decide +kernel⟩
theorem sc_first_come_unsent : FnScope N_first_come_unsent P_first_come_unsent (defScope s_first_come_unsent) := ⟨rfl, rfl, rfl, by decide +kernel, rfl, by decide +kernel, by decide +kernel⟩
theorem sc_right_cut : FnScope N_right_cut P_right_cut (defScope s_right_cut) := ⟨rfl, rfl, rfl, by decide +kernel, rfl, by decide +kernel, by decide +kernel⟩
theorem sc_deeds_in : FnScope N_deeds_in P_deeds_in (defScope s_deeds_in) := ⟨rfl, rfl, rfl, by decide +kernel, rfl, by decide +kernel, by decide +kernel⟩
theorem sc_through : FnScope N_through P_through (defScope s_through) := ⟨rfl, rfl, rfl, by decide +kernel, rfl, by decide +kernel, by decide +kernel⟩
theorem sc_asked_shape : FnScope N_asked_shape P_asked_shape (defScope s_asked_shape) := ⟨rfl, rfl, rfl, by decide +kernel, rfl, by decide +kernel, by decide +kernel⟩
theorem sc_asked_order : FnScope N_asked_order P_asked_order (defScope s_asked_order) := ⟨rfl, rfl, rfl, by decide +kernel, rfl, by decide +kernel, by decide +kernel⟩
theorem sc_way_asked : FnScope N_way_asked P_way_asked (defScope s_way_asked) := ⟨rfl, rfl, rfl, by decide +kernel, rfl, by decide +kernel, by decide +kernel⟩
theorem sc_mix_L : FnScope N_mix_L P_mix_L (defScope s_mix_L) := ⟨rfl, rfl, rfl, by decide +kernel, rfl, by decide +kernel, by decide +kernel⟩
theorem sc_cell_L : FnScope N_cell_L P_cell_L (defScope s_cell_L) := ⟨rfl, rfl, rfl, by decide +kernel, rfl, by decide +kernel, by decide +kernel⟩
theorem sc_drawn_L : FnScope N_drawn_L P_drawn_L (defScope s_drawn_L) := ⟨rfl, rfl, rfl, by decide +kernel, rfl, by decide +kernel, by decide +kernel⟩
theorem sc_rule_L : FnScope N_rule_L P_rule_L (defScope s_rule_L) := ⟨rfl, rfl, rfl, by decide +kernel, rfl, by decide +kernel, by decide +kernel⟩
theorem sc_form_L : FnScope N_form_L P_form_L (defScope s_form_L) := ⟨rfl, rfl, rfl, by decide +kernel, rfl, by decide +kernel, by decide +kernel⟩
theorem sc_base_L : FnScope N_base_L P_base_L (defScope s_base_L) := ⟨rfl, rfl, rfl, by decide +kernel, rfl, by decide +kernel, by decide +kernel⟩
theorem sc_answer_L : FnScope N_answer_L P_answer_L (defScope s_answer_L) := ⟨rfl, rfl, rfl, by decide +kernel, rfl, by decide +kernel, by decide +kernel⟩
theorem sc_cause_L : FnScope N_cause_L P_cause_L (defScope s_cause_L) := ⟨rfl, rfl, rfl, by decide +kernel, rfl, by decide +kernel, by decide +kernel⟩
theorem sc_step_L : FnScope N_step_L P_step_L (defScope s_step_L) := ⟨rfl, rfl, rfl, by decide +kernel, rfl, by decide +kernel, by decide +kernel⟩
theorem sc_walk_L : FnScope N_walk_L P_walk_L (defScope s_walk_L) := ⟨rfl, rfl, rfl, by decide +kernel, rfl, by decide +kernel, by decide +kernel⟩
theorem sc_options_L : FnScope N_options_L P_options_L (defScope s_options_L) := ⟨rfl, rfl, rfl, by decide +kernel, rfl, by decide +kernel, by decide +kernel⟩
theorem sc_next_L : FnScope N_next_L P_next_L (defScope s_next_L) := ⟨rfl, rfl, rfl, by decide +kernel, rfl, by decide +kernel, by decide +kernel⟩
theorem sc_run_L : FnScope N_run_L P_run_L (defScope s_run_L) := ⟨rfl, rfl, rfl, by decide +kernel, rfl, by decide +kernel, by decide +kernel⟩
theorem sc_machine_L : FnScope N_machine_L P_machine_L (defScope s_machine_L) := ⟨rfl, rfl, rfl, by decide +kernel, rfl, by decide +kernel, by decide +kernel⟩
theorem sc_events_L : FnScope N_events_L P_events_L (defScope s_events_L) := ⟨rfl, rfl, rfl, by decide +kernel, rfl, by decide +kernel, by decide +kernel⟩
theorem sc_ends_L : FnScope N_ends_L P_ends_L (defScope s_ends_L) := ⟨rfl, rfl, rfl, by decide +kernel, rfl, by decide +kernel, by decide +kernel⟩
theorem sc_trips_L : FnScope N_trips_L P_trips_L (defScope s_trips_L) := ⟨rfl, rfl, rfl, by decide +kernel, rfl, by decide +kernel, by decide +kernel⟩
theorem sc_right_L : FnScope N_right_L P_right_L (defScope s_right_L) := ⟨rfl, rfl, rfl, by decide +kernel, rfl, by decide +kernel, by decide +kernel⟩
theorem sc_in_cut_L : FnScope N_in_cut_L P_in_cut_L (defScope s_in_cut_L) := ⟨rfl, rfl, rfl, by decide +kernel, rfl, by decide +kernel, by decide +kernel⟩
theorem sc_cut_L : FnScope N_cut_L P_cut_L (defScope s_cut_L) := ⟨rfl, rfl, rfl, by decide +kernel, rfl, by decide +kernel, by decide +kernel⟩
theorem sc_asked_L : FnScope N_asked_L P_asked_L (defScope s_asked_L) := ⟨rfl, rfl, rfl, by decide +kernel, rfl, by decide +kernel, by decide +kernel⟩
theorem sc_is_cut_L : FnScope N_is_cut_L P_is_cut_L (defScope s_is_cut_L) := ⟨rfl, rfl, rfl, by decide +kernel, rfl, by decide +kernel, by decide +kernel⟩
theorem sc_bent_L : FnScope N_bent_L P_bent_L (defScope s_bent_L) := ⟨rfl, rfl, rfl, by decide +kernel, rfl, by decide +kernel, by decide +kernel⟩
theorem sc_could_be_L : FnScope N_could_be_L P_could_be_L (defScope s_could_be_L) := ⟨rfl, rfl, rfl, by decide +kernel, rfl, by decide +kernel, by decide +kernel⟩
theorem sc_cut_right_L : FnScope N_cut_right_L P_cut_right_L (defScope s_cut_right_L) := ⟨rfl, rfl, rfl, by decide +kernel, rfl, by decide +kernel, by decide +kernel⟩
theorem sc_law : FnScope N_law P_law (defScope s_law) := ⟨rfl, rfl, rfl, by decide +kernel, rfl, by decide +kernel, by decide +kernel⟩
end Ct

/-! # CtHead -/
namespace Ct
open PySem PySem.Spec PyProof.Rows L2
def d_is_whole_forms : He.DefD := ⟨("is_whole_forms", none), "is_whole", "is_whole", defArgs s_is_whole_forms, defBody s_is_whole_forms, defScope s_is_whole_forms, [], []⟩
def d_is_within : He.DefD := ⟨("is_within", none), "is_within", "is_within", defArgs s_is_within, defBody s_is_within, defScope s_is_within, [], []⟩
def d_is_word : He.DefD := ⟨("is_word", none), "is_word", "is_word", defArgs s_is_word, defBody s_is_word, defScope s_is_word, [], []⟩
def d_is_sign : He.DefD := ⟨("is_sign", none), "is_sign", "is_sign", defArgs s_is_sign, defBody s_is_sign, defScope s_is_sign, [], []⟩
def d_is_tuple : He.DefD := ⟨("is_tuple", none), "is_tuple", "is_tuple", defArgs s_is_tuple, defBody s_is_tuple, defScope s_is_tuple, [], []⟩
def d_answer : He.DefD := ⟨("answer", none), "answer", "answer", defArgs s_answer, defBody s_answer, defScope s_answer, [], []⟩
def d_is_letter : He.DefD := ⟨("is_letter", none), "is_letter", "is_letter", defArgs s_is_letter, defBody s_is_letter, defScope s_is_letter, [], []⟩
def d_is_load : He.DefD := ⟨("is_load", none), "is_load", "is_load", defArgs s_is_load, defBody s_is_load, defScope s_is_load, [], []⟩
def d_right_stand : He.DefD := ⟨("right_stand", none), "right_stand", "right_stand", defArgs s_right_stand, defBody s_right_stand, defScope s_right_stand, [], []⟩
def d_waits : He.DefD := ⟨("waits", none), "waits", "waits", defArgs s_waits, defBody s_waits, defScope s_waits, [], []⟩
def d_is_plain : He.DefD := ⟨("is_plain", none), "is_plain", "is_plain", defArgs s_is_plain, defBody s_is_plain, defScope s_is_plain, [], []⟩
def d_machine_of : He.DefD := ⟨("machine_of", none), "machine_of", "machine_of", defArgs s_machine_of, defBody s_machine_of, defScope s_machine_of, [], []⟩
def d_cause_of : He.DefD := ⟨("cause_of", none), "cause_of", "cause_of", defArgs s_cause_of, defBody s_cause_of, defScope s_cause_of, [], []⟩
def d_answered : He.DefD := ⟨("answered", none), "answered", "answered", defArgs s_answered, defBody s_answered, defScope s_answered, [], []⟩
def d_can : He.DefD := ⟨("can", none), "can", "can", defArgs s_can, defBody s_can, defScope s_can, [], []⟩
def d_taken_out : He.DefD := ⟨("taken_out", none), "taken_out", "taken_out", defArgs s_taken_out, defBody s_taken_out, defScope s_taken_out, [], []⟩
def d_sent_out : He.DefD := ⟨("sent_out", none), "sent_out", "sent_out", defArgs s_sent_out, defBody s_sent_out, defScope s_sent_out, [], []⟩
def d_done : He.DefD := ⟨("done", none), "done", "done", defArgs s_done, defBody s_done, defScope s_done, [], []⟩
def d_run : He.DefD := ⟨("run", none), "run", "run", defArgs s_run, defBody s_run, defScope s_run, [], []⟩
def d_events_of : He.DefD := ⟨("events_of", none), "events_of", "events_of", defArgs s_events_of, defBody s_events_of, defScope s_events_of, [], []⟩
def d_letters_of : He.DefD := ⟨("letters_of", none), "letters_of", "letters_of", defArgs s_letters_of, defBody s_letters_of, defScope s_letters_of, [], []⟩
def d_is_whole_cuts : He.DefD := ⟨("is_whole_cuts", none), "is_whole", "is_whole", defArgs s_is_whole_cuts, defBody s_is_whole_cuts, defScope s_is_whole_cuts, [], []⟩
def d_are_wholes : He.DefD := ⟨("are_wholes", none), "are_wholes", "are_wholes", defArgs s_are_wholes, defBody s_are_wholes, defScope s_are_wholes, [], []⟩
def d_ends_of_run : He.DefD := ⟨("ends_of_run", none), "ends_of_run", "ends_of_run", defArgs s_ends_of_run, defBody s_ends_of_run, defScope s_ends_of_run, [], []⟩
def d_is_in : He.DefD := ⟨("is_in", none), "is_in", "is_in", defArgs s_is_in, defBody s_is_in, defScope s_is_in, [], []⟩
def d_roads_of_letters : He.DefD := ⟨("roads_of_letters", none), "roads_of_letters", "roads_of_letters", defArgs s_roads_of_letters, defBody s_roads_of_letters, defScope s_roads_of_letters, [], []⟩
def d_first_come_unsent : He.DefD := ⟨("first_come_unsent", none), "first_come_unsent", "first_come_unsent", defArgs s_first_come_unsent, defBody s_first_come_unsent, defScope s_first_come_unsent, [], []⟩
def d_right_cut : He.DefD := ⟨("right_cut", none), "right_cut", "right_cut", defArgs s_right_cut, defBody s_right_cut, defScope s_right_cut, [], []⟩
def d_deeds_in : He.DefD := ⟨("deeds_in", none), "deeds_in", "deeds_in", defArgs s_deeds_in, defBody s_deeds_in, defScope s_deeds_in, [], []⟩
def d_through : He.DefD := ⟨("through", none), "through", "through", defArgs s_through, defBody s_through, defScope s_through, [], []⟩
def d_asked_shape : He.DefD := ⟨("asked_shape", none), "asked_shape", "asked_shape", defArgs s_asked_shape, defBody s_asked_shape, defScope s_asked_shape, [], []⟩
def d_asked_order : He.DefD := ⟨("asked_order", none), "asked_order", "asked_order", defArgs s_asked_order, defBody s_asked_order, defScope s_asked_order, [], []⟩
def d_way_asked : He.DefD := ⟨("way_asked", none), "way_asked", "way_asked", defArgs s_way_asked, defBody s_way_asked, defScope s_way_asked, [], []⟩
def d_mix_L : He.DefD := ⟨("_law_mix", none), "_law_mix", "_law_mix", defArgs s_mix_L, defBody s_mix_L, defScope s_mix_L, [], []⟩
def d_cell_L : He.DefD := ⟨("_law_cell", none), "_law_cell", "_law_cell", defArgs s_cell_L, defBody s_cell_L, defScope s_cell_L, [], []⟩
def d_drawn_L : He.DefD := ⟨("_law_drawn", none), "_law_drawn", "_law_drawn", defArgs s_drawn_L, defBody s_drawn_L, defScope s_drawn_L, [], []⟩
def d_rule_L : He.DefD := ⟨("_law_rule", none), "_law_rule", "_law_rule", defArgs s_rule_L, defBody s_rule_L, defScope s_rule_L, [], []⟩
def d_form_L : He.DefD := ⟨("_law_form", none), "_law_form", "_law_form", defArgs s_form_L, defBody s_form_L, defScope s_form_L, [], []⟩
def d_base_L : He.DefD := ⟨("_law_base", none), "_law_base", "_law_base", defArgs s_base_L, defBody s_base_L, defScope s_base_L, [], []⟩
def d_answer_L : He.DefD := ⟨("_law_answer", none), "_law_answer", "_law_answer", defArgs s_answer_L, defBody s_answer_L, defScope s_answer_L, [], []⟩
def d_cause_L : He.DefD := ⟨("_law_cause", none), "_law_cause", "_law_cause", defArgs s_cause_L, defBody s_cause_L, defScope s_cause_L, [], []⟩
def d_step_L : He.DefD := ⟨("_law_step", none), "_law_step", "_law_step", defArgs s_step_L, defBody s_step_L, defScope s_step_L, [], []⟩
def d_walk_L : He.DefD := ⟨("_law_walk", none), "_law_walk", "_law_walk", defArgs s_walk_L, defBody s_walk_L, defScope s_walk_L, [], []⟩
def d_options_L : He.DefD := ⟨("_law_options", none), "_law_options", "_law_options", defArgs s_options_L, defBody s_options_L, defScope s_options_L, [], []⟩
def d_next_L : He.DefD := ⟨("_law_next", none), "_law_next", "_law_next", defArgs s_next_L, defBody s_next_L, defScope s_next_L, [], []⟩
def d_run_L : He.DefD := ⟨("_law_run", none), "_law_run", "_law_run", defArgs s_run_L, defBody s_run_L, defScope s_run_L, [], []⟩
def d_machine_L : He.DefD := ⟨("_law_machine", none), "_law_machine", "_law_machine", defArgs s_machine_L, defBody s_machine_L, defScope s_machine_L, [], []⟩
def d_events_L : He.DefD := ⟨("_law_events", none), "_law_events", "_law_events", defArgs s_events_L, defBody s_events_L, defScope s_events_L, [], []⟩
def d_ends_L : He.DefD := ⟨("_law_ends", none), "_law_ends", "_law_ends", defArgs s_ends_L, defBody s_ends_L, defScope s_ends_L, [], []⟩
def d_trips_L : He.DefD := ⟨("_law_trips", none), "_law_trips", "_law_trips", defArgs s_trips_L, defBody s_trips_L, defScope s_trips_L, [], []⟩
def d_right_L : He.DefD := ⟨("_law_right", none), "_law_right", "_law_right", defArgs s_right_L, defBody s_right_L, defScope s_right_L, [], []⟩
def d_in_cut_L : He.DefD := ⟨("_law_in_cut", none), "_law_in_cut", "_law_in_cut", defArgs s_in_cut_L, defBody s_in_cut_L, defScope s_in_cut_L, [], []⟩
def d_cut_L : He.DefD := ⟨("_law_cut", none), "_law_cut", "_law_cut", defArgs s_cut_L, defBody s_cut_L, defScope s_cut_L, [], []⟩
def d_asked_L : He.DefD := ⟨("_law_asked", none), "_law_asked", "_law_asked", defArgs s_asked_L, defBody s_asked_L, defScope s_asked_L, [], []⟩
def d_is_cut_L : He.DefD := ⟨("_law_is_cut", none), "_law_is_cut", "_law_is_cut", defArgs s_is_cut_L, defBody s_is_cut_L, defScope s_is_cut_L, [], []⟩
def d_bent_L : He.DefD := ⟨("_law_bent", none), "_law_bent", "_law_bent", defArgs s_bent_L, defBody s_bent_L, defScope s_bent_L, [], []⟩
def d_could_be_L : He.DefD := ⟨("_law_could_be", none), "_law_could_be", "_law_could_be", defArgs s_could_be_L, defBody s_could_be_L, defScope s_could_be_L, [], []⟩
def d_cut_right_L : He.DefD := ⟨("_law_cut_right", none), "_law_cut_right", "_law_cut_right", defArgs s_cut_right_L, defBody s_cut_right_L, defScope s_cut_right_L, [], []⟩
def d_law : He.DefD := ⟨("law", none), "law", "law", defArgs s_law, defBody s_law, defScope s_law, [], []⟩
abbrev s_NoCut_init : Stmt := inClass (topS 3) 0
def d_NoCut_init : He.DefD := ⟨("NoCut", some "__init__"), "__init__", "NoCut.__init__", defArgs s_NoCut_init, defBody s_NoCut_init, defScope s_NoCut_init, [], []⟩
def fn1 : List He.DefD := [d_is_whole_forms, d_is_within, d_is_word, d_is_sign, d_is_tuple, d_answer, d_is_letter, d_is_load, d_right_stand, d_waits, d_is_plain, d_machine_of, d_cause_of, d_answered, d_can, d_taken_out, d_sent_out, d_done, d_run, d_events_of, d_letters_of, d_is_whole_cuts, d_are_wholes, d_ends_of_run, d_is_in, d_roads_of_letters, d_first_come_unsent, d_right_cut, d_deeds_in, d_through]
def fn2 : List He.DefD := [d_asked_shape, d_asked_order, d_way_asked, d_mix_L, d_cell_L, d_drawn_L, d_rule_L, d_form_L, d_base_L, d_answer_L, d_cause_L, d_step_L, d_walk_L, d_options_L, d_next_L, d_run_L, d_machine_L, d_events_L, d_ends_L, d_trips_L, d_right_L, d_in_cut_L, d_cut_L, d_asked_L, d_is_cut_L, d_bent_L, d_could_be_L, d_cut_right_L, d_law, d_NoCut_init]
def fn : List He.DefD := fn1 ++ fn2
def fa1 : List He.Fa := [.glo "is_whole_forms", .glo "is_within", .glo "is_word", .glo "is_sign", .glo "is_tuple", .glo "answer", .glo "is_letter", .glo "is_load", .glo "right_stand", .glo "waits", .glo "is_plain", .glo "machine_of", .glo "cause_of", .glo "answered", .glo "can", .glo "taken_out", .glo "sent_out", .glo "done", .glo "run", .glo "events_of", .glo "letters_of", .glo "is_whole_cuts", .glo "are_wholes", .glo "ends_of_run", .glo "is_in", .glo "roads_of_letters", .glo "first_come_unsent", .glo "right_cut", .glo "deeds_in", .glo "through", .glo "asked_shape", .glo "asked_order", .glo "way_asked", .glo "_law_mix", .glo "_law_cell", .glo "_law_drawn", .glo "_law_rule", .glo "_law_form", .glo "_law_base", .glo "_law_answer", .glo "_law_cause"]
def fa2 : List He.Fa := [.glo "_law_step", .glo "_law_walk", .glo "_law_options", .glo "_law_next", .glo "_law_run", .glo "_law_machine", .glo "_law_events", .glo "_law_ends", .glo "_law_trips", .glo "_law_right", .glo "_law_in_cut", .glo "_law_cut", .glo "_law_asked", .glo "_law_is_cut", .glo "_law_bent", .glo "_law_could_be", .glo "_law_cut_right", .glo "law", .glo "CutError", .glo "NoCut", .free "isinstance", .free "len", .free "all", .free "int", .free "bool", .free "str", .free "tuple", .free "list", .free "range", .free "zip", .free "enumerate", .free "min", .free "max", .free "sorted", .free "ValueError", .int "MOST_STATE" 99, .int "MOST_LONG" 8, .str "LETTERS" "abcdefghijklmnopqrstuvwxyz", .exm "NoCut" "CutError" true, .noat "NoCut" "place", .noat "NoCut" "word"]
def fa : List He.Fa := fa1 ++ fa2
def loose0 : List Str := ["CutError", "NoDeed", "NoCut", "LETTERS", "MOST_STATE", "MOST_LONG", "is_whole", "is_whole_forms", "is_within", "is_word", "is_sign", "is_tuple", "answer", "is_letter", "is_load", "right_stand", "waits", "is_plain", "machine_of", "cause_of"]
def loose1 : List Str := ["answered", "can", "taken_out", "sent_out", "done", "run", "events_of", "letters_of", "is_whole_cuts", "are_wholes", "ends_of_run", "is_in", "roads_of_letters", "first_come_unsent", "right_cut", "deeds_in", "through", "asked_shape", "asked_order", "way_asked"]
def loose2 : List Str := ["_law_mix", "_law_cell", "_law_drawn", "_law_rule", "_law_form", "_law_base", "_law_answer", "_law_cause", "_law_step", "_law_walk", "_law_options", "_law_next", "_law_run", "_law_machine", "_law_events", "_law_ends", "_law_trips", "_law_right", "_law_in_cut", "_law_cut"]
def loose3 : List Str := ["_law_asked", "_law_is_cut", "_law_bent", "_law_could_be", "_law_cut_right"]
def loose : List Str := loose0 ++ (loose1 ++ (loose2 ++ (loose3)))
abbrev R : PySem.W.OpenRow := PySem.W.OpenLaw.row PySem.Challenge.rw_cutstand_k90_whole_cuts_could_have_been
/-- more facts of the written part: the classes of errors -/
def gaC (K : PySem.W.Frag) : Addr := He.ga K "CutError"
def gaN (K : PySem.W.Frag) : Addr := He.ga K "NoCut"
def ocls (K : PySem.W.Frag) (C : Addr) : Bool := match K.lookup C with
  | some ⟨.type c, none, .cls cd, _⟩ => decide (c = "type")
  | _ => false
def dbgV (o : Option (Option Value)) : Nat := match o with
  | none => 0
  | some none => 1
  | some (some (.builtin _)) => 2
  | some (some _) => 3
def initB : Option PySem.W.CFound → Bool
  | some (.val (.builtin x)) => decide (x = "ValueError.__init__")
  | _ => false
theorem initB_ok {o : Option PySem.W.CFound} (h : initB o = true) : o = some (.val (.builtin "ValueError.__init__")) := by
  unfold initB at h
  split at h
  · rw [of_decide_eq_true h]
  · cases h
def oexB (K : PySem.W.Frag) (C : Addr) : Bool := match K.lookup C with
  | some ⟨.type "type", _, .cls cd, sl⟩ => (match cd.mro, sl.toList with
    | .ref C' :: bm, [_, _, _, _, some (.builtin n), _] => C' == C && n == "ValueError.__new__" && !cd.hasDel && cd.hasDict && PySem.HandSPX.refsVE bm
    | _, _ => false)
  | _ => false
theorem oexB_ok {K : PySem.W.Frag} {C : Addr} (q : oexB K C = true) : ∃ nm qn N bs bm sn sub ab col dd k0 k1 k2 k3 k5,
    K.lookup C = some (excClassObj nm qn C N bs bm true sn sub ab col dd k0 k1 k2 k3 k5 "ValueError.__new__") ∧ PySem.HandSPX.refsVE bm = true := by
  unfold oexB at q
  split at q
  · rename_i dd cd sl ho
    split at q
    · rename_i C' bm k0 k1 k2 k3 n k5 hm hs
      simp only [Bool.and_eq_true, beq_iff_eq, Bool.not_eq_true'] at q
      obtain ⟨⟨⟨⟨rfl, rfl⟩, hdel⟩, hdc⟩, ht⟩ := q
      obtain ⟨nm, bs, mro, ns, qn, hd, sn, sub, ab, col, del⟩ := cd
      dsimp only at hm hdel hdc
      subst hm hdel hdc
      have hsl : sl = #[k0, k1, k2, k3, some (.builtin "ValueError.__new__"), k5] := by
        obtain ⟨l⟩ := sl
        simp only at hs
        rw [hs]
      subst hsl
      exact ⟨nm, qn, ns, bs, bm, sn, sub, ab, col, dd, k0, k1, k2, k3, k5, ho, ht⟩
    · cases q
  · cases q
def exB (K : PySem.W.Frag) : Bool :=
  He.eqO (PySem.W.findIn K (.ref (gaN K)) "__setattr__") (some (some (.builtin "object.__setattr__")))
  && (decide (PySem.W.subIn K (.ref (gaN K)) (.type "BaseException") = some true)
  && (decide (PySem.W.typeIn K (.ref (gaN K)) = some (.type "type"))
  && (PySem.W.keepIn K (.ref (gaN K))
  && (He.eqO (PySem.W.findIn K (.ref (gaN K)) "__init__") (some (some (.ref (He.ma K (gaN K) "__init__"))))
  && (decide (PySem.W.typeIn K (.ref (He.ma K (gaN K) "__init__")) = some (.type "function"))
  && (PySem.W.readsIn K (gaC K) (.type "type")
  && (He.eqO (PySem.W.specialIn K (.ref (gaC K)) "__getattribute__") (some (some (.builtin "type.__getattribute__")))
  && (initB (PySem.W.findCls K (.ref (gaC K)) (.type "type") "__init__")
  && (oexB K (gaN K)
  && (He.eqO (PySem.W.findIn K (.ref (gaN K)) "__getattribute__") (some (some (.builtin "BaseException.__getattribute__")))
  && (He.eqO (PySem.W.findIn K (.ref (gaN K)) "__getattr__") (some none)
  && (PySem.W.hasDictIn K (gaN K)
  && (He.eqO (PySem.W.findIn K (.ref (gaN K)) "__class__") (some (some (.builtin "object.__class__")))
  && (He.eqO (PySem.W.specialIn K (.builtin "object.__class__") "__get__") (some (some (.builtin "getset_descriptor.__get__")))
  && (decide (PySem.W.takesIn K (.builtin "object.__class__") = some true)
  && (decide (PySem.W.mroIn K (gaN K) (.type "object") = some true)
  && decide (PySem.W.kitOne K (.ref (gaN K)) (.ref (gaN K)) = some true)))))))))))))))))
/-! ### the Hook: He's facts and one Bool more -/
abbrev AlY : Type := He.AlD × Bool
def obsY (K : PySem.W.Frag) : AlY := (He.obsD fa fn K, exB K)
def valY : AlY := (He.valD fn, true)
def SaysY (K : PySem.W.Frag) : Prop := obsY K = valY
def obsYG (n : Nat) (g : Addr → Option Obj) : AlY := obsY (He.frG g (cStatics :: He.asD g n))
def hookY (n : Nat) : PySem.W.Hook where
  α := AlY
  obs := fun s => obsYG n s.heap.get?
  val := fun _ => valY
  says := fun _ h => ∃ K : PySem.W.Frag, K.In h ∧ SaysY K
  of := fun _ _ e => ⟨_, He.frG_in, e⟩
  keeps := fun _ _ _ ⟨K, hK, c⟩ k => ⟨K, PySem.W.Frag.In.keeps hK k, c⟩
theorem obsYG_eq {n : Nat} {g : Addr → Option Obj} {s : Shared} (h : ∀ a, g a = s.heap.get? a) : obsYG n g = (hookY n).obs s := by
  have e : g = s.heap.get? := funext h
  rw [e] <;> rfl
def ob (s : PySem.W.SharedT) : AlY := obsYG 5 (HandSHeadRun.getT s)
theorem ob_eq (s : PySem.W.SharedT) : ob s = (hookY 5).obs s.abs := obsYG_eq (HandSHeadRun.getT_eq s)

theorem run (w : World) : HandSHeadRun.RunEq R (PySem.W.view R.prog [74]) (hookY 5) ob 3000 loose w := by
  intro os
  kernel_rfl
end Ct

/-! # CtRules1 -/
namespace L2
open PySem PySem.Spec PyProof.Rows
/-- B.__init__(self, ..) where B is an own class that has its __init__ from ValueError -/
structure BInit (K : PySem.W.Frag) (B : Addr) : Prop where
  rd : PySem.W.readsIn K B (.type "type") = true
  ga : PySem.W.specialIn K (.ref B) "__getattribute__" = some (some (.builtin "type.__getattribute__"))
  at_ : PySem.W.findCls K (.ref B) (.type "type") "__init__" = some (.val (.builtin "ValueError.__init__"))
section
variable {X : Cx} {o e : Expr} {es : List Expr} {to te : TE} {ta : TA} {f : Str} {p p' p1 p2 pos : Pos}
theorem pe_binit {pl : Sem Bool} {x : Str} {B : Addr} (hg : Gl X x) (hm : X.mg x = some (.ref B)) (bi : BInit X.K B) (ha : PA X (e :: es) ta) (hdb : (x == ("__debug__" : Str)) = false := by decide)
    (hc : eval (.Call (.Attribute (.Name x p1) "__init__" p2) (e :: es) [] pos) X.env = (do
      let ov ← eval (.Name x p1) X.env
      standAt p2.atName
      let (f, first) ← holding [ov] (getMethod ov "__init__" pl)
      callWith pos f first (backTo pos (starEach (e :: es) X.env)) (backToKw pos (keywordEach [] X.env))) := by rfl)
    (he : starEach (e :: es) X.env = (false, eval e X.env) :: starEach es X.env := by rfl) (hpl : (backTo pos (starEach es X.env)).any (·.1) = false := by rfl) :
    PE X (.Call (.Attribute (.Name x p1) "__init__" p2) (e :: es) [] pos) (tVeI X.K ta) := by
  refine ⟨fun pins s σ H Q I h => ?_⟩
  refine PySem.W.methodCall_KW (ld_glob I hg hm ?_ hdb) hc
  refine PySem.W.method_cls I.kIn bi.ga ?_
  refine PySem.W.cls_value I.kIn bi.rd bi.at_ (by rfl) ?_
  show wpAny _ _ (callWith pos (Value.builtin "ValueError.__init__") [] (backTo pos (starEach (e :: es) X.env)) []) _ _ _
  refine PyProof.Rows.callWith_method1 (thn (ha.run pos pins _ σ H _ (I.tok _) h) fun us s1 ⟨vs, H1, I1, r1, a, C, ws, ev, hl, T, ea, q⟩ => ?_) he hpl
  subst ev
  cases r1 with
  | @cons _ u0 _ ur ra rw' =>
    obtain rfl : u0 = Value.ref a := ra
    have hlen : ur.length ≤ sizeLine := by
      rw [← Paired.length rw', sizeLine_eq]
      omega
    exact oinit_ok T I1 ea hlen fun s' J => ⟨.non, H1, J, rfl, q⟩
end
/-- isinstance(e, c), e the exception that the suite holds, its dict at d -/
theorem call_isED {X : Cx} {a D d : Addr} {oe : Obj} {pn : List (Addr × Obj)} (C : ExcC X.K D) (hz : Zc (.ref D) (some d) oe) (hf : ∃ vs, oe.data = .fields vs) :
    CallR (X.suite a ((a, oe) :: pn)) (.builtin "isinstance") (fun xs H Q => ∃ (c : V) (cv : Value) (b : Bool) (fs : List (Str × V)), H d = some (.xd fs) ∧ xs = [.ref a, c] ∧ (∀ u, RelV c u → u = cv) ∧ PySem.W.kitOne X.K (.ref D) cv = some b ∧ Q (.bl b) H) := by
  intro pins s σ H xs us Q I r h
  obtain ⟨c, cv, b, fs, hd, rfl, hcv, e, q⟩ := h
  cases r with
  | cons rx rr =>
    cases rr with
    | cons rt rr =>
      cases rr
      cases rx
      have ec := hcv _ rt
      subst ec
      obtain ⟨hget, _⟩ := I.pin (a, oe) (List.mem_append.mpr (.inl List.mem_cons_self))
      obtain ⟨vs, hv⟩ := hf
      have hx : ObjOk X.prog X.w H s.heap d (.xd fs) := I.hok d _ hd
      obtain ⟨mA, hns, _⟩ := hx
      obtain ⟨od, ho, hl⟩ := lookIn_ns hns
      have J : PySem.W.InstAt s.heap a oe D (some od) := by
        obtain ⟨oc, od', oda, osl⟩ := oe
        obtain ⟨h1, h2⟩ := hz
        dsimp only at h1 h2 hv
        subst h1 h2 hv
        exact ⟨hget, rfl, rfl, ho⟩
      have hcl : (PySem.W.clsIn X.K D).isSome = true := by
        obtain ⟨cd, hc, _⟩ := PySem.W.any_some C.hd
        rw [hc]; rfl
      exact PySem.W.kia_one (PySem.W.kitx_exc hcl C.hg C.hk C.hs C.ha C.hn C.ht C.hm) I.kIn J e (fun z => nomatch z) fun tk => ⟨.bl b, H, I.kept (t' := tk) fun _ _ z => z, rfl, q⟩
end L2

/-! # CtRules2 -/
namespace L2
open PySem PySem.Spec PyProof.Rows
/-! ### values of a dict with tuple keys -/
theorem Inv.frzTV {X : Cx} {pins : List (Addr × Obj)} {σ : St} {H : Hp} {s : Shared} {d : Addr} {o : Obj} {kvs : List (List Key × V)} (I : Inv X pins σ H s) (h : H d = some (.frz o (.dT kvs))) :
    (d == sysModules) = false ∧ s.heap.get? d = some o ∧ o.ExactDict ∧ ∃ (es : Array DictEntry) (ep : Nat), o.data = .dict es ep ∧ es.size = kvs.length ∧
      ∀ (i : Nat) (k : List Key) (v : V), kvs[i]? = some (k, v) → ∃ (hi : i < es.size), RelV v es[i].val := by
  obtain ⟨hd, z, hs, xs, pr, o', es, ep, ho, hx, hdt, he, _⟩ := I.hok d _ h
  rw [hd] at ho
  cases ho
  have l1 : es.size = xs.length := size_of_entries he
  have l2 : kvs.length = xs.length := Paired.length pr
  refine ⟨hs, hd, hx, es, ep, hdt, by omega, fun i k v e => ?_⟩
  obtain ⟨b, hb, e1, e2, e3⟩ := paired_get pr e
  have q := entry_at he i
  rw [hb] at q
  obtain ⟨hi, q2⟩ := Array.getElem?_eq_some_iff.mp q
  exact ⟨hi, by rw [q2]; exact e3⟩
def ItdT (d : Addr) (o : Obj) (kvs : List (List Key × V)) : It :=
  ⟨fun i H => H d = some (.frz o (.dT kvs)) ∧ i < kvs.length, fun i H x H' => H' = H ∧ ∃ k, kvs[i]? = some (k, x), fun i H => H d = some (.frz o (.dT kvs)) ∧ kvs.length ≤ i⟩
theorem turn_valsT {P : Program} {w : World} {K : PySem.W.Frag} {tg : Expr} {d : Addr} {o : Obj} {es : Array DictEntry} {ep : Nat} {kvs : List (List Key × V)} (it : Addr) (hod : o.data = .dict es ep) :
    Turn P w K tg (ItdT d o kvs) [it] it (fun i h => h.IsValIter it d i kvs.length ep) where
  mem := by simp
  obj := fun i h st b hb => by
    obtain rfl : b = it := by simpa using hb
    obtain ⟨oi, e, _, dd⟩ := st
    exact ⟨oi, e, fun v z => by rw [dd] at z; cases z⟩
  keep := fun i h h' st k => st.at fun oi e => k it (by simp) oi e
  item := by
    intro X hP hw hK hc i pins s σ H E I hf st hg
    subst hP hw hK
    obtain ⟨hd, hi⟩ := hg
    obtain ⟨f0, f1, f2, f3, f4, f5⟩ := hf it (by simp)
    obtain ⟨hs, hgd, hx, es', ep', hdt, hsz, ent⟩ := I.frzTV hd
    obtain ⟨rfl, rfl⟩ := dict_ep hod hdt
    obtain ⟨⟨k, v⟩, hkv⟩ : ∃ p, kvs[i]? = some p := ⟨kvs[i], List.getElem?_eq_getElem hi⟩
    obtain ⟨hi2, ru⟩ := ent i k v hkv
    have st' : s.heap.IsValIter it d i es'.size ep' := by rw [hsz]; exact st
    refine wpAny_pyNext_values_item_raw st' ⟨o, hgd, hx, hdt⟩ hi2 fun h' st2 sb => ?_
    have I1 : Inv X pins σ H { s with heap := h' } := I.turned (t' := s.toks) (fun b ob hb e => (sb.2 b hb).trans e) f0 f1 f3 f4 f5
    obtain ⟨oi, e, c, dd⟩ := id st2
    refine ⟨_, rfl, go_of (s := { s with heap := h' }) e c dd (by decide) ⟨v, H, I1, ru, ⟨rfl, k, hkv⟩, ?_, fun b hb => (hf b hb).1⟩⟩
    show h'.IsValIter it d (i + 1) kvs.length _
    rw [← hsz]
    exact st2
  done := by
    intro X hP hw hK hc i pins s σ H E I hf st hg
    subst hP hw hK
    obtain ⟨hd, hi⟩ := hg
    obtain ⟨f0, f1, f2, f3, f4, f5⟩ := hf it (by simp)
    obtain ⟨hs, hgd, hx, es', ep', hdt, hsz, ent⟩ := I.frzTV hd
    obtain ⟨rfl, rfl⟩ := dict_ep hod hdt
    have st' : s.heap.IsValIter it d i es'.size ep' := by rw [hsz]; exact st
    exact wpAny_pyNext_values_end_raw (I.ok.hd hc) st' ⟨o, hgd, hx, hdt⟩ (by omega) fun h' eb => ⟨rfl, I.turned (t' := s.toks) (fun b ob hb e => eb b ob hb e) f0 f1 f3 f4 f5⟩
  self := fun A i s Q E st h => wpAny_pyIter_valiter st h
/-- d.values(), d a dict with tuple keys: it is locked from then on -/
def iValsT (td : TE) : TI := fun σ H R => td σ H fun x H1 => ∃ d kvs, x = .ref d ∧ H1 d = some (.dT kvs) ∧ ∀ o, R (ItdT d o kvs) (upd H1 d (.frz o (.dT kvs)))
theorem pi_valuesT {X : Cx} {tg e : Expr} {td : TE} {apos cpos : Pos} (he : PE X e td) (hbase : attributeBase e "values" X.env (eval e X.env) = eval e X.env := by rfl) (hline : (apos.endLine == cpos.line) = true := by rfl) :
    PI X tg (.Call (.Attribute e "values" apos) [] [] cpos) (iValsT td) := by
  refine ⟨fun pins s σ H R I h => ?_⟩
  refine wpAny_Call_method (T := "dict") (id := "dict.values") hbase rfl hline F.plainAttrs_dict F.slot_dict_values F.type_dict_values (thn (he.run pins s σ H _ I h) fun u s1 ⟨x, H1, I0, rx, d, kvs, ex, hd0, q0⟩ => ?_)
  subst ex
  obtain rfl : u = Value.ref d := rx
  obtain ⟨od, I1⟩ := I0.lock hd0 trivial
  have q := q0 od
  have hd : (upd H1 d (.frz od (.dT kvs))) d = some (.frz od (.dT kvs)) := upd_same
  obtain ⟨hs, hgd, hx, es, ep, hdt, hsz, ent⟩ := I1.frzTV hd
  have hm : s1.heap.DictRaw d es ep := ⟨od, hgd, hx, hdt⟩
  refine ⟨hm.typeIs, ?_, ?_⟩
  · intro a e
    cases e
    first
      | exact ⟨od, hgd, hx.2⟩
      | exact ⟨od, hgd, hx.2.1⟩
  have I2 : Inv X pins σ (upd H1 d (.frz od (.dT kvs))) { s1 with heap := s1.heap.push { cls := .type "dict_values", data := .fields #[.ref d] } } := I1.kept (t' := s1.toks) fun b ob q => Heap.get?_push_of_some _ q
  have fin : wpAny (model X.prog X.w) X.A (pyIter (.ref s1.heap.objs.size)) (PIE X pins σ tg R) X.xe { s1 with heap := s1.heap.push { cls := .type "dict_values", data := .fields #[.ref d] } } := by
    refine wpAny_pyIter_values_raw (d := d) (es := es) (ep := ep) ⟨_, Heap.get?_push_size _ rfl, rfl, rfl⟩ (hm.at fun o e => Heap.get?_push_of_some _ e) (pi_one (tk := s1.toks) I2 _ (turn_valsT _ hdt) ⟨_, Heap.get?_push_size _ rfl, rfl, ?_⟩ q)
    rw [hsz] <;> rfl
  show wpAny _ _ (callWith cpos (.builtin "dict.values") [.ref d] [] []) _ X.xe s1
  exact method_meetsIn F.slot_dict_values F.entry_dict_values rfl (PySem.evalArgs_none ⟨rfl, hm.typeIs, F.args_dict_values_1 _, _, meets_dict_values_raw d hs, ⟨es, ep, hm⟩, fin⟩)
end L2

/-! # CtRules3 -/
namespace PySem
open PySem PySem.Spec PyProof.Rows
/-- enumerate(v): its two new cells -/
theorem meets_enumerate_newB1 {v : Value} {o : Obj} {H : Heap → Prop} (B : Begins v o H) :
    Meets (Builtin.«enumerate.__new__» ⟨[.type "enumerate", v], []⟩) (fun _ R s => H s.heap ∧
      R (.ok (.ret (.ref (s.heap.push o).objs.size))) { s with heap := (s.heap.push o).push { cls := .type "enumerate", data := .fields #[.none, .bool false, .ref s.heap.objs.size, rawInt 0, .none, .none] } }) :=
  .of_wp fun prog w A R s h => by
    obtain ⟨hp, g, d, tk, os⟩ := s
    obtain ⟨h1, h⟩ := h
    have hsub := sub_enumerate
    have q1 : ∀ {A' : Around} {E : Value → Shared → Prop} {Q : Value → Shared → Prop}, Q (.ref hp.objs.size) ⟨hp.push o, g, d, tk, os⟩ → wpAny (model prog w) A' (pyIter v) Q E ⟨hp, g, d, tk, os⟩ :=
      fun q => B.iter prog w _ _ ⟨hp, g, d, tk, os⟩ _ h1 q
    wp_walk using q1
    refine wpAny_stack_any fun st => wpAny_pure ?_
    split
    · rename_i c _ _ _ _ _
      cases (c == Value.type "enumerate") <;> (wp_walk using q1; exact ⟨_, rfl, h⟩)
    · wp_walk using q1
      exact ⟨_, rfl, h⟩
theorem enum_begins1 {prog : Program} {w : World} {A : Around} {E : Value → Shared → Prop} {s : Shared} {v : Value} {o : Obj} {H : Heap → Prop} {Q : Value → Shared → Prop} (B : Begins v o H) (h1 : H s.heap)
    (h : ∀ h', IsEnum h' (s.heap.objs.size + 1) s.heap.objs.size 0 .none → h'.get? s.heap.objs.size = some o → (∀ b o, s.heap.get? b = some o → h'.get? b = some o) → Q (.ref (s.heap.objs.size + 1)) { s with heap := h' }) :
    wpAny (model prog w) A (call (.type "enumerate") [v]) Q E s := by
  refine callType_new F.called_enumerate (by decide) (F.typeCall_enumerate_1 _) (F.newCall_enumerate_1 _) (fun obj => F.args_object_init_2 obj _) F.entry_enumerate_new (meets_enumerate_newB1 B) ⟨h1, ?_⟩
  have hz : (s.heap.push o).objs.size = s.heap.objs.size + 1 := Heap.size_push ..
  show _ ∧ _
  rw [hz]
  have he : IsEnum ((s.heap.push o).push { cls := .type "enumerate", data := .fields #[.none, .bool false, .ref s.heap.objs.size, rawInt 0, .none, .none] }) (s.heap.objs.size + 1) s.heap.objs.size 0 .none := by
    have e := Heap.get?_push_size (s.heap.push o) (o := { cls := .type "enumerate", data := .fields #[.none, .bool false, .ref s.heap.objs.size, rawInt 0, .none, .none] }) rfl
    rw [hz] at e
    exact e
  exact ⟨⟨_, he, rfl⟩, h _ he (Heap.get?_push_of_some _ (Heap.get?_push_size _ B.free)) fun b o x => Heap.get?_push_of_some _ (Heap.get?_push_of_some _ x)⟩
end PySem
namespace L2
open PySem PySem.Spec PyProof.Rows
/-! ### enumerate(tuple) -/
def IteT (K : PySem.W.Frag) (a : Addr) : It :=
  ⟨fun i H => ∃ (xs : List V) (x : V), SqT K H a xs ∧ xs[i]? = some x, fun i H v H' => ∃ T x, v = .ref T ∧ H T = none ∧ H' = upd H T (.tup [.int (i : Nat), x]) ∧ ∀ xs, SqT K H a xs → xs[i]? = some x, fun i H => ∃ xs : List V, SqT K H a xs ∧ xs.length = i⟩
theorem turn_enumT {P : Program} {w : World} {K : PySem.W.Frag} {elts : List Expr} {kk : Nat} {tpos : Pos} (a e it : Addr) :
    Turn P w K (.Tuple elts kk tpos) (IteT K a) [e, it] e (fun i h => (∃ old, IsEnum h e it ((i : Nat) : Int) old) ∧ h.IsTupleIter it a i ∧ e ≠ it ∧ a ≠ it ∧ e ≠ a) where
  mem := by simp
  obj := fun i h st b hb => by
    obtain ⟨⟨old, he⟩, ⟨o, ho, hc, hd⟩, _⟩ := st
    have e' : b = e ∨ b = it := by simpa using hb
    rcases e' with rfl | rfl
    · exact ⟨_, he, fun v q => nomatch q⟩
    · exact ⟨o, ho, fun v q => by rw [hd] at q; cases q⟩
  keep := fun i h h' st k => let ⟨⟨old, he⟩, hi, hne⟩ := st; ⟨⟨old, k e (by simp) _ he⟩, hi.at fun o q => k it (by simp) o q, hne⟩
  item := by
    intro X hP hw hK hc i pins s σ H E I hf st hg
    subst hP hw hK
    obtain ⟨⟨old, he⟩, hit, hne, hai, hea⟩ := st
    obtain ⟨xs, x, hq, hx⟩ := hg
    obtain ⟨its, rv, p, hz⟩ := I.tuple hq
    obtain ⟨u, hu, ru⟩ := rv.get hx
    have hel : e < s.heap.objs.size := Heap.lt_size he
    have hil : it < s.heap.objs.size := by obtain ⟨_, q, _⟩ := hit; exact Heap.lt_size q
    have hlt : i < its.toArray.size := by
      rw [List.size_toArray]
      exact (List.getElem?_eq_some_iff.mp hu).1
    have D := Draws.tuple (prog := X.prog) (w := X.w) (A := X.A.in1) (I.ok.hd hc) it a hai its.toArray
    refine wpAny_pyNext_enum_itemD D he ⟨hit, p⟩ hlt hne (by simp [hne, hea]) fun x' h' tk hP ho hst' hT hsz hk => ?_
    have ex : x' = u := by
      rw [List.getElem?_toArray, hu] at hP
      exact (Option.some.inj hP).symm
    subst ex
    refine ⟨_, rfl, wpAny_letOwnedTupleGo_enum (s := { s with heap := h', toks := tk + 1 }) ho fun h'' he' sb => ?_⟩
    have hT2 : h''.get? s.heap.objs.size = some { cls := .type "tuple", data := .seq #[.int i tk, x'] } := (sb.2 _ (Nat.ne_of_gt hel)).trans hT
    have new : ObjOk X.prog X.w (upd H s.heap.objs.size (.tup [.int (i : Nat), x])) h'' s.heap.objs.size (.tup [.int (i : Nat), x]) :=
      ⟨by show 2 ≤ sizeLine; decide, [.int i tk, x'], .cons ⟨_, rfl⟩ (.cons ru .nil), ⟨_, hT2, rfl, _, rfl⟩⟩
    have I1 : Inv X pins σ (upd H s.heap.objs.size (.tup [.int (i : Nat), x])) { s with heap := h'', toks := tk + 1 } :=
      I.turnedNew (ch := [e, it]) (fun b ob hb q => (sb.2 b (fun z => hb (by simp [z]))).trans (hk b ob (fun z => hb (by simp [z])) (fun z => hb (by simp [z])) q)) hf (Nat.le_refl _) new
    refine ⟨.ref s.heap.objs.size, _, I1, rfl, ⟨_, x, rfl, I.hok.fresh (Nat.le_refl _), rfl, fun ys hy => by rw [I.tuple_inj hy hq]; exact hx⟩, ⟨⟨x', ?_⟩, hst'.1.at fun o q => (sb.2 it (Ne.symm hne)).trans q, hne, hai, hea⟩, fun b hb => ?_⟩
    · have e1 : ((i + 1 : Nat) : Int) = (i : Int) + 1 := by omega
      rw [e1]
      exact he'
    · have hb' : b < s.heap.objs.size := by
        have e' : b = e ∨ b = it := by simpa using hb
        rcases e' with rfl | rfl
        · exact hel
        · exact hil
      rw [upd_ne (Nat.ne_of_lt hb')]
      exact (hf b hb).1
  done := by
    intro X hP hw hK hc i pins s σ H E I hf st hg
    subst hP hw hK
    obtain ⟨⟨old, he⟩, hit, hne, hai, hea⟩ := st
    obtain ⟨xs, hq, hx⟩ := hg
    obtain ⟨its, rv, p, hz⟩ := I.tuple hq
    obtain ⟨f0, f1, f2, f3, f4, f5⟩ := hf it (by simp)
    have hl := rv.length
    have D := Draws.tuple (prog := X.prog) (w := X.w) (A := X.A.in1) (I.ok.hd hc) it a hai its.toArray
    have en : its.toArray.size = i := by
      rw [List.size_toArray, ← hl]
      exact hx
    rw [en] at D
    exact wpAny_pyNext_enum_endD D he ⟨hit, p⟩ fun h' eb => ⟨rfl, I.turned (t' := s.toks) (fun b o hb q => eb b o hb q) f0 f1 f3 f4 f5⟩
  self := fun A i s Q E st h => let ⟨⟨_, he⟩, _⟩ := st; wpAny_pyIter_enum he h
def iEnumT (K : PySem.W.Frag) (ta : TA) : TI := fun σ H R => ta σ H fun vs H1 => ∃ a xs, vs = [.ref a] ∧ SqT K H1 a xs ∧ R (IteT K a) H1
theorem pi_enumT {X : Cx} {e : Expr} {ta : TA} {p pos tpos : Pos} {elts : List Expr} {kk : Nat} (hg : Gl X "enumerate") (hm : X.mg "enumerate" = none) (ha : PA X [e] ta) (hs : starEach [e] X.env = [(false, eval e X.env)] := by rfl) :
    PI X (.Tuple elts kk tpos) (.Call (.Name "enumerate" p) [e] [] pos) (iEnumT X.K ta) := by
  refine ⟨fun pins s σ H R I h => ?_⟩
  refine Call_ (ld_blt I hg hm boot_enumerate (PyProof.Rows.callWith_type1 (thn (ha.run pos pins s σ H _ I h) fun us s1 ⟨vs, H1, I1, r1, q1⟩ => ?_) hs rfl))
  obtain ⟨a, xs, ex, hq, q⟩ := q1
  subst ex
  cases r1 with
  | cons r rr =>
    cases rr
    cases r
    obtain ⟨its, rv, p', hz⟩ := I1.tuple hq
    have hal : a < s1.heap.objs.size := by obtain ⟨o, ho, _⟩ := id p'; exact Heap.lt_size ho
    refine enum_begins1 (begins_tuple a its.toArray) p' fun h' he hit hk => wpAny_pyIter_enum he ?_
    have I2 : Inv X pins σ H1 { s1 with heap := h' } := I1.kept (t' := s1.toks) hk
    refine ⟨s1.heap.objs.size + 1, [s1.heap.objs.size + 1, s1.heap.objs.size], _, _, H1, rfl, I2, turn_enumT a (s1.heap.objs.size + 1) s1.heap.objs.size,
      ⟨⟨.none, he⟩, ⟨_, hit, rfl, rfl⟩, Nat.succ_ne_self _, Nat.ne_of_lt hal, Nat.ne_of_gt (Nat.lt_succ_of_lt hal)⟩, fun b hb => ?_, q⟩
    have e' : b = s1.heap.objs.size + 1 ∨ b = s1.heap.objs.size := by simpa using hb
    have hle : s1.heap.objs.size ≤ b := by
      rcases e' with rfl | rfl
      · exact Nat.le_succ _
      · exact Nat.le_refl _
    exact I1.fpOk hle (I1.hok.fresh hle)
/-! ### sorted(tuple of ints) -/
theorem sorted_tupO {prog : Program} {w : World} {A : Around} {E : Value → Shared → Prop} {s : Shared} {t : Addr} {vs : List Value} {ltv : Value → Value → Bool} {Q : Value → Shared → Prop} (O : SrtO.Swo ltv) (ht : s.heap.IsTuple t vs.toArray) (hz : vs.length ≤ sizeLine)
    (hS : 2 ≤ vs.length → ∀ (h₁ : Heap) (a : Addr), SrtO.SortableO prog w A.in1.in1 { s with heap := h₁ } a vs ltv)
    (h : ∀ (out : List Value) (h1 h' : Heap) (n : Nat), SrtO.Srtd ltv out → SrtO.Stb ltv out vs → (∀ b o, s.heap.get? b = some o → h1.get? b = some o) → (∀ b o, h1.get? b = some o → h'.get? b = some o) → h'.get? h1.objs.size = some (seqObj "list" out.toArray n) → Q (.ref h1.objs.size) { s with heap := h' }) :
    wpAny (model prog w) A (call (.builtin "sorted") [.ref t]) Q E s := by
  obtain ⟨o, ho, hc, n, hd⟩ := id ht
  refine Calls.call_function_entry kind_sorted plain_sorted entry_sorted (args_sorted1 _) ?_
  unfold Builtin.«sorted»
  refine wpAny_bind (m := checkCount "sorted" 1 1 _) (wpAny_pure ?_)
  refine wpAny_bind (wpAny_collect_seq t (.inr rfl) ho hc hd (fun h1 k1 => ?_) (by rw [List.size_toArray]; exact hz))
  refine wpAny_bind (wpAny_newList ?_ hz)
  have hoL : (h1.push (seqObj "list" vs.toArray 0)).get? h1.objs.size = some (seqObj "list" vs.toArray 0) := Heap.get?_push_size _ rfl
  show wpAny _ _ _ _ _ { s with heap := h1.push (seqObj "list" vs.toArray 0) }
  refine wpAny_bind (wpAny_holding (wpAny_call_entry slot_list_sort ⟨_, hoL, rfl⟩ entry_list_sort (SrtO.list_sort_ord O hoL hz (fun h2 => hS h2 _ _) fun out hs hb => ⟨_, rfl, ?_⟩) (args_list_sort _)))
  obtain ⟨ep, he⟩ := PyProof.Rows.sortedHeap_at (out := out.toArray) hoL
  refine wpAny_pure ⟨_, rfl, h out h1 _ ep hs hb k1 (fun b o' hb' => ?_) he⟩
  have hlt : b < h1.objs.size := Heap.lt_size hb'
  rw [PyProof.Rows.sortedHeap_old (Nat.ne_of_lt hlt) (by rw [Heap.size_push]; exact Nat.lt_succ_of_lt hlt)]
  exact Heap.get?_push_of_some _ hb'
/-- sorted(t), ints -/
def rSortedTI (K : PySem.W.Frag) : List V → Hp → VK → Prop := fun vs H Q => ∃ (a : Addr) (ns : List Int), vs = [V.ref a] ∧ SqT K H a (ns.map V.int) ∧
  ∀ (ns' : List Int) (p : Addr), ns'.Perm ns → ns'.Pairwise (· ≤ ·) → H p = none → Q (.ref p) (upd H p (.lst (ns'.map V.int)))
theorem cr_sortedTI {X : Cx} : CallR X (.builtin "sorted") (rSortedTI X.K) := by
  intro pins s σ H vs us Q I r h
  obtain ⟨a, ns, rfl, hs, q⟩ := h
  obtain ⟨its, rv, hl, hz⟩ := I.tuple hs
  rw [Vals.ref1 r]
  have hi := rv.ints
  refine sorted_tupO SrtO.swo_int hl (by rw [← rv.length]; exact hz) (fun h2 h₁ a' => SrtO.ints_sortable hi h2) fun out hp h' n h1 h2 k k2' ho => ?_
  obtain ⟨k1, k2, k3⟩ := SrtO.ints_out hi h1 h2
  have hlen : ((out.map SrtO.iv).map V.int).length ≤ sizeLine := by
    rw [List.length_map, k2.length_eq]
    rw [List.length_map] at hz
    exact hz
  have I1 : Inv X pins σ H { s with heap := hp } := I.kept (t' := s.toks) k
  exact ⟨.ref hp.objs.size, upd H hp.objs.size (.lst ((out.map SrtO.iv).map V.int)), I1.laid (t' := s.toks) k2' (Nat.le_refl _) ⟨hlen, out, n, vals_of_ints k1, ho⟩, rfl, q _ _ k2 k3 (I1.hok.fresh (Nat.le_refl _))⟩
/-! ### min(list of ints, default=None) -/
def rMinD (K : PySem.W.Frag) : List V → List V → Hp → VK → Prop := fun vs zs H Q => ∃ (a : Addr) (ns : List Int), vs = [V.ref a] ∧ zs = [.non] ∧ SqL K H a (ns.map V.int) ∧ (ns = [] → Q .non H) ∧ (ns ≠ [] → ∀ i ∈ ns, Q (.int i) H)
theorem reads_ints {h : Heap} : ∀ {us : List Value} {ns : List Int}, Vals (ns.map V.int) us → ∃ as, ReadsAll h us (ns.map PyData.int) as
  | _, [], .nil => ⟨_, ReadsAll.nil⟩
  | _, n :: ns, .cons r t => by
    obtain ⟨as, q⟩ := reads_ints t
    obtain ⟨k, rfl⟩ := r
    exact ⟨_, ReadsAll.cons (Reads.int n k) q⟩
theorem ints_memV : ∀ {vs : List Value} {ns : List Int}, IntsAre vs ns → ∀ v ∈ vs, ∃ z ∈ ns, ∃ t, v = Value.int z t
  | _, _, .nil, v, h => absurd h (by simp)
  | _, _, .cons n t r, v, h => by
    rcases List.mem_cons.mp h with e | h
    · exact ⟨n, List.mem_cons_self, t, e⟩
    · obtain ⟨z, hz, t', e⟩ := ints_memV r v h
      exact ⟨z, List.mem_cons_of_mem _ hz, t', e⟩
theorem cr_minD {X : Cx} (hc : X.calm = true) (hu : X.A.units + 64 < cLine) : CallRK X (.builtin "min") [Str.ofString "default"] (rMinD X.K) := by
  intro pins s σ H xs zs us ws Q I r1 r2 h
  obtain ⟨a, ns, rfl, rfl, hs, q0, q1⟩ := h
  obtain ⟨its, rv, hl, hz⟩ := I.list hs
  rw [Vals.ref1 r1]
  cases r2 with
  | cons rz rr =>
    cases rr
    cases rz
    obtain ⟨as, hr⟩ := reads_ints (h := s.heap) rv
    have hd : ∀ l : List Int, PyData.depthAll (l.map PyData.int) ≤ 1 := by
      intro l
      induction l with
      | nil => exact Nat.zero_le _
      | cons x r ih => exact Nat.max_le.mpr ⟨by first | exact Nat.zero_le _ | decide, ih⟩
    refine PySem.W.min_list_default (I.ok.hd hc) hl.isList hr ⟨fun x hx y hy => ?_, fun x hx => ?_⟩ (by have := hd ns; omega) (fun h0 h' tk k => ?_) (fun y ys i v h' tk bs hxs hv hrd k => ?_)
    · obtain ⟨i, _, rfl⟩ := List.mem_map.mp hx
      obtain ⟨j, _, rfl⟩ := List.mem_map.mp hy
      rfl
    · obtain ⟨i, _, rfl⟩ := List.mem_map.mp hx
      exact fun z => by cases z
    · have hn : ns = [] := by
        cases ns with
        | nil => rfl
        | cons x r => cases h0
      exact ⟨.non, H, I.kept k, rfl, q0 hn⟩
    · have hne : ns ≠ [] := fun z => by
        subst z
        cases hxs
      rw [List.getElem?_toArray] at hv
      obtain ⟨b, hb, hmem⟩ : ∃ z : Int × Tok, v = Value.int z.1 z.2 ∧ z.1 ∈ ns := by
        obtain ⟨z, hz, t, rfl⟩ := ints_memV rv.ints v (List.mem_of_getElem? hv)
        exact ⟨(z, t), rfl, hz⟩
      subst hb
      exact ⟨.int b.1, H, I.kept k, ⟨_, rfl⟩, q1 hne _ hmem⟩
end L2

/-! # CtRules4 -/
namespace L2
open PySem PySem.Spec PyProof.Rows
/-! ### tuple * 0, tuple * 1 -/
theorem tuple_mul0 (l : Addr) (items : Array Value) (n : Nat) (dd : Option Addr) (sl : Array (Option Value)) (u : Tok) (hne : items.isEmpty = false) :
    Meets (Builtin.«tuple.__mul__» ⟨[.ref l, .int 0 u], []⟩) (fun _ R s => s.heap.get? l = some { cls := .type "tuple", dict := dd, data := .seq items n, slots := sl } ∧
      R (.ok (.ret (Value.ref s.heap.objs.size))) { s with heap := s.heap.push { cls := Value.type "tuple", data := Data.seq #[] }, toks := s.toks }) :=
  .of_wp fun prog w A R s h => by
    obtain ⟨hp, g, d, tk, os⟩ := s
    obtain ⟨hl, h⟩ := h
    have f1 := AutoSeq1.idx_int
    wp_walk using wpAny_loadPart' hl
    exact ⟨_, rfl, h⟩
theorem tuple_mul1 (l : Addr) (items : Array Value) (n : Nat) (dd : Option Addr) (sl : Array (Option Value)) (u : Tok) (hne : items.isEmpty = false) :
    Meets (Builtin.«tuple.__mul__» ⟨[.ref l, .int 1 u], []⟩) (fun _ R s => s.heap.get? l = some { cls := .type "tuple", dict := dd, data := .seq items n, slots := sl } ∧
      R (.ok (.ret (Value.ref l))) { s with toks := s.toks }) :=
  .of_wp fun prog w A R s h => by
    obtain ⟨hp, g, d, tk, os⟩ := s
    obtain ⟨hl, h⟩ := h
    have f1 := AutoSeq1.idx_int
    wp_walk using wpAny_loadPart' hl
    exact ⟨_, rfl, h⟩
def rRepA (K : PySem.W.Frag) : R2 := fun x y H Q => ∃ l k xs, x = .ref l ∧ y = .int k ∧ SqT K H l xs ∧ xs ≠ [] ∧ 0 ≤ k ∧ k ≤ 1000 ∧ xs.length ≤ 1000 ∧ (k = 1 → Q (.ref l) H) ∧ (k ≠ 1 → ∀ p, H p = none → Q (.ref p) (upd H p (.tup (List.replicate k.toNat xs).flatten)))
theorem op_repA {X : Cx} : OpR X (binaryOp .Mult) (rRepA X.K) := by
  intro pins s σ H x y v u Q I rx ry h
  obtain ⟨l, k, xs, rfl, rfl, hT, hne, h1, h2, hz, q1, q⟩ := h
  by_cases hk : 2 ≤ k
  · exact op_repT pins s σ H _ _ v u Q I rx ry ⟨l, k, xs, rfl, rfl, hT, hne, hk, h2, hz, q (by omega)⟩
  cases rx
  obtain ⟨t, rfl⟩ := ry
  obtain ⟨its, r, ⟨⟨cls, dd, data, sl⟩, ho, hc, n, hd⟩, hs⟩ := I.tuple hT
  simp only at hc hd
  subst hc hd
  have hle : its.length = xs.length := r.length.symm
  have hn : its ≠ [] := fun e => hne (by
    rw [e] at hle
    exact List.eq_nil_of_length_eq_zero hle.symm)
  have hi : its.toArray.isEmpty = false := by
    cases its with
    | nil => exact absurd rfl hn
    | cons a b => rfl
  obtain rfl | rfl : k = 0 ∨ k = 1 := by omega
  · refine wpAny_binaryOp_repeat_ref (T := "tuple") (U := "int") (by decide) ⟨_, ho, rfl⟩ (fun s' => typeIs_int s' 0 t) noFill_tuple_mul F.fills_int_mul F.slot_int_rmul repeat_tuple F.slot_int_index.lookup
      (call_meets F.slot_int_rmul (typeIs_int s 0 t) F.entry_int_rmul (F.args_int_rmul_2 _ _) (int_rmul_tuple 0 t l its.toArray n dd sl)
        ⟨ho, rfl, ⟨_, ho, rfl⟩, call_meets F.slot_tuple_mul ⟨_, ho, rfl⟩ F.entry_tuple_mul (F.args_tuple_mul_2 _ _) (tuple_mul0 l its.toArray n dd sl t hi) ⟨ho, ?_⟩⟩)
    refine ⟨.ref s.heap.objs.size, _, I.laid (t' := s.toks) (o := .tup []) (fun b ob q => Heap.get?_push_of_some _ q) (Nat.le_refl _) ?_, rfl, q (by omega) _ (I.hok.fresh (Nat.le_refl _))⟩
    exact ⟨Nat.zero_le _, [], .nil, IsTup.new _ _⟩
  · refine wpAny_binaryOp_repeat_ref (T := "tuple") (U := "int") (by decide) ⟨_, ho, rfl⟩ (fun s' => typeIs_int s' 1 t) noFill_tuple_mul F.fills_int_mul F.slot_int_rmul repeat_tuple F.slot_int_index.lookup
      (call_meets F.slot_int_rmul (typeIs_int s 1 t) F.entry_int_rmul (F.args_int_rmul_2 _ _) (int_rmul_tuple 1 t l its.toArray n dd sl)
        ⟨ho, rfl, ⟨_, ho, rfl⟩, call_meets F.slot_tuple_mul ⟨_, ho, rfl⟩ F.entry_tuple_mul (F.args_tuple_mul_2 _ _) (tuple_mul1 l its.toArray n dd sl t hi) ⟨ho, ?_⟩⟩)
    exact ⟨.ref l, _, I, rfl, q1 rfl⟩
end L2

/-! # CtMath1 -/
/-! ### the mirror: forms, stands, deeds -/
namespace Ct
open PySem (Str)
inductive Sg where
  | a | b | c
  deriving DecidableEq
inductive Cs where
  | own | sg (s : Sg)
  deriving DecidableEq
structure Move where
  state : Nat
  cause : Cs
  next : Nat
  sends : List (Nat × Sg)
  word : Option Str
structure Rule where
  start : Nat
  moves : List Move
structure Road where
  one : Nat
  other : Nat
  row : Bool
structure Form where
  rules : List Rule
  roads : List Road
structure Load where
  sent : Nat
  waiting : List (Nat × Sg)
  deriving DecidableEq
structure Stand where
  states : List Nat
  loads : List Load
  deriving DecidableEq
inductive Deed where
  | own (m : Nat) | hear (m : Nat) (s : Sg) | come (r k : Nat)
  deriving DecidableEq
abbrev Ans := Nat × List (Nat × Sg) × Option Str

def findMove (ms : List Move) (st : Nat) (c : Cs) : Option Move := ms.find? fun mv => decide (mv.state = st ∧ mv.cause = c)
def answerOf (ms : List Move) (st : Nat) (c : Cs) : Option Ans := match findMove ms st c with
  | some mv => some (mv.next, mv.sends, mv.word)
  | none => match c with
    | .own => none
    | .sg _ => some (st, [], none)
def movesAt (f : Form) (m : Nat) : List Move := match f.rules[m]? with
  | some r => r.moves
  | none => []
def waitsAt (s : Stand) (r : Nat) : List (Nat × Sg) := match s.loads[r]? with
  | some l => l.waiting
  | none => []
def sentAt (s : Stand) (r : Nat) : Nat := match s.loads[r]? with
  | some l => l.sent
  | none => 0
def oneAt (f : Form) (r : Nat) : Nat := match f.roads[r]? with
  | some rd => rd.one
  | none => 0
def otherAt (f : Form) (r : Nat) : Nat := match f.roads[r]? with
  | some rd => rd.other
  | none => 0
def rowAt (f : Form) (r : Nat) : Bool := match f.roads[r]? with
  | some rd => rd.row
  | none => false
def machineOf (f : Form) : Deed → Nat
  | .own m => m
  | .hear m _ => m
  | .come r _ => otherAt f r
def heads (row : Bool) (w : List (Nat × Sg)) : List (Nat × Sg) := if row then w.take 1 else w
def causeOf (f : Form) (s : Stand) : Deed → Option Cs
  | .own _ => some .own
  | .hear _ g => some (.sg g)
  | .come r k => ((heads (rowAt f r) (waitsAt s r)).find? fun p => decide (p.1 = k)).map fun p => .sg p.2
def stateOf (s : Stand) (m : Nat) : Nat := s.states.getD m 0
def answered (f : Form) (s : Stand) (d : Deed) : Option Ans := (causeOf f s d).bind fun c => answerOf (movesAt f (machineOf f d)) (stateOf s (machineOf f d)) c
def takeOut (ls : List Load) (r k : Nat) : List Load := match ls[r]? with
  | some l => ls.set r ⟨l.sent, l.waiting.filter fun p => decide (p.1 ≠ k)⟩
  | none => ls
def sendOne (ls : List Load) (p : Nat × Sg) : List Load := match ls[p.1]? with
  | some l => ls.set p.1 ⟨l.sent + 1, l.waiting ++ [(l.sent, p.2)]⟩
  | none => ls
def sendOut (ls : List Load) (ps : List (Nat × Sg)) : List Load := ps.foldl sendOne ls
def loadsFor (s : Stand) : Deed → List Load
  | .come r k => takeOut s.loads r k
  | _ => s.loads
def applyA (f : Form) (s : Stand) (d : Deed) (a : Ans) : Stand := ⟨s.states.set (machineOf f d) a.1, sendOut (loadsFor s d) a.2.1⟩
def step (f : Form) (s : Stand) (d : Deed) : Option (Stand × Option Str) := (answered f s d).map fun a => (applyA f s d a, a.2.2)
def walk (f : Form) : Stand → List Deed → Option Stand
  | s, [] => some s
  | s, d :: r => (answered f s d).bind fun a => walk f (applyA f s d a) r

structure RoadOk (n : Nat) (rd : Road) : Prop where
  one : rd.one < n
  other : rd.other < n
  ne : rd.one ≠ rd.other
structure MoveOk (f : Form) (m : Nat) (mv : Move) : Prop where
  st : mv.state ≤ 2
  nx : mv.next ≤ 2
  sl : mv.sends.length ≤ 2
  sd : ∀ p ∈ mv.sends, p.1 < f.roads.length ∧ oneAt f p.1 = m
structure FormOk (f : Form) : Prop where
  pos : 1 ≤ f.rules.length
  few : f.rules.length ≤ 4
  rfew : f.roads.length ≤ 8
  road : ∀ rd ∈ f.roads, RoadOk f.rules.length rd
  rule : ∀ m ru, f.rules[m]? = some ru → ru.start ≤ 2 ∧ ru.moves.length ≤ 9 ∧ ∀ mv ∈ ru.moves, MoveOk f m mv
def DeedOk (f : Form) : Deed → Prop
  | .own m => m < f.rules.length
  | .hear m _ => m < f.rules.length
  | .come r _ => r < f.roads.length

theorem FormOk.roadAt {f : Form} (ok : FormOk f) {r : Nat} (h : r < f.roads.length) : oneAt f r < f.rules.length ∧ otherAt f r < f.rules.length ∧ oneAt f r ≠ otherAt f r := by
  have e : f.roads[r]? = some f.roads[r] := List.getElem?_eq_getElem h
  have k := ok.road _ (List.getElem_mem h)
  unfold oneAt otherAt
  rw [e]
  exact ⟨k.one, k.other, k.ne⟩
theorem machine_lt {f : Form} (ok : FormOk f) {d : Deed} (h : DeedOk f d) : machineOf f d < f.rules.length := by
  cases d with
  | own m => exact h
  | hear m s => exact h
  | come r k => exact (ok.roadAt h).2.1

/-! ### letters sent, letters come -/
def numbered : Nat → List Sg → List (Nat × Sg)
  | _, [] => []
  | n, g :: r => (n, g) :: numbered (n + 1) r
theorem numbered_append : ∀ (n : Nat) (a b : List Sg), numbered n (a ++ b) = numbered n a ++ numbered (n + a.length) b
  | n, [], b => rfl
  | n, g :: r, b => by
    show (n, g) :: numbered (n + 1) (r ++ b) = (n, g) :: (numbered (n + 1) r ++ numbered (n + (r.length + 1)) b)
    rw [numbered_append (n + 1) r b, show n + 1 + r.length = n + (r.length + 1) by omega]
theorem numbered_bound : ∀ {n : Nat} {l : List Sg} {p : Nat × Sg}, p ∈ numbered n l → n ≤ p.1 ∧ p.1 < n + l.length
  | n, [], p, h => absurd h (by simp [numbered])
  | n, g :: r, p, h => by
    rcases List.mem_cons.mp (show p ∈ (n, g) :: numbered (n + 1) r from h) with rfl | h
    · exact ⟨Nat.le_refl _, by show n < n + (r.length + 1); omega⟩
    · have := numbered_bound h
      show n ≤ p.1 ∧ p.1 < n + (r.length + 1)
      omega
/-- the signs sent on the road r by some sends -/
def onRoad (r : Nat) (ps : List (Nat × Sg)) : List Sg := (ps.filter fun p => decide (p.1 = r)).map (·.2)
theorem sendOut_at : ∀ (ps : List (Nat × Sg)) (ls : List Load) (r : Nat), (sendOut ls ps)[r]? = ls[r]?.map fun l => ⟨l.sent + (onRoad r ps).length, l.waiting ++ numbered l.sent (onRoad r ps)⟩
  | [], ls, r => by
    show ls[r]? = ls[r]?.map fun l => ⟨l.sent + 0, l.waiting ++ []⟩
    cases ls[r]? with
    | none => rfl
    | some l => simp
  | p :: ps, ls, r => by
    show (sendOut (sendOne ls p) ps)[r]? = _
    rw [sendOut_at ps (sendOne ls p) r]
    unfold sendOne
    by_cases h : p.1 = r
    · subst h
      have e : onRoad p.1 (p :: ps) = p.2 :: onRoad p.1 ps := by
        unfold onRoad
        rw [List.filter_cons, if_pos (by simp)]
        rfl
      rw [e]
      cases q : ls[p.1]? with
      | none => simp [q]
      | some l =>
        have hl : p.1 < ls.length := (List.getElem?_eq_some_iff.mp q).1
        simp [hl, numbered, Nat.add_assoc, Nat.add_comm 1]
    · have e : onRoad r (p :: ps) = onRoad r ps := by
        unfold onRoad
        rw [List.filter_cons, if_neg (by simpa using h)]
      rw [e]
      cases q : ls[p.1]? with
      | none => rfl
      | some l => simp [List.getElem?_set_ne h]
theorem sendOut_length : ∀ (ps : List (Nat × Sg)) (ls : List Load), (sendOut ls ps).length = ls.length
  | [], ls => rfl
  | p :: ps, ls => by
    show (sendOut (sendOne ls p) ps).length = _
    rw [sendOut_length ps]
    unfold sendOne
    split
    · rw [List.length_set]
    · rfl
theorem takeOut_at (ls : List Load) (r k r' : Nat) : (takeOut ls r k)[r']? = if r' = r then ls[r']?.map (fun l => ⟨l.sent, l.waiting.filter fun p => decide (p.1 ≠ k)⟩) else ls[r']? := by
  unfold takeOut
  by_cases h : r' = r
  · subst h
    rw [if_pos rfl]
    cases q : ls[r']? with
    | none => simp [q]
    | some l =>
      have hl : r' < ls.length := (List.getElem?_eq_some_iff.mp q).1
      simp [hl]
  · rw [if_neg h]
    cases q : ls[r]? with
    | none => rfl
    | some l => simp [List.getElem?_set_ne (Ne.symm h)]
theorem takeOut_length (ls : List Load) (r k : Nat) : (takeOut ls r k).length = ls.length := by
  unfold takeOut
  split
  · rw [List.length_set]
  · rfl
theorem loadsFor_length (s : Stand) (d : Deed) : (loadsFor s d).length = s.loads.length := by
  cases d with
  | come r k => exact takeOut_length _ _ _
  | _ => rfl
/-- letters come on r by a deed -/
def comesOf (r : Nat) : Deed → List Nat
  | .come r' k => if r' = r then [k] else []
  | _ => []
theorem loadsFor_at (s : Stand) (d : Deed) (r : Nat) : (loadsFor s d)[r]? = s.loads[r]?.map fun l => ⟨l.sent, l.waiting.filter fun p => decide (p.1 ∉ comesOf r d)⟩ := by
  have triv : ∀ l : Load, (⟨l.sent, l.waiting.filter fun p => decide (p.1 ∉ ([] : List Nat))⟩ : Load) = l := fun l => by
    have e : (l.waiting.filter fun p => decide (p.1 ∉ ([] : List Nat))) = l.waiting := List.filter_eq_self.mpr fun p _ => by simp
    rw [e]
  have same : s.loads[r]? = s.loads[r]?.map fun l => ⟨l.sent, l.waiting.filter fun p => decide (p.1 ∉ ([] : List Nat))⟩ := by
    cases s.loads[r]? with
    | none => rfl
    | some l => exact congrArg some (triv l).symm
  cases d with
  | own m => exact same
  | hear m g => exact same
  | come r' k =>
    show (takeOut s.loads r' k)[r]? = _
    rw [takeOut_at]
    by_cases h : r = r'
    · subst h
      rw [if_pos rfl]
      simp [comesOf]
    · rw [if_neg h]
      have e : comesOf r (.come r' k) = [] := if_neg (Ne.symm h)
      rw [e]
      exact same
theorem applyA_load (f : Form) (s : Stand) (d : Deed) (a : Ans) (r : Nat) : (applyA f s d a).loads[r]? = s.loads[r]?.map fun l =>
    ⟨l.sent + (onRoad r a.2.1).length, (l.waiting.filter fun p => decide (p.1 ∉ comesOf r d)) ++ numbered l.sent (onRoad r a.2.1)⟩ := by
  show (sendOut (loadsFor s d) a.2.1)[r]? = _
  rw [sendOut_at, loadsFor_at]
  cases s.loads[r]? with
  | none => rfl
  | some l => rfl
theorem applyA_length (f : Form) (s : Stand) (d : Deed) (a : Ans) : (applyA f s d a).loads.length = s.loads.length ∧ (applyA f s d a).states.length = s.states.length := by
  refine ⟨?_, List.length_set ..⟩
  show (sendOut (loadsFor s d) a.2.1).length = _
  rw [sendOut_length, loadsFor_length]
end Ct

/-! # CtMath2 -/
namespace Ct
/-! ### positions: the stand behind so many deeds of each machine -/
abbrev Ev := Deed × Ans
def outsOf (r : Nat) (es : List Ev) : List Sg := es.flatMap fun e => onRoad r e.2.2.1
def cameOf (r : Nat) (es : List Ev) : List Nat := es.flatMap fun e => comesOf r e.1
def inc (c : Nat → Nat) (m : Nat) : Nat → Nat := fun m' => if m' = m then c m + 1 else c m'
theorem inc_same (c : Nat → Nat) (m : Nat) : inc c m m = c m + 1 := if_pos rfl
theorem inc_ne {c : Nat → Nat} {m m' : Nat} (h : m' ≠ m) : inc c m m' = c m' := if_neg h
/-- the world: a form, a base, each machine's deeds with what it answered -/
structure Wd where
  f : Form
  base : Stand
  mine : Nat → List Ev
namespace Wd
variable (W : Wd)
def stAt (m i : Nat) : Nat := match ((W.mine m).take i).getLast? with
  | some e => e.2.1
  | none => stateOf W.base m
def sentBy (r i : Nat) : Nat := sentAt W.base r + (outsOf r ((W.mine (oneAt W.f r)).take i)).length
def lets (r i : Nat) : List (Nat × Sg) := waitsAt W.base r ++ numbered (sentAt W.base r) (outsOf r ((W.mine (oneAt W.f r)).take i))
def came (r i : Nat) : List Nat := cameOf r ((W.mine (otherAt W.f r)).take i)
def posLoad (c : Nat → Nat) (r : Nat) : Load := ⟨W.sentBy r (c (oneAt W.f r)), (W.lets r (c (oneAt W.f r))).filter fun p => decide (p.1 ∉ W.came r (c (otherAt W.f r)))⟩
def posStand (c : Nat → Nat) : Stand := ⟨(List.range W.f.rules.length).map fun m => W.stAt m (c m), (List.range W.f.roads.length).map (W.posLoad c)⟩
def Right (c : Nat → Nat) : Prop := ∀ r, r < W.f.roads.length → ∀ k ∈ W.came r (c (otherAt W.f r)), k < W.sentBy r (c (oneAt W.f r))
structure EvOk (m : Nat) (e : Ev) : Prop where
  ma : machineOf W.f e.1 = m
  lt : m < W.f.rules.length
  de : DeedOk W.f e.1
  sd : ∀ p ∈ e.2.2.1, p.1 < W.f.roads.length ∧ oneAt W.f p.1 = m
structure Ok : Prop where
  form : FormOk W.f
  st : W.base.states.length = W.f.rules.length
  ld : W.base.loads.length = W.f.roads.length
  wt : ∀ r, ∀ p ∈ waitsAt W.base r, p.1 < sentAt W.base r
  ev : ∀ m, ∀ e ∈ W.mine m, W.EvOk m e
variable {W}

theorem take_snoc {α : Type} {l : List α} {i : Nat} {x : α} (h : l[i]? = some x) : l.take (i + 1) = l.take i ++ [x] := by
  rw [List.take_add_one, h]
  rfl
theorem sentBy_succ {r i m : Nat} {e : Ev} (hm : oneAt W.f r = m) (h : (W.mine m)[i]? = some e) : W.sentBy r (i + 1) = W.sentBy r i + (onRoad r e.2.2.1).length := by
  subst hm
  unfold sentBy outsOf
  rw [take_snoc h, List.flatMap_append, List.length_append]
  simp [Nat.add_assoc]
theorem lets_succ {r i m : Nat} {e : Ev} (hm : oneAt W.f r = m) (h : (W.mine m)[i]? = some e) : W.lets r (i + 1) = W.lets r i ++ numbered (W.sentBy r i) (onRoad r e.2.2.1) := by
  subst hm
  unfold lets sentBy outsOf
  rw [take_snoc h, List.flatMap_append, numbered_append, List.append_assoc]
  simp
theorem came_succ {r i m : Nat} {e : Ev} (hm : otherAt W.f r = m) (h : (W.mine m)[i]? = some e) : W.came r (i + 1) = W.came r i ++ comesOf r e.1 := by
  subst hm
  unfold came cameOf
  rw [take_snoc h, List.flatMap_append]
  simp
theorem stAt_succ {m i : Nat} {e : Ev} (h : (W.mine m)[i]? = some e) : W.stAt m (i + 1) = e.2.1 := by
  unfold stAt
  rw [take_snoc h, List.getLast?_append]
  rfl
/-- what is more in a longer take -/
theorem take_more {α : Type} (l : List α) {i j : Nat} (h : i ≤ j) : ∃ t, l.take j = l.take i ++ t := by
  refine ⟨(l.drop i).take (j - i), ?_⟩
  have e : l.take j = l.take (i + (j - i)) := by rw [show i + (j - i) = j by omega]
  rw [e, List.take_add]
theorem sentBy_mono {r i j : Nat} (h : i ≤ j) : W.sentBy r i ≤ W.sentBy r j := by
  obtain ⟨t, e⟩ := take_more (W.mine (oneAt W.f r)) h
  unfold sentBy outsOf
  rw [e, List.flatMap_append, List.length_append]
  omega
theorem lets_more {r i j : Nat} (h : i ≤ j) : ∃ t, W.lets r j = W.lets r i ++ t ∧ ∀ p ∈ t, W.sentBy r i ≤ p.1 := by
  obtain ⟨t, e⟩ := take_more (W.mine (oneAt W.f r)) h
  refine ⟨numbered (W.sentBy r i) (outsOf r t), ?_, fun p hp => (numbered_bound hp).1⟩
  unfold lets sentBy
  rw [e]
  unfold outsOf
  rw [List.flatMap_append, numbered_append, List.append_assoc]
theorem came_mono {r i j : Nat} (h : i ≤ j) {k : Nat} (hk : k ∈ W.came r i) : k ∈ W.came r j := by
  obtain ⟨t, e⟩ := take_more (W.mine (otherAt W.f r)) h
  unfold came cameOf at *
  rw [e, List.flatMap_append]
  exact List.mem_append_left _ hk
theorem lets_bound (ok : W.Ok) {r i : Nat} {p : Nat × Sg} (h : p ∈ W.lets r i) : p.1 < W.sentBy r i := by
  rcases List.mem_append.mp h with h | h
  · exact Nat.lt_of_lt_of_le (ok.wt r p h) (Nat.le_add_right _ _)
  · exact (numbered_bound h).2
theorem pos_load {c : Nat → Nat} {r : Nat} (h : r < W.f.roads.length) : (W.posStand c).loads[r]? = some (W.posLoad c r) := by
  show ((List.range W.f.roads.length).map (W.posLoad c))[r]? = _
  simp [h]
theorem pos_load_none {c : Nat → Nat} {r : Nat} (h : ¬ r < W.f.roads.length) : (W.posStand c).loads[r]? = none := by
  show ((List.range W.f.roads.length).map (W.posLoad c))[r]? = _
  simp; omega
theorem pos_state {c : Nat → Nat} {m : Nat} (h : m < W.f.rules.length) : (W.posStand c).states[m]? = some (W.stAt m (c m)) := by
  show ((List.range W.f.rules.length).map fun m => W.stAt m (c m))[m]? = _
  simp [h]
theorem pos_stateOf {c : Nat → Nat} {m : Nat} (h : m < W.f.rules.length) : stateOf (W.posStand c) m = W.stAt m (c m) := by
  unfold stateOf
  rw [List.getD_eq_getElem?_getD, pos_state h]
  rfl
theorem pos_waits {c : Nat → Nat} {r : Nat} (h : r < W.f.roads.length) : waitsAt (W.posStand c) r = (W.posLoad c r).waiting := by
  unfold waitsAt
  rw [pos_load h]
theorem pos_sent {c : Nat → Nat} {r : Nat} (h : r < W.f.roads.length) : sentAt (W.posStand c) r = W.sentBy r (c (oneAt W.f r)) := by
  unfold sentAt
  rw [pos_load h]
  rfl
theorem onRoad_nil {r : Nat} {ps : List (Nat × Sg)} (h : ∀ p ∈ ps, p.1 ≠ r) : onRoad r ps = [] := by
  unfold onRoad
  rw [List.filter_eq_nil_iff.mpr fun p hp => by simpa using h p hp]
  rfl
theorem filter_true {l : List (Nat × Sg)} : (l.filter fun p => decide (p.1 ∉ ([] : List Nat))) = l := List.filter_eq_self.mpr fun p _ => by simp
/-- the next deed of a machine done at a right position -/
theorem apply_pos (ok : W.Ok) {c : Nat → Nat} {m : Nat} {e : Ev} (hr : W.Right c) (he : (W.mine m)[c m]? = some e) : applyA W.f (W.posStand c) e.1 e.2 = W.posStand (inc c m) := by
  have eo := ok.ev m e (List.mem_of_getElem? he)
  have h1 : (applyA W.f (W.posStand c) e.1 e.2).states = (W.posStand (inc c m)).states := by
    show (W.posStand c).states.set (machineOf W.f e.1) e.2.1 = _
    rw [eo.ma]
    refine List.ext_getElem? fun x => ?_
    rw [List.getElem?_set]
    by_cases hx : x < W.f.rules.length
    · rw [pos_state hx]
      by_cases hm : m = x
      · subst hm
        have hl : m < (W.posStand c).states.length := by
          show m < ((List.range W.f.rules.length).map fun m => W.stAt m (c m)).length
          simp [hx]
        rw [if_pos rfl, if_pos hl, pos_state hx, inc_same, stAt_succ he]
      · rw [if_neg hm, pos_state hx, inc_ne (Ne.symm hm)]
    · have n1 : ∀ c, (W.posStand c).states[x]? = none := fun c => by
        show ((List.range W.f.rules.length).map fun m => W.stAt m (c m))[x]? = _
        simp; omega
      rw [n1, n1]
      have lt := eo.lt
      rw [if_neg (by omega)]
  have h2 : (applyA W.f (W.posStand c) e.1 e.2).loads = (W.posStand (inc c m)).loads := by
    refine List.ext_getElem? fun r => ?_
    rw [applyA_load]
    by_cases hx : r < W.f.roads.length
    · rw [pos_load hx, pos_load hx]
      obtain ⟨o1, o2, o3⟩ := ok.form.roadAt hx
      refine congrArg some ?_
      show (⟨W.sentBy r (c (oneAt W.f r)) + (onRoad r e.2.2.1).length, ((W.posLoad c r).waiting.filter fun p => decide (p.1 ∉ comesOf r e.1)) ++ numbered (W.sentBy r (c (oneAt W.f r))) (onRoad r e.2.2.1)⟩ : Load) = W.posLoad (inc c m) r
      unfold posLoad
      by_cases hm1 : oneAt W.f r = m
      · have hm2 : otherAt W.f r ≠ m := fun z => o3 (hm1.trans z.symm)
        have ec : comesOf r e.1 = [] := by
          cases hd : e.1 with
          | own x => rfl
          | hear x g => rfl
          | come r' k =>
            by_cases hr' : r' = r
            · have := eo.ma
              rw [hd] at this
              exact absurd (by rw [← hr']; exact this) hm2
            · exact if_neg hr'
        rw [inc_ne hm2, hm1, inc_same, sentBy_succ hm1 he, lets_succ hm1 he, ec, filter_true, List.filter_append]
        congr 2
        refine (List.filter_eq_self.mpr fun p hp => ?_).symm
        have hb := (numbered_bound hp).1
        refine decide_eq_true fun z => ?_
        have := hr r hx p.1 z
        rw [hm1] at this
        omega
      · have es : onRoad r e.2.2.1 = [] := onRoad_nil fun p hp z => hm1 (by rw [← z]; exact (eo.sd p hp).2)
        rw [es, inc_ne hm1]
        by_cases hm2 : otherAt W.f r = m
        · rw [hm2, inc_same, came_succ hm2 he]
          show (⟨_ + 0, _ ++ []⟩ : Load) = _
          rw [List.append_nil, List.filter_filter]
          congr 1
          refine List.filter_congr fun p _ => ?_
          rw [← Bool.decide_and]
          refine decide_eq_decide.mpr ⟨fun ⟨h1, h2⟩ z => (List.mem_append.mp z).elim h2 h1, fun h => ⟨fun z => h (List.mem_append_right _ z), fun z => h (List.mem_append_left _ z)⟩⟩
        · have ec : comesOf r e.1 = [] := by
            cases hd : e.1 with
            | own x => rfl
            | hear x g => rfl
            | come r' k =>
              by_cases hr' : r' = r
              · have := eo.ma
                rw [hd] at this
                exact absurd (by rw [← hr']; exact this) hm2
              · exact if_neg hr'
          rw [inc_ne hm2, ec, filter_true]
          show (⟨_ + 0, _ ++ []⟩ : Load) = _
          rw [List.append_nil]
          rfl
    · rw [pos_load_none hx, pos_load_none hx]
      rfl
  cases hA : applyA W.f (W.posStand c) e.1 e.2 with
  | mk s l =>
    rw [hA] at h1 h2
    dsimp only at h1 h2
    rw [h1, h2]
theorem pos_zero (ok : W.Ok) : W.posStand (fun _ => 0) = W.base := by
  have h1 : (W.posStand (fun _ => 0)).states = W.base.states := by
    refine List.ext_getElem? fun x => ?_
    by_cases hx : x < W.f.rules.length
    · rw [pos_state hx]
      have hl : x < W.base.states.length := by rw [ok.st]; exact hx
      show some (stateOf W.base x) = _
      unfold stateOf
      rw [List.getD_eq_getElem?_getD, List.getElem?_eq_getElem hl]
      rfl
    · have hl : ¬ x < W.base.states.length := by rw [ok.st]; exact hx
      show ((List.range W.f.rules.length).map fun m => W.stAt m 0)[x]? = _
      rw [List.getElem?_eq_none (by simpa using hx), List.getElem?_eq_none (by omega)]
  have h2 : (W.posStand (fun _ => 0)).loads = W.base.loads := by
    refine List.ext_getElem? fun r => ?_
    by_cases hx : r < W.f.roads.length
    · rw [pos_load hx]
      have hl : r < W.base.loads.length := by rw [ok.ld]; exact hx
      rw [List.getElem?_eq_getElem hl]
      have e1 : W.sentBy r 0 = W.base.loads[r].sent := by
        show sentAt W.base r + 0 = _
        unfold sentAt
        rw [List.getElem?_eq_getElem hl]
        rfl
      have e2 : W.lets r 0 = W.base.loads[r].waiting := by
        show waitsAt W.base r ++ [] = _
        unfold waitsAt
        rw [List.getElem?_eq_getElem hl, List.append_nil]
      show some (⟨W.sentBy r 0, (W.lets r 0).filter fun p => decide (p.1 ∉ ([] : List Nat))⟩ : Load) = _
      rw [e1, e2, filter_true]
    · rw [pos_load_none hx, List.getElem?_eq_none (by rw [ok.ld]; omega)]
  cases hA : W.posStand (fun _ => 0) with
  | mk s l =>
    rw [hA] at h1 h2
    dsimp only at h1 h2
    rw [h1, h2]
theorem right_zero : W.Right (fun _ => 0) := fun r _ k hk => absurd hk (by show k ∉ ([] : List Nat); simp)
/-- the letter of a come-deed is sent by then -/
def SentOk (W : Wd) (c : Nat → Nat) : Deed → Prop
  | .come r k => k < W.sentBy r (c (oneAt W.f r))
  | _ => True
instance (W : Wd) (c : Nat → Nat) (d : Deed) : Decidable (W.SentOk c d) := by
  cases d <;> (unfold SentOk; infer_instance)
theorem right_inc (ok : W.Ok) {c : Nat → Nat} {m : Nat} {e : Ev} (hr : W.Right c) (he : (W.mine m)[c m]? = some e) (hs : W.SentOk c e.1) : W.Right (inc c m) := by
  intro r hx k hk
  have mono : ∀ x, c x ≤ inc c m x := fun x => by
    unfold inc
    split
    · rename_i h
      subst h
      omega
    · exact Nat.le_refl _
  refine Nat.lt_of_lt_of_le ?_ (sentBy_mono (mono _))
  by_cases hm : otherAt W.f r = m
  · rw [hm, inc_same, came_succ hm he] at hk
    rcases List.mem_append.mp hk with hk | hk
    · exact hr r hx k (by rw [hm]; exact hk)
    · cases hd : e.1 with
      | own x => rw [hd] at hk; exact absurd hk (by simp [comesOf])
      | hear x g => rw [hd] at hk; exact absurd hk (by simp [comesOf])
      | come r' k' =>
        rw [hd] at hk hs
        by_cases hr' : r' = r
        · subst hr'
          rw [show comesOf r' (.come r' k') = [k'] from if_pos rfl] at hk
          have : k = k' := by simpa using hk
          subst this
          exact hs
        · rw [show comesOf r (.come r' k') = [] from if_neg hr'] at hk
          exact absurd hk (by simp)
  · rw [inc_ne hm] at hk
    exact hr r hx k hk
/-- what comes waits, and so was sent -/
theorem answered_sent (ok : W.Ok) {c : Nat → Nat} {d : Deed} {a : Ans} (hd : DeedOk W.f d) (h : answered W.f (W.posStand c) d = some a) : W.SentOk c d := by
  cases d with
  | own m => trivial
  | hear m g => trivial
  | come r k =>
    obtain ⟨cs, h1, _⟩ := Option.bind_eq_some_iff.mp h
    obtain ⟨p, hp, _⟩ := Option.map_eq_some_iff.mp h1
    have hm := List.mem_of_find?_eq_some hp
    have hk : p.1 = k := by simpa using List.find?_some hp
    have hw : p ∈ waitsAt (W.posStand c) r := by
      unfold heads at hm
      split at hm
      · exact List.mem_of_mem_take hm
      · exact hm
    rw [pos_waits hd] at hw
    have := lets_bound ok (List.mem_filter.mp hw).1
    rw [hk] at this
    exact this
end Wd
end Ct

/-! # CtMath3 -/
namespace Ct
/-! ### a run, and its deeds in another order -/
def RunLog (f : Form) : Stand → List Ev → Prop
  | _, [] => True
  | s, e :: r => answered f s e.1 = some e.2 ∧ RunLog f (applyA f s e.1 e.2) r
def after (f : Form) : Stand → List Ev → Stand
  | s, [] => s
  | s, e :: r => after f (applyA f s e.1 e.2) r
theorem after_snoc (f : Form) : ∀ (l : List Ev) (s : Stand) (e : Ev), after f s (l ++ [e]) = applyA f (after f s l) e.1 e.2
  | [], _, _ => rfl
  | x :: l, s, e => after_snoc f l (applyA f s x.1 x.2) e
theorem runLog_at {f : Form} : ∀ {l : List Ev} {s : Stand} {n : Nat} {e : Ev}, RunLog f s l → l[n]? = some e → answered f (after f s (l.take n)) e.1 = some e.2
  | [], _, _, _, _, h => by simp at h
  | x :: l, s, 0, e, h, he => by
    have : x = e := by simpa using he
    subst this
    exact h.1
  | x :: l, s, n + 1, e, h, he => by
    show answered f (after f (applyA f s x.1 x.2) (l.take n)) e.1 = some e.2
    exact runLog_at h.2 (by simpa using he)
theorem runLog_walk {f : Form} : ∀ {l : List Ev} {s : Stand}, RunLog f s l → walk f s (l.map (·.1)) = some (after f s l)
  | [], _, _ => rfl
  | e :: l, s, h => by
    show (answered f s e.1).bind _ = _
    rw [h.1]
    exact runLog_walk h.2
def posOf (f : Form) (es : List Ev) (m : Nat) : Nat := (es.filter fun e => decide (machineOf f e.1 = m)).length
theorem posOf_snoc (f : Form) (es : List Ev) (e : Ev) : posOf f (es ++ [e]) = inc (posOf f es) (machineOf f e.1) := by
  funext m
  unfold posOf
  rw [List.filter_append, List.length_append]
  by_cases h : m = machineOf f e.1
  · subst h
    rw [inc_same]
    simp [List.filter_cons]
  · rw [inc_ne h]
    rw [List.filter_cons, if_neg (by simpa using fun z => h z.symm)]
    simp
theorem filter_at {α : Type} {p : α → Bool} : ∀ {l : List α} {n : Nat} {e : α}, l[n]? = some e → p e = true → (l.filter p)[((l.take n).filter p).length]? = some e
  | [], _, _, h, _ => by simp at h
  | x :: l, 0, e, h, hp => by
    have : x = e := by simpa using h
    subst this
    simp [List.filter_cons, hp]
  | x :: l, n + 1, e, h, hp => by
    have ih := filter_at (l := l) (n := n) (by simpa using h) hp
    rw [List.take_succ_cons, List.filter_cons, List.filter_cons]
    by_cases hx : p x = true
    · rw [if_pos hx, if_pos hx]
      simpa using ih
    · rw [if_neg hx, if_neg hx]
      exact ih
theorem at_filter {α : Type} {p : α → Bool} : ∀ {l : List α} {i : Nat} {e : α}, (l.filter p)[i]? = some e → ∃ n, l[n]? = some e ∧ p e = true ∧ ((l.take n).filter p).length = i
  | [], _, _, h => by simp at h
  | x :: l, i, e, h => by
    rw [List.filter_cons] at h
    by_cases hx : p x = true
    · rw [if_pos hx] at h
      cases i with
      | zero =>
        have : x = e := by simpa using h
        subst this
        exact ⟨0, rfl, hx, rfl⟩
      | succ i =>
        obtain ⟨n, h1, h2, h3⟩ := at_filter (l := l) (i := i) (by simpa using h)
        exact ⟨n + 1, by simpa using h1, h2, by simp [List.filter_cons, hx, h3]⟩
    · rw [if_neg hx] at h
      obtain ⟨n, h1, h2, h3⟩ := at_filter h
      exact ⟨n + 1, by simpa using h1, h2, by simp [List.filter_cons, hx, h3]⟩
structure Run (W : Wd) (log : List Ev) : Prop where
  ok : W.Ok
  mine : ∀ m, W.mine m = log.filter fun e => decide (machineOf W.f e.1 = m)
  run : RunLog W.f W.base log
namespace Run
variable {W : Wd} {log : List Ev}
theorem at_ (R : Run W log) {n : Nat} {e : Ev} (h : log[n]? = some e) : (W.mine (machineOf W.f e.1))[posOf W.f (log.take n) (machineOf W.f e.1)]? = some e := by
  rw [R.mine]
  exact filter_at h (by simp)
theorem ev (R : Run W log) {n : Nat} {e : Ev} (h : log[n]? = some e) : W.EvOk (machineOf W.f e.1) e := R.ok.ev _ _ (List.mem_of_getElem? (R.at_ h))
theorem pos (R : Run W log) : ∀ n, n ≤ log.length → W.Right (posOf W.f (log.take n)) ∧ after W.f W.base (log.take n) = W.posStand (posOf W.f (log.take n))
  | 0, _ => ⟨Wd.right_zero, (Wd.pos_zero R.ok).symm⟩
  | n + 1, h => by
    obtain ⟨h1, h2⟩ := R.pos n (Nat.le_of_lt h)
    have he : log[n]? = some log[n] := List.getElem?_eq_getElem h
    have ha := R.at_ he
    have hans := runLog_at R.run he
    rw [h2] at hans
    rw [Wd.take_snoc he, posOf_snoc, after_snoc, h2]
    exact ⟨Wd.right_inc R.ok h1 ha (Wd.answered_sent R.ok (R.ev he).de hans), Wd.apply_pos R.ok h1 ha⟩
theorem answers (R : Run W log) {n : Nat} {e : Ev} (h : log[n]? = some e) : answered W.f (W.posStand (posOf W.f (log.take n))) e.1 = some e.2 := by
  have hn : n < log.length := (List.getElem?_eq_some_iff.mp h).1
  rw [← (R.pos n (Nat.le_of_lt hn)).2]
  exact runLog_at R.run h
theorem ends (R : Run W log) : after W.f W.base log = W.posStand (posOf W.f log) := by
  have h := (R.pos log.length (Nat.le_refl _)).2
  rw [List.take_length] at h
  exact h
/-- a list whose head part is the other -/
theorem heads_find {row : Bool} {a b : List (Nat × Sg)} {k : Nat} {x : Nat × Sg} (h : (heads row a).find? (fun p => decide (p.1 = k)) = some x) (t : List (Nat × Sg)) (e : b = a ++ t) : (heads row b).find? (fun p => decide (p.1 = k)) = some x := by
  subst e
  cases row with
  | false =>
    show (a ++ t).find? _ = _
    rw [List.find?_append, show a.find? (fun p => decide (p.1 = k)) = some x from h]
    rfl
  | true =>
    cases a with
    | nil => exact absurd h (by simp [heads])
    | cons y a => exact h
/-- at a right position the next deed of a machine answers as it did in the run, where its letter is sent; else it can't be done -/
theorem enabled (R : Run W log) {c : Nat → Nat} {m : Nat} {e : Ev} (hr : W.Right c) (he : (W.mine m)[c m]? = some e) : answered W.f (W.posStand c) e.1 = if W.SentOk c e.1 then some e.2 else none := by
  have eo := R.ok.ev m e (List.mem_of_getElem? he)
  obtain ⟨n, hn, hp, hi⟩ := at_filter (by rw [← R.mine m]; exact he)
  have hans := R.answers hn
  have hj : posOf W.f (log.take n) m = c m := hi
  have hma := eo.ma
  have hst : stateOf (W.posStand c) m = stateOf (W.posStand (posOf W.f (log.take n))) m := by
    rw [Wd.pos_stateOf eo.lt, Wd.pos_stateOf eo.lt, hj]
  by_cases hs : W.SentOk c e.1
  · rw [if_pos hs, ← hans]
    have hc : causeOf W.f (W.posStand c) e.1 = causeOf W.f (W.posStand (posOf W.f (log.take n))) e.1 := by
      cases hd : e.1 with
      | own x => rfl
      | hear x g => rfl
      | come r k =>
        have hx : r < W.f.roads.length := by
          have := eo.de
          rw [hd] at this
          exact this
        have hm2 : otherAt W.f r = m := by
          rw [hd] at hma
          exact hma
        rw [hd] at hs hans
        have hsj : k < W.sentBy r (posOf W.f (log.take n) (oneAt W.f r)) := Wd.answered_sent R.ok (d := .come r k) hx hans
        obtain ⟨cs, q1, _⟩ := Option.bind_eq_some_iff.mp hans
        obtain ⟨x, q2, q3⟩ := Option.map_eq_some_iff.mp q1
        rw [Wd.pos_waits hx] at q2
        show ((heads (rowAt W.f r) (waitsAt (W.posStand c) r)).find? fun p => decide (p.1 = k)).map _ = ((heads (rowAt W.f r) (waitsAt (W.posStand (posOf W.f (log.take n))) r)).find? fun p => decide (p.1 = k)).map _
        rw [Wd.pos_waits hx, Wd.pos_waits hx, q2]
        refine congrArg (Option.map _) ?_
        by_cases hle : posOf W.f (log.take n) (oneAt W.f r) ≤ c (oneAt W.f r)
        · obtain ⟨t, e1, _⟩ := Wd.lets_more (W := W) (r := r) hle
          refine heads_find q2 (t.filter fun p => decide (p.1 ∉ W.came r (c m))) ?_
          unfold Wd.posLoad
          rw [hm2, hj]
          show List.filter _ _ = _
          rw [e1, List.filter_append]
        · obtain ⟨t, e1, e2⟩ := Wd.lets_more (W := W) (r := r) (Nat.le_of_not_le hle)
          have hxk : x.1 = k := by simpa using List.find?_some q2
          have hxm : x ∈ (W.posLoad (posOf W.f (log.take n)) r).waiting := by
            have := List.mem_of_find?_eq_some q2
            unfold heads at this
            split at this
            · exact List.mem_of_mem_take this
            · exact this
          obtain ⟨hx1, hx2⟩ := List.mem_filter.mp hxm
          have hx3 : x ∈ W.lets r (c (oneAt W.f r)) := by
            rw [e1] at hx1
            rcases List.mem_append.mp hx1 with z | z
            · exact z
            · have := e2 x z
              have hs' : k < W.sentBy r (c (oneAt W.f r)) := hs
              omega
          have hx4 : x ∈ (W.posLoad c r).waiting := by
            refine List.mem_filter.mpr ⟨hx3, ?_⟩
            rw [hm2, hj] at hx2
            rw [hm2]
            exact hx2
          have eW : (W.posLoad (posOf W.f (log.take n)) r).waiting = (W.posLoad c r).waiting ++ t.filter fun p => decide (p.1 ∉ W.came r (c m)) := by
            unfold Wd.posLoad
            rw [hm2, hj]
            show List.filter _ _ = _
            rw [e1, List.filter_append]
          have key : ∃ y, (heads (rowAt W.f r) (W.posLoad c r).waiting).find? (fun p => decide (p.1 = k)) = some y := by
            cases hrow : rowAt W.f r with
            | false =>
              have : ((W.posLoad c r).waiting.find? fun p => decide (p.1 = k)).isSome = true := List.find?_isSome.mpr ⟨x, hx4, by simpa using hxk⟩
              exact Option.isSome_iff_exists.mp this
            | true =>
              rw [hrow, eW] at q2
              cases hW : (W.posLoad c r).waiting with
              | nil => rw [hW] at hx4; exact absurd hx4 (by simp)
              | cons y l =>
                rw [hW] at q2
                exact ⟨x, q2⟩
          obtain ⟨y, hy⟩ := key
          have := heads_find hy _ eW
          rw [q2] at this
          rw [hy, ← this]
    unfold answered
    rw [hc, hma, hst]
  · rw [if_neg hs]
    cases hd : e.1 with
    | own x => rw [hd] at hs; exact absurd trivial hs
    | hear x g => rw [hd] at hs; exact absurd trivial hs
    | come r k =>
      cases q : answered W.f (W.posStand c) (.come r k) with
      | none => rfl
      | some a =>
        refine absurd ?_ hs
        rw [hd]
        have de := eo.de
        rw [hd] at de
        exact Wd.answered_sent R.ok de q
/-! ### deeds by their numbers, in some order -/
/-- each machine's deeds in their order from the position c on -/
def Ordered (W : Wd) : (Nat → Nat) → List Ev → Prop
  | _, [] => True
  | c, e :: r => (W.mine (machineOf W.f e.1))[c (machineOf W.f e.1)]? = some e ∧ Ordered W (inc c (machineOf W.f e.1)) r
def incs (W : Wd) : (Nat → Nat) → List Ev → (Nat → Nat)
  | c, [] => c
  | c, e :: r => incs W (inc c (machineOf W.f e.1)) r
def AllSent (W : Wd) : (Nat → Nat) → List Ev → Prop
  | _, [] => True
  | c, e :: r => W.SentOk c e.1 ∧ AllSent W (inc c (machineOf W.f e.1)) r
theorem incs_append (W : Wd) : ∀ (a b : List Ev) (c : Nat → Nat), incs W c (a ++ b) = incs W (incs W c a) b
  | [], _, _ => rfl
  | e :: a, b, c => incs_append W a b _
theorem ordered_append (W : Wd) : ∀ (a b : List Ev) (c : Nat → Nat), Ordered W c (a ++ b) ↔ Ordered W c a ∧ Ordered W (incs W c a) b
  | [], b, c => ⟨fun h => ⟨trivial, h⟩, fun h => h.2⟩
  | e :: a, b, c => by
    show _ ∧ Ordered W _ (a ++ b) ↔ (_ ∧ _) ∧ _
    rw [ordered_append W a b]
    exact and_assoc.symm
theorem allSent_append (W : Wd) : ∀ (a b : List Ev) (c : Nat → Nat), AllSent W c (a ++ b) ↔ AllSent W c a ∧ AllSent W (incs W c a) b
  | [], b, c => ⟨fun h => ⟨trivial, h⟩, fun h => h.2⟩
  | e :: a, b, c => by
    show _ ∧ AllSent W _ (a ++ b) ↔ (_ ∧ _) ∧ _
    rw [allSent_append W a b]
    exact and_assoc.symm
/-- in order: walked through just where each letter is sent ahead of its coming; and then the stand is that of the position -/
theorem walk_ordered (R : Run W log) : ∀ {l : List Ev} {c : Nat → Nat}, W.Right c → Ordered W c l → (AllSent W c l → walk W.f (W.posStand c) (l.map (·.1)) = some (W.posStand (incs W c l)) ∧ W.Right (incs W c l)) ∧ (¬ AllSent W c l → walk W.f (W.posStand c) (l.map (·.1)) = none)
  | [], c, hr, _ => ⟨fun _ => ⟨rfl, hr⟩, fun h => absurd trivial h⟩
  | e :: l, c, hr, ho => by
    have en := R.enabled hr ho.1
    have hw : walk W.f (W.posStand c) ((e :: l).map (·.1)) = (answered W.f (W.posStand c) e.1).bind fun a => walk W.f (applyA W.f (W.posStand c) e.1 a) (l.map (·.1)) := rfl
    by_cases hs : W.SentOk c e.1
    · rw [hw, en, if_pos hs]
      show (_ → walk W.f (applyA W.f (W.posStand c) e.1 e.2) (l.map (·.1)) = _ ∧ _) ∧ (_ → walk W.f (applyA W.f (W.posStand c) e.1 e.2) (l.map (·.1)) = none)
      rw [Wd.apply_pos R.ok hr ho.1]
      obtain ⟨i1, i2⟩ := R.walk_ordered (l := l) (Wd.right_inc R.ok hr ho.1 hs) ho.2
      exact ⟨fun h => i1 h.2, fun h => i2 fun z => h ⟨hs, z⟩⟩
    · rw [hw, en, if_neg hs]
      exact ⟨fun h => absurd h.1 hs, fun _ => rfl⟩
theorem walk_some (R : Run W log) {l : List Ev} {c : Nat → Nat} {s : Stand} (hr : W.Right c) (ho : Ordered W c l) (h : walk W.f (W.posStand c) (l.map (·.1)) = some s) : AllSent W c l ∧ s = W.posStand (incs W c l) ∧ W.Right (incs W c l) := by
  obtain ⟨h1, h2⟩ := R.walk_ordered hr ho
  by_cases hs : AllSent W c l
  · obtain ⟨q1, q2⟩ := h1 hs
    rw [q1] at h
    exact ⟨hs, (Option.some.inj h).symm, q2⟩
  · rw [h2 hs] at h
    cases h
end Run
end Ct

/-! # CtMath4 -/
namespace Ct
/-! ### events by their numbers -/
/-- each deed's machine and its number among that machine's -/
def eventsAux (f : Form) : List Deed → List Deed → List (Nat × Nat)
  | _, [] => []
  | pre, d :: r => (machineOf f d, (pre.filter fun x => decide (machineOf f x = machineOf f d)).length) :: eventsAux f (pre ++ [d]) r
def eventsOf (f : Form) (ds : List Deed) : List (Nat × Nat) := eventsAux f [] ds
def cntOf (f : Form) (ds : List Deed) (m : Nat) : Nat := (ds.filter fun x => decide (machineOf f x = m)).length
theorem eventsAux_length (f : Form) : ∀ (ds pre : List Deed), (eventsAux f pre ds).length = ds.length
  | [], _ => rfl
  | d :: r, pre => congrArg (· + 1) (eventsAux_length f r _)
theorem eventsAux_at (f : Form) : ∀ (ds pre : List Deed) (j : Nat) (d : Deed), ds[j]? = some d → (eventsAux f pre ds)[j]? = some (machineOf f d, cntOf f (pre ++ ds.take j) (machineOf f d))
  | [], _, _, _, h => by simp at h
  | x :: r, pre, 0, d, h => by
    have : x = d := by simpa using h
    subst this
    simp [eventsAux, cntOf]
  | x :: r, pre, j + 1, d, h => by
    have ih := eventsAux_at f r (pre ++ [x]) j d (by simpa using h)
    show (eventsAux f (pre ++ [x]) r)[j]? = _
    rw [ih]
    simp
theorem events_length (f : Form) (ds : List Deed) : (eventsOf f ds).length = ds.length := eventsAux_length f ds []
theorem events_at {f : Form} {ds : List Deed} {j : Nat} {d : Deed} (h : ds[j]? = some d) : (eventsOf f ds)[j]? = some (machineOf f d, cntOf f (ds.take j) (machineOf f d)) := by
  unfold eventsOf
  rw [eventsAux_at f ds [] j d h, List.nil_append]
theorem eventsAux_snoc (f : Form) : ∀ (ds pre : List Deed) (d : Deed), eventsAux f pre (ds ++ [d]) = eventsAux f pre ds ++ [(machineOf f d, cntOf f (pre ++ ds) (machineOf f d))]
  | [], pre, d => by simp [eventsAux, cntOf]
  | x :: r, pre, d => by
    show _ :: eventsAux f (pre ++ [x]) (r ++ [d]) = _ :: (eventsAux f (pre ++ [x]) r ++ _)
    rw [eventsAux_snoc f r (pre ++ [x]) d]
    simp
theorem events_snoc (f : Form) (ds : List Deed) (d : Deed) : eventsOf f (ds ++ [d]) = eventsOf f ds ++ [(machineOf f d, cntOf f ds (machineOf f d))] := by
  unfold eventsOf
  rw [eventsAux_snoc f ds [] d, List.nil_append]
theorem cnt_snoc (f : Form) (ds : List Deed) (d : Deed) (m : Nat) : cntOf f (ds ++ [d]) m = if m = machineOf f d then cntOf f ds m + 1 else cntOf f ds m := by
  unfold cntOf
  rw [List.filter_append, List.length_append]
  by_cases h : m = machineOf f d
  · subst h
    rw [if_pos rfl]
    simp [List.filter_cons]
  · rw [if_neg h, List.filter_cons, if_neg (by simpa using fun z => h z.symm)]
    simp
theorem posOf_cnt (f : Form) (es : List Ev) (m : Nat) : posOf f es m = cntOf f (es.map (·.1)) m := by
  unfold posOf cntOf
  rw [List.filter_map, List.length_map]
  rfl
/-- numbers in the order of each machine's deeds -/
def OrdIdx (evs : List (Nat × Nat)) : (Nat → Nat) → List Nat → Prop
  | _, [] => True
  | c, j :: r => ∃ m i, evs[j]? = some (m, i) ∧ i = c m ∧ OrdIdx evs (inc c m) r
def nums (evs : List (Nat × Nat)) (m : Nat) (w : List Nat) : List Nat := w.filterMap fun j => match evs[j]? with
  | some e => if e.1 = m then some e.2 else none
  | none => none
theorem nums_cons_same {evs : List (Nat × Nat)} {j m i : Nat} {w : List Nat} (h : evs[j]? = some (m, i)) : nums evs m (j :: w) = i :: nums evs m w := by
  unfold nums
  rw [List.filterMap_cons]
  simp [h]
theorem nums_cons_ne {evs : List (Nat × Nat)} {j m m' i : Nat} {w : List Nat} (h : evs[j]? = some (m', i)) (hne : m ≠ m') : nums evs m (j :: w) = nums evs m w := by
  unfold nums
  rw [List.filterMap_cons]
  simp [h, Ne.symm hne]
theorem ordIdx_nums {evs : List (Nat × Nat)} : ∀ {w : List Nat} {c : Nat → Nat}, OrdIdx evs c w → ∀ m, ∃ n, nums evs m w = List.range' (c m) n
  | [], c, _, m => ⟨0, rfl⟩
  | j :: w, c, h, m => by
    obtain ⟨m', i, e, hi, h'⟩ := h
    obtain ⟨n, hn⟩ := ordIdx_nums h' m
    by_cases hm : m = m'
    · subst hm
      refine ⟨n + 1, ?_⟩
      rw [nums_cons_same e, hn, inc_same, hi]
      rfl
    · refine ⟨n, ?_⟩
      rw [nums_cons_ne e hm, hn, inc_ne hm]
theorem ordIdx_of_nums {evs : List (Nat × Nat)} : ∀ {w : List Nat} {c : Nat → Nat}, (∀ j ∈ w, j < evs.length) → (∀ m, ∃ n, nums evs m w = List.range' (c m) n) → OrdIdx evs c w
  | [], c, _, _ => trivial
  | j :: w, c, hj, h => by
    obtain ⟨⟨m0, i0⟩, e'⟩ : ∃ p, evs[j]? = some p := ⟨_, List.getElem?_eq_getElem (hj j List.mem_cons_self)⟩
    obtain ⟨n, hn⟩ := h m0
    rw [nums_cons_same e'] at hn
    cases n with
    | zero => cases hn
    | succ n =>
      have hn' : i0 :: nums evs m0 w = c m0 :: List.range' (c m0 + 1) n := hn
      injection hn' with h1 h2
      refine ⟨_, _, e', h1, ordIdx_of_nums (fun x hx => hj x (List.mem_cons_of_mem _ hx)) fun m => ?_⟩
      by_cases hm : m = m0
      · rw [hm, inc_same]
        exact ⟨n, h2⟩
      · rw [inc_ne hm]
        obtain ⟨n', hn2⟩ := h m
        rw [nums_cons_ne e' hm] at hn2
        exact ⟨n', hn2⟩
theorem ordIdx_lt {evs : List (Nat × Nat)} : ∀ {w : List Nat} {c : Nat → Nat}, OrdIdx evs c w → ∀ j ∈ w, j < evs.length
  | [], _, _, j, h => absurd h (by simp)
  | x :: w, c, h, j, hj => by
    obtain ⟨m, i, e, _, h'⟩ := h
    rcases List.mem_cons.mp hj with rfl | hj
    · exact (List.getElem?_eq_some_iff.mp e).1
    · exact ordIdx_lt h' j hj
theorem mem_nums {evs : List (Nat × Nat)} {m i j : Nat} {w : List Nat} (h : evs[j]? = some (m, i)) (hj : j ∈ w) : i ∈ nums evs m w := List.mem_filterMap.mpr ⟨j, hj, by simp [h]⟩
theorem ordIdx_nodup {evs : List (Nat × Nat)} : ∀ {w : List Nat} {c : Nat → Nat}, OrdIdx evs c w → w.Nodup
  | [], _, _ => List.Pairwise.nil
  | j :: w, c, h => by
    obtain ⟨m, i, e, hi, h'⟩ := h
    refine List.nodup_cons.mpr ⟨fun hj => ?_, ordIdx_nodup h'⟩
    obtain ⟨n, hn⟩ := ordIdx_nums h' m
    have := mem_nums e hj
    rw [hn, inc_same] at this
    have := (List.mem_range'_1.mp this).1
    omega
/-- rising, all below n, n of them -/
theorem rising_range : ∀ {l : List Nat} {n a : Nat}, l.Pairwise (· < ·) → (∀ x ∈ l, a ≤ x ∧ x < a + n) → l.length = n → l = List.range' a n
  | [], n, a, _, _, h => by
    have : n = 0 := h.symm
    subst this
    rfl
  | x :: l, n, a, hp, hb, h => by
    obtain ⟨h1, h2⟩ := List.pairwise_cons.mp hp
    cases n with
    | zero => simp at h
    | succ n =>
      have hl : l.length = n := by simpa using h
      have hx := hb x List.mem_cons_self
      have e : l = List.range' (x + 1) n := by
        refine rising_range h2 (fun y hy => ⟨h1 y hy, ?_⟩) hl
        have := (hb y (List.mem_cons_of_mem _ hy)).2
        -- x is the least: all n of l lie above x
        omega
      have ex : x = a := by
        by_cases hx0 : x = a
        · exact hx0
        · exfalso
          cases n with
          | zero => omega
          | succ n =>
            have hm : x + 1 + n ∈ l := by
              rw [e]
              exact List.mem_range'_1.mpr ⟨by omega, by omega⟩
            have := (hb _ (List.mem_cons_of_mem _ hm)).2
            omega
      rw [e, ex]
      rfl
theorem sorted_nodup_range {l : List Nat} {n : Nat} (hs : l.Pairwise (· ≤ ·)) (hn : l.Nodup) (hb : ∀ x ∈ l, x < n) (hl : l.length = n) : l = List.range n := by
  rw [List.range_eq_range']
  refine rising_range ?_ (fun x hx => ⟨Nat.zero_le _, by have := hb x hx; omega⟩) hl
  exact (hs.and hn).imp fun {a b} h => Nat.lt_of_le_of_ne h.1 h.2
theorem nums_range (f : Form) (ds : List Deed) (m : Nat) : ∀ t, t ≤ ds.length → nums (eventsOf f ds) m (List.range t) = List.range (cntOf f (ds.take t) m)
  | 0, _ => rfl
  | t + 1, h => by
    have e : ds[t]? = some ds[t] := List.getElem?_eq_getElem h
    have ih := nums_range f ds m t (Nat.le_of_lt h)
    have ev := events_at (f := f) e
    have ap : nums (eventsOf f ds) m (List.range (t + 1)) = nums (eventsOf f ds) m (List.range t) ++ nums (eventsOf f ds) m [t] := by
      unfold nums
      rw [List.range_succ, List.filterMap_append]
    rw [ap, ih, Wd.take_snoc e, cnt_snoc]
    by_cases hm : m = machineOf f ds[t]
    · rw [if_pos hm, List.range_succ]
      subst hm
      rw [nums_cons_same ev]
      rfl
    · rw [if_neg hm, nums_cons_ne ev hm]
      show _ ++ [] = _
      rw [List.append_nil]
theorem ordIdx_of_perm {f : Form} {ds : List Deed} {w : List Nat} (hp : w.Perm (List.range ds.length)) (hs : ∀ m, (nums (eventsOf f ds) m w).Pairwise (· ≤ ·)) : OrdIdx (eventsOf f ds) (fun _ => 0) w := by
  refine ordIdx_of_nums (fun j hj => ?_) fun m => ⟨cntOf f ds m, ?_⟩
  · rw [events_length]
    exact List.mem_range.mp (hp.mem_iff.mp hj)
  · have hq : (nums (eventsOf f ds) m w).Perm (List.range (cntOf f ds m)) := by
      have h1 := nums_range f ds m ds.length (Nat.le_refl _)
      rw [List.take_length] at h1
      rw [← h1]
      exact hp.filterMap _
    rw [← List.range_eq_range']
    exact sorted_nodup_range (hs m) (hq.nodup_iff.mpr List.nodup_range) (fun x hx => List.mem_range.mp (hq.mem_iff.mp hx)) (by rw [hq.length_eq, List.length_range])
theorem nums_sorted {evs : List (Nat × Nat)} {w : List Nat} {c : Nat → Nat} (h : OrdIdx evs c w) (m : Nat) : (nums evs m w).Pairwise (· ≤ ·) := by
  obtain ⟨n, e⟩ := ordIdx_nums h m
  rw [e]
  exact (List.pairwise_lt_range' (s := c m) (n := n)).imp fun h => Nat.le_of_lt h
theorem perm_range_of {evs : List (Nat × Nat)} {w l : List Nat} {c : Nat → Nat} {n : Nat} (h : OrdIdx evs c w) (hn : evs.length = n) (hw : w.length = n) (hp : l.Perm w) (hs : l.Pairwise (· ≤ ·)) : l = List.range n :=
  sorted_nodup_range hs (hp.nodup_iff.mpr (ordIdx_nodup h)) (fun x hx => hn ▸ ordIdx_lt h x (hp.mem_iff.mp hx)) (hp.length_eq.trans hw)
/-! ### a run's events -/
def evsAt (log : List Ev) (w : List Nat) : List Ev := w.filterMap fun j => log[j]?
def deedsAt (ds : List Deed) (w : List Nat) : List Deed := w.filterMap fun j => ds[j]?
theorem deedsAt_map (log : List Ev) : ∀ w : List Nat, deedsAt (log.map (·.1)) w = (evsAt log w).map (·.1)
  | [] => rfl
  | j :: w => by
    have ih := deedsAt_map log w
    unfold deedsAt evsAt at *
    rw [List.filterMap_cons, List.filterMap_cons, List.getElem?_map, ih]
    cases h : log[j]? with
    | none => rfl
    | some e => rfl
namespace Run
variable {W : Wd} {log : List Ev}
abbrev dsOf (log : List Ev) : List Deed := log.map (·.1)
theorem events_ev (R : Run W log) {j : Nat} {e : Ev} (h : log[j]? = some e) : (eventsOf W.f (dsOf log))[j]? = some (machineOf W.f e.1, posOf W.f (log.take j) (machineOf W.f e.1)) := by
  have hd : (dsOf log)[j]? = some e.1 := by simp [h]
  rw [events_at hd, posOf_cnt, List.map_take]
theorem ordered_of (R : Run W log) : ∀ {w : List Nat} {c : Nat → Nat}, OrdIdx (eventsOf W.f (dsOf log)) c w → Ordered W c (evsAt log w)
  | [], _, _ => trivial
  | j :: w, c, h => by
    obtain ⟨m, i, e, hi, h'⟩ := h
    have hj : j < log.length := by
      have := (List.getElem?_eq_some_iff.mp e).1
      rw [events_length] at this
      simpa using this
    have hl : log[j]? = some log[j] := List.getElem?_eq_getElem hj
    rw [R.events_ev hl] at e
    have e1 := Option.some.inj e
    injection e1 with e2 e3
    have : evsAt log (j :: w) = log[j] :: evsAt log w := by
      unfold evsAt
      rw [List.filterMap_cons]
      simp [hl]
    rw [this]
    refine ⟨?_, ?_⟩
    · have := R.at_ hl
      rw [e3, hi, e2] at *
      exact this
    · rw [e2]
      exact R.ordered_of h'
theorem incs_posOf (W : Wd) : ∀ (l : List Ev) (c : Nat → Nat), incs W c l = fun m => c m + posOf W.f l m
  | [], c => by
    funext m
    rfl
  | e :: l, c => by
    show incs W (inc c (machineOf W.f e.1)) l = _
    rw [incs_posOf W l]
    funext m
    unfold posOf
    by_cases h : m = machineOf W.f e.1
    · subst h
      rw [inc_same, List.filter_cons, if_pos (by simp)]
      simp
      omega
    · rw [inc_ne h, List.filter_cons, if_neg (by simpa using fun z => h z.symm)]
theorem incs_zero (W : Wd) (l : List Ev) : incs W (fun _ => 0) l = posOf W.f l := by
  rw [incs_posOf]
  funext m
  exact Nat.zero_add _
end Run
end Ct

/-! # CtMath5 -/
namespace Ct
/-! ### what lies in a cut, first -/
def inCut (evs : List (Nat × Nat)) (cut : Nat → Nat) (j : Nat) : Bool := match evs[j]? with
  | some e => decide (e.2 < cut e.1)
  | none => false
def insideTo (evs : List (Nat × Nat)) (cut : Nat → Nat) (t : Nat) : List Nat := (List.range t).filter fun j => inCut evs cut j
def outsideTo (evs : List (Nat × Nat)) (cut : Nat → Nat) (t : Nat) : List Nat := (List.range t).filter fun j => !inCut evs cut j
def Accept (f : Form) (base : Stand) (ds : List Deed) (w : List Nat) (many : Nat) (told : Stand) : Prop :=
  OrdIdx (eventsOf f ds) (fun _ => 0) w ∧ many ≤ w.length ∧ (∃ s, walk f base (deedsAt ds w) = some s) ∧ walk f base (deedsAt ds (w.take many)) = some told
theorem ordIdx_take {evs : List (Nat × Nat)} : ∀ {w : List Nat} {c : Nat → Nat} (k : Nat), OrdIdx evs c w → OrdIdx evs c (w.take k)
  | _, _, 0, _ => trivial
  | [], _, _ + 1, _ => trivial
  | j :: w, c, k + 1, h => by
    obtain ⟨m, i, e, hi, h'⟩ := h
    exact ⟨m, i, e, hi, ordIdx_take k h'⟩
theorem nums_append (evs : List (Nat × Nat)) (m : Nat) (a b : List Nat) : nums evs m (a ++ b) = nums evs m a ++ nums evs m b := List.filterMap_append
theorem evsAt_append (log : List Ev) (a b : List Nat) : evsAt log (a ++ b) = evsAt log a ++ evsAt log b := List.filterMap_append
theorem deedsAt_append (ds : List Deed) (a b : List Nat) : deedsAt ds (a ++ b) = deedsAt ds a ++ deedsAt ds b := List.filterMap_append
namespace Run
variable {W : Wd} {log : List Ev}
theorem evs_len (W : Wd) (log : List Ev) : (eventsOf W.f (dsOf log)).length = log.length := by
  rw [events_length, List.length_map]
theorem count_nums (R : Run W log) (m : Nat) : ∀ {w : List Nat}, (∀ j ∈ w, j < log.length) → posOf W.f (evsAt log w) m = (nums (eventsOf W.f (dsOf log)) m w).length
  | [], _ => rfl
  | j :: w, h => by
    have hj := h j List.mem_cons_self
    have hl : log[j]? = some log[j] := List.getElem?_eq_getElem hj
    have ih := R.count_nums m (w := w) fun x hx => h x (List.mem_cons_of_mem _ hx)
    have e1 : evsAt log (j :: w) = log[j] :: evsAt log w := by
      unfold evsAt
      rw [List.filterMap_cons, hl]
    have ev := R.events_ev hl
    rw [e1]
    by_cases hm : m = machineOf W.f log[j].1
    · rw [hm] at ih ⊢
      rw [nums_cons_same ev]
      unfold posOf at *
      rw [List.filter_cons, if_pos (by simp)]
      simp [ih]
    · rw [nums_cons_ne ev hm]
      unfold posOf at *
      rw [List.filter_cons, if_neg (by simpa using fun z => hm z.symm)]
      exact ih
theorem pos_mono (f : Form) (log : List Ev) (m : Nat) {a b : Nat} (h : a ≤ b) : posOf f (log.take a) m ≤ posOf f (log.take b) m := by
  obtain ⟨t, e⟩ := Wd.take_more log h
  unfold posOf
  rw [e, List.filter_append, List.length_append]
  omega
theorem pos_lt (R : Run W log) {j : Nat} {e : Ev} (h : log[j]? = some e) : posOf W.f (log.take j) (machineOf W.f e.1) < posOf W.f log (machineOf W.f e.1) := by
  have h1 : posOf W.f (log.take (j + 1)) (machineOf W.f e.1) = posOf W.f (log.take j) (machineOf W.f e.1) + 1 := by
    rw [Wd.take_snoc h, posOf_snoc, inc_same]
  have h2 := pos_mono W.f log (machineOf W.f e.1) (show j + 1 ≤ log.length from (List.getElem?_eq_some_iff.mp h).1)
  rw [List.take_length] at h2
  omega
theorem count_le (R : Run W log) {w : List Nat} (ho : OrdIdx (eventsOf W.f (dsOf log)) (fun _ => 0) w) (m : Nat) : posOf W.f (evsAt log w) m ≤ posOf W.f log m := by
  have hw : ∀ j ∈ w, j < log.length := fun j hj => by
    have := ordIdx_lt ho j hj
    rw [evs_len] at this
    exact this
  rw [R.count_nums m hw]
  obtain ⟨n, hn⟩ := ordIdx_nums ho m
  rw [hn, List.length_range']
  cases n with
  | zero => exact Nat.zero_le _
  | succ n =>
    have hm : n ∈ nums (eventsOf W.f (dsOf log)) m w := by
      rw [hn]
      exact List.mem_range'_1.mpr ⟨Nat.zero_le _, by omega⟩
    obtain ⟨j, hj, e⟩ := List.mem_filterMap.mp hm
    obtain ⟨ej, hl⟩ : ∃ ej, log[j]? = some ej := ⟨_, List.getElem?_eq_getElem (hw j hj)⟩
    rw [R.events_ev hl] at e
    dsimp only at e
    split at e
    · rename_i h1
      have h2 := R.pos_lt hl
      rw [h1] at h2 e
      have := Option.some.inj e
      omega
    · cases e
theorem inside_nums (R : Run W log) (cut : Nat → Nat) (m : Nat) : ∀ t, t ≤ log.length →
    nums (eventsOf W.f (dsOf log)) m (insideTo (eventsOf W.f (dsOf log)) cut t) = List.range' 0 (min (cut m) (posOf W.f (log.take t) m)) ∧
    nums (eventsOf W.f (dsOf log)) m (outsideTo (eventsOf W.f (dsOf log)) cut t) = List.range' (cut m) (posOf W.f (log.take t) m - cut m)
  | 0, _ => by
    have z : posOf W.f (log.take 0) m = 0 := rfl
    rw [z]
    simp [insideTo, outsideTo, nums]
  | t + 1, h => by
    obtain ⟨i1, i2⟩ := R.inside_nums cut m t (Nat.le_of_lt h)
    have hl : log[t]? = some log[t] := List.getElem?_eq_getElem h
    have ev := R.events_ev hl
    have hin : inCut (eventsOf W.f (dsOf log)) cut t = decide (posOf W.f (log.take t) (machineOf W.f log[t].1) < cut (machineOf W.f log[t].1)) := by
      unfold inCut
      rw [ev]
    have a1 : insideTo (eventsOf W.f (dsOf log)) cut (t + 1) = insideTo (eventsOf W.f (dsOf log)) cut t ++ (if inCut (eventsOf W.f (dsOf log)) cut t = true then [t] else []) := by
      unfold insideTo
      rw [List.range_succ, List.filter_append, List.filter_cons]
      rfl
    have a2 : outsideTo (eventsOf W.f (dsOf log)) cut (t + 1) = outsideTo (eventsOf W.f (dsOf log)) cut t ++ (if inCut (eventsOf W.f (dsOf log)) cut t = true then [] else [t]) := by
      unfold outsideTo
      rw [List.range_succ, List.filter_append, List.filter_cons]
      cases inCut (eventsOf W.f (dsOf log)) cut t <;> rfl
    have ps : posOf W.f (log.take (t + 1)) m = if m = machineOf W.f log[t].1 then posOf W.f (log.take t) m + 1 else posOf W.f (log.take t) m := by
      rw [Wd.take_snoc hl, posOf_snoc]
      unfold inc
      split
      · rename_i z
        rw [z]
      · rfl
    rw [a1, a2, nums_append, nums_append, i1, i2, ps]
    by_cases hm : m = machineOf W.f log[t].1
    · rw [if_pos hm]
      by_cases hc : posOf W.f (log.take t) m < cut m
      · have hin' : inCut (eventsOf W.f (dsOf log)) cut t = true := by
          rw [hin, ← hm]
          exact decide_eq_true hc
        rw [if_pos hin', if_pos hin']
        have e1 : nums (eventsOf W.f (dsOf log)) m [t] = [posOf W.f (log.take t) m] := by
          rw [hm] at *
          rw [nums_cons_same ev]
          rfl
        rw [e1]
        refine ⟨?_, ?_⟩
        · rw [show min (cut m) (posOf W.f (log.take t) m) = posOf W.f (log.take t) m by omega, show min (cut m) (posOf W.f (log.take t) m + 1) = posOf W.f (log.take t) m + 1 by omega, List.range'_concat]
          simp
        · show _ ++ [] = _
          rw [List.append_nil, show posOf W.f (log.take t) m - cut m = 0 by omega, show posOf W.f (log.take t) m + 1 - cut m = 0 by omega]
      · have hin' : ¬ inCut (eventsOf W.f (dsOf log)) cut t = true := by
          rw [hin, ← hm]
          simpa using hc
        rw [if_neg hin', if_neg hin']
        have e1 : nums (eventsOf W.f (dsOf log)) m [t] = [posOf W.f (log.take t) m] := by
          rw [hm] at *
          rw [nums_cons_same ev]
          rfl
        rw [e1]
        refine ⟨?_, ?_⟩
        · show _ ++ [] = _
          rw [List.append_nil, show min (cut m) (posOf W.f (log.take t) m) = cut m by omega, show min (cut m) (posOf W.f (log.take t) m + 1) = cut m by omega]
        · rw [show posOf W.f (log.take t) m + 1 - cut m = (posOf W.f (log.take t) m - cut m) + 1 by omega, List.range'_concat]
          congr 2
          omega
    · rw [if_neg hm]
      have e1 : nums (eventsOf W.f (dsOf log)) m [t] = [] := by
        rw [nums_cons_ne ev hm]
        rfl
      have e0 : nums (eventsOf W.f (dsOf log)) m [] = [] := rfl
      split <;> rw [e1, e0] <;> exact ⟨List.append_nil _, List.append_nil _⟩
theorem inside_lt (evs : List (Nat × Nat)) (cut : Nat → Nat) (t : Nat) : (∀ j ∈ insideTo evs cut t, j < t) ∧ ∀ j ∈ outsideTo evs cut t, j < t :=
  ⟨fun j hj => List.mem_range.mp (List.mem_filter.mp hj).1, fun j hj => List.mem_range.mp (List.mem_filter.mp hj).1⟩
theorem inside_pos (R : Run W log) (cut : Nat → Nat) {t : Nat} (ht : t ≤ log.length) : posOf W.f (evsAt log (insideTo (eventsOf W.f (dsOf log)) cut t)) = fun m => min (cut m) (posOf W.f (log.take t) m) := by
  funext m
  rw [R.count_nums m fun j hj => Nat.lt_of_lt_of_le ((inside_lt _ _ _).1 j hj) ht, (R.inside_nums cut m t ht).1, List.length_range']
theorem outside_pos (R : Run W log) (cut : Nat → Nat) {t : Nat} (ht : t ≤ log.length) : posOf W.f (evsAt log (outsideTo (eventsOf W.f (dsOf log)) cut t)) = fun m => posOf W.f (log.take t) m - cut m := by
  funext m
  rw [R.count_nums m fun j hj => Nat.lt_of_lt_of_le ((inside_lt _ _ _).2 j hj) ht, (R.inside_nums cut m t ht).2, List.length_range']
theorem sent_mono (W : Wd) {c c' : Nat → Nat} {d : Deed} (h : ∀ m, c m ≤ c' m) (hs : W.SentOk c d) : W.SentOk c' d := by
  cases d with
  | come r k => exact Nat.lt_of_lt_of_le hs (Wd.sentBy_mono (h _))
  | _ => trivial
theorem inside_sent (R : Run W log) {cut : Nat → Nat} (hr : W.Right cut) : ∀ t, t ≤ log.length → AllSent W (fun _ => 0) (evsAt log (insideTo (eventsOf W.f (dsOf log)) cut t))
  | 0, _ => trivial
  | t + 1, h => by
    have ih := R.inside_sent hr t (Nat.le_of_lt h)
    have hl : log[t]? = some log[t] := List.getElem?_eq_getElem h
    have a1 : insideTo (eventsOf W.f (dsOf log)) cut (t + 1) = insideTo (eventsOf W.f (dsOf log)) cut t ++ (if inCut (eventsOf W.f (dsOf log)) cut t = true then [t] else []) := by
      unfold insideTo
      rw [List.range_succ, List.filter_append, List.filter_cons]
      rfl
    rw [a1, evsAt_append, allSent_append]
    refine ⟨ih, ?_⟩
    by_cases hin : inCut (eventsOf W.f (dsOf log)) cut t = true
    · rw [if_pos hin]
      have e1 : evsAt log [t] = [log[t]] := by
        unfold evsAt
        rw [List.filterMap_cons, hl]
        rfl
      rw [e1, incs_zero, R.inside_pos cut (Nat.le_of_lt h)]
      refine ⟨?_, trivial⟩
      have hin' : posOf W.f (log.take t) (machineOf W.f log[t].1) < cut (machineOf W.f log[t].1) := by
        unfold inCut at hin
        rw [R.events_ev hl] at hin
        exact of_decide_eq_true hin
      have s1 := Wd.answered_sent R.ok (R.ev hl).de (R.answers hl)
      cases hd : log[t].1 with
      | own x => trivial
      | hear x g => trivial
      | come r k =>
        have hx : r < W.f.roads.length := by
          have := (R.ev hl).de
          rw [hd] at this
          exact this
        rw [hd] at s1 hin'
        have s1' : k < W.sentBy r (posOf W.f (log.take t) (oneAt W.f r)) := s1
        have s2 : k < W.sentBy r (cut (oneAt W.f r)) := by
          refine hr r hx k ?_
          have ha := R.at_ hl
          rw [hd] at ha
          have hc := Wd.came_succ (W := W) (r := r) rfl ha
          have : k ∈ W.came r (posOf W.f (log.take t) (otherAt W.f r) + 1) := by
            have hc' : W.came r (posOf W.f (log.take t) (otherAt W.f r) + 1) = _ := hc
            rw [hc', hd]
            exact List.mem_append_right _ (by simp [comesOf])
          exact Wd.came_mono hin' this
        show k < W.sentBy r (min (cut (oneAt W.f r)) (posOf W.f (log.take t) (oneAt W.f r)))
        rcases Nat.le_total (cut (oneAt W.f r)) (posOf W.f (log.take t) (oneAt W.f r)) with hle | hle
        · rw [Nat.min_eq_left hle]
          exact s2
        · rw [Nat.min_eq_right hle]
          exact s1'
    · rw [if_neg hin]
      trivial
theorem outside_sent (R : Run W log) {cut : Nat → Nat} : ∀ t, t ≤ log.length → AllSent W cut (evsAt log (outsideTo (eventsOf W.f (dsOf log)) cut t))
  | 0, _ => trivial
  | t + 1, h => by
    have ih := R.outside_sent (cut := cut) t (Nat.le_of_lt h)
    have hl : log[t]? = some log[t] := List.getElem?_eq_getElem h
    have a2 : outsideTo (eventsOf W.f (dsOf log)) cut (t + 1) = outsideTo (eventsOf W.f (dsOf log)) cut t ++ (if inCut (eventsOf W.f (dsOf log)) cut t = true then [] else [t]) := by
      unfold outsideTo
      rw [List.range_succ, List.filter_append, List.filter_cons]
      cases inCut (eventsOf W.f (dsOf log)) cut t <;> rfl
    rw [a2, evsAt_append, allSent_append]
    refine ⟨ih, ?_⟩
    by_cases hin : inCut (eventsOf W.f (dsOf log)) cut t = true
    · rw [if_pos hin]
      trivial
    · rw [if_neg hin]
      have e1 : evsAt log [t] = [log[t]] := by
        unfold evsAt
        rw [List.filterMap_cons, hl]
        rfl
      rw [e1, incs_posOf, R.outside_pos cut (Nat.le_of_lt h)]
      refine ⟨sent_mono W (fun m => ?_) (Wd.answered_sent R.ok (R.ev hl).de (R.answers hl)), trivial⟩
      show posOf W.f (log.take t) m ≤ cut m + (posOf W.f (log.take t) m - cut m)
      omega
/-- the deeds in a right cut, in their order, lead to its stand -/
theorem walk_inside (R : Run W log) {cut : Nat → Nat} (hr : W.Right cut) (hc : ∀ m, cut m ≤ posOf W.f log m) :
    walk W.f W.base (deedsAt (dsOf log) (insideTo (eventsOf W.f (dsOf log)) cut log.length)) = some (W.posStand cut) := by
  have hp : posOf W.f (evsAt log (insideTo (eventsOf W.f (dsOf log)) cut log.length)) = cut := by
    rw [R.inside_pos cut (Nat.le_refl _), List.take_length]
    funext m
    exact Nat.min_eq_left (hc m)
  have ho : OrdIdx (eventsOf W.f (dsOf log)) (fun _ => 0) (insideTo (eventsOf W.f (dsOf log)) cut log.length) :=
    ordIdx_of_nums (fun j hj => by rw [evs_len]; exact (inside_lt _ _ _).1 j hj) fun m => ⟨_, (R.inside_nums cut m log.length (Nat.le_refl _)).1⟩
  have q := ((R.walk_ordered Wd.right_zero (R.ordered_of ho)).1 (R.inside_sent hr log.length (Nat.le_refl _))).1
  rw [incs_zero, hp, Wd.pos_zero R.ok] at q
  rw [deedsAt_map]
  exact q
theorem through_len (evs : List (Nat × Nat)) (cut : Nat → Nat) : ∀ t, (insideTo evs cut t ++ outsideTo evs cut t).length = t
  | 0 => rfl
  | t + 1 => by
    have ih := through_len evs cut t
    unfold insideTo outsideTo at *
    rw [List.length_append] at *
    rw [List.range_succ, List.filter_append, List.filter_append, List.length_append, List.length_append, List.filter_cons, List.filter_cons]
    cases inCut evs cut t <;> simp at * <;> omega
/-- a way through a right cut is let by -/
theorem through_ok (R : Run W log) {cut : Nat → Nat} (hr : W.Right cut) (hc : ∀ m, cut m ≤ posOf W.f log m) :
    Accept W.f W.base (dsOf log) (insideTo (eventsOf W.f (dsOf log)) cut log.length ++ outsideTo (eventsOf W.f (dsOf log)) cut log.length) (insideTo (eventsOf W.f (dsOf log)) cut log.length).length (W.posStand cut) := by
  have hp : posOf W.f (evsAt log (insideTo (eventsOf W.f (dsOf log)) cut log.length)) = cut := by
    rw [R.inside_pos cut (Nat.le_refl _), List.take_length]
    funext m
    exact Nat.min_eq_left (hc m)
  have ho : OrdIdx (eventsOf W.f (dsOf log)) (fun _ => 0) (insideTo (eventsOf W.f (dsOf log)) cut log.length ++ outsideTo (eventsOf W.f (dsOf log)) cut log.length) := by
    refine ordIdx_of_nums (fun j hj => ?_) fun m => ?_
    · rw [evs_len]
      rcases List.mem_append.mp hj with hj | hj
      · exact (inside_lt _ _ _).1 j hj
      · exact (inside_lt _ _ _).2 j hj
    · obtain ⟨e1, e2⟩ := R.inside_nums cut m log.length (Nat.le_refl _)
      rw [List.take_length] at e1 e2
      refine ⟨cut m + (posOf W.f log m - cut m), ?_⟩
      rw [nums_append, e1, e2, Nat.min_eq_left (hc m)]
      have := List.range'_append_1 (s := 0) (m := cut m) (n := posOf W.f log m - cut m)
      rw [Nat.zero_add] at this
      exact this
  refine ⟨ho, by rw [List.length_append]; omega, ?_, ?_⟩
  · have q := ((R.walk_ordered Wd.right_zero (R.ordered_of ho)).1 (by
      rw [evsAt_append, allSent_append]
      refine ⟨R.inside_sent hr log.length (Nat.le_refl _), ?_⟩
      rw [incs_zero, hp]
      exact R.outside_sent log.length (Nat.le_refl _))).1
    rw [Wd.pos_zero R.ok, ← deedsAt_map] at q
    exact ⟨_, q⟩
  · rw [List.take_left]
    exact R.walk_inside hr hc
/-- a prefix of an accepted order: its stand is that of a right cut -/
theorem prefix_ok (R : Run W log) {w : List Nat} (ho : OrdIdx (eventsOf W.f (dsOf log)) (fun _ => 0) w) {k : Nat} {s : Stand} (h : walk W.f W.base (deedsAt (dsOf log) (w.take k)) = some s) :
    s = W.posStand (posOf W.f (evsAt log (w.take k))) ∧ W.Right (posOf W.f (evsAt log (w.take k))) := by
  rw [deedsAt_map, ← Wd.pos_zero R.ok] at h
  obtain ⟨_, h1, h2⟩ := R.walk_some Wd.right_zero (R.ordered_of (ordIdx_take k ho)) h
  rw [incs_zero] at h1 h2
  exact ⟨h1, h2⟩
theorem whole_ok (R : Run W log) {w : List Nat} (ho : OrdIdx (eventsOf W.f (dsOf log)) (fun _ => 0) w) (hp : w.Perm (List.range log.length)) {s : Stand} (h : walk W.f W.base (deedsAt (dsOf log) w) = some s) :
    walk W.f W.base (dsOf log) = some s := by
  have q := R.prefix_ok (k := w.length) ho (by rw [List.take_length]; exact h)
  rw [List.take_length] at q
  rw [runLog_walk R.run, R.ends, q.1]
  refine congrArg (fun c => some (W.posStand c)) ?_
  funext m
  have e := R.inside_nums (fun _ => 0) m log.length (Nat.le_refl _)
  rw [R.count_nums m fun j hj => List.mem_range.mp (hp.mem_iff.mp hj)]
  have n1 := nums_range W.f (dsOf log) m log.length (by rw [List.length_map]; exact Nat.le_refl _)
  have hq : (nums (eventsOf W.f (dsOf log)) m w).Perm (nums (eventsOf W.f (dsOf log)) m (List.range log.length)) := hp.filterMap _
  rw [hq.length_eq, n1, List.length_range, posOf_cnt, ← List.map_take, List.take_length]
end Run
end Ct

/-! # CtMath6 -/
namespace Ct
/-! ### letters: by which deeds they were sent and came -/
abbrev LK := Nat × Nat
abbrev LV := Option Nat × Option Nat
abbrev LD := List (LK × LV)
def putL (A : LD) (k : LK) (v : LV) : LD := if (A.any fun e => decide (e.1 = k)) = true then A.map (fun e => if e.1 = k then (e.1, v) else e) else A ++ [(k, v)]
def lookL (A : LD) (k : LK) : Option LV := (A.find? fun e => decide (e.1 = k)).map (·.2)
theorem mem_putL {A : LD} {k : LK} {v : LV} {en : LK × LV} (h : en ∈ putL A k v) : en = (k, v) ∨ (en ∈ A ∧ en.1 ≠ k) := by
  unfold putL at h
  split at h
  · obtain ⟨e, he, rfl⟩ := List.mem_map.mp h
    by_cases hk : e.1 = k
    · rw [if_pos hk]
      exact .inl (by rw [hk])
    · rw [if_neg hk]
      exact .inr ⟨he, hk⟩
  · rename_i hn
    rcases List.mem_append.mp h with h | h
    · refine .inr ⟨h, fun hk => hn ?_⟩
      exact List.any_eq_true.mpr ⟨en, h, decide_eq_true hk⟩
    · exact .inl (by simpa using h)
theorem putL_new (A : LD) (k : LK) (v : LV) : (k, v) ∈ putL A k v := by
  unfold putL
  split
  · rename_i h
    obtain ⟨e, he, hk⟩ := List.any_eq_true.mp h
    have hk : e.1 = k := of_decide_eq_true hk
    exact List.mem_map.mpr ⟨e, he, by rw [if_pos hk, hk]⟩
  · exact List.mem_append_right _ (by simp)
theorem putL_old {A : LD} {k : LK} {v : LV} {en : LK × LV} (h : en ∈ A) (hk : en.1 ≠ k) : en ∈ putL A k v := by
  unfold putL
  split
  · exact List.mem_map.mpr ⟨en, h, if_neg hk⟩
  · exact List.mem_append_left _ h
theorem putL_nodup {A : LD} {k : LK} {v : LV} (h : (A.map (·.1)).Nodup) : ((putL A k v).map (·.1)).Nodup := by
  unfold putL
  split
  · have e : (A.map fun e => if e.1 = k then (e.1, v) else e).map (·.1) = A.map (·.1) := by
      rw [List.map_map]
      refine List.map_congr_left fun e _ => ?_
      show (if e.1 = k then (e.1, v) else e).1 = e.1
      split <;> rfl
    rw [e]
    exact h
  · rename_i hn
    rw [List.map_append]
    refine List.nodup_append.mpr ⟨h, by simp, fun a ha b hb e => hn ?_⟩
    obtain ⟨x, hx, rfl⟩ := List.mem_map.mp ha
    have : b = k := by simpa using hb
    exact List.any_eq_true.mpr ⟨x, hx, decide_eq_true (e.trans this)⟩
theorem lookL_mem {A : LD} {k : LK} {v : LV} (h : lookL A k = some v) : (k, v) ∈ A := by
  obtain ⟨e, he, rfl⟩ := Option.map_eq_some_iff.mp h
  have hk : e.1 = k := by simpa using List.find?_some he
  rw [← hk]
  exact List.mem_of_find?_eq_some he
theorem lookL_some {A : LD} {en : LK × LV} (h : en ∈ A) : ∃ v, lookL A en.1 = some v := by
  have : (A.find? fun e => decide (e.1 = en.1)).isSome = true := List.find?_isSome.mpr ⟨en, h, by simp⟩
  obtain ⟨e, he⟩ := Option.isSome_iff_exists.mp this
  exact ⟨e.2, by unfold lookL; rw [he]; rfl⟩
theorem putL_length (A : LD) (k : LK) (v : LV) : (putL A k v).length ≤ A.length + 1 := by
  unfold putL
  split
  · rw [List.length_map]
    omega
  · simp
/-- new letters of one road, of all roads, by the deed t -/
def addRoad (A : LD) (t r lo n : Nat) : LD := (List.range n).foldl (fun A i => putL A (r, lo + i) (some t, none)) A
def addTo (A : LD) (t : Nat) (s s' : Stand) (n : Nat) : LD := (List.range n).foldl (fun A r => addRoad A t r (sentAt s r) (sentAt s' r - sentAt s r)) A
def comeL (A : LD) (t : Nat) : Deed → LD
  | .come r k => putL A (r, k) (((lookL A (r, k)).getD (none, none)).1, some t)
  | _ => A
def initRoad (A : LD) (s : Stand) (r n : Nat) : LD := ((waitsAt s r).take n).foldl (fun A p => putL A (r, p.1) (none, none)) A
def initTo (s : Stand) (n : Nat) : LD := (List.range n).foldl (fun A r => initRoad A s r (waitsAt s r).length) []
/-- the letters behind t deeds of a run -/
def lettersAt (f : Form) (base : Stand) (log : List Ev) : Nat → LD
  | 0 => initTo base f.roads.length
  | t + 1 => match log[t]? with
    | some e => addTo (comeL (lettersAt f base log t) t e.1) t (after f base (log.take t)) (after f base (log.take (t + 1))) f.roads.length
    | none => lettersAt f base log t
theorem addRoad_succ (A : LD) (t r lo n : Nat) : addRoad A t r lo (n + 1) = putL (addRoad A t r lo n) (r, lo + n) (some t, none) := by
  unfold addRoad
  rw [List.range_succ, List.foldl_append]
  rfl
theorem addTo_succ (A : LD) (t : Nat) (s s' : Stand) (n : Nat) : addTo A t s s' (n + 1) = addRoad (addTo A t s s' n) t n (sentAt s n) (sentAt s' n - sentAt s n) := by
  unfold addTo
  rw [List.range_succ, List.foldl_append]
  rfl
theorem initRoad_succ {A : LD} {s : Stand} {r n : Nat} {p : Nat × Sg} (h : (waitsAt s r)[n]? = some p) : initRoad A s r (n + 1) = putL (initRoad A s r n) (r, p.1) (none, none) := by
  unfold initRoad
  rw [Wd.take_snoc h, List.foldl_append]
  rfl
theorem initTo_succ (s : Stand) (n : Nat) : initTo s (n + 1) = initRoad (initTo s n) s n (waitsAt s n).length := by
  unfold initTo
  rw [List.range_succ, List.foldl_append]
  rfl
/-- what adding does, told by members -/
structure Adds (A A' : LD) (t : Nat) (P : LK → Prop) : Prop where
  from_ : ∀ en ∈ A', (en ∈ A ∧ ¬ P en.1) ∨ (P en.1 ∧ en.2 = (some t, none))
  old : ∀ en ∈ A, ¬ P en.1 → en ∈ A'
  new : ∀ k, P k → (k, (some t, none)) ∈ A'
  nd : (A.map (·.1)).Nodup → (A'.map (·.1)).Nodup
theorem adds_road (A : LD) (t r lo : Nat) : ∀ n, Adds A (addRoad A t r lo n) t fun k => k.1 = r ∧ lo ≤ k.2 ∧ k.2 < lo + n
  | 0 => ⟨fun en h => .inl ⟨h, by omega⟩, fun en h _ => h, fun k h => by omega, fun h => h⟩
  | n + 1 => by
    have ih := adds_road A t r lo n
    rw [addRoad_succ]
    refine ⟨fun en h => ?_, fun en h hn => ?_, fun k hk => ?_, fun h => putL_nodup (ih.nd h)⟩
    · rcases mem_putL h with rfl | ⟨h1, h2⟩
      · exact .inr ⟨⟨rfl, by show lo ≤ lo + n; omega, by show lo + n < lo + (n + 1); omega⟩, rfl⟩
      · rcases ih.from_ en h1 with ⟨h3, h4⟩ | ⟨h3, h4⟩
        · refine .inl ⟨h3, fun z => ?_⟩
          by_cases hz : en.1.2 = lo + n
          · exact h2 (Prod.ext z.1 hz)
          · exact h4 ⟨z.1, z.2.1, by omega⟩
        · exact .inr ⟨⟨h3.1, h3.2.1, by omega⟩, h4⟩
    · refine putL_old (ih.old en h fun z => hn ⟨z.1, z.2.1, by omega⟩) fun z => hn ?_
      rw [z]
      exact ⟨rfl, by show lo ≤ lo + n; omega, by show lo + n < lo + (n + 1); omega⟩
    · by_cases hz : k = (r, lo + n)
      · rw [hz]
        exact putL_new _ _ _
      · refine putL_old (ih.new k ⟨hk.1, hk.2.1, ?_⟩) hz
        by_cases h2 : k.2 = lo + n
        · exact absurd (Prod.ext hk.1 h2) hz
        · omega
theorem adds_to (A : LD) (t : Nat) (s s' : Stand) (hle : ∀ r, sentAt s r ≤ sentAt s' r) : ∀ n, Adds A (addTo A t s s' n) t fun k => k.1 < n ∧ sentAt s k.1 ≤ k.2 ∧ k.2 < sentAt s' k.1
  | 0 => ⟨fun en h => .inl ⟨h, by omega⟩, fun en h _ => h, fun k h => by omega, fun h => h⟩
  | n + 1 => by
    have ih := adds_to A t s s' hle n
    have ir := adds_road (addTo A t s s' n) t n (sentAt s n) (sentAt s' n - sentAt s n)
    have hn := hle n
    have hsum : sentAt s n + (sentAt s' n - sentAt s n) = sentAt s' n := by omega
    rw [hsum] at ir
    rw [addTo_succ]
    refine ⟨fun en h => ?_, fun en h hnp => ?_, fun k hk => ?_, fun h => ir.nd (ih.nd h)⟩
    · rcases ir.from_ en h with ⟨h1, h2⟩ | ⟨h1, h2⟩
      · rcases ih.from_ en h1 with ⟨h3, h4⟩ | ⟨h3, h4⟩
        · refine .inl ⟨h3, fun z => ?_⟩
          by_cases hz : en.1.1 = n
          · rw [hz] at z
            exact h2 ⟨hz, z.2.1, z.2.2⟩
          · exact h4 ⟨by omega, z.2⟩
        · exact .inr ⟨⟨by omega, h3.2⟩, h4⟩
      · refine .inr ⟨?_, h2⟩
        rw [h1.1]
        exact ⟨by omega, h1.2⟩
    · refine ir.old en (ih.old en h fun z => hnp ⟨by omega, z.2⟩) fun z => hnp ?_
      rw [z.1]
      exact ⟨by omega, z.2⟩
    · by_cases hz : k.1 = n
      · rw [hz] at hk
        exact ir.new k ⟨hz, hk.2⟩
      · refine ir.old _ (ih.new k ⟨by omega, hk.2⟩) fun z => hz z.1
namespace Run
variable {W : Wd} {log : List Ev}
structure LOk (W : Wd) (log : List Ev) (t : Nat) (A : LD) : Prop where
  d0 : ∀ en ∈ A, en.1.1 < W.f.roads.length ∧ en.1.2 < W.sentBy en.1.1 (posOf W.f (log.take t) (oneAt W.f en.1.1))
  dn : ∀ en ∈ A, en.2.1 = none → en.1.2 < sentAt W.base en.1.1
  ds : ∀ en ∈ A, ∀ j, en.2.1 = some j → j < t ∧ ∃ e, log[j]? = some e ∧ machineOf W.f e.1 = oneAt W.f en.1.1 ∧ W.sentBy en.1.1 (posOf W.f (log.take j) (oneAt W.f en.1.1)) ≤ en.1.2 ∧ en.1.2 < W.sentBy en.1.1 (posOf W.f (log.take j) (oneAt W.f en.1.1) + 1)
  dc : ∀ en ∈ A, ∀ j, en.2.2 = some j → j < t ∧ ∃ e, log[j]? = some e ∧ e.1 = .come en.1.1 en.1.2
  d2 : ∀ j, j < t → ∀ e, log[j]? = some e → ∀ r k, e.1 = .come r k → ∃ en ∈ A, en.1 = (r, k) ∧ en.2.2 = some j
  d3 : ∀ r, r < W.f.roads.length → ∀ p ∈ waitsAt (W.posStand (posOf W.f (log.take t))) r, ∃ en ∈ A, en.1 = (r, p.1)
  nd : (A.map (·.1)).Nodup
theorem init_mem (s : Stand) : ∀ n, (∀ en ∈ initTo s n, en.1.1 < n ∧ en.2 = (none, none) ∧ ∃ p ∈ waitsAt s en.1.1, en.1.2 = p.1) ∧ (∀ r, r < n → ∀ p ∈ waitsAt s r, ((r, p.1), (none, none)) ∈ initTo s n) ∧ ((initTo s n).map (·.1)).Nodup
  | 0 => ⟨fun en h => absurd h (by simp [initTo]), fun r h => by omega, by simp [initTo]⟩
  | n + 1 => by
    obtain ⟨i1, i2, i3⟩ := init_mem s n
    have road : ∀ k, k ≤ (waitsAt s n).length → (∀ en ∈ initRoad (initTo s n) s n k, en.1.1 < n + 1 ∧ en.2 = (none, none) ∧ ∃ p ∈ waitsAt s en.1.1, en.1.2 = p.1) ∧
        (∀ en ∈ initTo s n, en ∈ initRoad (initTo s n) s n k) ∧ (∀ p ∈ (waitsAt s n).take k, ((n, p.1), (none, none)) ∈ initRoad (initTo s n) s n k) ∧ ((initRoad (initTo s n) s n k).map (·.1)).Nodup := by
      intro k
      induction k with
      | zero =>
        intro _
        exact ⟨fun en h => by obtain ⟨a, b⟩ := i1 en h; exact ⟨by omega, b⟩, fun en h => h, fun p h => absurd h (by simp), i3⟩
      | succ k ih =>
        intro hk
        obtain ⟨j1, j2, j3, j4⟩ := ih (Nat.le_of_lt hk)
        have he : (waitsAt s n)[k]? = some (waitsAt s n)[k] := List.getElem?_eq_getElem hk
        have hm : (waitsAt s n)[k] ∈ waitsAt s n := List.getElem_mem hk
        rw [initRoad_succ he]
        refine ⟨fun en h => ?_, fun en h => ?_, fun p hp => ?_, putL_nodup j4⟩
        · rcases mem_putL h with rfl | ⟨h1, _⟩
          · exact ⟨Nat.lt_succ_self n, rfl, _, hm, rfl⟩
          · exact j1 en h1
        · refine putL_old (j2 en h) fun z => ?_
          have := (i1 en h).1
          rw [z] at this
          exact Nat.lt_irrefl _ this
        · rw [Wd.take_snoc he] at hp
          by_cases hz : ((n, p.1) : LK) = (n, (waitsAt s n)[k].1)
          · rw [hz]
            exact putL_new _ _ _
          · rcases List.mem_append.mp hp with hp | hp
            · exact putL_old (j3 p hp) hz
            · have : p = (waitsAt s n)[k] := by simpa using hp
              exact absurd (by rw [this]) hz
    obtain ⟨j1, j2, j3, j4⟩ := road (waitsAt s n).length (Nat.le_refl _)
    rw [initTo_succ]
    refine ⟨j1, fun r hr p hp => ?_, j4⟩
    by_cases hz : r = n
    · subst hz
      exact j3 p (by rw [List.take_length]; exact hp)
    · exact j2 _ (i2 r (by omega) p hp)
theorem letters_ok (R : Run W log) : ∀ t, t ≤ log.length → LOk W log t (lettersAt W.f W.base log t)
  | 0, _ => by
    obtain ⟨i1, i2, i3⟩ := init_mem W.base W.f.roads.length
    have z : posOf W.f (log.take 0) = fun _ => 0 := by
      funext m
      rfl
    refine ⟨fun en h => ?_, fun en h _ => ?_, fun en h j hj => ?_, fun en h j hj => ?_, fun j hj => by omega, fun r hr p hp => ?_, i3⟩
    · obtain ⟨a, _, p, hp, e⟩ := i1 en h
      refine ⟨a, ?_⟩
      rw [e]
      exact Nat.lt_of_lt_of_le (R.ok.wt _ p hp) (Nat.le_add_right _ _)
    · obtain ⟨a, _, p, hp, e⟩ := i1 en h
      rw [e]
      exact R.ok.wt _ p hp
    · rw [(i1 en h).2.1] at hj
      cases hj
    · rw [(i1 en h).2.1] at hj
      cases hj
    · rw [z, Wd.pos_zero R.ok] at hp
      exact ⟨_, i2 r hr p hp, rfl⟩
  | t + 1, h => by
    have ih := R.letters_ok t (Nat.le_of_lt h)
    have hl : log[t]? = some log[t] := List.getElem?_eq_getElem h
    have e0 : lettersAt W.f W.base log (t + 1) = addTo (comeL (lettersAt W.f W.base log t) t log[t].1) t (after W.f W.base (log.take t)) (after W.f W.base (log.take (t + 1))) W.f.roads.length := by
      show (match log[t]? with
        | some e => addTo (comeL (lettersAt W.f W.base log t) t e.1) t (after W.f W.base (log.take t)) (after W.f W.base (log.take (t + 1))) W.f.roads.length
        | none => lettersAt W.f W.base log t) = _
      rw [hl]
    rw [e0]
    generalize lettersAt W.f W.base log t = A at ih ⊢
    obtain ⟨r0, p0⟩ := R.pos t (Nat.le_of_lt h)
    obtain ⟨r1, p1⟩ := R.pos (t + 1) h
    rw [p0, p1]
    have ans := R.answers hl
    have eo := R.ev hl
    have mono : ∀ m, posOf W.f (log.take t) m ≤ posOf W.f (log.take (t + 1)) m := fun m => pos_mono W.f log m (Nat.le_succ t)
    have hsent : ∀ c r, ¬ r < W.f.roads.length → sentAt (W.posStand c) r = 0 := fun c r hr => by
      unfold sentAt
      rw [Wd.pos_load_none hr]
    have hle : ∀ r, sentAt (W.posStand (posOf W.f (log.take t))) r ≤ sentAt (W.posStand (posOf W.f (log.take (t + 1)))) r := fun r => by
      by_cases hr : r < W.f.roads.length
      · rw [Wd.pos_sent hr, Wd.pos_sent hr]
        exact Wd.sentBy_mono (mono _)
      · rw [hsent _ r hr]
        exact Nat.zero_le _
    -- the coming letter
    have hcome : ∀ r k, log[t].1 = .come r k → ∃ v, lookL A (r, k) = some v ∧ r < W.f.roads.length := fun r k hd => by
      have de := eo.de
      rw [hd] at de ans
      obtain ⟨cs, q1, _⟩ := Option.bind_eq_some_iff.mp ans
      obtain ⟨x, q2, _⟩ := Option.map_eq_some_iff.mp q1
      have hx : x.1 = k := by simpa using List.find?_some q2
      have hm : x ∈ waitsAt (W.posStand (posOf W.f (log.take t))) r := by
        have := List.mem_of_find?_eq_some q2
        unfold heads at this
        split at this
        · exact List.mem_of_mem_take this
        · exact this
      obtain ⟨en, he, hk⟩ := ih.d3 r de x hm
      obtain ⟨v, hv⟩ := lookL_some he
      rw [hk, hx] at hv
      exact ⟨v, hv, de⟩
    have hnew : ∀ r k, log[t].1 = .come r k → ∀ j, j < t → ∀ e, log[j]? = some e → e.1 ≠ .come r k := fun r k hd j hj e he hz => by
      have de := eo.de
      rw [hd] at de ans
      obtain ⟨cs, q1, _⟩ := Option.bind_eq_some_iff.mp ans
      obtain ⟨x, q2, _⟩ := Option.map_eq_some_iff.mp q1
      have hx : x.1 = k := by simpa using List.find?_some q2
      have hm : x ∈ waitsAt (W.posStand (posOf W.f (log.take t))) r := by
        have := List.mem_of_find?_eq_some q2
        unfold heads at this
        split at this
        · exact List.mem_of_mem_take this
        · exact this
      rw [Wd.pos_waits de] at hm
      have hnc := of_decide_eq_true (List.mem_filter.mp hm).2
      refine hnc ?_
      rw [hx]
      have ha := R.at_ he
      rw [hz] at ha
      have hc := Wd.came_succ (W := W) (r := r) rfl ha
      have h1 : k ∈ W.came r (posOf W.f (log.take j) (otherAt W.f r) + 1) := by
        have hc' : W.came r (posOf W.f (log.take j) (otherAt W.f r) + 1) = _ := hc
        rw [hc', hz]
        exact List.mem_append_right _ (by simp [comesOf])
      refine Wd.came_mono ?_ h1
      have h2 : posOf W.f (log.take (j + 1)) (otherAt W.f r) = posOf W.f (log.take j) (otherAt W.f r) + 1 := by
        rw [Wd.take_snoc he, posOf_snoc, hz]
        exact inc_same _ _
      rw [← h2]
      exact pos_mono W.f log _ hj
    have C : LOk W log t (comeL A t log[t].1) ∨ True := .inr trivial
    -- the list behind the coming
    have hB : (∀ en ∈ comeL A t log[t].1, (en ∈ A) ∨ ∃ r k v, log[t].1 = .come r k ∧ lookL A (r, k) = some v ∧ en = ((r, k), (v.1, some t))) ∧
        (∀ en ∈ A, (∀ r k, log[t].1 = .come r k → en.1 ≠ (r, k)) → en ∈ comeL A t log[t].1) ∧ (∀ r k, log[t].1 = .come r k → ∃ en ∈ comeL A t log[t].1, en.1 = (r, k) ∧ en.2.2 = some t) ∧ ((comeL A t log[t].1).map (·.1)).Nodup := by
      cases hd : log[t].1 with
      | own m => exact ⟨fun en h => .inl h, fun en h _ => h, fun r k z => (nomatch z), ih.nd⟩
      | hear m g => exact ⟨fun en h => .inl h, fun en h _ => h, fun r k z => (nomatch z), ih.nd⟩
      | come r k =>
        obtain ⟨v, hv, _⟩ := hcome r k hd
        refine ⟨fun en h => ?_, fun en h hn => putL_old h (hn r k rfl), fun r' k' z => ?_, putL_nodup ih.nd⟩
        · have h' : en ∈ putL A (r, k) (((lookL A (r, k)).getD (none, none)).1, some t) := h
          rw [hv] at h'
          rcases mem_putL h' with rfl | ⟨h1, _⟩
          · exact .inr ⟨r, k, v, rfl, hv, rfl⟩
          · exact .inl h1
        · cases z
          refine ⟨_, putL_new _ _ _, rfl, rfl⟩
    obtain ⟨b1, b2, b3, b4⟩ := hB
    have ad := adds_to (comeL A t log[t].1) t _ _ hle W.f.roads.length
    have small : ∀ en ∈ comeL A t log[t].1, en.1.1 < W.f.roads.length ∧ en.1.2 < W.sentBy en.1.1 (posOf W.f (log.take t) (oneAt W.f en.1.1)) := fun en h => by
      rcases b1 en h with h1 | ⟨r, k, v, _, hv, rfl⟩
      · exact ih.d0 en h1
      · exact ih.d0 ((r, k), v) (lookL_mem hv)
    have nP : ∀ en ∈ comeL A t log[t].1, ¬ (en.1.1 < W.f.roads.length ∧ sentAt (W.posStand (posOf W.f (log.take t))) en.1.1 ≤ en.1.2 ∧ en.1.2 < sentAt (W.posStand (posOf W.f (log.take (t + 1)))) en.1.1) := fun en h z => by
      have h1 := (small en h).2
      have h2 := z.2.1
      rw [Wd.pos_sent z.1] at h2
      omega
    have one_of : ∀ r k, r < W.f.roads.length → W.sentBy r (posOf W.f (log.take t) (oneAt W.f r)) ≤ k → k < W.sentBy r (posOf W.f (log.take (t + 1)) (oneAt W.f r)) → machineOf W.f log[t].1 = oneAt W.f r := fun r k _ h1 h2 => by
      by_cases hm : oneAt W.f r = machineOf W.f log[t].1
      · exact hm.symm
      · rw [Wd.take_snoc hl, posOf_snoc, inc_ne hm] at h2
        omega
    refine ⟨fun en h => ?_, fun en h hn => ?_, fun en h j hj => ?_, fun en h j hj => ?_, fun j hj e he r k hd => ?_, fun r hr p hp => ?_, ad.nd b4⟩
    · rcases ad.from_ en h with ⟨h1, _⟩ | ⟨h1, _⟩
      · obtain ⟨a1, a2⟩ := small en h1
        exact ⟨a1, Nat.lt_of_lt_of_le a2 (Wd.sentBy_mono (mono _))⟩
      · have := h1.2.2
        rw [Wd.pos_sent h1.1] at this
        exact ⟨h1.1, this⟩
    · rcases ad.from_ en h with ⟨h1, _⟩ | ⟨h1, h2⟩
      · rcases b1 en h1 with h1 | ⟨r, k, v, _, hv, rfl⟩
        · exact ih.dn en h1 hn
        · exact ih.dn ((r, k), v) (lookL_mem hv) hn
      · rw [h2] at hn
        cases hn
    · rcases ad.from_ en h with ⟨h1, _⟩ | ⟨h1, h2⟩
      · rcases b1 en h1 with h1 | ⟨r, k, v, _, hv, rfl⟩
        · obtain ⟨a, b⟩ := ih.ds en h1 j hj
          exact ⟨by omega, b⟩
        · obtain ⟨a, b⟩ := ih.ds ((r, k), v) (lookL_mem hv) j hj
          exact ⟨by omega, b⟩
      · rw [h2] at hj
        have : t = j := Option.some.inj hj
        subst this
        obtain ⟨q0, q1, q2⟩ := h1
        rw [Wd.pos_sent q0] at q1 q2
        have om := one_of _ _ q0 q1 q2
        refine ⟨Nat.lt_succ_self _, _, hl, om, q1, ?_⟩
        have e2 : posOf W.f (log.take (t + 1)) (oneAt W.f en.1.1) = posOf W.f (log.take t) (oneAt W.f en.1.1) + 1 := by
          rw [Wd.take_snoc hl, posOf_snoc, om]
          exact inc_same _ _
        rw [← e2]
        exact q2
    · rcases ad.from_ en h with ⟨h1, _⟩ | ⟨h1, h2⟩
      · rcases b1 en h1 with h1 | ⟨r, k, v, hd, hv, rfl⟩
        · obtain ⟨a, b⟩ := ih.dc en h1 j hj
          exact ⟨by omega, b⟩
        · have : t = j := Option.some.inj hj
          subst this
          exact ⟨Nat.lt_succ_self _, _, hl, hd⟩
      · rw [h2] at hj
        cases hj
    · by_cases hjt : j = t
      · subst hjt
        rw [hl] at he
        have he := Option.some.inj he
        subst he
        obtain ⟨en, h1, h2, h3⟩ := b3 r k hd
        exact ⟨en, ad.old en h1 (nP en h1), h2, h3⟩
      · obtain ⟨en, h1, h2, h3⟩ := ih.d2 j (by omega) e he r k hd
        have h4 : en ∈ comeL A t log[t].1 := b2 en h1 fun r' k' z hz => by
          have hk : ((r, k) : LK) = (r', k') := h2.symm.trans hz
          injection hk with hk1 hk2
          subst hk1 hk2
          exact hnew r k z j (by omega) e he hd
        exact ⟨en, ad.old en h4 (nP en h4), h2, h3⟩
    · rw [Wd.pos_waits hr] at hp
      obtain ⟨hp1, hp2⟩ := List.mem_filter.mp hp
      have hp2 := of_decide_eq_true hp2
      by_cases hold : p.1 < W.sentBy r (posOf W.f (log.take t) (oneAt W.f r))
      · have hpo : p ∈ waitsAt (W.posStand (posOf W.f (log.take t))) r := by
          rw [Wd.pos_waits hr]
          obtain ⟨tl, e1, e2⟩ := Wd.lets_more (W := W) (r := r) (mono (oneAt W.f r))
          rw [e1] at hp1
          refine List.mem_filter.mpr ⟨?_, decide_eq_true fun z => hp2 (Wd.came_mono (mono _) z)⟩
          rcases List.mem_append.mp hp1 with z | z
          · exact z
          · have := e2 p z
            omega
        obtain ⟨en, h1, h2⟩ := ih.d3 r hr p hpo
        by_cases hz : ∃ k, log[t].1 = .come r k ∧ p.1 = k
        · obtain ⟨k, hd, hk⟩ := hz
          obtain ⟨en', h1', h2', _⟩ := b3 r k hd
          exact ⟨en', ad.old en' h1' (nP en' h1'), by rw [h2', hk]⟩
        · have h4 : en ∈ comeL A t log[t].1 := b2 en h1 fun r' k' z hz' => by
            have hk : ((r, p.1) : LK) = (r', k') := h2.symm.trans hz'
            injection hk with hk1 hk2
            subst hk1
            exact hz ⟨k', z, hk2⟩
          exact ⟨en, ad.old en h4 (nP en h4), h2⟩
      · have hlt := Wd.lets_bound R.ok hp1
        refine ⟨_, ad.new (r, p.1) ⟨hr, ?_, ?_⟩, rfl⟩
        · rw [Wd.pos_sent hr]
          exact Nat.le_of_not_lt hold
        · rw [Wd.pos_sent hr]
          exact hlt
/-- no letter came in the cut that was not sent in it -/
def RightL (evs : List (Nat × Nat)) (cut : Nat → Nat) (A : LD) : Prop := ∀ en ∈ A, ∀ j, en.2.2 = some j → inCut evs cut j = true → ∀ j', en.2.1 = some j' → inCut evs cut j' = true
theorem inCut_iff (R : Run W log) {cut : Nat → Nat} {j : Nat} {e : Ev} (h : log[j]? = some e) : inCut (eventsOf W.f (dsOf log)) cut j = true ↔ posOf W.f (log.take j) (machineOf W.f e.1) < cut (machineOf W.f e.1) := by
  unfold inCut
  rw [R.events_ev h]
  simp
theorem right_iff (R : Run W log) {cut : Nat → Nat} (hc : ∀ m, cut m ≤ posOf W.f log m) : RightL (eventsOf W.f (dsOf log)) cut (lettersAt W.f W.base log log.length) ↔ W.Right cut := by
  have L := R.letters_ok log.length (Nat.le_refl _)
  refine ⟨fun h r hr k hk => ?_, fun h en hen j hj hin j' hj' => ?_⟩
  · obtain ⟨ev, hev, hk'⟩ := List.mem_flatMap.mp hk
    obtain ⟨i, hi⟩ := List.getElem?_of_mem hev
    have hic : i < cut (otherAt W.f r) := by
      by_cases hlt : i < cut (otherAt W.f r)
      · exact hlt
      · rw [List.getElem?_take_eq_none (by omega)] at hi
        cases hi
    rw [List.getElem?_take_of_lt hic, R.mine] at hi
    obtain ⟨j, hj, hp, hn⟩ := at_filter hi
    have hma : machineOf W.f ev.1 = otherAt W.f r := of_decide_eq_true hp
    have hd : ev.1 = .come r k := by
      cases hd : ev.1 with
      | own x => rw [hd] at hk'; exact absurd hk' (by simp [comesOf])
      | hear x g => rw [hd] at hk'; exact absurd hk' (by simp [comesOf])
      | come r' k' =>
        rw [hd] at hk'
        by_cases hr' : r' = r
        · subst hr'
          have : k = k' := by simpa [comesOf] using hk'
          rw [this]
        · exact absurd hk' (by simp [comesOf, hr'])
    obtain ⟨en, hen, hkey, hcame⟩ := L.d2 j (List.getElem?_eq_some_iff.mp hj).1 ev hj r k hd
    have hin : inCut (eventsOf W.f (dsOf log)) cut j = true := by
      rw [R.inCut_iff hj, hma]
      show ((log.take j).filter fun e => decide (machineOf W.f e.1 = otherAt W.f r)).length < _
      rw [hn]
      exact hic
    cases hs : en.2.1 with
    | none =>
      have := L.dn en hen hs
      rw [hkey] at this
      exact Nat.lt_of_lt_of_le this (Nat.le_add_right _ _)
    | some j' =>
      have h2 := h en hen j hcame hin j' hs
      obtain ⟨_, e', he', hm', q1, q2⟩ := L.ds en hen j' hs
      rw [R.inCut_iff he', hm'] at h2
      rw [hkey] at q1 q2 h2
      exact Nat.lt_of_lt_of_le q2 (Wd.sentBy_mono h2)
  · obtain ⟨_, ev, hev, hd⟩ := L.dc en hen j hj
    obtain ⟨_, e', he', hm', q1, q2⟩ := L.ds en hen j' hj'
    obtain ⟨hr, _⟩ := L.d0 en hen
    rw [R.inCut_iff hev, hd] at hin
    rw [R.inCut_iff he', hm']
    have ha := R.at_ hev
    rw [hd] at ha
    have hcm : en.1.2 ∈ W.came en.1.1 (posOf W.f (log.take j) (otherAt W.f en.1.1) + 1) := by
      have hc := Wd.came_succ (W := W) (r := en.1.1) rfl ha
      have hc' : W.came en.1.1 (posOf W.f (log.take j) (otherAt W.f en.1.1) + 1) = _ := hc
      rw [hc', hd]
      exact List.mem_append_right _ (by simp [comesOf])
    have hlt := h en.1.1 hr en.1.2 (Wd.came_mono hin hcm)
    by_cases hz : posOf W.f (log.take j') (oneAt W.f en.1.1) < cut (oneAt W.f en.1.1)
    · exact hz
    · have := Wd.sentBy_mono (W := W) (r := en.1.1) (Nat.le_of_not_lt hz)
      omega
end Run
end Ct

/-! # CtMath7 -/
namespace Ct
open PySem (Str)
/-! ### stands as they may be -/
def Fit (f : Form) (s : Stand) : Prop := s.states.length = f.rules.length ∧ s.loads.length = f.roads.length
structure LoadOk (row : Bool) (n : Nat) (l : Load) : Prop where
  lt : ∀ p ∈ l.waiting, p.1 < l.sent
  up : (l.waiting.map (·.1)).Pairwise (· < ·)
  row : row = true → l.waiting.map (·.1) = List.range' (l.sent - l.waiting.length) l.waiting.length
  wn : l.waiting.length ≤ n
  sn : l.sent ≤ n
  ws : l.waiting.length ≤ l.sent
structure StOk (f : Form) (n : Nat) (s : Stand) : Prop where
  fit : Fit f s
  st : ∀ x ∈ s.states, x ≤ 2
  ld : ∀ r l, s.loads[r]? = some l → LoadOk (rowAt f r) n l
theorem movesAt_ok {f : Form} (ok : FormOk f) {m : Nat} {mv : Move} (h : mv ∈ movesAt f m) : MoveOk f m mv := by
  unfold movesAt at h
  split at h
  · rename_i r hr
    exact (ok.rule m r hr).2.2 mv h
  · cases h
theorem stateOf_le {f : Form} {n : Nat} {s : Stand} (hs : StOk f n s) (m : Nat) : stateOf s m ≤ 2 := by
  unfold stateOf
  rw [List.getD_eq_getElem?_getD]
  cases h : s.states[m]? with
  | none => exact Nat.zero_le _
  | some x => exact hs.st _ (List.mem_of_getElem? h)
theorem ans_ok {f : Form} {n : Nat} {s : Stand} {d : Deed} {a : Ans} (ok : FormOk f) (hs : StOk f n s) (h : answered f s d = some a) : a.1 ≤ 2 ∧ a.2.1.length ≤ 2 ∧ ∀ p ∈ a.2.1, p.1 < f.roads.length ∧ oneAt f p.1 = machineOf f d := by
  unfold answered at h
  obtain ⟨c, _, h⟩ := Option.bind_eq_some_iff.mp h
  unfold answerOf at h
  split at h
  · rename_i mv hm
    cases h
    have k := movesAt_ok ok (List.mem_of_find?_eq_some hm)
    exact ⟨k.nx, k.sl, k.sd⟩
  · cases c with
    | own => cases h
    | sg g =>
      cases h
      exact ⟨stateOf_le hs _, by simp, fun p hp => by cases hp⟩
theorem numbered_map : ∀ (n : Nat) (l : List Sg), (numbered n l).map (·.1) = List.range' n l.length
  | _, [] => rfl
  | n, g :: r => by
    show n :: (numbered (n + 1) r).map (·.1) = _
    rw [numbered_map (n + 1) r]
    rfl
theorem numbered_len : ∀ (n : Nat) (l : List Sg), (numbered n l).length = l.length
  | _, [] => rfl
  | n, g :: r => congrArg (· + 1) (numbered_len (n + 1) r)
theorem range'_up : ∀ (n a : Nat), (List.range' a n).Pairwise (· < ·)
  | 0, _ => .nil
  | n + 1, a => by
    rw [List.range'_succ]
    refine .cons (fun x hx => ?_) (range'_up n (a + 1))
    have := (List.mem_range'_1.mp hx).1
    omega
theorem onRoad_len (r : Nat) (ps : List (Nat × Sg)) : (onRoad r ps).length ≤ ps.length := by
  unfold onRoad
  rw [List.length_map]
  exact List.length_filter_le _ _
/-- what a come takes from a row is its head -/
theorem come_row {f : Form} {s : Stand} {d : Deed} {a : Ans} {r : Nat} {l : Load} (h : answered f s d = some a) (hl : s.loads[r]? = some l) (hr : rowAt f r = true) (up : (l.waiting.map (·.1)).Pairwise (· < ·)) :
    (∃ p, l.waiting = p :: l.waiting.filter fun p => decide (p.1 ∉ comesOf r d)) ∨ (l.waiting.filter fun p => decide (p.1 ∉ comesOf r d)) = l.waiting := by
  have triv : comesOf r d = [] → (l.waiting.filter fun p => decide (p.1 ∉ comesOf r d)) = l.waiting := fun z => by
    rw [z]
    exact List.filter_eq_self.mpr fun p _ => by simp
  cases d with
  | own m => exact .inr (triv rfl)
  | hear m g => exact .inr (triv rfl)
  | come r' k =>
    by_cases e : r' = r
    · subst e
      unfold answered at h
      obtain ⟨c, hc, _⟩ := Option.bind_eq_some_iff.mp h
      have hw : waitsAt s r' = l.waiting := by unfold waitsAt; rw [hl]
      have hc : ((heads (rowAt f r') (waitsAt s r')).find? fun p => decide (p.1 = k)).map (fun p => Cs.sg p.2) = some c := hc
      rw [hr, hw] at hc
      obtain ⟨p, hp, _⟩ := Option.map_eq_some_iff.mp hc
      cases hq : l.waiting with
      | nil => rw [hq] at hp; cases hp
      | cons x t =>
        rw [hq] at hp
        have hm := List.mem_of_find?_eq_some hp
        have hx : p = x := by simpa [heads] using hm
        have hk : p.1 = k := by simpa using List.find?_some hp
        subst hx
        have ec : comesOf r' (.come r' k) = [k] := if_pos rfl
        refine .inl ⟨p, ?_⟩
        rw [ec, List.filter_cons, if_neg (by simp [hk])]
        congr 1
        symm
        refine List.filter_eq_self.mpr fun y hy => ?_
        rw [hq, List.map_cons, List.pairwise_cons] at up
        have := up.1 y.1 (List.mem_map.mpr ⟨y, hy, rfl⟩)
        simp
        omega
    · exact .inr (triv (if_neg e))
theorem stOk_apply {f : Form} {n : Nat} {s : Stand} {d : Deed} {a : Ans} (ok : FormOk f) (hs : StOk f n s) (h : answered f s d = some a) : StOk f (n + 2) (applyA f s d a) := by
  obtain ⟨a1, a2, a3⟩ := ans_ok ok hs h
  obtain ⟨l1, l2⟩ := applyA_length f s d a
  refine ⟨⟨l2.trans hs.fit.1, l1.trans hs.fit.2⟩, fun x hx => ?_, fun r l hl => ?_⟩
  · rcases List.mem_or_eq_of_mem_set (show x ∈ s.states.set (machineOf f d) a.1 from hx) with h1 | h1
    · exact hs.st x h1
    · rw [h1]
      exact a1
  · rw [applyA_load] at hl
    obtain ⟨l0, h0, e⟩ := Option.map_eq_some_iff.mp hl
    have k := hs.ld r l0 h0
    have hfl := List.length_filter_le (fun p : Nat × Sg => decide (p.1 ∉ comesOf r d)) l0.waiting
    have hon := Nat.le_trans (onRoad_len r a.2.1) a2
    subst e
    refine ⟨fun p hp => ?_, ?_, fun hrow => ?_, ?_, ?_, ?_⟩
    · rcases List.mem_append.mp hp with hp | hp
      · have := k.lt p (List.mem_filter.mp hp).1
        show p.1 < l0.sent + _
        omega
      · exact (numbered_bound hp).2
    · show ((l0.waiting.filter _ ++ numbered _ _).map (·.1)).Pairwise (· < ·)
      rw [List.map_append, List.pairwise_append]
      refine ⟨?_, ?_, fun x hx y hy => ?_⟩
      · exact k.up.sublist (List.Sublist.map _ (List.filter_sublist ..))
      · rw [numbered_map]
        exact range'_up _ _
      · obtain ⟨p, hp, rfl⟩ := List.mem_map.mp hx
        obtain ⟨p', hp', rfl⟩ := List.mem_map.mp hy
        have := k.lt p (List.mem_filter.mp hp).1
        have := (numbered_bound hp').1
        omega
    · show (l0.waiting.filter _ ++ numbered _ _).map (·.1) = List.range' (l0.sent + _ - _) _
      rw [List.map_append, numbered_map, List.length_append, numbered_len]
      have key : (l0.waiting.filter fun p => decide (p.1 ∉ comesOf r d)).map (·.1) = List.range' (l0.sent - (l0.waiting.filter fun p => decide (p.1 ∉ comesOf r d)).length) (l0.waiting.filter fun p => decide (p.1 ∉ comesOf r d)).length := by
        rcases come_row h h0 hrow k.up with ⟨p, hp⟩ | hp
        · have hk := k.row hrow
          generalize (l0.waiting.filter fun p => decide (p.1 ∉ comesOf r d)) = w at hp
          have hws := k.ws
          rw [hp] at hk hws
          rw [List.map_cons, List.length_cons, List.range'_succ] at hk
          have hk2 := (List.cons.inj hk).2
          rw [hk2]
          congr 1
          rw [List.length_cons] at hws
          omega
        · rw [hp]
          exact k.row hrow
      have hws := k.ws
      generalize (l0.waiting.filter fun p => decide (p.1 ∉ comesOf r d)) = w at key hfl
      rw [key]
      have e1 : l0.sent + (onRoad r a.2.1).length - (w.length + (onRoad r a.2.1).length) = l0.sent - w.length := by omega
      rw [e1, ← List.range'_append_1]
      congr 2
      omega
    · show (l0.waiting.filter _ ++ numbered _ _).length ≤ n + 2
      rw [List.length_append, numbered_len]
      have := k.wn
      omega
    · show l0.sent + _ ≤ n + 2
      have := k.sn
      omega
    · show (l0.waiting.filter _ ++ numbered _ _).length ≤ l0.sent + _
      rw [List.length_append, numbered_len]
      have := k.ws
      omega
theorem LoadOk.mono {row : Bool} {n m : Nat} {l : Load} (h : LoadOk row n l) (hm : n ≤ m) : LoadOk row m l := ⟨h.lt, h.up, h.row, Nat.le_trans h.wn hm, Nat.le_trans h.sn hm, h.ws⟩
theorem StOk.mono {f : Form} {n m : Nat} {s : Stand} (h : StOk f n s) (hm : n ≤ m) : StOk f m s := ⟨h.fit, h.st, fun r l hl => (h.ld r l hl).mono hm⟩
theorem stOk_after {f : Form} (ok : FormOk f) : ∀ {log : List Ev} {n : Nat} {s : Stand}, StOk f n s → RunLog f s log → StOk f (n + 2 * log.length) (after f s log)
  | [], n, s, h, _ => h
  | e :: l, n, s, h, r => by
    show StOk f (n + 2 * (l.length + 1)) (after f (applyA f s e.1 e.2) l)
    have := stOk_after ok (stOk_apply ok h r.1) r.2
    rw [show n + 2 * (l.length + 1) = n + 2 + 2 * l.length by omega]
    exact this
theorem runLog_take {f : Form} : ∀ {l : List Ev} {s : Stand} (n : Nat), RunLog f s l → RunLog f s (l.take n)
  | _, _, 0, _ => trivial
  | [], _, n + 1, _ => trivial
  | e :: l, s, n + 1, h => ⟨h.1, runLog_take n h.2⟩
/-- a run that may be: with its bounds -/
structure Good (f : Form) (base : Stand) (log : List Ev) : Prop where
  form : FormOk f
  bs : StOk f 10 base
  de : ∀ e ∈ log, DeedOk f e.1
  run : RunLog f base log
  few : log.length ≤ 30
def wdOf (f : Form) (base : Stand) (log : List Ev) : Wd := ⟨f, base, fun m => log.filter fun e => decide (machineOf f e.1 = m)⟩
theorem Good.at_ {f : Form} {base : Stand} {log : List Ev} (g : Good f base log) (n : Nat) : StOk f 70 (after f base (log.take n)) := by
  refine (stOk_after g.form g.bs (runLog_take n g.run)).mono ?_
  have := g.few
  rw [List.length_take]
  omega
theorem Good.ends {f : Form} {base : Stand} {log : List Ev} (g : Good f base log) : StOk f 70 (after f base log) := by
  have := g.at_ log.length
  rw [List.take_length] at this
  exact this
theorem Good.toRun {f : Form} {base : Stand} {log : List Ev} (g : Good f base log) : Run (wdOf f base log) log := by
  refine ⟨⟨g.form, g.bs.fit.1, g.bs.fit.2, fun r p hp => ?_, fun m e he => ?_⟩, fun m => rfl, g.run⟩
  · have hp : p ∈ waitsAt base r := hp
    show p.1 < sentAt base r
    unfold waitsAt at hp
    split at hp
    · rename_i l hl
      have e : sentAt base r = l.sent := by unfold sentAt; rw [hl]
      rw [e]
      exact (g.bs.ld r l hl).lt p hp
    · cases hp
  · obtain ⟨h1, h2⟩ := List.mem_filter.mp he
    have h2 : machineOf f e.1 = m := of_decide_eq_true h2
    obtain ⟨n, hn⟩ := List.mem_iff_getElem?.mp h1
    obtain ⟨_, _, h3⟩ := ans_ok g.form (g.at_ n) (runLog_at g.run hn)
    refine ⟨h2, ?_, g.de e h1, fun p hp => ?_⟩
    · rw [← h2]
      exact machine_lt g.form (g.de e h1)
    · obtain ⟨k1, k2⟩ := h3 p hp
      exact ⟨k1, k2.trans h2⟩
theorem Good.fits {f : Form} {base : Stand} {log : List Ev} (g : Good f base log) (n : Nat) : Fit f (after f base (log.take n)) := (g.at_ n).fit
end Ct

/-! # CtKit -/
namespace Ct
open PySem PySem.Spec PyProof.Rows L2 Evl
/-! ### data in the heap -/
mutual
def IsD (K : PySem.W.Frag) (H : Hp) : PyData → V → Prop
  | .none, v => v = .non
  | .bool b, v => v = .bl b
  | .int i, v => v = .int i
  | .str x, v => v = .str x
  | .list ds, v => ∃ a vs, v = .ref a ∧ SqL K H a vs ∧ IsDs K H ds vs
  | .tuple ds, v => ∃ a vs, v = .ref a ∧ H a = some (.tup vs) ∧ IsDs K H ds vs
  | .dict _, _ => False
def IsDs (K : PySem.W.Frag) (H : Hp) : List PyData → List V → Prop
  | [], vs => vs = []
  | d :: ds, vs => ∃ w ws, vs = w :: ws ∧ IsD K H d w ∧ IsDs K H ds ws
end
mutual
/-- no list within -/
def noL : PyData → Bool
  | .list _ => false
  | .tuple ds => noLs ds
  | .dict _ => false
  | _ => true
def noLs : List PyData → Bool
  | [] => true
  | d :: ds => noL d && noLs ds
end
/-- as it was but at p -/
def Exb (p : Addr) (H H' : Hp) : Prop := ∀ a o, a ≠ p → H a = some o → H' a = some o
section
variable {K : PySem.W.Frag} {H H' H2 : Hp} {p : Addr}
mutual
theorem IsD.ex (e : Ex H H') : ∀ (d : PyData) (v : V), IsD K H d v → IsD K H' d v
  | .none, _, h => h
  | .bool _, _, h => h
  | .int _, _, h => h
  | .str _, _, h => h
  | .list ds, _, h => by
    obtain ⟨a, vs, h1, h2, h3⟩ := h
    exact ⟨a, vs, h1, ex_l e h2, IsDs.ex e ds vs h3⟩
  | .tuple ds, _, h => by
    obtain ⟨a, vs, h1, h2, h3⟩ := h
    exact ⟨a, vs, h1, e a _ h2, IsDs.ex e ds vs h3⟩
  | .dict _, _, h => h.elim
theorem IsDs.ex (e : Ex H H') : ∀ (ds : List PyData) (vs : List V), IsDs K H ds vs → IsDs K H' ds vs
  | [], _, h => h
  | d :: ds, _, h => by
    obtain ⟨w, ws, h1, h2, h3⟩ := h
    exact ⟨w, ws, h1, IsD.ex e d w h2, IsDs.ex e ds ws h3⟩
end
mutual
theorem IsD.exb (e : Exb p H H') (hp : ∀ vs, H p ≠ some (.tup vs)) : ∀ (d : PyData) (v : V), noL d = true → IsD K H d v → IsD K H' d v
  | .none, _, _, h => h
  | .bool _, _, _, h => h
  | .int _, _, _, h => h
  | .str _, _, _, h => h
  | .list ds, _, n, _ => by cases n
  | .tuple ds, _, n, h => by
    obtain ⟨a, vs, h1, h2, h3⟩ := h
    exact ⟨a, vs, h1, e a _ (fun z => hp vs (by rw [← z]; exact h2)) h2, IsDs.exb e hp ds vs n h3⟩
  | .dict _, _, _, h => h.elim
theorem IsDs.exb (e : Exb p H H') (hp : ∀ vs, H p ≠ some (.tup vs)) : ∀ (ds : List PyData) (vs : List V), noLs ds = true → IsDs K H ds vs → IsDs K H' ds vs
  | [], _, _, h => h
  | d :: ds, _, n, h => by
    obtain ⟨w, ws, h1, h2, h3⟩ := h
    have n' : (noL d && noLs ds) = true := n
    obtain ⟨n1, n2⟩ := Bool.and_eq_true_iff.mp n'
    exact ⟨w, ws, h1, IsD.exb e hp d w n1 h2, IsDs.exb e hp ds ws n2 h3⟩
end
theorem IsDs.length : ∀ {ds : List PyData} {vs : List V}, IsDs K H ds vs → vs.length = ds.length
  | [], _, h => by rw [show _ = [] from h]; rfl
  | d :: ds, _, h => by
    obtain ⟨w, ws, rfl, _, h3⟩ := h
    exact congrArg (· + 1) h3.length
theorem IsDs.get : ∀ {ds : List PyData} {vs : List V} {i : Nat} {d : PyData}, IsDs K H ds vs → ds[i]? = some d → ∃ v, vs[i]? = some v ∧ IsD K H d v
  | [], _, _, _, _, h => by simp at h
  | x :: ds, _, 0, d, h, e => by
    obtain ⟨w, ws, rfl, h2, _⟩ := h
    have : x = d := by simpa using e
    subst this
    exact ⟨w, rfl, h2⟩
  | x :: ds, _, i + 1, d, h, e => by
    obtain ⟨w, ws, rfl, _, h3⟩ := h
    obtain ⟨v, q1, q2⟩ := h3.get (i := i) (d := d) (by simpa using e)
    exact ⟨v, by simpa using q1, q2⟩
theorem IsDs.getV {ds : List PyData} {vs : List V} {i : Nat} {v : V} (h : IsDs K H ds vs) (e : vs[i]? = some v) : ∃ d, ds[i]? = some d ∧ IsD K H d v := by
  have hi : i < ds.length := by
    rw [← h.length]
    exact (List.getElem?_eq_some_iff.mp e).1
  obtain ⟨w, q1, q2⟩ := h.get (List.getElem?_eq_getElem hi)
  rw [e] at q1
  cases q1
  exact ⟨_, List.getElem?_eq_getElem hi, q2⟩
theorem IsDs.append : ∀ {ds es : List PyData} {vs ws : List V}, IsDs K H ds vs → IsDs K H es ws → IsDs K H (ds ++ es) (vs ++ ws)
  | [], _, _, _, h, h' => by rw [show _ = [] from h]; exact h'
  | d :: ds, es, _, ws, h, h' => by
    obtain ⟨w, xs, rfl, h2, h3⟩ := h
    exact ⟨w, xs ++ ws, rfl, h2, h3.append h'⟩
theorem isDs_one {d : PyData} {v : V} (h : IsD K H d v) : IsDs K H [d] [v] := ⟨v, [], rfl, h, rfl⟩
theorem IsDs.take : ∀ {ds : List PyData} {vs : List V} (n : Nat), IsDs K H ds vs → IsDs K H (ds.take n) (vs.take n)
  | _, _, 0, _ => rfl
  | [], _, n + 1, h => by rw [show _ = [] from h]; rfl
  | d :: ds, _, n + 1, h => by
    obtain ⟨w, ws, rfl, h2, h3⟩ := h
    exact ⟨w, ws.take n, rfl, h2, h3.take n⟩
theorem IsDs.drop : ∀ {ds : List PyData} {vs : List V} (n : Nat), IsDs K H ds vs → IsDs K H (ds.drop n) (vs.drop n)
  | _, _, 0, h => h
  | [], _, n + 1, h => by rw [show _ = [] from h]; rfl
  | d :: ds, _, n + 1, h => by
    obtain ⟨w, ws, rfl, _, h3⟩ := h
    exact h3.drop n
theorem IsDs.set : ∀ {ds : List PyData} {vs : List V} {d : PyData} {v : V} (n : Nat), IsDs K H ds vs → IsD K H d v → IsDs K H (ds.set n d) (vs.set n v)
  | [], _, _, _, n, h, _ => by rw [show _ = [] from h]; rfl
  | x :: ds, _, _, _, 0, h, h' => by
    obtain ⟨w, ws, rfl, _, h3⟩ := h
    exact ⟨_, ws, rfl, h', h3⟩
  | x :: ds, _, d, v, n + 1, h, h' => by
    obtain ⟨w, ws, rfl, h2, h3⟩ := h
    exact ⟨w, ws.set n v, rfl, h2, h3.set n h'⟩
theorem isDs_ints {ns : List Int} : IsDs K H (ns.map .int) (ns.map .int) := by
  induction ns with
  | nil => rfl
  | cons n ns ih => exact ⟨_, _, rfl, rfl, ih⟩
theorem IsDs.ints : ∀ {ns : List Int} {vs : List V}, IsDs K H (ns.map .int) vs → vs = ns.map .int
  | [], _, h => h
  | n :: ns, _, h => by
    obtain ⟨w, ws, rfl, h2, h3⟩ := h
    rw [show w = .int n from h2, h3.ints]
    rfl
theorem IsDs.bools : ∀ {ns : List Bool} {vs : List V}, IsDs K H (ns.map .bool) vs → vs = ns.map .bl
  | [], _, h => h
  | n :: ns, _, h => by
    obtain ⟨w, ws, rfl, h2, h3⟩ := h
    rw [show w = .bl n from h2, h3.bools]
    rfl
mutual
theorem IsD.dp : ∀ (d : PyData) (v : V), IsD K H d v → Dp K H v d
  | .none, _, h => by rw [show _ = V.non from h]; exact .non
  | .bool b, _, h => by rw [show _ = V.bl b from h]; exact .bl b
  | .int i, _, h => by rw [show _ = V.int i from h]; exact .int i
  | .str x, _, h => by rw [show _ = V.str x from h]; exact .str x
  | .list ds, _, h => by
    obtain ⟨a, vs, rfl, h2, h3⟩ := h
    exact .lst h2 (IsDs.dp ds vs h3)
  | .tuple ds, _, h => by
    obtain ⟨a, vs, rfl, h2, h3⟩ := h
    exact .tup (st_of h2) (IsDs.dp ds vs h3)
  | .dict _, _, h => h.elim
theorem IsDs.dp : ∀ (ds : List PyData) (vs : List V), IsDs K H ds vs → DpAll K H vs ds
  | [], _, h => by rw [show _ = [] from h]; exact .nil
  | d :: ds, _, h => by
    obtain ⟨w, ws, rfl, h2, h3⟩ := h
    exact .cons (IsD.dp d w h2) (IsDs.dp ds ws h3)
end
theorem Exb.of_ex (e : Ex H H') : Exb p H H' := fun a o _ h => e a o h
theorem Exb.trans (a : Exb p H H') (b : Exb p H' H2) : Exb p H H2 := fun x o n h => b x o n (a x o n h)
theorem Exb.upd {o : HO} : Exb p H (upd H p o) := fun a u n h => by
  rw [upd_ne n]
  exact h
/-- of a heap that does not know p -/
theorem Ex.exb {H0 : Hp} (e : Ex H0 H) (b : Exb p H H') (n : H0 p = Option.none) : Ex H0 H' := fun a o h => b a o (ne_of_none h n) (e a o h)
theorem lst_noTup {xs : List V} (h : H p = some (.lst xs)) : ∀ vs, H p ≠ some (.tup vs) := fun vs z => by
  rw [h] at z
  cases z
theorem dT_noTup {xs : List (List Key × V)} (h : H p = some (.dT xs)) : ∀ vs, H p ≠ some (.tup vs) := fun vs z => by
  rw [h] at z
  cases z
end

/-! ### what evaluates to which data -/
/-- te gives some data of R -/
def YR (K : PySem.W.Frag) (te : TE) (σ : L2.St) (H : Hp) (R : PyData → Prop) : Prop := ∀ H1, Ex H H1 → ∀ Q : VK, (∀ d v H2, Ex H1 H2 → IsD K H2 d v → R d → Q v H2) → te σ H1 Q
def YD (K : PySem.W.Frag) (te : TE) (σ : L2.St) (H : Hp) (d : PyData) : Prop := ∀ H1, Ex H H1 → ∀ Q : VK, (∀ v H2, Ex H1 H2 → IsD K H2 d v → Q v H2) → te σ H1 Q
def YA (K : PySem.W.Frag) (ta : TA) (σ : L2.St) (H : Hp) (ds : List PyData) : Prop := ∀ H1, Ex H H1 → ∀ Q : List V → Hp → Prop, (∀ vs H2, Ex H1 H2 → IsDs K H2 ds vs → Q vs H2) → ta σ H1 Q
/-- a new list, of data without lists -/
def YN (K : PySem.W.Frag) (te : TE) (σ : L2.St) (H : Hp) (ds : List PyData) : Prop := ∀ H1, Ex H H1 → ∀ Q : VK, (∀ p vs H2, H1 p = Option.none → Ex H1 H2 → H2 p = some (.lst vs) → IsDs K H2 ds vs → Q (.ref p) H2) → te σ H1 Q
/-- operations on data -/
def RD (K : PySem.W.Frag) (r : R2) (d e f : PyData) : Prop := ∀ H x y, IsD K H d x → IsD K H e y → ∀ Q : VK, (∀ v H2, Ex H H2 → IsD K H2 f v → Q v H2) → r x y H Q
/-- a call on data -/
def RCd (K : PySem.W.Frag) (r : List V → Hp → VK → Prop) (ds : List PyData) (f : PyData) : Prop := ∀ H vs, IsDs K H ds vs → ∀ Q : VK, (∀ v H2, Ex H H2 → IsD K H2 f v → Q v H2) → r vs H Q
section
variable {K : PySem.W.Frag} {σ : L2.St} {H H' : Hp} {ta tb te tc : TE} {tas : TA} {d e f g : PyData} {r r' : R2} {v : V} {R : PyData → Prop}
theorem YD.yr (h : YD K te σ H d) (hr : R d) : YR K te σ H R := fun H1 e Q q => h H1 e Q fun v H2 e2 i => q d v H2 e2 i hr
theorem YN.yd {ds : List PyData} (h : YN K te σ H ds) : YD K te σ H (.list ds) := fun H1 e Q q => h H1 e Q fun p vs H2 _ e2 hp i => q _ H2 e2 ⟨p, vs, rfl, sq_of hp, i⟩
theorem YD.to (h : YD K te σ H d) (e : d = f) : YD K te σ H f := e ▸ h
theorem YD.mono (x : Ex H H') (h : YD K te σ H d) : YD K te σ H' d := fun H1 e Q q => h H1 (x.trans e) Q q
theorem yd_var {i : Nat} (h : σ[i]? = some (some v)) (hd : IsD K H d v) : YD K (tVar i) σ H d := fun H1 e _ q => ⟨v, h, q v H1 (Ex.refl H1) (IsD.ex e d v hd)⟩
theorem yd_int {i : Int} : YD K (tC (.int i)) σ H (.int i) := fun H1 _ _ q => q _ H1 (Ex.refl H1) rfl
theorem yd_bl {i : Bool} : YD K (tC (.bl i)) σ H (.bool i) := fun H1 _ _ q => q _ H1 (Ex.refl H1) rfl
theorem yd_str {i : Str} : YD K (tC (.str i)) σ H (.str i) := fun H1 _ _ q => q _ H1 (Ex.refl H1) rfl
theorem yd_non : YD K (tC .non) σ H .none := fun H1 _ _ q => q _ H1 (Ex.refl H1) rfl
theorem yd_op (ha : YD K ta σ H d) (hb : YD K tb σ H e) (hr : RD K r d e f) : YD K (tOp r ta tb) σ H f := fun H1 x Q q =>
  ha H1 x _ fun u H2 e2 i2 => hb H2 (x.trans e2) _ fun w H3 e3 i3 => hr H3 u w (IsD.ex e3 d u i2) i3 Q fun z H4 e4 i4 => q z H4 ((e2.trans e3).trans e4) i4
theorem ya_nil : YA K tNil σ H [] := fun H1 _ _ q => q [] H1 (Ex.refl H1) rfl
theorem ya_cons {tr : TA} {ds : List PyData} (h : YD K ta σ H d) (hr : YA K tr σ H ds) : YA K (tCons ta tr) σ H (d :: ds) := fun H1 x _ q =>
  h H1 x _ fun u H2 e2 i2 => hr H2 (x.trans e2) _ fun us H3 e3 i3 => q (u :: us) H3 (e2.trans e3) ⟨u, us, rfl, IsD.ex e3 d u i2, i3⟩
theorem yd_tup {ds : List PyData} (h : YA K tas σ H ds) (hl : ds.length ≤ 100000) : YD K (tTup tas) σ H (.tuple ds) := fun H1 x _ q =>
  h H1 x _ fun vs H2 e2 i2 => ⟨by rw [i2.length]; exact sz_of hl, fun p hp => q _ _ (e2.trans (Ex.new hp)) ⟨p, vs, rfl, upd_same, IsDs.ex (Ex.new hp) ds vs i2⟩⟩
theorem yn_lst {ds : List PyData} (h : YA K tas σ H ds) (hl : ds.length ≤ 100000) : YN K (tLst tas) σ H ds := fun H1 x _ q =>
  h H1 x _ fun vs H2 e2 i2 => ⟨by rw [i2.length]; exact sz_of hl, fun p hp => q p vs _ (fresh_back e2 hp) (e2.trans (Ex.new hp)) upd_same (IsDs.ex (Ex.new hp) ds vs i2)⟩
theorem yd_cb {rc : List V → Hp → VK → Prop} {ds : List PyData} (h : YA K tas σ H ds) (hr : RCd K rc ds f) : YD K (tCB rc tas) σ H f := fun H1 x Q q =>
  h H1 x _ fun vs H2 e2 i2 => hr H2 vs i2 Q fun v H3 e3 i3 => q v H3 (e2.trans e3) i3
theorem yd_un {ru : V → Hp → VK → Prop} (h : YD K ta σ H d) (hr : ∀ H1 x, IsD K H1 d x → ∀ Q : VK, (∀ v H2, Ex H1 H2 → IsD K H2 f v → Q v H2) → ru x H1 Q) : YD K (tUn ru ta) σ H f := fun H1 x Q q =>
  h H1 x _ fun u H2 e2 i2 => hr H2 u i2 Q fun v H3 e3 i3 => q v H3 (e2.trans e3) i3
theorem yd_neg {i : Int} (h : YD K ta σ H (.int i)) : YD K (tUn (rU fun i => .int (-i)) ta) σ H (.int (-i)) := yd_un h fun H1 x hx Q q => ⟨i, hx, q _ H1 (Ex.refl H1) rfl⟩
theorem yd_if {b : Bool} {t : TT} (h : EvT t σ H b) (h1 : b = true → YD K ta σ H d) (h2 : b = false → YD K tb σ H d) : YD K (tIf t ta tb) σ H d := fun H1 x Q q => h H1 x _ fun H2 e2 => by
  cases b with
  | true =>
    show ta σ H2 Q
    exact h1 rfl H2 (x.trans e2) Q fun v H3 e3 => q v H3 (e2.trans e3)
  | false =>
    show tb σ H2 Q
    exact h2 rfl H2 (x.trans e2) Q fun v H3 e3 => q v H3 (e2.trans e3)
/-! ### tests -/
theorem yt_test {b : Bool} (h : YD K te σ H (.bool b)) : EvT (tTest te) σ H b := fun H1 x _ q => h H1 x _ fun v H2 e2 i => ⟨b, i, q H2 e2⟩
theorem yt_B {b : Bool} (h : YD K te σ H (.bool b)) : EvT (tB te) σ H b := fun H1 x _ q => h H1 x _ fun v H2 e2 i => ⟨b, i, q H2 e2⟩
theorem yd_andV {a b : Bool} (h1 : YD K ta σ H (.bool a)) (h2 : a = true → YD K tb σ H (.bool b)) : YD K (tAndV ta tb) σ H (.bool (a && b)) := fun H1 x Q q => h1 H1 x _ fun v H2 e2 i => ⟨a, i, by
  cases a with
  | true =>
    show tb σ H2 Q
    exact h2 rfl H2 (x.trans e2) Q fun v H3 e3 i3 => q v H3 (e2.trans e3) i3
  | false =>
    show Q (.bl false) H2
    exact q _ H2 e2 rfl⟩
theorem yd_orV {a b : Bool} (h1 : YD K ta σ H (.bool a)) (h2 : a = false → YD K tb σ H (.bool b)) : YD K (tOrV ta tb) σ H (.bool (a || b)) := fun H1 x Q q => h1 H1 x _ fun v H2 e2 i => ⟨a, i, by
  cases a with
  | true =>
    show Q (.bl true) H2
    exact q _ H2 e2 rfl
  | false =>
    show tb σ H2 Q
    exact h2 rfl H2 (x.trans e2) Q fun v H3 e3 i3 => q v H3 (e2.trans e3) i3⟩
theorem yd_notV {a : Bool} (h1 : YD K ta σ H (.bool a)) : YD K (tNotV ta) σ H (.bool (!a)) := fun H1 x _ q => h1 H1 x _ fun v H2 e2 i => ⟨a, i, q _ H2 e2 rfl⟩
/-! ### operations -/
theorem rd_I0 {gg : Int → Int → V} {i j : Int} (h : ∀ H, IsD K H f (gg i j)) : RD K (rI0 gg) (.int i) (.int j) f := fun H x y hx hy Q q => ⟨i, j, hx, hy, q _ H (Ex.refl H) (h H)⟩
theorem rd_I {C : Int → Int → Prop} {gg : Int → Int → V} {i j : Int} (hc : C i j) (h : ∀ H, IsD K H f (gg i j)) : RD K (rI C gg) (.int i) (.int j) f := fun H x y hx hy Q q => ⟨i, j, hx, hy, hc, q _ H (Ex.refl H) (h H)⟩
theorem rd_ixT {ds : List PyData} {i : Int} (h : atI ds i = some d) : RD K (rIx K) (.tuple ds) (.int i) d := fun H x y hx hy Q q => by
  obtain ⟨a, vs, rfl, h2, h3⟩ := hx
  obtain ⟨j, j1, j2⟩ := Option.bind_eq_some_iff.mp h
  obtain ⟨w, k1, k2⟩ := h3.get j2
  exact .inr (.inl ⟨a, vs, i, w, rfl, hy, st_of h2, by unfold atI; rw [h3.length, j1]; exact k1, q w H (Ex.refl H) k2⟩)
theorem rd_ixL {ds : List PyData} {i : Int} (h : atI ds i = some d) : RD K (rIx K) (.list ds) (.int i) d := fun H x y hx hy Q q => by
  obtain ⟨a, vs, rfl, h2, h3⟩ := hx
  obtain ⟨j, j1, j2⟩ := Option.bind_eq_some_iff.mp h
  obtain ⟨w, k1, k2⟩ := h3.get j2
  exact .inl ⟨a, vs, i, w, rfl, hy, h2, by unfold atI; rw [h3.length, j1]; exact k1, q w H (Ex.refl H) k2⟩
theorem rd_ixS {z : Str} {i : Int} {c : Nat} (hz : z.length ≤ 100000) (h : atI z.cps.toList i = some c) : RD K (rIx K) (.str z) (.int i) (.str ⟨#[c]⟩) := fun H x y hx hy Q q =>
  .inr (.inr ⟨z, i, c, hx, hy, sz_of hz, h, q _ H (Ex.refl H) rfl⟩)
/-- + of ints, tuples, lists -/
def rPlus (K : PySem.W.Frag) : R2 := fun x y H Q => rI0 (fun i j => .int (i + j)) x y H Q ∨ rCatA K x y H Q ∨ rCat x y H Q
theorem op_plus {X : Cx} : OpR X (binaryOp .Add) (rPlus X.K) := op_add.or (op_catA.or op_cat)
theorem rd_addI {i j : Int} : RD K (rPlus K) (.int i) (.int j) (.int (i + j)) := fun H x y hx hy Q q => .inl ⟨i, j, hx, hy, q _ H (Ex.refl H) rfl⟩
theorem rd_addT {ds es : List PyData} (hl : ds.length + es.length ≤ 100000) : RD K (rPlus K) (.tuple ds) (.tuple es) (.tuple (ds ++ es)) := fun H x y hx hy Q q => by
  obtain ⟨a, vs, rfl, h2, h3⟩ := hx
  obtain ⟨b, ws, rfl, k2, k3⟩ := hy
  refine .inr (.inl ⟨a, b, vs, ws, rfl, rfl, st_of h2, st_of k2, by rw [h3.length, k3.length]; exact sz_of hl, fun z => ?_, fun _ z => ?_, fun _ _ p hp => ?_⟩)
  · have : ds = [] := List.eq_nil_of_length_eq_zero (by rw [← h3.length, z]; rfl)
    subst this
    exact q _ H (Ex.refl H) ⟨b, ws, rfl, k2, k3⟩
  · have : es = [] := List.eq_nil_of_length_eq_zero (by rw [← k3.length, z]; rfl)
    subst this
    exact q _ H (Ex.refl H) (by rw [List.append_nil]; exact ⟨a, vs, rfl, h2, h3⟩)
  · exact q _ _ (Ex.new hp) ⟨p, _, rfl, upd_same, (IsDs.ex (Ex.new hp) _ _ h3).append (IsDs.ex (Ex.new hp) _ _ k3)⟩
/-- * of ints, list by int, tuple by int -/
def rTimes (K : PySem.W.Frag) : R2 := fun x y H Q => rI CMul (fun i j => .int (i * j)) x y H Q ∨ rRep x y H Q ∨ rRepA K x y H Q
theorem op_times {X : Cx} : OpR X (binaryOp .Mult) (rTimes X.K) := op_mul.or (op_rep.or op_repA)
theorem rd_mulI {i j : Int} (h : CMul i j) : RD K (rTimes K) (.int i) (.int j) (.int (i * j)) := fun H x y hx hy Q q => .inl ⟨i, j, hx, hy, h, q _ H (Ex.refl H) rfl⟩
theorem isDs_rep {ds : List PyData} {vs : List V} (h : IsDs K H ds vs) : ∀ n : Nat, IsDs K H (List.replicate n ds).flatten (List.replicate n vs).flatten
  | 0 => rfl
  | n + 1 => by
    rw [List.replicate_succ, List.replicate_succ, List.flatten_cons, List.flatten_cons]
    exact h.append (isDs_rep h n)
theorem rd_mulT {ds : List PyData} {k : Nat} (h0 : ds ≠ []) (h1 : ds.length ≤ 1000) (h2 : k ≤ 1000) : RD K (rTimes K) (.tuple ds) (.int (k : Int)) (.tuple (List.replicate k ds).flatten) := fun H x y hx hy Q q => by
  obtain ⟨a, vs, rfl, g2, g3⟩ := hx
  refine .inr (.inr ⟨a, k, vs, rfl, hy, st_of g2, fun z => h0 (List.eq_nil_of_length_eq_zero (by rw [← g3.length, z]; rfl)), by omega, by omega, by rw [g3.length]; exact h1, fun z => ?_, fun z p hp => ?_⟩)
  · have : k = 1 := by omega
    subst this
    refine q _ H (Ex.refl H) ⟨a, vs, rfl, g2, ?_⟩
    simpa using g3
  · rw [Int.toNat_natCast]
    exact q _ _ (Ex.new hp) ⟨p, _, rfl, upd_same, IsDs.ex (Ex.new hp) _ _ (isDs_rep g3 k)⟩
/-- == of scalars, of data -/
def rEqU (K : PySem.W.Frag) : R2 := fun x y H Q => rEq x y H Q ∨ rEqD K x y H Q
def rNeU (K : PySem.W.Frag) : R2 := fun x y H Q => rNe x y H Q ∨ rNeD K x y H Q
theorem op_eqU {X : Cx} (hu : X.A.units + 64 < cLine) : OpR X (compareOp .Eq) (rEqU X.K) := op_eq.or (op_eqD hu)
theorem op_neU {X : Cx} (hu : X.A.units + 64 < cLine) : OpR X (compareOp .NotEq) (rNeU X.K) := op_ne.or (op_neD hu)
theorem rd_eq_int {i j : Int} : RD K (rEqU K) (.int i) (.int j) (.bool (decide (i = j))) := fun H x y hx hy Q q => by
  rw [show x = V.int i from hx, show y = V.int j from hy]
  exact .inl ⟨rfl, q _ H (Ex.refl H) (congrArg V.bl (decide_eq_decide.mpr ⟨fun z => V.int.inj z, fun z => by rw [z]⟩))⟩
theorem rd_ne_int {i j : Int} : RD K (rNeU K) (.int i) (.int j) (.bool (!decide (i = j))) := fun H x y hx hy Q q => by
  rw [show x = V.int i from hx, show y = V.int j from hy]
  exact .inl ⟨rfl, q _ H (Ex.refl H) (congrArg (fun b => V.bl (!b)) (decide_eq_decide.mpr ⟨fun z => V.int.inj z, fun z => by rw [z]⟩))⟩
theorem rd_eq_str {i j : Str} : RD K (rEqU K) (.str i) (.str j) (.bool (decide (i = j))) := fun H x y hx hy Q q => by
  rw [show x = V.str i from hx, show y = V.str j from hy]
  exact .inl ⟨rfl, q _ H (Ex.refl H) (congrArg V.bl (decide_eq_decide.mpr ⟨fun z => V.str.inj z, fun z => by rw [z]⟩))⟩
theorem rd_ne_bl {i j : Bool} : RD K (rNeU K) (.bool i) (.bool j) (.bool (!decide (i = j))) := fun H x y hx hy Q q => by
  rw [show x = V.bl i from hx, show y = V.bl j from hy]
  exact .inl ⟨rfl, q _ H (Ex.refl H) (congrArg (fun b => V.bl (!b)) (decide_eq_decide.mpr ⟨fun z => V.bl.inj z, fun z => by rw [z]⟩))⟩
theorem rd_eqD (h1 : SeqAt.shaped d = true) (h2 : SeqAt.shaped e = true) : RD K (rEqU K) d e (.bool (PyData.eqv d e)) := fun H x y hx hy Q q => .inr ⟨d, e, IsD.dp d x hx, IsD.dp e y hy, h1, h2, q _ H (Ex.refl H) rfl⟩
theorem rd_neD (h1 : SeqAt.shaped d = true) (h2 : SeqAt.shaped e = true) : RD K (rNeU K) d e (.bool (!PyData.eqv d e)) := fun H x y hx hy Q q => .inr ⟨d, e, IsD.dp d x hx, IsD.dp e y hy, h1, h2, q _ H (Ex.refl H) rfl⟩
def isNone : PyData → Bool
  | .none => true
  | _ => false
theorem isD_none {x : V} (h : IsD K H d x) : decide (x = .non) = isNone d := by
  cases d with
  | none => rw [show x = V.non from h]; rfl
  | bool b => rw [show x = V.bl b from h]; rfl
  | int i => rw [show x = V.int i from h]; rfl
  | str z => rw [show x = V.str z from h]; rfl
  | list ds => obtain ⟨a, vs, rfl, _⟩ := h; rfl
  | tuple ds => obtain ⟨a, vs, rfl, _⟩ := h; rfl
  | dict _ => exact h.elim
theorem rd_isN : RD K (fun x y H Q => y = .non ∧ Q (.bl (decide (x = .non))) H) d .none (.bool (isNone d)) := fun H x y hx hy Q q => ⟨hy, q _ H (Ex.refl H) (by rw [isD_none hx]; rfl)⟩
theorem rd_notN : RD K (fun x y H Q => y = .non ∧ Q (.bl (!decide (x = .non))) H) d .none (.bool (!isNone d)) := fun H x y hx hy Q q => ⟨hy, q _ H (Ex.refl H) (by rw [isD_none hx]; rfl)⟩
/-! ### calls -/
theorem rc_len {ds : List PyData} : RCd K (fun xs H Q => ∃ x n, xs = [x] ∧ LenV K x H n ∧ Q (.int n) H) [.list ds] (.int (ds.length : Int)) := fun H vs h Q q => by
  obtain ⟨w, ws, rfl, ⟨a, us, rfl, h2, h3⟩, rfl⟩ := h
  exact ⟨_, us.length, rfl, .inl ⟨us, h2, rfl⟩, q _ H (Ex.refl H) (by rw [h3.length]; rfl)⟩
theorem rc_lenT {ds : List PyData} : RCd K (fun xs H Q => ∃ x n, xs = [x] ∧ LenV K x H n ∧ Q (.int n) H) [.tuple ds] (.int (ds.length : Int)) := fun H vs h Q q => by
  obtain ⟨w, ws, rfl, ⟨a, us, rfl, h2, h3⟩, rfl⟩ := h
  exact ⟨_, us.length, rfl, .inr ⟨us, st_of h2, rfl⟩, q _ H (Ex.refl H) (by rw [h3.length]; rfl)⟩
theorem rc_lenS {z : Str} (hz : z.length ≤ 100000) : RCd K (fun xs H Q => ∃ x n, xs = [x] ∧ LenV K x H n ∧ Q (.int n) H) [.str z] (.int (z.length : Int)) := fun H vs h Q q => by
  obtain ⟨w, ws, rfl, rfl, rfl⟩ := h
  exact ⟨_, z.length, rfl, ⟨sz_of hz, rfl⟩, q _ H (Ex.refl H) rfl⟩
theorem rc_int_bool {b : Bool} : RCd K (fun xs H Q => (∃ i, xs = [.int i] ∧ Q (.int i) H) ∨ ∃ k, xs = [.bl k] ∧ Q (.int (if k then 1 else 0)) H) [.bool b] (.int (if b then 1 else 0)) := fun H vs h Q q => by
  obtain ⟨w, ws, rfl, rfl, rfl⟩ := h
  exact .inr ⟨b, rfl, q _ H (Ex.refl H) rfl⟩
theorem rc_all {bs : List Bool} : RCd K (rAll K) [.list (bs.map .bool)] (.bool (bs.all id)) := fun H vs h Q q => by
  obtain ⟨w, ws, rfl, ⟨a, us, rfl, h2, h3⟩, rfl⟩ := h
  rw [h3.bools] at h2
  exact ⟨a, bs, rfl, h2, q _ H (Ex.refl H) rfl⟩
/-- list(x), tuple(x) -/
theorem rc_list {ds : List PyData} (b : Bool) : RCd K (fun xs H Q => ∃ p ys, xs = [.ref p] ∧ (SqL K H p ys ∨ SqT K H p ys) ∧ ∀ l, H l = Option.none → Q (.ref l) (upd H l (.lst ys))) [if b then .list ds else .tuple ds] (.list ds) := fun H vs h Q q => by
  obtain ⟨w, ws, rfl, h1, rfl⟩ := h
  cases b with
  | true =>
    obtain ⟨a, us, rfl, h2, h3⟩ := h1
    exact ⟨a, us, rfl, .inl h2, fun l hl => q _ _ (Ex.new hl) ⟨l, us, rfl, sq_of upd_same, IsDs.ex (Ex.new hl) _ _ h3⟩⟩
  | false =>
    obtain ⟨a, us, rfl, h2, h3⟩ := h1
    exact ⟨a, us, rfl, .inr (st_of h2), fun l hl => q _ _ (Ex.new hl) ⟨l, us, rfl, sq_of upd_same, IsDs.ex (Ex.new hl) _ _ h3⟩⟩
theorem rc_tuple {ds : List PyData} : RCd K (fun xs H Q => ∃ p ys, xs = [.ref p] ∧ ((SqL K H p ys ∧ ∀ l, H l = Option.none → Q (.ref l) (upd H l (.tup ys))) ∨ (SqT K H p ys ∧ Q (.ref p) H))) [.list ds] (.tuple ds) := fun H vs h Q q => by
  obtain ⟨w, ws, rfl, ⟨a, us, rfl, h2, h3⟩, rfl⟩ := h
  exact ⟨a, us, rfl, .inl ⟨h2, fun l hl => q _ _ (Ex.new hl) ⟨l, us, rfl, upd_same, IsDs.ex (Ex.new hl) _ _ h3⟩⟩⟩
/-- isinstance -/
def tyName : PyData → String
  | .none => "NoneType"
  | .bool _ => "bool"
  | .int _ => "int"
  | .str _ => "str"
  | .list _ => "list"
  | .tuple _ => "tuple"
  | .dict _ => "dict"
theorem yd_isi {n : String} {b : Bool} (h : YD K ta σ H d) (hn : tyName d ≠ "list") (hk : kitB (tyName d) n = some b) : YD K (tCB (rIsi K) (tCons ta (tCons (tC (.ty n)) tNil))) σ H (.bool b) := fun H1 x Q q =>
  h H1 x _ fun u H2 e2 i2 => ⟨u, .ty n, .type (tyName d), .type n, b, rfl, .ty n, by
    refine .base ?_
    cases d with
    | none => rw [show u = V.non from i2]; exact .non
    | bool k => rw [show u = V.bl k from i2]; exact .bl k
    | int k => rw [show u = V.int k from i2]; exact .int k
    | str k => rw [show u = V.str k from i2]; exact .str k
    | list ds => exact absurd rfl hn
    | tuple ds => obtain ⟨a, vs, rfl, h2, _⟩ := i2; exact .tup h2
    | dict _ => exact i2.elim, kit_ty hk, q _ H2 e2 rfl⟩
end
end Ct

/-! # CtKit2 -/
namespace Ct
open PySem PySem.Spec PyProof.Rows L2 Evl
/-! ### loops by an invariant -/
section
variable {J : It} {n : Nat} {g : TG} {tb : TS} {D : Ends} {σ : L2.St} {H : Hp}
theorem loop_it (Pv : Nat → L2.St → Hp → Prop) (h0 : Pv 0 σ H) (hgo : ∀ i σ' H', i < n → Pv i σ' H' → J.go i H') (hstop : ∀ σ' H', Pv n σ' H' → J.stop n H')
    (hs : ∀ i σ' H' x H'', i < n → Pv i σ' H' → J.yld i H' x H'' → g x σ' H'' fun σ2 H2 => tb { D with nx := Pv (i + 1), ct := Pv (i + 1), bk := D.nx } σ2 H2) (hd : ∀ σ' H', Pv n σ' H' → D.nx σ' H') :
    ∃ W : Nat → Nat → L2.St → Hp → Prop, (∃ m, W 0 m σ H) ∧ ∀ i m σ H, W i m σ H →
      (J.stop i H ∧ D.nx σ H) ∨ (J.go i H ∧ ∃ N : L2.St → Hp → Prop, (∀ σ' H', N σ' H' → ∃ m', m' < m ∧ W (i + 1) m' σ' H') ∧ ∀ x H', J.yld i H x H' → g x σ H' fun σ2 H2 => tb { D with nx := N, ct := N, bk := D.nx } σ2 H2) := by
  refine ⟨fun i m σ H => m = n - i ∧ i ≤ n ∧ Pv i σ H, ⟨n, by simp, Nat.zero_le _, h0⟩, ?_⟩
  rintro i m σ H ⟨rfl, hi, p⟩
  by_cases hlt : i < n
  · exact .inr ⟨hgo i σ H hlt p, Pv (i + 1), fun σ' H' p' => ⟨n - (i + 1), by omega, rfl, hlt, p'⟩, fun x H' y => hs i σ H x H' hlt p y⟩
  · have e : i = n := by omega
    subst e
    exact .inl ⟨hstop σ H p, hd σ H p⟩
theorem lcl_it {tt : TT} {te : TE} {vs : List Nat} {Dl : Addr} {Qd : Hp → Prop} {H1 : Hp} (Pv : Nat → Hp → Prop) (h0 : Pv 0 (upd H1 Dl (.lst []))) (hgo : ∀ i H, i < n → Pv i H → J.go i H) (hstop : ∀ H, Pv n H → J.stop n H)
    (hs : ∀ i H x H', i < n → Pv i H → J.yld i H x H' → g x (wipe σ vs) H' fun σ2 H2 => wipe σ2 vs = wipe σ vs ∧ tt σ2 H2 fun b H3 =>
      if b = true then te σ2 H3 fun y H4 => ∃ acc, H4 Dl = some (.lst acc) ∧ acc.length < sizeLine ∧ Pv (i + 1) (upd H4 Dl (.lst (acc ++ [y]))) else Pv (i + 1) H3) (hd : ∀ H, Pv n H → Qd H) :
    ∃ W : Nat → Nat → Hp → Prop, (∃ m, W 0 m (upd H1 Dl (.lst []))) ∧ ∀ i m H, W i m H →
      (J.stop i H ∧ Qd H) ∨ (J.go i H ∧ ∃ Nx : Hp → Prop, (∀ H', Nx H' → ∃ m', m' < m ∧ W (i + 1) m' H') ∧ ∀ x H', J.yld i H x H' → g x (wipe σ vs) H' fun σ2 H2 => wipe σ2 vs = wipe σ vs ∧ tt σ2 H2 fun b H3 =>
        if b = true then te σ2 H3 fun y H4 => ∃ acc, H4 Dl = some (.lst acc) ∧ acc.length < sizeLine ∧ Nx (upd H4 Dl (.lst (acc ++ [y]))) else Nx H3) := by
  refine ⟨fun i m H => m = n - i ∧ i ≤ n ∧ Pv i H, ⟨n, by simp, Nat.zero_le _, h0⟩, ?_⟩
  rintro i m H ⟨rfl, hi, p⟩
  by_cases hlt : i < n
  · exact .inr ⟨hgo i H hlt p, Pv (i + 1), fun H' p' => ⟨n - (i + 1), by omega, rfl, hlt, p'⟩, fun x H' y => hs i H x H' hlt p y⟩
  · have e : i = n := by omega
    subst e
    exact .inl ⟨hstop H p, hd H p⟩
end
/-! ### statements -/
/-- a list of one's own at p: data without lists -/
def OL (K : PySem.W.Frag) (H : Hp) (p : Addr) (ds : List PyData) : Prop := ∃ vs, H p = some (.lst vs) ∧ IsDs K H ds vs ∧ noLs ds = true
section
variable {K : PySem.W.Frag} {σ : L2.St} {H H' H0 : Hp} {te tl ti : TE} {tas : TA} {tt : TT} {D : Ends} {tz tb tu tw : TS} {d e : PyData} {ds es : List PyData} {R : PyData → Prop} {p : Addr}
theorem noLs_append : ∀ {a b : List PyData}, noLs a = true → noLs b = true → noLs (a ++ b) = true
  | [], _, _, h => h
  | x :: a, b, h, h' => by
    have h : (noL x && noLs a) = true := h
    obtain ⟨h1, h2⟩ := Bool.and_eq_true_iff.mp h
    show (noL x && noLs (a ++ b)) = true
    rw [h1, noLs_append h2 h']
    rfl
theorem noLs_one {x : PyData} (h : noL x = true) : noLs [x] = true := by
  show (noL x && true) = true
  rw [h]
  rfl
theorem noLs_set : ∀ {a : List PyData} {x : PyData} (i : Nat), noLs a = true → noL x = true → noLs (a.set i x) = true
  | [], _, _, _, _ => rfl
  | y :: a, x, 0, h, h' => by
    have h : (noL y && noLs a) = true := h
    show (noL x && noLs a) = true
    rw [h', (Bool.and_eq_true_iff.mp h).2]
    rfl
  | y :: a, x, i + 1, h, h' => by
    have h : (noL y && noLs a) = true := h
    show (noL y && noLs (a.set i x)) = true
    rw [(Bool.and_eq_true_iff.mp h).1, noLs_set i (Bool.and_eq_true_iff.mp h).2 h']
    rfl
theorem noLs_map {α : Type} {f : α → PyData} (h : ∀ x, noL (f x) = true) : ∀ l : List α, noLs (l.map f) = true
  | [] => rfl
  | x :: l => by
    show (noL (f x) && noLs (l.map f)) = true
    rw [h, noLs_map h l]
    rfl
theorem noL_get : ∀ {ds : List PyData} {i : Nat} {d : PyData}, noLs ds = true → ds[i]? = some d → noL d = true
  | [], _, _, _, h => by simp at h
  | x :: ds, 0, d, h, e => by
    have : x = d := by simpa using e
    subst this
    exact (Bool.and_eq_true_iff.mp (show (noL x && noLs ds) = true from h)).1
  | x :: ds, i + 1, d, h, e => noL_get (Bool.and_eq_true_iff.mp (show (noL x && noLs ds) = true from h)).2 (by simpa using e)
theorem OL.isD (h : OL K H p ds) : IsD K H (.list ds) (.ref p) := by
  obtain ⟨vs, h1, h2, _⟩ := h
  exact ⟨p, vs, rfl, sq_of h1, h2⟩
theorem OL.ex (x : Ex H H') (h : OL K H p ds) : OL K H' p ds := by
  obtain ⟨vs, h1, h2, h3⟩ := h
  exact ⟨vs, x p _ h1, IsDs.ex x ds vs h2, h3⟩
theorem OL.noTup (h : OL K H p ds) : ∀ vs, H p ≠ some (.tup vs) := by
  obtain ⟨vs, h1, _⟩ := h
  exact lst_noTup h1
/-- another list of one's own stays where p changes -/
theorem OL.exb {a : Addr} (x : Exb p H H') (hp : ∀ vs, H p ≠ some (.tup vs)) (n : a ≠ p) (h : OL K H a ds) : OL K H' a ds := by
  obtain ⟨vs, h1, h2, h3⟩ := h
  exact ⟨vs, x a _ n h1, IsDs.exb x hp ds vs h3 h2, h3⟩
theorem OL.ne {a : Addr} (h : OL K H a ds) (n : H p = Option.none) : a ≠ p := by
  obtain ⟨vs, h1, _⟩ := h
  exact ne_of_none h1 n
theorem IsD.list_ne {a : Addr} {v : V} {k : Addr → Prop} (h : IsD K H (.tuple ds) (.ref a)) (o : OL K H p es) : a ≠ p := fun z => by
  obtain ⟨b, vs, e1, h2, _⟩ := h
  cases e1
  subst z
  exact o.noTup _ h2
theorem q_set {i : Nat} (h : YD K te σ H d) (k : ∀ v H1, Ex H H1 → IsD K H1 d v → tz D (σ.set i (some v)) H1) : tSeq (tAsg te (gName i)) tz D σ H := h H (Ex.refl H) _ fun v H1 x hi => k v H1 x hi
theorem q_setR {i : Nat} (h : YR K te σ H R) (k : ∀ d v H1, Ex H H1 → IsD K H1 d v → R d → tz D (σ.set i (some v)) H1) : tSeq (tAsg te (gName i)) tz D σ H := h H (Ex.refl H) _ fun d v H1 x hi hr => k d v H1 x hi hr
theorem q_setN {i : Nat} (h : YN K te σ H ds) (hn : noLs ds = true) (k : ∀ p H1, H p = Option.none → Ex H H1 → OL K H1 p ds → tz D (σ.set i (some (.ref p))) H1) : tSeq (tAsg te (gName i)) tz D σ H :=
  h H (Ex.refl H) _ fun p vs H1 np x hp hi => k p H1 np x ⟨vs, hp, hi, hn⟩
theorem s_set {i : Nat} (h : YD K te σ H d) (k : ∀ v H1, Ex H H1 → IsD K H1 d v → D.nx (σ.set i (some v)) H1) : tAsg te (gName i) D σ H := h H (Ex.refl H) _ fun v H1 x hi => k v H1 x hi
theorem s_ret (h : YD K te σ H d) (k : ∀ v H1, Ex H H1 → IsD K H1 d v → D.rt v H1) : tRet te D σ H := h H (Ex.refl H) _ fun v H1 x hi => k v H1 x hi
theorem s_retR (h : YR K te σ H R) (k : ∀ d v H1, Ex H H1 → IsD K H1 d v → R d → D.rt v H1) : tRet te D σ H := h H (Ex.refl H) _ fun d v H1 x hi hr => k d v H1 x hi hr
theorem s_retN (h : YN K te σ H ds) (k : ∀ p vs H1, H p = Option.none → Ex H H1 → H1 p = some (.lst vs) → IsDs K H1 ds vs → D.rt (.ref p) H1) : tRet te D σ H := h H (Ex.refl H) _ fun p vs H1 np x hp hi => k p vs H1 np x hp hi
theorem q_drop (h : YR K te σ H R) (k : ∀ H1, Ex H H1 → tz D σ H1) : tSeq (tDrop te) tz D σ H := h H (Ex.refl H) _ fun d v H1 x hi hr => k H1 x
/-- a, b = e -/
theorem q_unp2 {i j : Nat} {d1 d2 : PyData} (h : YD K te σ H (.tuple [d1, d2])) (k : ∀ v1 v2 H1, Ex H H1 → IsD K H1 d1 v1 → IsD K H1 d2 v2 → tz D ((σ.set i (some v1)).set j (some v2)) H1) :
    tSeq (tAsg te (gTup K 2 (gCons (gName i) (gCons (gName j) gNil)))) tz D σ H := h H (Ex.refl H) _ fun v H1 x hi => by
  obtain ⟨a, vs, rfl, h2, w, ws, rfl, k1, w2, ws2, rfl, k2, rfl⟩ := hi
  exact ⟨a, _, rfl, st_of h2, rfl, w, _, rfl, w2, _, rfl, rfl, k w w2 H1 x k1 k2⟩
theorem q_unp3 {i j l : Nat} {d1 d2 d3 : PyData} (h : YD K te σ H (.tuple [d1, d2, d3])) (k : ∀ v1 v2 v3 H1, Ex H H1 → IsD K H1 d1 v1 → IsD K H1 d2 v2 → IsD K H1 d3 v3 → tz D (((σ.set i (some v1)).set j (some v2)).set l (some v3)) H1) :
    tSeq (tAsg te (gTup K 3 (gCons (gName i) (gCons (gName j) (gCons (gName l) gNil))))) tz D σ H := h H (Ex.refl H) _ fun v H1 x hi => by
  obtain ⟨a, vs, rfl, h2, w, ws, rfl, k1, w2, ws2, rfl, k2, w3, ws3, rfl, k3, rfl⟩ := hi
  exact ⟨a, _, rfl, st_of h2, rfl, w, _, rfl, w2, _, rfl, w3, _, rfl, rfl, k w w2 w3 H1 x k1 k2 k3⟩
/-- xs.append(e) -/
theorem s_app {j : Nat} (hj : σ[j]? = some (some (.ref p))) (hp : OL K H p ds) (h : YD K te σ H d) (hn : noL d = true) (hz : ds.length < 100000) (k : ∀ H1, Exb p H H1 → OL K H1 p (ds ++ [d]) → D.nx σ H1) :
    tDrop (tBM K "list" rAppend (tVar j) (tCons te tNil)) D σ H := by
  obtain ⟨vs, h1, h2, h3⟩ := hp
  refine ⟨.ref p, hj, Or.inl ⟨rfl, vs, sq_of h1⟩, h H (Ex.refl H) _ fun v H1 x hi => ?_⟩
  have hp1 := x p _ h1
  refine ⟨p, vs, v, rfl, rfl, hp1, by rw [h2.length]; exact sz_lt hz, k _ ((Exb.of_ex x).trans Exb.upd) ⟨_, upd_same, ?_, noLs_append h3 (noLs_one hn)⟩⟩
  exact (IsDs.exb Exb.upd (lst_noTup hp1) ds vs h3 (IsDs.ex x ds vs h2)).append (isDs_one (IsD.exb Exb.upd (lst_noTup hp1) d v hn hi))
theorem q_app {j : Nat} (hj : σ[j]? = some (some (.ref p))) (hp : OL K H p ds) (h : YD K te σ H d) (hn : noL d = true) (hz : ds.length < 100000) (k : ∀ H1, Exb p H H1 → OL K H1 p (ds ++ [d]) → tz D σ H1) :
    tSeq (tDrop (tBM K "list" rAppend (tVar j) (tCons te tNil))) tz D σ H := s_app (D := { D with nx := tz D }) hj hp h hn hz k
/-- xs[i] = e -/
theorem s_setL {j : Nat} {m : Nat} (hj : σ[j]? = some (some (.ref p))) (hp : OL K H p ds) (h : YD K te σ H d) (hi : YD K ti σ H (.int (m : Int))) (hm : m < ds.length) (hn : noL d = true) (k : ∀ H1, Exb p H H1 → OL K H1 p (ds.set m d) → D.nx σ H1) :
    tAsg te (gSub (tVar j) ti rSetL) D σ H := by
  obtain ⟨vs, h1, h2, h3⟩ := hp
  refine h H (Ex.refl H) _ fun v H1 x hv => ⟨.ref p, hj, hi H1 x _ fun u H2 x2 hu => ?_⟩
  have hp1 := (x.trans x2) p _ h1
  refine ⟨p, vs, (m : Int), m, rfl, hu, hp1, ixN_nat (by rw [h2.length]; exact hm), k _ ((Exb.of_ex (x.trans x2)).trans Exb.upd) ⟨_, upd_same, ?_, noLs_set m h3 hn⟩⟩
  exact (IsDs.exb Exb.upd (lst_noTup hp1) ds vs h3 (IsDs.ex (x.trans x2) ds vs h2)).set m (IsD.exb Exb.upd (lst_noTup hp1) d v hn (IsD.ex x2 d v hv))
theorem q_setL {j : Nat} {m : Nat} (hj : σ[j]? = some (some (.ref p))) (hp : OL K H p ds) (h : YD K te σ H d) (hi : YD K ti σ H (.int (m : Int))) (hm : m < ds.length) (hn : noL d = true) (k : ∀ H1, Exb p H H1 → OL K H1 p (ds.set m d) → tz D σ H1) :
    tSeq (tAsg te (gSub (tVar j) ti rSetL)) tz D σ H := s_setL (D := { D with nx := tz D }) hj hp h hi hm hn k
/-! ### for -/
variable {g : TG}
/-- over a new list (at a) -/
theorem q_forN (h : YN K tl σ H ds) (hn : noLs ds = true) (Pv : Addr → Nat → L2.St → Hp → Prop) (h0 : ∀ a H1, H a = Option.none → Ex H H1 → OL K H1 a ds → Pv a 0 σ H1) (hG : ∀ a i σ' H', Pv a i σ' H' → IsD K H' (.list ds) (.ref a))
    (hs : ∀ a i d v σ' H', H a = Option.none → ds[i]? = some d → IsD K H' d v → Pv a i σ' H' → g v σ' H' fun σ2 H2 => tb { D with nx := Pv a (i + 1), ct := Pv a (i + 1), bk := tz D } σ2 H2) (hd : ∀ a σ' H', Pv a ds.length σ' H' → tz D σ' H') :
    tSeq (tFor (iList K tl) g tb) tz D σ H := h H (Ex.refl H) _ fun a vs H1 na x hp hi => ⟨a, rfl, ⟨vs, sq_of hp⟩, loop_it (n := ds.length) (D := { D with nx := tz D }) (Pv a) (h0 a H1 na x ⟨vs, hp, hi, hn⟩)
      (fun i σ' H' hlt p => by
        obtain ⟨b, ws, e1, h2, h3⟩ := hG a i σ' H' p
        cases e1
        obtain ⟨w, hw, _⟩ := h3.get (List.getElem?_eq_getElem hlt)
        exact ⟨ws, w, h2, hw⟩)
      (fun σ' H' p => by
        obtain ⟨b, ws, e1, h2, h3⟩ := hG a _ σ' H' p
        cases e1
        exact ⟨ws, h2, Nat.le_of_eq h3.length⟩)
      (fun i σ' H' v H'' hlt p y => by
        obtain ⟨b, ws, e1, h2, h3⟩ := hG a i σ' H' p
        cases e1
        obtain ⟨rfl, y⟩ := y
        obtain ⟨d, hd1, hd2⟩ := h3.getV (y ws h2)
        exact hs a i d v σ' H'' na hd1 hd2 p) (hd a)⟩
/-- over a list that stands at a -/
theorem q_forL {a : Addr} (h : YD K tl σ H (.list ds)) (ha : ∀ H1 v, IsD K H1 (.list ds) v → Ex H H1 → True) (Pv : V → Nat → L2.St → Hp → Prop) (h0 : ∀ v H1, Ex H H1 → IsD K H1 (.list ds) v → Pv v 0 σ H1) (hG : ∀ v i σ' H', Pv v i σ' H' → IsD K H' (.list ds) v)
    (hs : ∀ w i d v σ' H', ds[i]? = some d → IsD K H' d v → Pv w i σ' H' → g v σ' H' fun σ2 H2 => tb { D with nx := Pv w (i + 1), ct := Pv w (i + 1), bk := tz D } σ2 H2) (hd : ∀ w σ' H', Pv w ds.length σ' H' → tz D σ' H') :
    tSeq (tFor (iList K tl) g tb) tz D σ H := h H (Ex.refl H) _ fun w H1 x hi => by
  obtain ⟨a, vs, rfl, hp, hi'⟩ := id hi
  refine ⟨a, rfl, ⟨vs, hp⟩, loop_it (n := ds.length) (D := { D with nx := tz D }) (Pv (.ref a)) (h0 _ H1 x hi) (fun i σ' H' hlt p => ?_) (fun σ' H' p => ?_) (fun i σ' H' v H'' hlt p y => ?_) (hd _)⟩
  · obtain ⟨b, ws, e1, h2, h3⟩ := hG _ i σ' H' p
    cases e1
    obtain ⟨w, hw, _⟩ := h3.get (List.getElem?_eq_getElem hlt)
    exact ⟨ws, w, h2, hw⟩
  · obtain ⟨b, ws, e1, h2, h3⟩ := hG _ _ σ' H' p
    cases e1
    exact ⟨ws, h2, Nat.le_of_eq h3.length⟩
  · obtain ⟨b, ws, e1, h2, h3⟩ := hG _ i σ' H' p
    cases e1
    obtain ⟨rfl, y⟩ := y
    obtain ⟨d, hd1, hd2⟩ := h3.getV (y ws h2)
    exact hs _ i d v σ' H'' hd1 hd2 p
/-- over a tuple -/
theorem q_forT (h : YD K tl σ H (.tuple ds)) (Pv : V → Nat → L2.St → Hp → Prop) (h0 : ∀ v H1, Ex H H1 → IsD K H1 (.tuple ds) v → Pv v 0 σ H1) (hG : ∀ v i σ' H', Pv v i σ' H' → IsD K H' (.tuple ds) v)
    (hs : ∀ w i d v σ' H', ds[i]? = some d → IsD K H' d v → Pv w i σ' H' → g v σ' H' fun σ2 H2 => tb { D with nx := Pv w (i + 1), ct := Pv w (i + 1), bk := tz D } σ2 H2) (hd : ∀ w σ' H', Pv w ds.length σ' H' → tz D σ' H') :
    tSeq (tFor (iTup K tl) g tb) tz D σ H := h H (Ex.refl H) _ fun w H1 x hi => by
  obtain ⟨a, vs, rfl, hp, hi'⟩ := id hi
  refine ⟨a, rfl, ⟨vs, st_of hp⟩, loop_it (n := ds.length) (D := { D with nx := tz D }) (Pv (.ref a)) (h0 _ H1 x hi) (fun i σ' H' hlt p => ?_) (fun σ' H' p => ?_) (fun i σ' H' v H'' hlt p y => ?_) (hd _)⟩
  · obtain ⟨b, ws, e1, h2, h3⟩ := hG _ i σ' H' p
    cases e1
    obtain ⟨w, hw, _⟩ := h3.get (List.getElem?_eq_getElem hlt)
    exact ⟨ws, w, st_of h2, hw⟩
  · obtain ⟨b, ws, e1, h2, h3⟩ := hG _ _ σ' H' p
    cases e1
    exact ⟨ws, st_of h2, Nat.le_of_eq h3.length⟩
  · obtain ⟨b, ws, e1, h2, h3⟩ := hG _ i σ' H' p
    cases e1
    obtain ⟨rfl, y⟩ := y
    obtain ⟨d, hd1, hd2⟩ := h3.getV (y ws (st_of h2))
    exact hs _ i d v σ' H'' hd1 hd2 p
/-- for i in range(n) -/
theorem q_forR {j n : Nat} (h : YD K te σ H (.int (n : Int))) (hn : n ≤ 100000) (Pv : Nat → L2.St → Hp → Prop) (h0 : ∀ H1, Ex H H1 → Pv 0 σ H1)
    (hs : ∀ i σ' H', i < n → Pv i σ' H' → tb { D with nx := Pv (i + 1), ct := Pv (i + 1), bk := tz D } (σ'.set j (some (.int (i : Int)))) H') (hd : ∀ σ' H', Pv n σ' H' → tz D σ' H') :
    tSeq (tFor (iRng1 (tCons te tNil)) (gName j) tb) tz D σ H := h H (Ex.refl H) _ fun v H1 x hi => ⟨(n : Int), by rw [show v = V.int (n : Int) from hi], by omega, by omega, by
    rw [Int.toNat_natCast]
    refine loop_it (n := n) (D := { D with nx := tz D }) Pv (h0 H1 x) (fun i σ' H' hlt p => hlt) (fun σ' H' p => Nat.le_refl _) (fun i σ' H' v H'' hlt p y => ?_) hd
    obtain ⟨rfl, rfl⟩ := y
    rw [Int.zero_add]
    exact hs i σ' H'' hlt p⟩
/-- for i in range(a, b) -/
theorem q_forR2 {ta tb' : TE} {j lo hi : Nat} (h : YD K ta σ H (.int (lo : Int))) (h' : YD K tb' σ H (.int (hi : Int))) (hn : hi ≤ 100000) (hlo : lo ≤ 100000) (Pv : Nat → L2.St → Hp → Prop) (h0 : ∀ H1, Ex H H1 → Pv 0 σ H1)
    (hs : ∀ i σ' H', i < hi - lo → Pv i σ' H' → tb { D with nx := Pv (i + 1), ct := Pv (i + 1), bk := tz D } (σ'.set j (some (.int ((lo + i : Nat) : Int)))) H') (hd : ∀ σ' H', Pv (hi - lo) σ' H' → tz D σ' H') :
    tSeq (tFor (iRng2 (tCons ta (tCons tb' tNil))) (gName j) tb) tz D σ H := h H (Ex.refl H) _ fun v H1 x hv => h' H1 x _ fun v' H2 x2 hv' =>
    ⟨(lo : Int), (hi : Int), by rw [show v = V.int (lo : Int) from hv, show v' = V.int (hi : Int) from hv'], ⟨by omega, by omega, by omega, by omega⟩, by
    have e : ((hi : Int) - (lo : Int)).toNat = hi - lo := by omega
    rw [e]
    refine loop_it (n := hi - lo) (D := { D with nx := tz D }) Pv (h0 H2 (x.trans x2)) (fun i σ' H' hlt p => hlt) (fun σ' H' p => Nat.le_refl _) (fun i σ' H' v H'' hlt p y => ?_) hd
    obtain ⟨rfl, rfl⟩ := y
    have e2 : (lo : Int) + (i : Int) = ((lo + i : Nat) : Int) := by omega
    rw [e2]
    exact hs i σ' H'' hlt p⟩
/-- for i, x in enumerate(list), enumerate(tuple) -/
theorem q_forE {j l : Nat} (h : YD K te σ H (.list ds)) (Pv : V → Nat → L2.St → Hp → Prop) (h0 : ∀ v H1, Ex H H1 → IsD K H1 (.list ds) v → Pv v 0 σ H1) (hG : ∀ v i σ' H', Pv v i σ' H' → IsD K H' (.list ds) v)
    (hs : ∀ w i d v σ' H' H'', ds[i]? = some d → Pv w i σ' H' → Ex H' H'' → IsD K H'' d v → tb { D with nx := Pv w (i + 1), ct := Pv w (i + 1), bk := tz D } ((σ'.set j (some (.int (i : Int)))).set l (some v)) H'') (hd : ∀ w σ' H', Pv w ds.length σ' H' → tz D σ' H') :
    tSeq (tFor (iEnum K (tCons te tNil)) (gTup K 2 (gCons (gName j) (gCons (gName l) gNil))) tb) tz D σ H := h H (Ex.refl H) _ fun w H1 x hi => by
  obtain ⟨a, vs, rfl, hp, hi'⟩ := id hi
  refine ⟨a, vs, rfl, hp, loop_it (n := ds.length) (D := { D with nx := tz D }) (Pv (.ref a)) (h0 _ H1 x hi) (fun i σ' H' hlt p => ?_) (fun σ' H' p => ?_) (fun i σ' H' v H'' hlt p y => ?_) (hd _)⟩
  · obtain ⟨b, ws, e1, h2, h3⟩ := hG _ i σ' H' p
    cases e1
    obtain ⟨w, hw, _⟩ := h3.get (List.getElem?_eq_getElem hlt)
    exact ⟨ws, w, h2, hw⟩
  · obtain ⟨b, ws, e1, h2, h3⟩ := hG _ _ σ' H' p
    cases e1
    exact ⟨ws, h2, Nat.le_of_eq h3.length⟩
  · obtain ⟨b, ws, e1, h2, h3⟩ := hG _ i σ' H' p
    cases e1
    obtain ⟨T, u, rfl, nT, rfl, y⟩ := y
    obtain ⟨d, hd1, hd2⟩ := h3.getV (y ws h2)
    exact ⟨T, [.int (i : Int), u], rfl, st_of upd_same, rfl, _, _, rfl, _, _, rfl, rfl, hs _ i d u σ' H' _ hd1 p (Ex.new nT) (IsD.ex (Ex.new nT) d u hd2)⟩
theorem q_forET {j l : Nat} (h : YD K te σ H (.tuple ds)) (Pv : V → Nat → L2.St → Hp → Prop) (h0 : ∀ v H1, Ex H H1 → IsD K H1 (.tuple ds) v → Pv v 0 σ H1) (hG : ∀ v i σ' H', Pv v i σ' H' → IsD K H' (.tuple ds) v)
    (hs : ∀ w i d v σ' H' H'', ds[i]? = some d → Pv w i σ' H' → Ex H' H'' → IsD K H'' d v → tb { D with nx := Pv w (i + 1), ct := Pv w (i + 1), bk := tz D } ((σ'.set j (some (.int (i : Int)))).set l (some v)) H'') (hd : ∀ w σ' H', Pv w ds.length σ' H' → tz D σ' H') :
    tSeq (tFor (iEnumT K (tCons te tNil)) (gTup K 2 (gCons (gName j) (gCons (gName l) gNil))) tb) tz D σ H := h H (Ex.refl H) _ fun w H1 x hi => by
  obtain ⟨a, vs, rfl, hp, hi'⟩ := id hi
  refine ⟨a, vs, rfl, st_of hp, loop_it (n := ds.length) (D := { D with nx := tz D }) (Pv (.ref a)) (h0 _ H1 x hi) (fun i σ' H' hlt p => ?_) (fun σ' H' p => ?_) (fun i σ' H' v H'' hlt p y => ?_) (hd _)⟩
  · obtain ⟨b, ws, e1, h2, h3⟩ := hG _ i σ' H' p
    cases e1
    obtain ⟨w, hw, _⟩ := h3.get (List.getElem?_eq_getElem hlt)
    exact ⟨ws, w, st_of h2, hw⟩
  · obtain ⟨b, ws, e1, h2, h3⟩ := hG _ _ σ' H' p
    cases e1
    exact ⟨ws, st_of h2, h3.length⟩
  · obtain ⟨b, ws, e1, h2, h3⟩ := hG _ i σ' H' p
    cases e1
    obtain ⟨T, u, rfl, nT, rfl, y⟩ := y
    obtain ⟨d, hd1, hd2⟩ := h3.getV (y ws (st_of h2))
    exact ⟨T, [.int (i : Int), u], rfl, st_of upd_same, rfl, _, _, rfl, _, _, rfl, rfl, hs _ i d u σ' H' _ hd1 p (Ex.new nT) (IsD.ex (Ex.new nT) d u hd2)⟩
/-! ### comprehensions -/
/-- what is given of n turns -/
def compD (n : Nat) (f : Nat → Bool) (c : Nat → PyData) : List PyData := ((List.range n).filter f).map c
theorem compD_yes {n : Nat} {f : Nat → Bool} {c : Nat → PyData} (h : f n = true) : compD (n + 1) f c = compD n f c ++ [c n] := by
  unfold compD
  rw [List.range_succ, List.filter_append, List.map_append, List.filter_cons, if_pos h]
  rfl
theorem compD_no {n : Nat} {f : Nat → Bool} {c : Nat → PyData} (h : f n = false) : compD (n + 1) f c = compD n f c := by
  unfold compD
  rw [List.range_succ, List.filter_append, List.map_append, List.filter_cons, if_neg (by rw [h]; decide)]
  show _ ++ [] = _
  rw [List.append_nil]
theorem compD_len (n : Nat) (f : Nat → Bool) (c : Nat → PyData) : (compD n f c).length ≤ n := by
  unfold compD
  rw [List.length_map]
  have h := List.length_filter_le f (List.range n)
  rw [List.length_range] at h
  exact h
/-- the list that grows at Dl, all else standing as in H -/
def Gw (K : PySem.W.Frag) (H : Hp) (Dl : Addr) (i : Nat) (f : Nat → Bool) (c : Nat → PyData) (H' : Hp) : Prop := H Dl = Option.none ∧ Ex H H' ∧ OL K H' Dl (compD i f c)
theorem gw_turn {f : Nat → Bool} {c : Nat → PyData} {Dl : Addr} {i : Nat} {σ2 : L2.St} {H'' : Hp} (q : Gw K H Dl i f c H') (x : Ex H' H'') (hi : i < 50000) (ht : EvT tt σ2 H'' (f i)) (he : f i = true → YD K te σ2 H'' (c i)) (hn : f i = true → noL (c i) = true) :
    tt σ2 H'' fun b H3 => if b = true then te σ2 H3 fun y H4 => ∃ acc, H4 Dl = some (.lst acc) ∧ acc.length < sizeLine ∧ Gw K H Dl (i + 1) f c (upd H4 Dl (.lst (acc ++ [y]))) else Gw K H Dl (i + 1) f c H3 := by
  obtain ⟨q1, q2, q3⟩ := q
  refine ht H'' (Ex.refl _) _ fun H3 e3 => ?_
  cases hf : f i with
  | true =>
    show te σ2 H3 fun y H4 => ∃ acc, H4 Dl = some (.lst acc) ∧ acc.length < sizeLine ∧ Gw K H Dl (i + 1) f c (upd H4 Dl (.lst (acc ++ [y])))
    refine he hf H3 e3 _ fun y H4 e4 hy => ?_
    obtain ⟨vs, k1, k2, k3⟩ := q3.ex ((x.trans e3).trans e4)
    refine ⟨vs, k1, by rw [k2.length]; exact sz_lt (by have := compD_len i f c; omega), q1, Ex.mut (q2.trans ((x.trans e3).trans e4)) q1, ?_⟩
    rw [compD_yes hf]
    exact ⟨_, upd_same, (IsDs.exb Exb.upd (lst_noTup k1) _ vs k3 k2).append (isDs_one (IsD.exb Exb.upd (lst_noTup k1) _ y (hn hf) hy)), noLs_append k3 (noLs_one (hn hf))⟩
  | false =>
    show Gw K H Dl (i + 1) f c H3
    refine ⟨q1, q2.trans (x.trans e3), ?_⟩
    rw [compD_no hf]
    exact q3.ex (x.trans e3)
/-- [e for x in list if t] -/
theorem yn_lcL {j : Nat} {vs : List Nat} (f : Nat → Bool) (c : Nat → PyData) (h : YD K tl σ H (.list ds)) (hz : ds.length ≤ 40000) (hw : ∀ x, wipe ((wipe σ vs).set j (some x)) vs = wipe σ vs)
    (ht : ∀ i d v H1, Ex H H1 → ds[i]? = some d → IsD K H1 d v → EvT tt ((wipe σ vs).set j (some v)) H1 (f i))
    (he : ∀ i d v H1, Ex H H1 → ds[i]? = some d → IsD K H1 d v → f i = true → YD K te ((wipe σ vs).set j (some v)) H1 (c i)) (hn : ∀ i, i < ds.length → f i = true → noL (c i) = true) :
    YN K (tLc (iList K tl) (gName j) tt te vs) σ H (compD ds.length f c) := fun H0 x0 Q q => h H0 x0 _ fun w H1 x1 hi => by
  obtain ⟨a, ws, rfl, hp, hi'⟩ := id hi
  refine ⟨a, rfl, ⟨ws, hp⟩, fun Dl hD => lcl_it (n := ds.length) (fun i H' => Gw K H1 Dl i f c H') ⟨hD, Ex.new hD, ⟨[], upd_same, rfl, rfl⟩⟩ (fun i H' hlt p => ?_) (fun H' p => ?_) (fun i H' v H'' hlt p y => ?_) (fun H' p => ?_)⟩
  · obtain ⟨u, hu, _⟩ := hi'.get (List.getElem?_eq_getElem hlt)
    exact ⟨ws, u, ex_l p.2.1 hp, hu⟩
  · exact ⟨ws, ex_l p.2.1 hp, Nat.le_of_eq hi'.length⟩
  · obtain ⟨rfl, y⟩ := y
    obtain ⟨d, hd1, hd2⟩ := hi'.getV (y ws (ex_l p.2.1 hp))
    have x : Ex H H'' := (x0.trans x1).trans p.2.1
    exact ⟨hw v, gw_turn p (Ex.refl _) (by omega) (ht i d v _ x hd1 (IsD.ex p.2.1 d v hd2)) (fun hf => he i d v _ x hd1 (IsD.ex p.2.1 d v hd2) hf) (hn i hlt)⟩
  · obtain ⟨vs', k1, k2, _⟩ := p.2.2
    exact q Dl vs' H' (fresh_back x1 p.1) (x1.trans p.2.1) k1 k2
/-- [e for x in tuple if t] -/
theorem yn_lcT {j : Nat} {vs : List Nat} (f : Nat → Bool) (c : Nat → PyData) (h : YD K tl σ H (.tuple ds)) (hz : ds.length ≤ 40000) (hw : ∀ x, wipe ((wipe σ vs).set j (some x)) vs = wipe σ vs)
    (ht : ∀ i d v H1, Ex H H1 → ds[i]? = some d → IsD K H1 d v → EvT tt ((wipe σ vs).set j (some v)) H1 (f i))
    (he : ∀ i d v H1, Ex H H1 → ds[i]? = some d → IsD K H1 d v → f i = true → YD K te ((wipe σ vs).set j (some v)) H1 (c i)) (hn : ∀ i, i < ds.length → f i = true → noL (c i) = true) :
    YN K (tLc (iTup K tl) (gName j) tt te vs) σ H (compD ds.length f c) := fun H0 x0 Q q => h H0 x0 _ fun w H1 x1 hi => by
  obtain ⟨a, ws, rfl, hp, hi'⟩ := id hi
  refine ⟨a, rfl, ⟨ws, st_of hp⟩, fun Dl hD => lcl_it (n := ds.length) (fun i H' => Gw K H1 Dl i f c H') ⟨hD, Ex.new hD, ⟨[], upd_same, rfl, rfl⟩⟩ (fun i H' hlt p => ?_) (fun H' p => ?_) (fun i H' v H'' hlt p y => ?_) (fun H' p => ?_)⟩
  · obtain ⟨u, hu, _⟩ := hi'.get (List.getElem?_eq_getElem hlt)
    exact ⟨ws, u, ex_t p.2.1 (st_of hp), hu⟩
  · exact ⟨ws, ex_t p.2.1 (st_of hp), Nat.le_of_eq hi'.length⟩
  · obtain ⟨rfl, y⟩ := y
    obtain ⟨d, hd1, hd2⟩ := hi'.getV (y ws (ex_t p.2.1 (st_of hp)))
    have x : Ex H H'' := (x0.trans x1).trans p.2.1
    exact ⟨hw v, gw_turn p (Ex.refl _) (by omega) (ht i d v _ x hd1 (IsD.ex p.2.1 d v hd2)) (fun hf => he i d v _ x hd1 (IsD.ex p.2.1 d v hd2) hf) (hn i hlt)⟩
  · obtain ⟨vs', k1, k2, _⟩ := p.2.2
    exact q Dl vs' H' (fresh_back x1 p.1) (x1.trans p.2.1) k1 k2
/-- [e for i in range(n) if t] -/
theorem yn_lcR {j n : Nat} {vs : List Nat} (f : Nat → Bool) (c : Nat → PyData) (h : YD K tl σ H (.int (n : Int))) (hz : n ≤ 40000) (hw : ∀ x, wipe ((wipe σ vs).set j (some x)) vs = wipe σ vs)
    (ht : ∀ i H1, Ex H H1 → i < n → EvT tt ((wipe σ vs).set j (some (.int (i : Int)))) H1 (f i))
    (he : ∀ i H1, Ex H H1 → i < n → f i = true → YD K te ((wipe σ vs).set j (some (.int (i : Int)))) H1 (c i)) (hn : ∀ i, i < n → f i = true → noL (c i) = true) :
    YN K (tLc (iRng1 (tCons tl tNil)) (gName j) tt te vs) σ H (compD n f c) := fun H0 x0 Q q => h H0 x0 _ fun w H1 x1 hi => by
  refine ⟨(n : Int), by rw [show w = V.int (n : Int) from hi], by omega, by omega, ?_⟩
  rw [Int.toNat_natCast]
  refine fun Dl hD => lcl_it (n := n) (fun i H' => Gw K H1 Dl i f c H') ⟨hD, Ex.new hD, ⟨[], upd_same, rfl, rfl⟩⟩ (fun i H' hlt p => hlt) (fun H' p => Nat.le_refl _) (fun i H' v H'' hlt p y => ?_) (fun H' p => ?_)
  · obtain ⟨rfl, rfl⟩ := y
    have x : Ex H H'' := (x0.trans x1).trans p.2.1
    rw [Int.zero_add]
    exact ⟨hw _, gw_turn p (Ex.refl _) (by omega) (ht i _ x hlt) (fun hf => he i _ x hlt hf) (hn i hlt)⟩
  · obtain ⟨vs', k1, k2, _⟩ := p.2.2
    exact q Dl vs' H' (fresh_back x1 p.1) (x1.trans p.2.1) k1 k2
/-- [e for c in text] -/
theorem yn_lcS {j : Nat} {vs : List Nat} {z : Str} (f : Nat → Bool) (c : Nat → PyData) (h : YD K tl σ H (.str z)) (hz : z.cps.size ≤ 40000) (hw : ∀ x, wipe ((wipe σ vs).set j (some x)) vs = wipe σ vs)
    (ht : ∀ (i : Nat) (k : Nat) H1, Ex H H1 → z.cps[i]? = some k → EvT tt ((wipe σ vs).set j (some (.str ⟨#[k]⟩))) H1 (f i))
    (he : ∀ (i : Nat) (k : Nat) H1, Ex H H1 → z.cps[i]? = some k → f i = true → YD K te ((wipe σ vs).set j (some (.str ⟨#[k]⟩))) H1 (c i)) (hn : ∀ i, i < z.cps.size → f i = true → noL (c i) = true) :
    YN K (tLc (iStr tl) (gName j) tt te vs) σ H (compD z.cps.size f c) := fun H0 x0 Q q => h H0 x0 _ fun w H1 x1 hi => by
  refine ⟨z, hi, ?_⟩
  refine fun Dl hD => lcl_it (n := z.cps.size) (fun i H' => Gw K H1 Dl i f c H') ⟨hD, Ex.new hD, ⟨[], upd_same, rfl, rfl⟩⟩ (fun i H' hlt p => hlt) (fun H' p => Nat.le_refl _) (fun i H' v H'' hlt p y => ?_) (fun H' p => ?_)
  · obtain ⟨rfl, k, hk, rfl⟩ := y
    have x : Ex H H'' := (x0.trans x1).trans p.2.1
    exact ⟨hw _, gw_turn p (Ex.refl _) (by omega) (ht i k _ x hk) (fun hf => he i k _ x hk hf) (hn i hlt)⟩
  · obtain ⟨vs', k1, k2, _⟩ := p.2.2
    exact q Dl vs' H' (fresh_back x1 p.1) (x1.trans p.2.1) k1 k2
theorem et_yes : EvT tYes σ H true := fun H1 _ _ q => q H1 (Ex.refl H1)
end
/-! ### promises -/
def PSp (K : PySem.W.Frag) (G : List PyData → (PyData → Prop) → Prop) : Sp := fun vs H Q _ => ∃ ds R, IsDs K H ds vs ∧ G ds R ∧ ∀ d v H', Ex H H' → IsD K H' d v → R d → Q v H'
/-- a new list -/
def PSpL (K : PySem.W.Frag) (G : List PyData → (List PyData → Prop) → Prop) : Sp := fun vs H Q _ => ∃ ds R, IsDs K H ds vs ∧ G ds R ∧ ∀ es ws p H', H p = Option.none → Ex H H' → H' p = some (.lst ws) → IsDs K H' es ws → R es → Q (.ref p) H'
section
variable {K : PySem.W.Frag} {σ : L2.St} {H : Hp} {tas : TA} {d : PyData} {ds es : List PyData} {R : PyData → Prop}
theorem yr_call {G : List PyData → (PyData → Prop) → Prop} (h : YA K tas σ H ds) (hG : G ds R) : YR K (tCall (PSp K G) [] E0 tas) σ H R := fun H1 x Q q =>
  h H1 x _ fun vs H2 x2 hi => ⟨ds, R, by rw [List.append_nil]; exact hi, hG, fun d v H3 x3 hd hr => q d v H3 (x2.trans x3) hd hr⟩
theorem yd_call {G : List PyData → (PyData → Prop) → Prop} (h : YA K tas σ H ds) (hG : G ds (· = d)) : YD K (tCall (PSp K G) [] E0 tas) σ H d := fun H1 x Q q =>
  yr_call h hG H1 x Q fun d' v H2 x2 hd hr => by
    subst hr
    exact q v H2 x2 hd
theorem yn_call {G : List PyData → (List PyData → Prop) → Prop} (h : YA K tas σ H ds) (hG : G ds (· = es)) : YN K (tCall (PSpL K G) [] E0 tas) σ H es := fun H1 x Q q =>
  h H1 x _ fun vs H2 x2 hi => ⟨ds, _, by rw [List.append_nil]; exact hi, hG, fun es' ws p H3 np x3 hp hd hr => by
    subst hr
    exact q p ws H3 (fresh_back x2 np) (x2.trans x3) hp hd⟩
end
/-- a def keeps a promise, wherever it stands -/
def Gv (P : Program) (w : World) (K : PySem.W.Frag) (mg : Str → Option Value) (base : Heap) (CX : CXT) (k : Nat) (x : Str) (ps : List Str) (sp : Sp) : Prop :=
  ∃ fd : FuncData, FnOk P w K mg base CX k (He.ga K x) fd ps sp ∧ Binds K fd ps [] ∧ PySem.W.keepIn K (.ref (He.ga K x)) = true ∧ mg x = some (.ref (He.ga K x))
theorem pe_g {X : Cx} {k k' : Nat} {x : Str} {ps : List Str} {sp : Sp} {e : Expr} {es : List Expr} {t : TA} {p pos : Pos} (G : Gv X.prog X.w X.K X.mg X.base CX0 k x ps sp) (hr : Room k' X.A) (hle : k ≤ k') (hg : Gl X x) (ha : PA X (e :: es) t)
    (hdb : (x == ("__debug__" : Str)) = false := by decide) (he : starEach (e :: es) X.env = (false, eval e X.env) :: starEach es X.env := by rfl) (hpl : (backTo pos (starEach es X.env)).any (·.1) = false := by rfl) :
    PE X (.Call (.Name x p) (e :: es) [] pos) (tCall sp [] E0 t) := by
  obtain ⟨fd, F, b, kp, gm⟩ := G
  exact pe_call F (hr.mono hle) hg gm kp b .nil pass0 ha hdb he hpl
/-- the written part: what the head found -/
structure Tz (K : PySem.W.Frag) (mg : Str → Option Value) : Prop where
  ex : ∃ h : Heap, K.In h ∧ h.Ns mainGlobals mg ∧ SaysY K
theorem Tz.d {K : PySem.W.Frag} {mg : Str → Option Value} (T : Tz K mg) : He.SaysD fa fn K := by
  obtain ⟨h, _, _, c⟩ := T.ex
  exact congrArg (fun z : AlY => z.1) c
theorem Tz.xb {K : PySem.W.Frag} {mg : Str → Option Value} (T : Tz K mg) : exB K = true := by
  obtain ⟨h, _, _, c⟩ := T.ex
  exact congrArg (fun z : AlY => z.2) c
theorem Tz.glo {K : PySem.W.Frag} {mg : Str → Option Value} (T : Tz K mg) {x : Str} (i : Nat) (h : fa[i]? = some (.glo x) := by rfl) : mg x = some (.ref (He.ga K x)) := by
  obtain ⟨hp, X, G, _⟩ := T.ex
  exact He.glo_ok X G (T.d.fact i h)
theorem Tz.free {K : PySem.W.Frag} {mg : Str → Option Value} (T : Tz K mg) {x : Str} (i : Nat) (h : fa[i]? = some (.free x) := by rfl) : mg x = Option.none := by
  obtain ⟨hp, X, G, _⟩ := T.ex
  exact He.free_ok X G (T.d.fact i h)
theorem Tz.int {K : PySem.W.Frag} {mg : Str → Option Value} (T : Tz K mg) {x : Str} {n : Int} (i : Nat) (h : fa[i]? = some (.int x n) := by rfl) : ∃ t, mg x = some (.int n t) := by
  obtain ⟨hp, X, G, _⟩ := T.ex
  exact He.int_ok X G (T.d.fact i h)
theorem Tz.str {K : PySem.W.Frag} {mg : Str → Option Value} (T : Tz K mg) {x z : Str} (i : Nat) (h : fa[i]? = some (.str x z) := by rfl) : ∃ t, mg x = some (.str z t) := by
  obtain ⟨hp, X, G, _⟩ := T.ex
  exact He.str_ok X G (T.d.fact i h)
/-- from the def's own proof to Gv -/
theorem gv_mk {P : Program} {w : World} {K : PySem.W.Frag} {mg : Str → Option Value} {base : Heap} {CX : CXT} {k : Nat} {x nm qual : Str} {args : Arguments} {body : List Stmt} {sc : Scope} {ps N : List Str} {sp : Sp} {fd : FuncData}
    (F : FunD K nm qual args body sc [] [] (He.ga K x) fd) (g : mg x = some (.ref (He.ga K x))) (S : FnScope N ps sc)
    (hb : ∀ (kV doc pm : Value) (an : Option Addr) (cdv ct : Value) (us : List Value), us.length = ps.length → bindArgs (PySem.W.fnOf nm qual args body sc .none kV doc pm an cdv ct) ⟨us, []⟩ = pure (ps.zip us))
    (len : ∀ vs H Q E, sp vs H Q E → vs.length = ps.length)
    (hbody : ∀ (f : Addr) (cdv : Value) (A : Around) (outer : List Env) (s : Shared) (H : Hp) (vs : List V) (Q : VK) (E : XK), Room k (A.deeper (envOfC qual sc s.heap.objs.size f cdv)) → sp vs H Q E →
      ∃ t, PSs (cxOf CX P w K mg base N qual sc f cdv A outer s H E) body t ∧ t { nx := fun _ H' => Q .non H', rt := Q } (start N vs) H) : Gv P w K mg base CX (k + 1) x ps sp :=
  ⟨fd, F.ok S len fun cdv A outer s H vs Q E hr h => hbody _ cdv A outer s H vs Q E hr h, F.bindsN hb, F.kp, g⟩
theorem psp_len {K : PySem.W.Frag} {G : List PyData → (PyData → Prop) → Prop} {n : Nat} (hn : ∀ ds R, G ds R → ds.length = n) (vs : List V) (H : Hp) (Q : VK) (E : XK) (h : PSp K G vs H Q E) : vs.length = n := by
  obtain ⟨ds, R, hi, hg, _⟩ := h
  rw [hi.length]
  exact hn ds R hg
theorem pspl_len {K : PySem.W.Frag} {G : List PyData → (List PyData → Prop) → Prop} {n : Nat} (hn : ∀ ds R, G ds R → ds.length = n) (vs : List V) (H : Hp) (Q : VK) (E : XK) (h : PSpL K G vs H Q E) : vs.length = n := by
  obtain ⟨ds, R, hi, hg, _⟩ := h
  rw [hi.length]
  exact hn ds R hg
/-! ### readings by names -/
abbrev rSubI : R2 := rI0 fun i j => .int (i - j)
abbrev rModI : R2 := rI (fun _ j => 0 < j) fun i j => .int (i % j)
abbrev rDivI : R2 := rI CDiv fun i j => .int (i / j)
abbrev rPowI : R2 := rI CPow fun i j => .int (i ^ j.toNat)
abbrev rLtI : R2 := rI0 fun i j => .bl (decide (i < j))
abbrev rLeI : R2 := rI0 fun i j => .bl (decide (i ≤ j))
abbrev rGtI : R2 := rI0 fun i j => .bl (decide (j < i))
abbrev rGeI : R2 := rI0 fun i j => .bl (decide (j ≤ i))
abbrev rIsNo : R2 := fun x y H Q => y = .non ∧ Q (.bl (decide (x = .non))) H
abbrev rNotNo : R2 := fun x y H Q => y = .non ∧ Q (.bl (!decide (x = .non))) H
abbrev rInS : R2 := fun x y H Q => ∃ (c : Nat) (z : Str), x = .str ⟨#[c]⟩ ∧ y = .str z ∧ Q (.bl (decide (c ∈ z.cps.toList))) H
abbrev rLenU (K : PySem.W.Frag) : List V → Hp → VK → Prop := fun xs H Q => ∃ x n, xs = [x] ∧ LenV K x H n ∧ Q (.int n) H
abbrev rIntU : List V → Hp → VK → Prop := fun xs H Q => (∃ i, xs = [.int i] ∧ Q (.int i) H) ∨ ∃ k, xs = [.bl k] ∧ Q (.int (if k then 1 else 0)) H
abbrev rListU (K : PySem.W.Frag) : List V → Hp → VK → Prop := fun xs H Q => ∃ p ys, xs = [.ref p] ∧ (SqL K H p ys ∨ SqT K H p ys) ∧ ∀ l, H l = Option.none → Q (.ref l) (upd H l (.lst ys))
abbrev rTupU (K : PySem.W.Frag) : List V → Hp → VK → Prop := fun xs H Q => ∃ p ys, xs = [.ref p] ∧ ((SqL K H p ys ∧ ∀ l, H l = Option.none → Q (.ref l) (upd H l (.tup ys))) ∨ (SqT K H p ys ∧ Q (.ref p) H))
abbrev rMax2 : List V → Hp → VK → Prop := fun xs H Q => ∃ i j, xs = [.int i, .int j] ∧ Q (.int (if j > i then j else i)) H
abbrev rMin2 : List V → Hp → VK → Prop := fun xs H Q => ∃ i j, xs = [.int i, .int j] ∧ Q (.int (if j < i then j else i)) H
/-- slices of lists, tuples -/
def rSlU (K : PySem.W.Frag) : V → Option Int → Option Int → Hp → VK → Prop := fun x lo hi H Q => rSlL K x lo hi H Q ∨ rSlA K x lo hi H Q
theorem sl_u {X : Cx} : SlR X (rSlU X.K) := sl_list.or sl_tupA
/-- sorted of lists, tuples -/
def rSrtU (K : PySem.W.Frag) : List V → Hp → VK → Prop := fun xs H Q => rSortedI K xs H Q ∨ rSortedTI K xs H Q
theorem cr_srt {X : Cx} : CallR X (.builtin "sorted") (rSrtU X.K) := cr_sortedI.or cr_sortedTI
end Ct

/-! # CtDv -/
namespace Ct
open PySem PySem.Spec PyProof.Rows L2 Evl
theorem hu1_of {n : Nat} (h : n + 64 < cLine) : n + 1 < cLine := Nat.lt_of_le_of_lt (by omega) h
section
variable {P : Program} {w : World} {K : PySem.W.Frag} {mg : Str → Option Value} {base : Heap} (T : Tz K mg) {qual : Str} {f : Addr} {cdv : Value} {A : Around} {outer : List Env} {s : Shared} {H : Hp} {E : XK}
include T
/-! #### is_whole_forms (level 1) -/
abbrev t_is_whole_forms (K : PySem.W.Frag)  : TS := tRet (tAndV (tCB (rIsi K) (tCons (tVar 0) (tCons (tC (.ty "int")) (tNil)))) (tNotV (tCB (rIsi K) (tCons (tVar 0) (tCons (tC (.ty "bool")) (tNil))))))
theorem dv_is_whole_forms  (hr : Room 0 (A.deeper (envOfC qual (defScope s_is_whole_forms) s.heap.objs.size f cdv))) : PSs (cxOf CX0 P w K mg base N_is_whole_forms qual (defScope s_is_whole_forms) f cdv A outer s H E) (defBody s_is_whole_forms) (t_is_whole_forms K ) := by
  have nd := sc_is_whole_forms.nd
  have hu := hr.units
  have hu1 := hu1_of hr.units
  exact pss_one (ps_ret (pe_and (pe_callB call_isi (by rfl) (T.free 61) (by decide +kernel) (pa_cons (pv 0) (pa_cons (pe_bltn (v := .ty "int") (by rfl) (T.free 64) (by decide +kernel) rfl) (pa_nil)))) (pe_one (pe_not (pe_callB call_isi (by rfl) (T.free 61) (by decide +kernel) (pa_cons (pv 0) (pa_cons (pe_bltn (v := .ty "bool") (by rfl) (T.free 65) (by decide +kernel) rfl) (pa_nil))))))))
/-! #### is_within (level 2) -/
abbrev t_is_within (K : PySem.W.Frag) (q_is_whole_forms : Sp) : TS := tRet (tAndV (tCall q_is_whole_forms [] E0 (tCons (tVar 0) (tNil))) (tChain rLeI rLeI (tVar 1) (tVar 0) (tVar 2)))
theorem dv_is_within {q_is_whole_forms : Sp} (g_is_whole_forms : Gv P w K mg base CX0 1 "is_whole_forms" P_is_whole_forms q_is_whole_forms) (hr : Room 1 (A.deeper (envOfC qual (defScope s_is_within) s.heap.objs.size f cdv))) : PSs (cxOf CX0 P w K mg base N_is_within qual (defScope s_is_within) f cdv A outer s H E) (defBody s_is_within) (t_is_within K q_is_whole_forms) := by
  have nd := sc_is_within.nd
  have hu := hr.units
  have hu1 := hu1_of hr.units
  exact pss_one (ps_ret (pe_and (pe_g g_is_whole_forms hr (by decide) (by rfl) (pa_cons (pv 0) (pa_nil))) (pe_one (pe_chain op_le op_le (pv 1) (pv 0) (pv 2)))))
/-! #### is_word (level 1) -/
abbrev t_is_word (K : PySem.W.Frag)  : TS := tSeq (tIfS (tOr (tNot (tB (tCB (rIsi K) (tCons (tVar 0) (tCons (tC (.ty "str")) (tNil)))))) (tOr (tTest (tOp rLtI (tCB (rLenU K) (tCons (tVar 0) (tNil))) (tC (.int 1)))) (tTest (tOp rGtI (tCB (rLenU K) (tCons (tVar 0) (tNil))) (tC (.int 8)))))) (tRet (tC (.bl false))) (tNext)) (tRet (tCB (rAll K) (tCons (tLc (iStr (tVar 0)) (gName 1) (tYes) (tOp rInS (tVar 1) (tC (.str "abcdefghijklmnopqrstuvwxyz"))) [1]) (tNil))))
theorem dv_is_word  (hr : Room 0 (A.deeper (envOfC qual (defScope s_is_word) s.heap.objs.size f cdv))) : PSs (cxOf CX0 P w K mg base N_is_word qual (defScope s_is_word) f cdv A outer s H E) (defBody s_is_word) (t_is_word K ) := by
  have nd := sc_is_word.nd
  have hu := hr.units
  have hu1 := hu1_of hr.units
  exact pss_cons (ps_if ((pw_or (pt_not (pt_val (pe_callB call_isi (by rfl) (T.free 61) (by decide +kernel) (pa_cons (pv 0) (pa_cons (pe_bltn (v := .ty "str") (by rfl) (T.free 66) (by decide +kernel) rfl) (pa_nil)))))) (pw_or (pt_cmpR op_lt (pe_callB call_len (by rfl) (T.free 62) (by decide +kernel) (pa_cons (pv 0) (pa_nil))) (pe_int) (nomark _)) (pw_or1 (pt_cmpR op_gt (pe_callB call_len (by rfl) (T.free 62) (by decide +kernel) (pa_cons (pv 0) (pa_nil))) (pe_glob (v := .int 8) (by rfl) (T.int 77 (x := "MOST_LONG")).choose_spec ⟨_, rfl⟩) (nomark _))))).pt) (pss_one (ps_ret (pe_bl))) (pss_nil)) (pss_one (ps_ret (pe_callB (cr_all rfl) (by rfl) (T.free 63) (by decide +kernel) (pa_cons (pe_lc (own := [("sign", 1)]) rfl nd (pi_str (pv 0)) (blkOk_by (own := [("sign", 1)]) (N := N_is_word) (sc := defScope s_is_word) (by decide +kernel)) (fun _ _ _ _ _ => pg_name (i := 1) nd rfl (by first | exact Or.inl rfl | exact Or.inr rfl)) (fun _ _ _ _ _ => pts_nil) (fun _ _ _ _ _ => pe_cmpR op_in_sign (pv 1) (pe_glob (v := .str "abcdefghijklmnopqrstuvwxyz") (by rfl) (T.str 78 (x := "LETTERS")).choose_spec ⟨_, rfl⟩) rfl)) (pa_nil)))))
/-! #### is_sign (level 2) -/
abbrev t_is_sign (K : PySem.W.Frag) (q_is_word : Sp) : TS := tRet (tAndV (tCall q_is_word [] E0 (tCons (tVar 0) (tNil))) (tOp (rEqU K) (tCB (rLenU K) (tCons (tVar 0) (tNil))) (tC (.int 1))))
theorem dv_is_sign {q_is_word : Sp} (g_is_word : Gv P w K mg base CX0 1 "is_word" P_is_word q_is_word) (hr : Room 1 (A.deeper (envOfC qual (defScope s_is_sign) s.heap.objs.size f cdv))) : PSs (cxOf CX0 P w K mg base N_is_sign qual (defScope s_is_sign) f cdv A outer s H E) (defBody s_is_sign) (t_is_sign K q_is_word) := by
  have nd := sc_is_sign.nd
  have hu := hr.units
  have hu1 := hu1_of hr.units
  exact pss_one (ps_ret (pe_and (pe_g g_is_word hr (by decide) (by rfl) (pa_cons (pv 0) (pa_nil))) (pe_one (pe_cmpR (op_eqU hu) (pe_callB call_len (by rfl) (T.free 62) (by decide +kernel) (pa_cons (pv 0) (pa_nil))) (pe_int) (nomark _)))))
/-! #### is_tuple (level 1) -/
abbrev t_is_tuple (K : PySem.W.Frag)  : TS := tRet (tAndV (tCB (rIsi K) (tCons (tVar 0) (tCons (tC (.ty "tuple")) (tNil)))) (tOp (rEqU K) (tCB (rLenU K) (tCons (tVar 0) (tNil))) (tVar 1)))
theorem dv_is_tuple  (hr : Room 0 (A.deeper (envOfC qual (defScope s_is_tuple) s.heap.objs.size f cdv))) : PSs (cxOf CX0 P w K mg base N_is_tuple qual (defScope s_is_tuple) f cdv A outer s H E) (defBody s_is_tuple) (t_is_tuple K ) := by
  have nd := sc_is_tuple.nd
  have hu := hr.units
  have hu1 := hu1_of hr.units
  exact pss_one (ps_ret (pe_and (pe_callB call_isi (by rfl) (T.free 61) (by decide +kernel) (pa_cons (pv 0) (pa_cons (pe_bltn (v := .ty "tuple") (by rfl) (T.free 67) (by decide +kernel) rfl) (pa_nil)))) (pe_one (pe_cmpR (op_eqU hu) (pe_callB call_len (by rfl) (T.free 62) (by decide +kernel) (pa_cons (pv 0) (pa_nil))) (pv 1) (nomark _)))))
/-! #### answer (level 1) -/
abbrev t_answer (K : PySem.W.Frag)  : TS := tSeq (tFor (iTup K (tOp (rIx K) (tOp (rIx K) (tOp (rIx K) (tVar 0) (tC (.int 0))) (tVar 1)) (tC (.int 1)))) (gName 4) (tIfS (tAnd (tTest (tOp (rEqU K) (tOp (rIx K) (tVar 4) (tC (.int 0))) (tVar 2))) (tTest (tOp (rEqU K) (tOp (rIx K) (tVar 4) (tC (.int 1))) (tVar 3)))) (tRet (tTup (tCons (tOp (rIx K) (tVar 4) (tC (.int 2))) (tCons (tOp (rIx K) (tVar 4) (tC (.int 3))) (tCons (tOp (rIx K) (tVar 4) (tC (.int 4))) (tNil)))))) (tNext))) (tSeq (tIfS (tTest (tOp (rEqU K) (tVar 3) (tC (.str "own")))) (tRet (tC .non)) (tNext)) (tRet (tTup (tCons (tVar 2) (tCons (tTup (tNil)) (tCons (tC .non) (tNil)))))))
theorem dv_answer  (hr : Room 0 (A.deeper (envOfC qual (defScope s_answer) s.heap.objs.size f cdv))) : PSs (cxOf CX0 P w K mg base N_answer qual (defScope s_answer) f cdv A outer s H E) (defBody s_answer) (t_answer K ) := by
  have nd := sc_answer.nd
  have hu := hr.units
  have hu1 := hu1_of hr.units
  exact pss_cons (ps_for (passes_of rfl) rfl (pi_tup (pe_ix ix_seq (pe_ix ix_seq (pe_ix ix_seq (pv 0) (pe_int) (fun _ _ => rfl)) (pv 1) (fun _ _ => rfl)) (pe_int) (fun _ _ => rfl))) (pg_name (i := 4) nd rfl (by first | exact Or.inl rfl | exact Or.inr rfl)) (pss_one (ps_if ((pw_and (pt_cmpR (op_eqU hu) (pe_ix ix_seq (pv 4) (pe_int) (fun _ _ => rfl)) (pv 2) (nomark _)) (pw_and1 (pt_cmpR (op_eqU hu) (pe_ix ix_seq (pv 4) (pe_int) (fun _ _ => rfl)) (pv 3) (nomark _)))).pt) (pss_one (ps_ret (pe_tup (pa_cons (pe_ix ix_seq (pv 4) (pe_int) (fun _ _ => rfl)) (pa_cons (pe_ix ix_seq (pv 4) (pe_int) (fun _ _ => rfl)) (pa_cons (pe_ix ix_seq (pv 4) (pe_int) (fun _ _ => rfl)) (pa_nil))))))) (pss_nil)))) (pss_cons (ps_if (pt_cmpR (op_eqU hu) (pv 3) (pe_str) (nomark _)) (pss_one (ps_ret (pe_non))) (pss_nil)) (pss_one (ps_ret (pe_tup (pa_cons (pv 2) (pa_cons (pe_tup (pa_nil)) (pa_cons (pe_non) (pa_nil))))))))
/-! #### is_letter (level 3) -/
abbrev t_is_letter (K : PySem.W.Frag) (q_is_tuple : Sp) (q_is_within : Sp) (q_is_sign : Sp) : TS := tRet (tAndV (tCall q_is_tuple [] E0 (tCons (tVar 0) (tCons (tC (.int 2)) (tNil)))) (tAndV (tCall q_is_within [] E0 (tCons (tOp (rIx K) (tVar 0) (tC (.int 0))) (tCons (tC (.int 0)) (tCons (tOp (rSubI) (tVar 1) (tC (.int 1))) (tNil))))) (tCall q_is_sign [] E0 (tCons (tOp (rIx K) (tVar 0) (tC (.int 1))) (tNil)))))
theorem dv_is_letter {q_is_tuple : Sp} (g_is_tuple : Gv P w K mg base CX0 1 "is_tuple" P_is_tuple q_is_tuple) {q_is_within : Sp} (g_is_within : Gv P w K mg base CX0 2 "is_within" P_is_within q_is_within) {q_is_sign : Sp} (g_is_sign : Gv P w K mg base CX0 2 "is_sign" P_is_sign q_is_sign) (hr : Room 2 (A.deeper (envOfC qual (defScope s_is_letter) s.heap.objs.size f cdv))) : PSs (cxOf CX0 P w K mg base N_is_letter qual (defScope s_is_letter) f cdv A outer s H E) (defBody s_is_letter) (t_is_letter K q_is_tuple q_is_within q_is_sign) := by
  have nd := sc_is_letter.nd
  have hu := hr.units
  have hu1 := hu1_of hr.units
  exact pss_one (ps_ret (pe_and (pe_g g_is_tuple hr (by decide) (by rfl) (pa_cons (pv 0) (pa_cons (pe_int) (pa_nil)))) (pe_and (pe_g g_is_within hr (by decide) (by rfl) (pa_cons (pe_ix ix_seq (pv 0) (pe_int) (fun _ _ => rfl)) (pa_cons (pe_int) (pa_cons (pe_op op_sub (pv 1) (pe_int)) (pa_nil))))) (pe_one (pe_g g_is_sign hr (by decide) (by rfl) (pa_cons (pe_ix ix_seq (pv 0) (pe_int) (fun _ _ => rfl)) (pa_nil)))))))
/-! #### is_load (level 4) -/
abbrev t_is_load (K : PySem.W.Frag) (q_is_tuple : Sp) (q_is_whole_forms : Sp) (q_is_letter : Sp) : TS := tSeq (tIfS (tOr (tNot (tB (tCall q_is_tuple [] E0 (tCons (tVar 0) (tCons (tC (.int 2)) (tNil)))))) (tOr (tNot (tB (tCall q_is_whole_forms [] E0 (tCons (tOp (rIx K) (tVar 0) (tC (.int 0))) (tNil))))) (tOr (tTest (tOp rLtI (tOp (rIx K) (tVar 0) (tC (.int 0))) (tC (.int 0)))) (tNot (tB (tCB (rIsi K) (tCons (tOp (rIx K) (tVar 0) (tC (.int 1))) (tCons (tC (.ty "tuple")) (tNil))))))))) (tRet (tC (.bl false))) (tNext)) (tSeq (tAsg (tVar 0) (gTup K 2 (gCons (gName 2) (gCons (gName 3) (gNil))))) (tSeq (tIfS (tNot (tB (tCB (rAll K) (tCons (tLc (iTup K (tVar 3)) (gName 5) (tYes) (tCall q_is_letter [] E0 (tCons (tVar 5) (tCons (tVar 2) (tNil)))) [5]) (tNil))))) (tRet (tC (.bl false))) (tNext)) (tSeq (tAsg (tLc (iTup K (tVar 3)) (gName 5) (tYes) (tOp (rIx K) (tVar 5) (tC (.int 0))) [5]) (gName 4)) (tSeq (tIfS (tTest (tOp (rEqU K) (tVar 1) (tC (.str "row")))) (tRet (tOp (rEqU K) (tVar 4) (tLstRg (tRg2 (tOp (rSubI) (tVar 2) (tCB (rLenU K) (tCons (tVar 4) (tNil)))) (tVar 2))))) (tNext)) (tRet (tCB (rAll K) (tCons (tLc (iRng1 (tCons (tOp (rSubI) (tCB (rLenU K) (tCons (tVar 4) (tNil))) (tC (.int 1))) (tNil))) (gName 6) (tYes) (tOp rLtI (tOp (rIx K) (tVar 4) (tVar 6)) (tOp (rIx K) (tVar 4) (tOp (rPlus K) (tVar 6) (tC (.int 1))))) [6]) (tNil))))))))
theorem dv_is_load {q_is_tuple : Sp} (g_is_tuple : Gv P w K mg base CX0 1 "is_tuple" P_is_tuple q_is_tuple) {q_is_whole_forms : Sp} (g_is_whole_forms : Gv P w K mg base CX0 1 "is_whole_forms" P_is_whole_forms q_is_whole_forms) {q_is_letter : Sp} (g_is_letter : Gv P w K mg base CX0 3 "is_letter" P_is_letter q_is_letter) (hr : Room 3 (A.deeper (envOfC qual (defScope s_is_load) s.heap.objs.size f cdv))) : PSs (cxOf CX0 P w K mg base N_is_load qual (defScope s_is_load) f cdv A outer s H E) (defBody s_is_load) (t_is_load K q_is_tuple q_is_whole_forms q_is_letter) := by
  have nd := sc_is_load.nd
  have hu := hr.units
  have hu1 := hu1_of hr.units
  exact pss_cons (ps_if ((pw_or (pt_not (pt_val (pe_g g_is_tuple hr (by decide) (by rfl) (pa_cons (pv 0) (pa_cons (pe_int) (pa_nil)))))) (pw_or (pt_not (pt_val (pe_g g_is_whole_forms hr (by decide) (by rfl) (pa_cons (pe_ix ix_seq (pv 0) (pe_int) (fun _ _ => rfl)) (pa_nil))))) (pw_or (pt_cmpR op_lt (pe_ix ix_seq (pv 0) (pe_int) (fun _ _ => rfl)) (pe_int) (nomark _)) (pw_or1 (pt_not (pt_val (pe_callB call_isi (by rfl) (T.free 61) (by decide +kernel) (pa_cons (pe_ix ix_seq (pv 0) (pe_int) (fun _ _ => rfl)) (pa_cons (pe_bltn (v := .ty "tuple") (by rfl) (T.free 67) (by decide +kernel) rfl) (pa_nil)))))))))).pt) (pss_one (ps_ret (pe_bl))) (pss_nil)) (pss_cons (ps_asg (pv 0) (pg_tup rfl (pgs_cons (pg_name (i := 2) nd rfl (by first | exact Or.inl rfl | exact Or.inr rfl)) (pgs_cons (pg_name (i := 3) nd rfl (by first | exact Or.inl rfl | exact Or.inr rfl)) (pgs_nil))))) (pss_cons (ps_if (pt_not (pt_val (pe_callB (cr_all rfl) (by rfl) (T.free 63) (by decide +kernel) (pa_cons (pe_lc (own := [("letter", 5)]) rfl nd (pi_tup (pv 3)) (blkOk_by (own := [("letter", 5)]) (N := N_is_load) (sc := defScope s_is_load) (by decide +kernel)) (fun _ _ _ _ _ => pg_name (i := 5) nd rfl (by first | exact Or.inl rfl | exact Or.inr rfl)) (fun _ _ _ _ _ => pts_nil) (fun _ _ _ _ _ => pe_g g_is_letter hr (by decide) (by rfl) (pa_cons (pv 5) (pa_cons (pv 2) (pa_nil))))) (pa_nil))))) (pss_one (ps_ret (pe_bl))) (pss_nil)) (pss_cons (ps_set (i := 4) nd rfl (by first | exact Or.inl rfl | exact Or.inr rfl) (pe_lc (own := [("letter", 5)]) rfl nd (pi_tup (pv 3)) (blkOk_by (own := [("letter", 5)]) (N := N_is_load) (sc := defScope s_is_load) (by decide +kernel)) (fun _ _ _ _ _ => pg_name (i := 5) nd rfl (by first | exact Or.inl rfl | exact Or.inr rfl)) (fun _ _ _ _ _ => pts_nil) (fun _ _ _ _ _ => pe_ix ix_seq (pv 5) (pe_int) (fun _ _ => rfl)))) (pss_cons (ps_if (pt_cmpR (op_eqU hu) (pv 1) (pe_str) (nomark _)) (pss_one (ps_ret (pe_cmpR (op_eqU hu) (pv 4) (pe_listRg rfl (by rfl) (T.free 68) (prg_2 (by rfl) (T.free 69) (pe_op op_sub (pv 2) (pe_callB call_len (by rfl) (T.free 62) (by decide +kernel) (pa_cons (pv 4) (pa_nil)))) (pv 2))) (nomark _)))) (pss_nil)) (pss_one (ps_ret (pe_callB (cr_all rfl) (by rfl) (T.free 63) (by decide +kernel) (pa_cons (pe_lc (own := [("k", 6)]) rfl nd (pi_range1 (by rfl) (T.free 69) (pa_cons (pe_op op_sub (pe_callB call_len (by rfl) (T.free 62) (by decide +kernel) (pa_cons (pv 4) (pa_nil))) (pe_int)) (pa_nil))) (blkOk_by (own := [("k", 6)]) (N := N_is_load) (sc := defScope s_is_load) (by decide +kernel)) (fun _ _ _ _ _ => pg_name (i := 6) nd rfl (by first | exact Or.inl rfl | exact Or.inr rfl)) (fun _ _ _ _ _ => pts_nil) (fun _ _ _ _ _ => pe_cmpR op_lt (pe_ix ix_seq (pv 4) (pv 6) (fun _ _ => rfl)) (pe_ix ix_seq (pv 4) (pe_op op_plus (pv 6) (pe_int)) (fun _ _ => rfl)) (nomark _))) (pa_nil)))))))))
/-! #### right_stand (level 5) -/
abbrev t_right_stand (K : PySem.W.Frag) (q_is_tuple : Sp) (q_is_within : Sp) (q_is_load : Sp) : TS := tSeq (tIfS (tOr (tNot (tB (tCall q_is_tuple [] E0 (tCons (tVar 1) (tCons (tC (.int 2)) (tNil)))))) (tOr (tNot (tB (tCall q_is_tuple [] E0 (tCons (tOp (rIx K) (tVar 1) (tC (.int 0))) (tCons (tCB (rLenU K) (tCons (tOp (rIx K) (tVar 0) (tC (.int 0))) (tNil))) (tNil)))))) (tNot (tB (tCall q_is_tuple [] E0 (tCons (tOp (rIx K) (tVar 1) (tC (.int 1))) (tCons (tCB (rLenU K) (tCons (tOp (rIx K) (tVar 0) (tC (.int 1))) (tNil))) (tNil)))))))) (tRet (tC (.bl false))) (tNext)) (tSeq (tIfS (tNot (tB (tCB (rAll K) (tCons (tLc (iTup K (tOp (rIx K) (tVar 1) (tC (.int 0)))) (gName 2) (tYes) (tCall q_is_within [] E0 (tCons (tVar 2) (tCons (tC (.int 0)) (tCons (tC (.int 99)) (tNil))))) [2]) (tNil))))) (tRet (tC (.bl false))) (tNext)) (tRet (tCB (rAll K) (tCons (tLc (RZ.iZipA K (tCons (tOp (rIx K) (tVar 1) (tC (.int 1))) (tCons (tOp (rIx K) (tVar 0) (tC (.int 1))) (tNil)))) (gTup K 2 (gCons (gName 3) (gCons (gName 4) (gNil)))) (tYes) (tCall q_is_load [] E0 (tCons (tVar 3) (tCons (tOp (rIx K) (tVar 4) (tC (.int 2))) (tNil)))) [3, 4]) (tNil)))))
theorem dv_right_stand {q_is_tuple : Sp} (g_is_tuple : Gv P w K mg base CX0 1 "is_tuple" P_is_tuple q_is_tuple) {q_is_within : Sp} (g_is_within : Gv P w K mg base CX0 2 "is_within" P_is_within q_is_within) {q_is_load : Sp} (g_is_load : Gv P w K mg base CX0 4 "is_load" P_is_load q_is_load) (hr : Room 4 (A.deeper (envOfC qual (defScope s_right_stand) s.heap.objs.size f cdv))) : PSs (cxOf CX0 P w K mg base N_right_stand qual (defScope s_right_stand) f cdv A outer s H E) (defBody s_right_stand) (t_right_stand K q_is_tuple q_is_within q_is_load) := by
  have nd := sc_right_stand.nd
  have hu := hr.units
  have hu1 := hu1_of hr.units
  exact pss_cons (ps_if ((pw_or (pt_not (pt_val (pe_g g_is_tuple hr (by decide) (by rfl) (pa_cons (pv 1) (pa_cons (pe_int) (pa_nil)))))) (pw_or (pt_not (pt_val (pe_g g_is_tuple hr (by decide) (by rfl) (pa_cons (pe_ix ix_seq (pv 1) (pe_int) (fun _ _ => rfl)) (pa_cons (pe_callB call_len (by rfl) (T.free 62) (by decide +kernel) (pa_cons (pe_ix ix_seq (pv 0) (pe_int) (fun _ _ => rfl)) (pa_nil))) (pa_nil)))))) (pw_or1 (pt_not (pt_val (pe_g g_is_tuple hr (by decide) (by rfl) (pa_cons (pe_ix ix_seq (pv 1) (pe_int) (fun _ _ => rfl)) (pa_cons (pe_callB call_len (by rfl) (T.free 62) (by decide +kernel) (pa_cons (pe_ix ix_seq (pv 0) (pe_int) (fun _ _ => rfl)) (pa_nil))) (pa_nil))))))))).pt) (pss_one (ps_ret (pe_bl))) (pss_nil)) (pss_cons (ps_if (pt_not (pt_val (pe_callB (cr_all rfl) (by rfl) (T.free 63) (by decide +kernel) (pa_cons (pe_lc (own := [("state", 2)]) rfl nd (pi_tup (pe_ix ix_seq (pv 1) (pe_int) (fun _ _ => rfl))) (blkOk_by (own := [("state", 2)]) (N := N_right_stand) (sc := defScope s_right_stand) (by decide +kernel)) (fun _ _ _ _ _ => pg_name (i := 2) nd rfl (by first | exact Or.inl rfl | exact Or.inr rfl)) (fun _ _ _ _ _ => pts_nil) (fun _ _ _ _ _ => pe_g g_is_within hr (by decide) (by rfl) (pa_cons (pv 2) (pa_cons (pe_int) (pa_cons (pe_glob (v := .int 99) (by rfl) (T.int 76 (x := "MOST_STATE")).choose_spec ⟨_, rfl⟩) (pa_nil)))))) (pa_nil))))) (pss_one (ps_ret (pe_bl))) (pss_nil)) (pss_one (ps_ret (pe_callB (cr_all rfl) (by rfl) (T.free 63) (by decide +kernel) (pa_cons (pe_lc (own := [("load", 3), ("road", 4)]) rfl nd (RZ.pi_zipA (by rfl) (T.free 70) (pa_cons (pe_ix ix_seq (pv 1) (pe_int) (fun _ _ => rfl)) (pa_cons (pe_ix ix_seq (pv 0) (pe_int) (fun _ _ => rfl)) (pa_nil)))) (blkOk_by (own := [("load", 3), ("road", 4)]) (N := N_right_stand) (sc := defScope s_right_stand) (by decide +kernel)) (fun _ _ _ _ _ => pg_tup rfl (pgs_cons (pg_name (i := 3) nd rfl (by first | exact Or.inl rfl | exact Or.inr rfl)) (pgs_cons (pg_name (i := 4) nd rfl (by first | exact Or.inl rfl | exact Or.inr rfl)) (pgs_nil)))) (fun _ _ _ _ _ => pts_nil) (fun _ _ _ _ _ => pe_g g_is_load hr (by decide) (by rfl) (pa_cons (pv 3) (pa_cons (pe_ix ix_seq (pv 4) (pe_int) (fun _ _ => rfl)) (pa_nil))))) (pa_nil))))))
/-! #### waits (level 1) -/
abbrev t_waits (K : PySem.W.Frag)  : TS := tRet (tCB (rListU K) (tCons (tOp (rIx K) (tOp (rIx K) (tOp (rIx K) (tVar 0) (tC (.int 1))) (tVar 1)) (tC (.int 1))) (tNil)))
theorem dv_waits  (hr : Room 0 (A.deeper (envOfC qual (defScope s_waits) s.heap.objs.size f cdv))) : PSs (cxOf CX0 P w K mg base N_waits qual (defScope s_waits) f cdv A outer s H E) (defBody s_waits) (t_waits K ) := by
  have nd := sc_waits.nd
  have hu := hr.units
  have hu1 := hu1_of hr.units
  exact pss_one (ps_ret (pe_callTy call_list_of (by rfl) (T.free 68) (by decide +kernel) (pa_cons (pe_ix ix_seq (pe_ix ix_seq (pe_ix ix_seq (pv 0) (pe_int) (fun _ _ => rfl)) (pv 1) (fun _ _ => rfl)) (pe_int) (fun _ _ => rfl)) (pa_nil))))
/-! #### is_plain (level 3) -/
abbrev t_is_plain (K : PySem.W.Frag) (q_is_within : Sp) (q_is_sign : Sp) (q_is_tuple : Sp) (q_is_whole_forms : Sp) : TS := tSeq (tIfS (tOr (tNot (tB (tCB (rIsi K) (tCons (tVar 1) (tCons (tC (.ty "tuple")) (tNil)))))) (tOr (tTest (tOp rLtI (tCB (rLenU K) (tCons (tVar 1) (tNil))) (tC (.int 2)))) (tNot (tB (tCB (rIsi K) (tCons (tOp (rIx K) (tVar 1) (tC (.int 0))) (tCons (tC (.ty "str")) (tNil)))))))) (tRet (tC (.bl false))) (tNext)) (tSeq (tIfS (tTest (tOp (rEqU K) (tOp (rIx K) (tVar 1) (tC (.int 0))) (tC (.str "own")))) (tRet (tAndV (tOp (rEqU K) (tCB (rLenU K) (tCons (tVar 1) (tNil))) (tC (.int 2))) (tCall q_is_within [] E0 (tCons (tOp (rIx K) (tVar 1) (tC (.int 1))) (tCons (tC (.int 0)) (tCons (tOp (rSubI) (tCB (rLenU K) (tCons (tOp (rIx K) (tVar 0) (tC (.int 0))) (tNil))) (tC (.int 1))) (tNil))))))) (tNext)) (tSeq (tIfS (tTest (tOp (rEqU K) (tOp (rIx K) (tVar 1) (tC (.int 0))) (tC (.str "hear")))) (tRet (tAndV (tOp (rEqU K) (tCB (rLenU K) (tCons (tVar 1) (tNil))) (tC (.int 3))) (tAndV (tCall q_is_within [] E0 (tCons (tOp (rIx K) (tVar 1) (tC (.int 1))) (tCons (tC (.int 0)) (tCons (tOp (rSubI) (tCB (rLenU K) (tCons (tOp (rIx K) (tVar 0) (tC (.int 0))) (tNil))) (tC (.int 1))) (tNil))))) (tCall q_is_sign [] E0 (tCons (tOp (rIx K) (tVar 1) (tC (.int 2))) (tNil)))))) (tNext)) (tRet (tAndV (tOp (rEqU K) (tOp (rIx K) (tVar 1) (tC (.int 0))) (tC (.str "come"))) (tAndV (tCall q_is_tuple [] E0 (tCons (tVar 1) (tCons (tC (.int 3)) (tNil)))) (tAndV (tCall q_is_within [] E0 (tCons (tOp (rIx K) (tVar 1) (tC (.int 1))) (tCons (tC (.int 0)) (tCons (tOp (rSubI) (tCB (rLenU K) (tCons (tOp (rIx K) (tVar 0) (tC (.int 1))) (tNil))) (tC (.int 1))) (tNil))))) (tCall q_is_whole_forms [] E0 (tCons (tOp (rIx K) (tVar 1) (tC (.int 2))) (tNil)))))))))
theorem dv_is_plain {q_is_within : Sp} (g_is_within : Gv P w K mg base CX0 2 "is_within" P_is_within q_is_within) {q_is_sign : Sp} (g_is_sign : Gv P w K mg base CX0 2 "is_sign" P_is_sign q_is_sign) {q_is_tuple : Sp} (g_is_tuple : Gv P w K mg base CX0 1 "is_tuple" P_is_tuple q_is_tuple) {q_is_whole_forms : Sp} (g_is_whole_forms : Gv P w K mg base CX0 1 "is_whole_forms" P_is_whole_forms q_is_whole_forms) (hr : Room 2 (A.deeper (envOfC qual (defScope s_is_plain) s.heap.objs.size f cdv))) : PSs (cxOf CX0 P w K mg base N_is_plain qual (defScope s_is_plain) f cdv A outer s H E) (defBody s_is_plain) (t_is_plain K q_is_within q_is_sign q_is_tuple q_is_whole_forms) := by
  have nd := sc_is_plain.nd
  have hu := hr.units
  have hu1 := hu1_of hr.units
  exact pss_cons (ps_if ((pw_or (pt_not (pt_val (pe_callB call_isi (by rfl) (T.free 61) (by decide +kernel) (pa_cons (pv 1) (pa_cons (pe_bltn (v := .ty "tuple") (by rfl) (T.free 67) (by decide +kernel) rfl) (pa_nil)))))) (pw_or (pt_cmpR op_lt (pe_callB call_len (by rfl) (T.free 62) (by decide +kernel) (pa_cons (pv 1) (pa_nil))) (pe_int) (nomark _)) (pw_or1 (pt_not (pt_val (pe_callB call_isi (by rfl) (T.free 61) (by decide +kernel) (pa_cons (pe_ix ix_seq (pv 1) (pe_int) (fun _ _ => rfl)) (pa_cons (pe_bltn (v := .ty "str") (by rfl) (T.free 66) (by decide +kernel) rfl) (pa_nil))))))))).pt) (pss_one (ps_ret (pe_bl))) (pss_nil)) (pss_cons (ps_if (pt_cmpR (op_eqU hu) (pe_ix ix_seq (pv 1) (pe_int) (fun _ _ => rfl)) (pe_str) (nomark _)) (pss_one (ps_ret (pe_and (pe_cmpR (op_eqU hu) (pe_callB call_len (by rfl) (T.free 62) (by decide +kernel) (pa_cons (pv 1) (pa_nil))) (pe_int) (nomark _)) (pe_one (pe_g g_is_within hr (by decide) (by rfl) (pa_cons (pe_ix ix_seq (pv 1) (pe_int) (fun _ _ => rfl)) (pa_cons (pe_int) (pa_cons (pe_op op_sub (pe_callB call_len (by rfl) (T.free 62) (by decide +kernel) (pa_cons (pe_ix ix_seq (pv 0) (pe_int) (fun _ _ => rfl)) (pa_nil))) (pe_int)) (pa_nil))))))))) (pss_nil)) (pss_cons (ps_if (pt_cmpR (op_eqU hu) (pe_ix ix_seq (pv 1) (pe_int) (fun _ _ => rfl)) (pe_str) (nomark _)) (pss_one (ps_ret (pe_and (pe_cmpR (op_eqU hu) (pe_callB call_len (by rfl) (T.free 62) (by decide +kernel) (pa_cons (pv 1) (pa_nil))) (pe_int) (nomark _)) (pe_and (pe_g g_is_within hr (by decide) (by rfl) (pa_cons (pe_ix ix_seq (pv 1) (pe_int) (fun _ _ => rfl)) (pa_cons (pe_int) (pa_cons (pe_op op_sub (pe_callB call_len (by rfl) (T.free 62) (by decide +kernel) (pa_cons (pe_ix ix_seq (pv 0) (pe_int) (fun _ _ => rfl)) (pa_nil))) (pe_int)) (pa_nil))))) (pe_one (pe_g g_is_sign hr (by decide) (by rfl) (pa_cons (pe_ix ix_seq (pv 1) (pe_int) (fun _ _ => rfl)) (pa_nil)))))))) (pss_nil)) (pss_one (ps_ret (pe_and (pe_cmpR (op_eqU hu) (pe_ix ix_seq (pv 1) (pe_int) (fun _ _ => rfl)) (pe_str) (nomark _)) (pe_and (pe_g g_is_tuple hr (by decide) (by rfl) (pa_cons (pv 1) (pa_cons (pe_int) (pa_nil)))) (pe_and (pe_g g_is_within hr (by decide) (by rfl) (pa_cons (pe_ix ix_seq (pv 1) (pe_int) (fun _ _ => rfl)) (pa_cons (pe_int) (pa_cons (pe_op op_sub (pe_callB call_len (by rfl) (T.free 62) (by decide +kernel) (pa_cons (pe_ix ix_seq (pv 0) (pe_int) (fun _ _ => rfl)) (pa_nil))) (pe_int)) (pa_nil))))) (pe_one (pe_g g_is_whole_forms hr (by decide) (by rfl) (pa_cons (pe_ix ix_seq (pv 1) (pe_int) (fun _ _ => rfl)) (pa_nil)))))))))))
/-! #### machine_of (level 1) -/
abbrev t_machine_of (K : PySem.W.Frag)  : TS := tSeq (tIfS (tTest (tOp (rEqU K) (tOp (rIx K) (tVar 1) (tC (.int 0))) (tC (.str "come")))) (tRet (tOp (rIx K) (tOp (rIx K) (tOp (rIx K) (tVar 0) (tC (.int 1))) (tOp (rIx K) (tVar 1) (tC (.int 1)))) (tC (.int 1)))) (tNext)) (tRet (tOp (rIx K) (tVar 1) (tC (.int 1))))
theorem dv_machine_of  (hr : Room 0 (A.deeper (envOfC qual (defScope s_machine_of) s.heap.objs.size f cdv))) : PSs (cxOf CX0 P w K mg base N_machine_of qual (defScope s_machine_of) f cdv A outer s H E) (defBody s_machine_of) (t_machine_of K ) := by
  have nd := sc_machine_of.nd
  have hu := hr.units
  have hu1 := hu1_of hr.units
  exact pss_cons (ps_if (pt_cmpR (op_eqU hu) (pe_ix ix_seq (pv 1) (pe_int) (fun _ _ => rfl)) (pe_str) (nomark _)) (pss_one (ps_ret (pe_ix ix_seq (pe_ix ix_seq (pe_ix ix_seq (pv 0) (pe_int) (fun _ _ => rfl)) (pe_ix ix_seq (pv 1) (pe_int) (fun _ _ => rfl)) (fun _ _ => rfl)) (pe_int) (fun _ _ => rfl)))) (pss_nil)) (pss_one (ps_ret (pe_ix ix_seq (pv 1) (pe_int) (fun _ _ => rfl))))
/-! #### cause_of (level 2) -/
abbrev t_cause_of (K : PySem.W.Frag) (q_waits : Sp) : TS := tSeq (tIfS (tTest (tOp (rEqU K) (tOp (rIx K) (tVar 2) (tC (.int 0))) (tC (.str "own")))) (tRet (tC (.str "own"))) (tNext)) (tSeq (tIfS (tTest (tOp (rEqU K) (tOp (rIx K) (tVar 2) (tC (.int 0))) (tC (.str "hear")))) (tRet (tOp (rIx K) (tVar 2) (tC (.int 2)))) (tNext)) (tSeq (tAsg (tCall q_waits [] E0 (tCons (tVar 1) (tCons (tOp (rIx K) (tVar 2) (tC (.int 1))) (tNil)))) (gName 3)) (tSeq (tIfS (tTest (tOp (rEqU K) (tOp (rIx K) (tOp (rIx K) (tOp (rIx K) (tVar 0) (tC (.int 1))) (tOp (rIx K) (tVar 2) (tC (.int 1)))) (tC (.int 2))) (tC (.str "row")))) (tAsg (tSl (rSlU K) (tVar 3) (tNoPart) (tPart (tC (.int 1)))) (gName 3)) (tNext)) (tSeq (tFor (iList K (tVar 3)) (gTup K 2 (gCons (gName 4) (gCons (gName 5) (gNil)))) (tIfS (tTest (tOp (rEqU K) (tVar 4) (tOp (rIx K) (tVar 2) (tC (.int 2))))) (tRet (tVar 5)) (tNext))) (tRet (tC .non))))))
theorem dv_cause_of {q_waits : Sp} (g_waits : Gv P w K mg base CX0 1 "waits" P_waits q_waits) (hr : Room 1 (A.deeper (envOfC qual (defScope s_cause_of) s.heap.objs.size f cdv))) : PSs (cxOf CX0 P w K mg base N_cause_of qual (defScope s_cause_of) f cdv A outer s H E) (defBody s_cause_of) (t_cause_of K q_waits) := by
  have nd := sc_cause_of.nd
  have hu := hr.units
  have hu1 := hu1_of hr.units
  exact pss_cons (ps_if (pt_cmpR (op_eqU hu) (pe_ix ix_seq (pv 2) (pe_int) (fun _ _ => rfl)) (pe_str) (nomark _)) (pss_one (ps_ret (pe_str))) (pss_nil)) (pss_cons (ps_if (pt_cmpR (op_eqU hu) (pe_ix ix_seq (pv 2) (pe_int) (fun _ _ => rfl)) (pe_str) (nomark _)) (pss_one (ps_ret (pe_ix ix_seq (pv 2) (pe_int) (fun _ _ => rfl)))) (pss_nil)) (pss_cons (ps_set (i := 3) nd rfl (by first | exact Or.inl rfl | exact Or.inr rfl) (pe_g g_waits hr (by decide) (by rfl) (pa_cons (pv 1) (pa_cons (pe_ix ix_seq (pv 2) (pe_int) (fun _ _ => rfl)) (pa_nil))))) (pss_cons (ps_if (pt_cmpR (op_eqU hu) (pe_ix ix_seq (pe_ix ix_seq (pe_ix ix_seq (pv 0) (pe_int) (fun _ _ => rfl)) (pe_ix ix_seq (pv 2) (pe_int) (fun _ _ => rfl)) (fun _ _ => rfl)) (pe_int) (fun _ _ => rfl)) (pe_str) (nomark _)) (pss_one (ps_set (i := 3) nd rfl (by first | exact Or.inl rfl | exact Or.inr rfl) (pe_slice sl_u (pv 3) (po_none) (po_some (pe_int))))) (pss_nil)) (pss_cons (ps_for (passes_of rfl) rfl (pi_list (pv 3)) (pg_tup rfl (pgs_cons (pg_name (i := 4) nd rfl (by first | exact Or.inl rfl | exact Or.inr rfl)) (pgs_cons (pg_name (i := 5) nd rfl (by first | exact Or.inl rfl | exact Or.inr rfl)) (pgs_nil)))) (pss_one (ps_if (pt_cmpR (op_eqU hu) (pv 4) (pe_ix ix_seq (pv 2) (pe_int) (fun _ _ => rfl)) (nomark _)) (pss_one (ps_ret (pv 5))) (pss_nil)))) (pss_one (ps_ret (pe_non)))))))
/-! #### answered (level 3) -/
abbrev t_answered (K : PySem.W.Frag) (q_cause_of : Sp) (q_machine_of : Sp) (q_answer : Sp) : TS := tSeq (tAsg (tCall q_cause_of [] E0 (tCons (tVar 0) (tCons (tVar 1) (tCons (tVar 2) (tNil))))) (gName 3)) (tSeq (tIfS (tTest (tOp rIsNo (tVar 3) (tC .non))) (tRet (tC .non)) (tNext)) (tSeq (tAsg (tCall q_machine_of [] E0 (tCons (tVar 0) (tCons (tVar 2) (tNil)))) (gName 4)) (tRet (tCall q_answer [] E0 (tCons (tVar 0) (tCons (tVar 4) (tCons (tOp (rIx K) (tOp (rIx K) (tVar 1) (tC (.int 0))) (tVar 4)) (tCons (tVar 3) (tNil)))))))))
theorem dv_answered {q_cause_of : Sp} (g_cause_of : Gv P w K mg base CX0 2 "cause_of" P_cause_of q_cause_of) {q_machine_of : Sp} (g_machine_of : Gv P w K mg base CX0 1 "machine_of" P_machine_of q_machine_of) {q_answer : Sp} (g_answer : Gv P w K mg base CX0 1 "answer" P_answer q_answer) (hr : Room 2 (A.deeper (envOfC qual (defScope s_answered) s.heap.objs.size f cdv))) : PSs (cxOf CX0 P w K mg base N_answered qual (defScope s_answered) f cdv A outer s H E) (defBody s_answered) (t_answered K q_cause_of q_machine_of q_answer) := by
  have nd := sc_answered.nd
  have hu := hr.units
  have hu1 := hu1_of hr.units
  exact pss_cons (ps_set (i := 3) nd rfl (by first | exact Or.inl rfl | exact Or.inr rfl) (pe_g g_cause_of hr (by decide) (by rfl) (pa_cons (pv 0) (pa_cons (pv 1) (pa_cons (pv 2) (pa_nil)))))) (pss_cons (ps_if (pt_cmpR op_isN (pv 3) (pe_non) (nomark _)) (pss_one (ps_ret (pe_non))) (pss_nil)) (pss_cons (ps_set (i := 4) nd rfl (by first | exact Or.inl rfl | exact Or.inr rfl) (pe_g g_machine_of hr (by decide) (by rfl) (pa_cons (pv 0) (pa_cons (pv 2) (pa_nil))))) (pss_one (ps_ret (pe_g g_answer hr (by decide) (by rfl) (pa_cons (pv 0) (pa_cons (pv 4) (pa_cons (pe_ix ix_seq (pe_ix ix_seq (pv 1) (pe_int) (fun _ _ => rfl)) (pv 4) (fun _ _ => rfl)) (pa_cons (pv 3) (pa_nil))))))))))
/-! #### can (level 4) -/
abbrev t_can (K : PySem.W.Frag) (q_is_plain : Sp) (q_answered : Sp) : TS := tRet (tAndV (tCall q_is_plain [] E0 (tCons (tVar 0) (tCons (tVar 2) (tNil)))) (tOp rNotNo (tCall q_answered [] E0 (tCons (tVar 0) (tCons (tVar 1) (tCons (tVar 2) (tNil))))) (tC .non)))
theorem dv_can {q_is_plain : Sp} (g_is_plain : Gv P w K mg base CX0 3 "is_plain" P_is_plain q_is_plain) {q_answered : Sp} (g_answered : Gv P w K mg base CX0 3 "answered" P_answered q_answered) (hr : Room 3 (A.deeper (envOfC qual (defScope s_can) s.heap.objs.size f cdv))) : PSs (cxOf CX0 P w K mg base N_can qual (defScope s_can) f cdv A outer s H E) (defBody s_can) (t_can K q_is_plain q_answered) := by
  have nd := sc_can.nd
  have hu := hr.units
  have hu1 := hu1_of hr.units
  exact pss_one (ps_ret (pe_and (pe_g g_is_plain hr (by decide) (by rfl) (pa_cons (pv 0) (pa_cons (pv 2) (pa_nil)))) (pe_one (pe_cmpR op_notN (pe_g g_answered hr (by decide) (by rfl) (pa_cons (pv 0) (pa_cons (pv 1) (pa_cons (pv 2) (pa_nil))))) (pe_non) (nomark _)))))
/-! #### taken_out (level 1) -/
abbrev t_taken_out (K : PySem.W.Frag)  : TS := tSeq (tAsg (tOp (rIx K) (tVar 0) (tVar 1)) (gTup K 2 (gCons (gName 3) (gCons (gName 4) (gNil))))) (tSeq (tAsg (tCB (rTupU K) (tCons (tLc (iTup K (tVar 4)) (gName 6) (tTest (tOp (rNeU K) (tOp (rIx K) (tVar 6) (tC (.int 0))) (tVar 2))) (tVar 6) [6]) (tNil))) (gName 5)) (tRet (tOp (rPlus K) (tOp (rPlus K) (tSl (rSlU K) (tVar 0) (tNoPart) (tPart (tVar 1))) (tTup (tCons (tTup (tCons (tVar 3) (tCons (tVar 5) (tNil)))) (tNil)))) (tSl (rSlU K) (tVar 0) (tPart (tOp (rPlus K) (tVar 1) (tC (.int 1)))) (tNoPart)))))
theorem dv_taken_out  (hr : Room 0 (A.deeper (envOfC qual (defScope s_taken_out) s.heap.objs.size f cdv))) : PSs (cxOf CX0 P w K mg base N_taken_out qual (defScope s_taken_out) f cdv A outer s H E) (defBody s_taken_out) (t_taken_out K ) := by
  have nd := sc_taken_out.nd
  have hu := hr.units
  have hu1 := hu1_of hr.units
  exact pss_cons (ps_asg (pe_ix ix_seq (pv 0) (pv 1) (fun _ _ => rfl)) (pg_tup rfl (pgs_cons (pg_name (i := 3) nd rfl (by first | exact Or.inl rfl | exact Or.inr rfl)) (pgs_cons (pg_name (i := 4) nd rfl (by first | exact Or.inl rfl | exact Or.inr rfl)) (pgs_nil))))) (pss_cons (ps_set (i := 5) nd rfl (by first | exact Or.inl rfl | exact Or.inr rfl) (pe_callTy call_tuple_of (by rfl) (T.free 67) (by decide +kernel) (pa_cons (pe_lc (own := [("letter", 6)]) rfl nd (pi_tup (pv 4)) (blkOk_by (own := [("letter", 6)]) (N := N_taken_out) (sc := defScope s_taken_out) (by decide +kernel)) (fun _ _ _ _ _ => pg_name (i := 6) nd rfl (by first | exact Or.inl rfl | exact Or.inr rfl)) (fun _ _ _ _ _ => pts_one (pt_cmpR (op_neU hu) (pe_ix ix_seq (pv 6) (pe_int) (fun _ _ => rfl)) (pv 2) (nomark _))) (fun _ _ _ _ _ => pv 6)) (pa_nil)))) (pss_one (ps_ret (pe_op op_plus (pe_op op_plus (pe_slice sl_u (pv 0) (po_none) (po_some (pv 1))) (pe_tup (pa_cons (pe_tup (pa_cons (pv 3) (pa_cons (pv 5) (pa_nil)))) (pa_nil)))) (pe_slice sl_u (pv 0) (po_some (pe_op op_plus (pv 1) (pe_int))) (po_none))))))
/-! #### sent_out (level 1) -/
abbrev t_sent_out (K : PySem.W.Frag)  : TS := tSeq (tFor (iTup K (tVar 1)) (gTup K 2 (gCons (gName 2) (gCons (gName 3) (gNil)))) (tSeq (tAsg (tOp (rIx K) (tVar 0) (tVar 2)) (gTup K 2 (gCons (gName 4) (gCons (gName 5) (gNil))))) (tAsg (tOp (rPlus K) (tOp (rPlus K) (tSl (rSlU K) (tVar 0) (tNoPart) (tPart (tVar 2))) (tTup (tCons (tTup (tCons (tOp (rPlus K) (tVar 4) (tC (.int 1))) (tCons (tOp (rPlus K) (tVar 5) (tTup (tCons (tTup (tCons (tVar 4) (tCons (tVar 3) (tNil)))) (tNil)))) (tNil)))) (tNil)))) (tSl (rSlU K) (tVar 0) (tPart (tOp (rPlus K) (tVar 2) (tC (.int 1)))) (tNoPart))) (gName 0)))) (tRet (tVar 0))
theorem dv_sent_out  (hr : Room 0 (A.deeper (envOfC qual (defScope s_sent_out) s.heap.objs.size f cdv))) : PSs (cxOf CX0 P w K mg base N_sent_out qual (defScope s_sent_out) f cdv A outer s H E) (defBody s_sent_out) (t_sent_out K ) := by
  have nd := sc_sent_out.nd
  have hu := hr.units
  have hu1 := hu1_of hr.units
  exact pss_cons (ps_for (passes_of rfl) rfl (pi_tup (pv 1)) (pg_tup rfl (pgs_cons (pg_name (i := 2) nd rfl (by first | exact Or.inl rfl | exact Or.inr rfl)) (pgs_cons (pg_name (i := 3) nd rfl (by first | exact Or.inl rfl | exact Or.inr rfl)) (pgs_nil)))) (pss_cons (ps_asg (pe_ix ix_seq (pv 0) (pv 2) (fun _ _ => rfl)) (pg_tup rfl (pgs_cons (pg_name (i := 4) nd rfl (by first | exact Or.inl rfl | exact Or.inr rfl)) (pgs_cons (pg_name (i := 5) nd rfl (by first | exact Or.inl rfl | exact Or.inr rfl)) (pgs_nil))))) (pss_one (ps_set (i := 0) nd rfl (by first | exact Or.inl rfl | exact Or.inr rfl) (pe_op op_plus (pe_op op_plus (pe_slice sl_u (pv 0) (po_none) (po_some (pv 2))) (pe_tup (pa_cons (pe_tup (pa_cons (pe_op op_plus (pv 4) (pe_int)) (pa_cons (pe_op op_plus (pv 5) (pe_tup (pa_cons (pe_tup (pa_cons (pv 4) (pa_cons (pv 3) (pa_nil)))) (pa_nil)))) (pa_nil)))) (pa_nil)))) (pe_slice sl_u (pv 0) (po_some (pe_op op_plus (pv 2) (pe_int))) (po_none))))))) (pss_one (ps_ret (pv 0)))
/-! #### done (level 5) -/
abbrev t_done (K : PySem.W.Frag) (q_can : Sp) (q_answered : Sp) (q_machine_of : Sp) (q_taken_out : Sp) (q_sent_out : Sp) : TS := tSeq (tIfS (tNot (tB (tCall q_can [] E0 (tCons (tVar 0) (tCons (tVar 1) (tCons (tVar 2) (tNil))))))) (tNever) (tNext)) (tSeq (tAsg (tCall q_answered [] E0 (tCons (tVar 0) (tCons (tVar 1) (tCons (tVar 2) (tNil))))) (gTup K 3 (gCons (gName 3) (gCons (gName 4) (gCons (gName 5) (gNil)))))) (tSeq (tAsg (tCall q_machine_of [] E0 (tCons (tVar 0) (tCons (tVar 2) (tNil)))) (gName 6)) (tSeq (tAsg (tOp (rPlus K) (tOp (rPlus K) (tSl (rSlU K) (tOp (rIx K) (tVar 1) (tC (.int 0))) (tNoPart) (tPart (tVar 6))) (tTup (tCons (tVar 3) (tNil)))) (tSl (rSlU K) (tOp (rIx K) (tVar 1) (tC (.int 0))) (tPart (tOp (rPlus K) (tVar 6) (tC (.int 1)))) (tNoPart))) (gName 7)) (tSeq (tAsg (tOp (rIx K) (tVar 1) (tC (.int 1))) (gName 8)) (tSeq (tIfS (tTest (tOp (rEqU K) (tOp (rIx K) (tVar 2) (tC (.int 0))) (tC (.str "come")))) (tAsg (tCall q_taken_out [] E0 (tCons (tVar 8) (tCons (tOp (rIx K) (tVar 2) (tC (.int 1))) (tCons (tOp (rIx K) (tVar 2) (tC (.int 2))) (tNil))))) (gName 8)) (tNext)) (tSeq (tAsg (tC .non) (gName 9)) (tSeq (tIfS (tTest (tOp rNotNo (tVar 5) (tC .non))) (tAsg (tTup (tCons (tVar 6) (tCons (tVar 5) (tNil)))) (gName 9)) (tNext)) (tRet (tTup (tCons (tTup (tCons (tVar 7) (tCons (tCall q_sent_out [] E0 (tCons (tVar 8) (tCons (tVar 4) (tNil)))) (tNil)))) (tCons (tVar 9) (tNil))))))))))))
theorem dv_done {q_can : Sp} (g_can : Gv P w K mg base CX0 4 "can" P_can q_can) {q_answered : Sp} (g_answered : Gv P w K mg base CX0 3 "answered" P_answered q_answered) {q_machine_of : Sp} (g_machine_of : Gv P w K mg base CX0 1 "machine_of" P_machine_of q_machine_of) {q_taken_out : Sp} (g_taken_out : Gv P w K mg base CX0 1 "taken_out" P_taken_out q_taken_out) {q_sent_out : Sp} (g_sent_out : Gv P w K mg base CX0 1 "sent_out" P_sent_out q_sent_out) (hr : Room 4 (A.deeper (envOfC qual (defScope s_done) s.heap.objs.size f cdv))) : PSs (cxOf CX0 P w K mg base N_done qual (defScope s_done) f cdv A outer s H E) (defBody s_done) (t_done K q_can q_answered q_machine_of q_taken_out q_sent_out) := by
  have nd := sc_done.nd
  have hu := hr.units
  have hu1 := hu1_of hr.units
  exact pss_cons (ps_if (pt_not (pt_val (pe_g g_can hr (by decide) (by rfl) (pa_cons (pv 0) (pa_cons (pv 1) (pa_cons (pv 2) (pa_nil))))))) (pss_one (ps_never)) (pss_nil)) (pss_cons (ps_asg (pe_g g_answered hr (by decide) (by rfl) (pa_cons (pv 0) (pa_cons (pv 1) (pa_cons (pv 2) (pa_nil))))) (pg_tup rfl (pgs_cons (pg_name (i := 3) nd rfl (by first | exact Or.inl rfl | exact Or.inr rfl)) (pgs_cons (pg_name (i := 4) nd rfl (by first | exact Or.inl rfl | exact Or.inr rfl)) (pgs_cons (pg_name (i := 5) nd rfl (by first | exact Or.inl rfl | exact Or.inr rfl)) (pgs_nil)))))) (pss_cons (ps_set (i := 6) nd rfl (by first | exact Or.inl rfl | exact Or.inr rfl) (pe_g g_machine_of hr (by decide) (by rfl) (pa_cons (pv 0) (pa_cons (pv 2) (pa_nil))))) (pss_cons (ps_set (i := 7) nd rfl (by first | exact Or.inl rfl | exact Or.inr rfl) (pe_op op_plus (pe_op op_plus (pe_slice sl_u (pe_ix ix_seq (pv 1) (pe_int) (fun _ _ => rfl)) (po_none) (po_some (pv 6))) (pe_tup (pa_cons (pv 3) (pa_nil)))) (pe_slice sl_u (pe_ix ix_seq (pv 1) (pe_int) (fun _ _ => rfl)) (po_some (pe_op op_plus (pv 6) (pe_int))) (po_none)))) (pss_cons (ps_set (i := 8) nd rfl (by first | exact Or.inl rfl | exact Or.inr rfl) (pe_ix ix_seq (pv 1) (pe_int) (fun _ _ => rfl))) (pss_cons (ps_if (pt_cmpR (op_eqU hu) (pe_ix ix_seq (pv 2) (pe_int) (fun _ _ => rfl)) (pe_str) (nomark _)) (pss_one (ps_set (i := 8) nd rfl (by first | exact Or.inl rfl | exact Or.inr rfl) (pe_g g_taken_out hr (by decide) (by rfl) (pa_cons (pv 8) (pa_cons (pe_ix ix_seq (pv 2) (pe_int) (fun _ _ => rfl)) (pa_cons (pe_ix ix_seq (pv 2) (pe_int) (fun _ _ => rfl)) (pa_nil))))))) (pss_nil)) (pss_cons (ps_set (i := 9) nd rfl (by first | exact Or.inl rfl | exact Or.inr rfl) (pe_non)) (pss_cons (ps_if (pt_cmpR op_notN (pv 5) (pe_non) (nomark _)) (pss_one (ps_set (i := 9) nd rfl (by first | exact Or.inl rfl | exact Or.inr rfl) (pe_tup (pa_cons (pv 6) (pa_cons (pv 5) (pa_nil)))))) (pss_nil)) (pss_one (ps_ret (pe_tup (pa_cons (pe_tup (pa_cons (pv 7) (pa_cons (pe_g g_sent_out hr (by decide) (by rfl) (pa_cons (pv 8) (pa_cons (pv 4) (pa_nil)))) (pa_nil)))) (pa_cons (pv 9) (pa_nil)))))))))))))
/-! #### run (level 6) -/
abbrev t_run (K : PySem.W.Frag) (q_can : Sp) (q_done : Sp) : TS := tSeq (tAsg (tLst (tNil)) (gName 3)) (tSeq (tFor (iEnum K (tCons (tVar 2) (tNil))) (gTup K 2 (gCons (gName 4) (gCons (gName 5) (gNil)))) (tSeq (tIfS (tNot (tB (tCall q_can [] E0 (tCons (tVar 0) (tCons (tVar 1) (tCons (tVar 5) (tNil))))))) (tNever) (tNext)) (tSeq (tAsg (tCall q_done [] E0 (tCons (tVar 0) (tCons (tVar 1) (tCons (tVar 5) (tNil))))) (gTup K 2 (gCons (gName 1) (gCons (gName 6) (gNil))))) (tIfS (tTest (tOp rNotNo (tVar 6) (tC .non))) (tDrop (tBM K "list" rAppend (tVar 3) (tCons (tVar 6) (tNil)))) (tNext))))) (tRet (tTup (tCons (tVar 1) (tCons (tVar 3) (tNil))))))
theorem dv_run {q_can : Sp} (g_can : Gv P w K mg base CX0 4 "can" P_can q_can) {q_done : Sp} (g_done : Gv P w K mg base CX0 5 "done" P_done q_done) (hr : Room 5 (A.deeper (envOfC qual (defScope s_run) s.heap.objs.size f cdv))) : PSs (cxOf CX0 P w K mg base N_run qual (defScope s_run) f cdv A outer s H E) (defBody s_run) (t_run K q_can q_done) := by
  have nd := sc_run.nd
  have hu := hr.units
  have hu1 := hu1_of hr.units
  exact pss_cons (ps_set (i := 3) nd rfl (by first | exact Or.inl rfl | exact Or.inr rfl) (pe_lst (pa_nil))) (pss_cons (ps_for (passes_of rfl) rfl (pi_enum (by rfl) (T.free 71) (pa_cons (pv 2) (pa_nil))) (pg_tup rfl (pgs_cons (pg_name (i := 4) nd rfl (by first | exact Or.inl rfl | exact Or.inr rfl)) (pgs_cons (pg_name (i := 5) nd rfl (by first | exact Or.inl rfl | exact Or.inr rfl)) (pgs_nil)))) (pss_cons (ps_if (pt_not (pt_val (pe_g g_can hr (by decide) (by rfl) (pa_cons (pv 0) (pa_cons (pv 1) (pa_cons (pv 5) (pa_nil))))))) (pss_one (ps_never)) (pss_nil)) (pss_cons (ps_asg (pe_g g_done hr (by decide) (by rfl) (pa_cons (pv 0) (pa_cons (pv 1) (pa_cons (pv 5) (pa_nil))))) (pg_tup rfl (pgs_cons (pg_name (i := 1) nd rfl (by first | exact Or.inl rfl | exact Or.inr rfl)) (pgs_cons (pg_name (i := 6) nd rfl (by first | exact Or.inl rfl | exact Or.inr rfl)) (pgs_nil))))) (pss_one (ps_if (pt_cmpR op_notN (pv 6) (pe_non) (nomark _)) (pss_one (ps_expr (pe_bm PySem.F.plainAttrs_list PySem.F.slot_list_append PySem.F.type_list_append mt_append (pv 3) (pa_cons (pv 6) (pa_nil))))) (pss_nil)))))) (pss_one (ps_ret (pe_tup (pa_cons (pv 1) (pa_cons (pv 3) (pa_nil)))))))
/-! #### events_of (level 2) -/
abbrev t_events_of (K : PySem.W.Frag) (q_machine_of : Sp) : TS := tSeq (tAsg (tLc (iTup K (tOp (rIx K) (tVar 0) (tC (.int 0)))) (gName 6) (tYes) (tC (.int 0)) [6]) (gName 2)) (tSeq (tAsg (tLst (tNil)) (gName 3)) (tSeq (tFor (iList K (tVar 1)) (gName 4) (tSeq (tAsg (tCall q_machine_of [] E0 (tCons (tVar 0) (tCons (tVar 4) (tNil)))) (gName 5)) (tSeq (tDrop (tBM K "list" rAppend (tVar 3) (tCons (tTup (tCons (tVar 5) (tCons (tOp (rIx K) (tVar 2) (tVar 5)) (tNil)))) (tNil)))) (tAsg (tOp (rPlus K) (tOp (rIx K) (tVar 2) (tVar 5)) (tC (.int 1))) (gSub (tVar 2) (tVar 5) rSetL))))) (tRet (tVar 3))))
theorem dv_events_of {q_machine_of : Sp} (g_machine_of : Gv P w K mg base CX0 1 "machine_of" P_machine_of q_machine_of) (hr : Room 1 (A.deeper (envOfC qual (defScope s_events_of) s.heap.objs.size f cdv))) : PSs (cxOf CX0 P w K mg base N_events_of qual (defScope s_events_of) f cdv A outer s H E) (defBody s_events_of) (t_events_of K q_machine_of) := by
  have nd := sc_events_of.nd
  have hu := hr.units
  have hu1 := hu1_of hr.units
  exact pss_cons (ps_setLc (i := 2) (own := [("rule", 6)]) rfl nd rfl rfl (sw_true rfl rfl rfl (by decide +kernel)) (pi_tup (pe_ix ix_seq (pv 0) (pe_int) (fun _ _ => rfl))) (blkOk_by (own := [("rule", 6)]) (N := N_events_of) (sc := defScope s_events_of) (by decide +kernel)) (fun _ _ _ _ _ => pg_name (i := 6) nd rfl (by first | exact Or.inl rfl | exact Or.inr rfl)) (fun _ _ _ _ _ => pts_nil) (fun _ _ _ _ _ => pe_int)) (pss_cons (ps_set (i := 3) nd rfl (by first | exact Or.inl rfl | exact Or.inr rfl) (pe_lst (pa_nil))) (pss_cons (ps_for (passes_of rfl) rfl (pi_list (pv 1)) (pg_name (i := 4) nd rfl (by first | exact Or.inl rfl | exact Or.inr rfl)) (pss_cons (ps_set (i := 5) nd rfl (by first | exact Or.inl rfl | exact Or.inr rfl) (pe_g g_machine_of hr (by decide) (by rfl) (pa_cons (pv 0) (pa_cons (pv 4) (pa_nil))))) (pss_cons (ps_expr (pe_bm PySem.F.plainAttrs_list PySem.F.slot_list_append PySem.F.type_list_append mt_append (pv 3) (pa_cons (pe_tup (pa_cons (pv 5) (pa_cons (pe_ix ix_seq (pv 2) (pv 5) (fun _ _ => rfl)) (pa_nil)))) (pa_nil)))) (pss_one (ps_asg (pe_op op_plus (pe_ix ix_seq (pv 2) (pv 5) (fun _ _ => rfl)) (pe_int)) (pg_sub (pv 2) (pv 5) set_list)))))) (pss_one (ps_ret (pv 3)))))
/-! #### letters_of (level 7) -/
abbrev t_letters_of (K : PySem.W.Frag) (q_run : Sp) (q_waits : Sp) (q_done : Sp) : TS := tSeq (tDrop (tCall q_run [] E0 (tCons (tVar 0) (tCons (tVar 1) (tCons (tVar 2) (tNil)))))) (tSeq (tAsg (tDNewT) (gName 3)) (tSeq (tFor (iRng1 (tCons (tCB (rLenU K) (tCons (tOp (rIx K) (tVar 0) (tC (.int 1))) (tNil))) (tNil))) (gName 4) (tFor (iList K (tCall q_waits [] E0 (tCons (tVar 1) (tCons (tVar 4) (tNil))))) (gTup K 2 (gCons (gName 5) (gCons (gName 6) (gNil)))) (sDPut (tVar 3) (tTup (tCons (tVar 4) (tCons (tVar 5) (tNil)))) (tTup (tCons (tC .non) (tCons (tC .non) (tNil))))))) (tSeq (tFor (iEnum K (tCons (tVar 2) (tNil))) (gTup K 2 (gCons (gName 7) (gCons (gName 8) (gNil)))) (tSeq (tIfS (tTest (tOp (rEqU K) (tOp (rIx K) (tVar 8) (tC (.int 0))) (tC (.str "come")))) (tSeq (tAsg (tTup (tCons (tOp (rIx K) (tVar 8) (tC (.int 1))) (tCons (tOp (rIx K) (tVar 8) (tC (.int 2))) (tNil)))) (gName 9)) (sDPut (tVar 3) (tVar 9) (tTup (tCons (tOp (rIx K) (tDGet (tVar 3) (tVar 9)) (tC (.int 0))) (tCons (tVar 7) (tNil)))))) (tNext)) (tSeq (tAsg (tOp (rIx K) (tCall q_done [] E0 (tCons (tVar 0) (tCons (tVar 1) (tCons (tVar 8) (tNil))))) (tC (.int 0))) (gName 10)) (tSeq (tFor (iRng1 (tCons (tCB (rLenU K) (tCons (tOp (rIx K) (tVar 0) (tC (.int 1))) (tNil))) (tNil))) (gName 4) (tFor (iRng2 (tCons (tOp (rIx K) (tOp (rIx K) (tOp (rIx K) (tVar 1) (tC (.int 1))) (tVar 4)) (tC (.int 0))) (tCons (tOp (rIx K) (tOp (rIx K) (tOp (rIx K) (tVar 10) (tC (.int 1))) (tVar 4)) (tC (.int 0))) (tNil)))) (gName 5) (sDPut (tVar 3) (tTup (tCons (tVar 4) (tCons (tVar 5) (tNil)))) (tTup (tCons (tVar 7) (tCons (tC .non) (tNil))))))) (tAsg (tVar 10) (gName 1)))))) (tRet (tVar 3)))))
theorem dv_letters_of {q_run : Sp} (g_run : Gv P w K mg base CX0 6 "run" P_run q_run) {q_waits : Sp} (g_waits : Gv P w K mg base CX0 1 "waits" P_waits q_waits) {q_done : Sp} (g_done : Gv P w K mg base CX0 5 "done" P_done q_done) (hr : Room 6 (A.deeper (envOfC qual (defScope s_letters_of) s.heap.objs.size f cdv))) : PSs (cxOf CX0 P w K mg base N_letters_of qual (defScope s_letters_of) f cdv A outer s H E) (defBody s_letters_of) (t_letters_of K q_run q_waits q_done) := by
  have nd := sc_letters_of.nd
  have hu := hr.units
  have hu1 := hu1_of hr.units
  exact pss_cons (ps_expr (pe_g g_run hr (by decide) (by rfl) (pa_cons (pv 0) (pa_cons (pv 1) (pa_cons (pv 2) (pa_nil)))))) (pss_cons (ps_set (i := 3) nd rfl (by first | exact Or.inl rfl | exact Or.inr rfl) (pe_dnewT)) (pss_cons (ps_for (passes_of rfl) rfl (pi_range1 (by rfl) (T.free 69) (pa_cons (pe_callB call_len (by rfl) (T.free 62) (by decide +kernel) (pa_cons (pe_ix ix_seq (pv 0) (pe_int) (fun _ _ => rfl)) (pa_nil))) (pa_nil))) (pg_name (i := 4) nd rfl (by first | exact Or.inl rfl | exact Or.inr rfl)) (pss_one (ps_for (passes_of rfl) rfl (pi_list (pe_g g_waits hr (by decide) (by rfl) (pa_cons (pv 1) (pa_cons (pv 4) (pa_nil))))) (pg_tup rfl (pgs_cons (pg_name (i := 5) nd rfl (by first | exact Or.inl rfl | exact Or.inr rfl)) (pgs_cons (pg_name (i := 6) nd rfl (by first | exact Or.inl rfl | exact Or.inr rfl)) (pgs_nil)))) (pss_one (ps_dput hu1 (pv 3) (pe_tup (pa_cons (pv 4) (pa_cons (pv 5) (pa_nil)))) (pe_tup (pa_cons (pe_non) (pa_cons (pe_non) (pa_nil)))) (by rfl)))))) (pss_cons (ps_for (passes_of rfl) rfl (pi_enum (by rfl) (T.free 71) (pa_cons (pv 2) (pa_nil))) (pg_tup rfl (pgs_cons (pg_name (i := 7) nd rfl (by first | exact Or.inl rfl | exact Or.inr rfl)) (pgs_cons (pg_name (i := 8) nd rfl (by first | exact Or.inl rfl | exact Or.inr rfl)) (pgs_nil)))) (pss_cons (ps_if (pt_cmpR (op_eqU hu) (pe_ix ix_seq (pv 8) (pe_int) (fun _ _ => rfl)) (pe_str) (nomark _)) (pss_cons (ps_set (i := 9) nd rfl (by first | exact Or.inl rfl | exact Or.inr rfl) (pe_tup (pa_cons (pe_ix ix_seq (pv 8) (pe_int) (fun _ _ => rfl)) (pa_cons (pe_ix ix_seq (pv 8) (pe_int) (fun _ _ => rfl)) (pa_nil))))) (pss_one (ps_dput hu1 (pv 3) (pv 9) (pe_tup (pa_cons (pe_ix ix_seq (pe_dget hu1 (pv 3) (pv 9) (fun _ _ => rfl)) (pe_int) (fun _ _ => rfl)) (pa_cons (pv 7) (pa_nil)))) (by rfl)))) (pss_nil)) (pss_cons (ps_set (i := 10) nd rfl (by first | exact Or.inl rfl | exact Or.inr rfl) (pe_ix ix_seq (pe_g g_done hr (by decide) (by rfl) (pa_cons (pv 0) (pa_cons (pv 1) (pa_cons (pv 8) (pa_nil))))) (pe_int) (fun _ _ => rfl))) (pss_cons (ps_for (passes_of rfl) rfl (pi_range1 (by rfl) (T.free 69) (pa_cons (pe_callB call_len (by rfl) (T.free 62) (by decide +kernel) (pa_cons (pe_ix ix_seq (pv 0) (pe_int) (fun _ _ => rfl)) (pa_nil))) (pa_nil))) (pg_name (i := 4) nd rfl (by first | exact Or.inl rfl | exact Or.inr rfl)) (pss_one (ps_for (passes_of rfl) rfl (pi_range2 (by rfl) (T.free 69) (pa_cons (pe_ix ix_seq (pe_ix ix_seq (pe_ix ix_seq (pv 1) (pe_int) (fun _ _ => rfl)) (pv 4) (fun _ _ => rfl)) (pe_int) (fun _ _ => rfl)) (pa_cons (pe_ix ix_seq (pe_ix ix_seq (pe_ix ix_seq (pv 10) (pe_int) (fun _ _ => rfl)) (pv 4) (fun _ _ => rfl)) (pe_int) (fun _ _ => rfl)) (pa_nil)))) (pg_name (i := 5) nd rfl (by first | exact Or.inl rfl | exact Or.inr rfl)) (pss_one (ps_dput hu1 (pv 3) (pe_tup (pa_cons (pv 4) (pa_cons (pv 5) (pa_nil)))) (pe_tup (pa_cons (pv 7) (pa_cons (pe_non) (pa_nil)))) (by rfl)))))) (pss_one (ps_set (i := 1) nd rfl (by first | exact Or.inl rfl | exact Or.inr rfl) (pv 10))))))) (pss_one (ps_ret (pv 3))))))
/-! #### is_whole_cuts (level 1) -/
abbrev t_is_whole_cuts (K : PySem.W.Frag)  : TS := tRet (tAndV (tCB (rIsi K) (tCons (tVar 0) (tCons (tC (.ty "int")) (tNil)))) (tNotV (tCB (rIsi K) (tCons (tVar 0) (tCons (tC (.ty "bool")) (tNil))))))
theorem dv_is_whole_cuts  (hr : Room 0 (A.deeper (envOfC qual (defScope s_is_whole_cuts) s.heap.objs.size f cdv))) : PSs (cxOf CX0 P w K mg base N_is_whole_cuts qual (defScope s_is_whole_cuts) f cdv A outer s H E) (defBody s_is_whole_cuts) (t_is_whole_cuts K ) := by
  have nd := sc_is_whole_cuts.nd
  have hu := hr.units
  have hu1 := hu1_of hr.units
  exact pss_one (ps_ret (pe_and (pe_callB call_isi (by rfl) (T.free 61) (by decide +kernel) (pa_cons (pv 0) (pa_cons (pe_bltn (v := .ty "int") (by rfl) (T.free 64) (by decide +kernel) rfl) (pa_nil)))) (pe_one (pe_not (pe_callB call_isi (by rfl) (T.free 61) (by decide +kernel) (pa_cons (pv 0) (pa_cons (pe_bltn (v := .ty "bool") (by rfl) (T.free 65) (by decide +kernel) rfl) (pa_nil))))))))
/-! #### are_wholes (level 2) -/
abbrev t_are_wholes (K : PySem.W.Frag) (q_is_whole_cuts : Sp) : TS := tRet (tAndV (tCB (rIsi K) (tCons (tVar 0) (tCons (tC (.ty "tuple")) (tNil)))) (tAndV (tOp (rEqU K) (tCB (rLenU K) (tCons (tVar 0) (tNil))) (tVar 1)) (tCB (rAll K) (tCons (tLc (iTup K (tVar 0)) (gName 2) (tYes) (tCall q_is_whole_cuts [] E0 (tCons (tVar 2) (tNil))) [2]) (tNil)))))
theorem dv_are_wholes {q_is_whole_cuts : Sp} (g_is_whole_cuts : Gv P w K mg base CX0 1 "is_whole_cuts" P_is_whole_cuts q_is_whole_cuts) (hr : Room 1 (A.deeper (envOfC qual (defScope s_are_wholes) s.heap.objs.size f cdv))) : PSs (cxOf CX0 P w K mg base N_are_wholes qual (defScope s_are_wholes) f cdv A outer s H E) (defBody s_are_wholes) (t_are_wholes K q_is_whole_cuts) := by
  have nd := sc_are_wholes.nd
  have hu := hr.units
  have hu1 := hu1_of hr.units
  exact pss_one (ps_ret (pe_and (pe_callB call_isi (by rfl) (T.free 61) (by decide +kernel) (pa_cons (pv 0) (pa_cons (pe_bltn (v := .ty "tuple") (by rfl) (T.free 67) (by decide +kernel) rfl) (pa_nil)))) (pe_and (pe_cmpR (op_eqU hu) (pe_callB call_len (by rfl) (T.free 62) (by decide +kernel) (pa_cons (pv 0) (pa_nil))) (pv 1) (nomark _)) (pe_one (pe_callB (cr_all rfl) (by rfl) (T.free 63) (by decide +kernel) (pa_cons (pe_lc (own := [("one", 2)]) rfl nd (pi_tup (pv 0)) (blkOk_by (own := [("one", 2)]) (N := N_are_wholes) (sc := defScope s_are_wholes) (by decide +kernel)) (fun _ _ _ _ _ => pg_name (i := 2) nd rfl (by first | exact Or.inl rfl | exact Or.inr rfl)) (fun _ _ _ _ _ => pts_nil) (fun _ _ _ _ _ => pe_g g_is_whole_cuts hr (by decide) (by rfl) (pa_cons (pv 2) (pa_nil)))) (pa_nil)))))))
/-! #### ends_of_run (level 3) -/
abbrev t_ends_of_run (K : PySem.W.Frag) (q_events_of : Sp) : TS := tSeq (tAsg (tOp (rTimes K) (tLst (tCons (tC (.int 0)) (tNil))) (tCB (rLenU K) (tCons (tOp (rIx K) (tVar 0) (tC (.int 0))) (tNil)))) (gName 2)) (tSeq (tFor (iList K (tCall q_events_of [] E0 (tCons (tVar 0) (tCons (tVar 1) (tNil))))) (gTup K 2 (gCons (gName 3) (gCons (gName 4) (gNil)))) (tAsg (tOp (rPlus K) (tVar 4) (tC (.int 1))) (gSub (tVar 2) (tVar 3) rSetL))) (tRet (tCB (rTupU K) (tCons (tVar 2) (tNil)))))
theorem dv_ends_of_run {q_events_of : Sp} (g_events_of : Gv P w K mg base CX0 2 "events_of" P_events_of q_events_of) (hr : Room 2 (A.deeper (envOfC qual (defScope s_ends_of_run) s.heap.objs.size f cdv))) : PSs (cxOf CX0 P w K mg base N_ends_of_run qual (defScope s_ends_of_run) f cdv A outer s H E) (defBody s_ends_of_run) (t_ends_of_run K q_events_of) := by
  have nd := sc_ends_of_run.nd
  have hu := hr.units
  have hu1 := hu1_of hr.units
  exact pss_cons (ps_set (i := 2) nd rfl (by first | exact Or.inl rfl | exact Or.inr rfl) (pe_op op_times (pe_lst (pa_cons (pe_int) (pa_nil))) (pe_callB call_len (by rfl) (T.free 62) (by decide +kernel) (pa_cons (pe_ix ix_seq (pv 0) (pe_int) (fun _ _ => rfl)) (pa_nil))))) (pss_cons (ps_for (passes_of rfl) rfl (pi_list (pe_g g_events_of hr (by decide) (by rfl) (pa_cons (pv 0) (pa_cons (pv 1) (pa_nil))))) (pg_tup rfl (pgs_cons (pg_name (i := 3) nd rfl (by first | exact Or.inl rfl | exact Or.inr rfl)) (pgs_cons (pg_name (i := 4) nd rfl (by first | exact Or.inl rfl | exact Or.inr rfl)) (pgs_nil)))) (pss_one (ps_asg (pe_op op_plus (pv 4) (pe_int)) (pg_sub (pv 2) (pv 3) set_list)))) (pss_one (ps_ret (pe_callTy call_tuple_of (by rfl) (T.free 67) (by decide +kernel) (pa_cons (pv 2) (pa_nil))))))
/-! #### is_in (level 1) -/
abbrev t_is_in (K : PySem.W.Frag)  : TS := tRet (tOp rLtI (tOp (rIx K) (tVar 0) (tC (.int 1))) (tOp (rIx K) (tVar 1) (tOp (rIx K) (tVar 0) (tC (.int 0)))))
theorem dv_is_in  (hr : Room 0 (A.deeper (envOfC qual (defScope s_is_in) s.heap.objs.size f cdv))) : PSs (cxOf CX0 P w K mg base N_is_in qual (defScope s_is_in) f cdv A outer s H E) (defBody s_is_in) (t_is_in K ) := by
  have nd := sc_is_in.nd
  have hu := hr.units
  have hu1 := hu1_of hr.units
  exact pss_one (ps_ret (pe_cmpR op_lt (pe_ix ix_seq (pv 0) (pe_int) (fun _ _ => rfl)) (pe_ix ix_seq (pv 1) (pe_ix ix_seq (pv 0) (pe_int) (fun _ _ => rfl)) (fun _ _ => rfl)) (nomark _)))
/-! #### roads_of_letters (level 8) -/
abbrev t_roads_of_letters (K : PySem.W.Frag) (q_events_of : Sp) (q_letters_of : Sp) : TS := tSeq (tAsg (tCall q_events_of [] E0 (tCons (tVar 0) (tCons (tVar 2) (tNil)))) (gName 3)) (tSeq (tAsg (tLst (tNil)) (gName 4)) (tSeq (tFor (iValsT (tCall q_letters_of [] E0 (tCons (tVar 0) (tCons (tVar 1) (tCons (tVar 2) (tNil)))))) (gTup K 2 (gCons (gName 5) (gCons (gName 6) (gNil)))) (tIfS (tTest (tOp rNotNo (tVar 6) (tC .non))) (tDrop (tBM K "list" rAppend (tVar 4) (tCons (tTup (tCons (tIf (tTest (tOp rIsNo (tVar 5) (tC .non))) (tC .non) (tOp (rIx K) (tVar 3) (tVar 5))) (tCons (tOp (rIx K) (tVar 3) (tVar 6)) (tNil)))) (tNil)))) (tNext))) (tRet (tVar 4))))
theorem dv_roads_of_letters {q_events_of : Sp} (g_events_of : Gv P w K mg base CX0 2 "events_of" P_events_of q_events_of) {q_letters_of : Sp} (g_letters_of : Gv P w K mg base CX0 7 "letters_of" P_letters_of q_letters_of) (hr : Room 7 (A.deeper (envOfC qual (defScope s_roads_of_letters) s.heap.objs.size f cdv))) : PSs (cxOf CX0 P w K mg base N_roads_of_letters qual (defScope s_roads_of_letters) f cdv A outer s H E) (defBody s_roads_of_letters) (t_roads_of_letters K q_events_of q_letters_of) := by
  have nd := sc_roads_of_letters.nd
  have hu := hr.units
  have hu1 := hu1_of hr.units
  exact pss_cons (ps_set (i := 3) nd rfl (by first | exact Or.inl rfl | exact Or.inr rfl) (pe_g g_events_of hr (by decide) (by rfl) (pa_cons (pv 0) (pa_cons (pv 2) (pa_nil))))) (pss_cons (ps_set (i := 4) nd rfl (by first | exact Or.inl rfl | exact Or.inr rfl) (pe_lst (pa_nil))) (pss_cons (ps_for (passes_of rfl) rfl (pi_valuesT (pe_g g_letters_of hr (by decide) (by rfl) (pa_cons (pv 0) (pa_cons (pv 1) (pa_cons (pv 2) (pa_nil)))))) (pg_tup rfl (pgs_cons (pg_name (i := 5) nd rfl (by first | exact Or.inl rfl | exact Or.inr rfl)) (pgs_cons (pg_name (i := 6) nd rfl (by first | exact Or.inl rfl | exact Or.inr rfl)) (pgs_nil)))) (pss_one (ps_if (pt_cmpR op_notN (pv 6) (pe_non) (nomark _)) (pss_one (ps_expr (pe_bm PySem.F.plainAttrs_list PySem.F.slot_list_append PySem.F.type_list_append mt_append (pv 4) (pa_cons (pe_tup (pa_cons (pe_ifExp (pt_cmpR op_isN (pv 5) (pe_non) (nomark _)) (pe_non) (pe_ix ix_seq (pv 3) (pv 5) (fun _ _ => rfl))) (pa_cons (pe_ix ix_seq (pv 3) (pv 6) (fun _ _ => rfl)) (pa_nil)))) (pa_nil))))) (pss_nil)))) (pss_one (ps_ret (pv 4)))))
/-! #### first_come_unsent (level 9) -/
abbrev t_first_come_unsent (K : PySem.W.Frag) (q_roads_of_letters : Sp) (q_is_in : Sp) : TS := tSeq (tAsg (tLst (tNil)) (gName 4)) (tSeq (tFor (iList K (tCall q_roads_of_letters [] E0 (tCons (tVar 0) (tCons (tVar 1) (tCons (tVar 2) (tNil)))))) (gTup K 2 (gCons (gName 5) (gCons (gName 6) (gNil)))) (tIfS (tAnd (tB (tCall q_is_in [] E0 (tCons (tVar 6) (tCons (tVar 3) (tNil))))) (tAnd (tTest (tOp rNotNo (tVar 5) (tC .non))) (tNot (tB (tCall q_is_in [] E0 (tCons (tVar 5) (tCons (tVar 3) (tNil)))))))) (tDrop (tBM K "list" rAppend (tVar 4) (tCons (tOp (rIx K) (tVar 6) (tC (.int 0))) (tNil)))) (tNext))) (tRet (tCKw (rMinD K) (tCons (tVar 4) (tNil)) (tCons (tC .non) tNil))))
theorem dv_first_come_unsent {q_roads_of_letters : Sp} (g_roads_of_letters : Gv P w K mg base CX0 8 "roads_of_letters" P_roads_of_letters q_roads_of_letters) {q_is_in : Sp} (g_is_in : Gv P w K mg base CX0 1 "is_in" P_is_in q_is_in) (hr : Room 8 (A.deeper (envOfC qual (defScope s_first_come_unsent) s.heap.objs.size f cdv))) : PSs (cxOf CX0 P w K mg base N_first_come_unsent qual (defScope s_first_come_unsent) f cdv A outer s H E) (defBody s_first_come_unsent) (t_first_come_unsent K q_roads_of_letters q_is_in) := by
  have nd := sc_first_come_unsent.nd
  have hu := hr.units
  have hu1 := hu1_of hr.units
  exact pss_cons (ps_set (i := 4) nd rfl (by first | exact Or.inl rfl | exact Or.inr rfl) (pe_lst (pa_nil))) (pss_cons (ps_for (passes_of rfl) rfl (pi_list (pe_g g_roads_of_letters hr (by decide) (by rfl) (pa_cons (pv 0) (pa_cons (pv 1) (pa_cons (pv 2) (pa_nil)))))) (pg_tup rfl (pgs_cons (pg_name (i := 5) nd rfl (by first | exact Or.inl rfl | exact Or.inr rfl)) (pgs_cons (pg_name (i := 6) nd rfl (by first | exact Or.inl rfl | exact Or.inr rfl)) (pgs_nil)))) (pss_one (ps_if ((pw_and (pt_val (pe_g g_is_in hr (by decide) (by rfl) (pa_cons (pv 6) (pa_cons (pv 3) (pa_nil))))) (pw_and (pt_cmpR op_notN (pv 5) (pe_non) (nomark _)) (pw_and1 (pt_not (pt_val (pe_g g_is_in hr (by decide) (by rfl) (pa_cons (pv 5) (pa_cons (pv 3) (pa_nil))))))))).pt) (pss_one (ps_expr (pe_bm PySem.F.plainAttrs_list PySem.F.slot_list_append PySem.F.type_list_append mt_append (pv 4) (pa_cons (pe_ix ix_seq (pv 6) (pe_int) (fun _ _ => rfl)) (pa_nil))))) (pss_nil)))) (pss_one (ps_ret (pe_callBK (cr_minD rfl hu) (by rfl) (T.free 72) (by decide +kernel) (pa_cons (pv 4) (pa_nil)) (pk_cons (pe_non) pk_nil)))))
/-! #### deeds_in (level 3) -/
abbrev t_deeds_in (K : PySem.W.Frag) (q_events_of : Sp) (q_is_in : Sp) : TS := tSeq (tAsg (tCall q_events_of [] E0 (tCons (tVar 0) (tCons (tVar 1) (tNil)))) (gName 3)) (tRet (tLc (iRng1 (tCons (tCB (rLenU K) (tCons (tVar 3) (tNil))) (tNil))) (gName 4) (tB (tCall q_is_in [] E0 (tCons (tOp (rIx K) (tVar 3) (tVar 4)) (tCons (tVar 2) (tNil))))) (tVar 4) [4]))
theorem dv_deeds_in {q_events_of : Sp} (g_events_of : Gv P w K mg base CX0 2 "events_of" P_events_of q_events_of) {q_is_in : Sp} (g_is_in : Gv P w K mg base CX0 1 "is_in" P_is_in q_is_in) (hr : Room 2 (A.deeper (envOfC qual (defScope s_deeds_in) s.heap.objs.size f cdv))) : PSs (cxOf CX0 P w K mg base N_deeds_in qual (defScope s_deeds_in) f cdv A outer s H E) (defBody s_deeds_in) (t_deeds_in K q_events_of q_is_in) := by
  have nd := sc_deeds_in.nd
  have hu := hr.units
  have hu1 := hu1_of hr.units
  exact pss_cons (ps_set (i := 3) nd rfl (by first | exact Or.inl rfl | exact Or.inr rfl) (pe_g g_events_of hr (by decide) (by rfl) (pa_cons (pv 0) (pa_cons (pv 1) (pa_nil))))) (pss_one (ps_ret (pe_lc (own := [("number", 4)]) rfl nd (pi_range1 (by rfl) (T.free 69) (pa_cons (pe_callB call_len (by rfl) (T.free 62) (by decide +kernel) (pa_cons (pv 3) (pa_nil))) (pa_nil))) (blkOk_by (own := [("number", 4)]) (N := N_deeds_in) (sc := defScope s_deeds_in) (by decide +kernel)) (fun _ _ _ _ _ => pg_name (i := 4) nd rfl (by first | exact Or.inl rfl | exact Or.inr rfl)) (fun _ _ _ _ _ => pts_one (pt_val (pe_g g_is_in hr (by decide) (by rfl) (pa_cons (pe_ix ix_seq (pv 3) (pv 4) (fun _ _ => rfl)) (pa_cons (pv 2) (pa_nil)))))) (fun _ _ _ _ _ => pv 4))))
/-! #### through (level 4) -/
abbrev t_through (K : PySem.W.Frag) (q_deeds_in : Sp) : TS := tSeq (tAsg (tCall q_deeds_in [] E0 (tCons (tVar 0) (tCons (tVar 2) (tCons (tVar 3) (tNil))))) (gName 4)) (tSeq (tAsg (tLc (iRng1 (tCons (tCB (rLenU K) (tCons (tVar 2) (tNil))) (tNil))) (gName 6) (tTest (tOp (rIn K true) (tVar 6) (tVar 4))) (tVar 6) [6]) (gName 5)) (tRet (tTup (tCons (tCB (rTupU K) (tCons (tOp (rPlus K) (tVar 4) (tVar 5)) (tNil))) (tCons (tCB (rLenU K) (tCons (tVar 4) (tNil))) (tNil))))))
theorem dv_through {q_deeds_in : Sp} (g_deeds_in : Gv P w K mg base CX0 3 "deeds_in" P_deeds_in q_deeds_in) (hr : Room 3 (A.deeper (envOfC qual (defScope s_through) s.heap.objs.size f cdv))) : PSs (cxOf CX0 P w K mg base N_through qual (defScope s_through) f cdv A outer s H E) (defBody s_through) (t_through K q_deeds_in) := by
  have nd := sc_through.nd
  have hu := hr.units
  have hu1 := hu1_of hr.units
  exact pss_cons (ps_set (i := 4) nd rfl (by first | exact Or.inl rfl | exact Or.inr rfl) (pe_g g_deeds_in hr (by decide) (by rfl) (pa_cons (pv 0) (pa_cons (pv 2) (pa_cons (pv 3) (pa_nil)))))) (pss_cons (ps_setLc (i := 5) (own := [("number", 6)]) rfl nd rfl rfl (sw_true rfl rfl rfl (by decide +kernel)) (pi_range1 (by rfl) (T.free 69) (pa_cons (pe_callB call_len (by rfl) (T.free 62) (by decide +kernel) (pa_cons (pv 2) (pa_nil))) (pa_nil))) (blkOk_by (own := [("number", 6)]) (N := N_through) (sc := defScope s_through) (by decide +kernel)) (fun _ _ _ _ _ => pg_name (i := 6) nd rfl (by first | exact Or.inl rfl | exact Or.inr rfl)) (fun _ _ _ _ _ => pts_one (pt_cmpR op_notIn_seq (pv 6) (pv 4) rfl)) (fun _ _ _ _ _ => pv 6)) (pss_one (ps_ret (pe_tup (pa_cons (pe_callTy call_tuple_of (by rfl) (T.free 67) (by decide +kernel) (pa_cons (pe_op op_plus (pv 4) (pv 5)) (pa_nil))) (pa_cons (pe_callB call_len (by rfl) (T.free 62) (by decide +kernel) (pa_cons (pv 4) (pa_nil))) (pa_nil)))))))
/-! #### mix_L (level 1) -/
abbrev t_mix_L (K : PySem.W.Frag)  : TS := tSeq (tAsg (tOp (rModI) (tOp (rPlus K) (tOp (rPlus K) (tOp (rTimes K) (tOp (rModI) (tVar 0) (tC (.int 1000000007))) (tC (.int 48271))) (tOp (rTimes K) (tVar 1) (tC (.int 7919)))) (tC (.int 101))) (tC (.int 2147483647))) (gName 2)) (tRet (tOp (rModI) (tOp (rTimes K) (tOp (rModI) (tOp (rTimes K) (tVar 2) (tVar 2)) (tC (.int 2147483629))) (tC (.int 69621))) (tC (.int 2147483647))))
theorem dv_mix_L  (hr : Room 0 (A.deeper (envOfC qual (defScope s_mix_L) s.heap.objs.size f cdv))) : PSs (cxOf CX0 P w K mg base N_mix_L qual (defScope s_mix_L) f cdv A outer s H E) (defBody s_mix_L) (t_mix_L K ) := by
  have nd := sc_mix_L.nd
  have hu := hr.units
  have hu1 := hu1_of hr.units
  exact pss_cons (ps_set (i := 2) nd rfl (by first | exact Or.inl rfl | exact Or.inr rfl) (pe_op op_mod (pe_op op_plus (pe_op op_plus (pe_op op_times (pe_op op_mod (pv 0) (pe_int)) (pe_int)) (pe_op op_times (pv 1) (pe_int))) (pe_int)) (pe_int))) (pss_one (ps_ret (pe_op op_mod (pe_op op_times (pe_op op_mod (pe_op op_times (pv 2) (pv 2)) (pe_int)) (pe_int)) (pe_int))))
/-! #### cell_L (level 2) -/
abbrev t_cell_L (K : PySem.W.Frag) (q_mix_L : Sp) : TS := tSeq (tIfS (tTest (tOp rLtI (tVar 1) (tCB (rLenU K) (tCons (tVar 0) (tNil))))) (tRet (tOp (rIx K) (tVar 0) (tVar 1))) (tNext)) (tSeq (tAsg (tC (.int 0)) (gName 2)) (tSeq (tIfS (tTest (tOp rGtI (tCB (rLenU K) (tCons (tVar 0) (tNil))) (tC (.int 0)))) (tAsg (tOp (rIx K) (tVar 0) (tOp (rModI) (tVar 1) (tCB (rLenU K) (tCons (tVar 0) (tNil))))) (gName 2)) (tNext)) (tRet (tCall q_mix_L [] E0 (tCons (tVar 2) (tCons (tVar 1) (tNil)))))))
theorem dv_cell_L {q_mix_L : Sp} (g_mix_L : Gv P w K mg base CX0 1 "_law_mix" P_mix_L q_mix_L) (hr : Room 1 (A.deeper (envOfC qual (defScope s_cell_L) s.heap.objs.size f cdv))) : PSs (cxOf CX0 P w K mg base N_cell_L qual (defScope s_cell_L) f cdv A outer s H E) (defBody s_cell_L) (t_cell_L K q_mix_L) := by
  have nd := sc_cell_L.nd
  have hu := hr.units
  have hu1 := hu1_of hr.units
  exact pss_cons (ps_if (pt_cmpR op_lt (pv 1) (pe_callB call_len (by rfl) (T.free 62) (by decide +kernel) (pa_cons (pv 0) (pa_nil))) (nomark _)) (pss_one (ps_ret (pe_ix ix_seq (pv 0) (pv 1) (fun _ _ => rfl)))) (pss_nil)) (pss_cons (ps_set (i := 2) nd rfl (by first | exact Or.inl rfl | exact Or.inr rfl) (pe_int)) (pss_cons (ps_if (pt_cmpR op_gt (pe_callB call_len (by rfl) (T.free 62) (by decide +kernel) (pa_cons (pv 0) (pa_nil))) (pe_int) (nomark _)) (pss_one (ps_set (i := 2) nd rfl (by first | exact Or.inl rfl | exact Or.inr rfl) (pe_ix ix_seq (pv 0) (pe_op op_mod (pv 1) (pe_callB call_len (by rfl) (T.free 62) (by decide +kernel) (pa_cons (pv 0) (pa_nil)))) (fun _ _ => rfl)))) (pss_nil)) (pss_one (ps_ret (pe_g g_mix_L hr (by decide) (by rfl) (pa_cons (pv 2) (pa_cons (pv 1) (pa_nil))))))))
/-! #### drawn_L (level 2) -/
abbrev t_drawn_L (K : PySem.W.Frag) (q_mix_L : Sp) : TS := tSeq (tAsg (tLst (tNil)) (gName 2)) (tSeq (tAsg (tOp (rTimes K) (tVar 0) (tCB (rIntU) (tCons (tOp rGeI (tVar 0) (tOp (rPowI) (tC (.int 10)) (tC (.int 18)))) (tNil)))) (gName 3)) (tSeq (tFor (iRng1 (tCons (tVar 1) (tNil))) (gName 4) (tIfS (tTest (tOp rGtI (tVar 3) (tC (.int 0)))) (tSeq (tDrop (tBM K "list" rAppend (tVar 2) (tCons (tOp (rModI) (tVar 3) (tC (.int 4096))) (tNil)))) (tAsg (tOp (rDivI) (tVar 3) (tC (.int 4096))) (gName 3))) (tDrop (tBM K "list" rAppend (tVar 2) (tCons (tOp (rModI) (tOp (rDivI) (tCall q_mix_L [] E0 (tCons (tVar 0) (tCons (tVar 4) (tNil)))) (tC (.int 3))) (tC (.int 4096))) (tNil)))))) (tRet (tVar 2))))
theorem dv_drawn_L {q_mix_L : Sp} (g_mix_L : Gv P w K mg base CX0 1 "_law_mix" P_mix_L q_mix_L) (hr : Room 1 (A.deeper (envOfC qual (defScope s_drawn_L) s.heap.objs.size f cdv))) : PSs (cxOf CX0 P w K mg base N_drawn_L qual (defScope s_drawn_L) f cdv A outer s H E) (defBody s_drawn_L) (t_drawn_L K q_mix_L) := by
  have nd := sc_drawn_L.nd
  have hu := hr.units
  have hu1 := hu1_of hr.units
  exact pss_cons (ps_set (i := 2) nd rfl (by first | exact Or.inl rfl | exact Or.inr rfl) (pe_lst (pa_nil))) (pss_cons (ps_set (i := 3) nd rfl (by first | exact Or.inl rfl | exact Or.inr rfl) (pe_op op_times (pv 0) (pe_callTy call_int1 (by rfl) (T.free 64) (by decide +kernel) (pa_cons (pe_cmpR op_ge (pv 0) (pe_op op_pow (pe_int) (pe_int)) (nomark _)) (pa_nil))))) (pss_cons (ps_for (passes_of rfl) rfl (pi_range1 (by rfl) (T.free 69) (pa_cons (pv 1) (pa_nil))) (pg_name (i := 4) nd rfl (by first | exact Or.inl rfl | exact Or.inr rfl)) (pss_one (ps_if (pt_cmpR op_gt (pv 3) (pe_int) (nomark _)) (pss_cons (ps_expr (pe_bm PySem.F.plainAttrs_list PySem.F.slot_list_append PySem.F.type_list_append mt_append (pv 2) (pa_cons (pe_op op_mod (pv 3) (pe_int)) (pa_nil)))) (pss_one (ps_set (i := 3) nd rfl (by first | exact Or.inl rfl | exact Or.inr rfl) (pe_op op_fdiv (pv 3) (pe_int))))) (pss_one (ps_expr (pe_bm PySem.F.plainAttrs_list PySem.F.slot_list_append PySem.F.type_list_append mt_append (pv 2) (pa_cons (pe_op op_mod (pe_op op_fdiv (pe_g g_mix_L hr (by decide) (by rfl) (pa_cons (pv 0) (pa_cons (pv 4) (pa_nil)))) (pe_int)) (pe_int)) (pa_nil)))))))) (pss_one (ps_ret (pv 2)))))
/-! #### rule_L (level 1) -/
abbrev t_rule_L (K : PySem.W.Frag)  : TS := tSeq (tAsg (tLst (tNil)) (gName 2)) (tSeq (tFor (iRng1 (tCons (tC (.int 9)) (tNil))) (gName 3) (tSeq (tAsg (tSl (rSlU K) (tVar 0) (tPart (tOp (rPlus K) (tC (.int 1)) (tOp (rTimes K) (tC (.int 3)) (tVar 3)))) (tPart (tOp (rPlus K) (tC (.int 4)) (tOp (rTimes K) (tC (.int 3)) (tVar 3))))) (gUnl K 3 (gCons (gName 4) (gCons (gName 5) (gCons (gName 6) (gNil)))))) (tSeq (tAsg (tLst (tNil)) (gName 7)) (tSeq (tFor (iRng1 (tCons (tOp (rTimes K) (tOp (rIx K) (tLst (tCons (tC (.int 0)) (tCons (tC (.int 1)) (tCons (tC (.int 1)) (tCons (tC (.int 2)) (tNil)))))) (tOp (rModI) (tOp (rDivI) (tVar 4) (tC (.int 6))) (tC (.int 4)))) (tCB (rIntU) (tCons (tOp rGtI (tCB (rLenU K) (tCons (tVar 1) (tNil))) (tC (.int 0))) (tNil)))) (tNil))) (gName 8) (tSeq (tAsg (tOp (rIx K) (tVar 1) (tOp (rModI) (tOp (rPlus K) (tOp (rDivI) (tVar 5) (tC (.int 3))) (tOp (rTimes K) (tVar 8) (tVar 6))) (tCB (rLenU K) (tCons (tVar 1) (tNil))))) (gName 9)) (tDrop (tBM K "list" rAppend (tVar 7) (tCons (tTup (tCons (tVar 9) (tCons (tOp (rIx K) (tC (.str "ab")) (tOp (rModI) (tOp (rPlus K) (tOp (rDivI) (tVar 6) (tC (.int 2))) (tVar 8)) (tC (.int 2)))) (tNil)))) (tNil)))))) (tSeq (tAsg (tOp (rIx K) (tLst (tCons (tC .non) (tCons (tC .non) (tCons (tC (.str "hi")) (tCons (tC (.str "no")) (tCons (tC (.str "on")) (tNil))))))) (tOp (rModI) (tOp (rDivI) (tVar 6) (tC (.int 4))) (tC (.int 5)))) (gName 10)) (tIfS (tTest (tOp rGtI (tOp (rModI) (tVar 4) (tC (.int 6))) (tC (.int 0)))) (tDrop (tBM K "list" rAppend (tVar 2) (tCons (tTup (tCons (tOp (rDivI) (tVar 3) (tC (.int 3))) (tCons (tOp (rIx K) (tLst (tCons (tC (.str "own")) (tCons (tC (.str "a")) (tCons (tC (.str "b")) (tNil))))) (tOp (rModI) (tVar 3) (tC (.int 3)))) (tCons (tOp (rModI) (tVar 5) (tC (.int 3))) (tCons (tCB (rTupU K) (tCons (tVar 7) (tNil))) (tCons (tVar 10) (tNil))))))) (tNil)))) (tNext))))))) (tRet (tTup (tCons (tOp (rModI) (tOp (rIx K) (tVar 0) (tC (.int 0))) (tC (.int 3))) (tCons (tCB (rTupU K) (tCons (tVar 2) (tNil))) (tNil))))))
theorem dv_rule_L  (hr : Room 0 (A.deeper (envOfC qual (defScope s_rule_L) s.heap.objs.size f cdv))) : PSs (cxOf CX0 P w K mg base N_rule_L qual (defScope s_rule_L) f cdv A outer s H E) (defBody s_rule_L) (t_rule_L K ) := by
  have nd := sc_rule_L.nd
  have hu := hr.units
  have hu1 := hu1_of hr.units
  exact pss_cons (ps_set (i := 2) nd rfl (by first | exact Or.inl rfl | exact Or.inr rfl) (pe_lst (pa_nil))) (pss_cons (ps_for (passes_of rfl) rfl (pi_range1 (by rfl) (T.free 69) (pa_cons (pe_int) (pa_nil))) (pg_name (i := 3) nd rfl (by first | exact Or.inl rfl | exact Or.inr rfl)) (pss_cons (ps_asg (pe_slice sl_u (pv 0) (po_some (pe_op op_plus (pe_int) (pe_op op_times (pe_int) (pv 3)))) (po_some (pe_op op_plus (pe_int) (pe_op op_times (pe_int) (pv 3))))) (pg_unl rfl (pgs_cons (pg_name (i := 4) nd rfl (by first | exact Or.inl rfl | exact Or.inr rfl)) (pgs_cons (pg_name (i := 5) nd rfl (by first | exact Or.inl rfl | exact Or.inr rfl)) (pgs_cons (pg_name (i := 6) nd rfl (by first | exact Or.inl rfl | exact Or.inr rfl)) (pgs_nil)))))) (pss_cons (ps_set (i := 7) nd rfl (by first | exact Or.inl rfl | exact Or.inr rfl) (pe_lst (pa_nil))) (pss_cons (ps_for (passes_of rfl) rfl (pi_range1 (by rfl) (T.free 69) (pa_cons (pe_op op_times (pe_ix ix_seq (pe_lst (pa_cons (pe_int) (pa_cons (pe_int) (pa_cons (pe_int) (pa_cons (pe_int) (pa_nil)))))) (pe_op op_mod (pe_op op_fdiv (pv 4) (pe_int)) (pe_int)) (fun _ _ => rfl)) (pe_callTy call_int1 (by rfl) (T.free 64) (by decide +kernel) (pa_cons (pe_cmpR op_gt (pe_callB call_len (by rfl) (T.free 62) (by decide +kernel) (pa_cons (pv 1) (pa_nil))) (pe_int) (nomark _)) (pa_nil)))) (pa_nil))) (pg_name (i := 8) nd rfl (by first | exact Or.inl rfl | exact Or.inr rfl)) (pss_cons (ps_set (i := 9) nd rfl (by first | exact Or.inl rfl | exact Or.inr rfl) (pe_ix ix_seq (pv 1) (pe_op op_mod (pe_op op_plus (pe_op op_fdiv (pv 5) (pe_int)) (pe_op op_times (pv 8) (pv 6))) (pe_callB call_len (by rfl) (T.free 62) (by decide +kernel) (pa_cons (pv 1) (pa_nil)))) (fun _ _ => rfl))) (pss_one (ps_expr (pe_bm PySem.F.plainAttrs_list PySem.F.slot_list_append PySem.F.type_list_append mt_append (pv 7) (pa_cons (pe_tup (pa_cons (pv 9) (pa_cons (pe_ix ix_seq (pe_str) (pe_op op_mod (pe_op op_plus (pe_op op_fdiv (pv 6) (pe_int)) (pv 8)) (pe_int)) (fun _ _ => rfl)) (pa_nil)))) (pa_nil))))))) (pss_cons (ps_set (i := 10) nd rfl (by first | exact Or.inl rfl | exact Or.inr rfl) (pe_ix ix_seq (pe_lst (pa_cons (pe_non) (pa_cons (pe_non) (pa_cons (pe_str) (pa_cons (pe_str) (pa_cons (pe_str) (pa_nil))))))) (pe_op op_mod (pe_op op_fdiv (pv 6) (pe_int)) (pe_int)) (fun _ _ => rfl))) (pss_one (ps_if (pt_cmpR op_gt (pe_op op_mod (pv 4) (pe_int)) (pe_int) (nomark _)) (pss_one (ps_expr (pe_bm PySem.F.plainAttrs_list PySem.F.slot_list_append PySem.F.type_list_append mt_append (pv 2) (pa_cons (pe_tup (pa_cons (pe_op op_fdiv (pv 3) (pe_int)) (pa_cons (pe_ix ix_seq (pe_lst (pa_cons (pe_str) (pa_cons (pe_str) (pa_cons (pe_str) (pa_nil))))) (pe_op op_mod (pv 3) (pe_int)) (fun _ _ => rfl)) (pa_cons (pe_op op_mod (pv 5) (pe_int)) (pa_cons (pe_callTy call_tuple_of (by rfl) (T.free 67) (by decide +kernel) (pa_cons (pv 7) (pa_nil))) (pa_cons (pv 10) (pa_nil))))))) (pa_nil))))) (pss_nil)))))))) (pss_one (ps_ret (pe_tup (pa_cons (pe_op op_mod (pe_ix ix_seq (pv 0) (pe_int) (fun _ _ => rfl)) (pe_int)) (pa_cons (pe_callTy call_tuple_of (by rfl) (T.free 67) (by decide +kernel) (pa_cons (pv 2) (pa_nil))) (pa_nil)))))))
/-! #### form_L (level 3) -/
abbrev t_form_L (K : PySem.W.Frag) (q_drawn_L : Sp) (q_cell_L : Sp) (q_rule_L : Sp) : TS := tSeq (tAsg (tCall q_drawn_L [] E0 (tCons (tCall q_cell_L [] E0 (tCons (tVar 0) (tCons (tC (.int 0)) (tNil)))) (tCons (tC (.int 26)) (tNil)))) (gName 1)) (tSeq (tAsg (tOp (rIx K) (tLst (tCons (tC (.int 2)) (tCons (tC (.int 2)) (tCons (tC (.int 3)) (tCons (tC (.int 3)) (tCons (tC (.int 3)) (tCons (tC (.int 4)) (tCons (tC (.int 1)) (tCons (tC (.int 2)) (tNil)))))))))) (tOp (rModI) (tOp (rIx K) (tVar 1) (tC (.int 0))) (tC (.int 8)))) (gName 2)) (tSeq (tAsg (tLst (tNil)) (gName 3)) (tSeq (tFor (iRng1 (tCons (tOp (rTimes K) (tOp (rIx K) (tLst (tCons (tC (.int 1)) (tCons (tC (.int 2)) (tCons (tC (.int 3)) (tCons (tC (.int 4)) (tCons (tC (.int 5)) (tCons (tC (.int 6)) (tCons (tC (.int 8)) (tCons (tC (.int 0)) (tNil)))))))))) (tOp (rModI) (tOp (rIx K) (tVar 1) (tC (.int 1))) (tC (.int 8)))) (tCB (rIntU) (tCons (tOp rGtI (tVar 2) (tC (.int 1))) (tNil)))) (tNil))) (gName 4) (tSeq (tAsg (tOp (rModI) (tOp (rIx K) (tVar 1) (tOp (rPlus K) (tC (.int 2)) (tOp (rTimes K) (tC (.int 3)) (tVar 4)))) (tVar 2)) (gName 5)) (tSeq (tAsg (tOp (rModI) (tOp (rPlus K) (tOp (rPlus K) (tVar 5) (tC (.int 1))) (tOp (rModI) (tOp (rIx K) (tVar 1) (tOp (rPlus K) (tC (.int 3)) (tOp (rTimes K) (tC (.int 3)) (tVar 4)))) (tOp (rSubI) (tVar 2) (tC (.int 1))))) (tVar 2)) (gName 6)) (tDrop (tBM K "list" rAppend (tVar 3) (tCons (tTup (tCons (tVar 5) (tCons (tVar 6) (tCons (tOp (rIx K) (tLst (tCons (tC (.str "row")) (tCons (tC (.str "heap")) (tNil)))) (tOp (rModI) (tOp (rIx K) (tVar 1) (tOp (rPlus K) (tC (.int 4)) (tOp (rTimes K) (tC (.int 3)) (tVar 4)))) (tC (.int 2)))) (tNil))))) (tNil))))))) (tSeq (tAsg (tLst (tNil)) (gName 7)) (tSeq (tFor (iRng1 (tCons (tVar 2) (tNil))) (gName 8) (tSeq (tAsg (tLc (iRng1 (tCons (tCB (rLenU K) (tCons (tVar 3) (tNil))) (tNil))) (gName 11) (tTest (tOp (rEqU K) (tOp (rIx K) (tOp (rIx K) (tVar 3) (tVar 11)) (tC (.int 0))) (tVar 8))) (tVar 11) [11]) (gName 9)) (tSeq (tAsg (tCall q_drawn_L [] E0 (tCons (tCall q_cell_L [] E0 (tCons (tVar 0) (tCons (tOp (rPlus K) (tC (.int 1)) (tVar 8)) (tNil)))) (tCons (tC (.int 28)) (tNil)))) (gName 10)) (tDrop (tBM K "list" rAppend (tVar 7) (tCons (tCall q_rule_L [] E0 (tCons (tVar 10) (tCons (tVar 9) (tNil)))) (tNil))))))) (tRet (tTup (tCons (tCB (rTupU K) (tCons (tVar 7) (tNil))) (tCons (tCB (rTupU K) (tCons (tVar 3) (tNil))) (tNil))))))))))
theorem dv_form_L {q_drawn_L : Sp} (g_drawn_L : Gv P w K mg base CX0 2 "_law_drawn" P_drawn_L q_drawn_L) {q_cell_L : Sp} (g_cell_L : Gv P w K mg base CX0 2 "_law_cell" P_cell_L q_cell_L) {q_rule_L : Sp} (g_rule_L : Gv P w K mg base CX0 1 "_law_rule" P_rule_L q_rule_L) (hr : Room 2 (A.deeper (envOfC qual (defScope s_form_L) s.heap.objs.size f cdv))) : PSs (cxOf CX0 P w K mg base N_form_L qual (defScope s_form_L) f cdv A outer s H E) (defBody s_form_L) (t_form_L K q_drawn_L q_cell_L q_rule_L) := by
  have nd := sc_form_L.nd
  have hu := hr.units
  have hu1 := hu1_of hr.units
  exact pss_cons (ps_set (i := 1) nd rfl (by first | exact Or.inl rfl | exact Or.inr rfl) (pe_g g_drawn_L hr (by decide) (by rfl) (pa_cons (pe_g g_cell_L hr (by decide) (by rfl) (pa_cons (pv 0) (pa_cons (pe_int) (pa_nil)))) (pa_cons (pe_int) (pa_nil))))) (pss_cons (ps_set (i := 2) nd rfl (by first | exact Or.inl rfl | exact Or.inr rfl) (pe_ix ix_seq (pe_lst (pa_cons (pe_int) (pa_cons (pe_int) (pa_cons (pe_int) (pa_cons (pe_int) (pa_cons (pe_int) (pa_cons (pe_int) (pa_cons (pe_int) (pa_cons (pe_int) (pa_nil)))))))))) (pe_op op_mod (pe_ix ix_seq (pv 1) (pe_int) (fun _ _ => rfl)) (pe_int)) (fun _ _ => rfl))) (pss_cons (ps_set (i := 3) nd rfl (by first | exact Or.inl rfl | exact Or.inr rfl) (pe_lst (pa_nil))) (pss_cons (ps_for (passes_of rfl) rfl (pi_range1 (by rfl) (T.free 69) (pa_cons (pe_op op_times (pe_ix ix_seq (pe_lst (pa_cons (pe_int) (pa_cons (pe_int) (pa_cons (pe_int) (pa_cons (pe_int) (pa_cons (pe_int) (pa_cons (pe_int) (pa_cons (pe_int) (pa_cons (pe_int) (pa_nil)))))))))) (pe_op op_mod (pe_ix ix_seq (pv 1) (pe_int) (fun _ _ => rfl)) (pe_int)) (fun _ _ => rfl)) (pe_callTy call_int1 (by rfl) (T.free 64) (by decide +kernel) (pa_cons (pe_cmpR op_gt (pv 2) (pe_int) (nomark _)) (pa_nil)))) (pa_nil))) (pg_name (i := 4) nd rfl (by first | exact Or.inl rfl | exact Or.inr rfl)) (pss_cons (ps_set (i := 5) nd rfl (by first | exact Or.inl rfl | exact Or.inr rfl) (pe_op op_mod (pe_ix ix_seq (pv 1) (pe_op op_plus (pe_int) (pe_op op_times (pe_int) (pv 4))) (fun _ _ => rfl)) (pv 2))) (pss_cons (ps_set (i := 6) nd rfl (by first | exact Or.inl rfl | exact Or.inr rfl) (pe_op op_mod (pe_op op_plus (pe_op op_plus (pv 5) (pe_int)) (pe_op op_mod (pe_ix ix_seq (pv 1) (pe_op op_plus (pe_int) (pe_op op_times (pe_int) (pv 4))) (fun _ _ => rfl)) (pe_op op_sub (pv 2) (pe_int)))) (pv 2))) (pss_one (ps_expr (pe_bm PySem.F.plainAttrs_list PySem.F.slot_list_append PySem.F.type_list_append mt_append (pv 3) (pa_cons (pe_tup (pa_cons (pv 5) (pa_cons (pv 6) (pa_cons (pe_ix ix_seq (pe_lst (pa_cons (pe_str) (pa_cons (pe_str) (pa_nil)))) (pe_op op_mod (pe_ix ix_seq (pv 1) (pe_op op_plus (pe_int) (pe_op op_times (pe_int) (pv 4))) (fun _ _ => rfl)) (pe_int)) (fun _ _ => rfl)) (pa_nil))))) (pa_nil)))))))) (pss_cons (ps_set (i := 7) nd rfl (by first | exact Or.inl rfl | exact Or.inr rfl) (pe_lst (pa_nil))) (pss_cons (ps_for (passes_of rfl) rfl (pi_range1 (by rfl) (T.free 69) (pa_cons (pv 2) (pa_nil))) (pg_name (i := 8) nd rfl (by first | exact Or.inl rfl | exact Or.inr rfl)) (pss_cons (ps_setLc (i := 9) (own := [("_law_r", 11)]) rfl nd rfl rfl (sw_true rfl rfl rfl (by decide +kernel)) (pi_range1 (by rfl) (T.free 69) (pa_cons (pe_callB call_len (by rfl) (T.free 62) (by decide +kernel) (pa_cons (pv 3) (pa_nil))) (pa_nil))) (blkOk_by (own := [("_law_r", 11)]) (N := N_form_L) (sc := defScope s_form_L) (by decide +kernel)) (fun _ _ _ _ _ => pg_name (i := 11) nd rfl (by first | exact Or.inl rfl | exact Or.inr rfl)) (fun _ _ _ _ _ => pts_one (pt_cmpR (op_eqU hu) (pe_ix ix_seq (pe_ix ix_seq (pv 3) (pv 11) (fun _ _ => rfl)) (pe_int) (fun _ _ => rfl)) (pv 8) (nomark _))) (fun _ _ _ _ _ => pv 11)) (pss_cons (ps_set (i := 10) nd rfl (by first | exact Or.inl rfl | exact Or.inr rfl) (pe_g g_drawn_L hr (by decide) (by rfl) (pa_cons (pe_g g_cell_L hr (by decide) (by rfl) (pa_cons (pv 0) (pa_cons (pe_op op_plus (pe_int) (pv 8)) (pa_nil)))) (pa_cons (pe_int) (pa_nil))))) (pss_one (ps_expr (pe_bm PySem.F.plainAttrs_list PySem.F.slot_list_append PySem.F.type_list_append mt_append (pv 7) (pa_cons (pe_g g_rule_L hr (by decide) (by rfl) (pa_cons (pv 10) (pa_cons (pv 9) (pa_nil)))) (pa_nil)))))))) (pss_one (ps_ret (pe_tup (pa_cons (pe_callTy call_tuple_of (by rfl) (T.free 67) (by decide +kernel) (pa_cons (pv 7) (pa_nil))) (pa_cons (pe_callTy call_tuple_of (by rfl) (T.free 67) (by decide +kernel) (pa_cons (pv 3) (pa_nil))) (pa_nil)))))))))))
/-! #### base_L (level 3) -/
abbrev t_base_L (K : PySem.W.Frag) (q_drawn_L : Sp) (q_cell_L : Sp) : TS := tSeq (tAsg (tCall q_drawn_L [] E0 (tCons (tCall q_cell_L [] E0 (tCons (tVar 0) (tCons (tC (.int 5)) (tNil)))) (tCons (tC (.int 21)) (tNil)))) (gName 2)) (tSeq (tAsg (tLst (tNil)) (gName 3)) (tSeq (tFor (iRng1 (tCons (tCB (rLenU K) (tCons (tOp (rIx K) (tVar 1) (tC (.int 1))) (tNil))) (tNil))) (gName 4) (tSeq (tAsg (tOp (rIx K) (tVar 2) (tOp (rPlus K) (tC (.int 5)) (tVar 4))) (gName 5)) (tSeq (tAsg (tLstRg (tRg2 (tOp (rModI) (tOp (rDivI) (tVar 5) (tC (.int 5))) (tOp (rPlus K) (tOp (rModI) (tVar 5) (tC (.int 5))) (tC (.int 1)))) (tOp (rModI) (tVar 5) (tC (.int 5))))) (gName 6)) (tSeq (tIfS (tTest (tOp (rEqU K) (tOp (rIx K) (tOp (rIx K) (tOp (rIx K) (tVar 1) (tC (.int 1))) (tVar 4)) (tC (.int 2))) (tC (.str "heap")))) (tAsg (tLc (iRng1 (tCons (tOp (rModI) (tVar 5) (tC (.int 5))) (tNil))) (gName 7) (tTest (tOp (rEqU K) (tOp (rModI) (tOp (rDivI) (tVar 5) (tOp (rIx K) (tLst (tCons (tC (.int 5)) (tCons (tC (.int 10)) (tCons (tC (.int 20)) (tCons (tC (.int 40)) (tNil)))))) (tVar 7))) (tC (.int 2))) (tC (.int 1)))) (tVar 7) [7]) (gName 6)) (tNext)) (tDrop (tBM K "list" rAppend (tVar 3) (tCons (tTup (tCons (tOp (rModI) (tVar 5) (tC (.int 5))) (tCons (tCB (rTupU K) (tCons (tLc (iList K (tVar 6)) (gName 7) (tYes) (tTup (tCons (tVar 7) (tCons (tOp (rIx K) (tC (.str "ab")) (tOp (rModI) (tOp (rDivI) (tOp (rIx K) (tVar 2) (tOp (rPlus K) (tC (.int 13)) (tVar 4))) (tOp (rPlus K) (tVar 7) (tC (.int 1)))) (tC (.int 2)))) (tNil)))) [7]) (tNil))) (tNil)))) (tNil)))))))) (tSeq (tIfS (tTest (tOp (rEqU K) (tOp (rModI) (tOp (rIx K) (tVar 2) (tC (.int 0))) (tC (.int 2))) (tC (.int 0)))) (tRet (tTup (tCons (tCB (rTupU K) (tCons (tLc (iTup K (tOp (rIx K) (tVar 1) (tC (.int 0)))) (gName 8) (tYes) (tOp (rIx K) (tVar 8) (tC (.int 0))) [8]) (tNil))) (tCons (tOp (rTimes K) (tTup (tCons (tTup (tCons (tC (.int 0)) (tCons (tTup (tNil)) (tNil)))) (tNil))) (tCB (rLenU K) (tCons (tOp (rIx K) (tVar 1) (tC (.int 1))) (tNil)))) (tNil))))) (tNext)) (tRet (tTup (tCons (tCB (rTupU K) (tCons (tLc (iRng1 (tCons (tCB (rLenU K) (tCons (tOp (rIx K) (tVar 1) (tC (.int 0))) (tNil))) (tNil))) (gName 9) (tYes) (tOp (rModI) (tOp (rIx K) (tVar 2) (tOp (rPlus K) (tC (.int 1)) (tVar 9))) (tC (.int 3))) [9]) (tNil))) (tCons (tCB (rTupU K) (tCons (tVar 3) (tNil))) (tNil))))))))
theorem dv_base_L {q_drawn_L : Sp} (g_drawn_L : Gv P w K mg base CX0 2 "_law_drawn" P_drawn_L q_drawn_L) {q_cell_L : Sp} (g_cell_L : Gv P w K mg base CX0 2 "_law_cell" P_cell_L q_cell_L) (hr : Room 2 (A.deeper (envOfC qual (defScope s_base_L) s.heap.objs.size f cdv))) : PSs (cxOf CX0 P w K mg base N_base_L qual (defScope s_base_L) f cdv A outer s H E) (defBody s_base_L) (t_base_L K q_drawn_L q_cell_L) := by
  have nd := sc_base_L.nd
  have hu := hr.units
  have hu1 := hu1_of hr.units
  exact pss_cons (ps_set (i := 2) nd rfl (by first | exact Or.inl rfl | exact Or.inr rfl) (pe_g g_drawn_L hr (by decide) (by rfl) (pa_cons (pe_g g_cell_L hr (by decide) (by rfl) (pa_cons (pv 0) (pa_cons (pe_int) (pa_nil)))) (pa_cons (pe_int) (pa_nil))))) (pss_cons (ps_set (i := 3) nd rfl (by first | exact Or.inl rfl | exact Or.inr rfl) (pe_lst (pa_nil))) (pss_cons (ps_for (passes_of rfl) rfl (pi_range1 (by rfl) (T.free 69) (pa_cons (pe_callB call_len (by rfl) (T.free 62) (by decide +kernel) (pa_cons (pe_ix ix_seq (pv 1) (pe_int) (fun _ _ => rfl)) (pa_nil))) (pa_nil))) (pg_name (i := 4) nd rfl (by first | exact Or.inl rfl | exact Or.inr rfl)) (pss_cons (ps_set (i := 5) nd rfl (by first | exact Or.inl rfl | exact Or.inr rfl) (pe_ix ix_seq (pv 2) (pe_op op_plus (pe_int) (pv 4)) (fun _ _ => rfl))) (pss_cons (ps_set (i := 6) nd rfl (by first | exact Or.inl rfl | exact Or.inr rfl) (pe_listRg rfl (by rfl) (T.free 68) (prg_2 (by rfl) (T.free 69) (pe_op op_mod (pe_op op_fdiv (pv 5) (pe_int)) (pe_op op_plus (pe_op op_mod (pv 5) (pe_int)) (pe_int))) (pe_op op_mod (pv 5) (pe_int))))) (pss_cons (ps_if (pt_cmpR (op_eqU hu) (pe_ix ix_seq (pe_ix ix_seq (pe_ix ix_seq (pv 1) (pe_int) (fun _ _ => rfl)) (pv 4) (fun _ _ => rfl)) (pe_int) (fun _ _ => rfl)) (pe_str) (nomark _)) (pss_one (ps_setLc (i := 6) (own := [("_law_k", 7)]) rfl nd rfl rfl (sw_true rfl rfl rfl (by decide +kernel)) (pi_range1 (by rfl) (T.free 69) (pa_cons (pe_op op_mod (pv 5) (pe_int)) (pa_nil))) (blkOk_by (own := [("_law_k", 7)]) (N := N_base_L) (sc := defScope s_base_L) (by decide +kernel)) (fun _ _ _ _ _ => pg_name (i := 7) nd rfl (by first | exact Or.inl rfl | exact Or.inr rfl)) (fun _ _ _ _ _ => pts_one (pt_cmpR (op_eqU hu) (pe_op op_mod (pe_op op_fdiv (pv 5) (pe_ix ix_seq (pe_lst (pa_cons (pe_int) (pa_cons (pe_int) (pa_cons (pe_int) (pa_cons (pe_int) (pa_nil)))))) (pv 7) (fun _ _ => rfl))) (pe_int)) (pe_int) (nomark _))) (fun _ _ _ _ _ => pv 7))) (pss_nil)) (pss_one (ps_expr (pe_bm PySem.F.plainAttrs_list PySem.F.slot_list_append PySem.F.type_list_append mt_append (pv 3) (pa_cons (pe_tup (pa_cons (pe_op op_mod (pv 5) (pe_int)) (pa_cons (pe_callTy call_tuple_of (by rfl) (T.free 67) (by decide +kernel) (pa_cons (pe_lc (own := [("_law_k", 7)]) rfl nd (pi_list (pv 6)) (blkOk_by (own := [("_law_k", 7)]) (N := N_base_L) (sc := defScope s_base_L) (by decide +kernel)) (fun _ _ _ _ _ => pg_name (i := 7) nd rfl (by first | exact Or.inl rfl | exact Or.inr rfl)) (fun _ _ _ _ _ => pts_nil) (fun _ _ _ _ _ => pe_tup (pa_cons (pv 7) (pa_cons (pe_ix ix_seq (pe_str) (pe_op op_mod (pe_op op_fdiv (pe_ix ix_seq (pv 2) (pe_op op_plus (pe_int) (pv 4)) (fun _ _ => rfl)) (pe_op op_plus (pv 7) (pe_int))) (pe_int)) (fun _ _ => rfl)) (pa_nil))))) (pa_nil))) (pa_nil)))) (pa_nil))))))))) (pss_cons (ps_if (pt_cmpR (op_eqU hu) (pe_op op_mod (pe_ix ix_seq (pv 2) (pe_int) (fun _ _ => rfl)) (pe_int)) (pe_int) (nomark _)) (pss_one (ps_ret (pe_tup (pa_cons (pe_callTy call_tuple_of (by rfl) (T.free 67) (by decide +kernel) (pa_cons (pe_lc (own := [("_law_rule_here", 8)]) rfl nd (pi_tup (pe_ix ix_seq (pv 1) (pe_int) (fun _ _ => rfl))) (blkOk_by (own := [("_law_rule_here", 8)]) (N := N_base_L) (sc := defScope s_base_L) (by decide +kernel)) (fun _ _ _ _ _ => pg_name (i := 8) nd rfl (by first | exact Or.inl rfl | exact Or.inr rfl)) (fun _ _ _ _ _ => pts_nil) (fun _ _ _ _ _ => pe_ix ix_seq (pv 8) (pe_int) (fun _ _ => rfl))) (pa_nil))) (pa_cons (pe_op op_times (pe_tup (pa_cons (pe_tup (pa_cons (pe_int) (pa_cons (pe_tup (pa_nil)) (pa_nil)))) (pa_nil))) (pe_callB call_len (by rfl) (T.free 62) (by decide +kernel) (pa_cons (pe_ix ix_seq (pv 1) (pe_int) (fun _ _ => rfl)) (pa_nil)))) (pa_nil)))))) (pss_nil)) (pss_one (ps_ret (pe_tup (pa_cons (pe_callTy call_tuple_of (by rfl) (T.free 67) (by decide +kernel) (pa_cons (pe_lc (own := [("_law_m", 9)]) rfl nd (pi_range1 (by rfl) (T.free 69) (pa_cons (pe_callB call_len (by rfl) (T.free 62) (by decide +kernel) (pa_cons (pe_ix ix_seq (pv 1) (pe_int) (fun _ _ => rfl)) (pa_nil))) (pa_nil))) (blkOk_by (own := [("_law_m", 9)]) (N := N_base_L) (sc := defScope s_base_L) (by decide +kernel)) (fun _ _ _ _ _ => pg_name (i := 9) nd rfl (by first | exact Or.inl rfl | exact Or.inr rfl)) (fun _ _ _ _ _ => pts_nil) (fun _ _ _ _ _ => pe_op op_mod (pe_ix ix_seq (pv 2) (pe_op op_plus (pe_int) (pv 9)) (fun _ _ => rfl)) (pe_int))) (pa_nil))) (pa_cons (pe_callTy call_tuple_of (by rfl) (T.free 67) (by decide +kernel) (pa_cons (pv 3) (pa_nil))) (pa_nil)))))))))
/-! #### answer_L (level 1) -/
abbrev t_answer_L (K : PySem.W.Frag)  : TS := tSeq (tFor (iTup K (tOp (rIx K) (tOp (rIx K) (tOp (rIx K) (tVar 0) (tC (.int 0))) (tVar 1)) (tC (.int 1)))) (gName 4) (tIfS (tAnd (tTest (tOp (rEqU K) (tOp (rIx K) (tVar 4) (tC (.int 0))) (tVar 2))) (tTest (tOp (rEqU K) (tOp (rIx K) (tVar 4) (tC (.int 1))) (tVar 3)))) (tRet (tSl (rSlU K) (tVar 4) (tPart (tC (.int 2))) (tNoPart))) (tNext))) (tSeq (tIfS (tTest (tOp (rEqU K) (tVar 3) (tC (.str "own")))) (tRet (tC .non)) (tNext)) (tRet (tTup (tCons (tVar 2) (tCons (tTup (tNil)) (tCons (tC .non) (tNil)))))))
theorem dv_answer_L  (hr : Room 0 (A.deeper (envOfC qual (defScope s_answer_L) s.heap.objs.size f cdv))) : PSs (cxOf CX0 P w K mg base N_answer_L qual (defScope s_answer_L) f cdv A outer s H E) (defBody s_answer_L) (t_answer_L K ) := by
  have nd := sc_answer_L.nd
  have hu := hr.units
  have hu1 := hu1_of hr.units
  exact pss_cons (ps_for (passes_of rfl) rfl (pi_tup (pe_ix ix_seq (pe_ix ix_seq (pe_ix ix_seq (pv 0) (pe_int) (fun _ _ => rfl)) (pv 1) (fun _ _ => rfl)) (pe_int) (fun _ _ => rfl))) (pg_name (i := 4) nd rfl (by first | exact Or.inl rfl | exact Or.inr rfl)) (pss_one (ps_if ((pw_and (pt_cmpR (op_eqU hu) (pe_ix ix_seq (pv 4) (pe_int) (fun _ _ => rfl)) (pv 2) (nomark _)) (pw_and1 (pt_cmpR (op_eqU hu) (pe_ix ix_seq (pv 4) (pe_int) (fun _ _ => rfl)) (pv 3) (nomark _)))).pt) (pss_one (ps_ret (pe_slice sl_u (pv 4) (po_some (pe_int)) (po_none)))) (pss_nil)))) (pss_cons (ps_if (pt_cmpR (op_eqU hu) (pv 3) (pe_str) (nomark _)) (pss_one (ps_ret (pe_non))) (pss_nil)) (pss_one (ps_ret (pe_tup (pa_cons (pv 2) (pa_cons (pe_tup (pa_nil)) (pa_cons (pe_non) (pa_nil))))))))
/-! #### cause_L (level 2) -/
abbrev t_cause_L (K : PySem.W.Frag) (q_answer_L : Sp) : TS := tSeq (tIfS (tTest (tOp (rEqU K) (tOp (rIx K) (tVar 2) (tC (.int 0))) (tC (.str "come")))) (tSeq (tAsg (tOp (rIx K) (tOp (rIx K) (tOp (rIx K) (tVar 1) (tC (.int 1))) (tOp (rIx K) (tVar 2) (tC (.int 1)))) (tC (.int 1))) (gName 3)) (tSeq (tAsg (tLc (iTup K (tVar 3)) (gName 5) (tTest (tOp (rEqU K) (tOp (rIx K) (tVar 5) (tC (.int 0))) (tOp (rIx K) (tVar 2) (tC (.int 2))))) (tOp (rIx K) (tVar 5) (tC (.int 1))) [5]) (gName 4)) (tSeq (tIfS (tOr (tTest (tOp (rEqU K) (tVar 4) (tLst (tNil)))) (tAnd (tTest (tOp (rEqU K) (tOp (rIx K) (tOp (rIx K) (tOp (rIx K) (tVar 0) (tC (.int 1))) (tOp (rIx K) (tVar 2) (tC (.int 1)))) (tC (.int 2))) (tC (.str "row")))) (tTest (tOp (rNeU K) (tOp (rIx K) (tOp (rIx K) (tVar 3) (tC (.int 0))) (tC (.int 0))) (tOp (rIx K) (tVar 2) (tC (.int 2))))))) (tRet (tC .non)) (tNext)) (tRet (tTup (tCons (tOp (rIx K) (tOp (rIx K) (tOp (rIx K) (tVar 0) (tC (.int 1))) (tOp (rIx K) (tVar 2) (tC (.int 1)))) (tC (.int 1))) (tCons (tOp (rIx K) (tVar 4) (tC (.int 0))) (tNil)))))))) (tNext)) (tSeq (tIfS (tTest (tOp (rEqU K) (tOp (rIx K) (tVar 2) (tC (.int 0))) (tC (.str "hear")))) (tRet (tTup (tCons (tOp (rIx K) (tVar 2) (tC (.int 1))) (tCons (tOp (rIx K) (tVar 2) (tC (.int 2))) (tNil))))) (tNext)) (tSeq (tIfS (tTest (tOp rIsNo (tCall q_answer_L [] E0 (tCons (tVar 0) (tCons (tOp (rIx K) (tVar 2) (tC (.int 1))) (tCons (tOp (rIx K) (tOp (rIx K) (tVar 1) (tC (.int 0))) (tOp (rIx K) (tVar 2) (tC (.int 1)))) (tCons (tC (.str "own")) (tNil)))))) (tC .non))) (tRet (tC .non)) (tNext)) (tRet (tTup (tCons (tOp (rIx K) (tVar 2) (tC (.int 1))) (tCons (tC (.str "own")) (tNil)))))))
theorem dv_cause_L {q_answer_L : Sp} (g_answer_L : Gv P w K mg base CX0 1 "_law_answer" P_answer_L q_answer_L) (hr : Room 1 (A.deeper (envOfC qual (defScope s_cause_L) s.heap.objs.size f cdv))) : PSs (cxOf CX0 P w K mg base N_cause_L qual (defScope s_cause_L) f cdv A outer s H E) (defBody s_cause_L) (t_cause_L K q_answer_L) := by
  have nd := sc_cause_L.nd
  have hu := hr.units
  have hu1 := hu1_of hr.units
  exact pss_cons (ps_if (pt_cmpR (op_eqU hu) (pe_ix ix_seq (pv 2) (pe_int) (fun _ _ => rfl)) (pe_str) (nomark _)) (pss_cons (ps_set (i := 3) nd rfl (by first | exact Or.inl rfl | exact Or.inr rfl) (pe_ix ix_seq (pe_ix ix_seq (pe_ix ix_seq (pv 1) (pe_int) (fun _ _ => rfl)) (pe_ix ix_seq (pv 2) (pe_int) (fun _ _ => rfl)) (fun _ _ => rfl)) (pe_int) (fun _ _ => rfl))) (pss_cons (ps_setLc (i := 4) (own := [("_law_one", 5)]) rfl nd rfl rfl (sw_true rfl rfl rfl (by decide +kernel)) (pi_tup (pv 3)) (blkOk_by (own := [("_law_one", 5)]) (N := N_cause_L) (sc := defScope s_cause_L) (by decide +kernel)) (fun _ _ _ _ _ => pg_name (i := 5) nd rfl (by first | exact Or.inl rfl | exact Or.inr rfl)) (fun _ _ _ _ _ => pts_one (pt_cmpR (op_eqU hu) (pe_ix ix_seq (pv 5) (pe_int) (fun _ _ => rfl)) (pe_ix ix_seq (pv 2) (pe_int) (fun _ _ => rfl)) (nomark _))) (fun _ _ _ _ _ => pe_ix ix_seq (pv 5) (pe_int) (fun _ _ => rfl))) (pss_cons (ps_if ((pw_or (pt_cmpR (op_eqU hu) (pv 4) (pe_lst (pa_nil)) (nomark _)) (pw_or1 ((pw_and (pt_cmpR (op_eqU hu) (pe_ix ix_seq (pe_ix ix_seq (pe_ix ix_seq (pv 0) (pe_int) (fun _ _ => rfl)) (pe_ix ix_seq (pv 2) (pe_int) (fun _ _ => rfl)) (fun _ _ => rfl)) (pe_int) (fun _ _ => rfl)) (pe_str) (nomark _)) (pw_and1 (pt_cmpR (op_neU hu) (pe_ix ix_seq (pe_ix ix_seq (pv 3) (pe_int) (fun _ _ => rfl)) (pe_int) (fun _ _ => rfl)) (pe_ix ix_seq (pv 2) (pe_int) (fun _ _ => rfl)) (nomark _)))).pt))).pt) (pss_one (ps_ret (pe_non))) (pss_nil)) (pss_one (ps_ret (pe_tup (pa_cons (pe_ix ix_seq (pe_ix ix_seq (pe_ix ix_seq (pv 0) (pe_int) (fun _ _ => rfl)) (pe_ix ix_seq (pv 2) (pe_int) (fun _ _ => rfl)) (fun _ _ => rfl)) (pe_int) (fun _ _ => rfl)) (pa_cons (pe_ix ix_seq (pv 4) (pe_int) (fun _ _ => rfl)) (pa_nil))))))))) (pss_nil)) (pss_cons (ps_if (pt_cmpR (op_eqU hu) (pe_ix ix_seq (pv 2) (pe_int) (fun _ _ => rfl)) (pe_str) (nomark _)) (pss_one (ps_ret (pe_tup (pa_cons (pe_ix ix_seq (pv 2) (pe_int) (fun _ _ => rfl)) (pa_cons (pe_ix ix_seq (pv 2) (pe_int) (fun _ _ => rfl)) (pa_nil)))))) (pss_nil)) (pss_cons (ps_if (pt_cmpR op_isN (pe_g g_answer_L hr (by decide) (by rfl) (pa_cons (pv 0) (pa_cons (pe_ix ix_seq (pv 2) (pe_int) (fun _ _ => rfl)) (pa_cons (pe_ix ix_seq (pe_ix ix_seq (pv 1) (pe_int) (fun _ _ => rfl)) (pe_ix ix_seq (pv 2) (pe_int) (fun _ _ => rfl)) (fun _ _ => rfl)) (pa_cons (pe_str) (pa_nil)))))) (pe_non) (nomark _)) (pss_one (ps_ret (pe_non))) (pss_nil)) (pss_one (ps_ret (pe_tup (pa_cons (pe_ix ix_seq (pv 2) (pe_int) (fun _ _ => rfl)) (pa_cons (pe_str) (pa_nil))))))))
/-! #### step_L (level 3) -/
abbrev t_step_L (K : PySem.W.Frag) (q_cause_L : Sp) (q_answer_L : Sp) : TS := tSeq (tAsg (tCall q_cause_L [] E0 (tCons (tVar 0) (tCons (tVar 1) (tCons (tVar 2) (tNil))))) (gTup K 2 (gCons (gName 3) (gCons (gName 4) (gNil))))) (tSeq (tAsg (tCall q_answer_L [] E0 (tCons (tVar 0) (tCons (tVar 3) (tCons (tOp (rIx K) (tOp (rIx K) (tVar 1) (tC (.int 0))) (tVar 3)) (tCons (tVar 4) (tNil)))))) (gTup K 3 (gCons (gName 5) (gCons (gName 6) (gCons (gName 7) (gNil)))))) (tSeq (tAsg (tCB (rListU K) (tCons (tOp (rIx K) (tVar 1) (tC (.int 1))) (tNil))) (gName 8)) (tSeq (tIfS (tTest (tOp (rEqU K) (tOp (rIx K) (tVar 2) (tC (.int 0))) (tC (.str "come")))) (tSeq (tAsg (tOp (rIx K) (tVar 8) (tOp (rIx K) (tVar 2) (tC (.int 1)))) (gTup K 2 (gCons (gName 9) (gCons (gName 10) (gNil))))) (tAsg (tTup (tCons (tVar 9) (tCons (tCB (rTupU K) (tCons (tLc (iTup K (tVar 10)) (gName 13) (tTest (tOp (rNeU K) (tOp (rIx K) (tVar 13) (tC (.int 0))) (tOp (rIx K) (tVar 2) (tC (.int 2))))) (tVar 13) [13]) (tNil))) (tNil)))) (gSub (tVar 8) (tOp (rIx K) (tVar 2) (tC (.int 1))) rSetL))) (tNext)) (tSeq (tFor (iTup K (tVar 6)) (gTup K 2 (gCons (gName 11) (gCons (gName 12) (gNil)))) (tSeq (tAsg (tOp (rIx K) (tVar 8) (tVar 11)) (gTup K 2 (gCons (gName 9) (gCons (gName 10) (gNil))))) (tAsg (tTup (tCons (tOp (rPlus K) (tVar 9) (tC (.int 1))) (tCons (tOp (rPlus K) (tVar 10) (tTup (tCons (tTup (tCons (tVar 9) (tCons (tVar 12) (tNil)))) (tNil)))) (tNil)))) (gSub (tVar 8) (tVar 11) rSetL)))) (tRet (tTup (tCons (tTup (tCons (tOp (rPlus K) (tOp (rPlus K) (tSl (rSlU K) (tOp (rIx K) (tVar 1) (tC (.int 0))) (tNoPart) (tPart (tVar 3))) (tTup (tCons (tVar 5) (tNil)))) (tSl (rSlU K) (tOp (rIx K) (tVar 1) (tC (.int 0))) (tPart (tOp (rPlus K) (tVar 3) (tC (.int 1)))) (tNoPart))) (tCons (tCB (rTupU K) (tCons (tVar 8) (tNil))) (tNil)))) (tCons (tVar 7) (tNil)))))))))
theorem dv_step_L {q_cause_L : Sp} (g_cause_L : Gv P w K mg base CX0 2 "_law_cause" P_cause_L q_cause_L) {q_answer_L : Sp} (g_answer_L : Gv P w K mg base CX0 1 "_law_answer" P_answer_L q_answer_L) (hr : Room 2 (A.deeper (envOfC qual (defScope s_step_L) s.heap.objs.size f cdv))) : PSs (cxOf CX0 P w K mg base N_step_L qual (defScope s_step_L) f cdv A outer s H E) (defBody s_step_L) (t_step_L K q_cause_L q_answer_L) := by
  have nd := sc_step_L.nd
  have hu := hr.units
  have hu1 := hu1_of hr.units
  exact pss_cons (ps_asg (pe_g g_cause_L hr (by decide) (by rfl) (pa_cons (pv 0) (pa_cons (pv 1) (pa_cons (pv 2) (pa_nil))))) (pg_tup rfl (pgs_cons (pg_name (i := 3) nd rfl (by first | exact Or.inl rfl | exact Or.inr rfl)) (pgs_cons (pg_name (i := 4) nd rfl (by first | exact Or.inl rfl | exact Or.inr rfl)) (pgs_nil))))) (pss_cons (ps_asg (pe_g g_answer_L hr (by decide) (by rfl) (pa_cons (pv 0) (pa_cons (pv 3) (pa_cons (pe_ix ix_seq (pe_ix ix_seq (pv 1) (pe_int) (fun _ _ => rfl)) (pv 3) (fun _ _ => rfl)) (pa_cons (pv 4) (pa_nil)))))) (pg_tup rfl (pgs_cons (pg_name (i := 5) nd rfl (by first | exact Or.inl rfl | exact Or.inr rfl)) (pgs_cons (pg_name (i := 6) nd rfl (by first | exact Or.inl rfl | exact Or.inr rfl)) (pgs_cons (pg_name (i := 7) nd rfl (by first | exact Or.inl rfl | exact Or.inr rfl)) (pgs_nil)))))) (pss_cons (ps_set (i := 8) nd rfl (by first | exact Or.inl rfl | exact Or.inr rfl) (pe_callTy call_list_of (by rfl) (T.free 68) (by decide +kernel) (pa_cons (pe_ix ix_seq (pv 1) (pe_int) (fun _ _ => rfl)) (pa_nil)))) (pss_cons (ps_if (pt_cmpR (op_eqU hu) (pe_ix ix_seq (pv 2) (pe_int) (fun _ _ => rfl)) (pe_str) (nomark _)) (pss_cons (ps_asg (pe_ix ix_seq (pv 8) (pe_ix ix_seq (pv 2) (pe_int) (fun _ _ => rfl)) (fun _ _ => rfl)) (pg_tup rfl (pgs_cons (pg_name (i := 9) nd rfl (by first | exact Or.inl rfl | exact Or.inr rfl)) (pgs_cons (pg_name (i := 10) nd rfl (by first | exact Or.inl rfl | exact Or.inr rfl)) (pgs_nil))))) (pss_one (ps_asg (pe_tup (pa_cons (pv 9) (pa_cons (pe_callTy call_tuple_of (by rfl) (T.free 67) (by decide +kernel) (pa_cons (pe_lc (own := [("_law_one", 13)]) rfl nd (pi_tup (pv 10)) (blkOk_by (own := [("_law_one", 13)]) (N := N_step_L) (sc := defScope s_step_L) (by decide +kernel)) (fun _ _ _ _ _ => pg_name (i := 13) nd rfl (by first | exact Or.inl rfl | exact Or.inr rfl)) (fun _ _ _ _ _ => pts_one (pt_cmpR (op_neU hu) (pe_ix ix_seq (pv 13) (pe_int) (fun _ _ => rfl)) (pe_ix ix_seq (pv 2) (pe_int) (fun _ _ => rfl)) (nomark _))) (fun _ _ _ _ _ => pv 13)) (pa_nil))) (pa_nil)))) (pg_sub (pv 8) (pe_ix ix_seq (pv 2) (pe_int) (fun _ _ => rfl)) set_list)))) (pss_nil)) (pss_cons (ps_for (passes_of rfl) rfl (pi_tup (pv 6)) (pg_tup rfl (pgs_cons (pg_name (i := 11) nd rfl (by first | exact Or.inl rfl | exact Or.inr rfl)) (pgs_cons (pg_name (i := 12) nd rfl (by first | exact Or.inl rfl | exact Or.inr rfl)) (pgs_nil)))) (pss_cons (ps_asg (pe_ix ix_seq (pv 8) (pv 11) (fun _ _ => rfl)) (pg_tup rfl (pgs_cons (pg_name (i := 9) nd rfl (by first | exact Or.inl rfl | exact Or.inr rfl)) (pgs_cons (pg_name (i := 10) nd rfl (by first | exact Or.inl rfl | exact Or.inr rfl)) (pgs_nil))))) (pss_one (ps_asg (pe_tup (pa_cons (pe_op op_plus (pv 9) (pe_int)) (pa_cons (pe_op op_plus (pv 10) (pe_tup (pa_cons (pe_tup (pa_cons (pv 9) (pa_cons (pv 12) (pa_nil)))) (pa_nil)))) (pa_nil)))) (pg_sub (pv 8) (pv 11) set_list))))) (pss_one (ps_ret (pe_tup (pa_cons (pe_tup (pa_cons (pe_op op_plus (pe_op op_plus (pe_slice sl_u (pe_ix ix_seq (pv 1) (pe_int) (fun _ _ => rfl)) (po_none) (po_some (pv 3))) (pe_tup (pa_cons (pv 5) (pa_nil)))) (pe_slice sl_u (pe_ix ix_seq (pv 1) (pe_int) (fun _ _ => rfl)) (po_some (pe_op op_plus (pv 3) (pe_int))) (po_none))) (pa_cons (pe_callTy call_tuple_of (by rfl) (T.free 67) (by decide +kernel) (pa_cons (pv 8) (pa_nil))) (pa_nil)))) (pa_cons (pv 7) (pa_nil))))))))))
/-! #### walk_L (level 4) -/
abbrev t_walk_L (K : PySem.W.Frag) (q_cause_L : Sp) (q_step_L : Sp) : TS := tSeq (tAsg (tLst (tNil)) (gName 3)) (tSeq (tFor (iList K (tVar 2)) (gName 4) (tSeq (tAsg (tCall q_cause_L [] E0 (tCons (tVar 0) (tCons (tVar 1) (tCons (tVar 4) (tNil))))) (gName 5)) (tSeq (tIfS (tTest (tOp rIsNo (tVar 5) (tC .non))) (tRet (tC .non)) (tNext)) (tSeq (tAsg (tCall q_step_L [] E0 (tCons (tVar 0) (tCons (tVar 1) (tCons (tVar 4) (tNil))))) (gTup K 2 (gCons (gName 1) (gCons (gName 6) (gNil))))) (tIfS (tTest (tOp rNotNo (tVar 6) (tC .non))) (tDrop (tBM K "list" rAppend (tVar 3) (tCons (tTup (tCons (tOp (rIx K) (tVar 5) (tC (.int 0))) (tCons (tVar 6) (tNil)))) (tNil)))) (tNext)))))) (tRet (tTup (tCons (tVar 1) (tCons (tVar 3) (tNil))))))
theorem dv_walk_L {q_cause_L : Sp} (g_cause_L : Gv P w K mg base CX0 2 "_law_cause" P_cause_L q_cause_L) {q_step_L : Sp} (g_step_L : Gv P w K mg base CX0 3 "_law_step" P_step_L q_step_L) (hr : Room 3 (A.deeper (envOfC qual (defScope s_walk_L) s.heap.objs.size f cdv))) : PSs (cxOf CX0 P w K mg base N_walk_L qual (defScope s_walk_L) f cdv A outer s H E) (defBody s_walk_L) (t_walk_L K q_cause_L q_step_L) := by
  have nd := sc_walk_L.nd
  have hu := hr.units
  have hu1 := hu1_of hr.units
  exact pss_cons (ps_set (i := 3) nd rfl (by first | exact Or.inl rfl | exact Or.inr rfl) (pe_lst (pa_nil))) (pss_cons (ps_for (passes_of rfl) rfl (pi_list (pv 2)) (pg_name (i := 4) nd rfl (by first | exact Or.inl rfl | exact Or.inr rfl)) (pss_cons (ps_set (i := 5) nd rfl (by first | exact Or.inl rfl | exact Or.inr rfl) (pe_g g_cause_L hr (by decide) (by rfl) (pa_cons (pv 0) (pa_cons (pv 1) (pa_cons (pv 4) (pa_nil)))))) (pss_cons (ps_if (pt_cmpR op_isN (pv 5) (pe_non) (nomark _)) (pss_one (ps_ret (pe_non))) (pss_nil)) (pss_cons (ps_asg (pe_g g_step_L hr (by decide) (by rfl) (pa_cons (pv 0) (pa_cons (pv 1) (pa_cons (pv 4) (pa_nil))))) (pg_tup rfl (pgs_cons (pg_name (i := 1) nd rfl (by first | exact Or.inl rfl | exact Or.inr rfl)) (pgs_cons (pg_name (i := 6) nd rfl (by first | exact Or.inl rfl | exact Or.inr rfl)) (pgs_nil))))) (pss_one (ps_if (pt_cmpR op_notN (pv 6) (pe_non) (nomark _)) (pss_one (ps_expr (pe_bm PySem.F.plainAttrs_list PySem.F.slot_list_append PySem.F.type_list_append mt_append (pv 3) (pa_cons (pe_tup (pa_cons (pe_ix ix_seq (pv 5) (pe_int) (fun _ _ => rfl)) (pa_cons (pv 6) (pa_nil)))) (pa_nil))))) (pss_nil))))))) (pss_one (ps_ret (pe_tup (pa_cons (pv 1) (pa_cons (pv 3) (pa_nil)))))))
/-! #### options_L (level 3) -/
abbrev t_options_L (K : PySem.W.Frag) (q_cause_L : Sp) : TS := tSeq (tAsg (tLst (tNil)) (gName 2)) (tSeq (tFor (iRng1 (tCons (tCB (rLenU K) (tCons (tOp (rIx K) (tVar 1) (tC (.int 1))) (tNil))) (tNil))) (gName 3) (tSeq (tAsg (tLc (iTup K (tOp (rIx K) (tOp (rIx K) (tOp (rIx K) (tVar 1) (tC (.int 1))) (tVar 3)) (tC (.int 1)))) (gName 6) (tYes) (tTup (tCons (tC (.str "come")) (tCons (tVar 3) (tCons (tOp (rIx K) (tVar 6) (tC (.int 0))) (tNil))))) [6]) (gName 4)) (tDrop (tBM K "list" rExtend (tVar 2) (tCons (tLc (iList K (tVar 4)) (gName 7) (tTest (tOp rNotNo (tCall q_cause_L [] E0 (tCons (tVar 0) (tCons (tVar 1) (tCons (tVar 7) (tNil))))) (tC .non))) (tVar 7) [7]) (tNil)))))) (tSeq (tFor (iRng1 (tCons (tCB (rLenU K) (tCons (tOp (rIx K) (tVar 0) (tC (.int 0))) (tNil))) (tNil))) (gName 5) (tSeq (tDrop (tBM K "list" rAppend (tVar 2) (tCons (tTup (tCons (tC (.str "hear")) (tCons (tVar 5) (tCons (tC (.str "a")) (tNil))))) (tNil)))) (tIfS (tTest (tOp rNotNo (tCall q_cause_L [] E0 (tCons (tVar 0) (tCons (tVar 1) (tCons (tTup (tCons (tC (.str "own")) (tCons (tVar 5) (tNil)))) (tNil))))) (tC .non))) (tDrop (tBM K "list" rAppend (tVar 2) (tCons (tTup (tCons (tC (.str "own")) (tCons (tVar 5) (tNil)))) (tNil)))) (tNext)))) (tRet (tVar 2))))
theorem dv_options_L {q_cause_L : Sp} (g_cause_L : Gv P w K mg base CX0 2 "_law_cause" P_cause_L q_cause_L) (hr : Room 2 (A.deeper (envOfC qual (defScope s_options_L) s.heap.objs.size f cdv))) : PSs (cxOf CX0 P w K mg base N_options_L qual (defScope s_options_L) f cdv A outer s H E) (defBody s_options_L) (t_options_L K q_cause_L) := by
  have nd := sc_options_L.nd
  have hu := hr.units
  have hu1 := hu1_of hr.units
  exact pss_cons (ps_set (i := 2) nd rfl (by first | exact Or.inl rfl | exact Or.inr rfl) (pe_lst (pa_nil))) (pss_cons (ps_for (passes_of rfl) rfl (pi_range1 (by rfl) (T.free 69) (pa_cons (pe_callB call_len (by rfl) (T.free 62) (by decide +kernel) (pa_cons (pe_ix ix_seq (pv 1) (pe_int) (fun _ _ => rfl)) (pa_nil))) (pa_nil))) (pg_name (i := 3) nd rfl (by first | exact Or.inl rfl | exact Or.inr rfl)) (pss_cons (ps_setLc (i := 4) (own := [("_law_one", 6)]) rfl nd rfl rfl (sw_true rfl rfl rfl (by decide +kernel)) (pi_tup (pe_ix ix_seq (pe_ix ix_seq (pe_ix ix_seq (pv 1) (pe_int) (fun _ _ => rfl)) (pv 3) (fun _ _ => rfl)) (pe_int) (fun _ _ => rfl))) (blkOk_by (own := [("_law_one", 6)]) (N := N_options_L) (sc := defScope s_options_L) (by decide +kernel)) (fun _ _ _ _ _ => pg_name (i := 6) nd rfl (by first | exact Or.inl rfl | exact Or.inr rfl)) (fun _ _ _ _ _ => pts_nil) (fun _ _ _ _ _ => pe_tup (pa_cons (pe_str) (pa_cons (pv 3) (pa_cons (pe_ix ix_seq (pv 6) (pe_int) (fun _ _ => rfl)) (pa_nil)))))) (pss_one (ps_expr (pe_bm PySem.F.plainAttrs_list PySem.F.slot_list_extend PySem.F.type_list_extend mt_extend (pv 2) (pa_cons (pe_lc (own := [("_law_deed", 7)]) rfl nd (pi_list (pv 4)) (blkOk_by (own := [("_law_deed", 7)]) (N := N_options_L) (sc := defScope s_options_L) (by decide +kernel)) (fun _ _ _ _ _ => pg_name (i := 7) nd rfl (by first | exact Or.inl rfl | exact Or.inr rfl)) (fun _ _ _ _ _ => pts_one (pt_cmpR op_notN (pe_g g_cause_L hr (by decide) (by rfl) (pa_cons (pv 0) (pa_cons (pv 1) (pa_cons (pv 7) (pa_nil))))) (pe_non) (nomark _))) (fun _ _ _ _ _ => pv 7)) (pa_nil))))))) (pss_cons (ps_for (passes_of rfl) rfl (pi_range1 (by rfl) (T.free 69) (pa_cons (pe_callB call_len (by rfl) (T.free 62) (by decide +kernel) (pa_cons (pe_ix ix_seq (pv 0) (pe_int) (fun _ _ => rfl)) (pa_nil))) (pa_nil))) (pg_name (i := 5) nd rfl (by first | exact Or.inl rfl | exact Or.inr rfl)) (pss_cons (ps_expr (pe_bm PySem.F.plainAttrs_list PySem.F.slot_list_append PySem.F.type_list_append mt_append (pv 2) (pa_cons (pe_tup (pa_cons (pe_str) (pa_cons (pv 5) (pa_cons (pe_str) (pa_nil))))) (pa_nil)))) (pss_one (ps_if (pt_cmpR op_notN (pe_g g_cause_L hr (by decide) (by rfl) (pa_cons (pv 0) (pa_cons (pv 1) (pa_cons (pe_tup (pa_cons (pe_str) (pa_cons (pv 5) (pa_nil)))) (pa_nil))))) (pe_non) (nomark _)) (pss_one (ps_expr (pe_bm PySem.F.plainAttrs_list PySem.F.slot_list_append PySem.F.type_list_append mt_append (pv 2) (pa_cons (pe_tup (pa_cons (pe_str) (pa_cons (pv 5) (pa_nil)))) (pa_nil))))) (pss_nil))))) (pss_one (ps_ret (pv 2)))))
/-! #### next_L (level 4) -/
abbrev t_next_L (K : PySem.W.Frag) (q_options_L : Sp) : TS := tSeq (tAsg (tCall q_options_L [] E0 (tCons (tVar 0) (tCons (tVar 1) (tNil)))) (gName 3)) (tSeq (tAsg (tOp (rIx K) (tVar 3) (tOp (rModI) (tVar 2) (tCB (rLenU K) (tCons (tVar 3) (tNil))))) (gName 4)) (tSeq (tIfS (tTest (tOp (rEqU K) (tOp (rIx K) (tVar 4) (tC (.int 0))) (tC (.str "hear")))) (tRet (tTup (tCons (tC (.str "hear")) (tCons (tOp (rIx K) (tVar 4) (tC (.int 1))) (tCons (tOp (rIx K) (tC (.str "abc")) (tOp (rModI) (tOp (rDivI) (tVar 2) (tC (.int 64))) (tC (.int 3)))) (tNil)))))) (tNext)) (tRet (tVar 4))))
theorem dv_next_L {q_options_L : Sp} (g_options_L : Gv P w K mg base CX0 3 "_law_options" P_options_L q_options_L) (hr : Room 3 (A.deeper (envOfC qual (defScope s_next_L) s.heap.objs.size f cdv))) : PSs (cxOf CX0 P w K mg base N_next_L qual (defScope s_next_L) f cdv A outer s H E) (defBody s_next_L) (t_next_L K q_options_L) := by
  have nd := sc_next_L.nd
  have hu := hr.units
  have hu1 := hu1_of hr.units
  exact pss_cons (ps_set (i := 3) nd rfl (by first | exact Or.inl rfl | exact Or.inr rfl) (pe_g g_options_L hr (by decide) (by rfl) (pa_cons (pv 0) (pa_cons (pv 1) (pa_nil))))) (pss_cons (ps_set (i := 4) nd rfl (by first | exact Or.inl rfl | exact Or.inr rfl) (pe_ix ix_seq (pv 3) (pe_op op_mod (pv 2) (pe_callB call_len (by rfl) (T.free 62) (by decide +kernel) (pa_cons (pv 3) (pa_nil)))) (fun _ _ => rfl))) (pss_cons (ps_if (pt_cmpR (op_eqU hu) (pe_ix ix_seq (pv 4) (pe_int) (fun _ _ => rfl)) (pe_str) (nomark _)) (pss_one (ps_ret (pe_tup (pa_cons (pe_str) (pa_cons (pe_ix ix_seq (pv 4) (pe_int) (fun _ _ => rfl)) (pa_cons (pe_ix ix_seq (pe_str) (pe_op op_mod (pe_op op_fdiv (pv 2) (pe_int)) (pe_int)) (fun _ _ => rfl)) (pa_nil))))))) (pss_nil)) (pss_one (ps_ret (pv 4)))))
/-! #### run_L (level 5) -/
abbrev t_run_L (K : PySem.W.Frag) (q_next_L : Sp) (q_step_L : Sp) : TS := tSeq (tAsg (tLst (tNil)) (gName 3)) (tSeq (tFor (iList K (tVar 2)) (gName 4) (tSeq (tDrop (tBM K "list" rAppend (tVar 3) (tCons (tCall q_next_L [] E0 (tCons (tVar 0) (tCons (tVar 1) (tCons (tVar 4) (tNil))))) (tNil)))) (tAsg (tOp (rIx K) (tCall q_step_L [] E0 (tCons (tVar 0) (tCons (tVar 1) (tCons (tOp (rIx K) (tVar 3) (tUn (rU fun i => .int (-i)) (tC (.int 1)))) (tNil))))) (tC (.int 0))) (gName 1)))) (tRet (tVar 3)))
theorem dv_run_L {q_next_L : Sp} (g_next_L : Gv P w K mg base CX0 4 "_law_next" P_next_L q_next_L) {q_step_L : Sp} (g_step_L : Gv P w K mg base CX0 3 "_law_step" P_step_L q_step_L) (hr : Room 4 (A.deeper (envOfC qual (defScope s_run_L) s.heap.objs.size f cdv))) : PSs (cxOf CX0 P w K mg base N_run_L qual (defScope s_run_L) f cdv A outer s H E) (defBody s_run_L) (t_run_L K q_next_L q_step_L) := by
  have nd := sc_run_L.nd
  have hu := hr.units
  have hu1 := hu1_of hr.units
  exact pss_cons (ps_set (i := 3) nd rfl (by first | exact Or.inl rfl | exact Or.inr rfl) (pe_lst (pa_nil))) (pss_cons (ps_for (passes_of rfl) rfl (pi_list (pv 2)) (pg_name (i := 4) nd rfl (by first | exact Or.inl rfl | exact Or.inr rfl)) (pss_cons (ps_expr (pe_bm PySem.F.plainAttrs_list PySem.F.slot_list_append PySem.F.type_list_append mt_append (pv 3) (pa_cons (pe_g g_next_L hr (by decide) (by rfl) (pa_cons (pv 0) (pa_cons (pv 1) (pa_cons (pv 4) (pa_nil))))) (pa_nil)))) (pss_one (ps_set (i := 1) nd rfl (by first | exact Or.inl rfl | exact Or.inr rfl) (pe_ix ix_seq (pe_g g_step_L hr (by decide) (by rfl) (pa_cons (pv 0) (pa_cons (pv 1) (pa_cons (pe_ix ix_seq (pv 3) (pe_un un_neg (pe_int)) (fun _ _ => rfl)) (pa_nil))))) (pe_int) (fun _ _ => rfl)))))) (pss_one (ps_ret (pv 3))))
/-! #### machine_L (level 1) -/
abbrev t_machine_L (K : PySem.W.Frag)  : TS := tSeq (tIfS (tTest (tOp (rEqU K) (tOp (rIx K) (tVar 1) (tC (.int 0))) (tC (.str "come")))) (tRet (tOp (rIx K) (tOp (rIx K) (tOp (rIx K) (tVar 0) (tC (.int 1))) (tOp (rIx K) (tVar 1) (tC (.int 1)))) (tC (.int 1)))) (tNext)) (tRet (tOp (rIx K) (tVar 1) (tC (.int 1))))
theorem dv_machine_L  (hr : Room 0 (A.deeper (envOfC qual (defScope s_machine_L) s.heap.objs.size f cdv))) : PSs (cxOf CX0 P w K mg base N_machine_L qual (defScope s_machine_L) f cdv A outer s H E) (defBody s_machine_L) (t_machine_L K ) := by
  have nd := sc_machine_L.nd
  have hu := hr.units
  have hu1 := hu1_of hr.units
  exact pss_cons (ps_if (pt_cmpR (op_eqU hu) (pe_ix ix_seq (pv 1) (pe_int) (fun _ _ => rfl)) (pe_str) (nomark _)) (pss_one (ps_ret (pe_ix ix_seq (pe_ix ix_seq (pe_ix ix_seq (pv 0) (pe_int) (fun _ _ => rfl)) (pe_ix ix_seq (pv 1) (pe_int) (fun _ _ => rfl)) (fun _ _ => rfl)) (pe_int) (fun _ _ => rfl)))) (pss_nil)) (pss_one (ps_ret (pe_ix ix_seq (pv 1) (pe_int) (fun _ _ => rfl))))
/-! #### events_L (level 2) -/
abbrev t_events_L (K : PySem.W.Frag) (q_machine_L : Sp) : TS := tSeq (tAsg (tOp (rTimes K) (tLst (tCons (tC (.int 0)) (tNil))) (tCB (rLenU K) (tCons (tOp (rIx K) (tVar 0) (tC (.int 0))) (tNil)))) (gName 2)) (tSeq (tAsg (tLst (tNil)) (gName 3)) (tSeq (tFor (iList K (tVar 1)) (gName 4) (tSeq (tAsg (tCall q_machine_L [] E0 (tCons (tVar 0) (tCons (tVar 4) (tNil)))) (gName 5)) (tSeq (tDrop (tBM K "list" rAppend (tVar 3) (tCons (tTup (tCons (tVar 5) (tCons (tOp (rIx K) (tVar 2) (tVar 5)) (tNil)))) (tNil)))) (tAsg (tOp (rPlus K) (tOp (rIx K) (tVar 2) (tVar 5)) (tC (.int 1))) (gSub (tVar 2) (tVar 5) rSetL))))) (tRet (tVar 3))))
theorem dv_events_L {q_machine_L : Sp} (g_machine_L : Gv P w K mg base CX0 1 "_law_machine" P_machine_L q_machine_L) (hr : Room 1 (A.deeper (envOfC qual (defScope s_events_L) s.heap.objs.size f cdv))) : PSs (cxOf CX0 P w K mg base N_events_L qual (defScope s_events_L) f cdv A outer s H E) (defBody s_events_L) (t_events_L K q_machine_L) := by
  have nd := sc_events_L.nd
  have hu := hr.units
  have hu1 := hu1_of hr.units
  exact pss_cons (ps_set (i := 2) nd rfl (by first | exact Or.inl rfl | exact Or.inr rfl) (pe_op op_times (pe_lst (pa_cons (pe_int) (pa_nil))) (pe_callB call_len (by rfl) (T.free 62) (by decide +kernel) (pa_cons (pe_ix ix_seq (pv 0) (pe_int) (fun _ _ => rfl)) (pa_nil))))) (pss_cons (ps_set (i := 3) nd rfl (by first | exact Or.inl rfl | exact Or.inr rfl) (pe_lst (pa_nil))) (pss_cons (ps_for (passes_of rfl) rfl (pi_list (pv 1)) (pg_name (i := 4) nd rfl (by first | exact Or.inl rfl | exact Or.inr rfl)) (pss_cons (ps_set (i := 5) nd rfl (by first | exact Or.inl rfl | exact Or.inr rfl) (pe_g g_machine_L hr (by decide) (by rfl) (pa_cons (pv 0) (pa_cons (pv 4) (pa_nil))))) (pss_cons (ps_expr (pe_bm PySem.F.plainAttrs_list PySem.F.slot_list_append PySem.F.type_list_append mt_append (pv 3) (pa_cons (pe_tup (pa_cons (pv 5) (pa_cons (pe_ix ix_seq (pv 2) (pv 5) (fun _ _ => rfl)) (pa_nil)))) (pa_nil)))) (pss_one (ps_asg (pe_op op_plus (pe_ix ix_seq (pv 2) (pv 5) (fun _ _ => rfl)) (pe_int)) (pg_sub (pv 2) (pv 5) set_list)))))) (pss_one (ps_ret (pv 3)))))
/-! #### ends_L (level 2) -/
abbrev t_ends_L (K : PySem.W.Frag) (q_machine_L : Sp) : TS := tSeq (tAsg (tLc (iList K (tVar 1)) (gName 3) (tYes) (tCall q_machine_L [] E0 (tCons (tVar 0) (tCons (tVar 3) (tNil)))) [3]) (gName 2)) (tRet (tCB (rTupU K) (tCons (tLc (iRng1 (tCons (tCB (rLenU K) (tCons (tOp (rIx K) (tVar 0) (tC (.int 0))) (tNil))) (tNil))) (gName 4) (tYes) (tBM K "list" (rCntI K) (tVar 2) (tCons (tVar 4) (tNil))) [4]) (tNil))))
theorem dv_ends_L {q_machine_L : Sp} (g_machine_L : Gv P w K mg base CX0 1 "_law_machine" P_machine_L q_machine_L) (hr : Room 1 (A.deeper (envOfC qual (defScope s_ends_L) s.heap.objs.size f cdv))) : PSs (cxOf CX0 P w K mg base N_ends_L qual (defScope s_ends_L) f cdv A outer s H E) (defBody s_ends_L) (t_ends_L K q_machine_L) := by
  have nd := sc_ends_L.nd
  have hu := hr.units
  have hu1 := hu1_of hr.units
  exact pss_cons (ps_set (i := 2) nd rfl (by first | exact Or.inl rfl | exact Or.inr rfl) (pe_lc (own := [("_law_deed", 3)]) rfl nd (pi_list (pv 1)) (blkOk_by (own := [("_law_deed", 3)]) (N := N_ends_L) (sc := defScope s_ends_L) (by decide +kernel)) (fun _ _ _ _ _ => pg_name (i := 3) nd rfl (by first | exact Or.inl rfl | exact Or.inr rfl)) (fun _ _ _ _ _ => pts_nil) (fun _ _ _ _ _ => pe_g g_machine_L hr (by decide) (by rfl) (pa_cons (pv 0) (pa_cons (pv 3) (pa_nil)))))) (pss_one (ps_ret (pe_callTy call_tuple_of (by rfl) (T.free 67) (by decide +kernel) (pa_cons (pe_lc (own := [("_law_m", 4)]) rfl nd (pi_range1 (by rfl) (T.free 69) (pa_cons (pe_callB call_len (by rfl) (T.free 62) (by decide +kernel) (pa_cons (pe_ix ix_seq (pv 0) (pe_int) (fun _ _ => rfl)) (pa_nil))) (pa_nil))) (blkOk_by (own := [("_law_m", 4)]) (N := N_ends_L) (sc := defScope s_ends_L) (by decide +kernel)) (fun _ _ _ _ _ => pg_name (i := 4) nd rfl (by first | exact Or.inl rfl | exact Or.inr rfl)) (fun _ _ _ _ _ => pts_nil) (fun _ _ _ _ _ => pe_bm PySem.F.plainAttrs_list PySem.F.slot_list_count PySem.F.type_list_count mt_lcount (pv 2) (pa_cons (pv 4) (pa_nil)))) (pa_nil)))))
/-! #### trips_L (level 4) -/
abbrev t_trips_L (K : PySem.W.Frag) (q_events_L : Sp) (q_step_L : Sp) : TS := tSeq (tAsg (tDNewT) (gName 3)) (tSeq (tAsg (tCall q_events_L [] E0 (tCons (tVar 0) (tCons (tVar 2) (tNil)))) (gName 4)) (tSeq (tAsg (tVar 1) (gName 5)) (tSeq (tFor (iRng1 (tCons (tCB (rLenU K) (tCons (tOp (rIx K) (tVar 0) (tC (.int 1))) (tNil))) (tNil))) (gName 6) (tFor (iTup K (tOp (rIx K) (tOp (rIx K) (tOp (rIx K) (tVar 1) (tC (.int 1))) (tVar 6)) (tC (.int 1)))) (gTup K 2 (gCons (gName 7) (gCons (gName 8) (gNil)))) (sDPut (tVar 3) (tTup (tCons (tVar 6) (tCons (tVar 7) (tNil)))) (tLst (tCons (tOp (rIx K) (tOp (rIx K) (tOp (rIx K) (tVar 0) (tC (.int 1))) (tVar 6)) (tC (.int 0))) (tCons (tC .non) (tCons (tOp (rIx K) (tOp (rIx K) (tOp (rIx K) (tVar 0) (tC (.int 1))) (tVar 6)) (tC (.int 1))) (tCons (tC .non) (tNil))))))))) (tSeq (tFor (iRng1 (tCons (tCB (rLenU K) (tCons (tVar 2) (tNil))) (tNil))) (gName 9) (tSeq (tAsg (tOp (rIx K) (tCall q_step_L [] E0 (tCons (tVar 0) (tCons (tVar 5) (tCons (tOp (rIx K) (tVar 2) (tVar 9)) (tNil))))) (tC (.int 0))) (gName 10)) (tSeq (tIfS (tTest (tOp (rEqU K) (tOp (rIx K) (tOp (rIx K) (tVar 2) (tVar 9)) (tC (.int 0))) (tC (.str "come")))) (tAsg (tOp (rIx K) (tOp (rIx K) (tVar 4) (tVar 9)) (tC (.int 1))) (gSub (tDGet (tVar 3) (tSl (rSlU K) (tOp (rIx K) (tVar 2) (tVar 9)) (tPart (tC (.int 1))) (tNoPart))) (tC (.int 3)) rSetL)) (tNext)) (tSeq (tFor (iRng1 (tCons (tCB (rLenU K) (tCons (tOp (rIx K) (tVar 0) (tC (.int 1))) (tNil))) (tNil))) (gName 6) (tFor (iRng2 (tCons (tOp (rIx K) (tOp (rIx K) (tOp (rIx K) (tVar 5) (tC (.int 1))) (tVar 6)) (tC (.int 0))) (tCons (tOp (rIx K) (tOp (rIx K) (tOp (rIx K) (tVar 10) (tC (.int 1))) (tVar 6)) (tC (.int 0))) (tNil)))) (gName 7) (sDPut (tVar 3) (tTup (tCons (tVar 6) (tCons (tVar 7) (tNil)))) (tLst (tCons (tOp (rIx K) (tOp (rIx K) (tOp (rIx K) (tVar 0) (tC (.int 1))) (tVar 6)) (tC (.int 0))) (tCons (tOp (rIx K) (tOp (rIx K) (tVar 4) (tVar 9)) (tC (.int 1))) (tCons (tOp (rIx K) (tOp (rIx K) (tOp (rIx K) (tVar 0) (tC (.int 1))) (tVar 6)) (tC (.int 1))) (tCons (tC .non) (tNil))))))))) (tAsg (tVar 10) (gName 5)))))) (tRet (tVar 3))))))
theorem dv_trips_L {q_events_L : Sp} (g_events_L : Gv P w K mg base CX0 2 "_law_events" P_events_L q_events_L) {q_step_L : Sp} (g_step_L : Gv P w K mg base CX0 3 "_law_step" P_step_L q_step_L) (hr : Room 3 (A.deeper (envOfC qual (defScope s_trips_L) s.heap.objs.size f cdv))) : PSs (cxOf CX0 P w K mg base N_trips_L qual (defScope s_trips_L) f cdv A outer s H E) (defBody s_trips_L) (t_trips_L K q_events_L q_step_L) := by
  have nd := sc_trips_L.nd
  have hu := hr.units
  have hu1 := hu1_of hr.units
  exact pss_cons (ps_set (i := 3) nd rfl (by first | exact Or.inl rfl | exact Or.inr rfl) (pe_dnewT)) (pss_cons (ps_set (i := 4) nd rfl (by first | exact Or.inl rfl | exact Or.inr rfl) (pe_g g_events_L hr (by decide) (by rfl) (pa_cons (pv 0) (pa_cons (pv 2) (pa_nil))))) (pss_cons (ps_set (i := 5) nd rfl (by first | exact Or.inl rfl | exact Or.inr rfl) (pv 1)) (pss_cons (ps_for (passes_of rfl) rfl (pi_range1 (by rfl) (T.free 69) (pa_cons (pe_callB call_len (by rfl) (T.free 62) (by decide +kernel) (pa_cons (pe_ix ix_seq (pv 0) (pe_int) (fun _ _ => rfl)) (pa_nil))) (pa_nil))) (pg_name (i := 6) nd rfl (by first | exact Or.inl rfl | exact Or.inr rfl)) (pss_one (ps_for (passes_of rfl) rfl (pi_tup (pe_ix ix_seq (pe_ix ix_seq (pe_ix ix_seq (pv 1) (pe_int) (fun _ _ => rfl)) (pv 6) (fun _ _ => rfl)) (pe_int) (fun _ _ => rfl))) (pg_tup rfl (pgs_cons (pg_name (i := 7) nd rfl (by first | exact Or.inl rfl | exact Or.inr rfl)) (pgs_cons (pg_name (i := 8) nd rfl (by first | exact Or.inl rfl | exact Or.inr rfl)) (pgs_nil)))) (pss_one (ps_dput hu1 (pv 3) (pe_tup (pa_cons (pv 6) (pa_cons (pv 7) (pa_nil)))) (pe_lst (pa_cons (pe_ix ix_seq (pe_ix ix_seq (pe_ix ix_seq (pv 0) (pe_int) (fun _ _ => rfl)) (pv 6) (fun _ _ => rfl)) (pe_int) (fun _ _ => rfl)) (pa_cons (pe_non) (pa_cons (pe_ix ix_seq (pe_ix ix_seq (pe_ix ix_seq (pv 0) (pe_int) (fun _ _ => rfl)) (pv 6) (fun _ _ => rfl)) (pe_int) (fun _ _ => rfl)) (pa_cons (pe_non) (pa_nil)))))) (by rfl)))))) (pss_cons (ps_for (passes_of rfl) rfl (pi_range1 (by rfl) (T.free 69) (pa_cons (pe_callB call_len (by rfl) (T.free 62) (by decide +kernel) (pa_cons (pv 2) (pa_nil))) (pa_nil))) (pg_name (i := 9) nd rfl (by first | exact Or.inl rfl | exact Or.inr rfl)) (pss_cons (ps_set (i := 10) nd rfl (by first | exact Or.inl rfl | exact Or.inr rfl) (pe_ix ix_seq (pe_g g_step_L hr (by decide) (by rfl) (pa_cons (pv 0) (pa_cons (pv 5) (pa_cons (pe_ix ix_seq (pv 2) (pv 9) (fun _ _ => rfl)) (pa_nil))))) (pe_int) (fun _ _ => rfl))) (pss_cons (ps_if (pt_cmpR (op_eqU hu) (pe_ix ix_seq (pe_ix ix_seq (pv 2) (pv 9) (fun _ _ => rfl)) (pe_int) (fun _ _ => rfl)) (pe_str) (nomark _)) (pss_one (ps_asg (pe_ix ix_seq (pe_ix ix_seq (pv 4) (pv 9) (fun _ _ => rfl)) (pe_int) (fun _ _ => rfl)) (pg_sub (pe_dget hu1 (pv 3) (pe_slice sl_u (pe_ix ix_seq (pv 2) (pv 9) (fun _ _ => rfl)) (po_some (pe_int)) (po_none)) (fun _ _ => rfl)) (pe_int) set_list))) (pss_nil)) (pss_cons (ps_for (passes_of rfl) rfl (pi_range1 (by rfl) (T.free 69) (pa_cons (pe_callB call_len (by rfl) (T.free 62) (by decide +kernel) (pa_cons (pe_ix ix_seq (pv 0) (pe_int) (fun _ _ => rfl)) (pa_nil))) (pa_nil))) (pg_name (i := 6) nd rfl (by first | exact Or.inl rfl | exact Or.inr rfl)) (pss_one (ps_for (passes_of rfl) rfl (pi_range2 (by rfl) (T.free 69) (pa_cons (pe_ix ix_seq (pe_ix ix_seq (pe_ix ix_seq (pv 5) (pe_int) (fun _ _ => rfl)) (pv 6) (fun _ _ => rfl)) (pe_int) (fun _ _ => rfl)) (pa_cons (pe_ix ix_seq (pe_ix ix_seq (pe_ix ix_seq (pv 10) (pe_int) (fun _ _ => rfl)) (pv 6) (fun _ _ => rfl)) (pe_int) (fun _ _ => rfl)) (pa_nil)))) (pg_name (i := 7) nd rfl (by first | exact Or.inl rfl | exact Or.inr rfl)) (pss_one (ps_dput hu1 (pv 3) (pe_tup (pa_cons (pv 6) (pa_cons (pv 7) (pa_nil)))) (pe_lst (pa_cons (pe_ix ix_seq (pe_ix ix_seq (pe_ix ix_seq (pv 0) (pe_int) (fun _ _ => rfl)) (pv 6) (fun _ _ => rfl)) (pe_int) (fun _ _ => rfl)) (pa_cons (pe_ix ix_seq (pe_ix ix_seq (pv 4) (pv 9) (fun _ _ => rfl)) (pe_int) (fun _ _ => rfl)) (pa_cons (pe_ix ix_seq (pe_ix ix_seq (pe_ix ix_seq (pv 0) (pe_int) (fun _ _ => rfl)) (pv 6) (fun _ _ => rfl)) (pe_int) (fun _ _ => rfl)) (pa_cons (pe_non) (pa_nil)))))) (by rfl)))))) (pss_one (ps_set (i := 5) nd rfl (by first | exact Or.inl rfl | exact Or.inr rfl) (pv 10))))))) (pss_one (ps_ret (pv 3)))))))
/-! #### right_L (level 1) -/
abbrev t_right_L (K : PySem.W.Frag)  : TS := tSeq (tLock (tFor (iKeys (tVar 0)) (gName 2) (tSeq (tAsg (tDGet (tVar 0) (tVar 2)) (gUnl K 4 (gCons (gName 3) (gCons (gName 4) (gCons (gName 5) (gCons (gName 6) (gNil))))))) (tSeq (tAsg (tAndV (tOp rNotNo (tVar 6) (tC .non)) (tOp rLtI (tVar 6) (tOp (rIx K) (tVar 1) (tVar 5)))) (gName 7)) (tIfS (tAnd (tB (tVar 7)) (tAnd (tTest (tOp rNotNo (tVar 4) (tC .non))) (tTest (tOp rGeI (tVar 4) (tOp (rIx K) (tVar 1) (tVar 3)))))) (tRet (tC (.bl false))) (tNext)))))) (tRet (tC (.bl true)))
theorem dv_right_L  (hr : Room 0 (A.deeper (envOfC qual (defScope s_right_L) s.heap.objs.size f cdv))) : PSs (cxOf CX0 P w K mg base N_right_L qual (defScope s_right_L) f cdv A outer s H E) (defBody s_right_L) (t_right_L K ) := by
  have nd := sc_right_L.nd
  have hu := hr.units
  have hu1 := hu1_of hr.units
  exact pss_cons (ps_lock (ps_for (passes_of rfl) rfl (pi_keys (pv 0)) (pg_name (i := 2) nd rfl (by first | exact Or.inl rfl | exact Or.inr rfl)) (pss_cons (ps_asg (pe_dget hu1 (pv 0) (pv 2) (fun _ _ => rfl)) (pg_unl rfl (pgs_cons (pg_name (i := 3) nd rfl (by first | exact Or.inl rfl | exact Or.inr rfl)) (pgs_cons (pg_name (i := 4) nd rfl (by first | exact Or.inl rfl | exact Or.inr rfl)) (pgs_cons (pg_name (i := 5) nd rfl (by first | exact Or.inl rfl | exact Or.inr rfl)) (pgs_cons (pg_name (i := 6) nd rfl (by first | exact Or.inl rfl | exact Or.inr rfl)) (pgs_nil))))))) (pss_cons (ps_set (i := 7) nd rfl (by first | exact Or.inl rfl | exact Or.inr rfl) (pe_and (pe_cmpR op_notN (pv 6) (pe_non) (nomark _)) (pe_one (pe_cmpR op_lt (pv 6) (pe_ix ix_seq (pv 1) (pv 5) (fun _ _ => rfl)) (nomark _))))) (pss_one (ps_if ((pw_and (pt_val (pv 7)) (pw_and (pt_cmpR op_notN (pv 4) (pe_non) (nomark _)) (pw_and1 (pt_cmpR op_ge (pv 4) (pe_ix ix_seq (pv 1) (pv 3) (fun _ _ => rfl)) (nomark _))))).pt) (pss_one (ps_ret (pe_bl))) (pss_nil))))))) (pss_one (ps_ret (pe_bl)))
/-! #### in_cut_L (level 3) -/
abbrev t_in_cut_L (K : PySem.W.Frag) (q_events_L : Sp) : TS := tSeq (tAsg (tCall q_events_L [] E0 (tCons (tVar 0) (tCons (tVar 1) (tNil)))) (gName 3)) (tRet (tLc (iRng1 (tCons (tCB (rLenU K) (tCons (tVar 1) (tNil))) (tNil))) (gName 4) (tTest (tOp rLtI (tOp (rIx K) (tOp (rIx K) (tVar 3) (tVar 4)) (tC (.int 1))) (tOp (rIx K) (tVar 2) (tOp (rIx K) (tOp (rIx K) (tVar 3) (tVar 4)) (tC (.int 0)))))) (tOp (rIx K) (tVar 1) (tVar 4)) [4]))
theorem dv_in_cut_L {q_events_L : Sp} (g_events_L : Gv P w K mg base CX0 2 "_law_events" P_events_L q_events_L) (hr : Room 2 (A.deeper (envOfC qual (defScope s_in_cut_L) s.heap.objs.size f cdv))) : PSs (cxOf CX0 P w K mg base N_in_cut_L qual (defScope s_in_cut_L) f cdv A outer s H E) (defBody s_in_cut_L) (t_in_cut_L K q_events_L) := by
  have nd := sc_in_cut_L.nd
  have hu := hr.units
  have hu1 := hu1_of hr.units
  exact pss_cons (ps_set (i := 3) nd rfl (by first | exact Or.inl rfl | exact Or.inr rfl) (pe_g g_events_L hr (by decide) (by rfl) (pa_cons (pv 0) (pa_cons (pv 1) (pa_nil))))) (pss_one (ps_ret (pe_lc (own := [("_law_j", 4)]) rfl nd (pi_range1 (by rfl) (T.free 69) (pa_cons (pe_callB call_len (by rfl) (T.free 62) (by decide +kernel) (pa_cons (pv 1) (pa_nil))) (pa_nil))) (blkOk_by (own := [("_law_j", 4)]) (N := N_in_cut_L) (sc := defScope s_in_cut_L) (by decide +kernel)) (fun _ _ _ _ _ => pg_name (i := 4) nd rfl (by first | exact Or.inl rfl | exact Or.inr rfl)) (fun _ _ _ _ _ => pts_one (pt_cmpR op_lt (pe_ix ix_seq (pe_ix ix_seq (pv 3) (pv 4) (fun _ _ => rfl)) (pe_int) (fun _ _ => rfl)) (pe_ix ix_seq (pv 2) (pe_ix ix_seq (pe_ix ix_seq (pv 3) (pv 4) (fun _ _ => rfl)) (pe_int) (fun _ _ => rfl)) (fun _ _ => rfl)) (nomark _))) (fun _ _ _ _ _ => pe_ix ix_seq (pv 1) (pv 4) (fun _ _ => rfl)))))
/-! #### cut_L (level 1) -/
abbrev t_cut_L (K : PySem.W.Frag)  : TS := tRet (tCB (rTupU K) (tCons (tLc (iRng1 (tCons (tCB (rLenU K) (tCons (tVar 1) (tNil))) (tNil))) (gName 2) (tYes) (tOp (rModI) (tOp (rIx K) (tVar 0) (tVar 2)) (tOp (rPlus K) (tOp (rIx K) (tVar 1) (tVar 2)) (tC (.int 1)))) [2]) (tNil)))
theorem dv_cut_L  (hr : Room 0 (A.deeper (envOfC qual (defScope s_cut_L) s.heap.objs.size f cdv))) : PSs (cxOf CX0 P w K mg base N_cut_L qual (defScope s_cut_L) f cdv A outer s H E) (defBody s_cut_L) (t_cut_L K ) := by
  have nd := sc_cut_L.nd
  have hu := hr.units
  have hu1 := hu1_of hr.units
  exact pss_one (ps_ret (pe_callTy call_tuple_of (by rfl) (T.free 67) (by decide +kernel) (pa_cons (pe_lc (own := [("_law_m", 2)]) rfl nd (pi_range1 (by rfl) (T.free 69) (pa_cons (pe_callB call_len (by rfl) (T.free 62) (by decide +kernel) (pa_cons (pv 1) (pa_nil))) (pa_nil))) (blkOk_by (own := [("_law_m", 2)]) (N := N_cut_L) (sc := defScope s_cut_L) (by decide +kernel)) (fun _ _ _ _ _ => pg_name (i := 2) nd rfl (by first | exact Or.inl rfl | exact Or.inr rfl)) (fun _ _ _ _ _ => pts_nil) (fun _ _ _ _ _ => pe_op op_mod (pe_ix ix_seq (pv 0) (pv 2) (fun _ _ => rfl)) (pe_op op_plus (pe_ix ix_seq (pv 1) (pv 2) (fun _ _ => rfl)) (pe_int)))) (pa_nil))))
/-! #### bent_L (level 1) -/
abbrev t_bent_L (K : PySem.W.Frag)  : TS := tSeq (tAsg (tCB (rListU K) (tCons (tOp (rIx K) (tVar 3) (tC (.int 0))) (tNil))) (gName 4)) (tSeq (tAsg (tOp (rIx K) (tVar 3) (tC (.int 1))) (gName 5)) (tSeq (tAsg (tOp (rModI) (tOp (rIx K) (tVar 1) (tC (.int 0))) (tC (.int 6))) (gName 6)) (tSeq (tIfS (tAnd (tTest (tOp rGtI (tCB (rLenU K) (tCons (tVar 4) (tNil))) (tC (.int 1)))) (tTest (tOp rLtI (tVar 6) (tC (.int 3))))) (tSeq (tAsg (tOp (rModI) (tOp (rIx K) (tVar 1) (tC (.int 1))) (tCB (rLenU K) (tCons (tVar 4) (tNil)))) (gName 7)) (tSeq (tAsg (tOp (rModI) (tOp (rIx K) (tVar 1) (tC (.int 2))) (tCB (rLenU K) (tCons (tVar 4) (tNil)))) (gName 8)) (tAsg (tTup (tCons (tOp (rIx K) (tVar 4) (tVar 8)) (tCons (tOp (rIx K) (tVar 4) (tVar 7)) (tNil)))) (gTup K 2 (gCons (gSub (tVar 4) (tVar 7) rSetL) (gCons (gSub (tVar 4) (tVar 8) rSetL) (gNil))))))) (tNext)) (tSeq (tIfS (tAnd (tTest (tOp rGtI (tCB (rLenU K) (tCons (tVar 4) (tNil))) (tC (.int 0)))) (tTest (tOp (rEqU K) (tVar 6) (tC (.int 3))))) (tAsg (tOp (rModI) (tOp (rIx K) (tVar 1) (tC (.int 2))) (tOp (rPlus K) (tCB (rLenU K) (tCons (tVar 4) (tNil))) (tC (.int 1)))) (gSub (tVar 4) (tOp (rModI) (tOp (rIx K) (tVar 1) (tC (.int 1))) (tCB (rLenU K) (tCons (tVar 4) (tNil)))) rSetL)) (tNext)) (tSeq (tIfS (tTest (tOp rGtI (tVar 6) (tC (.int 3)))) (tAsg (tOp (rModI) (tOp (rIx K) (tVar 1) (tC (.int 1))) (tOp (rPlus K) (tCB (rLenU K) (tCons (tVar 4) (tNil))) (tC (.int 2)))) (gName 5)) (tNext)) (tSeq (tIfS (tTest (tOp (rEqU K) (tOp (rModI) (tOp (rIx K) (tVar 1) (tC (.int 3))) (tC (.int 5))) (tC (.int 0)))) (tSeq (tAsg (tOp (rModI) (tOp (rIx K) (tVar 1) (tC (.int 4))) (tCB (rLenU K) (tCons (tOp (rIx K) (tVar 0) (tC (.int 0))) (tNil)))) (gName 9)) (tAsg (tTup (tCons (tOp (rPlus K) (tOp (rPlus K) (tSl (rSlU K) (tOp (rIx K) (tVar 2) (tC (.int 0))) (tNoPart) (tPart (tVar 9))) (tTup (tCons (tOp (rModI) (tOp (rIx K) (tVar 1) (tC (.int 5))) (tC (.int 3))) (tNil)))) (tSl (rSlU K) (tOp (rIx K) (tVar 2) (tC (.int 0))) (tPart (tOp (rPlus K) (tVar 9) (tC (.int 1)))) (tNoPart))) (tCons (tOp (rIx K) (tVar 2) (tC (.int 1))) (tNil)))) (gName 2))) (tNext)) (tRet (tTup (tCons (tVar 2) (tCons (tTup (tCons (tCB (rTupU K) (tCons (tVar 4) (tNil))) (tCons (tVar 5) (tNil)))) (tNil)))))))))))
theorem dv_bent_L  (hr : Room 0 (A.deeper (envOfC qual (defScope s_bent_L) s.heap.objs.size f cdv))) : PSs (cxOf CX0 P w K mg base N_bent_L qual (defScope s_bent_L) f cdv A outer s H E) (defBody s_bent_L) (t_bent_L K ) := by
  have nd := sc_bent_L.nd
  have hu := hr.units
  have hu1 := hu1_of hr.units
  exact pss_cons (ps_set (i := 4) nd rfl (by first | exact Or.inl rfl | exact Or.inr rfl) (pe_callTy call_list_of (by rfl) (T.free 68) (by decide +kernel) (pa_cons (pe_ix ix_seq (pv 3) (pe_int) (fun _ _ => rfl)) (pa_nil)))) (pss_cons (ps_set (i := 5) nd rfl (by first | exact Or.inl rfl | exact Or.inr rfl) (pe_ix ix_seq (pv 3) (pe_int) (fun _ _ => rfl))) (pss_cons (ps_set (i := 6) nd rfl (by first | exact Or.inl rfl | exact Or.inr rfl) (pe_op op_mod (pe_ix ix_seq (pv 1) (pe_int) (fun _ _ => rfl)) (pe_int))) (pss_cons (ps_if ((pw_and (pt_cmpR op_gt (pe_callB call_len (by rfl) (T.free 62) (by decide +kernel) (pa_cons (pv 4) (pa_nil))) (pe_int) (nomark _)) (pw_and1 (pt_cmpR op_lt (pv 6) (pe_int) (nomark _)))).pt) (pss_cons (ps_set (i := 7) nd rfl (by first | exact Or.inl rfl | exact Or.inr rfl) (pe_op op_mod (pe_ix ix_seq (pv 1) (pe_int) (fun _ _ => rfl)) (pe_callB call_len (by rfl) (T.free 62) (by decide +kernel) (pa_cons (pv 4) (pa_nil))))) (pss_cons (ps_set (i := 8) nd rfl (by first | exact Or.inl rfl | exact Or.inr rfl) (pe_op op_mod (pe_ix ix_seq (pv 1) (pe_int) (fun _ _ => rfl)) (pe_callB call_len (by rfl) (T.free 62) (by decide +kernel) (pa_cons (pv 4) (pa_nil))))) (pss_one (ps_asg (pe_tup (pa_cons (pe_ix ix_seq (pv 4) (pv 8) (fun _ _ => rfl)) (pa_cons (pe_ix ix_seq (pv 4) (pv 7) (fun _ _ => rfl)) (pa_nil)))) (pg_tup rfl (pgs_cons (pg_sub (pv 4) (pv 7) set_list) (pgs_cons (pg_sub (pv 4) (pv 8) set_list) (pgs_nil)))))))) (pss_nil)) (pss_cons (ps_if ((pw_and (pt_cmpR op_gt (pe_callB call_len (by rfl) (T.free 62) (by decide +kernel) (pa_cons (pv 4) (pa_nil))) (pe_int) (nomark _)) (pw_and1 (pt_cmpR (op_eqU hu) (pv 6) (pe_int) (nomark _)))).pt) (pss_one (ps_asg (pe_op op_mod (pe_ix ix_seq (pv 1) (pe_int) (fun _ _ => rfl)) (pe_op op_plus (pe_callB call_len (by rfl) (T.free 62) (by decide +kernel) (pa_cons (pv 4) (pa_nil))) (pe_int))) (pg_sub (pv 4) (pe_op op_mod (pe_ix ix_seq (pv 1) (pe_int) (fun _ _ => rfl)) (pe_callB call_len (by rfl) (T.free 62) (by decide +kernel) (pa_cons (pv 4) (pa_nil)))) set_list))) (pss_nil)) (pss_cons (ps_if (pt_cmpR op_gt (pv 6) (pe_int) (nomark _)) (pss_one (ps_set (i := 5) nd rfl (by first | exact Or.inl rfl | exact Or.inr rfl) (pe_op op_mod (pe_ix ix_seq (pv 1) (pe_int) (fun _ _ => rfl)) (pe_op op_plus (pe_callB call_len (by rfl) (T.free 62) (by decide +kernel) (pa_cons (pv 4) (pa_nil))) (pe_int))))) (pss_nil)) (pss_cons (ps_if (pt_cmpR (op_eqU hu) (pe_op op_mod (pe_ix ix_seq (pv 1) (pe_int) (fun _ _ => rfl)) (pe_int)) (pe_int) (nomark _)) (pss_cons (ps_set (i := 9) nd rfl (by first | exact Or.inl rfl | exact Or.inr rfl) (pe_op op_mod (pe_ix ix_seq (pv 1) (pe_int) (fun _ _ => rfl)) (pe_callB call_len (by rfl) (T.free 62) (by decide +kernel) (pa_cons (pe_ix ix_seq (pv 0) (pe_int) (fun _ _ => rfl)) (pa_nil))))) (pss_one (ps_set (i := 2) nd rfl (by first | exact Or.inl rfl | exact Or.inr rfl) (pe_tup (pa_cons (pe_op op_plus (pe_op op_plus (pe_slice sl_u (pe_ix ix_seq (pv 2) (pe_int) (fun _ _ => rfl)) (po_none) (po_some (pv 9))) (pe_tup (pa_cons (pe_op op_mod (pe_ix ix_seq (pv 1) (pe_int) (fun _ _ => rfl)) (pe_int)) (pa_nil)))) (pe_slice sl_u (pe_ix ix_seq (pv 2) (pe_int) (fun _ _ => rfl)) (po_some (pe_op op_plus (pv 9) (pe_int))) (po_none))) (pa_cons (pe_ix ix_seq (pv 2) (pe_int) (fun _ _ => rfl)) (pa_nil))))))) (pss_nil)) (pss_one (ps_ret (pe_tup (pa_cons (pv 2) (pa_cons (pe_tup (pa_cons (pe_callTy call_tuple_of (by rfl) (T.free 67) (by decide +kernel) (pa_cons (pv 4) (pa_nil))) (pa_cons (pv 5) (pa_nil)))) (pa_nil))))))))))))
/-! #### could_be_L (level 5) -/
abbrev t_could_be_L (K : PySem.W.Frag) (q_events_L : Sp) (q_walk_L : Sp) (q_ends_L : Sp) (q_right_L : Sp) (q_trips_L : Sp) (q_in_cut_L : Sp) : TS := tSeq (tIfS (tOr (tTest (tOp (rNeU K) (tCB (rSrtU K) (tCons (tOp (rIx K) (tVar 4) (tC (.int 0))) (tNil))) (tLstRg (tRg1 (tCB (rLenU K) (tCons (tVar 2) (tNil))))))) (tNot (tTest (tChain rLeI rLeI (tC (.int 0)) (tOp (rIx K) (tVar 4) (tC (.int 1))) (tCB (rLenU K) (tCons (tVar 2) (tNil))))))) (tRet (tC (.bl false))) (tNext)) (tSeq (tAsg (tCall q_events_L [] E0 (tCons (tVar 0) (tCons (tVar 2) (tNil)))) (gName 5)) (tSeq (tFor (iRng1 (tCons (tCB (rLenU K) (tCons (tOp (rIx K) (tVar 0) (tC (.int 0))) (tNil))) (tNil))) (gName 6) (tSeq (tAsg (tLc (iTup K (tOp (rIx K) (tVar 4) (tC (.int 0)))) (gName 12) (tTest (tOp (rEqU K) (tOp (rIx K) (tOp (rIx K) (tVar 5) (tVar 12)) (tC (.int 0))) (tVar 6))) (tOp (rIx K) (tOp (rIx K) (tVar 5) (tVar 12)) (tC (.int 1))) [12]) (gName 7)) (tIfS (tTest (tOp (rNeU K) (tVar 7) (tCB (rSrtU K) (tCons (tVar 7) (tNil))))) (tRet (tC (.bl false))) (tNext)))) (tSeq (tAsg (tLc (iTup K (tSl (rSlU K) (tOp (rIx K) (tVar 4) (tC (.int 0))) (tNoPart) (tPart (tOp (rIx K) (tVar 4) (tC (.int 1)))))) (gName 12) (tYes) (tOp (rIx K) (tVar 2) (tVar 12)) [12]) (gName 8)) (tSeq (tAsg (tCall q_walk_L [] E0 (tCons (tVar 0) (tCons (tVar 1) (tCons (tVar 8) (tNil))))) (gName 9)) (tSeq (tAsg (tCall q_walk_L [] E0 (tCons (tVar 0) (tCons (tVar 1) (tCons (tLc (iTup K (tOp (rIx K) (tVar 4) (tC (.int 0)))) (gName 12) (tYes) (tOp (rIx K) (tVar 2) (tVar 12)) [12]) (tNil))))) (gName 10)) (tSeq (tIfS (tOr (tTest (tOp rIsNo (tVar 9) (tC .non))) (tOr (tTest (tOp rIsNo (tVar 10) (tC .non))) (tTest (tOp (rNeU K) (tOp (rIx K) (tVar 9) (tC (.int 0))) (tVar 3))))) (tRet (tC (.bl false))) (tNext)) (tSeq (tAsg (tCall q_ends_L [] E0 (tCons (tVar 0) (tCons (tVar 8) (tNil)))) (gName 11)) (tSeq (tIfS (tNot (tB (tCall q_right_L [] E0 (tCons (tCall q_trips_L [] E0 (tCons (tVar 0) (tCons (tVar 1) (tCons (tVar 2) (tNil))))) (tCons (tVar 11) (tNil)))))) (tRet (tC (.bl false))) (tNext)) (tSeq (tIfS (tTest (tOp (rNeU K) (tOp (rIx K) (tVar 10) (tC (.int 0))) (tOp (rIx K) (tCall q_walk_L [] E0 (tCons (tVar 0) (tCons (tVar 1) (tCons (tVar 2) (tNil))))) (tC (.int 0))))) (tRet (tC (.bl false))) (tNext)) (tRet (tOp (rEqU K) (tOp (rIx K) (tCall q_walk_L [] E0 (tCons (tVar 0) (tCons (tVar 1) (tCons (tCall q_in_cut_L [] E0 (tCons (tVar 0) (tCons (tVar 2) (tCons (tVar 11) (tNil))))) (tNil))))) (tC (.int 0))) (tVar 3))))))))))))
theorem dv_could_be_L {q_events_L : Sp} (g_events_L : Gv P w K mg base CX0 2 "_law_events" P_events_L q_events_L) {q_walk_L : Sp} (g_walk_L : Gv P w K mg base CX0 4 "_law_walk" P_walk_L q_walk_L) {q_ends_L : Sp} (g_ends_L : Gv P w K mg base CX0 2 "_law_ends" P_ends_L q_ends_L) {q_right_L : Sp} (g_right_L : Gv P w K mg base CX0 1 "_law_right" P_right_L q_right_L) {q_trips_L : Sp} (g_trips_L : Gv P w K mg base CX0 4 "_law_trips" P_trips_L q_trips_L) {q_in_cut_L : Sp} (g_in_cut_L : Gv P w K mg base CX0 3 "_law_in_cut" P_in_cut_L q_in_cut_L) (hr : Room 4 (A.deeper (envOfC qual (defScope s_could_be_L) s.heap.objs.size f cdv))) : PSs (cxOf CX0 P w K mg base N_could_be_L qual (defScope s_could_be_L) f cdv A outer s H E) (defBody s_could_be_L) (t_could_be_L K q_events_L q_walk_L q_ends_L q_right_L q_trips_L q_in_cut_L) := by
  have nd := sc_could_be_L.nd
  have hu := hr.units
  have hu1 := hu1_of hr.units
  exact pss_cons (ps_if ((pw_or (pt_cmpR (op_neU hu) (pe_callB cr_srt (by rfl) (T.free 74) (by decide +kernel) (pa_cons (pe_ix ix_seq (pv 4) (pe_int) (fun _ _ => rfl)) (pa_nil))) (pe_listRg rfl (by rfl) (T.free 68) (prg_1 (by rfl) (T.free 69) (pe_callB call_len (by rfl) (T.free 62) (by decide +kernel) (pa_cons (pv 2) (pa_nil))))) (nomark _)) (pw_or1 (pt_not (pt_chain op_le op_le (pe_int) (pe_ix ix_seq (pv 4) (pe_int) (fun _ _ => rfl)) (pe_callB call_len (by rfl) (T.free 62) (by decide +kernel) (pa_cons (pv 2) (pa_nil))))))).pt) (pss_one (ps_ret (pe_bl))) (pss_nil)) (pss_cons (ps_set (i := 5) nd rfl (by first | exact Or.inl rfl | exact Or.inr rfl) (pe_g g_events_L hr (by decide) (by rfl) (pa_cons (pv 0) (pa_cons (pv 2) (pa_nil))))) (pss_cons (ps_for (passes_of rfl) rfl (pi_range1 (by rfl) (T.free 69) (pa_cons (pe_callB call_len (by rfl) (T.free 62) (by decide +kernel) (pa_cons (pe_ix ix_seq (pv 0) (pe_int) (fun _ _ => rfl)) (pa_nil))) (pa_nil))) (pg_name (i := 6) nd rfl (by first | exact Or.inl rfl | exact Or.inr rfl)) (pss_cons (ps_setLc (i := 7) (own := [("_law_k", 12)]) rfl nd rfl rfl (sw_true rfl rfl rfl (by decide +kernel)) (pi_tup (pe_ix ix_seq (pv 4) (pe_int) (fun _ _ => rfl))) (blkOk_by (own := [("_law_k", 12)]) (N := N_could_be_L) (sc := defScope s_could_be_L) (by decide +kernel)) (fun _ _ _ _ _ => pg_name (i := 12) nd rfl (by first | exact Or.inl rfl | exact Or.inr rfl)) (fun _ _ _ _ _ => pts_one (pt_cmpR (op_eqU hu) (pe_ix ix_seq (pe_ix ix_seq (pv 5) (pv 12) (fun _ _ => rfl)) (pe_int) (fun _ _ => rfl)) (pv 6) (nomark _))) (fun _ _ _ _ _ => pe_ix ix_seq (pe_ix ix_seq (pv 5) (pv 12) (fun _ _ => rfl)) (pe_int) (fun _ _ => rfl))) (pss_one (ps_if (pt_cmpR (op_neU hu) (pv 7) (pe_callB cr_srt (by rfl) (T.free 74) (by decide +kernel) (pa_cons (pv 7) (pa_nil))) (nomark _)) (pss_one (ps_ret (pe_bl))) (pss_nil))))) (pss_cons (ps_setLc (i := 8) (own := [("_law_k", 12)]) rfl nd rfl rfl (sw_true rfl rfl rfl (by decide +kernel)) (pi_tup (pe_slice sl_u (pe_ix ix_seq (pv 4) (pe_int) (fun _ _ => rfl)) (po_none) (po_some (pe_ix ix_seq (pv 4) (pe_int) (fun _ _ => rfl))))) (blkOk_by (own := [("_law_k", 12)]) (N := N_could_be_L) (sc := defScope s_could_be_L) (by decide +kernel)) (fun _ _ _ _ _ => pg_name (i := 12) nd rfl (by first | exact Or.inl rfl | exact Or.inr rfl)) (fun _ _ _ _ _ => pts_nil) (fun _ _ _ _ _ => pe_ix ix_seq (pv 2) (pv 12) (fun _ _ => rfl))) (pss_cons (ps_set (i := 9) nd rfl (by first | exact Or.inl rfl | exact Or.inr rfl) (pe_g g_walk_L hr (by decide) (by rfl) (pa_cons (pv 0) (pa_cons (pv 1) (pa_cons (pv 8) (pa_nil)))))) (pss_cons (ps_set (i := 10) nd rfl (by first | exact Or.inl rfl | exact Or.inr rfl) (pe_g g_walk_L hr (by decide) (by rfl) (pa_cons (pv 0) (pa_cons (pv 1) (pa_cons (pe_lc (own := [("_law_k", 12)]) rfl nd (pi_tup (pe_ix ix_seq (pv 4) (pe_int) (fun _ _ => rfl))) (blkOk_by (own := [("_law_k", 12)]) (N := N_could_be_L) (sc := defScope s_could_be_L) (by decide +kernel)) (fun _ _ _ _ _ => pg_name (i := 12) nd rfl (by first | exact Or.inl rfl | exact Or.inr rfl)) (fun _ _ _ _ _ => pts_nil) (fun _ _ _ _ _ => pe_ix ix_seq (pv 2) (pv 12) (fun _ _ => rfl))) (pa_nil)))))) (pss_cons (ps_if ((pw_or (pt_cmpR op_isN (pv 9) (pe_non) (nomark _)) (pw_or (pt_cmpR op_isN (pv 10) (pe_non) (nomark _)) (pw_or1 (pt_cmpR (op_neU hu) (pe_ix ix_seq (pv 9) (pe_int) (fun _ _ => rfl)) (pv 3) (nomark _))))).pt) (pss_one (ps_ret (pe_bl))) (pss_nil)) (pss_cons (ps_set (i := 11) nd rfl (by first | exact Or.inl rfl | exact Or.inr rfl) (pe_g g_ends_L hr (by decide) (by rfl) (pa_cons (pv 0) (pa_cons (pv 8) (pa_nil))))) (pss_cons (ps_if (pt_not (pt_val (pe_g g_right_L hr (by decide) (by rfl) (pa_cons (pe_g g_trips_L hr (by decide) (by rfl) (pa_cons (pv 0) (pa_cons (pv 1) (pa_cons (pv 2) (pa_nil))))) (pa_cons (pv 11) (pa_nil)))))) (pss_one (ps_ret (pe_bl))) (pss_nil)) (pss_cons (ps_if (pt_cmpR (op_neU hu) (pe_ix ix_seq (pv 10) (pe_int) (fun _ _ => rfl)) (pe_ix ix_seq (pe_g g_walk_L hr (by decide) (by rfl) (pa_cons (pv 0) (pa_cons (pv 1) (pa_cons (pv 2) (pa_nil))))) (pe_int) (fun _ _ => rfl)) (nomark _)) (pss_one (ps_ret (pe_bl))) (pss_nil)) (pss_one (ps_ret (pe_cmpR (op_eqU hu) (pe_ix ix_seq (pe_g g_walk_L hr (by decide) (by rfl) (pa_cons (pv 0) (pa_cons (pv 1) (pa_cons (pe_g g_in_cut_L hr (by decide) (by rfl) (pa_cons (pv 0) (pa_cons (pv 2) (pa_cons (pv 11) (pa_nil))))) (pa_nil))))) (pe_int) (fun _ _ => rfl)) (pv 3) (nomark _)))))))))))))
/-! #### cut_right_L (level 12) -/
abbrev t_cut_right_L (K : PySem.W.Frag) (q_cut_L : Sp) (q_ends_L : Sp) (q_right_L : Sp) (q_trips_L : Sp) (q_is_cut_L : Sp) (q_in_cut_L : Sp) (q_walk_L : Sp) (q_through : Sp) (q_asked_L : Sp) (q_could_be_L : Sp) (q_bent_L : Sp) : TS := tSeq (tAsg (tCall q_cut_L [] E0 (tCons (tVar 3) (tCons (tCall q_ends_L [] E0 (tCons (tVar 0) (tCons (tVar 2) (tNil)))) (tNil)))) (gName 4)) (tSeq (tAsg (tCall q_right_L [] E0 (tCons (tCall q_trips_L [] E0 (tCons (tVar 0) (tCons (tVar 1) (tCons (tVar 2) (tNil))))) (tCons (tVar 4) (tNil)))) (gName 5)) (tSeq (tIfS (tTest (tOp (rNeU K) (tCall q_is_cut_L [] E0 (tCons (tVar 0) (tCons (tVar 1) (tCons (tVar 2) (tCons (tVar 4) (tNil)))))) (tVar 5))) (tRet (tC (.bl false))) (tNext)) (tSeq (tIfS (tNot (tB (tVar 5))) (tRet (tC (.bl true))) (tNext)) (tSeq (tAsg (tCall q_in_cut_L [] E0 (tCons (tVar 0) (tCons (tVar 2) (tCons (tVar 4) (tNil))))) (gName 6)) (tSeq (tAsg (tOp (rIx K) (tCall q_walk_L [] E0 (tCons (tVar 0) (tCons (tVar 1) (tCons (tVar 6) (tNil))))) (tC (.int 0))) (gName 7)) (tSeq (tAsg (tCall q_through [] E0 (tCons (tVar 0) (tCons (tVar 1) (tCons (tCB (rListU K) (tCons (tVar 2) (tNil))) (tCons (tVar 4) (tNil)))))) (gName 8)) (tSeq (tAsg (tLc (iTup K (tSl (rSlU K) (tOp (rIx K) (tVar 8) (tC (.int 0))) (tNoPart) (tPart (tOp (rIx K) (tVar 8) (tC (.int 1)))))) (gName 10) (tYes) (tOp (rIx K) (tVar 2) (tVar 10)) [10]) (gName 9)) (tSeq (tIfS (tOr (tTest (tOp (rNeU K) (tOp (rIx K) (tVar 8) (tC (.int 1))) (tCB (rLenU K) (tCons (tVar 6) (tNil))))) (tTest (tOp (rNeU K) (tCall q_ends_L [] E0 (tCons (tVar 0) (tCons (tVar 9) (tNil)))) (tVar 4)))) (tRet (tC (.bl false))) (tNext)) (tSeq (tIfS (tTest (tOp rNotB (tCall q_asked_L [] E0 (tCons (tVar 0) (tCons (tVar 1) (tCons (tVar 2) (tCons (tVar 7) (tCons (tVar 8) (tNil))))))) (tC (.bl true)))) (tRet (tC (.bl false))) (tNext)) (tSeq (tIfS (tNot (tB (tCall q_could_be_L [] E0 (tCons (tVar 0) (tCons (tVar 1) (tCons (tVar 2) (tCons (tVar 7) (tCons (tVar 8) (tNil))))))))) (tRet (tC (.bl false))) (tNext)) (tSeq (tFor (iRng1 (tCons (tC (.int 3)) (tNil))) (gName 10) (tSeq (tAsg (tCall q_bent_L [] E0 (tCons (tVar 0) (tCons (tSl (rSlU K) (tVar 3) (tPart (tOp (rPlus K) (tC (.int 4)) (tOp (rTimes K) (tC (.int 6)) (tVar 10)))) (tNoPart)) (tCons (tVar 7) (tCons (tVar 8) (tNil)))))) (gTup K 2 (gCons (gName 11) (gCons (gName 12) (gNil))))) (tSeq (tAsg (tCall q_could_be_L [] E0 (tCons (tVar 0) (tCons (tVar 1) (tCons (tVar 2) (tCons (tVar 11) (tCons (tVar 12) (tNil))))))) (gName 5)) (tIfS (tTest (tOp (rNeU K) (tCall q_asked_L [] E0 (tCons (tVar 0) (tCons (tVar 1) (tCons (tVar 2) (tCons (tVar 11) (tCons (tVar 12) (tNil))))))) (tVar 5))) (tRet (tC (.bl false))) (tNext))))) (tRet (tC (.bl true))))))))))))))
theorem dv_cut_right_L {q_cut_L : Sp} (g_cut_L : Gv P w K mg base CX0 1 "_law_cut" P_cut_L q_cut_L) {q_ends_L : Sp} (g_ends_L : Gv P w K mg base CX0 2 "_law_ends" P_ends_L q_ends_L) {q_right_L : Sp} (g_right_L : Gv P w K mg base CX0 1 "_law_right" P_right_L q_right_L) {q_trips_L : Sp} (g_trips_L : Gv P w K mg base CX0 4 "_law_trips" P_trips_L q_trips_L) {q_is_cut_L : Sp} (g_is_cut_L : Gv P w K mg base CX0 11 "_law_is_cut" P_is_cut_L q_is_cut_L) {q_in_cut_L : Sp} (g_in_cut_L : Gv P w K mg base CX0 3 "_law_in_cut" P_in_cut_L q_in_cut_L) {q_walk_L : Sp} (g_walk_L : Gv P w K mg base CX0 4 "_law_walk" P_walk_L q_walk_L) {q_through : Sp} (g_through : Gv P w K mg base CX0 4 "through" P_through q_through) {q_asked_L : Sp} (g_asked_L : Gv P w K mg base CX0 7 "_law_asked" P_asked_L q_asked_L) {q_could_be_L : Sp} (g_could_be_L : Gv P w K mg base CX0 5 "_law_could_be" P_could_be_L q_could_be_L) {q_bent_L : Sp} (g_bent_L : Gv P w K mg base CX0 1 "_law_bent" P_bent_L q_bent_L) (hr : Room 11 (A.deeper (envOfC qual (defScope s_cut_right_L) s.heap.objs.size f cdv))) : PSs (cxOf CX0 P w K mg base N_cut_right_L qual (defScope s_cut_right_L) f cdv A outer s H E) (defBody s_cut_right_L) (t_cut_right_L K q_cut_L q_ends_L q_right_L q_trips_L q_is_cut_L q_in_cut_L q_walk_L q_through q_asked_L q_could_be_L q_bent_L) := by
  have nd := sc_cut_right_L.nd
  have hu := hr.units
  have hu1 := hu1_of hr.units
  exact pss_cons (ps_set (i := 4) nd rfl (by first | exact Or.inl rfl | exact Or.inr rfl) (pe_g g_cut_L hr (by decide) (by rfl) (pa_cons (pv 3) (pa_cons (pe_g g_ends_L hr (by decide) (by rfl) (pa_cons (pv 0) (pa_cons (pv 2) (pa_nil)))) (pa_nil))))) (pss_cons (ps_set (i := 5) nd rfl (by first | exact Or.inl rfl | exact Or.inr rfl) (pe_g g_right_L hr (by decide) (by rfl) (pa_cons (pe_g g_trips_L hr (by decide) (by rfl) (pa_cons (pv 0) (pa_cons (pv 1) (pa_cons (pv 2) (pa_nil))))) (pa_cons (pv 4) (pa_nil))))) (pss_cons (ps_if (pt_cmpR (op_neU hu) (pe_g g_is_cut_L hr (by decide) (by rfl) (pa_cons (pv 0) (pa_cons (pv 1) (pa_cons (pv 2) (pa_cons (pv 4) (pa_nil)))))) (pv 5) (nomark _)) (pss_one (ps_ret (pe_bl))) (pss_nil)) (pss_cons (ps_if (pt_not (pt_val (pv 5))) (pss_one (ps_ret (pe_bl))) (pss_nil)) (pss_cons (ps_set (i := 6) nd rfl (by first | exact Or.inl rfl | exact Or.inr rfl) (pe_g g_in_cut_L hr (by decide) (by rfl) (pa_cons (pv 0) (pa_cons (pv 2) (pa_cons (pv 4) (pa_nil)))))) (pss_cons (ps_set (i := 7) nd rfl (by first | exact Or.inl rfl | exact Or.inr rfl) (pe_ix ix_seq (pe_g g_walk_L hr (by decide) (by rfl) (pa_cons (pv 0) (pa_cons (pv 1) (pa_cons (pv 6) (pa_nil))))) (pe_int) (fun _ _ => rfl))) (pss_cons (ps_set (i := 8) nd rfl (by first | exact Or.inl rfl | exact Or.inr rfl) (pe_g g_through hr (by decide) (by rfl) (pa_cons (pv 0) (pa_cons (pv 1) (pa_cons (pe_callTy call_list_of (by rfl) (T.free 68) (by decide +kernel) (pa_cons (pv 2) (pa_nil))) (pa_cons (pv 4) (pa_nil))))))) (pss_cons (ps_setLc (i := 9) (own := [("_law_k", 10)]) rfl nd rfl rfl (sw_true rfl rfl rfl (by decide +kernel)) (pi_tup (pe_slice sl_u (pe_ix ix_seq (pv 8) (pe_int) (fun _ _ => rfl)) (po_none) (po_some (pe_ix ix_seq (pv 8) (pe_int) (fun _ _ => rfl))))) (blkOk_by (own := [("_law_k", 10)]) (N := N_cut_right_L) (sc := defScope s_cut_right_L) (by decide +kernel)) (fun _ _ _ _ _ => pg_name (i := 10) nd rfl (by first | exact Or.inl rfl | exact Or.inr rfl)) (fun _ _ _ _ _ => pts_nil) (fun _ _ _ _ _ => pe_ix ix_seq (pv 2) (pv 10) (fun _ _ => rfl))) (pss_cons (ps_if ((pw_or (pt_cmpR (op_neU hu) (pe_ix ix_seq (pv 8) (pe_int) (fun _ _ => rfl)) (pe_callB call_len (by rfl) (T.free 62) (by decide +kernel) (pa_cons (pv 6) (pa_nil))) (nomark _)) (pw_or1 (pt_cmpR (op_neU hu) (pe_g g_ends_L hr (by decide) (by rfl) (pa_cons (pv 0) (pa_cons (pv 9) (pa_nil)))) (pv 4) (nomark _)))).pt) (pss_one (ps_ret (pe_bl))) (pss_nil)) (pss_cons (ps_if (pt_cmpR op_notBl (pe_g g_asked_L hr (by decide) (by rfl) (pa_cons (pv 0) (pa_cons (pv 1) (pa_cons (pv 2) (pa_cons (pv 7) (pa_cons (pv 8) (pa_nil))))))) (pe_bl) (nomark _)) (pss_one (ps_ret (pe_bl))) (pss_nil)) (pss_cons (ps_if (pt_not (pt_val (pe_g g_could_be_L hr (by decide) (by rfl) (pa_cons (pv 0) (pa_cons (pv 1) (pa_cons (pv 2) (pa_cons (pv 7) (pa_cons (pv 8) (pa_nil))))))))) (pss_one (ps_ret (pe_bl))) (pss_nil)) (pss_cons (ps_for (passes_of rfl) rfl (pi_range1 (by rfl) (T.free 69) (pa_cons (pe_int) (pa_nil))) (pg_name (i := 10) nd rfl (by first | exact Or.inl rfl | exact Or.inr rfl)) (pss_cons (ps_asg (pe_g g_bent_L hr (by decide) (by rfl) (pa_cons (pv 0) (pa_cons (pe_slice sl_u (pv 3) (po_some (pe_op op_plus (pe_int) (pe_op op_times (pe_int) (pv 10)))) (po_none)) (pa_cons (pv 7) (pa_cons (pv 8) (pa_nil)))))) (pg_tup rfl (pgs_cons (pg_name (i := 11) nd rfl (by first | exact Or.inl rfl | exact Or.inr rfl)) (pgs_cons (pg_name (i := 12) nd rfl (by first | exact Or.inl rfl | exact Or.inr rfl)) (pgs_nil))))) (pss_cons (ps_set (i := 5) nd rfl (by first | exact Or.inl rfl | exact Or.inr rfl) (pe_g g_could_be_L hr (by decide) (by rfl) (pa_cons (pv 0) (pa_cons (pv 1) (pa_cons (pv 2) (pa_cons (pv 11) (pa_cons (pv 12) (pa_nil)))))))) (pss_one (ps_if (pt_cmpR (op_neU hu) (pe_g g_asked_L hr (by decide) (by rfl) (pa_cons (pv 0) (pa_cons (pv 1) (pa_cons (pv 2) (pa_cons (pv 11) (pa_cons (pv 12) (pa_nil))))))) (pv 5) (nomark _)) (pss_one (ps_ret (pe_bl))) (pss_nil)))))) (pss_one (ps_ret (pe_bl))))))))))))))
/-! #### law (level 13) -/
abbrev t_law (K : PySem.W.Frag) (q_form_L : Sp) (q_base_L : Sp) (q_drawn_L : Sp) (q_cell_L : Sp) (q_run_L : Sp) (q_cut_right_L : Sp) : TS := tSeq (tAsg (tCall q_form_L [] E0 (tCons (tVar 0) (tNil))) (gName 1)) (tSeq (tAsg (tCall q_base_L [] E0 (tCons (tVar 0) (tCons (tVar 1) (tNil)))) (gName 2)) (tSeq (tAsg (tCall q_drawn_L [] E0 (tCons (tCall q_cell_L [] E0 (tCons (tVar 0) (tCons (tC (.int 6)) (tNil)))) (tCons (tC (.int 20)) (tNil)))) (gName 3)) (tSeq (tAsg (tCall q_run_L [] E0 (tCons (tVar 1) (tCons (tVar 2) (tCons (tSl (rSlU K) (tVar 3) (tPart (tC (.int 1))) (tPart (tOp (rPlus K) (tC (.int 1)) (tOp (rModI) (tOp (rIx K) (tVar 3) (tC (.int 0))) (tC (.int 19)))))) (tNil))))) (gName 4)) (tSeq (tFor (iRng1 (tCons (tOp (rPlus K) (tC (.int 1)) (tCB (rMax2) (tCons (tC (.int 0)) (tCons (tCB (rMin2) (tCons (tC (.int 6)) (tCons (tOp (rSubI) (tCB (rLenU K) (tCons (tVar 0) (tNil))) (tC (.int 7))) (tNil)))) (tNil))))) (tNil))) (gName 5) (tIfS (tNot (tB (tCall q_cut_right_L [] E0 (tCons (tVar 1) (tCons (tVar 2) (tCons (tVar 4) (tCons (tCall q_drawn_L [] E0 (tCons (tCall q_cell_L [] E0 (tCons (tVar 0) (tCons (tOp (rPlus K) (tC (.int 7)) (tVar 5)) (tNil)))) (tCons (tC (.int 24)) (tNil)))) (tNil)))))))) (tRet (tC (.bl false))) (tNext))) (tRet (tC (.bl true)))))))
theorem dv_law {q_form_L : Sp} (g_form_L : Gv P w K mg base CX0 3 "_law_form" P_form_L q_form_L) {q_base_L : Sp} (g_base_L : Gv P w K mg base CX0 3 "_law_base" P_base_L q_base_L) {q_drawn_L : Sp} (g_drawn_L : Gv P w K mg base CX0 2 "_law_drawn" P_drawn_L q_drawn_L) {q_cell_L : Sp} (g_cell_L : Gv P w K mg base CX0 2 "_law_cell" P_cell_L q_cell_L) {q_run_L : Sp} (g_run_L : Gv P w K mg base CX0 5 "_law_run" P_run_L q_run_L) {q_cut_right_L : Sp} (g_cut_right_L : Gv P w K mg base CX0 12 "_law_cut_right" P_cut_right_L q_cut_right_L) (hr : Room 12 (A.deeper (envOfC qual (defScope s_law) s.heap.objs.size f cdv))) : PSs (cxOf CX0 P w K mg base N_law qual (defScope s_law) f cdv A outer s H E) (defBody s_law) (t_law K q_form_L q_base_L q_drawn_L q_cell_L q_run_L q_cut_right_L) := by
  have nd := sc_law.nd
  have hu := hr.units
  have hu1 := hu1_of hr.units
  exact pss_cons (ps_set (i := 1) nd rfl (by first | exact Or.inl rfl | exact Or.inr rfl) (pe_g g_form_L hr (by decide) (by rfl) (pa_cons (pv 0) (pa_nil)))) (pss_cons (ps_set (i := 2) nd rfl (by first | exact Or.inl rfl | exact Or.inr rfl) (pe_g g_base_L hr (by decide) (by rfl) (pa_cons (pv 0) (pa_cons (pv 1) (pa_nil))))) (pss_cons (ps_set (i := 3) nd rfl (by first | exact Or.inl rfl | exact Or.inr rfl) (pe_g g_drawn_L hr (by decide) (by rfl) (pa_cons (pe_g g_cell_L hr (by decide) (by rfl) (pa_cons (pv 0) (pa_cons (pe_int) (pa_nil)))) (pa_cons (pe_int) (pa_nil))))) (pss_cons (ps_set (i := 4) nd rfl (by first | exact Or.inl rfl | exact Or.inr rfl) (pe_g g_run_L hr (by decide) (by rfl) (pa_cons (pv 1) (pa_cons (pv 2) (pa_cons (pe_slice sl_u (pv 3) (po_some (pe_int)) (po_some (pe_op op_plus (pe_int) (pe_op op_mod (pe_ix ix_seq (pv 3) (pe_int) (fun _ _ => rfl)) (pe_int))))) (pa_nil)))))) (pss_cons (ps_for (passes_of rfl) rfl (pi_range1 (by rfl) (T.free 69) (pa_cons (pe_op op_plus (pe_int) (pe_callB (call_max2 rfl) (by rfl) (T.free 73) (by decide +kernel) (pa_cons (pe_int) (pa_cons (pe_callB (call_min2 rfl) (by rfl) (T.free 72) (by decide +kernel) (pa_cons (pe_int) (pa_cons (pe_op op_sub (pe_callB call_len (by rfl) (T.free 62) (by decide +kernel) (pa_cons (pv 0) (pa_nil))) (pe_int)) (pa_nil)))) (pa_nil))))) (pa_nil))) (pg_name (i := 5) nd rfl (by first | exact Or.inl rfl | exact Or.inr rfl)) (pss_one (ps_if (pt_not (pt_val (pe_g g_cut_right_L hr (by decide) (by rfl) (pa_cons (pv 1) (pa_cons (pv 2) (pa_cons (pv 4) (pa_cons (pe_g g_drawn_L hr (by decide) (by rfl) (pa_cons (pe_g g_cell_L hr (by decide) (by rfl) (pa_cons (pv 0) (pa_cons (pe_op op_plus (pe_int) (pv 5)) (pa_nil)))) (pa_cons (pe_int) (pa_nil)))) (pa_nil)))))))) (pss_one (ps_ret (pe_bl))) (pss_nil)))) (pss_one (ps_ret (pe_bl)))))))
end
end Ct

/-! # CtRz -/
namespace Ct
open PySem PySem.Spec PyProof.Rows L2 Evl
/-! ### the error class -/
section
variable {P : Program} {w : World} {K : PySem.W.Frag} {mg : Str → Option Value} {base : Heap}
structure ExF (K : PySem.W.Frag) : Prop where
  oex : OexC K (gaN K)
  bi : BInit K (gaC K)
  ec : ExcC K (gaN K)
  iC : PySem.W.findIn K (.ref (gaN K)) "__init__" = some (some (.ref (He.ma K (gaN K) "__init__")))
  tI : PySem.W.typeIn K (.ref (He.ma K (gaN K) "__init__")) = some (.type "function")
  kt : PySem.W.kitOne K (.ref (gaN K)) (.ref (gaN K)) = some true
theorem exf_of (h : exB K = true) : ExF K := by
  unfold exB at h
  simp only [Bool.and_eq_true, decide_eq_true_eq] at h
  obtain ⟨h1, h2, h3, h4, h5, h6, h7, h8, h9, h10, h11, h12, h13, h14, h15, h16, h17, h18⟩ := h
  exact ⟨⟨oexB_ok h10, He.eqO_ok h1, h2, h3, h4⟩, ⟨h7, He.eqO_ok h8, initB_ok h9⟩, ⟨He.eqO_ok h11, He.eqO_ok h12, h2, h13, He.eqO_ok h14, He.eqO_ok h15, h16, h17⟩, He.eqO_ok h5, h6, h18⟩
theorem Tz.ef (T : Tz K mg) : ExF K := exf_of T.xb
theorem Tz.te (T : Tz K mg) : PySem.W.exmOne K (.ref (gaN K)) (.ref (gaC K)) = some true := He.exm_ok (T.d.fact 79 (f := .exm "NoCut" "CutError" true) rfl)
theorem Tz.np (T : Tz K mg) : PySem.W.findIn K (.ref (gaN K)) "place" = some none := He.noat_ok (T.d.fact 80 (f := .noat "NoCut" "place") rfl)
theorem Tz.nw (T : Tz K mg) : PySem.W.findIn K (.ref (gaN K)) "word" = some none := He.noat_ok (T.d.fact 81 (f := .noat "NoCut" "word") rfl)
def exEnd (H : Hp) (a C dx : Addr) (x y : V) : Hp := upd (upd (upd H dx (exd dx [("place", x)])) a (exo a C (some dx))) dx (exd dx [("word", y), ("place", x)])
def spInit (K : PySem.W.Frag) : Sp := fun vs H Q _ => ∃ (a : Addr) (x y : V), vs = [.ref a, x, y] ∧ H a = some (exo a (gaN K) none) ∧ ∀ dx, H dx = none → dx ≠ a → Q .non (exEnd H a (gaN K) dx x y)
abbrev N_NoCut_init : List Str := ["self", "place", "word"]
theorem sc_NoCut_init : FnScope N_NoCut_init N_NoCut_init (defScope s_NoCut_init) := ⟨rfl, rfl, rfl, by decide +kernel, rfl, by decide +kernel, by decide +kernel⟩
theorem ok_init (T : Tz K mg) : ∃ fd, FnOk P w K mg base CX0 1 (He.ma K (gaN K) "__init__") fd N_NoCut_init (spInit K) ∧ Binds K fd N_NoCut_init [] := by
  obtain ⟨fd, F⟩ := T.d.def_ 59 (d := d_NoCut_init) rfl
  have F : FunD K "__init__" "NoCut.__init__" (defArgs s_NoCut_init) (defBody s_NoCut_init) (defScope s_NoCut_init) [] [] (He.ma K (gaN K) "__init__") fd := F
  refine ⟨fd, F.ok sc_NoCut_init (fun vs H Q E h => ?_) fun cdv A outer s H vs Q E hr h => ?_, F.bindsN fun _ _ _ _ _ _ us hl => match us, hl with | [_, _, _], _ => rfl⟩
  · obtain ⟨a, x, y, rfl, _⟩ := h
    rfl
  · refine ⟨tSeq (tDrop (tVeI K (tCons (tVar 0) (tCons (tC (.str "no right cut")) tNil)))) (tSeq (tOst K "place" (tVar 0) (tVar 1)) (tOst K "word" (tVar 0) (tVar 2))), ?_, ?_⟩
    · exact pss_cons (ps_expr (pe_binit (pl := _) (by rfl) (T.glo 59 (x := "CutError")) T.ef.bi (pa_cons (pv 0) (pa_cons pe_str pa_nil)))) (pss_cons (ps_ost (pv 0) (pv 1)) (pss_one (ps_ost (pv 0) (pv 2))))
    · obtain ⟨a, x, y, rfl, ha, hq⟩ := h
      refine ⟨.ref a, rfl, a, gaN K, [_], rfl, by simp, T.ef.oex, ha, ?_⟩
      refine ⟨x, rfl, .ref a, rfl, a, gaN K, rfl, T.ef.oex, T.np, Or.inl ⟨ha, fun dx hd hne => ?_⟩⟩
      refine ⟨y, rfl, .ref a, rfl, a, gaN K, rfl, T.ef.oex, T.nw, Or.inr ⟨dx, [("place", x)], upd_same, ?_, by simp, hq dx hd hne⟩⟩
      rw [upd_ne hne]
      exact upd_same
def tRz (K : PySem.W.Frag) (E : XK) (ta : TA) : TS := fun _ σ H => tMkO (gaN K) (spInit K) [] ta σ H E
theorem ps_rz {X : Cx} (T : Tz X.K X.mg) {E : XK} (tk : Takes X (fun cls d _ H => E cls d H)) {k : Nat} (hr : Room k X.A) (hk : 2 ≤ k) {e : Expr} {es : List Expr} {ta : TA} {p pos pos' : Pos} (hc : X.calm = true) (hg : Gl X "NoCut") (ha : PA X (e :: es) ta)
    (he : starEach (e :: es) X.env = (false, eval e X.env) :: starEach es X.env := by rfl) (hpl : (backTo pos (starEach es X.env)).any (·.1) = false := by rfl) :
    PS X (.Raise (some (.Call (.Name "NoCut" p) (e :: es) [] pos)) none pos') (tRz X.K E ta) := by
  obtain ⟨fd, F, b⟩ := ok_init (P := X.prog) (w := X.w) (base := X.base) T
  exact ps_raise hc tk (pmk_oex T.ef.oex T.ef.iC T.ef.tI F (hr.mono hk) b .nil pass0 hg (T.glo 60 (x := "NoCut")) ha (by decide) he hpl)
theorem del_upd_ex {H : Hp} {a C dx : Addr} {x y : V} (na : H a = none) (nd : H dx = none) (hne : dx ≠ a) : Ex H (upd (del (exEnd (upd H a (exo a C none)) a C dx x y) a) dx (.xd [("word", y), ("place", x)])) := fun b o hb => by
  have h1 : b ≠ a := ne_of_none hb na
  have h2 : b ≠ dx := ne_of_none hb nd
  rw [upd_ne h2, del_ne h1]
  unfold exEnd
  rw [upd_ne h2, upd_ne h1, upd_ne h2, upd_ne h1]
  exact hb
theorem s_rz {E : XK} {ta : TA} {σ : L2.St} {H : Hp} {D : Ends} {d1 d2 : PyData} (h : YA K ta σ H [d1, d2]) (k : ∀ d H', Ex H H' → (∃ fs, H' d = some (.xd fs)) → E (.ref (gaN K)) (some d) H') : tRz K E ta D σ H := h H (Ex.refl H) _ fun vs H1 x hi => by
  obtain ⟨v1, r1, rfl, _, v2, r2, rfl, _, rfl⟩ := hi
  refine ⟨by simp, fun a na => ⟨a, v1, v2, rfl, upd_same, fun dx hd hne => ?_⟩⟩
  have hd' : H1 dx = none := by rw [upd_ne hne] at hd; exact hd
  refine ⟨rfl, dx, [("word", v2), ("place", v1)], ?_, ?_, hd', k dx _ (x.trans (del_upd_ex na hd' hne)) ⟨_, upd_same⟩⟩
  · unfold exEnd
    rw [upd_ne (Ne.symm hne)]
    exact upd_same
  · unfold exEnd
    exact upd_same
/-- the promise of a def that may raise -/
def PSpX (K : PySem.W.Frag) (G : List PyData → (PyData → Prop) → Prop → Prop) : Sp := fun vs H Q E => ∃ ds R N, IsDs K H ds vs ∧ G ds R N ∧ (∀ d v H', Ex H H' → IsD K H' d v → R d → Q v H') ∧ (N → ∀ d H', Ex H H' → (∃ fs, H' d = some (.xd fs)) → E (.ref (gaN K)) (some d) H')
theorem pspx_len {G : List PyData → (PyData → Prop) → Prop → Prop} {n : Nat} (hn : ∀ ds R N, G ds R N → ds.length = n) (vs : List V) (H : Hp) (Q : VK) (E : XK) (h : PSpX K G vs H Q E) : vs.length = n := by
  obtain ⟨ds, R, N, hi, hg, _⟩ := h
  rw [hi.length]
  exact hn ds R N hg
theorem pe_gx {X : Cx} {k k' : Nat} {x : Str} {ps : List Str} {sp : Sp} {e : Expr} {es : List Expr} {t : TA} {p pos : Pos} {E : XK} (G : Gv X.prog X.w X.K X.mg X.base (CX X.prog X.w) k x ps sp) (hr : Room k' X.A) (hle : k ≤ k') (hg : Gl X x) (tk : Takes X (fun cls d _ H => E cls d H)) (ha : PA X (e :: es) t)
    (hdb : (x == ("__debug__" : Str)) = false := by decide) (he : starEach (e :: es) X.env = (false, eval e X.env) :: starEach es X.env := by rfl) (hpl : (backTo pos (starEach es X.env)).any (·.1) = false := by rfl) :
    PE X (.Call (.Name x p) (e :: es) [] pos) (tCall sp [] E t) := by
  obtain ⟨fd, F, b, kp, gm⟩ := G
  exact pe_call F (hr.mono hle) hg gm kp b .nil (passes_call tk fun _ _ _ _ h => h) ha hdb he hpl
/-- what a try wishes, of slots of length n -/
def EW (n : Nat) (W : WX) : XK := fun cls d H => ∀ σ : L2.St, σ.length = n → W cls d σ H
theorem pe_gt {X : Cx} {k k' : Nat} {x : Str} {ps : List Str} {sp : Sp} {e : Expr} {es : List Expr} {t : TA} {p pos : Pos} {W : WX} {n : Nat} (G : Gv X.prog X.w X.K X.mg X.base (CX X.prog X.w) k x ps sp) (hr : Room k' X.A) (hle : k ≤ k') (hg : Gl X x) (tk : Takes X W) (hn : X.N.length = n) (ha : PA X (e :: es) t)
    (hdb : (x == ("__debug__" : Str)) = false := by decide) (he : starEach (e :: es) X.env = (false, eval e X.env) :: starEach es X.env := by rfl) (hpl : (backTo pos (starEach es X.env)).any (·.1) = false := by rfl) :
    PE X (.Call (.Name x p) (e :: es) [] pos) (tCall sp [] (EW n W) t) := by
  obtain ⟨fd, F, b, kp, gm⟩ := G
  exact pe_call F (hr.mono hle) hg gm kp b .nil (fun _ σ _ _ e' s' I c => tk e' s' (XE.of_call I (fun cls d H' h => h σ (I.len.trans hn)) c)) ha hdb he hpl
end
end Ct

/-! # CtDx -/
namespace Ct
open PySem PySem.Spec PyProof.Rows L2 Evl
/-- the suite: found = False if isinstance(e, NoCut) else None -/
def tSuite (K : PySem.W.Frag) (jf je : Nat) (a : Addr) (cls : Value) (d : Option Addr) : TS := fun D σ H => ∃ dd, cls = .ref (gaN K) ∧ d = some dd ∧
  tAsg (tIf (tB (tCB (fun xs H Q => ∃ (c : V) (cv : Value) (b : Bool) (fs : List (Str × V)), H dd = some (.xd fs) ∧ xs = [.ref a, c] ∧ (∀ u, RelV c u → u = cv) ∧ PySem.W.kitOne K (.ref (gaN K)) cv = some b ∧ Q (.bl b) H) (tCons (tVar je) (tCons (tC (.ref (gaN K))) tNil)))) (tC (.bl false)) (tC .non)) (gName jf) D σ H
def tTry (K : PySem.W.Frag) (jf je n : Nat) (q : Sp) (ta : TA) : TS := fun D σ H => tAsg (tCall q [] (EW n (wAs K (.ref (gaC K)) je (tSuite K jf je) (fun _ _ _ _ => False) D)) ta) (gName jf) D σ H
theorem takesN {X : Cx} : Takes X fun _ _ _ _ => False := fun _ _ ⟨_, _, _, _, _, _, _, _, _, _, _, _, _, _, _, _, z⟩ => z.elim
section
variable {P : Program} {w : World} {K : PySem.W.Frag} {mg : Str → Option Value} {base : Heap} (T : Tz K mg) {qual : Str} {f : Addr} {cdv : Value} {A : Around} {outer : List Env} {s : Shared} {H : Hp} {E : XK}
include T
/-! #### right_cut (level 10) -/
abbrev t_right_cut (K : PySem.W.Frag) (E : XK) (q_ends_of_run : Sp) (q_are_wholes : Sp) (q_first_come_unsent : Sp) : TS := tSeq (tAsg (tCall q_ends_of_run [] E0 (tCons (tVar 0) (tCons (tVar 2) (tNil)))) (gName 4)) (tSeq (tIfS (tNot (tB (tCall q_are_wholes [] E0 (tCons (tVar 3) (tCons (tCB (rLenU K) (tCons (tVar 4) (tNil))) (tNil)))))) (tRz K E (tCons (tC (.int 0)) (tCons (tC (.str "shape")) (tNil)))) (tNext)) (tSeq (tFor (iRng1 (tCons (tCB (rLenU K) (tCons (tVar 4) (tNil))) (tNil))) (gName 5) (tIfS (tOr (tTest (tOp rLtI (tOp (rIx K) (tVar 3) (tVar 5)) (tC (.int 0)))) (tTest (tOp rGtI (tOp (rIx K) (tVar 3) (tVar 5)) (tOp (rIx K) (tVar 4) (tVar 5))))) (tRz K E (tCons (tVar 5) (tCons (tC (.str "far")) (tNil)))) (tNext))) (tSeq (tAsg (tCall q_first_come_unsent [] E0 (tCons (tVar 0) (tCons (tVar 1) (tCons (tVar 2) (tCons (tVar 3) (tNil)))))) (gName 5)) (tSeq (tIfS (tTest (tOp rNotNo (tVar 5) (tC .non))) (tRz K E (tCons (tVar 5) (tCons (tC (.str "came")) (tNil)))) (tNext)) (tRet (tC (.bl true)))))))
theorem dv_right_cut {q_ends_of_run : Sp} (g_ends_of_run : Gv P w K mg base CX0 3 "ends_of_run" P_ends_of_run q_ends_of_run) {q_are_wholes : Sp} (g_are_wholes : Gv P w K mg base CX0 2 "are_wholes" P_are_wholes q_are_wholes) {q_first_come_unsent : Sp} (g_first_come_unsent : Gv P w K mg base CX0 9 "first_come_unsent" P_first_come_unsent q_first_come_unsent) (hr : Room 9 (A.deeper (envOfC qual (defScope s_right_cut) s.heap.objs.size f cdv))) : PSs (cxOf (CX P w) P w K mg base N_right_cut qual (defScope s_right_cut) f cdv A outer s H E) (defBody s_right_cut) (t_right_cut K E q_ends_of_run q_are_wholes q_first_come_unsent) := by
  have nd := sc_right_cut.nd
  have hu := hr.units
  have hu1 := hu1_of hr.units
  have tk : Takes (cxOf (CX P w) P w K mg base N_right_cut qual (defScope s_right_cut) f cdv A outer s H E) (fun cls d _ H => E cls d H) := takes_of rfl rfl rfl rfl
  exact pss_cons (ps_set (i := 4) nd rfl (by first | exact Or.inl rfl | exact Or.inr rfl) (pe_g g_ends_of_run hr (by decide) (by rfl) (pa_cons (pv 0) (pa_cons (pv 2) (pa_nil))))) (pss_cons (ps_if (pt_not (pt_val (pe_g g_are_wholes hr (by decide) (by rfl) (pa_cons (pv 3) (pa_cons (pe_callB call_len (by rfl) (T.free 62) (by decide +kernel) (pa_cons (pv 4) (pa_nil))) (pa_nil)))))) (pss_one (ps_rz T tk hr (by decide) rfl (by rfl) (pa_cons (pe_int) (pa_cons (pe_str) (pa_nil))))) (pss_nil)) (pss_cons (ps_for (passes_of rfl) rfl (pi_range1 (by rfl) (T.free 69) (pa_cons (pe_callB call_len (by rfl) (T.free 62) (by decide +kernel) (pa_cons (pv 4) (pa_nil))) (pa_nil))) (pg_name (i := 5) nd rfl (by first | exact Or.inl rfl | exact Or.inr rfl)) (pss_one (ps_if ((pw_or (pt_cmpR op_lt (pe_ix ix_seq (pv 3) (pv 5) (fun _ _ => rfl)) (pe_int) (nomark _)) (pw_or1 (pt_cmpR op_gt (pe_ix ix_seq (pv 3) (pv 5) (fun _ _ => rfl)) (pe_ix ix_seq (pv 4) (pv 5) (fun _ _ => rfl)) (nomark _)))).pt) (pss_one (ps_rz T tk hr (by decide) rfl (by rfl) (pa_cons (pv 5) (pa_cons (pe_str) (pa_nil))))) (pss_nil)))) (pss_cons (ps_set (i := 5) nd rfl (by first | exact Or.inl rfl | exact Or.inr rfl) (pe_g g_first_come_unsent hr (by decide) (by rfl) (pa_cons (pv 0) (pa_cons (pv 1) (pa_cons (pv 2) (pa_cons (pv 3) (pa_nil))))))) (pss_cons (ps_if (pt_cmpR op_notN (pv 5) (pe_non) (nomark _)) (pss_one (ps_rz T tk hr (by decide) rfl (by rfl) (pa_cons (pv 5) (pa_cons (pe_str) (pa_nil))))) (pss_nil)) (pss_one (ps_ret (pe_bl)))))))
/-! #### asked_shape (level 3) -/
abbrev t_asked_shape (K : PySem.W.Frag) (E : XK) (q_is_whole_cuts : Sp) : TS := tSeq (tIfS (tOr (tNot (tB (tCB (rIsi K) (tCons (tVar 0) (tCons (tC (.ty "tuple")) (tNil)))))) (tOr (tTest (tOp (rNeU K) (tCB (rLenU K) (tCons (tVar 0) (tNil))) (tC (.int 2)))) (tOr (tNot (tB (tCB (rIsi K) (tCons (tOp (rIx K) (tVar 0) (tC (.int 0))) (tCons (tC (.ty "tuple")) (tNil)))))) (tNot (tB (tCall q_is_whole_cuts [] E0 (tCons (tOp (rIx K) (tVar 0) (tC (.int 1))) (tNil)))))))) (tRz K E (tCons (tC (.int 0)) (tCons (tC (.str "shape")) (tNil)))) (tNext)) (tIfS (tNot (tB (tCB (rAll K) (tCons (tLc (iTup K (tOp (rIx K) (tVar 0) (tC (.int 0)))) (gName 1) (tYes) (tCall q_is_whole_cuts [] E0 (tCons (tVar 1) (tNil))) [1]) (tNil))))) (tRz K E (tCons (tC (.int 0)) (tCons (tC (.str "shape")) (tNil)))) (tNext))
theorem dv_asked_shape {q_is_whole_cuts : Sp} (g_is_whole_cuts : Gv P w K mg base CX0 1 "is_whole_cuts" P_is_whole_cuts q_is_whole_cuts) (hr : Room 2 (A.deeper (envOfC qual (defScope s_asked_shape) s.heap.objs.size f cdv))) : PSs (cxOf (CX P w) P w K mg base N_asked_shape qual (defScope s_asked_shape) f cdv A outer s H E) (defBody s_asked_shape) (t_asked_shape K E q_is_whole_cuts) := by
  have nd := sc_asked_shape.nd
  have hu := hr.units
  have hu1 := hu1_of hr.units
  have tk : Takes (cxOf (CX P w) P w K mg base N_asked_shape qual (defScope s_asked_shape) f cdv A outer s H E) (fun cls d _ H => E cls d H) := takes_of rfl rfl rfl rfl
  exact pss_cons (ps_if ((pw_or (pt_not (pt_val (pe_callB call_isi (by rfl) (T.free 61) (by decide +kernel) (pa_cons (pv 0) (pa_cons (pe_bltn (v := .ty "tuple") (by rfl) (T.free 67) (by decide +kernel) rfl) (pa_nil)))))) (pw_or (pt_cmpR (op_neU hu) (pe_callB call_len (by rfl) (T.free 62) (by decide +kernel) (pa_cons (pv 0) (pa_nil))) (pe_int) (nomark _)) (pw_or (pt_not (pt_val (pe_callB call_isi (by rfl) (T.free 61) (by decide +kernel) (pa_cons (pe_ix ix_seq (pv 0) (pe_int) (fun _ _ => rfl)) (pa_cons (pe_bltn (v := .ty "tuple") (by rfl) (T.free 67) (by decide +kernel) rfl) (pa_nil)))))) (pw_or1 (pt_not (pt_val (pe_g g_is_whole_cuts hr (by decide) (by rfl) (pa_cons (pe_ix ix_seq (pv 0) (pe_int) (fun _ _ => rfl)) (pa_nil))))))))).pt) (pss_one (ps_rz T tk hr (by decide) rfl (by rfl) (pa_cons (pe_int) (pa_cons (pe_str) (pa_nil))))) (pss_nil)) (pss_one (ps_if (pt_not (pt_val (pe_callB (cr_all rfl) (by rfl) (T.free 63) (by decide +kernel) (pa_cons (pe_lc (own := [("number", 1)]) rfl nd (pi_tup (pe_ix ix_seq (pv 0) (pe_int) (fun _ _ => rfl))) (blkOk_by (own := [("number", 1)]) (N := N_asked_shape) (sc := defScope s_asked_shape) (by decide +kernel)) (fun _ _ _ _ _ => pg_name (i := 1) nd rfl (by first | exact Or.inl rfl | exact Or.inr rfl)) (fun _ _ _ _ _ => pts_nil) (fun _ _ _ _ _ => pe_g g_is_whole_cuts hr (by decide) (by rfl) (pa_cons (pv 1) (pa_nil)))) (pa_nil))))) (pss_one (ps_rz T tk hr (by decide) rfl (by rfl) (pa_cons (pe_int) (pa_cons (pe_str) (pa_nil))))) (pss_nil)))
/-! #### asked_order (level 3) -/
abbrev t_asked_order (K : PySem.W.Frag) (E : XK) (q_events_of : Sp) : TS := tSeq (tAsg (tCall q_events_of [] E0 (tCons (tVar 0) (tCons (tVar 1) (tNil)))) (gName 3)) (tSeq (tAsg (tOp (rTimes K) (tLst (tCons (tC (.int 0)) (tNil))) (tCB (rLenU K) (tCons (tOp (rIx K) (tVar 0) (tC (.int 0))) (tNil)))) (gName 4)) (tSeq (tFor (iEnumT K (tCons (tVar 2) (tNil))) (gTup K 2 (gCons (gName 5) (gCons (gName 6) (gNil)))) (tSeq (tIfS (tOr (tTest (tOp rLtI (tVar 6) (tC (.int 0)))) (tOr (tTest (tOp rGeI (tVar 6) (tCB (rLenU K) (tCons (tVar 3) (tNil))))) (tTest (tOp (rNeU K) (tOp (rIx K) (tOp (rIx K) (tVar 3) (tVar 6)) (tC (.int 1))) (tOp (rIx K) (tVar 4) (tOp (rIx K) (tOp (rIx K) (tVar 3) (tVar 6)) (tC (.int 0)))))))) (tRz K E (tCons (tVar 5) (tCons (tC (.str "order")) (tNil)))) (tNext)) (tAsg (tOp (rPlus K) (tOp (rIx K) (tVar 4) (tOp (rIx K) (tOp (rIx K) (tVar 3) (tVar 6)) (tC (.int 0)))) (tC (.int 1))) (gSub (tVar 4) (tOp (rIx K) (tOp (rIx K) (tVar 3) (tVar 6)) (tC (.int 0))) rSetL)))) (tIfS (tTest (tOp rLtI (tCB (rLenU K) (tCons (tVar 2) (tNil))) (tCB (rLenU K) (tCons (tVar 3) (tNil))))) (tRz K E (tCons (tCB (rLenU K) (tCons (tVar 2) (tNil))) (tCons (tC (.str "order")) (tNil)))) (tNext))))
theorem dv_asked_order {q_events_of : Sp} (g_events_of : Gv P w K mg base CX0 2 "events_of" P_events_of q_events_of) (hr : Room 2 (A.deeper (envOfC qual (defScope s_asked_order) s.heap.objs.size f cdv))) : PSs (cxOf (CX P w) P w K mg base N_asked_order qual (defScope s_asked_order) f cdv A outer s H E) (defBody s_asked_order) (t_asked_order K E q_events_of) := by
  have nd := sc_asked_order.nd
  have hu := hr.units
  have hu1 := hu1_of hr.units
  have tk : Takes (cxOf (CX P w) P w K mg base N_asked_order qual (defScope s_asked_order) f cdv A outer s H E) (fun cls d _ H => E cls d H) := takes_of rfl rfl rfl rfl
  exact pss_cons (ps_set (i := 3) nd rfl (by first | exact Or.inl rfl | exact Or.inr rfl) (pe_g g_events_of hr (by decide) (by rfl) (pa_cons (pv 0) (pa_cons (pv 1) (pa_nil))))) (pss_cons (ps_set (i := 4) nd rfl (by first | exact Or.inl rfl | exact Or.inr rfl) (pe_op op_times (pe_lst (pa_cons (pe_int) (pa_nil))) (pe_callB call_len (by rfl) (T.free 62) (by decide +kernel) (pa_cons (pe_ix ix_seq (pv 0) (pe_int) (fun _ _ => rfl)) (pa_nil))))) (pss_cons (ps_for (passes_of rfl) rfl (pi_enumT (by rfl) (T.free 71) (pa_cons (pv 2) (pa_nil))) (pg_tup rfl (pgs_cons (pg_name (i := 5) nd rfl (by first | exact Or.inl rfl | exact Or.inr rfl)) (pgs_cons (pg_name (i := 6) nd rfl (by first | exact Or.inl rfl | exact Or.inr rfl)) (pgs_nil)))) (pss_cons (ps_if ((pw_or (pt_cmpR op_lt (pv 6) (pe_int) (nomark _)) (pw_or (pt_cmpR op_ge (pv 6) (pe_callB call_len (by rfl) (T.free 62) (by decide +kernel) (pa_cons (pv 3) (pa_nil))) (nomark _)) (pw_or1 (pt_cmpR (op_neU hu) (pe_ix ix_seq (pe_ix ix_seq (pv 3) (pv 6) (fun _ _ => rfl)) (pe_int) (fun _ _ => rfl)) (pe_ix ix_seq (pv 4) (pe_ix ix_seq (pe_ix ix_seq (pv 3) (pv 6) (fun _ _ => rfl)) (pe_int) (fun _ _ => rfl)) (fun _ _ => rfl)) (nomark _))))).pt) (pss_one (ps_rz T tk hr (by decide) rfl (by rfl) (pa_cons (pv 5) (pa_cons (pe_str) (pa_nil))))) (pss_nil)) (pss_one (ps_asg (pe_op op_plus (pe_ix ix_seq (pv 4) (pe_ix ix_seq (pe_ix ix_seq (pv 3) (pv 6) (fun _ _ => rfl)) (pe_int) (fun _ _ => rfl)) (fun _ _ => rfl)) (pe_int)) (pg_sub (pv 4) (pe_ix ix_seq (pe_ix ix_seq (pv 3) (pv 6) (fun _ _ => rfl)) (pe_int) (fun _ _ => rfl)) set_list))))) (pss_one (ps_if (pt_cmpR op_lt (pe_callB call_len (by rfl) (T.free 62) (by decide +kernel) (pa_cons (pv 2) (pa_nil))) (pe_callB call_len (by rfl) (T.free 62) (by decide +kernel) (pa_cons (pv 3) (pa_nil))) (nomark _)) (pss_one (ps_rz T tk hr (by decide) rfl (by rfl) (pa_cons (pe_callB call_len (by rfl) (T.free 62) (by decide +kernel) (pa_cons (pv 2) (pa_nil))) (pa_cons (pe_str) (pa_nil))))) (pss_nil)))))
/-! #### way_asked (level 6) -/
abbrev t_way_asked (K : PySem.W.Frag) (E : XK) (q_asked_shape : Sp) (q_asked_order : Sp) (q_can : Sp) (q_done : Sp) (q_right_stand : Sp) : TS := tSeq (tDrop (tCall q_asked_shape [] E (tCons (tVar 4) (tNil)))) (tSeq (tAsg (tVar 4) (gTup K 2 (gCons (gName 5) (gCons (gName 6) (gNil))))) (tSeq (tDrop (tCall q_asked_order [] E (tCons (tVar 0) (tCons (tVar 2) (tCons (tVar 5) (tNil)))))) (tSeq (tIfS (tOr (tTest (tOp rLtI (tVar 6) (tC (.int 0)))) (tTest (tOp rGtI (tVar 6) (tCB (rLenU K) (tCons (tVar 5) (tNil)))))) (tRz K E (tCons (tC (.int 0)) (tCons (tC (.str "many")) (tNil)))) (tNext)) (tSeq (tAsg (tLst (tCons (tVar 1) (tNil))) (gName 7)) (tSeq (tFor (iEnumT K (tCons (tVar 5) (tNil))) (gTup K 2 (gCons (gName 8) (gCons (gName 9) (gNil)))) (tSeq (tIfS (tNot (tB (tCall q_can [] E0 (tCons (tVar 0) (tCons (tOp (rIx K) (tVar 7) (tVar 8)) (tCons (tOp (rIx K) (tVar 2) (tVar 9)) (tNil))))))) (tRz K E (tCons (tVar 8) (tCons (tC (.str "deed")) (tNil)))) (tNext)) (tDrop (tBM K "list" rAppend (tVar 7) (tCons (tOp (rIx K) (tCall q_done [] E0 (tCons (tVar 0) (tCons (tOp (rIx K) (tVar 7) (tVar 8)) (tCons (tOp (rIx K) (tVar 2) (tVar 9)) (tNil))))) (tC (.int 0))) (tNil)))))) (tSeq (tIfS (tOr (tNot (tB (tCall q_right_stand [] E0 (tCons (tVar 0) (tCons (tVar 3) (tNil)))))) (tTest (tOp (rNeU K) (tOp (rIx K) (tVar 7) (tVar 6)) (tVar 3)))) (tRz K E (tCons (tVar 6) (tCons (tC (.str "stand")) (tNil)))) (tNext)) (tRet (tC (.bl true)))))))))
theorem dv_way_asked {q_asked_shape : Sp} (g_asked_shape : Gv P w K mg base (CX P w) 3 "asked_shape" P_asked_shape q_asked_shape) {q_asked_order : Sp} (g_asked_order : Gv P w K mg base (CX P w) 3 "asked_order" P_asked_order q_asked_order) {q_can : Sp} (g_can : Gv P w K mg base CX0 4 "can" P_can q_can) {q_done : Sp} (g_done : Gv P w K mg base CX0 5 "done" P_done q_done) {q_right_stand : Sp} (g_right_stand : Gv P w K mg base CX0 5 "right_stand" P_right_stand q_right_stand) (hr : Room 5 (A.deeper (envOfC qual (defScope s_way_asked) s.heap.objs.size f cdv))) : PSs (cxOf (CX P w) P w K mg base N_way_asked qual (defScope s_way_asked) f cdv A outer s H E) (defBody s_way_asked) (t_way_asked K E q_asked_shape q_asked_order q_can q_done q_right_stand) := by
  have nd := sc_way_asked.nd
  have hu := hr.units
  have hu1 := hu1_of hr.units
  have tk : Takes (cxOf (CX P w) P w K mg base N_way_asked qual (defScope s_way_asked) f cdv A outer s H E) (fun cls d _ H => E cls d H) := takes_of rfl rfl rfl rfl
  exact pss_cons (ps_expr (pe_gx g_asked_shape hr (by decide) (by rfl) tk (pa_cons (pv 4) (pa_nil)))) (pss_cons (ps_asg (pv 4) (pg_tup rfl (pgs_cons (pg_name (i := 5) nd rfl (by first | exact Or.inl rfl | exact Or.inr rfl)) (pgs_cons (pg_name (i := 6) nd rfl (by first | exact Or.inl rfl | exact Or.inr rfl)) (pgs_nil))))) (pss_cons (ps_expr (pe_gx g_asked_order hr (by decide) (by rfl) tk (pa_cons (pv 0) (pa_cons (pv 2) (pa_cons (pv 5) (pa_nil)))))) (pss_cons (ps_if ((pw_or (pt_cmpR op_lt (pv 6) (pe_int) (nomark _)) (pw_or1 (pt_cmpR op_gt (pv 6) (pe_callB call_len (by rfl) (T.free 62) (by decide +kernel) (pa_cons (pv 5) (pa_nil))) (nomark _)))).pt) (pss_one (ps_rz T tk hr (by decide) rfl (by rfl) (pa_cons (pe_int) (pa_cons (pe_str) (pa_nil))))) (pss_nil)) (pss_cons (ps_set (i := 7) nd rfl (by first | exact Or.inl rfl | exact Or.inr rfl) (pe_lst (pa_cons (pv 1) (pa_nil)))) (pss_cons (ps_for (passes_of rfl) rfl (pi_enumT (by rfl) (T.free 71) (pa_cons (pv 5) (pa_nil))) (pg_tup rfl (pgs_cons (pg_name (i := 8) nd rfl (by first | exact Or.inl rfl | exact Or.inr rfl)) (pgs_cons (pg_name (i := 9) nd rfl (by first | exact Or.inl rfl | exact Or.inr rfl)) (pgs_nil)))) (pss_cons (ps_if (pt_not (pt_val (pe_g g_can hr (by decide) (by rfl) (pa_cons (pv 0) (pa_cons (pe_ix ix_seq (pv 7) (pv 8) (fun _ _ => rfl)) (pa_cons (pe_ix ix_seq (pv 2) (pv 9) (fun _ _ => rfl)) (pa_nil))))))) (pss_one (ps_rz T tk hr (by decide) rfl (by rfl) (pa_cons (pv 8) (pa_cons (pe_str) (pa_nil))))) (pss_nil)) (pss_one (ps_expr (pe_bm PySem.F.plainAttrs_list PySem.F.slot_list_append PySem.F.type_list_append mt_append (pv 7) (pa_cons (pe_ix ix_seq (pe_g g_done hr (by decide) (by rfl) (pa_cons (pv 0) (pa_cons (pe_ix ix_seq (pv 7) (pv 8) (fun _ _ => rfl)) (pa_cons (pe_ix ix_seq (pv 2) (pv 9) (fun _ _ => rfl)) (pa_nil))))) (pe_int) (fun _ _ => rfl)) (pa_nil))))))) (pss_cons (ps_if ((pw_or (pt_not (pt_val (pe_g g_right_stand hr (by decide) (by rfl) (pa_cons (pv 0) (pa_cons (pv 3) (pa_nil)))))) (pw_or1 (pt_cmpR (op_neU hu) (pe_ix ix_seq (pv 7) (pv 6) (fun _ _ => rfl)) (pv 3) (nomark _)))).pt) (pss_one (ps_rz T tk hr (by decide) rfl (by rfl) (pa_cons (pv 6) (pa_cons (pe_str) (pa_nil))))) (pss_nil)) (pss_one (ps_ret (pe_bl)))))))))
/-! #### asked_L (level 7) -/
abbrev t_asked_L (K : PySem.W.Frag) (q : Sp) : TS := tSeq (tAsg (tC .non) (gName 5)) (tSeq (tTry K 5 6 7 q (tCons (tVar 0) (tCons (tVar 1) (tCons (tVar 2) (tCons (tVar 3) (tCons (tVar 4) (tNil))))))) (tRet (tVar 5)))
theorem dv_asked_L {q : Sp} (g : Gv P w K mg base (CX P w) 6 "way_asked" P_way_asked q) (hr : Room 6 (A.deeper (envOfC qual (defScope s_asked_L) s.heap.objs.size f cdv))) : PSs (cxOf CX0 P w K mg base N_asked_L qual (defScope s_asked_L) f cdv A outer s H E) (defBody s_asked_L) (t_asked_L K q) := by
  have nd := sc_asked_L.nd
  refine pss_cons (ps_set (i := 5) nd rfl (Or.inl rfl) pe_non) (pss_cons (ps_try_as (i := 6) (tb := fun W => tAsg (tCall q [] (EW 7 W) (tCons (tVar 0) (tCons (tVar 1) (tCons (tVar 2) (tCons (tVar 3) (tCons (tVar 4) (tNil))))))) (gName 5)) (ts := tSuite K 5 6) (Wout := fun _ _ _ _ => False) rfl rfl nd rfl rfl ⟨by rfl, by decide, Or.inl (T.glo 59 (x := "CutError"))⟩ takesN
    (fun W pn xe tk _ => pss_one (ps_set (i := 5) nd rfl (Or.inl rfl) (pe_gt g hr (by decide) (by rfl) tk rfl (pa_cons (pv 0) (pa_cons (pv 1) (pa_cons (pv 2) (pa_cons (pv 3) (pa_cons (pv 4) (pa_nil))))))))) (fun a oe cls d pn hz hf => ?_)) (pss_one (ps_ret (pv 5))))
  refine ⟨fun pins s σ H D I h => ?_⟩
  obtain ⟨dd, rfl, rfl, h⟩ := h
  exact (pss_one (ps_set (i := 5) nd rfl (Or.inl rfl) (pe_ifExp (pt_val (pe_callB (call_isED T.ef.ec hz hf) (by rfl) (T.free 61) (by decide +kernel) (pa_cons (pv 6) (pa_cons (pe_glob (v := .ref (gaN K)) (by rfl) (T.glo 60 (x := "NoCut")) rfl) pa_nil)))) pe_bl pe_non))).run pins s σ H D I h
/-! #### is_cut_L (level 11) -/
abbrev t_is_cut_L (K : PySem.W.Frag) (q : Sp) : TS := tSeq (tAsg (tC .non) (gName 4)) (tSeq (tTry K 4 5 6 q (tCons (tVar 0) (tCons (tVar 1) (tCons (tVar 2) (tCons (tVar 3) (tNil)))))) (tRet (tVar 4)))
theorem dv_is_cut_L {q : Sp} (g : Gv P w K mg base (CX P w) 10 "right_cut" P_right_cut q) (hr : Room 10 (A.deeper (envOfC qual (defScope s_is_cut_L) s.heap.objs.size f cdv))) : PSs (cxOf CX0 P w K mg base N_is_cut_L qual (defScope s_is_cut_L) f cdv A outer s H E) (defBody s_is_cut_L) (t_is_cut_L K q) := by
  have nd := sc_is_cut_L.nd
  refine pss_cons (ps_set (i := 4) nd rfl (Or.inl rfl) pe_non) (pss_cons (ps_try_as (i := 5) (tb := fun W => tAsg (tCall q [] (EW 6 W) (tCons (tVar 0) (tCons (tVar 1) (tCons (tVar 2) (tCons (tVar 3) (tNil)))))) (gName 4)) (ts := tSuite K 4 5) (Wout := fun _ _ _ _ => False) rfl rfl nd rfl rfl ⟨by rfl, by decide, Or.inl (T.glo 59 (x := "CutError"))⟩ takesN
    (fun W pn xe tk _ => pss_one (ps_set (i := 4) nd rfl (Or.inl rfl) (pe_gt g hr (by decide) (by rfl) tk rfl (pa_cons (pv 0) (pa_cons (pv 1) (pa_cons (pv 2) (pa_cons (pv 3) (pa_nil)))))))) (fun a oe cls d pn hz hf => ?_)) (pss_one (ps_ret (pv 4))))
  refine ⟨fun pins s σ H D I h => ?_⟩
  obtain ⟨dd, rfl, rfl, h⟩ := h
  exact (pss_one (ps_set (i := 4) nd rfl (Or.inl rfl) (pe_ifExp (pt_val (pe_callB (call_isED T.ef.ec hz hf) (by rfl) (T.free 61) (by decide +kernel) (pa_cons (pv 5) (pa_cons (pe_glob (v := .ref (gaN K)) (by rfl) (T.glo 60 (x := "NoCut")) rfl) pa_nil)))) pe_bl pe_non))).run pins s σ H D I h
end
end Ct

/-! # CtEnc -/
namespace Ct
open PySem PySem.Spec PyProof.Rows L2 Evl
/-! ### forms, stands, deeds as data -/
def sgStr : Sg → Str
  | .a => "a"
  | .b => "b"
  | .c => "c"
def csStr : Cs → Str
  | .own => "own"
  | .sg g => sgStr g
theorem csStr_eq (x y : Cs) : decide (csStr x = csStr y) = decide (x = y) := by
  cases x with
  | own =>
    cases y with
    | own => rfl
    | sg g => cases g <;> decide
  | sg g =>
    cases y with
    | own => cases g <;> decide
    | sg g' => cases g <;> cases g' <;> decide
theorem csStr_own (x : Cs) : decide (csStr x = ("own" : Str)) = decide (x = .own) := csStr_eq x .own
theorem sgStr_eq (x y : Sg) : decide (sgStr x = sgStr y) = decide (x = y) := by cases x <;> cases y <;> decide
abbrev eN (n : Nat) : PyData := .int (n : Int)
abbrev eSg (g : Sg) : PyData := .str (sgStr g)
abbrev eCs (c : Cs) : PyData := .str (csStr c)
def eWord : Option Str → PyData
  | none => .none
  | some w => .str w
abbrev eSend (p : Nat × Sg) : PyData := .tuple [eN p.1, eSg p.2]
abbrev eMove (m : Move) : PyData := .tuple [eN m.state, eCs m.cause, eN m.next, .tuple (m.sends.map eSend), eWord m.word]
abbrev eRule (r : Rule) : PyData := .tuple [eN r.start, .tuple (r.moves.map eMove)]
abbrev rowStr (b : Bool) : Str := if b then "row" else "heap"
abbrev eRoad (r : Road) : PyData := .tuple [eN r.one, eN r.other, .str (rowStr r.row)]
abbrev eForm (f : Form) : PyData := .tuple [.tuple (f.rules.map eRule), .tuple (f.roads.map eRoad)]
abbrev eLoad (l : Load) : PyData := .tuple [eN l.sent, .tuple (l.waiting.map eSend)]
abbrev eStand (s : Stand) : PyData := .tuple [.tuple (s.states.map eN), .tuple (s.loads.map eLoad)]
def eDeed : Deed → PyData
  | .own m => .tuple [.str "own", eN m]
  | .hear m g => .tuple [.str "hear", eN m, eSg g]
  | .come r k => .tuple [.str "come", eN r, eN k]
abbrev eAns (a : Ans) : PyData := .tuple [eN a.1, .tuple (a.2.1.map eSend), eWord a.2.2]
def eO {α : Type} (e : α → PyData) : Option α → PyData
  | none => .none
  | some a => e a
abbrev eEv (p : Nat × Nat) : PyData := .tuple [eN p.1, eN p.2]
theorem noL_word (w : Option Str) : noL (eWord w) = true := by cases w <;> rfl
theorem noL_send (p : Nat × Sg) : noL (eSend p) = true := rfl
theorem noLs_sends (l : List (Nat × Sg)) : noLs (l.map eSend) = true := noLs_map noL_send l
theorem noL_ev (p : Nat × Nat) : noL (eEv p) = true := rfl
theorem noL_deed (d : Deed) : noL (eDeed d) = true := by cases d <;> rfl
theorem noL_load (l : Load) : noL (eLoad l) = true := by
  show (true && (noLs (l.waiting.map eSend) && true)) = true
  rw [noLs_sends]
  rfl
theorem noL_stand (s : Stand) : noL (eStand s) = true := by
  show (noLs (s.states.map eN) && (noLs (s.loads.map eLoad) && true)) = true
  rw [noLs_map (fun _ => rfl), noLs_map noL_load]
  rfl
theorem noL_move (m : Move) : noL (eMove m) = true := by
  show (true && (true && (true && (noLs (m.sends.map eSend) && (noL (eWord m.word) && true))))) = true
  rw [noLs_sends, noL_word]
  rfl
theorem noL_rule (r : Rule) : noL (eRule r) = true := by
  show (true && (noLs (r.moves.map eMove) && true)) = true
  rw [noLs_map noL_move]
  rfl
theorem noL_road (r : Road) : noL (eRoad r) = true := rfl
/-! ### at places -/
theorem atI_nat {α : Type} {l : List α} {m : Nat} {x : α} (h : l[m]? = some x) : atI l (m : Int) = some x := by
  have hm : m < l.length := (List.getElem?_eq_some_iff.mp h).1
  unfold atI
  rw [ixN_nat hm]
  exact h
theorem get_map {α : Type} {l : List α} {m : Nat} {x : α} (g : α → PyData) (h : l[m]? = some x) : (l.map g)[m]? = some (g x) := by
  rw [List.getElem?_map, h]
  rfl
theorem map_get {α : Type} {l : List α} {i : Nat} {d : PyData} {g : α → PyData} (h : (l.map g)[i]? = some d) : ∃ x, l[i]? = some x ∧ d = g x := by
  rw [List.getElem?_map] at h
  obtain ⟨x, h1, h2⟩ := Option.map_eq_some_iff.mp h
  exact ⟨x, h1, h2.symm⟩
section
variable {K : PySem.W.Frag} {σ : L2.St} {H : Hp} {te ti : TE} {d a b c e : PyData} {ds r : List PyData}
theorem ix0 (h : YD K te σ H (.tuple (a :: r))) : YD K (tOp (rIx K) te (tC (.int 0))) σ H a := yd_op h yd_int (rd_ixT (atI_nat (m := 0) rfl))
theorem ix1 (h : YD K te σ H (.tuple (a :: b :: r))) : YD K (tOp (rIx K) te (tC (.int 1))) σ H b := yd_op h yd_int (rd_ixT (atI_nat (m := 1) rfl))
theorem ix2 (h : YD K te σ H (.tuple (a :: b :: c :: r))) : YD K (tOp (rIx K) te (tC (.int 2))) σ H c := yd_op h yd_int (rd_ixT (atI_nat (m := 2) rfl))
theorem ix3 (h : YD K te σ H (.tuple (a :: b :: c :: d :: r))) : YD K (tOp (rIx K) te (tC (.int 3))) σ H d := yd_op h yd_int (rd_ixT (atI_nat (m := 3) rfl))
theorem ix4 (h : YD K te σ H (.tuple (a :: b :: c :: d :: e :: r))) : YD K (tOp (rIx K) te (tC (.int 4))) σ H e := yd_op h yd_int (rd_ixT (atI_nat (m := 4) rfl))
theorem ixT {m : Nat} (h : YD K te σ H (.tuple ds)) (hi : YD K ti σ H (eN m)) (e : ds[m]? = some d) : YD K (tOp (rIx K) te ti) σ H d := yd_op h hi (rd_ixT (atI_nat e))
theorem ixL {m : Nat} (h : YD K te σ H (.list ds)) (hi : YD K ti σ H (eN m)) (e : ds[m]? = some d) : YD K (tOp (rIx K) te ti) σ H d := yd_op h hi (rd_ixL (atI_nat e))
theorem ixM {α : Type} {g : α → PyData} {l : List α} {m : Nat} {x : α} (h : YD K te σ H (.tuple (l.map g))) (hi : YD K ti σ H (eN m)) (e : l[m]? = some x) : YD K (tOp (rIx K) te ti) σ H (g x) := ixT h hi (get_map g e)
theorem ixLM {α : Type} {g : α → PyData} {l : List α} {m : Nat} {x : α} (h : YD K te σ H (.list (l.map g))) (hi : YD K ti σ H (eN m)) (e : l[m]? = some x) : YD K (tOp (rIx K) te ti) σ H (g x) := ixL h hi (get_map g e)
end
/-! ### equality of data -/
mutual
/-- may be compared: n deep at most -/
def cmp : Nat → PyData → Bool
  | _, .none => true
  | _, .bool _ => true
  | _, .int _ => true
  | _, .str x => PyData.canLay0 (.str x)
  | n + 1, .list ds => cmps n ds
  | n + 1, .tuple ds => cmps n ds
  | _, _ => false
def cmps : Nat → List PyData → Bool
  | _, [] => true
  | n, d :: ds => cmp n d && cmps n ds
end
mutual
theorem cmp_ok : ∀ (n : Nat) (d : PyData), cmp n d = true → d.canLay0 = true ∧ d.depth ≤ n
  | _, .none, _ => ⟨rfl, Nat.zero_le _⟩
  | _, .bool _, _ => ⟨rfl, Nat.zero_le _⟩
  | _, .int _, _ => ⟨rfl, Nat.zero_le _⟩
  | 0, .str x, h => ⟨h, Nat.zero_le _⟩
  | _ + 1, .str x, h => ⟨h, Nat.zero_le _⟩
  | n + 1, .list ds, h => ⟨(cmps_ok n ds h).1, Nat.succ_le_succ (cmps_ok n ds h).2⟩
  | n + 1, .tuple ds, h => ⟨(cmps_ok n ds h).1, Nat.succ_le_succ (cmps_ok n ds h).2⟩
  | 0, .list ds, h => by cases h
  | 0, .tuple ds, h => by cases h
  | 0, .dict ds, h => by cases h
  | _ + 1, .dict ds, h => by cases h
theorem cmps_ok : ∀ (n : Nat) (ds : List PyData), cmps n ds = true → PyData.canLayAll0 ds = true ∧ PyData.depthAll ds ≤ n
  | _, [], _ => ⟨rfl, Nat.zero_le _⟩
  | n, d :: ds, h => by
    have h : (cmp n d && cmps n ds) = true := h
    obtain ⟨h1, h2⟩ := Bool.and_eq_true_iff.mp h
    obtain ⟨a1, a2⟩ := cmp_ok n d h1
    obtain ⟨b1, b2⟩ := cmps_ok n ds h2
    refine ⟨?_, Nat.max_le.mpr ⟨a2, b2⟩⟩
    show (d.canLay0 && PyData.canLayAll0 ds) = true
    rw [a1, b1]
    rfl
end
theorem cmp_shaped {n : Nat} {d : PyData} (h : cmp n d = true) (hn : n ≤ 64) : SeqAt.shaped d = true := by
  obtain ⟨h1, h2⟩ := cmp_ok n d h
  show (d.canLay0 && decide (d.depth ≤ 64)) = true
  rw [h1, decide_eq_true (Nat.le_trans h2 hn)]
  rfl
theorem cmps_map {α : Type} {g : α → PyData} {n : Nat} (h : ∀ x, cmp n (g x) = true) : ∀ l : List α, cmps n (l.map g) = true
  | [] => rfl
  | x :: l => by
    show (cmp n (g x) && cmps n (l.map g)) = true
    rw [h, cmps_map h l]
    rfl
theorem cmp_tup {n : Nat} {ds : List PyData} (h : cmps n ds = true) : cmp (n + 1) (.tuple ds) = true := h
theorem cmp_lst {n : Nat} {ds : List PyData} (h : cmps n ds = true) : cmp (n + 1) (.list ds) = true := h
theorem cmps2 {n : Nat} {a b : PyData} (h1 : cmp n a = true) (h2 : cmp n b = true) : cmps n [a, b] = true := by
  show (cmp n a && (cmp n b && true)) = true
  rw [h1, h2]
  rfl
theorem cmp_int {n : Nat} {i : Int} : cmp n (.int i) = true := by cases n <;> rfl
theorem cmp_sg {n : Nat} (g : Sg) : cmp n (eSg g) = true := by
  cases g with
  | a => cases n <;> exact (show PyData.canLay0 (eSg .a) = true by decide +kernel)
  | b => cases n <;> exact (show PyData.canLay0 (eSg .b) = true by decide +kernel)
  | c => cases n <;> exact (show PyData.canLay0 (eSg .c) = true by decide +kernel)
theorem cmp_send {n : Nat} (p : Nat × Sg) : cmp (n + 1) (eSend p) = true := cmp_tup (cmps2 cmp_int (cmp_sg _))
theorem cmp_load {n : Nat} (l : Load) : cmp (n + 3) (eLoad l) = true := cmp_tup (cmps2 cmp_int (cmp_tup (cmps_map cmp_send _)))
theorem cmp_stand {n : Nat} (s : Stand) : cmp (n + 5) (eStand s) = true := cmp_tup (cmps2 (cmp_tup (cmps_map (fun _ => cmp_int) _)) (cmp_tup (cmps_map cmp_load _)))
def Eqv {α : Type} [DecidableEq α] (g : α → PyData) : Prop := ∀ x y, PyData.eqv (g x) (g y) = decide (x = y)
theorem eqvAll_map {α : Type} [DecidableEq α] {g : α → PyData} (h : Eqv g) : ∀ l l' : List α, PyData.eqvAll (l.map g) (l'.map g) = decide (l = l')
  | [], [] => rfl
  | [], y :: l' => by simp [PyData.eqvAll]
  | x :: l, [] => by simp [PyData.eqvAll]
  | x :: l, y :: l' => by
    show (PyData.eqv (g x) (g y) && PyData.eqvAll (l.map g) (l'.map g)) = _
    rw [h, eqvAll_map h l l']
    by_cases e1 : x = y <;> by_cases e2 : l = l' <;> simp [e1, e2]
theorem eqv_int : Eqv (α := Int) PyData.int := fun x y => by
  show (x == y) = _
  exact Bool.beq_eq_decide_eq x y
theorem eqv_nat : Eqv eN := fun x y => by
  show (((x : Nat) : Int) == (y : Int)) = _
  rw [Bool.beq_eq_decide_eq]
  exact decide_eq_decide.mpr ⟨fun z => by omega, fun z => by rw [z]⟩
theorem eqv_sg : Eqv eSg := fun x y => by
  show (sgStr x == sgStr y) = _
  rw [Bool.beq_eq_decide_eq]
  exact sgStr_eq x y
theorem eqvAll2 {a b c d : PyData} {p q : Prop} [Decidable p] [Decidable q] (h1 : PyData.eqv a c = decide p) (h2 : PyData.eqv b d = decide q) : PyData.eqvAll [a, b] [c, d] = decide (p ∧ q) := by
  show (PyData.eqv a c && (PyData.eqv b d && true)) = _
  rw [h1, h2]
  by_cases e1 : p <;> by_cases e2 : q <;> simp [e1, e2]
theorem eqv_send : Eqv eSend := fun x y => (eqvAll2 (eqv_nat _ _) (eqv_sg _ _)).trans (decide_eq_decide.mpr ⟨fun z => Prod.ext z.1 z.2, fun z => by rw [z]; exact ⟨rfl, rfl⟩⟩)
theorem eqv_tup {α : Type} [DecidableEq α] {g : α → PyData} (h : Eqv g) (l l' : List α) : PyData.eqv (.tuple (l.map g)) (.tuple (l'.map g)) = decide (l = l') := eqvAll_map h l l'
theorem eqv_lst {α : Type} [DecidableEq α] {g : α → PyData} (h : Eqv g) (l l' : List α) : PyData.eqv (.list (l.map g)) (.list (l'.map g)) = decide (l = l') := eqvAll_map h l l'
theorem eqv_load : Eqv eLoad := fun x y => (eqvAll2 (eqv_nat x.sent y.sent) (eqv_tup eqv_send x.waiting y.waiting)).trans (decide_eq_decide.mpr ⟨fun z => by cases x; cases y; obtain ⟨z1, z2⟩ := z; cases z1; cases z2; rfl, fun z => by rw [z]; exact ⟨rfl, rfl⟩⟩)
theorem eqv_stand : Eqv eStand := fun x y => (eqvAll2 (eqv_tup eqv_nat x.states y.states) (eqv_tup eqv_load x.loads y.loads)).trans (decide_eq_decide.mpr ⟨fun z => by cases x; cases y; obtain ⟨z1, z2⟩ := z; cases z1; cases z2; rfl, fun z => by rw [z]; exact ⟨rfl, rfl⟩⟩)
/-! ### promises by what the arguments are -/
abbrev SpT (K : PySem.W.Frag) {α : Type} (C : α → Prop) (A : α → List PyData) (R : α → PyData → Prop) : Sp := PSp K fun ds R' => ∃ x, C x ∧ ds = A x ∧ R' = R x
abbrev SpL (K : PySem.W.Frag) {α : Type} (C : α → Prop) (A : α → List PyData) (R : α → List PyData → Prop) : Sp := PSpL K fun ds R' => ∃ x, C x ∧ ds = A x ∧ R' = R x
abbrev SpX (K : PySem.W.Frag) {α : Type} (C : α → Prop) (A : α → List PyData) (R : α → PyData → Prop) (N : α → Prop) : Sp := PSpX K fun ds R' N' => ∃ x, C x ∧ ds = A x ∧ R' = R x ∧ N' = N x
section
variable {K : PySem.W.Frag} {σ : L2.St} {H : Hp} {tas : TA} {α : Type} {C : α → Prop} {A : α → List PyData} {ds : List PyData} {d : PyData}
/-- a call, the result told -/
theorem yc {R : α → PyData → Prop} (x : α) (hc : C x) (h : YA K tas σ H (A x)) (hr : ∀ d', R x d' → d' = d) : YD K (tCall (SpT K C A R) [] E0 tas) σ H d := fun H1 e Q q =>
  yr_call (G := fun ds R' => ∃ x, C x ∧ ds = A x ∧ R' = R x) h ⟨x, hc, rfl, rfl⟩ H1 e Q fun d' v H2 x2 hd hr' => q v H2 x2 (by rw [← hr d' hr']; exact hd)
/-- a call, the result one of many -/
theorem ycR {R : α → PyData → Prop} (x : α) (hc : C x) (h : YA K tas σ H (A x)) : YR K (tCall (SpT K C A R) [] E0 tas) σ H (R x) := yr_call (G := fun ds R' => ∃ x, C x ∧ ds = A x ∧ R' = R x) h ⟨x, hc, rfl, rfl⟩
theorem ycL {es : List PyData} {R : α → List PyData → Prop} (x : α) (hc : C x) (h : YA K tas σ H (A x)) (hr : ∀ d', R x d' → d' = es) : YN K (tCall (SpL K C A R) [] E0 tas) σ H es := fun H1 e Q q =>
  h H1 e _ fun vs H2 x2 hi => ⟨A x, R x, by rw [List.append_nil]; exact hi, ⟨x, hc, rfl, rfl⟩, fun es' ws p H3 np x3 hp hd hr' => by
    have z := hr es' hr'
    subst z
    exact q p ws H3 (fresh_back x2 np) (x2.trans x3) hp hd⟩
end
end Ct

/-! # CtKit3 -/
namespace Ct
open PySem PySem.Spec PyProof.Rows L2 Evl
section
variable {K : PySem.W.Frag} {σ : L2.St} {H H' : Hp} {te ti ta tb tc tx : TE} {d e x : PyData} {ds es : List PyData}
/-! ### slices -/
def YO (to : TO) (σ : L2.St) (H : Hp) (o : Option Nat) : Prop := ∀ H1, Ex H H1 → ∀ Q : Option Int → Hp → Prop, (∀ H2, Ex H1 H2 → Q (o.map fun n => (n : Int)) H2) → to σ H1 Q
theorem yo_no : YO tNoPart σ H none := fun H1 _ _ q => q H1 (Ex.refl H1)
theorem yo {n : Nat} (h : YD K te σ H (eN n)) : YO (tPart te) σ H (some n) := fun H1 x _ q => h H1 x _ fun v H2 x2 hv => ⟨(n : Int), hv, q H2 x2⟩
def lo' (o : Option Nat) : Nat := o.getD 0
def hi' (o : Option Nat) (n : Nat) : Nat := o.getD n
def cutN {α : Type} (xs : List α) (lo hi : Option Nat) : List α := (xs.drop (min (lo' lo) xs.length)).take (min (hi' hi xs.length) xs.length - min (lo' lo) xs.length)
theorem six_lo (n : Nat) (o : Option Nat) : HT.sIx n 0 (o.map fun n => (n : Int)) = min (lo' o) n := by
  cases o with
  | none => show 0 = min 0 n; omega
  | some k => exact HT.sIx_nat n 0 k
theorem six_hi (n : Nat) (o : Option Nat) : HT.sIx n n (o.map fun n => (n : Int)) = min (hi' o n) n := by
  cases o with
  | none => show n = min n n; omega
  | some k => exact HT.sIx_nat n n k
theorem cut_is {vs : List V} (h : IsDs K H ds vs) (lo hi : Option Nat) : IsDs K H (cutN ds lo hi) (cutV vs (lo.map fun n => (n : Int)) (hi.map fun n => (n : Int))) := by
  unfold cutN cutV
  rw [six_lo, six_hi, h.length]
  exact (h.drop _).take _
theorem yd_slT {tl th : TO} {lo hi : Option Nat} (h : YD K te σ H (.tuple ds)) (hl : YO tl σ H lo) (hh : YO th σ H hi) : YD K (tSl (rSlU K) te tl th) σ H (.tuple (cutN ds lo hi)) := fun H1 x Q q =>
  h H1 x _ fun v H2 x2 i2 => hl H2 (x.trans x2) _ fun H3 x3 => hh H3 ((x.trans x2).trans x3) _ fun H4 x4 => by
    obtain ⟨a, vs, rfl, ha, hi'⟩ := IsD.ex (x3.trans x4) _ _ i2
    refine .inr ⟨a, vs, rfl, st_of ha, fun z => ?_, fun z p np => ?_⟩
    · refine q _ H4 ((x2.trans x3).trans x4) ⟨a, vs, rfl, ha, ?_⟩
      have e : cutN ds lo hi = ds := by
        unfold cutN
        rw [six_lo, six_hi, hi'.length] at z
        rw [z.1, z.2, List.drop_zero, Nat.sub_zero, List.take_length]
      rw [e]
      exact hi'
    · exact q _ _ (((x2.trans x3).trans x4).trans (Ex.new np)) ⟨p, _, rfl, upd_same, IsDs.ex (Ex.new np) _ _ (cut_is hi' lo hi)⟩
theorem yn_slL {tl th : TO} {lo hi : Option Nat} (h : YD K te σ H (.list ds)) (hl : YO tl σ H lo) (hh : YO th σ H hi) : YN K (tSl (rSlU K) te tl th) σ H (cutN ds lo hi) := fun H1 x Q q =>
  h H1 x _ fun v H2 x2 i2 => hl H2 (x.trans x2) _ fun H3 x3 => hh H3 ((x.trans x2).trans x3) _ fun H4 x4 => by
    obtain ⟨a, vs, rfl, ha, hi'⟩ := IsD.ex (x3.trans x4) _ _ i2
    have xx := (x2.trans x3).trans x4
    exact .inl ⟨a, vs, rfl, ha, fun p np => q p _ _ (fresh_back xx np) (xx.trans (Ex.new np)) upd_same (IsDs.ex (Ex.new np) _ _ (cut_is hi' lo hi))⟩
theorem cut_to {α : Type} (xs : List α) (n : Nat) : cutN xs none (some n) = xs.take n := by
  show (xs.drop (min 0 xs.length)).take (min n xs.length - min 0 xs.length) = _
  rw [Nat.zero_min, List.drop_zero, Nat.sub_zero]
  by_cases h : n ≤ xs.length
  · rw [Nat.min_eq_left h]
  · rw [Nat.min_eq_right (by omega), List.take_length, List.take_of_length_le (by omega)]
theorem cut_from {α : Type} (xs : List α) (n : Nat) : cutN xs (some n) none = xs.drop n := by
  show (xs.drop (min n xs.length)).take (min xs.length xs.length - min n xs.length) = _
  rw [Nat.min_self]
  by_cases h : n ≤ xs.length
  · rw [Nat.min_eq_left h, List.take_of_length_le (by rw [List.length_drop]; omega)]
  · rw [Nat.min_eq_right (by omega), List.drop_length, List.drop_eq_nil_of_le (by omega), List.take_nil]
theorem cut_mid {α : Type} (xs : List α) {n k : Nat} (h : k ≤ xs.length) (hn : n ≤ k) : cutN xs (some n) (some k) = (xs.drop n).take (k - n) := by
  show (xs.drop (min n xs.length)).take (min k xs.length - min n xs.length) = _
  rw [Nat.min_eq_left h, Nat.min_eq_left (by omega)]
theorem yd_to {n : Nat} (h : YD K te σ H (.tuple ds)) (hi : YD K ti σ H (eN n)) : YD K (tSl (rSlU K) te tNoPart (tPart ti)) σ H (.tuple (ds.take n)) := (yd_slT h yo_no (yo hi)).to (by rw [cut_to])
theorem yd_from {n : Nat} (h : YD K te σ H (.tuple ds)) (hi : YD K ti σ H (eN n)) : YD K (tSl (rSlU K) te (tPart ti) tNoPart) σ H (.tuple (ds.drop n)) := (yd_slT h (yo hi) yo_no).to (by rw [cut_from])
theorem YN.to (h : YN K te σ H ds) (e : ds = es) : YN K te σ H es := e ▸ h
theorem yn_to {n : Nat} (h : YD K te σ H (.list ds)) (hi : YD K ti σ H (eN n)) : YN K (tSl (rSlU K) te tNoPart (tPart ti)) σ H (ds.take n) := (yn_slL h yo_no (yo hi)).to (by rw [cut_to])
theorem yn_from {n : Nat} (h : YD K te σ H (.list ds)) (hi : YD K ti σ H (eN n)) : YN K (tSl (rSlU K) te (tPart ti) tNoPart) σ H (ds.drop n) := (yn_slL h (yo hi) yo_no).to (by rw [cut_from])
theorem yn_mid {n k : Nat} (h : YD K te σ H (.list ds)) (hi : YD K ti σ H (eN n)) (hj : YD K tx σ H (eN k)) (hk : k ≤ ds.length) (hn : n ≤ k) : YN K (tSl (rSlU K) te (tPart ti) (tPart tx)) σ H ((ds.drop n).take (k - n)) := (yn_slL h (yo hi) (yo hj)).to (by rw [cut_mid _ hk hn])
/-! ### arithmetic of naturals -/
theorem yn_nat {n : Nat} {i : Int} (h : YD K te σ H (.int i)) (e : i = (n : Int)) : YD K te σ H (eN n) := h.to (congrArg PyData.int e)
theorem nadd {n m : Nat} (h1 : YD K ta σ H (eN n)) (h2 : YD K tb σ H (eN m)) : YD K (tOp (rPlus K) ta tb) σ H (eN (n + m)) := (yd_op h1 h2 rd_addI).to (congrArg PyData.int (Int.natCast_add n m).symm)
theorem nsub {n m : Nat} (h1 : YD K ta σ H (eN n)) (h2 : YD K tb σ H (eN m)) (h : m ≤ n) : YD K (tOp rSubI ta tb) σ H (eN (n - m)) := (yd_op (r := rSubI) h1 h2 (rd_I0 (f := .int ((n : Int) - (m : Int))) fun _ => rfl)).to (congrArg PyData.int (by omega))
theorem nmul {n m : Nat} (h1 : YD K ta σ H (eN n)) (h2 : YD K tb σ H (eN m)) (h : CMul (n : Int) (m : Int)) : YD K (tOp (rTimes K) ta tb) σ H (eN (n * m)) := (yd_op h1 h2 (rd_mulI h)).to (congrArg PyData.int (Int.natCast_mul n m).symm)
theorem nmod {n m : Nat} (h1 : YD K ta σ H (eN n)) (h2 : YD K tb σ H (eN m)) (h : 0 < m) : YD K (tOp rModI ta tb) σ H (eN (n % m)) := (yd_op (r := rModI) h1 h2 (rd_I (f := .int ((n : Int) % (m : Int))) (by omega) fun _ => rfl)).to (congrArg PyData.int (Int.natCast_emod n m).symm)
theorem ndiv {n m : Nat} (h1 : YD K ta σ H (eN n)) (h2 : YD K tb σ H (eN m)) (h : CDiv (n : Int) (m : Int)) : YD K (tOp rDivI ta tb) σ H (eN (n / m)) := (yd_op (r := rDivI) h1 h2 (rd_I (f := .int ((n : Int) / (m : Int))) h fun _ => rfl)).to (congrArg PyData.int (Int.natCast_ediv n m).symm)
theorem nint {n : Nat} : YD K (tC (.int (n : Int))) σ H (eN n) := yd_int
theorem nlit (n : Nat) {i : Int} (e : i = (n : Int) := by rfl) : YD K (tC (.int i)) σ H (eN n) := yd_int.to (congrArg PyData.int e)
/-! ### tests of numbers -/
theorem nlt {n m : Nat} (h1 : YD K ta σ H (eN n)) (h2 : YD K tb σ H (eN m)) : YD K (tOp rLtI ta tb) σ H (.bool (decide (n < m))) := (yd_op (r := rLtI) h1 h2 (rd_I0 (f := .bool (decide ((n : Int) < m))) fun _ => rfl)).to (congrArg PyData.bool (decide_eq_decide.mpr (by omega)))
theorem nle {n m : Nat} (h1 : YD K ta σ H (eN n)) (h2 : YD K tb σ H (eN m)) : YD K (tOp rLeI ta tb) σ H (.bool (decide (n ≤ m))) := (yd_op (r := rLeI) h1 h2 (rd_I0 (f := .bool (decide ((n : Int) ≤ m))) fun _ => rfl)).to (congrArg PyData.bool (decide_eq_decide.mpr (by omega)))
theorem ngt {n m : Nat} (h1 : YD K ta σ H (eN n)) (h2 : YD K tb σ H (eN m)) : YD K (tOp rGtI ta tb) σ H (.bool (decide (m < n))) := (yd_op (r := rGtI) h1 h2 (rd_I0 (f := .bool (decide ((m : Int) < n))) fun _ => rfl)).to (congrArg PyData.bool (decide_eq_decide.mpr (by omega)))
theorem nge {n m : Nat} (h1 : YD K ta σ H (eN n)) (h2 : YD K tb σ H (eN m)) : YD K (tOp rGeI ta tb) σ H (.bool (decide (m ≤ n))) := (yd_op (r := rGeI) h1 h2 (rd_I0 (f := .bool (decide ((m : Int) ≤ n))) fun _ => rfl)).to (congrArg PyData.bool (decide_eq_decide.mpr (by omega)))
theorem neq {n m : Nat} (h1 : YD K ta σ H (eN n)) (h2 : YD K tb σ H (eN m)) : YD K (tOp (rEqU K) ta tb) σ H (.bool (decide (n = m))) := (yd_op h1 h2 rd_eq_int).to (congrArg PyData.bool (decide_eq_decide.mpr (by omega)))
theorem nne {n m : Nat} (h1 : YD K ta σ H (eN n)) (h2 : YD K tb σ H (eN m)) : YD K (tOp (rNeU K) ta tb) σ H (.bool (!decide (n = m))) := (yd_op h1 h2 rd_ne_int).to (congrArg (fun b => PyData.bool (!b)) (decide_eq_decide.mpr (by omega)))
theorem ilt {i j : Int} (h1 : YD K ta σ H (.int i)) (h2 : YD K tb σ H (.int j)) : YD K (tOp rLtI ta tb) σ H (.bool (decide (i < j))) := yd_op (r := rLtI) h1 h2 (rd_I0 fun _ => rfl)
theorem igt {i j : Int} (h1 : YD K ta σ H (.int i)) (h2 : YD K tb σ H (.int j)) : YD K (tOp rGtI ta tb) σ H (.bool (decide (j < i))) := yd_op (r := rGtI) h1 h2 (rd_I0 fun _ => rfl)
theorem ige {i j : Int} (h1 : YD K ta σ H (.int i)) (h2 : YD K tb σ H (.int j)) : YD K (tOp rGeI ta tb) σ H (.bool (decide (j ≤ i))) := yd_op (r := rGeI) h1 h2 (rd_I0 fun _ => rfl)
theorem yeqS {s t : Str} (h1 : YD K ta σ H (.str s)) (h2 : YD K tb σ H (.str t)) : YD K (tOp (rEqU K) ta tb) σ H (.bool (decide (s = t))) := yd_op h1 h2 rd_eq_str
theorem yeqD {s t : PyData} (h1 : YD K ta σ H s) (h2 : YD K tb σ H t) (c1 : cmp 60 s = true) (c2 : cmp 60 t = true) : YD K (tOp (rEqU K) ta tb) σ H (.bool (PyData.eqv s t)) := yd_op h1 h2 (rd_eqD (cmp_shaped c1 (by decide)) (cmp_shaped c2 (by decide)))
theorem yneD {s t : PyData} (h1 : YD K ta σ H s) (h2 : YD K tb σ H t) (c1 : cmp 60 s = true) (c2 : cmp 60 t = true) : YD K (tOp (rNeU K) ta tb) σ H (.bool (!PyData.eqv s t)) := yd_op h1 h2 (rd_neD (cmp_shaped c1 (by decide)) (cmp_shaped c2 (by decide)))
theorem yisN (h1 : YD K ta σ H d) : YD K (tOp rIsNo ta (tC .non)) σ H (.bool (isNone d)) := yd_op h1 yd_non rd_isN
theorem ynotN (h1 : YD K ta σ H d) : YD K (tOp rNotNo ta (tC .non)) σ H (.bool (!isNone d)) := yd_op h1 yd_non rd_notN
theorem ychain {r r' : R2} {p q : Bool} {d1 d2 d3 : PyData} (h1 : YD K ta σ H d1) (h2 : YD K tb σ H d2) (h3 : YD K tc σ H d3) (hr : RD K r d1 d2 (.bool p)) (hr' : RD K r' d2 d3 (.bool q)) : YD K (tChain r r' ta tb tc) σ H (.bool (p && q)) := fun H1 e Q k =>
  h1 H1 e _ fun u H2 e2 i2 => h2 H2 (e.trans e2) _ fun v H3 e3 i3 => hr H3 u v (IsD.ex e3 _ u i2) i3 _ fun z H4 e4 i4 => by
    have i4 : z = .bl p := i4
    subst i4
    refine ⟨p, rfl, ?_⟩
    cases p with
    | true =>
      show tc σ H4 _
      exact h3 H4 (((e.trans e2).trans e3).trans e4) _ fun w H5 e5 i5 => hr' H5 v w (IsD.ex (e4.trans e5) _ v i3) i5 Q fun z H6 e6 i6 => k z H6 ((((e2.trans e3).trans e4).trans e5).trans e6) i6
    | false => exact k _ H4 ((e2.trans e3).trans e4) rfl
/-! ### lengths -/
theorem ylenL (h : YD K te σ H (.list ds)) : YD K (tCB (rLenU K) (tCons te tNil)) σ H (eN ds.length) := yd_cb (ya_cons h ya_nil) rc_len
theorem ylenT (h : YD K te σ H (.tuple ds)) : YD K (tCB (rLenU K) (tCons te tNil)) σ H (eN ds.length) := yd_cb (ya_cons h ya_nil) rc_lenT
theorem ylenTM {α : Type} {g : α → PyData} {l : List α} (h : YD K te σ H (.tuple (l.map g))) : YD K (tCB (rLenU K) (tCons te tNil)) σ H (eN l.length) := (ylenT h).to (by rw [List.length_map])
theorem ylenLM {α : Type} {g : α → PyData} {l : List α} (h : YD K te σ H (.list (l.map g))) : YD K (tCB (rLenU K) (tCons te tNil)) σ H (eN l.length) := (ylenL h).to (by rw [List.length_map])
/-! ### new lists, tuples of lists -/
theorem yn_listT (h : YD K te σ H (.tuple ds)) : YN K (tCB (rListU K) (tCons te tNil)) σ H ds := fun H1 x Q q => h H1 x _ fun v H2 x2 i2 => by
  obtain ⟨a, vs, rfl, ha, hi⟩ := i2
  exact ⟨a, vs, rfl, .inr (st_of ha), fun l hl => q l vs _ (fresh_back x2 hl) (x2.trans (Ex.new hl)) upd_same (IsDs.ex (Ex.new hl) _ _ hi)⟩
theorem yn_listL (h : YD K te σ H (.list ds)) : YN K (tCB (rListU K) (tCons te tNil)) σ H ds := fun H1 x Q q => h H1 x _ fun v H2 x2 i2 => by
  obtain ⟨a, vs, rfl, ha, hi⟩ := i2
  exact ⟨a, vs, rfl, .inl ha, fun l hl => q l vs _ (fresh_back x2 hl) (x2.trans (Ex.new hl)) upd_same (IsDs.ex (Ex.new hl) _ _ hi)⟩
theorem yd_tupL (h : YD K te σ H (.list ds)) : YD K (tCB (rTupU K) (tCons te tNil)) σ H (.tuple ds) := yd_cb (ya_cons h ya_nil) rc_tuple
theorem isDs_rg {a n : Nat} : IsDs K H ((List.range' a n).map eN) ((List.range n).map fun i => V.int ((a : Int) + (i : Nat))) := by
  have e : (List.range n).map (fun i => V.int ((a : Int) + (i : Nat))) = (List.range' a n).map fun k => V.int ((k : Nat) : Int) := by
    rw [List.range'_eq_map_range, List.map_map]
    exact List.map_congr_left fun i _ => by show V.int _ = V.int _; rw [Int.natCast_add]
  rw [e]
  generalize List.range' a n = l
  induction l with
  | nil => rfl
  | cons x l ih => exact ⟨_, _, rfl, rfl, ih⟩
theorem yn_rg2 {a b : Nat} (h1 : YD K ta σ H (eN a)) (h2 : YD K tb σ H (eN b)) (ha : a ≤ 100000) (hb : b ≤ 100000) : YN K (tLstRg (tRg2 ta tb)) σ H ((List.range' a (b - a)).map eN) := fun H1 x Q q =>
  h1 H1 x _ fun u H2 x2 i2 => h2 H2 (x.trans x2) _ fun v H3 x3 i3 => ⟨(a : Int), (b : Int), i2, i3, RgOk.of_le (by omega) (by omega) (by omega) (by omega), fun p np => by
    have e : ((b : Int) - (a : Int)).toNat = b - a := by omega
    refine q p _ _ (fresh_back (x2.trans x3) np) ((x2.trans x3).trans (Ex.new np)) upd_same ?_
    unfold rgV
    rw [e]
    exact isDs_rg⟩
theorem yn_rg1 {b : Nat} (h2 : YD K tb σ H (eN b)) (hb : b ≤ 100000) : YN K (tLstRg (tRg1 tb)) σ H ((List.range b).map eN) := fun H1 x Q q =>
  h2 H1 x _ fun v H3 x3 i3 => ⟨(b : Int), i3, RgOk.of_le (by omega) (by omega) (by omega) (by omega), fun p np => by
    have e : ((b : Int) - (0 : Int)).toNat = b := by omega
    refine q p _ _ (fresh_back x3 np) (x3.trans (Ex.new np)) upd_same ?_
    unfold rgV
    rw [e, List.range_eq_range']
    have z := isDs_rg (K := K) (H := upd H3 p (.lst ((List.range b).map fun i => V.int ((0 : Int) + (i : Nat))))) (a := 0) (n := b)
    rw [← List.range_eq_range']
    rw [← List.range_eq_range'] at z
    exact z⟩
/-- a tuple with its place r new -/
theorem set_parts {α : Type} {l : List α} {r : Nat} (x : α) (h : r < l.length) : l.take r ++ [x] ++ l.drop (r + 1) = l.set r x := by
  rw [List.set_eq_take_append_cons_drop, if_pos h, List.append_assoc]
  rfl
theorem yd_repl {r : Nat} (h : YD K te σ H (.tuple ds)) (hi : YD K ti σ H (eN r)) (hx : YD K tx σ H x) (hr : r < ds.length) (hz : ds.length ≤ 40000) :
    YD K (tOp (rPlus K) (tOp (rPlus K) (tSl (rSlU K) te tNoPart (tPart ti)) (tTup (tCons tx tNil))) (tSl (rSlU K) te (tPart (tOp (rPlus K) ti (tC (.int 1)))) tNoPart)) σ H (.tuple (ds.set r x)) := by
  have h1 := yd_to h hi
  have h2 : YD K (tTup (tCons tx tNil)) σ H (.tuple [x]) := yd_tup (ya_cons hx ya_nil) (by simp)
  have h3 := yd_from h (nadd hi (nlit 1))
  refine (yd_op (yd_op h1 h2 (rd_addT ?_)) h3 (rd_addT ?_)).to (congrArg PyData.tuple (set_parts x hr))
  · rw [List.length_take]
    show _ + 1 ≤ _
    omega
  · rw [List.length_append, List.length_take, List.length_drop]
    show _ + 1 + _ ≤ _
    omega
theorem ymax {i j : Int} (h1 : YD K ta σ H (.int i)) (h2 : YD K tb σ H (.int j)) : YD K (tCB rMax2 (tCons ta (tCons tb tNil))) σ H (.int (if j > i then j else i)) := yd_cb (ya_cons h1 (ya_cons h2 ya_nil)) fun H vs h Q q => by
  obtain ⟨_, _, rfl, e1, _, _, rfl, e2, rfl⟩ := h
  exact ⟨i, j, by rw [show _ = V.int i from e1, show _ = V.int j from e2], q _ H (Ex.refl H) rfl⟩
theorem ymin {i j : Int} (h1 : YD K ta σ H (.int i)) (h2 : YD K tb σ H (.int j)) : YD K (tCB rMin2 (tCons ta (tCons tb tNil))) σ H (.int (if j < i then j else i)) := yd_cb (ya_cons h1 (ya_cons h2 ya_nil)) fun H vs h Q q => by
  obtain ⟨_, _, rfl, e1, _, _, rfl, e2, rfl⟩ := h
  exact ⟨i, j, by rw [show _ = V.int i from e1, show _ = V.int j from e2], q _ H (Ex.refl H) rfl⟩
/-! ### unpacking -/
variable {D : Ends} {tz : TS}
theorem q_unl3 {i j l : Nat} {d1 d2 d3 : PyData} (h : YD K te σ H (.list [d1, d2, d3])) (k : ∀ v1 v2 v3 H1, Ex H H1 → IsD K H1 d1 v1 → IsD K H1 d2 v2 → IsD K H1 d3 v3 → tz D (((σ.set i (some v1)).set j (some v2)).set l (some v3)) H1) :
    tSeq (tAsg te (gUnl K 3 (gCons (gName i) (gCons (gName j) (gCons (gName l) gNil))))) tz D σ H := h H (Ex.refl H) _ fun v H1 x hi => by
  obtain ⟨a, vs, rfl, h2, w, ws, rfl, k1, w2, ws2, rfl, k2, w3, ws3, rfl, k3, rfl⟩ := hi
  exact ⟨a, _, rfl, h2, rfl, w, _, rfl, w2, _, rfl, w3, _, rfl, rfl, k w w2 w3 H1 x k1 k2 k3⟩
/-- unpacking of a loop's item -/
theorem g_tup2 {i j : Nat} {d1 d2 : PyData} {v : V} {Q : L2.St → Hp → Prop} (h : IsD K H (.tuple [d1, d2]) v) (k : ∀ v1 v2, IsD K H d1 v1 → IsD K H d2 v2 → Q ((σ.set i (some v1)).set j (some v2)) H) : gTup K 2 (gCons (gName i) (gCons (gName j) gNil)) v σ H Q := by
  obtain ⟨a, vs, rfl, h2, w, ws, rfl, k1, w2, ws2, rfl, k2, rfl⟩ := h
  exact ⟨a, _, rfl, st_of h2, rfl, w, _, rfl, w2, _, rfl, rfl, k w w2 k1 k2⟩
/-- xs.extend(ys), ys new -/
theorem s_ext {j : Nat} {p : Addr} (hj : σ[j]? = some (some (.ref p))) (hp : OL K H p ds) (h : YN K te σ H es) (hn : noLs es = true) (hz : ds.length + es.length ≤ 100000) (k : ∀ H1, Exb p H H1 → OL K H1 p (ds ++ es) → D.nx σ H1) :
    tDrop (tBM K "list" rExtend (tVar j) (tCons te tNil)) D σ H := by
  obtain ⟨vs, h1, h2, h3⟩ := hp
  refine ⟨.ref p, hj, Or.inl ⟨rfl, vs, sq_of h1⟩, h H (Ex.refl H) _ fun b ws H1 nb x hb hi => ?_⟩
  have hp1 := x p _ h1
  refine ⟨p, b, vs, ws, rfl, rfl, hp1, hb, by rw [h2.length, hi.length]; exact sz_of hz, k _ ((Exb.of_ex x).trans Exb.upd) ⟨_, upd_same, ?_, noLs_append h3 hn⟩⟩
  exact (IsDs.exb Exb.upd (lst_noTup hp1) ds vs h3 (IsDs.ex x ds vs h2)).append (IsDs.exb Exb.upd (lst_noTup hp1) es ws hn hi)
/-- xs.count(k) -/
theorem yd_count {ns : List Nat} {n : Nat} (h : YD K te σ H (.list (ns.map eN))) (hx : YD K tx σ H (eN n)) : YD K (tBM K "list" (rCntI K) te (tCons tx tNil)) σ H (eN (ns.count n)) := fun H1 e Q q => h H1 e _ fun v H2 e2 i2 => by
  obtain ⟨a, vs, rfl, ha, hi⟩ := i2
  have ei : ns.map eN = (ns.map fun n => ((n : Nat) : Int)).map PyData.int := by rw [List.map_map]; rfl
  rw [ei] at hi
  refine ⟨Or.inl ⟨rfl, vs, ha⟩, hx H2 (e.trans e2) _ fun w H3 e3 i3 => ?_⟩
  rw [hi.ints] at ha
  refine ⟨a, ns.map fun n => ((n : Nat) : Int), (n : Int), rfl, by rw [show w = V.int (n : Int) from i3], ex_l e3 ha, q _ H3 (e2.trans e3) ?_⟩
  have ec : (ns.map fun n => ((n : Nat) : Int)).count ((n : Nat) : Int) = ns.count n := by
    clear hi ha ei h hx q
    induction ns with
    | nil => rfl
    | cons m ns ih =>
      rw [List.map_cons, List.count_cons, List.count_cons, ih]
      by_cases e : m = n
      · simp [e]
      · have e' : ¬ ((m : Int) = (n : Int)) := by omega
        simp [e, e']
  show V.int _ = V.int _
  rw [ec]
/-- text[i] -/
theorem ixS {z : Str} {m c : Nat} (h : YD K te σ H (.str z)) (hi : YD K ti σ H (eN m)) (hz : z.length ≤ 100000) (e : z.cps.toList[m]? = some c) : YD K (tOp (rIx K) te ti) σ H (.str ⟨#[c]⟩) := yd_op h hi (rd_ixS hz (atI_nat e))
/-- n not in [..] -/
theorem ynin {ns : List Nat} {n : Nat} (h : YD K te σ H (eN n)) (hx : YD K tx σ H (.list (ns.map eN))) : YD K (tOp (rIn K true) te tx) σ H (.bool (!decide (n ∈ ns))) := yd_op h hx fun H1 x y hx hy Q q => by
  obtain ⟨a, vs, rfl, ha, hi⟩ := hy
  have ei : ns.map eN = (ns.map fun n => ((n : Nat) : Int)).map PyData.int := by rw [List.map_map]; rfl
  rw [ei] at hi
  rw [hi.ints] at ha
  rw [show x = V.int (n : Int) from hx]
  refine ⟨a, _, rfl, .inl ha, rfl, ?_, q _ H1 (Ex.refl H1) ?_⟩
  · exact List.all_eq_true.mpr fun v hv => by
      obtain ⟨i, _, rfl⟩ := List.mem_map.mp hv
      rfl
  · show V.bl (!inV (.int n) _) = _
    congr 2
    unfold inV
    rw [List.any_map, List.any_map]
    rw [Bool.eq_iff_iff]
    simp only [List.any_eq_true, decide_eq_true_eq, Function.comp]
    constructor
    · rintro ⟨k, hk, hk2⟩
      have : (k : Int) = (n : Int) := by simpa [eqV] using hk2
      have : k = n := by omega
      rw [← this]
      exact hk
    · intro hk
      exact ⟨n, hk, by simp [eqV]⟩
end
/-! ### zip in a comprehension -/
section
variable {K : PySem.W.Frag} {σ : L2.St} {H : Hp} {ta tb te : TE} {tt : TT} {ds es : List PyData}
theorem yn_lcZ {j l : Nat} {vs : List Nat} (c : Nat → PyData) (h : YD K ta σ H (.tuple ds)) (h' : YD K tb σ H (.tuple es)) (hl : ds.length = es.length) (hz : ds.length ≤ 40000) (hw : ∀ x y, wipe (((wipe σ vs).set j (some x)).set l (some y)) vs = wipe σ vs)
    (he : ∀ i d e u v H1, Ex H H1 → ds[i]? = some d → es[i]? = some e → IsD K H1 d u → IsD K H1 e v → YD K te (((wipe σ vs).set j (some u)).set l (some v)) H1 (c i)) (hn : ∀ i, i < ds.length → noL (c i) = true) :
    YN K (tLc (RZ.iZipA K (tCons ta (tCons tb tNil))) (gTup K 2 (gCons (gName j) (gCons (gName l) gNil))) tYes te vs) σ H ((List.range ds.length).map c) := fun H0 x0 Q q => h H0 x0 _ fun w H1 x1 hi => h' H1 (x0.trans x1) _ fun w' H2 x2 hi' => by
  obtain ⟨a, ws, rfl, hp, hi⟩ := IsD.ex x2 _ _ hi
  obtain ⟨b, us, rfl, hp', hi'⟩ := hi'
  refine ⟨a, b, ws, us, rfl, .inr ⟨st_of hp, st_of hp', fun Dl hD => lcl_it (n := ds.length) (fun i H' => Gw K H2 Dl i (fun _ => true) c H') ⟨hD, Ex.new hD, ⟨[], upd_same, rfl, rfl⟩⟩ (fun i H' hlt p => ?_) (fun H' p => ?_) (fun i H' v H'' hlt p y => ?_) (fun H' p => ?_)⟩⟩
  · obtain ⟨u, hu, _⟩ := hi.get (List.getElem?_eq_getElem hlt)
    obtain ⟨u', hu', _⟩ := hi'.get (List.getElem?_eq_getElem (hl ▸ hlt))
    exact ⟨ws, us, u, u', ex_t p.2.1 (st_of hp), ex_t p.2.1 (st_of hp'), hu, hu'⟩
  · exact ⟨ws, us, ex_t p.2.1 (st_of hp), ex_t p.2.1 (st_of hp'), .inl (Nat.le_of_eq hi.length)⟩
  · obtain ⟨T, u, u', rfl, nT, rfl, y1, y2⟩ := y
    obtain ⟨d, hd1, hd2⟩ := hi.getV (y1 ws (ex_t p.2.1 (st_of hp)))
    obtain ⟨e, he1, he2⟩ := hi'.getV (y2 us (ex_t p.2.1 (st_of hp')))
    have xT := p.2.1.trans (Ex.new (o := .tup [u, u']) nT)
    refine ⟨T, [u, u'], rfl, st_of upd_same, rfl, u, _, rfl, u', _, rfl, rfl, hw _ _, ?_⟩
    exact gw_turn p (Ex.new nT) (by omega) et_yes (fun _ => he i d e u u' _ (((x0.trans x1).trans x2).trans xT) hd1 he1 (IsD.ex xT d u hd2) (IsD.ex xT e u' he2)) (fun _ => hn i hlt)
  · obtain ⟨vs', k1, k2, _⟩ := p.2.2
    have e : compD ds.length (fun _ => true) c = (List.range ds.length).map c := by
      unfold compD
      rw [List.filter_eq_self.mpr fun _ _ => rfl]
    rw [e] at k2
    exact q Dl vs' H' (fresh_back (x1.trans x2) p.1) ((x1.trans x2).trans p.2.1) k1 k2
/-- compD by items -/
theorem compD_all {n : Nat} {c : Nat → PyData} : compD n (fun _ => true) c = (List.range n).map c := by
  unfold compD
  rw [List.filter_eq_self.mpr fun _ _ => rfl]
theorem compD_map {α : Type} (l : List α) (f : α → Bool) (g : α → PyData) (z : α) : compD l.length (fun i => f (l.getD i z)) (fun i => g (l.getD i z)) = (l.filter f).map g := by
  have e : l = (List.range l.length).map fun i => l.getD i z := by
    refine List.ext_getElem (by simp) fun i h1 h2 => ?_
    simp [List.getElem?_eq_getElem h1]
  unfold compD
  conv => rhs; rw [e, List.filter_map, List.map_map]
  rfl
end
end Ct

/-! # CtR1 -/
namespace Ct
open PySem PySem.Spec PyProof.Rows L2 Evl
section
variable {K : PySem.W.Frag} {σ : L2.St} {H : Hp} {te : TE} {vs : List V} {Q : VK}
/-- σ holds d at slot i -/
abbrev EndsOf (Q : VK) : Ends := { nx := fun _ H' => Q .non H', rt := Q }
theorem yi_int {i : Int} (h : YD K te σ H (.int i)) : YD K (tCB (rIsi K) (tCons te (tCons (tC (.ty "int")) tNil))) σ H (.bool true) := yd_isi h (show "int" ≠ "list" by decide) (show kitB "int" "int" = some true by decide +kernel)
theorem yi_bool {i : Int} (h : YD K te σ H (.int i)) : YD K (tCB (rIsi K) (tCons te (tCons (tC (.ty "bool")) tNil))) σ H (.bool false) := yd_isi h (show "int" ≠ "list" by decide) (show kitB "int" "bool" = some false by decide +kernel)
theorem yi_str {z : Str} (h : YD K te σ H (.str z)) : YD K (tCB (rIsi K) (tCons te (tCons (tC (.ty "str")) tNil))) σ H (.bool true) := yd_isi h (show "str" ≠ "list" by decide) (show kitB "str" "str" = some true by decide +kernel)
theorem yi_tup {ds : List PyData} (h : YD K te σ H (.tuple ds)) : YD K (tCB (rIsi K) (tCons te (tCons (tC (.ty "tuple")) tNil))) σ H (.bool true) := yd_isi h (show "tuple" ≠ "list" by decide) (show kitB "tuple" "tuple" = some true by decide +kernel)
/-! ### is_whole -/
abbrev sp_is_whole_forms (K : PySem.W.Frag) : Sp := SpT K (α := Int) (fun _ => True) (fun i => [.int i]) (fun _ r => r = .bool true)
abbrev sp_is_whole_cuts (K : PySem.W.Frag) : Sp := sp_is_whole_forms K
theorem rd_whole {x : Int} {v : V} (h : IsDs K H [.int x] vs) (q : ∀ d v H', Ex H H' → IsD K H' d v → d = .bool true → Q v H') (n : List Str) (hn : n.length = 1) :
    (tRet (tAndV (tCB (rIsi K) (tCons (tVar 0) (tCons (tC (.ty "int")) (tNil)))) (tNotV (tCB (rIsi K) (tCons (tVar 0) (tCons (tC (.ty "bool")) (tNil))))))) (EndsOf Q) (L2.start n vs) H := by
  obtain ⟨v, _, rfl, hv, rfl⟩ := h
  have e : L2.start n [v] = [some v] := by
    unfold L2.start
    rw [hn]
    rfl
  rw [e]
  exact s_ret (yd_andV (yi_int (yd_var rfl hv)) fun _ => yd_notV (yi_bool (yd_var rfl hv))) fun v H1 x hi => q _ v H1 x hi rfl
theorem rd_is_whole_forms {x : Int} (hc : True) (h : IsDs K H [.int x] vs) (q : ∀ d v H', Ex H H' → IsD K H' d v → d = .bool true → Q v H') : t_is_whole_forms K (EndsOf Q) (L2.start N_is_whole_forms vs) H := rd_whole (v := .non) h q _ rfl
theorem rd_is_whole_cuts {x : Int} (hc : True) (h : IsDs K H [.int x] vs) (q : ∀ d v H', Ex H H' → IsD K H' d v → d = .bool true → Q v H') : t_is_whole_cuts K (EndsOf Q) (L2.start N_is_whole_cuts vs) H := rd_whole (v := .non) h q _ rfl
/-! ### is_within -/
abbrev sp_is_within (K : PySem.W.Frag) : Sp := SpT K (α := Int × Int × Int) (fun _ => True) (fun x => [.int x.1, .int x.2.1, .int x.2.2]) (fun x r => r = .bool (decide (x.2.1 ≤ x.1) && decide (x.1 ≤ x.2.2)))
theorem rd_is_within {x : Int × Int × Int} (hc : True) (h : IsDs K H [.int x.1, .int x.2.1, .int x.2.2] vs) (q : ∀ d v H', Ex H H' → IsD K H' d v → d = .bool (decide (x.2.1 ≤ x.1) && decide (x.1 ≤ x.2.2)) → Q v H') :
    t_is_within K (sp_is_whole_forms K) (EndsOf Q) (L2.start N_is_within vs) H := by
  obtain ⟨v, _, rfl, hv, v2, _, rfl, hv2, v3, _, rfl, hv3, rfl⟩ := h
  refine s_ret (yd_andV (yc x.1 trivial (ya_cons (yd_var rfl hv) ya_nil) fun _ h => h) fun _ => ychain (yd_var rfl hv2) (yd_var rfl hv) (yd_var rfl hv3) (rd_I0 fun _ => rfl) (rd_I0 fun _ => rfl)) fun v H1 x hi => q _ v H1 x hi rfl
/-! ### is_word, is_sign, is_tuple -/
theorem sg_len (g : Sg) : (sgStr g).length = 1 := by cases g <;> decide +kernel
theorem sg_size (g : Sg) : (sgStr g).cps.size = 1 := by cases g <;> decide +kernel
theorem sg_in (g : Sg) {i k : Nat} (h : (sgStr g).cps[i]? = some k) : decide (k ∈ ("abcdefghijklmnopqrstuvwxyz" : Str).cps.toList) = true := by
  have hi : i = 0 := by
    have := (Array.getElem?_eq_some_iff.mp h).1
    rw [sg_size] at this
    omega
  subst hi
  cases g
  · have : k = 97 := (Option.some.inj (h.symm.trans (by decide +kernel : (sgStr .a).cps[0]? = some 97)))
    subst this
    decide +kernel
  · have : k = 98 := (Option.some.inj (h.symm.trans (by decide +kernel : (sgStr .b).cps[0]? = some 98)))
    subst this
    decide +kernel
  · have : k = 99 := (Option.some.inj (h.symm.trans (by decide +kernel : (sgStr .c).cps[0]? = some 99)))
    subst this
    decide +kernel
abbrev sp_is_word (K : PySem.W.Frag) : Sp := SpT K (α := Sg) (fun _ => True) (fun g => [eSg g]) (fun _ r => r = .bool true)
theorem ylenS {z : Str} (h : YD K te σ H (.str z)) (hz : z.length ≤ 100000) : YD K (tCB (rLenU K) (tCons te tNil)) σ H (eN z.length) := yd_cb (ya_cons h ya_nil) (rc_lenS hz)
theorem all_true (n : Nat) : ((List.range n).map fun _ => true).all id = true := List.all_eq_true.mpr fun b hb => by
  obtain ⟨_, _, rfl⟩ := List.mem_map.mp hb
  rfl
theorem yd_all {bs : List Bool} (h : YN K te σ H (bs.map .bool)) : YD K (tCB (rAll K) (tCons te tNil)) σ H (.bool (bs.all id)) := yd_cb (ya_cons h.yd ya_nil) rc_all
theorem compD_tt (n : Nat) : compD n (fun _ => true) (fun _ => PyData.bool true) = ((List.range n).map fun _ => true).map .bool := by
  rw [compD_all, List.map_map]
  rfl
theorem yd_allT {n : Nat} (h : YN K te σ H (compD n (fun _ => true) (fun _ => PyData.bool true))) : YD K (tCB (rAll K) (tCons te tNil)) σ H (.bool true) := by
  rw [compD_tt] at h
  exact (yd_all h).to (by rw [all_true])
theorem rd_is_word {x : Sg} (hc : True) (h : IsDs K H [eSg x] vs) (q : ∀ d v H', Ex H H' → IsD K H' d v → d = .bool true → Q v H') : t_is_word K (EndsOf Q) (L2.start N_is_word vs) H := by
  obtain ⟨v, _, rfl, hv, rfl⟩ := h
  have hl : (sgStr x).length ≤ 100000 := by rw [sg_len]; decide
  refine q_if (b := false) (et_is (et_or (et_not (yt_B (yi_str (yd_var rfl hv)))) fun _ => et_or (yt_test (nlt (ylenS (yd_var rfl hv) hl) (nlit 1))) fun _ => yt_test (ngt (ylenS (yd_var rfl hv) hl) (nlit 8))) (by rw [sg_len]; rfl)) (fun z => by cases z) fun _ H1 x1 => ?_
  have hv1 := IsD.ex x1 _ _ hv
  refine s_ret (yd_allT (yn_lcS (fun _ => true) (fun _ => .bool true) (yd_var rfl hv1) (by rw [sg_size]; decide) (fun _ => rfl) (fun _ _ _ _ _ => et_yes) (fun i k H2 x2 hk _ => ?_) fun _ _ _ => rfl)) fun v H2 x2 hi => q _ v H2 (x1.trans x2) hi rfl
  refine (yd_op (yd_var rfl (d := .str ⟨#[k]⟩) rfl) yd_str fun H3 a b ha hb Q' q' => ⟨k, _, ha, hb, q' _ H3 (Ex.refl H3) ?_⟩)
  show V.bl _ = V.bl true
  rw [sg_in x hk]
abbrev sp_is_sign (K : PySem.W.Frag) : Sp := sp_is_word K
theorem rd_is_sign {x : Sg} (hc : True) (h : IsDs K H [eSg x] vs) (q : ∀ d v H', Ex H H' → IsD K H' d v → d = .bool true → Q v H') : t_is_sign K (sp_is_word K) (EndsOf Q) (L2.start N_is_sign vs) H := by
  obtain ⟨v, _, rfl, hv, rfl⟩ := h
  have hl : (sgStr x).length ≤ 100000 := by rw [sg_len]; decide
  refine s_ret (yd_andV (yc x trivial (ya_cons (yd_var rfl hv) ya_nil) fun _ h => h) fun _ => neq (ylenS (yd_var rfl hv) hl) (nlit 1)) fun v H1 x1 hi => q _ v H1 x1 hi (by rw [sg_len]; rfl)
abbrev sp_is_tuple (K : PySem.W.Frag) : Sp := SpT K (α := List PyData × Nat) (fun x => x.1.length = x.2) (fun x => [.tuple x.1, eN x.2]) (fun _ r => r = .bool true)
theorem rd_is_tuple {x : List PyData × Nat} (hc : x.1.length = x.2) (h : IsDs K H [.tuple x.1, eN x.2] vs) (q : ∀ d v H', Ex H H' → IsD K H' d v → d = .bool true → Q v H') : t_is_tuple K (EndsOf Q) (L2.start N_is_tuple vs) H := by
  obtain ⟨v, _, rfl, hv, v2, _, rfl, hv2, rfl⟩ := h
  refine s_ret (yd_andV (yi_tup (yd_var rfl hv)) fun _ => neq (ylenT (yd_var rfl hv)) (yd_var rfl hv2)) fun v H1 x1 hi => q _ v H1 x1 hi (by rw [hc, decide_eq_true rfl]; rfl)
/-! ### answer -/
theorem rules_at {f : Form} {m : Nat} (h : m < f.rules.length) : ∃ ru, f.rules[m]? = some ru ∧ movesAt f m = ru.moves := ⟨_, List.getElem?_eq_getElem h, by unfold movesAt; rw [List.getElem?_eq_getElem h]⟩
theorem eO_some {α : Type} {e : α → PyData} {o : Option α} {a : α} (h : o = some a) : eO e o = e a := by rw [h]; rfl
abbrev sp_answer (K : PySem.W.Frag) : Sp := SpT K (α := Form × Nat × Nat × Cs) (fun x => x.2.1 < x.1.rules.length) (fun x => [eForm x.1, eN x.2.1, eN x.2.2.1, eCs x.2.2.2]) (fun x r => r = eO eAns (answerOf (movesAt x.1 x.2.1) x.2.2.1 x.2.2.2))
theorem find_drop {α : Type} {l : List α} {p : α → Bool} {i : Nat} {x : α} (h : l[i]? = some x) (hn : p x = false) (hf : l.find? p = (l.drop i).find? p) : l.find? p = (l.drop (i + 1)).find? p := by
  have hi := (List.getElem?_eq_some_iff.mp h)
  rw [hf, List.drop_eq_getElem_cons hi.1, hi.2, List.find?_cons_of_neg (by rw [hn]; decide)]
theorem find_here {α : Type} {l : List α} {p : α → Bool} {i : Nat} {x : α} (h : l[i]? = some x) (hn : p x = true) (hf : l.find? p = (l.drop i).find? p) : l.find? p = some x := by
  have hi := (List.getElem?_eq_some_iff.mp h)
  rw [hf, List.drop_eq_getElem_cons hi.1, hi.2, List.find?_cons_of_pos hn]
theorem find_end {α : Type} {l : List α} {p : α → Bool} (hf : l.find? p = (l.drop l.length).find? p) : l.find? p = none := by
  rw [hf, List.drop_length]
  rfl
theorem rd_answer {x : Form × Nat × Nat × Cs} (hc : x.2.1 < x.1.rules.length) (h : IsDs K H [eForm x.1, eN x.2.1, eN x.2.2.1, eCs x.2.2.2] vs) (q : ∀ d v H', Ex H H' → IsD K H' d v → d = eO eAns (answerOf (movesAt x.1 x.2.1) x.2.2.1 x.2.2.2) → Q v H') : t_answer K (EndsOf Q) (L2.start N_answer vs) H := by
  obtain ⟨f, m, st, c⟩ := x
  dsimp only at hc h q
  obtain ⟨v1, _, rfl, h1, v2, _, rfl, h2, v3, _, rfl, h3, v4, _, rfl, h4, rfl⟩ := h
  obtain ⟨ru, hru, hmv⟩ := rules_at hc
  rw [hmv] at q
  have hfm : ∀ mv, ru.moves.find? (fun mv => decide (mv.state = st ∧ mv.cause = c)) = some mv → answerOf ru.moves st c = some (mv.next, mv.sends, mv.word) := fun mv z => by
    unfold answerOf findMove
    rw [z]
  have hfn : ru.moves.find? (fun mv => decide (mv.state = st ∧ mv.cause = c)) = none → answerOf ru.moves st c = if c = .own then none else some (st, [], none) := fun z => by
    unfold answerOf findMove
    rw [z]
    cases c <;> rfl
  refine q_forT (ds := ru.moves.map eMove) (ix1 (ixM (g := eRule) (ix0 (yd_var rfl h1)) (yd_var rfl h2) hru)) (fun v i σ' H' => Ex H H' ∧ IsD K H' (.tuple (ru.moves.map eMove)) v ∧ (∃ o, σ' = [some v1, some v2, some v3, some v4, o]) ∧ ru.moves.find? (fun mv => decide (mv.state = st ∧ mv.cause = c)) = (ru.moves.drop i).find? fun mv => decide (mv.state = st ∧ mv.cause = c))
    (fun v H1 x1 hi => ⟨x1, hi, ⟨_, rfl⟩, rfl⟩) (fun v i σ' H' p => p.2.1) (fun w i d v σ' H' hd hv p => ?_) (fun w σ' H' p => ?_)
  · obtain ⟨x1, hw, ⟨o, rfl⟩, hf⟩ := p
    obtain ⟨mv, hmvi, rfl⟩ := map_get hd
    show _
    refine s_when (b := decide (mv.state = st) && decide (mv.cause = c)) (et_is (et_and (yt_test (neq (ix0 (yd_var rfl hv)) (yd_var rfl (IsD.ex x1 _ _ h3)))) fun _ => yt_test (yeqS (ix1 (yd_var rfl hv)) (yd_var rfl (IsD.ex x1 _ _ h4)))) (by rw [csStr_eq])) (fun hb H2 x2 => ?_) fun hb H2 x2 => ?_
    · have hv2 := IsD.ex x2 _ _ hv
      refine s_ret (yd_tup (ya_cons (ix2 (yd_var rfl hv2)) (ya_cons (ix3 (yd_var rfl hv2)) (ya_cons (ix4 (yd_var rfl hv2)) ya_nil))) (by simp)) fun v' H3 x3 hi => q _ v' H3 ((x1.trans x2).trans x3) hi ?_
      rw [hfm mv (find_here hmvi (by rw [Bool.and_eq_true, decide_eq_true_eq, decide_eq_true_eq] at hb; exact decide_eq_true hb) hf)]
      rfl
    · refine ⟨x1.trans x2, IsD.ex x2 _ _ hw, ⟨_, rfl⟩, find_drop hmvi (by
        rw [Bool.and_eq_false_iff, decide_eq_false_iff_not, decide_eq_false_iff_not] at hb
        exact decide_eq_false fun z => hb.elim (fun a => a z.1) fun a => a z.2) hf⟩
  · obtain ⟨x1, hw, ⟨o, rfl⟩, hf⟩ := p
    rw [List.length_map] at hf
    have hn := hfn (find_end hf)
    refine q_when (b := decide (c = .own)) (et_is (yt_test (yeqS (yd_var rfl (IsD.ex x1 _ _ h4)) yd_str)) (csStr_own c)) (fun hb H2 x2 => ?_) fun hb H2 x2 => ?_
    · refine s_ret yd_non fun v' H3 x3 hi => q _ v' H3 ((x1.trans x2).trans x3) hi ?_
      rw [hn, if_pos (of_decide_eq_true hb)]
      rfl
    · have x12 := x1.trans x2
      refine s_ret (yd_tup (ya_cons (yd_var rfl (IsD.ex x12 _ _ h3)) (ya_cons (yd_tup ya_nil (by simp)) (ya_cons yd_non ya_nil))) (by simp)) fun v' H3 x3 hi => q _ v' H3 (x12.trans x3) hi ?_
      rw [hn, if_neg (of_decide_eq_false hb)]
      rfl
end
end Ct

/-! # CtR2 -/
namespace Ct
open PySem PySem.Spec PyProof.Rows L2 Evl
theorem st_oc : decide (("own" : Str) = "come") = false := by decide +kernel
theorem st_hc : decide (("hear" : Str) = "come") = false := by decide +kernel
theorem st_cc : decide (("come" : Str) = "come") = true := by decide +kernel
theorem st_oo : decide (("own" : Str) = "own") = true := by decide +kernel
theorem st_ho : decide (("hear" : Str) = "own") = false := by decide +kernel
theorem st_co : decide (("come" : Str) = "own") = false := by decide +kernel
theorem st_oh : decide (("own" : Str) = "hear") = false := by decide +kernel
theorem st_hh : decide (("hear" : Str) = "hear") = true := by decide +kernel
theorem st_ch : decide (("come" : Str) = "hear") = false := by decide +kernel
theorem st_row (b : Bool) : decide (rowStr b = ("row" : Str)) = b := by cases b <;> decide +kernel
theorem isN_word (w : Option Str) : isNone (eWord w) = w.isNone := by cases w <;> rfl
theorem isN_cs (w : Option Cs) : isNone (eO eCs w) = w.isNone := by cases w <;> rfl
theorem isN_ans (w : Option Ans) : isNone (eO eAns w) = w.isNone := by cases w <;> rfl
def tagStr : Deed → Str
  | .own _ => "own"
  | .hear _ _ => "hear"
  | .come _ _ => "come"
def isCome : Deed → Bool
  | .come _ _ => true
  | _ => false
theorem tag_come (d : Deed) : decide (tagStr d = "come") = isCome d := by
  cases d with
  | own m => exact st_oc
  | hear m g => exact st_hc
  | come r k => exact st_cc
theorem loads_at {f : Form} {s : Stand} {r : Nat} (h : r < s.loads.length) : ∃ l, s.loads[r]? = some l ∧ waitsAt s r = l.waiting ∧ sentAt s r = l.sent := ⟨_, List.getElem?_eq_getElem h, by unfold waitsAt; rw [List.getElem?_eq_getElem h], by unfold sentAt; rw [List.getElem?_eq_getElem h]⟩
theorem roads_at {f : Form} {r : Nat} (h : r < f.roads.length) : ∃ rd, f.roads[r]? = some rd ∧ otherAt f r = rd.other ∧ rowAt f r = rd.row ∧ oneAt f r = rd.one := ⟨_, List.getElem?_eq_getElem h, by unfold otherAt; rw [List.getElem?_eq_getElem h], by unfold rowAt; rw [List.getElem?_eq_getElem h], by unfold oneAt; rw [List.getElem?_eq_getElem h]⟩
section
variable {K : PySem.W.Frag} {σ : L2.St} {H : Hp} {te : TE} {vs : List V} {Q : VK}
theorem ytag {d : Deed} (h : YD K te σ H (eDeed d)) : YD K (tOp (rIx K) te (tC (.int 0))) σ H (.str (tagStr d)) := by
  cases d with
  | own m => exact ix0 h
  | hear m g => exact ix0 h
  | come r k => exact ix0 h
/-! ### waits -/
abbrev sp_waits (K : PySem.W.Frag) : Sp := SpL K (α := Stand × Nat) (fun x => x.2 < x.1.loads.length) (fun x => [eStand x.1, eN x.2]) (fun x es => es = (waitsAt x.1 x.2).map eSend)
theorem rd_waits {x : Stand × Nat} (hc : x.2 < x.1.loads.length) (h : IsDs K H [eStand x.1, eN x.2] vs) (q : ∀ es ws p H', H p = Option.none → Ex H H' → H' p = some (.lst ws) → IsDs K H' es ws → es = (waitsAt x.1 x.2).map eSend → Q (.ref p) H') : t_waits K (EndsOf Q) (L2.start N_waits vs) H := by
  obtain ⟨v1, _, rfl, h1, v2, _, rfl, h2, rfl⟩ := h
  obtain ⟨l, hl, hw, _⟩ := loads_at (f := ⟨[], []⟩) hc
  rw [hw] at q
  exact s_retN (yn_listT (ds := l.waiting.map eSend) (ix1 (ixM (g := eLoad) (ix1 (yd_var rfl h1)) (yd_var rfl h2) hl))) fun p ws H1 np x1 hp hi => q _ ws p H1 np x1 hp hi rfl
/-! ### machine_of -/
abbrev sp_machine_of (K : PySem.W.Frag) : Sp := SpT K (α := Form × Deed) (fun x => DeedOk x.1 x.2) (fun x => [eForm x.1, eDeed x.2]) (fun x r => r = eN (machineOf x.1 x.2))
theorem rd_machine_of {x : Form × Deed} (hc : DeedOk x.1 x.2) (h : IsDs K H [eForm x.1, eDeed x.2] vs) (q : ∀ d v H', Ex H H' → IsD K H' d v → d = eN (machineOf x.1 x.2) → Q v H') : t_machine_of K (EndsOf Q) (L2.start N_machine_of vs) H := by
  obtain ⟨f, d⟩ := x
  dsimp only at hc h q
  obtain ⟨v1, _, rfl, h1, v2, _, rfl, h2, rfl⟩ := h
  refine q_when (b := isCome d) (et_is (yt_test (yeqS (ytag (yd_var rfl h2)) yd_str)) (tag_come d)) (fun hb H1 x1 => ?_) fun hb H1 x1 => ?_
  · cases d with
    | own m => cases hb
    | hear m g => cases hb
    | come r k =>
      obtain ⟨rd, hrd, ho, _⟩ := roads_at (show r < f.roads.length from hc)
      refine s_ret (d := eN rd.other) (ix1 (ixM (g := eRoad) (ix1 (yd_var rfl (IsD.ex x1 _ _ h1))) (ix1 (yd_var rfl (IsD.ex x1 _ _ h2))) hrd)) fun v H2 x2 hi => q _ v H2 (x1.trans x2) hi ?_
      show eN rd.other = eN (otherAt f r)
      rw [ho]
  · cases d with
    | own m => exact s_ret (d := eN m) (ix1 (yd_var rfl (IsD.ex x1 _ _ h2))) fun v H2 x2 hi => q _ v H2 (x1.trans x2) hi rfl
    | hear m g => exact s_ret (d := eN m) (ix1 (yd_var rfl (IsD.ex x1 _ _ h2))) fun v H2 x2 hi => q _ v H2 (x1.trans x2) hi rfl
    | come r k => cases hb
/-! ### cause_of -/
abbrev sp_cause_of (K : PySem.W.Frag) : Sp := SpT K (α := Form × Stand × Deed) (fun x => DeedOk x.1 x.2.2 ∧ Fit x.1 x.2.1) (fun x => [eForm x.1, eStand x.2.1, eDeed x.2.2]) (fun x r => r = eO eCs (causeOf x.1 x.2.1 x.2.2))
theorem rd_cause_of {x : Form × Stand × Deed} (hc : DeedOk x.1 x.2.2 ∧ Fit x.1 x.2.1) (h : IsDs K H [eForm x.1, eStand x.2.1, eDeed x.2.2] vs) (q : ∀ d v H', Ex H H' → IsD K H' d v → d = eO eCs (causeOf x.1 x.2.1 x.2.2) → Q v H') : t_cause_of K (sp_waits K) (EndsOf Q) (L2.start N_cause_of vs) H := by
  obtain ⟨f, s, d⟩ := x
  dsimp only at hc h q
  obtain ⟨hd, hf⟩ := hc
  obtain ⟨v1, _, rfl, h1, v2, _, rfl, h2, v3, _, rfl, h3, rfl⟩ := h
  cases d with
  | own m =>
    refine q_when (b := true) (et_is (yt_test (yeqS (ytag (yd_var rfl h3)) yd_str)) st_oo) (fun hb H1 x1 => ?_) fun hb => by cases hb
    exact s_ret yd_str fun v H2 x2 hi => q _ v H2 (x1.trans x2) hi rfl
  | hear m g =>
    refine q_when (b := false) (et_is (yt_test (yeqS (ytag (yd_var rfl h3)) yd_str)) st_ho) (fun hb => by cases hb) fun hb H1 x1 => ?_
    refine q_when (b := true) (et_is (yt_test (yeqS (ytag (yd_var rfl (IsD.ex x1 _ _ h3))) yd_str)) st_hh) (fun hb H2 x2 => ?_) fun hb => by cases hb
    exact s_ret (d := eSg g) (ix2 (yd_var rfl (IsD.ex (x1.trans x2) _ _ h3))) fun v H3 x3 hi => q _ v H3 ((x1.trans x2).trans x3) hi rfl
  | come r k =>
    have hr : r < f.roads.length := hd
    obtain ⟨rd, hrd, ho, hrow, _⟩ := roads_at hr
    refine q_when (b := false) (et_is (yt_test (yeqS (ytag (yd_var rfl h3)) yd_str)) st_co) (fun hb => by cases hb) fun hb H1 x1 => ?_
    refine q_when (b := false) (et_is (yt_test (yeqS (ytag (yd_var rfl (IsD.ex x1 _ _ h3))) yd_str)) st_ch) (fun hb => by cases hb) fun hb H2 x2 => ?_
    have x12 := x1.trans x2
    have h3' := IsD.ex x12 _ _ h3
    refine q_set (ycL (s, r) (show r < s.loads.length by rw [hf.2]; exact hr) (ya_cons (yd_var rfl (IsD.ex x12 _ _ h2)) (ya_cons (ix1 (yd_var rfl h3')) ya_nil)) fun _ h => h).yd fun vw H3 x3 hw => ?_
    have x13 := x12.trans x3
    have rest : ∀ vw H4, Ex H H4 → IsD K H4 (.list ((heads rd.row (waitsAt s r)).map eSend)) vw → (tSeq (tFor (iList K (tVar 3)) (gTup K 2 (gCons (gName 4) (gCons (gName 5) (gNil)))) (tIfS (tTest (tOp (rEqU K) (tVar 4) (tOp (rIx K) (tVar 2) (tC (.int 2))))) (tRet (tVar 5)) (tNext))) (tRet (tC .non))) (EndsOf Q) [some v1, some v2, some v3, some vw, none, none] H4 := fun vw H4 x4 hw => by
      have hcause : causeOf f s (.come r k) = ((heads rd.row (waitsAt s r)).find? fun p => decide (p.1 = k)).map fun p => .sg p.2 := by
        show ((heads (rowAt f r) (waitsAt s r)).find? _).map _ = _
        rw [hrow]
      rw [hcause] at q
      generalize heads rd.row (waitsAt s r) = w at hw q
      refine q_forL (a := 0) (yd_var rfl hw) (fun _ _ _ _ => trivial) (fun v i σ' H' => Ex H H' ∧ IsD K H' (.list (w.map eSend)) v ∧ (∃ o o2, σ' = [some v1, some v2, some v3, some vw, o, o2]) ∧ w.find? (fun p => decide (p.1 = k)) = (w.drop i).find? fun p => decide (p.1 = k))
        (fun v H5 x5 hi => ⟨x4.trans x5, hi, ⟨_, _, rfl⟩, rfl⟩) (fun v i σ' H' p => p.2.1) (fun w' i d v σ' H' hdi hv p => ?_) (fun w' σ' H' p => ?_)
      · obtain ⟨x5, hw', ⟨o, o2, rfl⟩, hfi⟩ := p
        obtain ⟨p, hpi, rfl⟩ := map_get hdi
        refine g_tup2 hv fun u1 u2 hu1 hu2 => ?_
        refine s_when (b := decide (p.1 = k)) (yt_test (neq (yd_var rfl hu1) (ix2 (yd_var rfl (IsD.ex x5 _ _ h3))))) (fun hb H6 x6 => ?_) fun hb H6 x6 => ?_
        · refine s_ret (yd_var rfl (IsD.ex x6 _ _ hu2)) fun v' H7 x7 hi => q _ v' H7 ((x5.trans x6).trans x7) hi ?_
          rw [find_here hpi hb hfi]
          rfl
        · exact ⟨x5.trans x6, IsD.ex x6 _ _ hw', ⟨_, _, rfl⟩, find_drop hpi hb hfi⟩
      · obtain ⟨x5, hw', ⟨o, o2, rfl⟩, hfi⟩ := p
        rw [List.length_map] at hfi
        refine s_ret yd_non fun v' H6 x6 hi => q _ v' H6 (x5.trans x6) hi ?_
        rw [find_end hfi]
        rfl
    refine q_when (b := rd.row) (et_is (yt_test (yeqS (ix2 (ixM (g := eRoad) (ix1 (yd_var rfl (IsD.ex x13 _ _ h1))) (ix1 (yd_var rfl (IsD.ex x13 _ _ h3))) hrd)) yd_str)) (st_row rd.row)) (fun hb H4 x4 => ?_) fun hb H4 x4 => ?_
    · refine s_set (yn_to (yd_var rfl (IsD.ex x4 _ _ hw)) (nlit 1)).yd fun v' H5 x5 hi => ?_
      refine rest v' H5 ((x13.trans x4).trans x5) ?_
      rw [hb]
      show IsD K H5 (.list (((waitsAt s r).take 1).map eSend)) v'
      rw [List.map_take]
      exact hi
    · refine rest vw H4 (x13.trans x4) ?_
      rw [hb]
      exact IsD.ex x4 _ _ hw
/-! ### answered, is_plain, can -/
theorem state_at {f : Form} {s : Stand} {m : Nat} (hf : Fit f s) (h : m < f.rules.length) : s.states[m]? = some (stateOf s m) := by
  have hm : m < s.states.length := by rw [hf.1]; exact h
  unfold stateOf
  rw [List.getD_eq_getElem?_getD, List.getElem?_eq_getElem hm]
  rfl
abbrev sp_answered (K : PySem.W.Frag) : Sp := SpT K (α := Form × Stand × Deed) (fun x => FormOk x.1 ∧ DeedOk x.1 x.2.2 ∧ Fit x.1 x.2.1) (fun x => [eForm x.1, eStand x.2.1, eDeed x.2.2]) (fun x r => r = eO eAns (answered x.1 x.2.1 x.2.2))
theorem rd_answered {x : Form × Stand × Deed} (hc : FormOk x.1 ∧ DeedOk x.1 x.2.2 ∧ Fit x.1 x.2.1) (h : IsDs K H [eForm x.1, eStand x.2.1, eDeed x.2.2] vs) (q : ∀ d v H', Ex H H' → IsD K H' d v → d = eO eAns (answered x.1 x.2.1 x.2.2) → Q v H') :
    t_answered K (sp_cause_of K) (sp_machine_of K) (sp_answer K) (EndsOf Q) (L2.start N_answered vs) H := by
  obtain ⟨f, s, d⟩ := x
  dsimp only at hc h q
  obtain ⟨ok, hd, hf⟩ := hc
  obtain ⟨v1, _, rfl, h1, v2, _, rfl, h2, v3, _, rfl, h3, rfl⟩ := h
  refine q_set (yc (f, s, d) ⟨hd, hf⟩ (ya_cons (yd_var rfl h1) (ya_cons (yd_var rfl h2) (ya_cons (yd_var rfl h3) ya_nil))) fun _ h => h) fun vc H1 x1 hcv => ?_
  refine q_when (yt_test (yisN (yd_var rfl hcv))) (fun hb H2 x2 => ?_) fun hb H2 x2 => ?_
  · rw [isN_cs, Option.isNone_iff_eq_none] at hb
    refine s_ret yd_non fun v H3 x3 hi => q _ v H3 ((x1.trans x2).trans x3) hi ?_
    unfold answered
    rw [hb]
    rfl
  · rw [isN_cs] at hb
    cases hcs : causeOf f s d with
    | none => rw [hcs] at hb; cases hb
    | some c =>
      rw [hcs] at hcv
      have x12 := x1.trans x2
      have ea : answered f s d = answerOf (movesAt f (machineOf f d)) (stateOf s (machineOf f d)) c := by
        unfold answered
        rw [hcs]
        rfl
      rw [ea] at q
      have hm := machine_lt ok hd
      refine q_set (yc (f, d) hd (ya_cons (yd_var rfl (IsD.ex x12 _ _ h1)) (ya_cons (yd_var rfl (IsD.ex x12 _ _ h3)) ya_nil)) fun _ h => h) fun vm H3 x3 hmv => ?_
      have x13 := x12.trans x3
      refine s_ret (yc (f, machineOf f d, stateOf s (machineOf f d), c) hm (ya_cons (yd_var rfl (IsD.ex x13 _ _ h1)) (ya_cons (yd_var rfl hmv) (ya_cons (ixM (g := eN) (ix0 (yd_var rfl (IsD.ex x13 _ _ h2))) (yd_var rfl hmv) (state_at hf hm)) (ya_cons (yd_var rfl (IsD.ex (x2.trans x3) _ _ hcv)) ya_nil)))) fun _ h => h) fun v H4 x4 hi => q _ v H4 (x13.trans x4) hi rfl
abbrev sp_is_plain (K : PySem.W.Frag) : Sp := SpT K (α := Form × Deed) (fun x => DeedOk x.1 x.2) (fun x => [eForm x.1, eDeed x.2]) (fun x r => r = .bool true)
theorem within_ok {m n : Nat} (h : m < n) : (decide ((0 : Int) ≤ (m : Int)) && decide ((m : Int) ≤ (n : Int) - 1)) = true := by
  rw [decide_eq_true (by omega), decide_eq_true (by omega)]
  rfl
theorem ytup_deed {d : Deed} (h : YD K te σ H (eDeed d)) : ∃ ds, YD K te σ H (.tuple ds) ∧ 2 ≤ ds.length := by
  cases d with
  | own m => exact ⟨_, h, by simp⟩
  | hear m g => exact ⟨_, h, by simp⟩
  | come r k => exact ⟨_, h, by simp⟩
theorem ywithin {tb : TE} {m n : Nat} (h : YD K te σ H (eN m)) (h2 : YD K tb σ H (eN n)) (hm : m < n) : YD K (tCall (sp_is_within K) [] E0 (tCons te (tCons (tC (.int 0)) (tCons (tOp (rSubI) tb (tC (.int 1))) (tNil))))) σ H (.bool true) :=
  yc ((m : Int), (0 : Int), (n : Int) - 1) trivial (ya_cons h (ya_cons yd_int (ya_cons (yd_op (r := rSubI) h2 yd_int (rd_I0 (f := .int ((n : Int) - 1)) fun _ => rfl)) ya_nil))) fun d' h => by rw [h, within_ok hm]
theorem rd_is_plain {x : Form × Deed} (hc : DeedOk x.1 x.2) (h : IsDs K H [eForm x.1, eDeed x.2] vs) (q : ∀ d v H', Ex H H' → IsD K H' d v → d = .bool true → Q v H') :
    t_is_plain K (sp_is_within K) (sp_is_sign K) (sp_is_tuple K) (sp_is_whole_forms K) (EndsOf Q) (L2.start N_is_plain vs) H := by
  obtain ⟨f, d⟩ := x
  dsimp only at hc h q
  obtain ⟨v1, _, rfl, h1, v2, _, rfl, h2, rfl⟩ := h
  obtain ⟨ds, hds, hl⟩ := ytup_deed (d := d) (te := tVar 1) (σ := [some v1, some v2]) (yd_var rfl h2)
  refine q_if (b := false) (et_is (et_or (et_not (yt_B (yi_tup hds))) fun _ => et_or (yt_test (nlt (ylenT hds) (nlit 2))) fun _ => et_not (yt_B (yi_str (ytag (yd_var rfl h2))))) (by rw [decide_eq_false (by omega)]; rfl)) (fun hb => by cases hb) fun hb H1 x1 => ?_
  cases d with
  | own m =>
    refine q_when (b := true) (et_is (yt_test (yeqS (ytag (yd_var rfl (IsD.ex x1 _ _ h2))) yd_str)) st_oo) (fun hb H2 x2 => ?_) fun hb => by cases hb
    have h1' := IsD.ex (x1.trans x2) _ _ h1
    have h2' := IsD.ex (x1.trans x2) _ _ h2
    exact s_ret (yd_andV (neq (ylenT (yd_var rfl h2')) (nlit 2)) fun _ => ywithin (ix1 (yd_var rfl h2')) (ylenTM (ix0 (yd_var rfl h1'))) hc) fun v H3 x3 hi => q _ v H3 ((x1.trans x2).trans x3) hi rfl
  | hear m g =>
    refine q_when (b := false) (et_is (yt_test (yeqS (ytag (yd_var rfl (IsD.ex x1 _ _ h2))) yd_str)) st_ho) (fun hb => by cases hb) fun hb H2 x2 => ?_
    refine q_when (b := true) (et_is (yt_test (yeqS (ytag (yd_var rfl (IsD.ex (x1.trans x2) _ _ h2))) yd_str)) st_hh) (fun hb H3 x3 => ?_) fun hb => by cases hb
    have xx := (x1.trans x2).trans x3
    have h1' := IsD.ex xx _ _ h1
    have h2' := IsD.ex xx _ _ h2
    exact s_ret (yd_andV (neq (ylenT (yd_var rfl h2')) (nlit 3)) fun _ => yd_andV (ywithin (ix1 (yd_var rfl h2')) (ylenTM (ix0 (yd_var rfl h1'))) hc) fun _ => yc g trivial (ya_cons (ix2 (yd_var rfl h2')) ya_nil) fun _ h => h) fun v H4 x4 hi => q _ v H4 (xx.trans x4) hi rfl
  | come r k =>
    refine q_when (b := false) (et_is (yt_test (yeqS (ytag (yd_var rfl (IsD.ex x1 _ _ h2))) yd_str)) st_co) (fun hb => by cases hb) fun hb H2 x2 => ?_
    refine q_when (b := false) (et_is (yt_test (yeqS (ytag (yd_var rfl (IsD.ex (x1.trans x2) _ _ h2))) yd_str)) st_ch) (fun hb => by cases hb) fun hb H3 x3 => ?_
    have xx := (x1.trans x2).trans x3
    have h1' := IsD.ex xx _ _ h1
    have h2' := IsD.ex xx _ _ h2
    refine s_ret (yd_andV (yeqS (ix0 (yd_var rfl h2')) yd_str) fun _ => yd_andV (yc (_, 3) rfl (ya_cons (yd_var rfl h2') (ya_cons (nlit 3) ya_nil)) fun _ h => h) fun _ => yd_andV (ywithin (ix1 (yd_var rfl h2')) (ylenTM (ix1 (yd_var rfl h1'))) hc) fun _ => yc (k : Int) trivial (ya_cons (ix2 (yd_var rfl h2')) ya_nil) fun _ h => h) fun v H4 x4 hi => q _ v H4 (xx.trans x4) hi ?_
    rw [st_cc]
    rfl
abbrev sp_can (K : PySem.W.Frag) : Sp := SpT K (α := Form × Stand × Deed) (fun x => FormOk x.1 ∧ DeedOk x.1 x.2.2 ∧ Fit x.1 x.2.1) (fun x => [eForm x.1, eStand x.2.1, eDeed x.2.2]) (fun x r => r = .bool (answered x.1 x.2.1 x.2.2).isSome)
theorem rd_can {x : Form × Stand × Deed} (hc : FormOk x.1 ∧ DeedOk x.1 x.2.2 ∧ Fit x.1 x.2.1) (h : IsDs K H [eForm x.1, eStand x.2.1, eDeed x.2.2] vs) (q : ∀ d v H', Ex H H' → IsD K H' d v → d = .bool (answered x.1 x.2.1 x.2.2).isSome → Q v H') :
    t_can K (sp_is_plain K) (sp_answered K) (EndsOf Q) (L2.start N_can vs) H := by
  obtain ⟨v1, _, rfl, h1, v2, _, rfl, h2, v3, _, rfl, h3, rfl⟩ := h
  refine s_ret (yd_andV (yc (x.1, x.2.2) hc.2.1 (ya_cons (yd_var rfl h1) (ya_cons (yd_var rfl h3) ya_nil)) fun _ h => h) fun _ => ynotN (yc x hc (ya_cons (yd_var rfl h1) (ya_cons (yd_var rfl h2) (ya_cons (yd_var rfl h3) ya_nil))) fun _ h => h)) fun v H1 x1 hi => q _ v H1 x1 hi ?_
  rw [isN_ans]
  cases answered x.1 x.2.1 x.2.2 <;> rfl
end
end Ct

/-! # CtR3 -/
namespace Ct
open PySem PySem.Spec PyProof.Rows L2 Evl
section
variable {K : PySem.W.Frag} {σ : L2.St} {H : Hp} {te ti tx : TE} {vs : List V} {Q : VK} {D : Ends} {tz tb : TS} {g : TG} {ds : List PyData} {d x : PyData}
/-- over a list in a slot -/
theorem q_forLv {j : Nat} {v : V} (hj : σ[j]? = some (some v)) (hv : IsD K H (.list ds) v) (Pv : Nat → L2.St → Hp → Prop) (h0 : Pv 0 σ H) (hG : ∀ i σ' H', Pv i σ' H' → IsD K H' (.list ds) v)
    (hs : ∀ i d u σ' H', ds[i]? = some d → IsD K H' d u → Pv i σ' H' → g u σ' H' fun σ2 H2 => tb { D with nx := Pv (i + 1), ct := Pv (i + 1), bk := tz D } σ2 H2) (hd : ∀ σ' H', Pv ds.length σ' H' → tz D σ' H') :
    tSeq (tFor (iList K (tVar j)) g tb) tz D σ H := by
  obtain ⟨a, vs, rfl, hp, hi'⟩ := id hv
  refine ⟨_, hj, a, rfl, ⟨vs, hp⟩, loop_it (n := ds.length) (D := { D with nx := tz D }) Pv h0 (fun i σ' H' hlt p => ?_) (fun σ' H' p => ?_) (fun i σ' H' v H'' hlt p y => ?_) hd⟩
  · obtain ⟨b, ws, e1, h2, h3⟩ := hG i σ' H' p
    cases e1
    obtain ⟨w, hw, _⟩ := h3.get (List.getElem?_eq_getElem hlt)
    exact ⟨ws, w, h2, hw⟩
  · obtain ⟨b, ws, e1, h2, h3⟩ := hG _ σ' H' p
    cases e1
    exact ⟨ws, h2, Nat.le_of_eq h3.length⟩
  · obtain ⟨b, ws, e1, h2, h3⟩ := hG i σ' H' p
    cases e1
    obtain ⟨rfl, y⟩ := y
    obtain ⟨d, hd1, hd2⟩ := h3.getV (y ws h2)
    exact hs i d v σ' H'' hd1 hd2 p
theorem q_forEv {j jj l : Nat} {v : V} (hj : σ[j]? = some (some v)) (hv : IsD K H (.list ds) v) (Pv : Nat → L2.St → Hp → Prop) (h0 : Pv 0 σ H) (hG : ∀ i σ' H', Pv i σ' H' → IsD K H' (.list ds) v)
    (hs : ∀ i d u σ' H' H'', ds[i]? = some d → Pv i σ' H' → Ex H' H'' → IsD K H'' d u → tb { D with nx := Pv (i + 1), ct := Pv (i + 1), bk := tz D } ((σ'.set jj (some (.int (i : Int)))).set l (some u)) H'') (hd : ∀ σ' H', Pv ds.length σ' H' → tz D σ' H') :
    tSeq (tFor (iEnum K (tCons (tVar j) tNil)) (gTup K 2 (gCons (gName jj) (gCons (gName l) gNil))) tb) tz D σ H := by
  obtain ⟨a, vs, rfl, hp, hi'⟩ := id hv
  refine ⟨_, hj, a, vs, rfl, hp, loop_it (n := ds.length) (D := { D with nx := tz D }) Pv h0 (fun i σ' H' hlt p => ?_) (fun σ' H' p => ?_) (fun i σ' H' v H'' hlt p y => ?_) hd⟩
  · obtain ⟨b, ws, e1, h2, h3⟩ := hG i σ' H' p
    cases e1
    obtain ⟨w, hw, _⟩ := h3.get (List.getElem?_eq_getElem hlt)
    exact ⟨ws, w, h2, hw⟩
  · obtain ⟨b, ws, e1, h2, h3⟩ := hG _ σ' H' p
    cases e1
    exact ⟨ws, h2, Nat.le_of_eq h3.length⟩
  · obtain ⟨b, ws, e1, h2, h3⟩ := hG i σ' H' p
    cases e1
    obtain ⟨T, u, rfl, nT, rfl, y⟩ := y
    obtain ⟨d, hd1, hd2⟩ := h3.getV (y ws h2)
    exact ⟨T, [.int (i : Int), u], rfl, st_of upd_same, rfl, _, _, rfl, _, _, rfl, rfl, hs i d u σ' H' _ hd1 p (Ex.new nT) (IsD.ex (Ex.new nT) d u hd2)⟩
theorem flat_rep {α : Type} (x : α) : ∀ n : Nat, (List.replicate n [x]).flatten = List.replicate n x
  | 0 => rfl
  | n + 1 => by
    rw [List.replicate_succ, List.flatten_cons, flat_rep x n, List.replicate_succ]
    rfl
/-- [x] * n -/
theorem yn_rep {n : Nat} (hx : YD K tx σ H x) (h : YD K te σ H (eN n)) (hn : n ≤ 100000) : YN K (tOp (rTimes K) (tLst (tCons tx tNil)) te) σ H (List.replicate n x) := fun H1 e Q q =>
  yn_lst (ya_cons hx ya_nil) (by simp) H1 e _ fun p vs H2 np e2 hp hi => h H2 (e.trans e2) _ fun w H3 e3 i3 => by
    obtain ⟨u, _, rfl, hu, rfl⟩ := hi
    refine .inr (.inl ⟨p, (n : Int), [u], rfl, i3, e3 p _ hp, by omega, by omega, ?_, fun p2 np2 => ?_⟩)
    · rw [Int.toNat_natCast]
      show 1 * n ≤ _
      rw [Nat.one_mul]
      exact sz_of hn
    · rw [Int.toNat_natCast]
      refine q p2 _ _ (fresh_back (e2.trans e3) np2) ((e2.trans e3).trans (Ex.new np2)) upd_same ?_
      rw [← flat_rep]
      exact isDs_rep (isDs_one (IsD.ex (e3.trans (Ex.new np2)) _ _ hu)) n |> fun z => by rw [flat_rep] at z ⊢; exact z
theorem getD_of {α : Type} {l : List α} {i : Nat} {x z : α} (h : l[i]? = some x) : l.getD i z = x := by
  rw [List.getD_eq_getElem?_getD, h]
  rfl
/-! ### taken_out -/
abbrev eLoads (ls : List Load) : PyData := .tuple (ls.map eLoad)
abbrev sp_taken_out (K : PySem.W.Frag) : Sp := SpT K (α := List Load × Nat × Nat) (fun x => x.2.1 < x.1.length ∧ x.1.length ≤ 1000 ∧ ∀ l ∈ x.1, l.waiting.length ≤ 1000) (fun x => [eLoads x.1, eN x.2.1, eN x.2.2]) (fun x r => r = eLoads (takeOut x.1 x.2.1 x.2.2))
theorem yn_keep {j : Nat} {vs : List Nat} {tl : TE} {tt : TT} {w : List (Nat × Sg)} (f : Nat × Sg → Bool) (h : YD K tl σ H (.tuple (w.map eSend))) (hz : w.length ≤ 40000) (hw : ∀ x, wipe ((wipe σ vs).set j (some x)) vs = wipe σ vs) (hj : ∀ v, ((wipe σ vs).set j (some v))[j]? = some (some v))
    (ht : ∀ p v H1, Ex H H1 → IsD K H1 (eSend p) v → EvT tt ((wipe σ vs).set j (some v)) H1 (f p)) :
    YN K (tLc (iTup K tl) (gName j) tt (tVar j) vs) σ H ((w.filter f).map eSend) := by
  rw [← compD_map w f eSend (0, .a), ← List.length_map (as := w) eSend]
  refine yn_lcT _ _ h (by rw [List.length_map]; exact hz) hw (fun i d v H1 x hi hv => ?_) (fun i d v H1 x hi hv _ => ?_) fun i _ _ => noL_send _
  · obtain ⟨p, hp, rfl⟩ := map_get hi
    rw [getD_of hp]
    exact ht p v H1 x hv
  · obtain ⟨p, hp, rfl⟩ := map_get hi
    rw [getD_of hp]
    exact yd_var (hj v) hv
theorem rd_taken_out {x : List Load × Nat × Nat} (hc : x.2.1 < x.1.length ∧ x.1.length ≤ 1000 ∧ ∀ l ∈ x.1, l.waiting.length ≤ 1000) (h : IsDs K H [eLoads x.1, eN x.2.1, eN x.2.2] vs) (q : ∀ d v H', Ex H H' → IsD K H' d v → d = eLoads (takeOut x.1 x.2.1 x.2.2) → Q v H') :
    t_taken_out K (EndsOf Q) (L2.start N_taken_out vs) H := by
  obtain ⟨ls, r, k⟩ := x
  dsimp only at hc h q
  obtain ⟨v1, _, rfl, h1, v2, _, rfl, h2, v3, _, rfl, h3, rfl⟩ := h
  obtain ⟨hr, hz, hw⟩ := hc
  obtain ⟨l, hl⟩ : ∃ l, ls[r]? = some l := ⟨_, List.getElem?_eq_getElem hr⟩
  have hlw := hw l (List.mem_of_getElem? hl)
  refine q_unp2 (d1 := eN l.sent) (d2 := .tuple (l.waiting.map eSend)) (ixM (g := eLoad) (yd_var rfl h1) (yd_var rfl h2) hl) fun u1 u2 H1 x1 hu1 hu2 => ?_
  refine q_set (yd_tupL (yn_keep (w := l.waiting) (fun p => !decide (p.1 = k)) (yd_var rfl hu2) (by omega) (fun _ => rfl) (fun _ => rfl) fun p v H2 x2 hv => yt_test (nne (ix0 (yd_var rfl hv)) (yd_var rfl (IsD.ex (x1.trans x2) _ _ h3)))).yd) fun u3 H2 x2 hu3 => ?_
  have x12 := x1.trans x2
  refine s_ret (yd_repl (x := eLoad ⟨l.sent, l.waiting.filter fun p => !decide (p.1 = k)⟩) (yd_var rfl (IsD.ex x12 _ _ h1)) (yd_var rfl (IsD.ex x12 _ _ h2)) (yd_tup (ya_cons (yd_var rfl (IsD.ex x2 _ _ hu1)) (ya_cons (yd_var rfl hu3) ya_nil)) (by simp)) (by rw [List.length_map]; exact hr) (by rw [List.length_map]; omega)) fun v H3 x3 hi => q _ v H3 (x12.trans x3) hi ?_
  have e : takeOut ls r k = ls.set r ⟨l.sent, l.waiting.filter fun p => !decide (p.1 = k)⟩ := by
    unfold takeOut
    rw [hl]
    show ls.set r ⟨l.sent, l.waiting.filter fun p => decide (¬ p.1 = k)⟩ = _
    congr 2
    exact List.filter_congr fun p _ => by rw [decide_not]
  rw [e]
  show PyData.tuple _ = PyData.tuple _
  rw [List.map_set]
/-! ### sent_out -/
abbrev sp_sent_out (K : PySem.W.Frag) : Sp := SpT K (α := List Load × List (Nat × Sg)) (fun x => (∀ p ∈ x.2, p.1 < x.1.length) ∧ x.1.length ≤ 1000 ∧ x.2.length ≤ 1000 ∧ ∀ l ∈ x.1, l.waiting.length ≤ 1000) (fun x => [eLoads x.1, .tuple (x.2.map eSend)]) (fun x r => r = eLoads (sendOut x.1 x.2))
theorem sendOut_snoc (ls : List Load) (ps : List (Nat × Sg)) (p : Nat × Sg) : sendOut ls (ps ++ [p]) = sendOne (sendOut ls ps) p := List.foldl_append ..
theorem rd_sent_out {x : List Load × List (Nat × Sg)} (hc : (∀ p ∈ x.2, p.1 < x.1.length) ∧ x.1.length ≤ 1000 ∧ x.2.length ≤ 1000 ∧ ∀ l ∈ x.1, l.waiting.length ≤ 1000) (h : IsDs K H [eLoads x.1, .tuple (x.2.map eSend)] vs) (q : ∀ d v H', Ex H H' → IsD K H' d v → d = eLoads (sendOut x.1 x.2) → Q v H') :
    t_sent_out K (EndsOf Q) (L2.start N_sent_out vs) H := by
  obtain ⟨ls, ps⟩ := x
  dsimp only at hc h q
  obtain ⟨v1, _, rfl, h1, v2, _, rfl, h2, rfl⟩ := h
  obtain ⟨hp, hz, hps, hw⟩ := hc
  refine q_forT (ds := ps.map eSend) (yd_var rfl h2) (fun v i σ' H' => Ex H H' ∧ IsD K H' (.tuple (ps.map eSend)) v ∧ ∃ vl o1 o2 o3 o4, σ' = [some vl, some v2, o1, o2, o3, o4] ∧ IsD K H' (eLoads (sendOut ls (ps.take i))) vl)
    (fun v H1 x1 hi => ⟨x1, hi, v1, _, _, _, _, rfl, IsD.ex x1 _ _ h1⟩) (fun v i σ' H' p => p.2.1) (fun w i d v σ' H' hd hv p => ?_) (fun w σ' H' p => ?_)
  · obtain ⟨x1, hw', vl, o1, o2, o3, o4, rfl, hvl⟩ := p
    obtain ⟨⟨r, sg⟩, hpi, rfl⟩ := map_get hd
    have hr : r < (sendOut ls (ps.take i)).length := by
      rw [sendOut_length]
      exact hp _ (List.mem_of_getElem? hpi)
    obtain ⟨l, hl⟩ : ∃ l, (sendOut ls (ps.take i))[r]? = some l := ⟨_, List.getElem?_eq_getElem hr⟩
    have hlw : l.waiting.length ≤ 2000 := by
      rw [sendOut_at] at hl
      obtain ⟨l0, h0, e⟩ := Option.map_eq_some_iff.mp hl
      have z0 := hw l0 (List.mem_of_getElem? h0)
      have z1 := onRoad_len r (ps.take i)
      rw [List.length_take] at z1
      rw [← e]
      show (l0.waiting ++ numbered _ _).length ≤ 2000
      rw [List.length_append, numbered_len]
      omega
    refine g_tup2 hv fun u1 u2 hu1 hu2 => ?_
    refine q_unp2 (d1 := eN l.sent) (d2 := .tuple (l.waiting.map eSend)) (ixM (g := eLoad) (yd_var rfl hvl) (yd_var rfl hu1) hl) fun u3 u4 H1 x2 hu3 hu4 => ?_
    refine s_set (yd_repl (x := eLoad ⟨l.sent + 1, l.waiting ++ [(l.sent, sg)]⟩) (yd_var rfl (IsD.ex x2 _ _ hvl)) (yd_var rfl (IsD.ex x2 _ _ hu1)) (yd_tup (ya_cons (nadd (yd_var rfl hu3) (nlit 1)) (ya_cons ?_ ya_nil)) (by simp)) (by rw [List.length_map]; exact hr) (by rw [List.length_map, sendOut_length]; omega)) fun v' H2 x3 hi => ?_
    · refine (yd_op (yd_var rfl hu4) (yd_tup (ya_cons (yd_tup (ya_cons (yd_var rfl hu3) (ya_cons (yd_var rfl (IsD.ex x2 _ _ hu2)) ya_nil)) (by simp)) ya_nil) (by simp)) (rd_addT ?_)).to ?_
      · rw [List.length_map]
        show _ + 1 ≤ _
        omega
      · rw [List.map_append]
        rfl
    · refine ⟨(x1.trans x2).trans x3, IsD.ex (x2.trans x3) _ _ hw', v', _, _, _, _, rfl, ?_⟩
      rw [Wd.take_snoc hpi, sendOut_snoc]
      have e : sendOne (sendOut ls (ps.take i)) (r, sg) = (sendOut ls (ps.take i)).set r ⟨l.sent + 1, l.waiting ++ [(l.sent, sg)]⟩ := by
        unfold sendOne
        rw [hl]
      rw [e]
      show IsD K H2 (.tuple (List.map eLoad (List.set _ _ _))) v'
      rw [List.map_set]
      exact hi
  · obtain ⟨x1, hw', vl, o1, o2, o3, o4, rfl, hvl⟩ := p
    refine s_ret (yd_var rfl hvl) fun v H2 x2 hi => q _ v H2 (x1.trans x2) hi ?_
    rw [List.take_of_length_le (by rw [List.length_map]; exact Nat.le_refl _)]
/-! ### done -/
abbrev eTold (m : Nat) (w : Option Str) : PyData := eO (fun w => .tuple [eN m, .str w]) w
abbrev sp_done (K : PySem.W.Frag) : Sp := SpT K (α := Form × Stand × Deed × Ans) (fun x => FormOk x.1 ∧ DeedOk x.1 x.2.2.1 ∧ StOk x.1 900 x.2.1 ∧ answered x.1 x.2.1 x.2.2.1 = some x.2.2.2) (fun x => [eForm x.1, eStand x.2.1, eDeed x.2.2.1])
  (fun x r => r = .tuple [eStand (applyA x.1 x.2.1 x.2.2.1 x.2.2.2), eTold (machineOf x.1 x.2.2.1) x.2.2.2.2.2])
theorem rd_done {x : Form × Stand × Deed × Ans} (hc : FormOk x.1 ∧ DeedOk x.1 x.2.2.1 ∧ StOk x.1 900 x.2.1 ∧ answered x.1 x.2.1 x.2.2.1 = some x.2.2.2) (h : IsDs K H [eForm x.1, eStand x.2.1, eDeed x.2.2.1] vs)
    (q : ∀ d v H', Ex H H' → IsD K H' d v → d = .tuple [eStand (applyA x.1 x.2.1 x.2.2.1 x.2.2.2), eTold (machineOf x.1 x.2.2.1) x.2.2.2.2.2] → Q v H') :
    t_done K (sp_can K) (sp_answered K) (sp_machine_of K) (sp_taken_out K) (sp_sent_out K) (EndsOf Q) (L2.start N_done vs) H := by
  obtain ⟨f, s, d, a⟩ := x
  dsimp only at hc h q
  obtain ⟨ok, hd, hs, ha⟩ := hc
  obtain ⟨v1, _, rfl, h1, v2, _, rfl, h2, v3, _, rfl, h3, rfl⟩ := h
  have hf := hs.fit
  have hm := machine_lt ok hd
  obtain ⟨_, a2, a3⟩ := ans_ok ok hs ha
  have lw : ∀ l ∈ s.loads, l.waiting.length ≤ 900 := fun l hl => by
    obtain ⟨i, hi⟩ := List.mem_iff_getElem?.mp hl
    exact (hs.ld i l hi).wn
  have ll : s.loads.length ≤ 8 := by rw [hf.2]; exact ok.rfew
  refine q_if (b := false) (et_is (et_not (yt_B (yc (f, s, d) ⟨ok, hd, hf⟩ (ya_cons (yd_var rfl h1) (ya_cons (yd_var rfl h2) (ya_cons (yd_var rfl h3) ya_nil))) fun _ h => h))) (by rw [ha]; rfl)) (fun hb => by cases hb) fun _ H1 x1 => ?_
  refine q_unp3 (te := tCall (sp_answered K) [] E0 _) (d1 := eN a.1) (d2 := .tuple (a.2.1.map eSend)) (d3 := eWord a.2.2) (yc (f, s, d) ⟨ok, hd, hf⟩ (ya_cons (yd_var rfl (IsD.ex x1 _ _ h1)) (ya_cons (yd_var rfl (IsD.ex x1 _ _ h2)) (ya_cons (yd_var rfl (IsD.ex x1 _ _ h3)) ya_nil))) fun d' h => by rw [h, ha]; rfl) fun u1 u2 u3 H2 x2 hu1 hu2 hu3 => ?_
  have x12 := x1.trans x2
  refine q_set (yc (f, d) hd (ya_cons (yd_var rfl (IsD.ex x12 _ _ h1)) (ya_cons (yd_var rfl (IsD.ex x12 _ _ h3)) ya_nil)) fun _ h => h) fun u4 H3 x3 hu4 => ?_
  have x13 := x12.trans x3
  refine q_set (yd_repl (x := eN a.1) (r := machineOf f d) (ix0 (yd_var rfl (IsD.ex x13 _ _ h2))) (yd_var rfl hu4) (yd_var rfl (IsD.ex x3 _ _ hu1)) (by rw [List.length_map, hf.1]; exact hm) (by rw [List.length_map, hf.1]; have := ok.few; omega)) fun u5 H4 x4 hu5 => ?_
  rw [← List.map_set] at hu5
  have x14 := x13.trans x4
  have rest : ∀ u6 H5, Ex H4 H5 → IsD K H5 (eLoads (loadsFor s d)) u6 → tSeq (tAsg (tC .non) (gName 9)) (tSeq (tIfS (tTest (tOp rNotNo (tVar 5) (tC .non))) (tAsg (tTup (tCons (tVar 6) (tCons (tVar 5) (tNil)))) (gName 9)) (tNext)) (tRet (tTup (tCons (tTup (tCons (tVar 7) (tCons (tCall (sp_sent_out K) [] E0 (tCons (tVar 8) (tCons (tVar 4) (tNil)))) (tNil)))) (tCons (tVar 9) (tNil)))))) (EndsOf Q) [some v1, some v2, some v3, some u1, some u2, some u3, some u4, some u5, some u6, none] H5 := fun u6 H5 x5 hu6 => by
    have rest2 : ∀ u7 H6, Ex H5 H6 → IsD K H6 (eTold (machineOf f d) a.2.2) u7 → tRet (tTup (tCons (tTup (tCons (tVar 7) (tCons (tCall (sp_sent_out K) [] E0 (tCons (tVar 8) (tCons (tVar 4) (tNil)))) (tNil)))) (tCons (tVar 9) (tNil)))) (EndsOf Q) [some v1, some v2, some v3, some u1, some u2, some u3, some u4, some u5, some u6, some u7] H6 := fun u7 H6 x6 hu7 => by
      have x56 := x5.trans x6
      refine s_ret (yd_tup (ya_cons (d := eStand (applyA f s d a)) (yd_tup (ya_cons (yd_var rfl (IsD.ex x56 _ _ hu5)) (ya_cons (yc (loadsFor s d, a.2.1) ⟨fun p hp => ?_, ?_, by show a.2.1.length ≤ 1000; omega, fun l hl => ?_⟩ (ya_cons (yd_var rfl (IsD.ex x6 _ _ hu6)) (ya_cons (yd_var rfl (IsD.ex ((x3.trans x4).trans x56) _ _ hu2)) ya_nil)) fun _ h => h) ya_nil)) (by simp)) (ya_cons (yd_var rfl hu7) ya_nil)) (by simp)) fun v H7 x7 hi => q _ v H7 ((x14.trans x56).trans x7) hi rfl
      · show p.1 < (loadsFor s d).length
        rw [loadsFor_length, hf.2]
        exact (a3 p hp).1
      · show (loadsFor s d).length ≤ 1000
        rw [loadsFor_length]
        omega
      · obtain ⟨i, hi⟩ := List.mem_iff_getElem?.mp hl
        rw [loadsFor_at] at hi
        obtain ⟨l0, h0, e⟩ := Option.map_eq_some_iff.mp hi
        have := lw l0 (List.mem_of_getElem? h0)
        have z := List.length_filter_le (fun p : Nat × Sg => decide (p.1 ∉ comesOf i d)) l0.waiting
        rw [← e]
        show (l0.waiting.filter _).length ≤ 1000
        omega
    refine q_set (K := K) yd_non fun u7 H6 x6 hu7 => ?_
    refine q_when (yt_test (ynotN (yd_var rfl (IsD.ex ((x3.trans x4).trans (x5.trans x6)) _ _ hu3)))) (fun hb H7 x7 => ?_) fun hb H7 x7 => ?_
    · rw [isN_word] at hb
      have hu3' := IsD.ex ((x3.trans x4).trans ((x5.trans x6).trans x7)) _ _ hu3
      cases hw : a.2.2 with
      | none => rw [hw] at hb; cases hb
      | some w =>
        refine s_set (yd_tup (ya_cons (yd_var rfl (IsD.ex (x4.trans ((x5.trans x6).trans x7)) _ _ hu4)) (ya_cons (yd_var rfl hu3') ya_nil)) (by simp)) fun v H8 x8 hi => rest2 v H8 ((x6.trans x7).trans x8) ?_
        rw [hw] at hi ⊢
        exact hi
    · rw [isN_word] at hb
      refine rest2 u7 H7 (x6.trans x7) ?_
      cases hw : a.2.2 with
      | some w => rw [hw] at hb; cases hb
      | none => exact IsD.ex x7 _ _ hu7
  refine q_set (ix1 (yd_var rfl (IsD.ex x14 _ _ h2))) fun u6 H5 x5 hu6 => ?_
  refine q_when (b := isCome d) (et_is (yt_test (yeqS (ytag (yd_var rfl (IsD.ex (x14.trans x5) _ _ h3))) yd_str)) (tag_come d)) (fun hb H6 x6 => ?_) fun hb H6 x6 => ?_
  · cases d with
    | own m => cases hb
    | hear m g => cases hb
    | come r k =>
      have h3' := IsD.ex ((x14.trans x5).trans x6) _ _ h3
      refine s_set (yc (s.loads, r, k) ⟨by show r < s.loads.length; rw [hf.2]; exact hd, by show s.loads.length ≤ 1000; omega, fun l hl => by have := lw l hl; omega⟩ (ya_cons (yd_var rfl (IsD.ex x6 _ _ hu6)) (ya_cons (ix1 (yd_var rfl h3')) (ya_cons (ix2 (yd_var rfl h3')) ya_nil))) fun _ h => h) fun v H7 x7 hi => ?_
      exact rest v H7 ((x5.trans x6).trans x7) hi
  · refine rest u6 H6 (x5.trans x6) ?_
    cases d with
    | own m => exact IsD.ex x6 _ _ hu6
    | hear m g => exact IsD.ex x6 _ _ hu6
    | come r k => cases hb
end
end Ct

/-! # CtR4 -/
namespace Ct
open PySem PySem.Spec PyProof.Rows L2 Evl
open Run (dsOf)
abbrev eDeeds (ds : List Deed) : PyData := .list (ds.map eDeed)
def cnts (g : Nat → Nat) (n : Nat) : List PyData := (List.range n).map fun m => eN (g m)
theorem cnts_len {g : Nat → Nat} {n : Nat} : (cnts g n).length = n := by unfold cnts; rw [List.length_map, List.length_range]
theorem cnts_at {g : Nat → Nat} {n m : Nat} (h : m < n) : (cnts g n)[m]? = some (eN (g m)) := by
  unfold cnts
  rw [List.getElem?_map, List.getElem?_range h]
  rfl
theorem cnts_set {g g' : Nat → Nat} {n m : Nat} {k : Nat} (hm : g' m = k) (ho : ∀ m', m' ≠ m → g' m' = g m') : (cnts g n).set m (eN k) = cnts g' n := by
  refine List.ext_getElem? fun i => ?_
  by_cases hi : i < n
  · by_cases e : i = m
    · subst e
      rw [List.getElem?_set_self (by rw [cnts_len]; exact hi), cnts_at hi, hm]
    · rw [List.getElem?_set_ne (Ne.symm e), cnts_at hi, cnts_at hi, ho i e]
  · rw [List.getElem?_eq_none (by rw [List.length_set, cnts_len]; omega), List.getElem?_eq_none (by rw [cnts_len]; omega)]
theorem noLs_cnts {g : Nat → Nat} {n : Nat} : noLs (cnts g n) = true := noLs_map (fun _ => rfl) _
theorem cnt_take {f : Form} {ds : List Deed} {i : Nat} {d : Deed} (h : ds[i]? = some d) (m : Nat) : cntOf f (ds.take (i + 1)) m = if m = machineOf f d then cntOf f (ds.take i) m + 1 else cntOf f (ds.take i) m := by
  rw [Wd.take_snoc h]
  exact cnt_snoc f (ds.take i) d m
theorem ev_take {f : Form} {ds : List Deed} {i : Nat} {d : Deed} (h : ds[i]? = some d) : eventsOf f (ds.take (i + 1)) = eventsOf f (ds.take i) ++ [(machineOf f d, cntOf f (ds.take i) (machineOf f d))] := by
  rw [Wd.take_snoc h]
  exact events_snoc f (ds.take i) d
section
variable {K : PySem.W.Frag} {σ : L2.St} {H : Hp} {te ti tx : TE} {vs : List V} {Q : VK} {D : Ends} {tz tb : TS} {g : TG} {d x : PyData}
/-! ### run -/
abbrev sp_run (K : PySem.W.Frag) : Sp := SpT K (α := Form × Stand × List Ev) (fun x => Good x.1 x.2.1 x.2.2) (fun x => [eForm x.1, eStand x.2.1, eDeeds (dsOf x.2.2)]) (fun _ _ => True)
theorem after_take {f : Form} {base : Stand} {log : List Ev} {i : Nat} {e : Ev} (h : log[i]? = some e) : after f base (log.take (i + 1)) = applyA f (after f base (log.take i)) e.1 e.2 := by
  rw [Wd.take_snoc h]
  exact after_snoc f (log.take i) base e
theorem rd_run {x : Form × Stand × List Ev} (hc : Good x.1 x.2.1 x.2.2) (h : IsDs K H [eForm x.1, eStand x.2.1, eDeeds (dsOf x.2.2)] vs) (q : ∀ d v H', Ex H H' → IsD K H' d v → True → Q v H') :
    t_run K (sp_can K) (sp_done K) (EndsOf Q) (L2.start N_run vs) H := by
  obtain ⟨f, base, log⟩ := x
  dsimp only at hc h q
  obtain ⟨v1, _, rfl, h1, v2, _, rfl, h2, v3, _, rfl, h3, rfl⟩ := h
  refine q_setN (K := K) (yn_lst ya_nil (by simp)) rfl fun p H1 np x1 hp => ?_
  refine q_forEv (j := 2) (v := v3) (ds := (dsOf log).map eDeed) rfl (IsD.ex x1 _ _ h3) (fun i σ' H' => Ex H H' ∧ ∃ vst ws o1 o2 o3, σ' = [some v1, some vst, some v3, some (.ref p), o1, o2, o3] ∧ IsD K H' (eStand (after f base (log.take i))) vst ∧ OL K H' p ws ∧ ws.length ≤ i)
    ⟨x1, v2, _, _, _, _, rfl, IsD.ex x1 _ _ h2, hp, Nat.zero_le _⟩ (fun i σ' H' p => IsD.ex p.1 _ _ h3) (fun i d u σ' H' H'' hd hi x2 hu => ?_) (fun σ' H' hi => ?_)
  · obtain ⟨x3, vst, ws, o1, o2, o3, rfl, hst, hws, hl⟩ := hi
    have hlt : i < (dsOf log).length := by
      have := (List.getElem?_eq_some_iff.mp hd).1
      rw [List.length_map] at this
      exact this
    obtain ⟨dd, hdd, rfl⟩ := map_get hd
    obtain ⟨e, he, rfl⟩ : ∃ e, log[i]? = some e ∧ dd = e.1 := by
      rw [List.getElem?_map] at hdd
      obtain ⟨e, h1, h2⟩ := Option.map_eq_some_iff.mp hdd
      exact ⟨e, h1, h2.symm⟩
    have hde := hc.de e (List.mem_of_getElem? he)
    have hs := hc.at_ i
    have ha := runLog_at hc.run he
    have x4 := x3.trans x2
    refine q_if (b := false) (et_is (et_not (yt_B (yc (f, after f base (log.take i), e.1) ⟨hc.form, hde, hs.fit⟩ (ya_cons (yd_var rfl (IsD.ex x4 _ _ h1)) (ya_cons (yd_var rfl (IsD.ex x2 _ _ hst)) (ya_cons (yd_var rfl hu) ya_nil))) fun _ h => h))) (by rw [ha]; rfl)) (fun hb => by cases hb) fun _ H2 x5 => ?_
    have x6 := x4.trans x5
    refine q_unp2 (te := tCall (sp_done K) [] E0 _) (d1 := eStand (applyA f (after f base (log.take i)) e.1 e.2)) (d2 := eTold (machineOf f e.1) e.2.2.2) (yc (f, after f base (log.take i), e.1, e.2) ⟨hc.form, hde, hs.mono (by decide), ha⟩ (ya_cons (yd_var rfl (IsD.ex x6 _ _ h1)) (ya_cons (yd_var rfl (IsD.ex (x2.trans x5) _ _ hst)) (ya_cons (yd_var rfl (IsD.ex x5 _ _ hu)) ya_nil))) fun _ h => h) fun u1 u2 H3 x7 hu1 hu2 => ?_
    have hws3 := ((hws.ex x2).ex x5).ex x7
    have est : after f base (log.take (i + 1)) = applyA f (after f base (log.take i)) e.1 e.2 := after_take he
    refine s_when (yt_test (ynotN (yd_var rfl hu2))) (fun hb H4 x8 => ?_) fun hb H4 x8 => ?_
    · refine s_app (p := p) (ds := ws) rfl (hws3.ex x8) (yd_var rfl (IsD.ex x8 _ _ hu2)) (by cases e.2.2.2 <;> rfl) (by have := hc.few; rw [List.length_map] at hlt; omega) fun H5 xb hp5 => ?_
      refine ⟨Ex.exb ((x6.trans x7).trans x8) xb np, u1, _, _, _, _, rfl, ?_, hp5, ?_⟩
      · rw [est]
        exact IsD.exb xb (hws3.ex x8).noTup _ _ (noL_stand _) (IsD.ex x8 _ _ hu1)
      · rw [List.length_append]
        show _ + 1 ≤ _
        omega
    · refine ⟨(x6.trans x7).trans x8, u1, ws, _, _, _, rfl, ?_, hws3.ex x8, by omega⟩
      rw [est]
      exact IsD.ex x8 _ _ hu1
  · obtain ⟨x3, vst, ws, o1, o2, o3, rfl, hst, hws, hl⟩ := hi
    exact s_ret (yd_tup (ya_cons (yd_var rfl hst) (ya_cons (yd_var rfl hws.isD) ya_nil)) (by simp)) fun v H4 x4 hi => q _ v H4 (x3.trans x4) hi trivial
/-! ### events_of, ends_of_run -/
def DsOk (f : Form) (ds : List Deed) : Prop := FormOk f ∧ (∀ d ∈ ds, DeedOk f d) ∧ ds.length ≤ 1000
abbrev sp_events_of (K : PySem.W.Frag) : Sp := SpL K (α := Form × List Deed) (fun x => DsOk x.1 x.2) (fun x => [eForm x.1, eDeeds x.2]) (fun x es => es = (eventsOf x.1 x.2).map eEv)
theorem noLs_evs (l : List (Nat × Nat)) : noLs (l.map eEv) = true := noLs_map noL_ev l
/-- the count of events, in step -/
theorem rd_events_of {x : Form × List Deed} (hc : DsOk x.1 x.2) (h : IsDs K H [eForm x.1, eDeeds x.2] vs) (q : ∀ es ws p H', H p = Option.none → Ex H H' → H' p = some (.lst ws) → IsDs K H' es ws → es = (eventsOf x.1 x.2).map eEv → Q (.ref p) H') :
    t_events_of K (sp_machine_of K) (EndsOf Q) (L2.start N_events_of vs) H := by
  obtain ⟨f, ds⟩ := x
  dsimp only at hc h q
  obtain ⟨v1, _, rfl, h1, v2, _, rfl, h2, rfl⟩ := h
  obtain ⟨ok, hds, hz⟩ := hc
  have hn4 := ok.few
  refine q_setN (ds := cnts (fun m => cntOf f (ds.take 0) m) f.rules.length) ((yn_lcT (ds := f.rules.map eRule) (fun _ => true) (fun _ => eN 0) (ix0 (yd_var rfl h1)) (by rw [List.length_map]; omega) (fun _ => rfl) (fun _ _ _ _ _ _ _ => et_yes) (fun _ _ _ _ _ _ _ _ => nlit 0) fun _ _ _ => rfl).to (by rw [compD_all, List.length_map]; rfl)) noLs_cnts fun p H1 np x1 hp => ?_
  refine q_setN (K := K) (yn_lst ya_nil (by simp)) rfl fun p' H2 np' x2 hp' => ?_
  have hne : p ≠ p' := hp.ne np'
  have np0 : H p' = Option.none := fresh_back x1 np'
  refine q_forLv (j := 1) (v := v2) (ds := ds.map eDeed) rfl (IsD.ex (x1.trans x2) _ _ h2) (fun i σ' H' => Ex H H' ∧ (∃ o4 o5, σ' = [some v1, some v2, some (.ref p), some (.ref p'), o4, o5, none]) ∧ OL K H' p (cnts (fun m => cntOf f (ds.take i) m) f.rules.length) ∧ OL K H' p' ((eventsOf f (ds.take i)).map eEv))
    ⟨x1.trans x2, ⟨_, _, rfl⟩, hp.ex x2, hp'⟩ (fun i σ' H' p => IsD.ex p.1 _ _ h2) (fun i d u σ' H' hd hu hi => ?_) (fun σ' H' hi => ?_)
  · obtain ⟨x3, ⟨o4, o5, rfl⟩, k1, k2⟩ := hi
    obtain ⟨dd, hdd, rfl⟩ := map_get hd
    have hm := machine_lt ok (hds dd (List.mem_of_getElem? hdd))
    have hlt := (List.getElem?_eq_some_iff.mp hdd).1
    refine q_set (yc (f, dd) (hds dd (List.mem_of_getElem? hdd)) (ya_cons (yd_var rfl (IsD.ex x3 _ _ h1)) (ya_cons (yd_var rfl hu) ya_nil)) fun _ h => h) fun um H3 x4 hum => ?_
    refine q_app (p := p') (ds := (eventsOf f (ds.take i)).map eEv) (d := eEv (machineOf f dd, cntOf f (ds.take i) (machineOf f dd))) rfl (k2.ex x4) (yd_tup (ya_cons (yd_var rfl hum) (ya_cons (ixL (yd_var rfl (k1.ex x4).isD) (yd_var rfl hum) (cnts_at hm)) ya_nil)) (by simp)) rfl (by rw [List.length_map, events_length, List.length_take]; omega) fun H4 xb k3 => ?_
    have k4 : OL K H4 p (cnts (fun m => cntOf f (ds.take i) m) f.rules.length) := OL.exb xb (k2.ex x4).noTup hne (k1.ex x4)
    refine s_setL (p := p) (ds := cnts (fun m => cntOf f (ds.take i) m) f.rules.length) (m := machineOf f dd) rfl k4 (nadd (ixL (yd_var rfl k4.isD) (yd_var rfl hum) (cnts_at hm)) (nlit 1)) (yd_var rfl hum) (by rw [cnts_len]; exact hm) rfl fun H5 xb2 k5 => ?_
    refine ⟨Ex.exb (Ex.exb (x3.trans x4) xb np0) xb2 np, ⟨_, _, rfl⟩, ?_, ?_⟩
    · rw [cnts_set (g' := fun m => cntOf f (ds.take (i + 1)) m) (by show cntOf f _ _ = _; rw [cnt_take hdd, if_pos rfl]) (fun m' hm' => by show cntOf f _ _ = _; rw [cnt_take hdd, if_neg hm'])] at k5
      exact k5
    · rw [ev_take hdd, List.map_append]
      exact OL.exb xb2 k4.noTup (Ne.symm hne) k3
  · obtain ⟨x3, ⟨o4, o5, rfl⟩, k1, k2⟩ := hi
    rw [List.length_map, List.take_length] at k2
    obtain ⟨ws, w1, w2, w3⟩ := id k2
    exact ⟨.ref p', rfl, q _ ws p' H' np0 x3 w1 w2 rfl⟩
abbrev eCut (g : Nat → Nat) (n : Nat) : PyData := .tuple (cnts g n)
abbrev sp_ends_of_run (K : PySem.W.Frag) : Sp := SpT K (α := Form × List Deed) (fun x => DsOk x.1 x.2) (fun x => [eForm x.1, eDeeds x.2]) (fun x r => r = eCut (cntOf x.1 x.2) x.1.rules.length)
theorem cnts_zero {f : Form} (ds : List Deed) (n : Nat) : List.replicate n (.int 0) = cnts (fun m => cntOf f (ds.take 0) m) n := by
  refine List.ext_getElem? fun i => ?_
  by_cases hi : i < n
  · rw [cnts_at hi, List.getElem?_replicate, if_pos hi]
    rfl
  · rw [List.getElem?_eq_none (by rw [List.length_replicate]; omega), List.getElem?_eq_none (by rw [cnts_len]; omega)]
theorem rd_ends_of_run {x : Form × List Deed} (hc : DsOk x.1 x.2) (h : IsDs K H [eForm x.1, eDeeds x.2] vs) (q : ∀ d v H', Ex H H' → IsD K H' d v → d = eCut (cntOf x.1 x.2) x.1.rules.length → Q v H') :
    t_ends_of_run K (sp_events_of K) (EndsOf Q) (L2.start N_ends_of_run vs) H := by
  obtain ⟨f, ds⟩ := x
  dsimp only at hc h q
  obtain ⟨v1, _, rfl, h1, v2, _, rfl, h2, rfl⟩ := h
  obtain ⟨ok, hds, hz⟩ := id hc
  have hn4 := ok.few
  refine q_setN (ds := cnts (fun m => cntOf f (ds.take 0) m) f.rules.length) ((yn_rep yd_int (ylenTM (ix0 (yd_var rfl h1))) (by omega)).to (cnts_zero ds _)) noLs_cnts fun p H1 np x1 hp => ?_
  refine q_forN (ds := (eventsOf f ds).map eEv) (ycL (f, ds) hc (ya_cons (yd_var rfl (IsD.ex x1 _ _ h1)) (ya_cons (yd_var rfl (IsD.ex x1 _ _ h2)) ya_nil)) fun _ h => h) (noLs_evs _) (fun a i σ' H' => a ≠ p ∧ Ex H H' ∧ (∃ o3 o4, σ' = [some v1, some v2, some (.ref p), o3, o4]) ∧ OL K H' a ((eventsOf f ds).map eEv) ∧ OL K H' p (cnts (fun m => cntOf f (ds.take i) m) f.rules.length))
    (fun a H2 na x2 ha => ⟨Ne.symm (hp.ne na), x1.trans x2, ⟨_, _, rfl⟩, ha, hp.ex x2⟩) (fun a i σ' H' p => p.2.2.2.1.isD) (fun a i d v σ' H' na hd hv hi => ?_) (fun a σ' H' hi => ?_)
  · obtain ⟨hne, x3, ⟨o3, o4, rfl⟩, k1, k2⟩ := hi
    obtain ⟨ev, hev, rfl⟩ := map_get hd
    have hlt : i < ds.length := by
      have := (List.getElem?_eq_some_iff.mp hev).1
      rw [events_length] at this
      exact this
    have hdd : ds[i]? = some ds[i] := List.getElem?_eq_getElem hlt
    have e := hev.symm.trans (events_at (f := f) hdd)
    cases Option.some.inj e
    have hm := machine_lt ok (hds _ (List.mem_of_getElem? hdd))
    refine g_tup2 hv fun u1 u2 hu1 hu2 => ?_
    refine s_setL (p := p) (ds := cnts (fun m => cntOf f (ds.take i) m) f.rules.length) (m := machineOf f ds[i]) rfl k2 (nadd (yd_var rfl hu2) (nlit 1)) (yd_var rfl hu1) (by rw [cnts_len]; exact hm) rfl fun H5 xb k5 => ?_
    refine ⟨hne, Ex.exb x3 xb np, ⟨_, _, rfl⟩, OL.exb xb k2.noTup hne k1, ?_⟩
    rw [cnts_set (g' := fun m => cntOf f (ds.take (i + 1)) m) (by show cntOf f _ _ = _; rw [cnt_take hdd, if_pos rfl]) (fun m' hm' => by show cntOf f _ _ = _; rw [cnt_take hdd, if_neg hm'])] at k5
    exact k5
  · obtain ⟨hne, x3, ⟨o3, o4, rfl⟩, k1, k2⟩ := hi
    rw [List.length_map, events_length, List.take_length] at k2
    exact s_ret (yd_tupL (yd_var rfl k2.isD)) fun v H4 x4 hi => q _ v H4 (x3.trans x4) hi rfl
/-! ### is_in, deeds_in, through -/
abbrev sp_is_in (K : PySem.W.Frag) : Sp := SpT K (α := (Nat × Nat) × (Nat → Nat) × Nat) (fun x => x.1.1 < x.2.2) (fun x => [eEv x.1, eCut x.2.1 x.2.2]) (fun x r => r = .bool (decide (x.1.2 < x.2.1 x.1.1)))
theorem rd_is_in {x : (Nat × Nat) × (Nat → Nat) × Nat} (hc : x.1.1 < x.2.2) (h : IsDs K H [eEv x.1, eCut x.2.1 x.2.2] vs) (q : ∀ d v H', Ex H H' → IsD K H' d v → d = .bool (decide (x.1.2 < x.2.1 x.1.1)) → Q v H') :
    t_is_in K (EndsOf Q) (L2.start N_is_in vs) H := by
  obtain ⟨v1, _, rfl, h1, v2, _, rfl, h2, rfl⟩ := h
  exact s_ret (nlt (ix1 (yd_var rfl h1)) (ixT (yd_var rfl h2) (ix0 (yd_var rfl h1)) (cnts_at hc))) fun v H1 x1 hi => q _ v H1 x1 hi rfl
theorem inCut_at {evs : List (Nat × Nat)} {cut : Nat → Nat} {j : Nat} {e : Nat × Nat} (h : evs[j]? = some e) : inCut evs cut j = decide (e.2 < cut e.1) := by
  unfold inCut
  rw [h]
theorem ev_lt {f : Form} {ds : List Deed} (hc : DsOk f ds) {j : Nat} {e : Nat × Nat} (h : (eventsOf f ds)[j]? = some e) : e.1 < f.rules.length := by
  have hlt : j < ds.length := by
    have := (List.getElem?_eq_some_iff.mp h).1
    rw [events_length] at this
    exact this
  have hdd : ds[j]? = some ds[j] := List.getElem?_eq_getElem hlt
  have e' := h.symm.trans (events_at (f := f) hdd)
  cases Option.some.inj e'
  exact machine_lt hc.1 (hc.2.1 _ (List.mem_of_getElem? hdd))
abbrev sp_deeds_in (K : PySem.W.Frag) : Sp := SpL K (α := Form × List Deed × (Nat → Nat)) (fun x => DsOk x.1 x.2.1) (fun x => [eForm x.1, eDeeds x.2.1, eCut x.2.2 x.1.rules.length]) (fun x es => es = (insideTo (eventsOf x.1 x.2.1) x.2.2 x.2.1.length).map eN)
theorem rd_deeds_in {x : Form × List Deed × (Nat → Nat)} (hc : DsOk x.1 x.2.1) (h : IsDs K H [eForm x.1, eDeeds x.2.1, eCut x.2.2 x.1.rules.length] vs) (q : ∀ es ws p H', H p = Option.none → Ex H H' → H' p = some (.lst ws) → IsDs K H' es ws → es = (insideTo (eventsOf x.1 x.2.1) x.2.2 x.2.1.length).map eN → Q (.ref p) H') :
    t_deeds_in K (sp_events_of K) (sp_is_in K) (EndsOf Q) (L2.start N_deeds_in vs) H := by
  obtain ⟨f, ds, cut⟩ := x
  dsimp only at hc h q
  obtain ⟨v1, _, rfl, h1, v2, _, rfl, h2, v3, _, rfl, h3, rfl⟩ := h
  refine q_set (ycL (f, ds) hc (ya_cons (yd_var rfl h1) (ya_cons (yd_var rfl h2) ya_nil)) fun _ h => h).yd fun ve H1 x1 hve => ?_
  have hl : (eventsOf f ds).length ≤ 1000 := by rw [events_length]; exact hc.2.2
  refine s_retN (ds := (insideTo (eventsOf f ds) cut ds.length).map eN) ((yn_lcR (n := (eventsOf f ds).length) (inCut (eventsOf f ds) cut) eN (ylenLM (yd_var rfl hve)) (by omega) (fun _ => rfl) (fun i H2 x2 hi => ?_) (fun i H2 x2 hi _ => yd_var rfl rfl) fun _ _ _ => rfl).to (by rw [events_length]; rfl)) fun p ws H2 np x2 hp hi => q _ ws p H2 (fresh_back x1 np) (x1.trans x2) hp hi rfl
  obtain ⟨e, he⟩ : ∃ e, (eventsOf f ds)[i]? = some e := ⟨_, List.getElem?_eq_getElem hi⟩
  rw [inCut_at he]
  exact yt_B (yc (e, cut, f.rules.length) (ev_lt hc he) (ya_cons (ixLM (g := eEv) (yd_var rfl (IsD.ex x2 _ _ hve)) (yd_var rfl rfl) he) (ya_cons (yd_var rfl (IsD.ex (x1.trans x2) _ _ h3)) ya_nil)) fun _ h => h)
theorem yn_cat {j l : Nat} {p p' : Addr} {ds es : List PyData} (hj : σ[j]? = some (some (.ref p))) (hl : σ[l]? = some (some (.ref p'))) (h : OL K H p ds) (h' : OL K H p' es) (hz : ds.length + es.length ≤ 100000) : YN K (tOp (rPlus K) (tVar j) (tVar l)) σ H (ds ++ es) := fun H1 e Q q => by
  obtain ⟨us, a1, a2, _⟩ := h.ex e
  obtain ⟨ws, b1, b2, _⟩ := h'.ex e
  refine ⟨_, hj, _, hl, .inr (.inr ⟨p, p', us, ws, rfl, rfl, a1, b1, by rw [a2.length, b2.length]; exact sz_of hz, fun q' nq => ?_⟩)⟩
  exact q q' _ _ nq (Ex.new nq) upd_same ((IsDs.ex (Ex.new nq) _ _ a2).append (IsDs.ex (Ex.new nq) _ _ b2))
abbrev sp_through (K : PySem.W.Frag) : Sp := SpT K (α := Form × Stand × List Deed × (Nat → Nat)) (fun x => DsOk x.1 x.2.2.1) (fun x => [eForm x.1, eStand x.2.1, eDeeds x.2.2.1, eCut x.2.2.2 x.1.rules.length])
  (fun x r => r = .tuple [.tuple ((insideTo (eventsOf x.1 x.2.2.1) x.2.2.2 x.2.2.1.length ++ outsideTo (eventsOf x.1 x.2.2.1) x.2.2.2 x.2.2.1.length).map eN), eN (insideTo (eventsOf x.1 x.2.2.1) x.2.2.2 x.2.2.1.length).length])
theorem rd_through {x : Form × Stand × List Deed × (Nat → Nat)} (hc : DsOk x.1 x.2.2.1) (h : IsDs K H [eForm x.1, eStand x.2.1, eDeeds x.2.2.1, eCut x.2.2.2 x.1.rules.length] vs)
    (q : ∀ d v H', Ex H H' → IsD K H' d v → d = .tuple [.tuple ((insideTo (eventsOf x.1 x.2.2.1) x.2.2.2 x.2.2.1.length ++ outsideTo (eventsOf x.1 x.2.2.1) x.2.2.2 x.2.2.1.length).map eN), eN (insideTo (eventsOf x.1 x.2.2.1) x.2.2.2 x.2.2.1.length).length] → Q v H') :
    t_through K (sp_deeds_in K) (EndsOf Q) (L2.start N_through vs) H := by
  obtain ⟨f, s, ds, cut⟩ := x
  dsimp only at hc h q
  obtain ⟨v1, _, rfl, h1, v2, _, rfl, h2, v3, _, rfl, h3, v4, _, rfl, h4, rfl⟩ := h
  obtain ⟨ok, hds, hz⟩ := id hc
  have hil : (insideTo (eventsOf f ds) cut ds.length).length ≤ ds.length := by
    have := List.length_filter_le (inCut (eventsOf f ds) cut) (List.range ds.length)
    rw [List.length_range] at this
    exact this
  have hol : (outsideTo (eventsOf f ds) cut ds.length).length ≤ ds.length := by
    have := List.length_filter_le (fun j => !inCut (eventsOf f ds) cut j) (List.range ds.length)
    rw [List.length_range] at this
    exact this
  refine q_setN (ds := (insideTo (eventsOf f ds) cut ds.length).map eN) (ycL (f, ds, cut) hc (ya_cons (yd_var rfl h1) (ya_cons (yd_var rfl h3) (ya_cons (yd_var rfl h4) ya_nil))) fun _ h => h) (noLs_map (fun _ => rfl) _) fun p H1 np x1 hp => ?_
  refine q_setN (ds := (outsideTo (eventsOf f ds) cut ds.length).map eN) ((yn_lcR (n := ds.length) (fun i => !inCut (eventsOf f ds) cut i && decide (i < ds.length)) eN (ylenLM (yd_var rfl (IsD.ex x1 _ _ h3))) (by omega) (fun _ => rfl) (fun i H2 x2 hi => ?_) (fun i H2 x2 hi _ => yd_var rfl rfl) fun _ _ _ => rfl).to ?_) (noLs_map (fun _ => rfl) _) fun p' H2 np' x2 hp' => ?_
  · refine et_is (yt_test (ynin (ns := insideTo (eventsOf f ds) cut ds.length) (n := i) (yd_var rfl rfl) (yd_var rfl (hp.ex x2).isD))) ?_
    rw [decide_eq_true hi, Bool.and_true]
    congr 1
    unfold insideTo
    by_cases hb : inCut (eventsOf f ds) cut i = true
    · rw [hb, decide_eq_true (List.mem_filter.mpr ⟨List.mem_range.mpr hi, hb⟩)]
    · rw [Bool.not_eq_true] at hb
      rw [hb]
      exact decide_eq_false fun z => by rw [(List.mem_filter.mp z).2] at hb; cases hb
  · unfold compD outsideTo
    congr 1
    exact List.filter_congr fun i hi => by rw [decide_eq_true (List.mem_range.mp hi), Bool.and_true]
  · have k := hp.ex x2
    refine s_ret (yd_tup (ya_cons ((yd_tupL (yn_cat (p := p) (p' := p') rfl rfl k hp' (by rw [List.length_map, List.length_map]; omega)).yd).to (by rw [← List.map_append])) (ya_cons (ylenLM (yd_var rfl k.isD)) ya_nil)) (by simp)) fun v H3 x3 hi => q _ v H3 ((x1.trans x2).trans x3) hi rfl
end
end Ct

/-! # CtR5 -/
namespace Ct
open PySem PySem.Spec PyProof.Rows L2 Evl
open Run (dsOf)
section
variable {K : PySem.W.Frag} {σ : L2.St} {H : Hp} {te ti tx : TE} {tas : TA} {tt : TT} {vs : List V} {Q : VK} {E : XK} {D : Ends} {tz tb : TS} {g : TG} {d x : PyData} {ds : List PyData}
/-- [e for i in range(j)], j an int -/
theorem yn_lcRi {j : Nat} {jn : Int} {vs : List Nat} {tl : TE} (c : Nat → PyData) (h : YD K tl σ H (.int jn)) (hz : -1000 ≤ jn ∧ jn ≤ 40000) (hw : ∀ x, wipe ((wipe σ vs).set j (some x)) vs = wipe σ vs)
    (he : ∀ (i : Nat) H1, Ex H H1 → (i : Int) < jn → YD K te ((wipe σ vs).set j (some (.int (i : Int)))) H1 (c i)) (hn : ∀ (i : Nat), (i : Int) < jn → noL (c i) = true) :
    YN K (tLc (iRng1 (tCons tl tNil)) (gName j) tYes te vs) σ H (compD jn.toNat (fun _ => true) c) := fun H0 x0 Q q => h H0 x0 _ fun w H1 x1 hi => by
  refine ⟨jn, by rw [show w = V.int jn from hi], by omega, by omega, ?_⟩
  refine fun Dl hD => lcl_it (n := jn.toNat) (fun i H' => Gw K H1 Dl i (fun _ => true) c H') ⟨hD, Ex.new hD, ⟨[], upd_same, rfl, rfl⟩⟩ (fun i H' hlt p => hlt) (fun H' p => Nat.le_refl _) (fun i H' v H'' hlt p y => ?_) (fun H' p => ?_)
  · obtain ⟨rfl, rfl⟩ := y
    have x : Ex H H'' := (x0.trans x1).trans p.2.1
    rw [Int.zero_add]
    exact ⟨hw _, gw_turn p (Ex.refl _) (by omega) et_yes (fun _ => he i _ x (by omega)) (fun _ => hn i (by omega))⟩
  · obtain ⟨vs', k1, k2, _⟩ := p.2.2
    exact q Dl vs' H' (fresh_back x1 p.1) (x1.trans p.2.1) k1 k2
/-! ### is_letter, is_load, right_stand -/
abbrev sp_is_letter (K : PySem.W.Frag) : Sp := SpT K (α := (Nat × Sg) × Nat) (fun x => x.1.1 < x.2) (fun x => [eSend x.1, eN x.2]) (fun _ r => r = .bool true)
theorem rd_is_letter {x : (Nat × Sg) × Nat} (hc : x.1.1 < x.2) (h : IsDs K H [eSend x.1, eN x.2] vs) (q : ∀ d v H', Ex H H' → IsD K H' d v → d = .bool true → Q v H') : t_is_letter K (sp_is_tuple K) (sp_is_within K) (sp_is_sign K) (EndsOf Q) (L2.start N_is_letter vs) H := by
  obtain ⟨v1, _, rfl, h1, v2, _, rfl, h2, rfl⟩ := h
  exact s_ret (yd_andV (yc (_, 2) rfl (ya_cons (yd_var rfl h1) (ya_cons (nlit 2) ya_nil)) fun _ h => h) fun _ => yd_andV (ywithin (ix0 (yd_var rfl h1)) (yd_var rfl h2) hc) fun _ => yc x.1.2 trivial (ya_cons (ix1 (yd_var rfl h1)) ya_nil) fun _ h => h) fun v H1 x1 hi => q _ v H1 x1 hi rfl
abbrev sp_is_load (K : PySem.W.Frag) : Sp := SpT K (α := Load × Bool) (fun x => LoadOk x.2 900 x.1) (fun x => [eLoad x.1, .str (rowStr x.2)]) (fun _ r => r = .bool true)
theorem rising_at {l : List Nat} (h : l.Pairwise (· < ·)) {i : Nat} {a b : Nat} (h1 : l[i]? = some a) (h2 : l[i + 1]? = some b) : a < b := by
  obtain ⟨k1, e1⟩ := List.getElem?_eq_some_iff.mp h1
  obtain ⟨k2, e2⟩ := List.getElem?_eq_some_iff.mp h2
  rw [← e1, ← e2]
  exact List.pairwise_iff_getElem.mp h i (i + 1) k1 k2 (by omega)
theorem rd_is_load {x : Load × Bool} (hc : LoadOk x.2 900 x.1) (h : IsDs K H [eLoad x.1, .str (rowStr x.2)] vs) (q : ∀ d v H', Ex H H' → IsD K H' d v → d = .bool true → Q v H') : t_is_load K (sp_is_tuple K) (sp_is_whole_forms K) (sp_is_letter K) (EndsOf Q) (L2.start N_is_load vs) H := by
  obtain ⟨l, row⟩ := x
  dsimp only at hc h q
  obtain ⟨v1, _, rfl, h1, v2, _, rfl, h2, rfl⟩ := h
  have hwn := hc.wn
  refine q_if (b := false) (et_is (et_or (et_not (yt_B (yc (_, 2) rfl (ya_cons (yd_var rfl h1) (ya_cons (nlit 2) ya_nil)) fun _ h => h))) fun _ => et_or (et_not (yt_B (yc (l.sent : Int) trivial (ya_cons (ix0 (yd_var rfl h1)) ya_nil) fun _ h => h))) fun _ => et_or (yt_test (nlt (ix0 (yd_var rfl h1)) (nlit 0))) fun _ => et_not (yt_B (yi_tup (ix1 (yd_var rfl h1))))) (by rw [decide_eq_false (by omega)]; rfl)) (fun hb => by cases hb) fun _ H1 x1 => ?_
  refine q_unp2 (d1 := eN l.sent) (d2 := .tuple (l.waiting.map eSend)) (yd_var rfl (IsD.ex x1 _ _ h1)) fun u1 u2 H2 x2 hu1 hu2 => ?_
  refine q_if (b := false) (et_is (et_not (yt_B (yd_allT (n := (l.waiting.map eSend).length) (yn_lcT (fun _ => true) (fun _ => .bool true) (yd_var rfl hu2) (by rw [List.length_map]; omega) (fun _ => rfl) (fun _ _ _ _ _ _ _ => et_yes) (fun i d v H3 x3 hd hv _ => ?_) fun _ _ _ => rfl)))) rfl) (fun hb => by cases hb) fun _ H3 x3 => ?_
  · obtain ⟨p, hp, rfl⟩ := map_get hd
    exact yc (p, l.sent) (hc.lt p (List.mem_of_getElem? hp)) (ya_cons (yd_var rfl hv) (ya_cons (yd_var rfl (IsD.ex x3 _ _ hu1)) ya_nil)) fun _ h => h
  · refine q_set (YN.yd (ds := (l.waiting.map (·.1)).map eN) ((yn_lcT (ds := l.waiting.map eSend) (fun _ => true) (fun i => eN (l.waiting.getD i (0, .a)).1) (yd_var rfl (IsD.ex x3 _ _ hu2)) (by rw [List.length_map]; omega) (fun _ => rfl) (fun _ _ _ _ _ _ _ => et_yes) (fun i d v H4 x4 hd hv _ => ?_) fun _ _ _ => rfl).to ?_)) fun u3 H4 x4 hu3 => ?_
    · obtain ⟨p, hp, rfl⟩ := map_get hd
      rw [getD_of hp]
      exact ix0 (yd_var rfl hv)
    · rw [List.length_map, List.map_map]
      have z := compD_map l.waiting (fun _ => true) (fun p => eN p.1) (0, .a)
      rw [List.filter_eq_self.mpr fun _ _ => rfl] at z
      exact z
    · have x14 := (x2.trans x3).trans x4
      refine q_when (b := row) (et_is (yt_test (yeqS (yd_var rfl (IsD.ex (x1.trans x14) _ _ h2)) yd_str)) (st_row row)) (fun hb H5 x5 => ?_) fun hb H5 x5 => ?_
      · have hu3' := IsD.ex x5 _ _ hu3
        have hu1' := IsD.ex ((x3.trans x4).trans x5) _ _ hu1
        have hlen : YD K (tCB (rLenU K) (tCons (tVar 4) tNil)) [some v1, some v2, some u1, some u2, some u3, none, none] H5 (eN l.waiting.length) := (ylenLM (yd_var rfl hu3')).to (by rw [List.length_map])
        refine s_ret ((yeqD (yd_var rfl hu3') (yn_rg2 (nsub (yd_var rfl hu1') hlen hc.ws) (yd_var rfl hu1') (by have := hc.sn; omega) (by have := hc.sn; omega)).yd (cmp_lst (n := 59) (cmps_map (fun _ => cmp_int) _)) (cmp_lst (n := 59) (cmps_map (fun _ => cmp_int) _))).to (congrArg PyData.bool (eqv_lst eqv_nat _ _))) fun v H6 x6 hi => q _ v H6 (((x1.trans x14).trans x5).trans x6) hi ?_
        rw [decide_eq_true ?_]
        rw [hc.row hb]
        congr 1
        have := hc.ws
        omega
      · have hu3' := IsD.ex x5 _ _ hu3
        have hlen : YD K (tCB (rLenU K) (tCons (tVar 4) tNil)) [some v1, some v2, some u1, some u2, some u3, none, none] H5 (eN l.waiting.length) := (ylenLM (yd_var rfl hu3')).to (by rw [List.length_map])
        refine s_ret (yd_allT (yn_lcRi (jn := (l.waiting.length : Int) - 1) (fun _ => .bool true) (yd_op (r := rSubI) hlen yd_int (rd_I0 (f := .int ((l.waiting.length : Int) - 1)) fun _ => rfl)) (by omega) (fun _ => rfl) (fun i H6 x6 hi => ?_) fun _ _ => rfl)) fun v H6 x6 hi => q _ v H6 (((x1.trans x14).trans x5).trans x6) hi rfl
        obtain ⟨a, ha⟩ : ∃ a, (l.waiting.map (·.1))[i]? = some a := ⟨_, List.getElem?_eq_getElem (by rw [List.length_map]; omega)⟩
        obtain ⟨b, hb'⟩ : ∃ b, (l.waiting.map (·.1))[i + 1]? = some b := ⟨_, List.getElem?_eq_getElem (by rw [List.length_map]; omega)⟩
        have hu3'' := IsD.ex x6 _ _ hu3'
        exact (nlt (ixLM (g := eN) (yd_var rfl hu3'') (yd_var rfl rfl) ha) (ixLM (g := eN) (yd_var rfl hu3'') (nadd (n := i) (m := 1) (yd_var rfl rfl) (nlit 1)) hb')).to (by rw [decide_eq_true (rising_at hc.up ha hb')])
abbrev sp_right_stand (K : PySem.W.Frag) : Sp := SpT K (α := Form × Stand) (fun x => FormOk x.1 ∧ StOk x.1 900 x.2) (fun x => [eForm x.1, eStand x.2]) (fun _ r => r = .bool true)
theorem rd_right_stand {x : Form × Stand} (hc : FormOk x.1 ∧ StOk x.1 900 x.2) (h : IsDs K H [eForm x.1, eStand x.2] vs) (q : ∀ d v H', Ex H H' → IsD K H' d v → d = .bool true → Q v H') : t_right_stand K (sp_is_tuple K) (sp_is_within K) (sp_is_load K) (EndsOf Q) (L2.start N_right_stand vs) H := by
  obtain ⟨f, s⟩ := x
  dsimp only at hc h q
  obtain ⟨v1, _, rfl, h1, v2, _, rfl, h2, rfl⟩ := h
  obtain ⟨ok, hs⟩ := hc
  have n4 := ok.few
  have n8 := ok.rfew
  have hf1 := hs.fit.1
  have hf2 := hs.fit.2
  refine q_if (b := false) (et_is (et_or (et_not (yt_B (yc (_, 2) rfl (ya_cons (yd_var rfl h2) (ya_cons (nlit 2) ya_nil)) fun _ h => h))) fun _ => et_or (et_not (yt_B (yc (s.states.map eN, f.rules.length) (by show (s.states.map eN).length = _; rw [List.length_map]; exact hf1) (ya_cons (ix0 (yd_var rfl h2)) (ya_cons (ylenTM (ix0 (yd_var rfl h1))) ya_nil)) fun _ h => h))) fun _ => et_not (yt_B (yc (s.loads.map eLoad, f.roads.length) (by show (s.loads.map eLoad).length = _; rw [List.length_map]; exact hf2) (ya_cons (ix1 (yd_var rfl h2)) (ya_cons (ylenTM (ix1 (yd_var rfl h1))) ya_nil)) fun _ h => h))) rfl) (fun hb => by cases hb) fun _ H1 x1 => ?_
  refine q_if (b := false) (et_is (et_not (yt_B (yd_allT (n := (s.states.map eN).length) (yn_lcT (fun _ => true) (fun _ => .bool true) (ix0 (yd_var rfl (IsD.ex x1 _ _ h2))) (by rw [List.length_map]; omega) (fun _ => rfl) (fun _ _ _ _ _ _ _ => et_yes) (fun i d v H3 x3 hd hv _ => ?_) fun _ _ _ => rfl)))) rfl) (fun hb => by cases hb) fun _ H2 x2 => ?_
  · obtain ⟨k, hk, rfl⟩ := map_get hd
    have hk2 := hs.st k (List.mem_of_getElem? hk)
    exact yc ((k : Int), (0 : Int), (99 : Int)) trivial (ya_cons (yd_var rfl hv) (ya_cons yd_int (ya_cons yd_int ya_nil))) fun d' h => by
      rw [h]
      show PyData.bool (decide ((0 : Int) ≤ (k : Int)) && decide ((k : Int) ≤ 99)) = _
      rw [decide_eq_true (by omega), decide_eq_true (by omega)]
      rfl
  · have x12 := x1.trans x2
    refine s_ret (yd_allT (n := (s.loads.map eLoad).length) ((yn_lcZ (ds := s.loads.map eLoad) (es := f.roads.map eRoad) (fun _ => .bool true) (ix1 (yd_var rfl (IsD.ex x12 _ _ h2))) (ix1 (yd_var rfl (IsD.ex x12 _ _ h1))) (by rw [List.length_map, List.length_map, hf2]) (by rw [List.length_map]; omega) (fun _ _ => rfl) (fun i d e u v H3 x3 hd he hu hv => ?_) fun _ _ => rfl).to (by rw [compD_all]))) fun v H3 x3 hi => q _ v H3 (x12.trans x3) hi rfl
    obtain ⟨l, hl, rfl⟩ := map_get hd
    obtain ⟨rd, hrd, rfl⟩ := map_get he
    have hlo := hs.ld i l hl
    have er : rowAt f i = rd.row := by unfold rowAt; rw [hrd]
    rw [er] at hlo
    exact yc (l, rd.row) hlo (ya_cons (yd_var rfl hu) (ya_cons (ix2 (yd_var rfl hv)) ya_nil)) fun _ h => h
/-! ### are_wholes -/
abbrev sp_are_wholes (K : PySem.W.Frag) : Sp := SpT K (α := (Nat → Nat) × Nat) (fun x => x.2 ≤ 1000) (fun x => [eCut x.1 x.2, eN x.2]) (fun _ r => r = .bool true)
theorem rd_are_wholes {x : (Nat → Nat) × Nat} (hc : x.2 ≤ 1000) (h : IsDs K H [eCut x.1 x.2, eN x.2] vs) (q : ∀ d v H', Ex H H' → IsD K H' d v → d = .bool true → Q v H') : t_are_wholes K (sp_is_whole_cuts K) (EndsOf Q) (L2.start N_are_wholes vs) H := by
  obtain ⟨v1, _, rfl, h1, v2, _, rfl, h2, rfl⟩ := h
  refine s_ret (yd_andV (yi_tup (yd_var rfl h1)) fun _ => yd_andV ((neq ((ylenT (yd_var rfl h1)).to (by rw [cnts_len])) (yd_var rfl h2)).to (by rw [decide_eq_true rfl])) fun _ => yd_allT (n := (cnts x.1 x.2).length) (yn_lcT (fun _ => true) (fun _ => .bool true) (yd_var rfl h1) (by rw [cnts_len]; omega) (fun _ => rfl) (fun _ _ _ _ _ _ _ => et_yes) (fun i d v H3 x3 hd hv _ => ?_) fun _ _ _ => rfl)) fun v H3 x3 hi => q _ v H3 x3 hi rfl
  obtain ⟨k, hk, rfl⟩ := map_get (show ((List.range x.2).map fun m => eN (x.1 m))[i]? = some d from hd)
  exact yc ((x.1 k : Nat) : Int) trivial (ya_cons (yd_var rfl hv) ya_nil) fun _ h => h
/-! ### what may raise -/
theorem q_dropX {α : Type} {C : α → Prop} {A : α → List PyData} {R : α → PyData → Prop} {N : α → Prop} (x : α) (hc : C x) (h : YA K tas σ H (A x)) (kR : ∀ H1, Ex H H1 → (∃ d, R x d) → tz D σ H1) (kN : N x → ∀ d H', Ex H H' → (∃ fs, H' d = some (.xd fs)) → E (.ref (gaN K)) (some d) H') :
    tSeq (tDrop (tCall (SpX K C A R N) [] E tas)) tz D σ H := h H (Ex.refl H) _ fun vs H1 x1 hi => ⟨A x, R x, N x, by rw [List.append_nil]; exact hi, ⟨x, hc, rfl, rfl, rfl⟩, fun d v H2 x2 hd hr => kR H2 (x1.trans x2) ⟨d, hr⟩, fun n d H2 x2 hx => kN n d H2 (x1.trans x2) hx⟩
abbrev eWay (w : List Nat) (many : Nat) : PyData := .tuple [.tuple (w.map eN), eN many]
abbrev sp_asked_shape (K : PySem.W.Frag) : Sp := SpX K (α := List Nat × Nat) (fun x => x.1.length ≤ 1000) (fun x => [eWay x.1 x.2]) (fun _ _ => True) (fun _ => False)
theorem rd_asked_shape {x : List Nat × Nat} (hc : x.1.length ≤ 1000) (h : IsDs K H [eWay x.1 x.2] vs) (q : ∀ d v H', Ex H H' → IsD K H' d v → True → Q v H') : t_asked_shape K E (sp_is_whole_cuts K) (EndsOf Q) (L2.start N_asked_shape vs) H := by
  obtain ⟨v1, _, rfl, h1, rfl⟩ := h
  refine q_if (b := false) (et_is (et_or (et_not (yt_B (yi_tup (yd_var rfl h1)))) fun _ => et_or (yt_test (nne (ylenT (yd_var rfl h1)) (nlit 2))) fun _ => et_or (et_not (yt_B (yi_tup (ix0 (yd_var rfl h1))))) fun _ => et_not (yt_B (yc (x.2 : Int) trivial (ya_cons (ix1 (yd_var rfl h1)) ya_nil) fun _ h => h))) rfl) (fun hb => by cases hb) fun _ H1 x1 => ?_
  refine s_when (b := false) (et_is (et_not (yt_B (yd_allT (n := (x.1.map eN).length) (yn_lcT (fun _ => true) (fun _ => .bool true) (ix0 (yd_var rfl (IsD.ex x1 _ _ h1))) (by rw [List.length_map]; omega) (fun _ => rfl) (fun _ _ _ _ _ _ _ => et_yes) (fun i d v H3 x3 hd hv _ => ?_) fun _ _ _ => rfl)))) rfl) (fun hb => by cases hb) fun _ H2 x2 => q .none .non H2 (x1.trans x2) rfl trivial
  obtain ⟨k, hk, rfl⟩ := map_get hd
  exact yc (k : Int) trivial (ya_cons (yd_var rfl hv) ya_nil) fun _ h => h
abbrev sp_asked_order (K : PySem.W.Frag) : Sp := SpX K (α := Form × List Deed × List Nat) (fun x => DsOk x.1 x.2.1 ∧ x.2.2.length = x.2.1.length) (fun x => [eForm x.1, eDeeds x.2.1, .tuple (x.2.2.map eN)]) (fun x _ => OrdIdx (eventsOf x.1 x.2.1) (fun _ => 0) x.2.2) (fun x => ¬ OrdIdx (eventsOf x.1 x.2.1) (fun _ => 0) x.2.2)
theorem drop_at {α : Type} {l : List α} {i : Nat} {x : α} (h : l[i]? = some x) : l.drop i = x :: l.drop (i + 1) := by
  have hi := List.getElem?_eq_some_iff.mp h
  rw [List.drop_eq_getElem_cons hi.1, hi.2]
theorem rd_asked_order {x : Form × List Deed × List Nat} (hc : DsOk x.1 x.2.1 ∧ x.2.2.length = x.2.1.length) (h : IsDs K H [eForm x.1, eDeeds x.2.1, .tuple (x.2.2.map eN)] vs) (q : ∀ d v H', Ex H H' → IsD K H' d v → OrdIdx (eventsOf x.1 x.2.1) (fun _ => 0) x.2.2 → Q v H')
    (qN : ¬ OrdIdx (eventsOf x.1 x.2.1) (fun _ => 0) x.2.2 → ∀ d H', Ex H H' → (∃ fs, H' d = some (.xd fs)) → E (.ref (gaN K)) (some d) H') : t_asked_order K E (sp_events_of K) (EndsOf Q) (L2.start N_asked_order vs) H := by
  obtain ⟨f, ds, w⟩ := x
  dsimp only at hc h q qN
  obtain ⟨v1, _, rfl, h1, v2, _, rfl, h2, v3, _, rfl, h3, rfl⟩ := h
  obtain ⟨hds, hwl⟩ := hc
  have hn4 := hds.1.few
  refine q_setN (ds := (eventsOf f ds).map eEv) (ycL (f, ds) hds (ya_cons (yd_var rfl h1) (ya_cons (yd_var rfl h2) ya_nil)) fun _ h => h) (noLs_evs _) fun pe H1 npe x1 hpe => ?_
  refine q_setN (ds := cnts (fun _ => 0) f.rules.length) ((yn_rep yd_int (ylenTM (ix0 (yd_var rfl (IsD.ex x1 _ _ h1)))) (by omega)).to (cnts_zero (f := f) [] _)) noLs_cnts fun p H2 np x2 hp => ?_
  have hne : pe ≠ p := hpe.ne np
  have np0 : H p = Option.none := fresh_back x1 np
  have noLw : noL (.tuple (w.map eN)) = true := noLs_map (fun _ => rfl) _
  refine q_forET (ds := w.map eN) (yd_var rfl (IsD.ex (x1.trans x2) _ _ h3)) (fun v i σ' H' => Ex H H' ∧ IsD K H' (.tuple (w.map eN)) v ∧ (∃ o5 o6, σ' = [some v1, some v2, some v3, some (.ref pe), some (.ref p), o5, o6]) ∧ OL K H' pe ((eventsOf f ds).map eEv) ∧ ∃ c, OL K H' p (cnts c f.rules.length) ∧ (OrdIdx (eventsOf f ds) (fun _ => 0) w ↔ OrdIdx (eventsOf f ds) c (w.drop i)))
    (fun v H3 x3 hi => ⟨(x1.trans x2).trans x3, hi, ⟨_, _, rfl⟩, (hpe.ex x2).ex x3, _, hp.ex x3, Iff.rfl⟩) (fun v i σ' H' p => p.2.1) (fun v i d u σ' H' H'' hd hi x4 hu => ?_) (fun v σ' H' hi => ?_)
  · obtain ⟨x3, hv, ⟨o5, o6, rfl⟩, k1, c, k2, hiff⟩ := hi
    obtain ⟨j, hj, rfl⟩ := map_get hd
    rw [drop_at hj] at hiff
    have x5 := x3.trans x4
    have k1' := k1.ex x4
    have k2' := k2.ex x4
    by_cases hjl : j < (eventsOf f ds).length
    · obtain ⟨e, he⟩ : ∃ e, (eventsOf f ds)[j]? = some e := ⟨_, List.getElem?_eq_getElem hjl⟩
      have hm := ev_lt hds he
      have yj : ∀ {H3}, YD K (tVar 6) [some v1, some v2, some v3, some (.ref pe), some (.ref p), some (.int (i : Int)), some u] H3 (eN j) := fun {H3} => yd_var rfl (show IsD K H3 (eN j) u from hu)
      have ye : ∀ {H3}, Ex H'' H3 → YD K (tOp (rIx K) (tVar 3) (tVar 6)) [some v1, some v2, some v3, some (.ref pe), some (.ref p), some (.int (i : Int)), some u] H3 (eEv e) := fun {H3} x => ixLM (g := eEv) (yd_var rfl (k1'.ex x).isD) yj he
      refine q_if (b := !decide (e.2 = c e.1)) (et_is (et_or (yt_test (nlt yj (nlit 0))) fun _ => et_or (yt_test (nge yj (ylenLM (yd_var rfl k1'.isD)))) fun _ => yt_test (nne (ix1 (ye (Ex.refl _))) (ixL (yd_var rfl k2'.isD) (ix0 (ye (Ex.refl _))) (cnts_at hm)))) ?_) (fun hb H3 x6 => ?_) fun hb H3 x6 => ?_
      · rw [decide_eq_false (by omega), decide_eq_false (by omega)]
        rfl
      · refine s_rz (ya_cons (yd_var rfl (d := .int (i : Int)) rfl) (ya_cons yd_str ya_nil)) fun dd H4 x7 hx => qN (fun ho => ?_) dd H4 ((x5.trans x6).trans x7) hx
        obtain ⟨m, i', e1, e2, _⟩ := hiff.mp ho
        cases he.symm.trans e1
        rw [Bool.not_eq_true'] at hb
        exact absurd e2 (of_decide_eq_false hb)
      · rw [Bool.not_eq_false'] at hb
        have hb := of_decide_eq_true hb
        refine s_setL (p := p) (ds := cnts c f.rules.length) (m := e.1) rfl (k2'.ex x6) (nadd (ixL (yd_var rfl (k2'.ex x6).isD) (ix0 (ye x6)) (cnts_at hm)) (nlit 1)) (ix0 (ye x6)) (by rw [cnts_len]; exact hm) rfl fun H4 xb k5 => ?_
        refine ⟨Ex.exb (x5.trans x6) xb np0, IsD.exb xb (k2'.ex x6).noTup _ _ noLw (IsD.ex (x4.trans x6) _ _ hv), ⟨_, _, rfl⟩, OL.exb xb (k2'.ex x6).noTup hne (k1'.ex x6), inc c e.1, ?_, ?_⟩
        · rw [cnts_set (g' := inc c e.1) (inc_same c e.1) fun m' hm' => inc_ne hm'] at k5
          exact k5
        · rw [hiff]
          constructor
          · rintro ⟨m, i', e1, e2, e3⟩
            cases he.symm.trans e1
            exact e3
          · intro e3
            exact ⟨e.1, e.2, he, hb, e3⟩
    · have yj : ∀ {H3}, YD K (tVar 6) [some v1, some v2, some v3, some (.ref pe), some (.ref p), some (.int (i : Int)), some u] H3 (eN j) := fun {H3} => yd_var rfl (show IsD K H3 (eN j) u from hu)
      refine q_if (b := true) (et_is (et_or (b := true) (yt_test (nlt yj (nlit 0))) fun _ => et_is (et_or (b := true) (yt_test (nge yj (ylenLM (yd_var rfl k1'.isD)))) fun z => ?_) (by rw [Bool.or_true])) (by rw [Bool.or_true])) (fun hb H3 x6 => ?_) fun hb => by cases hb
      · rw [decide_eq_true (by omega)] at z
        cases z
      · refine s_rz (ya_cons (yd_var rfl (d := .int (i : Int)) rfl) (ya_cons yd_str ya_nil)) fun dd H4 x7 hx => qN (fun ho => ?_) dd H4 ((x5.trans x6).trans x7) hx
        obtain ⟨m, i', e1, _⟩ := hiff.mp ho
        exact hjl (List.getElem?_eq_some_iff.mp e1).1
  · obtain ⟨x3, hv, ⟨o5, o6, rfl⟩, k1, c, k2, hiff⟩ := hi
    rw [List.length_map, List.drop_length] at hiff
    refine s_when (b := false) (et_is (yt_test (nlt (ylenTM (yd_var rfl (IsD.ex x3 _ _ h3))) (ylenLM (yd_var rfl k1.isD)))) (by rw [decide_eq_false (by rw [events_length]; omega)])) (fun hb => by cases hb) fun _ H4 x4 => q .none .non H4 (x3.trans x4) rfl (hiff.mpr trivial)
end
end Ct

/-! # CtR6 -/
namespace Ct
open PySem PySem.Spec PyProof.Rows L2 Evl
open Run (dsOf)
theorem walk_snoc (f : Form) : ∀ (l : List Deed) (s : Stand) (d : Deed), walk f s (l ++ [d]) = (walk f s l).bind fun s' => (answered f s' d).map fun a => applyA f s' d a
  | [], s, d => by
    show (answered f s d).bind (fun a => walk f (applyA f s d a) []) = (answered f s d).map _
    cases answered f s d <;> rfl
  | x :: l, s, d => by
    show (answered f s x).bind (fun a => walk f (applyA f s x a) (l ++ [d])) = ((answered f s x).bind fun a => walk f (applyA f s x a) l).bind _
    cases answered f s x with
    | none => rfl
    | some a => exact walk_snoc f l _ d
theorem walk_none (f : Form) : ∀ (l r : List Deed) (s : Stand), walk f s l = none → walk f s (l ++ r) = none
  | [], r, s, h => by cases h
  | x :: l, r, s, h => by
    have h : ((answered f s x).bind fun a => walk f (applyA f s x a) l) = none := h
    show ((answered f s x).bind fun a => walk f (applyA f s x a) (l ++ r)) = none
    cases ha : answered f s x with
    | none => rfl
    | some a =>
      rw [ha] at h
      exact walk_none f l r _ h
theorem deedsAt_snoc {ds : List Deed} {w : List Nat} {i j : Nat} {d : Deed} (h1 : w[i]? = some j) (h2 : ds[j]? = some d) : deedsAt ds (w.take (i + 1)) = deedsAt ds (w.take i) ++ [d] := by
  rw [Wd.take_snoc h1, deedsAt_append]
  congr 1
  show [j].filterMap _ = _
  simp [h2]
theorem deedsAt_rest {ds : List Deed} {w : List Nat} (i : Nat) : deedsAt ds w = deedsAt ds (w.take i) ++ deedsAt ds (w.drop i) := by
  rw [← deedsAt_append, List.take_append_drop]
section
variable {K : PySem.W.Frag} {σ : L2.St} {H : Hp} {te ti tx : TE} {tas : TA} {tt : TT} {vs : List V} {Q : VK} {E : XK} {D : Ends} {tz tb : TS} {g : TG} {d x : PyData} {ds : List PyData}
structure AskC (f : Form) (base : Stand) (log : List Ev) (told : Stand) (w : List Nat) : Prop where
  good : Good f base log
  told : StOk f 900 told
  len : w.length = log.length
theorem dsOk_log {f : Form} {base : Stand} {log : List Ev} (g : Good f base log) : DsOk f (dsOf log) := by
  refine ⟨g.form, fun d hd => ?_, ?_⟩
  · obtain ⟨e, he, rfl⟩ := List.mem_map.mp hd
    exact g.de e he
  · rw [List.length_map]
    have := g.few
    omega
abbrev sp_way_asked (K : PySem.W.Frag) : Sp := SpX K (α := Form × Stand × List Ev × Stand × List Nat × Nat) (fun x => AskC x.1 x.2.1 x.2.2.1 x.2.2.2.1 x.2.2.2.2.1) (fun x => [eForm x.1, eStand x.2.1, eDeeds (dsOf x.2.2.1), eStand x.2.2.2.1, eWay x.2.2.2.2.1 x.2.2.2.2.2])
  (fun x r => r = .bool true ∧ Accept x.1 x.2.1 (dsOf x.2.2.1) x.2.2.2.2.1 x.2.2.2.2.2 x.2.2.2.1) (fun x => ¬ Accept x.1 x.2.1 (dsOf x.2.2.1) x.2.2.2.2.1 x.2.2.2.2.2 x.2.2.2.1)
theorem rd_way_asked {x : Form × Stand × List Ev × Stand × List Nat × Nat} (hc : AskC x.1 x.2.1 x.2.2.1 x.2.2.2.1 x.2.2.2.2.1) (h : IsDs K H [eForm x.1, eStand x.2.1, eDeeds (dsOf x.2.2.1), eStand x.2.2.2.1, eWay x.2.2.2.2.1 x.2.2.2.2.2] vs)
    (q : ∀ d v H', Ex H H' → IsD K H' d v → (d = .bool true ∧ Accept x.1 x.2.1 (dsOf x.2.2.1) x.2.2.2.2.1 x.2.2.2.2.2 x.2.2.2.1) → Q v H')
    (qN : ¬ Accept x.1 x.2.1 (dsOf x.2.2.1) x.2.2.2.2.1 x.2.2.2.2.2 x.2.2.2.1 → ∀ d H', Ex H H' → (∃ fs, H' d = some (.xd fs)) → E (.ref (gaN K)) (some d) H') :
    t_way_asked K E (sp_asked_shape K) (sp_asked_order K) (sp_can K) (sp_done K) (sp_right_stand K) (EndsOf Q) (L2.start N_way_asked vs) H := by
  obtain ⟨f, base, log, told, w, many⟩ := x
  dsimp only at hc h q qN
  obtain ⟨v1, _, rfl, h1, v2, _, rfl, h2, v3, _, rfl, h3, v4, _, rfl, h4, v5, _, rfl, h5, rfl⟩ := h
  obtain ⟨gd, ht, hl⟩ := hc
  have hfew := gd.few
  have hds := dsOk_log gd
  have hdl : (dsOf log).length = log.length := List.length_map _
  refine q_dropX (w, many) (by show w.length ≤ 1000; omega) (ya_cons (yd_var rfl h5) ya_nil) (fun H1 x1 _ => ?_) fun z => z.elim
  refine q_unp2 (d1 := .tuple (w.map eN)) (d2 := eN many) (yd_var rfl (IsD.ex x1 _ _ h5)) fun u1 u2 H2 x2 hu1 hu2 => ?_
  have x12 := x1.trans x2
  refine q_dropX (f, dsOf log, w) ⟨hds, hl.trans hdl.symm⟩ (ya_cons (yd_var rfl (IsD.ex x12 _ _ h1)) (ya_cons (yd_var rfl (IsD.ex x12 _ _ h3)) (ya_cons (yd_var rfl hu1) ya_nil))) (fun H3 x3 hR => ?_) fun hN dd H3 x3 hx => qN (fun z => hN z.1) dd H3 (x12.trans x3) hx
  obtain ⟨_, ho⟩ := hR
  have ho : OrdIdx (eventsOf f (dsOf log)) (fun _ => 0) w := ho
  have x13 := x12.trans x3
  have hu1' := IsD.ex x3 _ _ hu1
  have hu2' := IsD.ex x3 _ _ hu2
  refine q_if (b := decide (w.length < many)) (et_is (et_or (yt_test (nlt (yd_var rfl hu2') (nlit 0))) fun _ => yt_test (ngt (yd_var rfl hu2') (ylenTM (yd_var rfl hu1')))) (by rw [decide_eq_false (by omega)]; rfl)) (fun hb H4 x4 => ?_) fun hb H4 x4 => ?_
  · exact s_rz (ya_cons yd_int (ya_cons yd_str ya_nil)) fun dd H5 x5 hx => qN (fun z => by have := of_decide_eq_true hb; have := z.2.1; omega) dd H5 ((x13.trans x4).trans x5) hx
  have hmany : many ≤ w.length := by have := of_decide_eq_false hb; omega
  have x14 := x13.trans x4
  refine q_setN (ds := [base].map eStand) (yn_lst (ya_cons (yd_var rfl (IsD.ex x14 _ _ h2)) ya_nil) (by simp)) (noLs_map noL_stand _) fun p H5 np x5 hp => ?_
  have np0 : H p = Option.none := fresh_back x14 np
  have noLw : noL (.tuple (w.map eN)) = true := noLs_map (fun _ => rfl) _
  have evl : (eventsOf f (dsOf log)).length = log.length := by rw [events_length, hdl]
  refine q_forET (ds := w.map eN) (yd_var rfl (IsD.ex (x4.trans x5) _ _ hu1')) (fun v i σ' H' => Ex H H' ∧ IsD K H' (.tuple (w.map eN)) v ∧ (∃ o8 o9, σ' = [some v1, some v2, some v3, some v4, some v5, some u1, some u2, some (.ref p), o8, o9]) ∧ ∃ ss : List Stand, OL K H' p (ss.map eStand) ∧ ss.length = i + 1 ∧ ∀ k s, ss[k]? = some s → walk f base (deedsAt (dsOf log) (w.take k)) = some s ∧ StOk f (10 + 2 * k) s)
    (fun v H6 x6 hi => ⟨(x14.trans x5).trans x6, hi, ⟨_, _, rfl⟩, [base], hp.ex x6, rfl, fun k s hk => ?_⟩) (fun v i σ' H' p => p.2.1) (fun v i d u σ' H' H'' hd hi x7 hu => ?_) (fun v σ' H' hi => ?_)
  · cases k with
    | zero =>
      have : base = s := by simpa using hk
      subst this
      exact ⟨rfl, gd.bs⟩
    | succ k => simp at hk
  · obtain ⟨x6, hv, ⟨o8, o9, rfl⟩, ss, k1, k2, k3⟩ := hi
    obtain ⟨j, hj, rfl⟩ := map_get hd
    have hjl : j < log.length := by
      have := ordIdx_lt ho j (List.mem_of_getElem? hj)
      rw [evl] at this
      exact this
    have hil : i < w.length := (List.getElem?_eq_some_iff.mp hj).1
    obtain ⟨s, hs⟩ : ∃ s, ss[i]? = some s := ⟨_, List.getElem?_eq_getElem (by omega)⟩
    obtain ⟨hw, hso⟩ := k3 i s hs
    obtain ⟨dd, hdd⟩ : ∃ dd, (dsOf log)[j]? = some dd := ⟨_, List.getElem?_eq_getElem (by omega)⟩
    have hdo := hds.2.1 dd (List.mem_of_getElem? hdd)
    have x8 := x6.trans x7
    have ys : ∀ {H3}, Ex H'' H3 → YD K (tOp (rIx K) (tVar 7) (tVar 8)) [some v1, some v2, some v3, some v4, some v5, some u1, some u2, some (.ref p), some (.int (i : Int)), some u] H3 (eStand s) := fun {H3} x => ixLM (g := eStand) (yd_var rfl ((k1.ex x7).ex x).isD) (yd_var rfl (show IsD K H3 (eN i) (.int (i : Int)) from rfl)) hs
    have yd' : ∀ {H3}, Ex H'' H3 → YD K (tOp (rIx K) (tVar 2) (tVar 9)) [some v1, some v2, some v3, some v4, some v5, some u1, some u2, some (.ref p), some (.int (i : Int)), some u] H3 (eDeed dd) := fun {H3} x => ixLM (g := eDeed) (yd_var rfl (IsD.ex (x8.trans x) _ _ h3)) (yd_var rfl (show IsD K H3 (eN j) u from hu)) hdd
    have e1 := deedsAt_snoc (ds := dsOf log) hj hdd
    refine q_if (et_not (yt_B (yc (f, s, dd) ⟨gd.form, hdo, hso.fit⟩ (ya_cons (yd_var rfl (IsD.ex x8 _ _ h1)) (ya_cons (ys (Ex.refl _)) (ya_cons (yd' (Ex.refl _)) ya_nil))) fun _ h => h))) (fun hb H3 x9 => ?_) fun hb H3 x9 => ?_
    · have hb : (!(answered f s dd).isSome) = true := hb
      refine s_rz (ya_cons (yd_var rfl (d := .int (i : Int)) rfl) (ya_cons yd_str ya_nil)) fun d' H4 x10 hx => qN (fun z => ?_) d' H4 ((x8.trans x9).trans x10) hx
      obtain ⟨_, _, ⟨s', hs'⟩, _⟩ := z
      have hn : walk f base (deedsAt (dsOf log) (w.take (i + 1))) = none := by
        rw [e1, walk_snoc, hw]
        show (answered f s dd).map _ = none
        cases ha : answered f s dd with
        | none => rfl
        | some a => rw [ha] at hb; cases hb
      rw [deedsAt_rest (ds := dsOf log) (w := w) (i + 1), walk_none f _ _ _ hn] at hs'
      cases hs'
    · have hb : (!(answered f s dd).isSome) = false := hb
      cases ha : answered f s dd with
      | none => rw [ha] at hb; cases hb
      | some a =>
        refine s_app (p := p) (ds := ss.map eStand) (d := eStand (applyA f s dd a)) rfl ((k1.ex x7).ex x9) (ix0 (yc (d := .tuple [eStand (applyA f s dd a), eTold (machineOf f dd) a.2.2]) (f, s, dd, a) ⟨gd.form, hdo, hso.mono (by omega), ha⟩ (ya_cons (yd_var rfl (IsD.ex (x8.trans x9) _ _ h1)) (ya_cons (ys x9) (ya_cons (yd' x9) ya_nil))) fun _ h => h)) (noL_stand _) (by rw [List.length_map]; omega) fun H4 xb k4 => ?_
        refine ⟨Ex.exb (x8.trans x9) xb np0, IsD.exb xb ((k1.ex x7).ex x9).noTup _ _ noLw (IsD.ex (x7.trans x9) _ _ hv), ⟨_, _, rfl⟩, ss ++ [applyA f s dd a], ?_, by rw [List.length_append]; show _ + 1 = _; omega, fun k s' hk => ?_⟩
        · rw [List.map_append]
          exact k4
        · by_cases hki : k < ss.length
          · rw [List.getElem?_append_left hki] at hk
            exact k3 k s' hk
          · have hki2 : k = i + 1 := by
              have := (List.getElem?_eq_some_iff.mp hk).1
              rw [List.length_append] at this
              have : k < ss.length + 1 := this
              omega
            subst hki2
            rw [List.getElem?_append_right (by omega), k2, Nat.sub_self] at hk
            have : applyA f s dd a = s' := by simpa using hk
            subst this
            refine ⟨?_, ?_⟩
            · rw [e1, walk_snoc, hw]
              show (answered f s dd).map _ = _
              rw [ha]
              rfl
            · exact (stOk_apply gd.form hso ha).mono (by omega)
  · obtain ⟨x6, hv, ⟨o8, o9, rfl⟩, ss, k1, k2, k3⟩ := hi
    rw [List.length_map] at k2
    obtain ⟨s, hs⟩ : ∃ s, ss[many]? = some s := ⟨_, List.getElem?_eq_getElem (by omega)⟩
    obtain ⟨hw, hso⟩ := k3 many s hs
    obtain ⟨s2, hs2⟩ : ∃ s, ss[w.length]? = some s := ⟨_, List.getElem?_eq_getElem (by omega)⟩
    obtain ⟨hw2, _⟩ := k3 w.length s2 hs2
    rw [List.take_length] at hw2
    have hacc : Accept f base (dsOf log) w many told ↔ s = told := by
      constructor
      · rintro ⟨_, _, _, z⟩
        exact Option.some.inj (hw.symm.trans z)
      · intro z
        subst z
        exact ⟨ho, hmany, ⟨s2, hw2⟩, hw⟩
    have yt : ∀ {H3}, Ex H H3 → YD K (tVar 3) [some v1, some v2, some v3, some v4, some v5, some u1, some u2, some (.ref p), o8, o9] H3 (eStand told) := fun {H3} x => yd_var rfl (IsD.ex x _ _ h4)
    have hu2n : ∀ {H3}, IsD K H3 (eN many) u2 := fun {H3} => show IsD K H3 (eN many) u2 from hu2
    refine q_if (et_or (et_not (yt_B (yc (f, told) ⟨gd.form, ht⟩ (ya_cons (yd_var rfl (IsD.ex x6 _ _ h1)) (ya_cons (yt x6) ya_nil)) fun _ h => h))) fun _ => yt_test ((yneD (ixLM (g := eStand) (yd_var rfl k1.isD) (yd_var rfl hu2n) hs) (yt x6) (cmp_stand (n := 55) _) (cmp_stand (n := 55) _)).to (congrArg (fun b => PyData.bool (!b)) (eqv_stand s told)))) (fun hb H7 x7 => ?_) fun hb H7 x7 => ?_
    · have hb : (!decide (s = told)) = true := hb
      rw [Bool.not_eq_true'] at hb
      exact s_rz (ya_cons (yd_var rfl hu2n) (ya_cons yd_str ya_nil)) fun d' H8 x8 hx => qN (fun z => of_decide_eq_false hb (hacc.mp z)) d' H8 ((x6.trans x7).trans x8) hx
    · have hb : (!decide (s = told)) = false := hb
      rw [Bool.not_eq_false'] at hb
      exact s_ret (K := K) (σ := [some v1, some v2, some v3, some v4, some v5, some u1, some u2, some (.ref p), o8, o9]) (D := EndsOf Q) yd_bl fun v H8 x8 hi => q _ v H8 ((x6.trans x7).trans x8) hi ⟨rfl, hacc.mpr (of_decide_eq_true hb)⟩
/-! ### the tries -/
theorem q_try {α : Type} {C : α → Prop} {A : α → List PyData} {R : α → PyData → Prop} {N : α → Prop} {mg : Str → Option Value} {jf je n : Nat} (T : Tz K mg) (x : α) (hc : C x) (h : YA K tas σ H (A x)) (hn : jf < n) (hje : jf ≠ je) (hen : je < n)
    (kR : ∀ d v H1, Ex H H1 → IsD K H1 d v → R x d → tz D (σ.set jf (some v)) H1) (kN : N x → ∀ σ' H1, Ex H H1 → σ'[jf]? = some (some (.bl false)) → tz D σ' H1) :
    tSeq (tTry K jf je n (SpX K C A R N) tas) tz D σ H := by
  refine h H (Ex.refl H) _ fun vs H1 x1 hi => ⟨A x, R x, N x, by rw [List.append_nil]; exact hi, ⟨x, hc, rfl, rfl, rfl⟩, fun d v H2 x2 hd hr => kR d v H2 (x1.trans x2) hd hr, fun nx dd H2 x2 hx σ2 hσ2 => ?_⟩
  obtain ⟨fs, hx⟩ := hx
  refine ⟨true, T.te, fun _ a na => ?_, fun z => by cases z⟩
  refine ⟨dd, rfl, rfl, .ref a, ?_, .ref (gaN K), .ref (gaN K), true, fs, hx, rfl, fun u hu => hu, T.ef.kt, true, rfl, ?_⟩
  · rw [List.getElem?_set_self (by omega)]
  · refine kN nx _ H2 (x1.trans x2) ?_
    rw [List.getElem?_set_ne (Ne.symm hje), List.getElem?_set_self (by rw [List.length_set]; omega)]
abbrev sp_asked_L (K : PySem.W.Frag) : Sp := SpT K (α := Form × Stand × List Ev × Stand × List Nat × Nat) (fun x => AskC x.1 x.2.1 x.2.2.1 x.2.2.2.1 x.2.2.2.2.1) (fun x => [eForm x.1, eStand x.2.1, eDeeds (dsOf x.2.2.1), eStand x.2.2.2.1, eWay x.2.2.2.2.1 x.2.2.2.2.2])
  (fun x r => ∃ b : Bool, r = .bool b ∧ (b = true ↔ Accept x.1 x.2.1 (dsOf x.2.2.1) x.2.2.2.2.1 x.2.2.2.2.2 x.2.2.2.1))
theorem rd_asked_L {mg : Str → Option Value} (T : Tz K mg) {x : Form × Stand × List Ev × Stand × List Nat × Nat} (hc : AskC x.1 x.2.1 x.2.2.1 x.2.2.2.1 x.2.2.2.2.1) (h : IsDs K H [eForm x.1, eStand x.2.1, eDeeds (dsOf x.2.2.1), eStand x.2.2.2.1, eWay x.2.2.2.2.1 x.2.2.2.2.2] vs)
    (q : ∀ d v H', Ex H H' → IsD K H' d v → (∃ b : Bool, d = .bool b ∧ (b = true ↔ Accept x.1 x.2.1 (dsOf x.2.2.1) x.2.2.2.2.1 x.2.2.2.2.2 x.2.2.2.1)) → Q v H') :
    t_asked_L K (sp_way_asked K) (EndsOf Q) (L2.start N_asked_L vs) H := by
  obtain ⟨v1, _, rfl, h1, v2, _, rfl, h2, v3, _, rfl, h3, v4, _, rfl, h4, v5, _, rfl, h5, rfl⟩ := h
  refine q_set (K := K) yd_non fun v0 H1 x1 _ => ?_
  refine q_try T x hc (ya_cons (yd_var rfl (IsD.ex x1 _ _ h1)) (ya_cons (yd_var rfl (IsD.ex x1 _ _ h2)) (ya_cons (yd_var rfl (IsD.ex x1 _ _ h3)) (ya_cons (yd_var rfl (IsD.ex x1 _ _ h4)) (ya_cons (yd_var rfl (IsD.ex x1 _ _ h5)) ya_nil))))) (by decide) (by decide) (by decide) (fun d v H2 x2 hd hr => ?_) fun hN σ' H2 x2 hσ => ?_
  · exact s_ret (yd_var rfl hd) fun v' H3 x3 hi => q _ v' H3 ((x1.trans x2).trans x3) hi ⟨true, hr.1, iff_of_true rfl hr.2⟩
  · exact s_ret (yd_var hσ (d := .bool false) rfl) fun v' H3 x3 hi => q _ v' H3 ((x1.trans x2).trans x3) hi ⟨false, rfl, iff_of_false (by decide) hN⟩
end
end Ct

/-! # CtR7 -/
namespace Ct
open PySem PySem.Spec PyProof.Rows L2 Evl
open Run (dsOf)
/-! ### the dict of letters -/
abbrev eK (k : LK) : List Key := [.inl (k.1 : Int), .inl (k.2 : Int)]
theorem eK_inj {a b : LK} : (eK a = eK b) ↔ a = b := by
  constructor
  · intro h
    have h1 : (Sum.inl (a.1 : Int) : Key) = .inl (b.1 : Int) := (List.cons.inj h).1
    have h2 : (Sum.inl (a.2 : Int) : Key) = .inl (b.2 : Int) := (List.cons.inj (List.cons.inj h).2).1
    have h1 := Sum.inl.inj h1
    have h2 := Sum.inl.inj h2
    exact Prod.ext (by omega) (by omega)
  · intro h
    rw [h]
abbrev eON (o : Option Nat) : PyData := eO eN o
abbrev eLV (v : LV) : PyData := .tuple [eON v.1, eON v.2]
theorem noL_ON (o : Option Nat) : noL (eON o) = true := by cases o <;> rfl
theorem noL_LV (v : LV) : noL (eLV v) = true := by
  show (noL (eON v.1) && (noL (eON v.2) && true)) = true
  rw [noL_ON, noL_ON]
  rfl
/-- entry by entry; e: what a value is -/
def RelT {β : Type} (K : PySem.W.Frag) (e : β → PyData) (H : Hp) : List (LK × β) → List (List Key × V) → Prop
  | [], l => l = []
  | en :: A, l => ∃ x r, l = (eK en.1, x) :: r ∧ IsD K H (e en.2) x ∧ RelT K e H A r
section
variable {β : Type} {K : PySem.W.Frag} {e : β → PyData} {H H' : Hp} {p : Addr} {vs : List V} {σ : L2.St}
theorem RelT.ex (x : Ex H H') : ∀ {A : List (LK × β)} {l : List (List Key × V)}, RelT K e H A l → RelT K e H' A l
  | [], _, h => h
  | en :: A, _, h => by
    obtain ⟨v, r, h1, h2, h3⟩ := h
    exact ⟨v, r, h1, IsD.ex x _ _ h2, RelT.ex x h3⟩
theorem RelT.exb (x : Exb p H H') (hp : ∀ vs, H p ≠ some (.tup vs)) (hn : ∀ b, noL (e b) = true) : ∀ {A : List (LK × β)} {l : List (List Key × V)}, RelT K e H A l → RelT K e H' A l
  | [], _, h => h
  | en :: A, _, h => by
    obtain ⟨v, r, h1, h2, h3⟩ := h
    exact ⟨v, r, h1, IsD.exb x hp _ _ (hn _) h2, RelT.exb x hp hn h3⟩
theorem RelT.len : ∀ {A : List (LK × β)} {l : List (List Key × V)}, RelT K e H A l → l.length = A.length
  | [], _, h => by rw [show _ = [] from h]; rfl
  | en :: A, _, h => by
    obtain ⟨v, r, rfl, h2, h3⟩ := h
    exact congrArg (· + 1) h3.len
theorem RelT.any (k : LK) : ∀ {A : List (LK × β)} {l : List (List Key × V)}, RelT K e H A l → (l.any fun kv => decide (kv.1 = eK k)) = A.any fun en => decide (en.1 = k)
  | [], _, h => by rw [show _ = [] from h]; rfl
  | en :: A, _, h => by
    obtain ⟨v, r, rfl, h2, h3⟩ := h
    rw [List.any_cons, List.any_cons, h3.any k]
    congr 1
    exact decide_eq_decide.mpr eK_inj
theorem RelT.map (k : LK) {b : β} {x : V} (hx : IsD K H (e b) x) : ∀ {A : List (LK × β)} {l : List (List Key × V)}, RelT K e H A l → RelT K e H (A.map fun en => if en.1 = k then (en.1, b) else en) (l.map fun kv => if kv.1 = eK k then (kv.1, x) else kv)
  | [], _, h => by rw [show _ = [] from h]; rfl
  | en :: A, _, h => by
    obtain ⟨v, r, rfl, h2, h3⟩ := h
    rw [List.map_cons, List.map_cons]
    by_cases h : en.1 = k
    · rw [if_pos h, if_pos (eK_inj.mpr h)]
      exact ⟨x, _, rfl, hx, h3.map k hx⟩
    · rw [if_neg h, if_neg fun z => h (eK_inj.mp z)]
      exact ⟨v, _, rfl, h2, h3.map k hx⟩
theorem RelT.snoc {k : LK} {b : β} {x : V} (hx : IsD K H (e b) x) : ∀ {A : List (LK × β)} {l : List (List Key × V)}, RelT K e H A l → RelT K e H (A ++ [(k, b)]) (l ++ [(eK k, x)])
  | [], _, h => by rw [show _ = [] from h]; exact ⟨x, [], rfl, hx, rfl⟩
  | en :: A, _, h => by
    obtain ⟨v, r, rfl, h2, h3⟩ := h
    exact ⟨v, _, rfl, h2, h3.snoc hx⟩
theorem RelT.val (k : LK) : ∀ {A : List (LK × β)} {l : List (List Key × V)} {b : β}, RelT K e H A l → (A.find? fun en => decide (en.1 = k)).map (·.2) = some b → ∃ x, valV l (eK k) = some x ∧ IsD K H (e b) x
  | [], _, _, h, z => by cases z
  | en :: A, _, b, h, z => by
    obtain ⟨v, r, rfl, h2, h3⟩ := h
    by_cases h : en.1 = k
    · rw [List.find?_cons_of_pos (by simpa using h)] at z
      cases z
      exact ⟨v, valV_pos (eK_inj.mpr h), h2⟩
    · rw [List.find?_cons_of_neg (by simpa using h)] at z
      rw [valV_neg fun z => h (eK_inj.mp z)]
      exact h3.val k z
theorem RelT.get : ∀ {A : List (LK × β)} {l : List (List Key × V)} {i : Nat} {k : List Key} {x : V}, RelT K e H A l → l[i]? = some (k, x) → ∃ en, A[i]? = some en ∧ k = eK en.1 ∧ IsD K H (e en.2) x
  | [], _, _, _, _, h, z => by rw [show _ = [] from h] at z; simp at z
  | en :: A, _, 0, k, x, h, z => by
    obtain ⟨v, r, rfl, h2, h3⟩ := h
    have z : (eK en.1, v) = (k, x) := by simpa using z
    cases z
    exact ⟨en, rfl, rfl, h2⟩
  | en :: A, _, i + 1, k, x, h, z => by
    obtain ⟨v, r, rfl, h2, h3⟩ := h
    obtain ⟨en', a, b⟩ := h3.get (i := i) (by simpa using z)
    exact ⟨en', by simpa using a, b⟩
/-- put, of any values -/
def putB (A : List (LK × β)) (k : LK) (v : β) : List (LK × β) := if (A.any fun e => decide (e.1 = k)) = true then A.map (fun e => if e.1 = k then (e.1, v) else e) else A ++ [(k, v)]
theorem RelT.put {A : List (LK × β)} {l : List (List Key × V)} {k : LK} {b : β} {x : V} (h : RelT K e H A l) (hx : IsD K H (e b) x) : RelT K e H (putB A k b) (putK l (eK k) x) := by
  unfold putB putK
  rw [h.any k]
  by_cases z : (A.any fun en => decide (en.1 = k)) = true
  · rw [if_pos z, if_pos z]
    exact h.map k hx
  · rw [if_neg z, if_neg z]
    exact h.snoc hx
/-- a dict of one's own at p -/
def DT (K : PySem.W.Frag) (e : β → PyData) (H : Hp) (p : Addr) (A : List (LK × β)) : Prop := ∃ l, H p = some (.dT l) ∧ RelT K e H A l
theorem DT.ex {A : List (LK × β)} (x : Ex H H') (h : DT K e H p A) : DT K e H' p A := by
  obtain ⟨l, h1, h2⟩ := h
  exact ⟨l, x p _ h1, h2.ex x⟩
theorem DT.noTup {A : List (LK × β)} (h : DT K e H p A) : ∀ vs, H p ≠ some (.tup vs) := by
  obtain ⟨l, h1, _⟩ := h
  exact dT_noTup h1
theorem DT.ne {A : List (LK × β)} {a : Addr} (h : DT K e H a A) (n : H p = Option.none) : a ≠ p := by
  obtain ⟨l, h1, _⟩ := h
  exact ne_of_none h1 n
variable {ty tv : TE} {D : Ends} {tz : TS}
theorem s_dput {j r k : Nat} {b : β} {A : List (LK × β)} (hj : σ[j]? = some (some (.ref p))) (hp : DT K e H p A) (hk : YD K ty σ H (.tuple [eN r, eN k])) (hv : YD K tv σ H (e b)) (hn : ∀ b, noL (e b) = true) (hz : A.length < 100000) (kk : ∀ H1, Exb p H H1 → DT K e H1 p (putB A (r, k) b) → D.nx σ H1) :
    sDPut (tVar j) ty tv D σ H := hv H (Ex.refl H) _ fun v H1 x1 hiv => ⟨.ref p, hj, hk H1 x1 _ fun y H2 x2 hik => by
    obtain ⟨a, us, rfl, ha, w1, _, rfl, e1, w2, _, rfl, e2, rfl⟩ := hik
    obtain ⟨l, l1, l2⟩ := (hp.ex x1).ex x2
    have e1 : w1 = .int (r : Int) := e1
    have e2 : w2 = .int (k : Int) := e2
    subst e1 e2
    refine ⟨p, _, rfl, DPut.t (k := eK (r, k)) l1 ha (by rw [l2.len]; exact sz_lt hz), kk _ ((Exb.of_ex (x1.trans x2)).trans Exb.upd) ⟨_, upd_same, ?_⟩⟩
    exact RelT.put (RelT.exb Exb.upd (dT_noTup l1) hn l2) (IsD.exb Exb.upd (dT_noTup l1) _ _ (hn b) (IsD.ex x2 _ _ hiv))⟩
theorem q_dput {j r k : Nat} {b : β} {A : List (LK × β)} (hj : σ[j]? = some (some (.ref p))) (hp : DT K e H p A) (hk : YD K ty σ H (.tuple [eN r, eN k])) (hv : YD K tv σ H (e b)) (hn : ∀ b, noL (e b) = true) (hz : A.length < 100000) (kk : ∀ H1, Exb p H H1 → DT K e H1 p (putB A (r, k) b) → tz D σ H1) :
    tSeq (sDPut (tVar j) ty tv) tz D σ H := s_dput (D := { D with nx := tz D }) hj hp hk hv hn hz kk
theorem yd_dget {j r k : Nat} {b : β} {A : List (LK × β)} (hj : σ[j]? = some (some (.ref p))) (hp : DT K e H p A) (hk : YD K ty σ H (.tuple [eN r, eN k])) (hl : (A.find? fun en => decide (en.1 = (r, k))).map (·.2) = some b) : YD K (tDGet (tVar j) ty) σ H (e b) := fun H1 x1 Q q =>
  ⟨.ref p, hj, hk H1 x1 _ fun y H2 x2 hik => by
    obtain ⟨a, us, rfl, ha, w1, _, rfl, e1, w2, _, rfl, e2, rfl⟩ := hik
    obtain ⟨l, l1, l2⟩ := (hp.ex x1).ex x2
    have e1 : w1 = .int (r : Int) := e1
    have e2 : w2 = .int (k : Int) := e2
    subst e1 e2
    obtain ⟨x, h1, h2⟩ := l2.val (r, k) hl
    exact ⟨p, x, rfl, by rw [← h1]; exact DGet.t (k := eK (r, k)) l1 ha, q x H2 x2 h2⟩⟩
theorem q_dict {i : Nat} (k : ∀ p H1, H p = Option.none → Ex H H1 → (∀ (β : Type) (e : β → PyData), DT K e H1 p []) → tz D (σ.set i (some (.ref p))) H1) : tSeq (tAsg tDNewT (gName i)) tz D σ H := fun p np => k p _ np (Ex.new np) fun _ _ => ⟨[], upd_same, rfl⟩
end
/-! ### sizes -/
theorem foldl_len {α : Type} {g : LD → α → LD} {c : Nat} (h : ∀ A x, (g A x).length ≤ A.length + c) : ∀ (l : List α) (A : LD), (l.foldl g A).length ≤ A.length + c * l.length
  | [], A => by show A.length ≤ A.length + c * 0; omega
  | x :: l, A => by
    have h1 := foldl_len h l (g A x)
    have h2 := h A x
    show (l.foldl g (g A x)).length ≤ A.length + c * (l.length + 1)
    rw [Nat.mul_add]
    omega
theorem addRoad_len (A : LD) (t r lo n : Nat) : (addRoad A t r lo n).length ≤ A.length + n := by
  have := foldl_len (c := 1) (g := fun A i => putL A (r, lo + i) (some t, none)) (fun A i => putL_length A _ _) (List.range n) A
  rw [List.length_range, Nat.one_mul] at this
  exact this
theorem addTo_len {A : LD} {t : Nat} {s s' : Stand} {n c : Nat} (h : ∀ r, sentAt s' r - sentAt s r ≤ c) : (addTo A t s s' n).length ≤ A.length + c * n := by
  have := foldl_len (c := c) (g := fun A r => addRoad A t r (sentAt s r) (sentAt s' r - sentAt s r)) (fun A r => by have := addRoad_len A t r (sentAt s r) (sentAt s' r - sentAt s r); have := h r; omega) (List.range n) A
  rw [List.length_range] at this
  exact this
theorem initRoad_len (A : LD) (s : Stand) (r n : Nat) : (initRoad A s r n).length ≤ A.length + n := by
  have := foldl_len (c := 1) (g := fun A (p : Nat × Sg) => putL A (r, p.1) (none, none)) (fun A i => putL_length A _ _) ((waitsAt s r).take n) A
  rw [List.length_take, Nat.one_mul] at this
  exact Nat.le_trans this (by omega)
theorem initTo_len {s : Stand} {c : Nat} (h : ∀ r, (waitsAt s r).length ≤ c) (n : Nat) : (initTo s n).length ≤ c * n := by
  have := foldl_len (c := c) (g := fun A r => initRoad A s r (waitsAt s r).length) (fun A r => by have := initRoad_len A s r (waitsAt s r).length; have := h r; omega) (List.range n) []
  rw [List.length_range] at this
  exact Nat.le_trans this (by show 0 + _ ≤ _; omega)
theorem comeL_len (A : LD) (t : Nat) (d : Deed) : (comeL A t d).length ≤ A.length + 1 := by
  cases d with
  | come r k => exact putL_length A _ _
  | own m => show A.length ≤ _; omega
  | hear m g => show A.length ≤ _; omega
theorem waits_le {f : Form} {n : Nat} {s : Stand} (h : StOk f n s) (r : Nat) : (waitsAt s r).length ≤ n := by
  unfold waitsAt
  split
  · rename_i l hl
    exact (h.ld r l hl).wn
  · exact Nat.zero_le _
theorem sent_step {f : Form} {n : Nat} {s : Stand} {d : Deed} {a : Ans} (ok : FormOk f) (hs : StOk f n s) (h : answered f s d = some a) (r : Nat) : sentAt s r ≤ sentAt (applyA f s d a) r ∧ sentAt (applyA f s d a) r - sentAt s r ≤ 2 := by
  have z := applyA_load f s d a r
  obtain ⟨_, a2, _⟩ := ans_ok ok hs h
  have := onRoad_len r a.2.1
  unfold sentAt
  rw [z]
  cases s.loads[r]? with
  | none => exact ⟨Nat.le_refl _, by simp⟩
  | some l =>
    show l.sent ≤ l.sent + _ ∧ l.sent + _ - l.sent ≤ 2
    omega
theorem Good.waits10 {f : Form} {base : Stand} {log : List Ev} (g : Good f base log) (r : Nat) : (waitsAt base r).length ≤ 10 := waits_le g.bs r
theorem Good.init_len {f : Form} {base : Stand} {log : List Ev} (g : Good f base log) (n : Nat) : (initTo base n).length ≤ 10 * n := initTo_len g.waits10 n
theorem Good.letters_len {f : Form} {base : Stand} {log : List Ev} (g : Good f base log) : ∀ t, (lettersAt f base log t).length ≤ 80 + 17 * t
  | 0 => by
    have := g.init_len f.roads.length
    have := g.form.rfew
    show (initTo base f.roads.length).length ≤ 80
    omega
  | t + 1 => by
    have ih := g.letters_len t
    have := g.form.rfew
    show (match log[t]? with
      | some e => addTo (comeL (lettersAt f base log t) t e.1) t (after f base (log.take t)) (after f base (log.take (t + 1))) f.roads.length
      | none => lettersAt f base log t).length ≤ _
    cases he : log[t]? with
    | none =>
      show (lettersAt f base log t).length ≤ _
      omega
    | some e =>
      have ha := runLog_at g.run he
      have h1 := addTo_len (A := comeL (lettersAt f base log t) t e.1) (t := t) (s := after f base (log.take t)) (s' := after f base (log.take (t + 1))) (n := f.roads.length) (c := 2) (fun r => by
        rw [after_take he]
        exact (sent_step g.form (g.at_ t) ha r).2)
      have h2 := comeL_len (lettersAt f base log t) t e.1
      show (addTo _ _ _ _ _).length ≤ _
      omega
/-- what comes has its letter -/
theorem Good.look {f : Form} {base : Stand} {log : List Ev} (g : Good f base log) {t : Nat} {e : Ev} {r k : Nat} (he : log[t]? = some e) (hd : e.1 = .come r k) : ∃ v, lookL (lettersAt f base log t) (r, k) = some v := by
  have R := g.toRun
  have hlt := (List.getElem?_eq_some_iff.mp he).1
  have L := R.letters_ok t (by omega)
  have ha := runLog_at g.run he
  have hp := (R.pos t (by omega)).2
  have hde := g.de e (List.mem_of_getElem? he)
  rw [hd] at ha hde
  have hr : r < f.roads.length := hde
  have hc : ∃ p ∈ waitsAt (after f base (log.take t)) r, p.1 = k := by
    unfold answered at ha
    obtain ⟨c, hc, _⟩ := Option.bind_eq_some_iff.mp ha
    have hc : ((heads (rowAt f r) (waitsAt (after f base (log.take t)) r)).find? fun p => decide (p.1 = k)).map (fun p => Cs.sg p.2) = some c := hc
    obtain ⟨p, hp, _⟩ := Option.map_eq_some_iff.mp hc
    have hm := List.mem_of_find?_eq_some hp
    refine ⟨p, ?_, by simpa using List.find?_some hp⟩
    unfold heads at hm
    split at hm
    · exact List.mem_of_mem_take hm
    · exact hm
  obtain ⟨p, hpm, hpk⟩ := hc
  have hp' : after f base (log.take t) = (wdOf f base log).posStand (posOf f (log.take t)) := hp
  rw [hp'] at hpm
  obtain ⟨en, hen, henk⟩ := L.d3 r hr p hpm
  obtain ⟨v, hv⟩ := lookL_some hen
  rw [henk, hpk] at hv
  exact ⟨v, hv⟩
end Ct

/-! # CtR8 -/
namespace Ct
open PySem PySem.Spec PyProof.Rows L2 Evl
open Run (dsOf)
/-- a promise to give a new dict -/
def PSpD {β : Type} (K : PySem.W.Frag) (e : β → PyData) (G : List PyData → (List (LK × β)) → Prop) : Sp := fun vs H Q _ => ∃ ds A, IsDs K H ds vs ∧ G ds A ∧ ∀ p H', H p = Option.none → Ex H H' → DT K e H' p A → Q (.ref p) H'
abbrev SpD {β : Type} (K : PySem.W.Frag) (e : β → PyData) {α : Type} (C : α → Prop) (A : α → List PyData) (R : α → List (LK × β)) : Sp := PSpD K e fun ds B => ∃ x, C x ∧ ds = A x ∧ B = R x
theorem pspd_len {β : Type} {K : PySem.W.Frag} {e : β → PyData} {G : List PyData → (List (LK × β)) → Prop} {n : Nat} (hn : ∀ ds R, G ds R → ds.length = n) (vs : List V) (H : Hp) (Q : VK) (E : XK) (h : PSpD K e G vs H Q E) : vs.length = n := by
  obtain ⟨ds, R, hi, hg, _⟩ := h
  rw [hi.length]
  exact hn ds R hg
section
variable {K : PySem.W.Frag} {σ : L2.St} {H : Hp} {te ti tx : TE} {tas : TA} {tt : TT} {vs : List V} {Q : VK} {E : XK} {D : Ends} {tz tb : TS} {g : TG} {d x : PyData} {ds : List PyData}
/-- a last statement as one that nothing follows -/
theorem s_of {t : TS} {D : Ends} (h : tSeq t tNext D σ H) : t D σ H := h
abbrev tLetTail (K : PySem.W.Frag) : TS := tSeq (tAsg (tOp (rIx K) (tCall (sp_done K) [] E0 (tCons (tVar 0) (tCons (tVar 1) (tCons (tVar 8) (tNil))))) (tC (.int 0))) (gName 10)) (tSeq (tFor (iRng1 (tCons (tCB (rLenU K) (tCons (tOp (rIx K) (tVar 0) (tC (.int 1))) (tNil))) (tNil))) (gName 4) (tFor (iRng2 (tCons (tOp (rIx K) (tOp (rIx K) (tOp (rIx K) (tVar 1) (tC (.int 1))) (tVar 4)) (tC (.int 0))) (tCons (tOp (rIx K) (tOp (rIx K) (tOp (rIx K) (tVar 10) (tC (.int 1))) (tVar 4)) (tC (.int 0))) (tNil)))) (gName 5) (sDPut (tVar 3) (tTup (tCons (tVar 4) (tCons (tVar 5) (tNil)))) (tTup (tCons (tVar 7) (tCons (tC .non) (tNil))))))) (tAsg (tVar 10) (gName 1)))
theorem letters_tail {f : Form} {s : Stand} {e : Ev} {A : LD} {t : Nat} {p : Addr} {v1 vst v3 u : V} {o4 o5 o6 o9 o10 : Option V} (ok : FormOk f) (hde : DeedOk f e.1) (hs : StOk f 70 s) (ha : answered f s e.1 = some e.2) (hA : A.length ≤ 1000)
    (h1 : IsD K H (eForm f) v1) (hst : IsD K H (eStand s) vst) (hu : IsD K H (eDeed e.1) u) (hp : DT K eLV H p A) (kk : ∀ o4 o5 v o10 H', Exb p H H' → IsD K H' (eStand (applyA f s e.1 e.2)) v → DT K eLV H' p (addTo A t s (applyA f s e.1 e.2) f.roads.length) → D.nx [some v1, some v, some v3, some (.ref p), o4, o5, o6, some (.int (t : Int)), some u, o9, o10] H') :
    tLetTail K D [some v1, some vst, some v3, some (.ref p), o4, o5, o6, some (.int (t : Int)), some u, o9, o10] H := by
  have n8 := ok.rfew
  have hs' := stOk_apply ok hs ha
  have hstep := fun r => sent_step ok hs ha r
  refine q_set (ix0 (yc (d := .tuple [eStand (applyA f s e.1 e.2), eTold (machineOf f e.1) e.2.2.2]) (f, s, e.1, e.2) ⟨ok, hde, hs.mono (by decide), ha⟩ (ya_cons (yd_var rfl h1) (ya_cons (yd_var rfl hst) (ya_cons (yd_var rfl hu) ya_nil))) fun _ h => h)) fun ub H4 x8 hub => ?_
  generalize applyA f s e.1 e.2 = s' at *
  have nf := noL_stand
  refine q_forR (n := f.roads.length) (ylenTM (ix1 (yd_var rfl (IsD.ex x8 _ _ h1)))) (by omega) (fun r σ' H' => Exb p H H' ∧ (∃ o4 o5, σ' = [some v1, some vst, some v3, some (.ref p), o4, o5, o6, some (.int (t : Int)), some u, o9, some ub]) ∧ IsD K H' (eStand s) vst ∧ IsD K H' (eStand s') ub ∧ DT K eLV H' p (addTo A t s s' r))
    (fun H5 x10 => ⟨Exb.of_ex (x8.trans x10), ⟨_, _, rfl⟩, IsD.ex (x8.trans x10) _ _ hst, IsD.ex x10 _ _ hub, (hp.ex x8).ex x10⟩) (fun r σ' H' hr hi => ?_) fun σ' H' hi => ?_
  · obtain ⟨x10, ⟨o4, o5, rfl⟩, j1, j2, j3⟩ := hi
    obtain ⟨l, hl, _, el⟩ := loads_at (f := f) (s := s) (r := r) (by rw [hs.fit.2]; exact hr)
    obtain ⟨l', hl', _, el'⟩ := loads_at (f := f) (s := s') (r := r) (by rw [hs'.fit.2]; exact hr)
    have hsn := (hs.ld r l hl).sn
    have hsn' := (hs'.ld r l' hl').sn
    have hlen := addTo_len (A := A) (t := t) (s := s) (s' := s') (n := r) (c := 2) fun r => (hstep r).2
    have yr : ∀ {H6}, YD K (tVar 4) [some v1, some vst, some v3, some (.ref p), some (.int (r : Int)), o5, o6, some (.int (t : Int)), some u, o9, some ub] H6 (eN r) := fun {H6} => yd_var rfl (show IsD K H6 (eN r) (.int (r : Int)) from rfl)
    refine s_of ?_
    refine q_forR2 (lo := l.sent) (hi := l'.sent) (ix0 (ixM (g := eLoad) (ix1 (yd_var rfl j1)) yr hl)) (ix0 (ixM (g := eLoad) (ix1 (yd_var rfl j2)) yr hl')) (by omega) (by omega)
      (fun i σ' H' => Exb p H H' ∧ (∃ o5, σ' = [some v1, some vst, some v3, some (.ref p), some (.int (r : Int)), o5, o6, some (.int (t : Int)), some u, o9, some ub]) ∧ IsD K H' (eStand s) vst ∧ IsD K H' (eStand s') ub ∧ DT K eLV H' p (addRoad (addTo A t s s' r) t r l.sent i))
      (fun H6 x11 => ⟨x10.trans (Exb.of_ex x11), ⟨_, rfl⟩, IsD.ex x11 _ _ j1, IsD.ex x11 _ _ j2, j3.ex x11⟩) (fun i σ' H' hi2 hi => ?_) fun σ' H' hi => ?_
    · obtain ⟨x11, ⟨o5, rfl⟩, i1, i2, i3⟩ := hi
      have hlen2 := addRoad_len (addTo A t s s' r) t r l.sent i
      refine s_dput (p := p) (r := r) (k := l.sent + i) (b := ((some t, none) : LV)) (e := eLV) rfl i3 (yd_tup (ya_cons (yd_var rfl (show IsD K H' (eN r) (.int (r : Int)) from rfl)) (ya_cons (yd_var rfl (show IsD K H' (eN (l.sent + i)) (.int ((l.sent + i : Nat) : Int)) from rfl)) ya_nil)) (by simp)) (yd_tup (ya_cons (yd_var rfl (show IsD K H' (eN t) (.int (t : Int)) from rfl)) (ya_cons yd_non ya_nil)) (by simp)) noL_LV (by omega) fun H7 xb k5 => ?_
      refine ⟨x11.trans xb, ⟨_, rfl⟩, IsD.exb xb i3.noTup _ _ (nf _) i1, IsD.exb xb i3.noTup _ _ (nf _) i2, ?_⟩
      rw [addRoad_succ]
      exact k5
    · obtain ⟨x11, ⟨o5, rfl⟩, i1, i2, i3⟩ := hi
      refine ⟨x11, ⟨_, _, rfl⟩, i1, i2, ?_⟩
      rw [addTo_succ, el, el']
      exact i3
  · obtain ⟨x10, ⟨o4, o5, rfl⟩, j1, j2, j3⟩ := hi
    exact s_set (yd_var rfl j2) fun v H6 x11 hi => kk _ _ _ _ _ (x10.trans (Exb.of_ex x11)) hi (j3.ex x11)
abbrev sp_letters_of (K : PySem.W.Frag) : Sp := SpD K eLV (α := Form × Stand × List Ev) (fun x => Good x.1 x.2.1 x.2.2) (fun x => [eForm x.1, eStand x.2.1, eDeeds (dsOf x.2.2)]) (fun x => lettersAt x.1 x.2.1 x.2.2 x.2.2.length)
theorem rd_letters_of {x : Form × Stand × List Ev} (hc : Good x.1 x.2.1 x.2.2) (h : IsDs K H [eForm x.1, eStand x.2.1, eDeeds (dsOf x.2.2)] vs) (q : ∀ p H', H p = Option.none → Ex H H' → DT K eLV H' p (lettersAt x.1 x.2.1 x.2.2 x.2.2.length) → Q (.ref p) H') :
    t_letters_of K (sp_run K) (sp_waits K) (sp_done K) (EndsOf Q) (L2.start N_letters_of vs) H := by
  obtain ⟨f, base, log⟩ := x
  dsimp only at hc h q
  obtain ⟨v1, _, rfl, h1, v2, _, rfl, h2, v3, _, rfl, h3, rfl⟩ := h
  have n8 := hc.form.rfew
  have hfew := hc.few
  refine q_drop (ycR (R := fun _ _ => True) (f, base, log) hc (ya_cons (yd_var rfl h1) (ya_cons (yd_var rfl h2) (ya_cons (yd_var rfl h3) ya_nil)))) fun H1 x1 => ?_
  refine q_dict (K := K) fun p H2 np x2 hp => ?_
  have np0 : H p = Option.none := fresh_back x1 np
  have x12 := x1.trans x2
  -- the letters that wait at the start
  refine q_forR (n := f.roads.length) (ylenTM (ix1 (yd_var rfl (IsD.ex x12 _ _ h1)))) (by omega) (fun r σ' H' => Ex H H' ∧ (∃ o4 o5 o6, σ' = [some v1, some v2, some v3, some (.ref p), o4, o5, o6, none, none, none, none]) ∧ DT K eLV H' p (initTo base r))
    (fun H3 x3 => ⟨x12.trans x3, ⟨_, _, _, rfl⟩, (hp LV eLV).ex x3⟩) (fun r σ' H' hr hi => ?_) fun σ' H' hi => ?_
  · obtain ⟨x3, ⟨o4, o5, o6, rfl⟩, k1⟩ := hi
    refine s_of ?_
    refine q_forN (ds := (waitsAt base r).map eSend) (ycL (base, r) (by show r < base.loads.length; rw [hc.bs.fit.2]; exact hr) (ya_cons (yd_var rfl (IsD.ex x3 _ _ h2)) (ya_cons (yd_var rfl (show IsD K H' (eN r) (.int (r : Int)) from rfl)) ya_nil)) fun _ h => h) (noLs_sends _)
      (fun a i σ' H' => a ≠ p ∧ Ex H H' ∧ (∃ o5 o6, σ' = [some v1, some v2, some v3, some (.ref p), some (.int (r : Int)), o5, o6, none, none, none, none]) ∧ OL K H' a ((waitsAt base r).map eSend) ∧ DT K eLV H' p (initRoad (initTo base r) base r i))
      (fun a H4 na x4 ha => ⟨Ne.symm (k1.ne na), x3.trans x4, ⟨_, _, rfl⟩, ha, k1.ex x4⟩) (fun a i σ' H' hi => hi.2.2.2.1.isD) (fun a i d v σ' H'' na hd hv hi => ?_) fun a σ' H'' hi => ?_
    · obtain ⟨hne, x4, ⟨o5, o6, rfl⟩, ha, k2⟩ := hi
      obtain ⟨pl, hpl, rfl⟩ := map_get hd
      refine g_tup2 hv fun u1 u2 hu1 hu2 => ?_
      have hlen : (initRoad (initTo base r) base r i).length < 100000 := by
        have z1 := initRoad_len (initTo base r) base r i
        have z2 := hc.init_len r
        have z3 := (List.getElem?_eq_some_iff.mp hpl).1
        have z4 := hc.waits10 r
        omega
      refine s_dput (p := p) (r := r) (k := pl.1) (b := ((none, none) : LV)) (e := eLV) rfl k2 (yd_tup (ya_cons (yd_var rfl (show IsD K H'' (eN r) (.int (r : Int)) from rfl)) (ya_cons (yd_var rfl hu1) ya_nil)) (by simp)) (yd_tup (ya_cons yd_non (ya_cons yd_non ya_nil)) (by simp)) noL_LV hlen fun H4 xb k3 => ?_
      refine ⟨hne, Ex.exb x4 xb np0, ⟨_, _, rfl⟩, OL.exb xb k2.noTup hne ha, ?_⟩
      rw [initRoad_succ hpl]
      exact k3
    · obtain ⟨hne, x4, ⟨o5, o6, rfl⟩, ha, k2⟩ := hi
      refine ⟨x4, ⟨_, _, _, rfl⟩, ?_⟩
      rw [List.length_map] at k2
      rw [initTo_succ]
      exact k2
  · obtain ⟨x3, ⟨o4, o5, o6, rfl⟩, k1⟩ := hi
    -- deed by deed
    refine q_forEv (j := 2) (v := v3) (ds := (dsOf log).map eDeed) rfl (IsD.ex x3 _ _ h3) (fun t σ' H' => Ex H H' ∧ ∃ vst o4 o5 o6 o7 o8 o9 o10, σ' = [some v1, some vst, some v3, some (.ref p), o4, o5, o6, o7, o8, o9, o10] ∧ IsD K H' (eStand (after f base (log.take t))) vst ∧ DT K eLV H' p (lettersAt f base log t))
      ⟨x3, v2, _, _, _, _, _, _, _, rfl, IsD.ex x3 _ _ h2, k1⟩ (fun t σ' H' hi => IsD.ex hi.1 _ _ h3) (fun t d u σ' H' H'' hd hi x4 hu => ?_) fun σ' H' hi => ?_
    · obtain ⟨x5, vst, o4, o5, o6, o7, o8, o9, o10, rfl, hst, k2⟩ := hi
      obtain ⟨dd, hdd, rfl⟩ := map_get hd
      obtain ⟨e, he, rfl⟩ : ∃ e, log[t]? = some e ∧ dd = e.1 := by
        rw [List.getElem?_map] at hdd
        obtain ⟨e, h1, h2⟩ := Option.map_eq_some_iff.mp hdd
        exact ⟨e, h1, h2.symm⟩
      have hlt := (List.getElem?_eq_some_iff.mp he).1
      have hde := hc.de e (List.mem_of_getElem? he)
      have hs := hc.at_ t
      have ha := runLog_at hc.run he
      have x6 := x5.trans x4
      have k3 := k2.ex x4
      have hst3 := IsD.ex x4 _ _ hst
      have hA := hc.letters_len t
      have eA : lettersAt f base log (t + 1) = addTo (comeL (lettersAt f base log t) t e.1) t (after f base (log.take t)) (after f base (log.take (t + 1))) f.roads.length := by
        show (match log[t]? with
          | some e => addTo (comeL (lettersAt f base log t) t e.1) t (after f base (log.take t)) (after f base (log.take (t + 1))) f.roads.length
          | none => lettersAt f base log t) = _
        rw [he]
      have est : after f base (log.take (t + 1)) = applyA f (after f base (log.take t)) e.1 e.2 := after_take he
      have hcl := comeL_len (lettersAt f base log t) t e.1
      have hlog := hc.few
      refine q_when (b := isCome e.1) (et_is (yt_test (yeqS (ytag (yd_var rfl hu)) yd_str)) (tag_come e.1)) (fun hb H3 x7 => ?_) fun hb H3 x7 => ?_
      · cases hd1 : e.1 with
        | own m => rw [hd1] at hb; cases hb
        | hear m gg => rw [hd1] at hb; cases hb
        | come r k =>
          obtain ⟨v, hv⟩ := hc.look he hd1
          have hu3 := IsD.ex x7 _ _ hu
          rw [hd1] at hu3
          refine q_set (yd_tup (ya_cons (ix1 (yd_var rfl hu3)) (ya_cons (ix2 (yd_var rfl hu3)) ya_nil)) (by simp)) fun ul H4 x8 hul => ?_
          have k4 := (k3.ex x7).ex x8
          refine s_dput (p := p) (r := r) (k := k) (b := ((v.1, some t) : LV)) (e := eLV) rfl k4 (yd_var rfl hul) (yd_tup (ya_cons (ix0 (yd_dget (p := p) (e := eLV) (b := v) rfl k4 (yd_var rfl hul) hv)) (ya_cons (yd_var rfl (show IsD K H4 (eN t) (.int (t : Int)) from rfl)) ya_nil)) (by simp)) noL_LV (by omega) fun H5 xb k5 => ?_
          have xH5 : Ex H H5 := Ex.exb ((x6.trans x7).trans x8) xb np0
          refine letters_tail (t := t) (e := e) (A := comeL (lettersAt f base log t) t e.1) hc.form hde hs ha (by omega) (IsD.ex xH5 _ _ h1) (IsD.exb xb k4.noTup _ _ (noL_stand _) (IsD.ex (x7.trans x8) _ _ hst3)) (IsD.exb xb k4.noTup _ _ (noL_deed _) (IsD.ex (x7.trans x8) _ _ hu)) ?_ fun o4 o5 v o10 H' xb2 hv2 hp2 => ⟨Ex.exb xH5 xb2 np0, v, _, _, _, _, _, _, _, rfl, by rw [est]; exact hv2, by rw [eA, est]; exact hp2⟩
          rw [hd1]
          show DT K eLV H5 p (putL (lettersAt f base log t) (r, k) (((lookL (lettersAt f base log t) (r, k)).getD (none, none)).1, some t))
          rw [hv]
          exact k5
      · refine letters_tail (t := t) (e := e) (A := comeL (lettersAt f base log t) t e.1) hc.form hde hs ha (by omega) (IsD.ex (x6.trans x7) _ _ h1) (IsD.ex x7 _ _ hst3) (IsD.ex x7 _ _ hu) ?_ fun o4 o5 v o10 H' xb2 hv2 hp2 => ⟨Ex.exb (x6.trans x7) xb2 np0, v, _, _, _, _, _, _, _, rfl, by rw [est]; exact hv2, by rw [eA, est]; exact hp2⟩
        have ec : comeL (lettersAt f base log t) t e.1 = lettersAt f base log t := by
          cases hd1 : e.1 with
          | own m => rfl
          | hear m gg => rfl
          | come r k => rw [hd1] at hb; cases hb
        rw [ec]
        exact k3.ex x7
    · obtain ⟨x5, vst, o4, o5, o6, o7, o8, o9, o10, rfl, hst, k2⟩ := hi
      rw [List.length_map, List.length_map] at k2
      exact ⟨.ref p, rfl, q p H' np0 x5 k2⟩
end
end Ct

/-! # CtR9 -/
namespace Ct
open PySem PySem.Spec PyProof.Rows L2 Evl
open Run (dsOf RightL)
abbrev RdE := Option (Nat × Nat) × (Nat × Nat)
abbrev eRd (x : RdE) : PyData := .tuple [eO eEv x.1, eEv x.2]
def rdOf (evs : List (Nat × Nat)) (en : LK × LV) : Option RdE := match en.2.2 with
  | some j => some (en.2.1.map fun i => evs.getD i (0, 0), evs.getD j (0, 0))
  | none => none
def roadsOf (evs : List (Nat × Nat)) (A : LD) : List RdE := A.filterMap (rdOf evs)
theorem noL_rd (x : RdE) : noL (eRd x) = true := by
  obtain ⟨o, e⟩ := x
  cases o <;> rfl
def isBad (cut : Nat → Nat) (x : RdE) : Bool := decide (x.2.2 < cut x.2.1) && (match x.1 with
  | some e => !decide (e.2 < cut e.1)
  | none => false)
theorem right_bad {evs : List (Nat × Nat)} {cut : Nat → Nat} {A : LD} (hA : ∀ en ∈ A, (∀ j, en.2.2 = some j → j < evs.length) ∧ ∀ j, en.2.1 = some j → j < evs.length) : RightL evs cut A ↔ ∀ x ∈ roadsOf evs A, isBad cut x = false := by
  have key : ∀ {j}, j < evs.length → inCut evs cut j = decide ((evs.getD j (0, 0)).2 < cut (evs.getD j (0, 0)).1) := fun {j} hj => by
    have : evs[j]? = some (evs.getD j (0, 0)) := by
      rw [List.getD_eq_getElem?_getD, List.getElem?_eq_getElem hj]
      rfl
    exact inCut_at this
  constructor
  · intro h x hx
    obtain ⟨en, hen, hx⟩ := List.mem_filterMap.mp hx
    obtain ⟨h1, h2⟩ := hA en hen
    unfold rdOf at hx
    split at hx
    · rename_i j hj
      cases hx
      unfold isBad
      cases hi : en.2.1 with
      | none =>
        show (_ && false) = false
        rw [Bool.and_false]
      | some i =>
        show (decide _ && !decide _) = false
        rw [← key (h1 j hj), ← key (h2 i hi)]
        cases hin : inCut evs cut j with
        | false => rfl
        | true =>
          rw [h en hen j hj hin i hi]
          rfl
    · cases hx
  · intro h en hen j hj hin i hi
    obtain ⟨h1, h2⟩ := hA en hen
    have hx : (some (evs.getD i (0, 0)), evs.getD j (0, 0)) ∈ roadsOf evs A := List.mem_filterMap.mpr ⟨en, hen, by
      unfold rdOf
      rw [hj, hi]
      rfl⟩
    have hb := h _ hx
    have hb : (decide _ && !decide _) = false := hb
    rw [← key (h1 j hj), ← key (h2 i hi), hin] at hb
    cases hic : inCut evs cut i with
    | true => rfl
    | false => rw [hic] at hb; cases hb
theorem Good.idx {f : Form} {base : Stand} {log : List Ev} (g : Good f base log) : ∀ en ∈ lettersAt f base log log.length, (∀ j, en.2.2 = some j → j < (eventsOf f (dsOf log)).length) ∧ ∀ j, en.2.1 = some j → j < (eventsOf f (dsOf log)).length := by
  have L := g.toRun.letters_ok log.length (Nat.le_refl _)
  have e : (eventsOf f (dsOf log)).length = log.length := by
    rw [events_length]
    exact List.length_map _
  rw [e]
  exact fun en hen => ⟨fun j hj => (L.dc en hen j hj).1, fun j hj => (L.ds en hen j hj).1⟩
section
variable {K : PySem.W.Frag} {σ : L2.St} {H : Hp} {te ti tx : TE} {tas : TA} {tt : TT} {vs : List V} {Q : VK} {E : XK} {D : Ends} {tz tb : TS} {g : TG} {d x : PyData} {ds : List PyData}
/-- for x in the values of a new dict -/
theorem q_forV {α β : Type} {C : α → Prop} {A : α → List PyData} {e : β → PyData} {R : α → List (LK × β)} (x : α) (hc : C x) (h : YA K tas σ H (A x)) (hn : ∀ b, noL (e b) = true) (Pv : Addr → Obj → List (List Key × V) → Nat → L2.St → Hp → Prop)
    (h0 : ∀ p o l H1, H p = Option.none → Ex H H1 → H1 p = some (.frz o (.dT l)) → RelT K e H1 (R x) l → Pv p o l 0 σ H1) (hG : ∀ p o l i σ' H', Pv p o l i σ' H' → H' p = some (.frz o (.dT l)))
    (hs : ∀ p o l i k v σ' H', l[i]? = some (k, v) → Pv p o l i σ' H' → g v σ' H' fun σ2 H2 => tb { D with nx := Pv p o l (i + 1), ct := Pv p o l (i + 1), bk := tz D } σ2 H2) (hd : ∀ p o l σ' H', Pv p o l l.length σ' H' → tz D σ' H') :
    tSeq (tFor (iValsT (tCall (SpD K e C A R) [] E0 tas)) g tb) tz D σ H := h H (Ex.refl H) _ fun vs H1 x1 hi => ⟨A x, R x, by rw [List.append_nil]; exact hi, ⟨x, hc, rfl, rfl⟩, fun p H2 np x2 hp => by
    obtain ⟨l, l1, l2⟩ := hp
    refine ⟨p, l, rfl, l1, fun o => loop_it (n := l.length) (D := { D with nx := tz D }) (Pv p o l) (h0 p o l _ (fresh_back x1 np) (Ex.mut (x1.trans x2) (fresh_back x1 np)) upd_same (RelT.exb Exb.upd (dT_noTup l1) hn l2)) (fun i σ' H' hlt hp => ⟨hG _ _ _ _ _ _ hp, hlt⟩) (fun σ' H' hp => ⟨hG _ _ _ _ _ _ hp, Nat.le_refl _⟩) (fun i σ' H' v H'' hlt hp y => ?_) (hd p o l)⟩
    obtain ⟨rfl, k, y⟩ := y
    exact hs p o l i k v σ' H'' y hp⟩
abbrev sp_roads_of_letters (K : PySem.W.Frag) : Sp := SpL K (α := Form × Stand × List Ev) (fun x => Good x.1 x.2.1 x.2.2) (fun x => [eForm x.1, eStand x.2.1, eDeeds (dsOf x.2.2)]) (fun x es => es = (roadsOf (eventsOf x.1 (dsOf x.2.2)) (lettersAt x.1 x.2.1 x.2.2 x.2.2.length)).map eRd)
theorem rd_roads_of_letters {x : Form × Stand × List Ev} (hc : Good x.1 x.2.1 x.2.2) (h : IsDs K H [eForm x.1, eStand x.2.1, eDeeds (dsOf x.2.2)] vs) (q : ∀ es ws p H', H p = Option.none → Ex H H' → H' p = some (.lst ws) → IsDs K H' es ws → es = (roadsOf (eventsOf x.1 (dsOf x.2.2)) (lettersAt x.1 x.2.1 x.2.2 x.2.2.length)).map eRd → Q (.ref p) H') :
    t_roads_of_letters K (sp_events_of K) (sp_letters_of K) (EndsOf Q) (L2.start N_roads_of_letters vs) H := by
  obtain ⟨f, base, log⟩ := x
  dsimp only at hc h q
  obtain ⟨v1, _, rfl, h1, v2, _, rfl, h2, v3, _, rfl, h3, rfl⟩ := h
  have hds := dsOk_log hc
  have hfew := hc.few
  have hAl := hc.letters_len log.length
  have hidx := hc.idx
  generalize hE : eventsOf f (dsOf log) = evs at q hidx
  generalize hA : lettersAt f base log log.length = A at q hidx hAl
  refine q_setN (ds := evs.map eEv) (ycL (f, dsOf log) hds (ya_cons (yd_var rfl h1) (ya_cons (yd_var rfl h3) ya_nil)) fun d' h => by rw [h]; show (eventsOf f (dsOf log)).map eEv = _; rw [hE]) (noLs_evs _) fun pe H1 npe x1 hpe => ?_
  refine q_setN (K := K) (yn_lst ya_nil (by simp)) rfl fun pf H2 npf x2 hpf => ?_
  have hne : pe ≠ pf := hpe.ne npf
  have npf0 : H pf = Option.none := fresh_back x1 npf
  have x12 := x1.trans x2
  refine q_forV (e := eLV) (f, base, log) hc (ya_cons (yd_var rfl (IsD.ex x12 _ _ h1)) (ya_cons (yd_var rfl (IsD.ex x12 _ _ h2)) (ya_cons (yd_var rfl (IsD.ex x12 _ _ h3)) ya_nil))) noL_LV
    (fun p o l i σ' H' => p ≠ pf ∧ Ex H H' ∧ H' p = some (.frz o (.dT l)) ∧ (∃ o5 o6, σ' = [some v1, some v2, some v3, some (.ref pe), some (.ref pf), o5, o6]) ∧ OL K H' pe (evs.map eEv) ∧ RelT K eLV H' A l ∧ OL K H' pf ((roadsOf evs (A.take i)).map eRd))
    (fun p o l H3 np x3 hp hr => ⟨Ne.symm (hpf.ne np), x12.trans x3, hp, ⟨_, _, rfl⟩, (hpe.ex x2).ex x3, hA ▸ hr, hpf.ex x3⟩) (fun p o l i σ' H' hi => hi.2.2.1) (fun p o l i k v σ' H' hl hi => ?_) fun p o l σ' H' hi => ?_
  · obtain ⟨hpp, x3, hfz, ⟨o5, o6, rfl⟩, k1, k2, k3⟩ := hi
    obtain ⟨en, hen, _, hv⟩ := k2.get hl
    have hil : i < A.length := (List.getElem?_eq_some_iff.mp hen).1
    obtain ⟨i1, i2⟩ := hidx en (List.mem_of_getElem? hen)
    have eT : roadsOf evs (A.take (i + 1)) = roadsOf evs (A.take i) ++ [en].filterMap (rdOf evs) := by
      unfold roadsOf
      rw [Wd.take_snoc hen, List.filterMap_append]
    have hrl : (roadsOf evs (A.take i)).length ≤ 1000 := by
      have z1 := List.length_filterMap_le (rdOf evs) (A.take i)
      rw [List.length_take] at z1
      unfold roadsOf
      omega
    refine g_tup2 hv fun u1 u2 hu1 hu2 => ?_
    refine s_when (yt_test (ynotN (yd_var rfl hu2))) (fun hb H4 x4 => ?_) fun hb H4 x4 => ?_
    · cases hj : en.2.2 with
      | none => rw [hj] at hb; cases hb
      | some j =>
        rw [hj] at hu2
        have hjl := i1 j hj
        have gj : evs[j]? = some (evs.getD j (0, 0)) := by
          rw [List.getD_eq_getElem?_getD, List.getElem?_eq_getElem hjl]
          rfl
        have k14 := k1.ex x4
        have k34 := k3.ex x4
        have ysnd : YD K (tIf (tTest (tOp rIsNo (tVar 5) (tC .non))) (tC .non) (tOp (rIx K) (tVar 3) (tVar 5))) [some v1, some v2, some v3, some (.ref pe), some (.ref pf), some u1, some u2] H4 (eO eEv (en.2.1.map fun i => evs.getD i (0, 0))) := by
          have hu1' := IsD.ex x4 _ _ hu1
          cases hi : en.2.1 with
          | none =>
            rw [hi] at hu1'
            exact yd_if (b := true) (yt_test (yisN (yd_var rfl hu1'))) (fun _ => yd_non) fun z => by cases z
          | some i' =>
            rw [hi] at hu1'
            have gi : evs[i']? = some (evs.getD i' (0, 0)) := by
              rw [List.getD_eq_getElem?_getD, List.getElem?_eq_getElem (i2 i' hi)]
              rfl
            exact yd_if (b := false) (yt_test (yisN (yd_var rfl hu1'))) (fun z => by cases z) fun _ => ixLM (g := eEv) (yd_var rfl k14.isD) (yd_var rfl hu1') gi
        refine s_app (p := pf) (ds := (roadsOf evs (A.take i)).map eRd) (d := eRd (en.2.1.map fun i => evs.getD i (0, 0), evs.getD j (0, 0))) rfl k34 (yd_tup (ya_cons ysnd (ya_cons (ixLM (g := eEv) (yd_var rfl k14.isD) (yd_var rfl (IsD.ex x4 _ _ hu2)) gj) ya_nil)) (by simp)) (noL_rd _) (by rw [List.length_map]; omega) fun H5 xb k5 => ?_
        refine ⟨hpp, Ex.exb (x3.trans x4) xb npf0, xb p _ hpp (x4 p _ hfz), ⟨_, _, rfl⟩, OL.exb xb k34.noTup hne k14, RelT.exb xb k34.noTup noL_LV (k2.ex x4), ?_⟩
        rw [eT, List.map_append]
        have er : [en].filterMap (rdOf evs) = [(en.2.1.map fun i => evs.getD i (0, 0), evs.getD j (0, 0))] := by
          have : rdOf evs en = some (en.2.1.map fun i => evs.getD i (0, 0), evs.getD j (0, 0)) := by
            unfold rdOf
            rw [hj]
          simp [this]
        rw [er]
        exact k5
    · cases hj : en.2.2 with
      | some j => rw [hj] at hb; cases hb
      | none =>
        refine ⟨hpp, x3.trans x4, x4 p _ hfz, ⟨_, _, rfl⟩, k1.ex x4, k2.ex x4, ?_⟩
        have er : [en].filterMap (rdOf evs) = [] := by
          have : rdOf evs en = none := by
            unfold rdOf
            rw [hj]
          simp [this]
        rw [eT, er, List.append_nil]
        exact k3.ex x4
  · obtain ⟨hpp, x3, hfz, ⟨o5, o6, rfl⟩, k1, k2, k3⟩ := hi
    rw [k2.len, List.take_length] at k3
    obtain ⟨ws, w1, w2, _⟩ := k3
    exact ⟨.ref pf, rfl, q _ ws pf H' npf0 x3 w1 w2 rfl⟩
/-! ### first_come_unsent -/
structure CutC (f : Form) (base : Stand) (log : List Ev) (cut : Nat → Nat) : Prop where
  good : Good f base log
  le : ∀ m, cut m ≤ cntOf f (dsOf log) m
abbrev RightD (f : Form) (base : Stand) (log : List Ev) (cut : Nat → Nat) : Prop := RightL (eventsOf f (dsOf log)) cut (lettersAt f base log log.length)
abbrev sp_first_come_unsent (K : PySem.W.Frag) : Sp := SpT K (α := Form × Stand × List Ev × (Nat → Nat)) (fun x => Good x.1 x.2.1 x.2.2.1) (fun x => [eForm x.1, eStand x.2.1, eDeeds (dsOf x.2.2.1), eCut x.2.2.2 x.1.rules.length])
  (fun x r => (r = .none ∧ RightD x.1 x.2.1 x.2.2.1 x.2.2.2) ∨ ∃ m : Int, r = .int m ∧ ¬ RightD x.1 x.2.1 x.2.2.1 x.2.2.2)
theorem rd_mem {evs : List (Nat × Nat)} {A : LD} (hA : ∀ en ∈ A, (∀ j, en.2.2 = some j → j < evs.length) ∧ ∀ j, en.2.1 = some j → j < evs.length) {x : RdE} (hx : x ∈ roadsOf evs A) : x.2 ∈ evs ∧ ∀ e, x.1 = some e → e ∈ evs := by
  have key : ∀ {j}, j < evs.length → evs.getD j (0, 0) ∈ evs := fun {j} hj => by
    rw [List.getD_eq_getElem?_getD, List.getElem?_eq_getElem hj]
    exact List.getElem_mem hj
  obtain ⟨en, hen, hx⟩ := List.mem_filterMap.mp hx
  obtain ⟨h1, h2⟩ := hA en hen
  unfold rdOf at hx
  split at hx
  · rename_i j hj
    cases hx
    refine ⟨key (h1 j hj), fun e he => ?_⟩
    obtain ⟨i, hi, rfl⟩ := Option.map_eq_some_iff.mp he
    exact key (h2 i hi)
  · cases hx
theorem rd_first_come_unsent {x : Form × Stand × List Ev × (Nat → Nat)} (hc : Good x.1 x.2.1 x.2.2.1) (h : IsDs K H [eForm x.1, eStand x.2.1, eDeeds (dsOf x.2.2.1), eCut x.2.2.2 x.1.rules.length] vs)
    (q : ∀ d v H', Ex H H' → IsD K H' d v → ((d = .none ∧ RightD x.1 x.2.1 x.2.2.1 x.2.2.2) ∨ ∃ m : Int, d = .int m ∧ ¬ RightD x.1 x.2.1 x.2.2.1 x.2.2.2) → Q v H') :
    t_first_come_unsent K (sp_roads_of_letters K) (sp_is_in K) (EndsOf Q) (L2.start N_first_come_unsent vs) H := by
  obtain ⟨f, base, log, cut⟩ := x
  dsimp only at hc h q
  obtain ⟨v1, _, rfl, h1, v2, _, rfl, h2, v3, _, rfl, h3, v4, _, rfl, h4, rfl⟩ := h
  have hds := dsOk_log hc
  have hidx := hc.idx
  have hrb := right_bad (cut := cut) hidx
  have hAl := hc.letters_len log.length
  have hfew := hc.few
  have hRl : (roadsOf (eventsOf f (dsOf log)) (lettersAt f base log log.length)).length ≤ 1000 := by
    have z1 := List.length_filterMap_le (rdOf (eventsOf f (dsOf log))) (lettersAt f base log log.length)
    unfold roadsOf
    omega
  have hmem : ∀ x ∈ roadsOf (eventsOf f (dsOf log)) (lettersAt f base log log.length), x.2.1 < f.rules.length ∧ ∀ e, x.1 = some e → e.1 < f.rules.length := fun x hx => by
    obtain ⟨a, b⟩ := rd_mem hidx hx
    obtain ⟨i, hi⟩ := List.mem_iff_getElem?.mp a
    refine ⟨ev_lt hds hi, fun e he => ?_⟩
    obtain ⟨i, hi⟩ := List.mem_iff_getElem?.mp (b e he)
    exact ev_lt hds hi
  refine q_setN (K := K) (yn_lst ya_nil (by simp)) rfl fun p H1 np x1 hp => ?_
  have hcl := ycL (K := K) (σ := [some v1, some v2, some v3, some v4, some (.ref p), none, none]) (H := H1) (C := fun x : Form × Stand × List Ev => Good x.1 x.2.1 x.2.2) (A := fun x => [eForm x.1, eStand x.2.1, eDeeds (dsOf x.2.2)]) (R := fun x es => es = (roadsOf (eventsOf x.1 (dsOf x.2.2)) (lettersAt x.1 x.2.1 x.2.2 x.2.2.length)).map eRd) (f, base, log) hc (ya_cons (yd_var (i := 0) rfl (IsD.ex x1 _ _ h1)) (ya_cons (yd_var (i := 1) rfl (IsD.ex x1 _ _ h2)) (ya_cons (yd_var (i := 2) rfl (IsD.ex x1 _ _ h3)) ya_nil))) fun _ h => h
  dsimp only at hcl
  have hRD : RightD f base log cut ↔ ∀ x ∈ roadsOf (eventsOf f (dsOf log)) (lettersAt f base log log.length), isBad cut x = false := hrb
  generalize roadsOf (eventsOf f (dsOf log)) (lettersAt f base log log.length) = L at hcl hRl hmem hRD
  refine q_forN (ds := L.map eRd) hcl (noLs_map noL_rd _) (fun a i σ' H' => a ≠ p ∧ Ex H H' ∧ (∃ o5 o6, σ' = [some v1, some v2, some v3, some v4, some (.ref p), o5, o6]) ∧ OL K H' a (L.map eRd) ∧ OL K H' p (((L.take i).filter (isBad cut)).map fun x => eN x.2.1))
    (fun a H2 na x2 ha => ⟨Ne.symm (hp.ne na), x1.trans x2, ⟨_, _, rfl⟩, ha, hp.ex x2⟩) (fun a i σ' H' hi => hi.2.2.2.1.isD) (fun a i d v σ' H' na hd hv hi => ?_) fun a σ' H' hi => ?_
  · obtain ⟨hne, x3, ⟨o5, o6, rfl⟩, k1, k2⟩ := hi
    obtain ⟨y, hy, rfl⟩ := map_get hd
    obtain ⟨m1, m2⟩ := hmem y (List.mem_of_getElem? hy)
    have hil := (List.getElem?_eq_some_iff.mp hy).1
    refine g_tup2 hv fun u1 u2 hu1 hu2 => ?_
    have eT : (L.take (i + 1)).filter (isBad cut) = (L.take i).filter (isBad cut) ++ [y].filter (isBad cut) := by
      rw [Wd.take_snoc hy, List.filter_append]
    have hcut := IsD.ex x3 _ _ h4
    refine s_when (b := isBad cut y) (et_is (et_and (yt_B (yc (y.2, cut, f.rules.length) m1 (ya_cons (yd_var rfl hu2) (ya_cons (yd_var rfl hcut) ya_nil)) fun _ h => h)) fun _ => et_and (b := match y.1 with
        | some e => !decide (e.2 < cut e.1)
        | none => false) (yt_test (ynotN (yd_var rfl hu1))) fun hb => ?_) ?_) (fun hb H4 x4 => ?_) fun hb H4 x4 => ?_
    · obtain ⟨y1, y2⟩ := y
      cases y1 with
      | none => cases hb
      | some e => exact et_not (yt_B (yc (e, cut, f.rules.length) (m2 e rfl) (ya_cons (yd_var rfl hu1) (ya_cons (yd_var rfl hcut) ya_nil)) fun _ h => h))
    · unfold isBad
      obtain ⟨y1, y2⟩ := y
      cases y1 with
      | none => rfl
      | some e => rfl
    · refine s_app (p := p) (ds := ((L.take i).filter (isBad cut)).map fun x => eN x.2.1) (d := eN y.2.1) rfl (k2.ex x4) (ix0 (yd_var rfl (IsD.ex x4 _ _ hu2))) rfl (by
        have := List.length_filter_le (isBad cut) (L.take i)
        rw [List.length_take] at this
        rw [List.length_map]
        omega) fun H5 xb k5 => ?_
      refine ⟨hne, Ex.exb (x3.trans x4) xb np, ⟨_, _, rfl⟩, OL.exb xb (k2.ex x4).noTup hne (k1.ex x4), ?_⟩
      rw [eT, List.map_append]
      have er : [y].filter (isBad cut) = [y] := by simp [hb]
      rw [er]
      exact k5
    · refine ⟨hne, x3.trans x4, ⟨_, _, rfl⟩, k1.ex x4, ?_⟩
      have er : [y].filter (isBad cut) = [] := by simp [hb]
      rw [eT, er, List.append_nil]
      exact k2.ex x4
  · obtain ⟨hne, x3, ⟨o5, o6, rfl⟩, k1, k2⟩ := hi
    rw [List.length_map, List.take_length] at k2
    obtain ⟨ws, w1, w2, _⟩ := k2
    have ei : ((L.filter (isBad cut)).map fun x => eN x.2.1) = ((L.filter (isBad cut)).map fun x => ((x.2.1 : Nat) : Int)).map PyData.int := by rw [List.map_map]; rfl
    rw [ei] at w2
    rw [w2.ints] at w1
    refine ⟨.ref p, rfl, p, _, rfl, rfl, sq_of w1, fun z => ?_, fun z i hi => ?_⟩
    · refine q .none .non H' x3 rfl (.inl ⟨rfl, hRD.mpr fun y hy => ?_⟩)
      have z := List.map_eq_nil_iff.mp z
      cases hb : isBad cut y with
      | false => rfl
      | true =>
        have : y ∈ L.filter (isBad cut) := List.mem_filter.mpr ⟨hy, hb⟩
        rw [z] at this
        cases this
    · obtain ⟨y, hy, rfl⟩ := List.mem_map.mp hi
      obtain ⟨a, b⟩ := List.mem_filter.mp hy
      refine q (.int _) (.int _) H' x3 rfl (.inr ⟨_, rfl, fun hr => ?_⟩)
      rw [hRD.mp hr y a] at b
      cases b
/-! ### right_cut -/
abbrev sp_right_cut (K : PySem.W.Frag) : Sp := SpX K (α := Form × Stand × List Ev × (Nat → Nat)) (fun x => CutC x.1 x.2.1 x.2.2.1 x.2.2.2) (fun x => [eForm x.1, eStand x.2.1, eDeeds (dsOf x.2.2.1), eCut x.2.2.2 x.1.rules.length])
  (fun x r => r = .bool true ∧ RightD x.1 x.2.1 x.2.2.1 x.2.2.2) (fun x => ¬ RightD x.1 x.2.1 x.2.2.1 x.2.2.2)
theorem rd_right_cut {x : Form × Stand × List Ev × (Nat → Nat)} (hc : CutC x.1 x.2.1 x.2.2.1 x.2.2.2) (h : IsDs K H [eForm x.1, eStand x.2.1, eDeeds (dsOf x.2.2.1), eCut x.2.2.2 x.1.rules.length] vs)
    (q : ∀ d v H', Ex H H' → IsD K H' d v → (d = .bool true ∧ RightD x.1 x.2.1 x.2.2.1 x.2.2.2) → Q v H') (qN : ¬ RightD x.1 x.2.1 x.2.2.1 x.2.2.2 → ∀ d H', Ex H H' → (∃ fs, H' d = some (.xd fs)) → E (.ref (gaN K)) (some d) H') :
    t_right_cut K E (sp_ends_of_run K) (sp_are_wholes K) (sp_first_come_unsent K) (EndsOf Q) (L2.start N_right_cut vs) H := by
  obtain ⟨f, base, log, cut⟩ := x
  dsimp only at hc h q qN
  obtain ⟨v1, _, rfl, h1, v2, _, rfl, h2, v3, _, rfl, h3, v4, _, rfl, h4, rfl⟩ := h
  have hds := dsOk_log hc.good
  have n4 := hds.1.few
  refine q_set (yc (f, dsOf log) hds (ya_cons (yd_var rfl h1) (ya_cons (yd_var rfl h3) ya_nil)) fun _ h => h) fun ve H1 x1 hve => ?_
  have hve : IsD K H1 (eCut (cntOf f (dsOf log)) f.rules.length) ve := hve
  have hlen : ∀ {H2 o}, Ex H1 H2 → YD K (tCB (rLenU K) (tCons (tVar 4) tNil)) [some v1, some v2, some v3, some v4, some ve, o] H2 (eN f.rules.length) := fun {H2 o} x => (ylenT (yd_var rfl (IsD.ex x _ _ hve))).to (by rw [cnts_len])
  refine q_if (b := false) (et_is (et_not (yt_B (yc (cut, f.rules.length) (by show f.rules.length ≤ 1000; omega) (ya_cons (yd_var rfl (IsD.ex x1 _ _ h4)) (ya_cons (hlen (Ex.refl _)) ya_nil)) fun _ h => h))) rfl) (fun hb => by cases hb) fun _ H2 x2 => ?_
  refine q_forR (n := f.rules.length) (hlen x2) (by omega) (fun i σ' H' => Ex H1 H' ∧ ∃ o, σ' = [some v1, some v2, some v3, some v4, some ve, o]) (fun H3 x3 => ⟨x2.trans x3, _, rfl⟩) (fun i σ' H' hi hp => ?_) fun σ' H' hp => ?_
  · obtain ⟨x3, o, rfl⟩ := hp
    have yi : ∀ {H3}, YD K (tVar 5) [some v1, some v2, some v3, some v4, some ve, some (.int (i : Int))] H3 (eN i) := fun {H3} => yd_var rfl (show IsD K H3 (eN i) (.int (i : Int)) from rfl)
    refine s_when (b := false) (et_is (et_or (yt_test (nlt (ixT (yd_var rfl (IsD.ex (x1.trans x3) _ _ h4)) yi (cnts_at hi)) (nlit 0))) fun _ => yt_test (ngt (ixT (yd_var rfl (IsD.ex (x1.trans x3) _ _ h4)) yi (cnts_at hi)) (ixT (yd_var rfl (IsD.ex x3 _ _ hve)) yi (cnts_at hi)))) ?_) (fun hb => by cases hb) fun _ H4 x4 => ⟨x3.trans x4, _, rfl⟩
    have := hc.le i
    rw [decide_eq_false (by omega), decide_eq_false (by omega)]
    rfl
  · obtain ⟨x3, o, rfl⟩ := hp
    have x13 := x1.trans x3
    refine q_setR (ycR (R := fun (x : Form × Stand × List Ev × (Nat → Nat)) r => (r = .none ∧ RightD x.1 x.2.1 x.2.2.1 x.2.2.2) ∨ ∃ m : Int, r = .int m ∧ ¬ RightD x.1 x.2.1 x.2.2.1 x.2.2.2) (f, base, log, cut) hc.good (ya_cons (yd_var rfl (IsD.ex x13 _ _ h1)) (ya_cons (yd_var rfl (IsD.ex x13 _ _ h2)) (ya_cons (yd_var rfl (IsD.ex x13 _ _ h3)) (ya_cons (yd_var rfl (IsD.ex x13 _ _ h4)) ya_nil))))) fun d v H4 x4 hd hr => ?_
    rcases hr with ⟨rfl, hR⟩ | ⟨m, rfl, hR⟩
    · refine q_when (b := false) (yt_test (ynotN (yd_var rfl hd))) (fun hb => by cases hb) fun _ H5 x5 => ?_
      exact s_ret yd_bl fun v H6 x6 hi => q _ v H6 (((x13.trans x4).trans x5).trans x6) hi ⟨rfl, hR⟩
    · refine q_when (b := true) (yt_test (ynotN (yd_var rfl hd))) (fun _ H5 x5 => ?_) fun hb => by cases hb
      exact s_rz (ya_cons (yd_var rfl (IsD.ex x5 _ _ hd)) (ya_cons yd_str ya_nil)) fun dd H6 x6 hx => qN hR dd H6 (((x13.trans x4).trans x5).trans x6) hx
abbrev sp_is_cut_L (K : PySem.W.Frag) : Sp := SpT K (α := Form × Stand × List Ev × (Nat → Nat)) (fun x => CutC x.1 x.2.1 x.2.2.1 x.2.2.2) (fun x => [eForm x.1, eStand x.2.1, eDeeds (dsOf x.2.2.1), eCut x.2.2.2 x.1.rules.length])
  (fun x r => ∃ b : Bool, r = .bool b ∧ (b = true ↔ RightD x.1 x.2.1 x.2.2.1 x.2.2.2))
theorem rd_is_cut_L {mg : Str → Option Value} (T : Tz K mg) {x : Form × Stand × List Ev × (Nat → Nat)} (hc : CutC x.1 x.2.1 x.2.2.1 x.2.2.2) (h : IsDs K H [eForm x.1, eStand x.2.1, eDeeds (dsOf x.2.2.1), eCut x.2.2.2 x.1.rules.length] vs)
    (q : ∀ d v H', Ex H H' → IsD K H' d v → (∃ b : Bool, d = .bool b ∧ (b = true ↔ RightD x.1 x.2.1 x.2.2.1 x.2.2.2)) → Q v H') :
    t_is_cut_L K (sp_right_cut K) (EndsOf Q) (L2.start N_is_cut_L vs) H := by
  obtain ⟨v1, _, rfl, h1, v2, _, rfl, h2, v3, _, rfl, h3, v4, _, rfl, h4, rfl⟩ := h
  refine q_set (K := K) yd_non fun v0 H1 x1 _ => ?_
  refine q_try T x hc (ya_cons (yd_var rfl (IsD.ex x1 _ _ h1)) (ya_cons (yd_var rfl (IsD.ex x1 _ _ h2)) (ya_cons (yd_var rfl (IsD.ex x1 _ _ h3)) (ya_cons (yd_var rfl (IsD.ex x1 _ _ h4)) ya_nil)))) (by decide) (by decide) (by decide) (fun d v H2 x2 hd hr => ?_) fun hN σ' H2 x2 hσ => ?_
  · exact s_ret (yd_var rfl hd) fun v' H3 x3 hi => q _ v' H3 ((x1.trans x2).trans x3) hi ⟨true, hr.1, iff_of_true rfl hr.2⟩
  · exact s_ret (yd_var hσ (d := .bool false) rfl) fun v' H3 x3 hi => q _ v' H3 ((x1.trans x2).trans x3) hi ⟨false, rfl, iff_of_false (by decide) hN⟩
end
end Ct

/-! # CtL1 -/
namespace Ct
open PySem PySem.Spec PyProof.Rows L2 Evl
open Run (dsOf RightL)
section
variable {K : PySem.W.Frag} {σ : L2.St} {H : Hp} {te ti tx : TE} {tas : TA} {tt : TT} {vs : List V} {Q : VK} {E : XK} {D : Ends} {tz tb : TS} {g : TG} {d x : PyData} {ds : List PyData}
/-! ### answer -/
abbrev sp_answer_L (K : PySem.W.Frag) : Sp := sp_answer K
theorem rd_answer_L {x : Form × Nat × Nat × Cs} (hc : x.2.1 < x.1.rules.length) (h : IsDs K H [eForm x.1, eN x.2.1, eN x.2.2.1, eCs x.2.2.2] vs) (q : ∀ d v H', Ex H H' → IsD K H' d v → d = eO eAns (answerOf (movesAt x.1 x.2.1) x.2.2.1 x.2.2.2) → Q v H') : t_answer_L K (EndsOf Q) (L2.start N_answer_L vs) H := by
  obtain ⟨f, m, st, c⟩ := x
  dsimp only at hc h q
  obtain ⟨v1, _, rfl, h1, v2, _, rfl, h2, v3, _, rfl, h3, v4, _, rfl, h4, rfl⟩ := h
  obtain ⟨ru, hru, hmv⟩ := rules_at hc
  rw [hmv] at q
  have hfm : ∀ mv, ru.moves.find? (fun mv => decide (mv.state = st ∧ mv.cause = c)) = some mv → answerOf ru.moves st c = some (mv.next, mv.sends, mv.word) := fun mv z => by
    unfold answerOf findMove
    rw [z]
  have hfn : ru.moves.find? (fun mv => decide (mv.state = st ∧ mv.cause = c)) = none → answerOf ru.moves st c = if c = .own then none else some (st, [], none) := fun z => by
    unfold answerOf findMove
    rw [z]
    cases c <;> rfl
  refine q_forT (ds := ru.moves.map eMove) (ix1 (ixM (g := eRule) (ix0 (yd_var rfl h1)) (yd_var rfl h2) hru)) (fun v i σ' H' => Ex H H' ∧ IsD K H' (.tuple (ru.moves.map eMove)) v ∧ (∃ o, σ' = [some v1, some v2, some v3, some v4, o]) ∧ ru.moves.find? (fun mv => decide (mv.state = st ∧ mv.cause = c)) = (ru.moves.drop i).find? fun mv => decide (mv.state = st ∧ mv.cause = c))
    (fun v H1 x1 hi => ⟨x1, hi, ⟨_, rfl⟩, rfl⟩) (fun v i σ' H' p => p.2.1) (fun w i d v σ' H' hd hv p => ?_) (fun w σ' H' p => ?_)
  · obtain ⟨x1, hw, ⟨o, rfl⟩, hf⟩ := p
    obtain ⟨mv, hmvi, rfl⟩ := map_get hd
    show _
    refine s_when (b := decide (mv.state = st) && decide (mv.cause = c)) (et_is (et_and (yt_test (neq (ix0 (yd_var rfl hv)) (yd_var rfl (IsD.ex x1 _ _ h3)))) fun _ => yt_test (yeqS (ix1 (yd_var rfl hv)) (yd_var rfl (IsD.ex x1 _ _ h4)))) (by rw [csStr_eq])) (fun hb H2 x2 => ?_) fun hb H2 x2 => ?_
    · have hv2 := IsD.ex x2 _ _ hv
      refine s_ret (yd_from (yd_var rfl hv2) (nlit 2)) fun v' H3 x3 hi => q _ v' H3 ((x1.trans x2).trans x3) hi ?_
      rw [hfm mv (find_here hmvi (by rw [Bool.and_eq_true, decide_eq_true_eq, decide_eq_true_eq] at hb; exact decide_eq_true hb) hf)]
      rfl
    · refine ⟨x1.trans x2, IsD.ex x2 _ _ hw, ⟨_, rfl⟩, find_drop hmvi (by
        rw [Bool.and_eq_false_iff, decide_eq_false_iff_not, decide_eq_false_iff_not] at hb
        exact decide_eq_false fun z => hb.elim (fun a => a z.1) fun a => a z.2) hf⟩
  · obtain ⟨x1, hw, ⟨o, rfl⟩, hf⟩ := p
    rw [List.length_map] at hf
    have hn := hfn (find_end hf)
    refine q_when (b := decide (c = .own)) (et_is (yt_test (yeqS (yd_var rfl (IsD.ex x1 _ _ h4)) yd_str)) (csStr_own c)) (fun hb H2 x2 => ?_) fun hb H2 x2 => ?_
    · refine s_ret yd_non fun v' H3 x3 hi => q _ v' H3 ((x1.trans x2).trans x3) hi ?_
      rw [hn, if_pos (of_decide_eq_true hb)]
      rfl
    · have x12 := x1.trans x2
      refine s_ret (yd_tup (ya_cons (yd_var rfl (IsD.ex x12 _ _ h3)) (ya_cons (yd_tup ya_nil (by simp)) (ya_cons yd_non ya_nil))) (by simp)) fun v' H3 x3 hi => q _ v' H3 (x12.trans x3) hi ?_
      rw [hn, if_neg (of_decide_eq_false hb)]
      rfl
/-! ### machine, events, ends -/
abbrev sp_machine_L (K : PySem.W.Frag) : Sp := sp_machine_of K
theorem rd_machine_L {x : Form × Deed} (hc : DeedOk x.1 x.2) (h : IsDs K H [eForm x.1, eDeed x.2] vs) (q : ∀ d v H', Ex H H' → IsD K H' d v → d = eN (machineOf x.1 x.2) → Q v H') : t_machine_L K (EndsOf Q) (L2.start N_machine_L vs) H := rd_machine_of hc h q
abbrev sp_events_L (K : PySem.W.Frag) : Sp := sp_events_of K
theorem rd_events_L {x : Form × List Deed} (hc : DsOk x.1 x.2) (h : IsDs K H [eForm x.1, eDeeds x.2] vs) (q : ∀ es ws p H', H p = Option.none → Ex H H' → H' p = some (.lst ws) → IsDs K H' es ws → es = (eventsOf x.1 x.2).map eEv → Q (.ref p) H') :
    t_events_L K (sp_machine_of K) (EndsOf Q) (L2.start N_events_L vs) H := by
  obtain ⟨f, ds⟩ := x
  dsimp only at hc h q
  obtain ⟨v1, _, rfl, h1, v2, _, rfl, h2, rfl⟩ := h
  obtain ⟨ok, hds, hz⟩ := hc
  have hn4 := ok.few
  refine q_setN (ds := cnts (fun m => cntOf f (ds.take 0) m) f.rules.length) ((yn_rep yd_int (ylenTM (ix0 (yd_var rfl h1))) (by omega)).to (cnts_zero ds _)) noLs_cnts fun p H1 np x1 hp => ?_
  refine q_setN (K := K) (yn_lst ya_nil (by simp)) rfl fun p' H2 np' x2 hp' => ?_
  have hne : p ≠ p' := hp.ne np'
  have np0 : H p' = Option.none := fresh_back x1 np'
  refine q_forLv (j := 1) (v := v2) (ds := ds.map eDeed) rfl (IsD.ex (x1.trans x2) _ _ h2) (fun i σ' H' => Ex H H' ∧ (∃ o4 o5, σ' = [some v1, some v2, some (.ref p), some (.ref p'), o4, o5]) ∧ OL K H' p (cnts (fun m => cntOf f (ds.take i) m) f.rules.length) ∧ OL K H' p' ((eventsOf f (ds.take i)).map eEv))
    ⟨x1.trans x2, ⟨_, _, rfl⟩, hp.ex x2, hp'⟩ (fun i σ' H' p => IsD.ex p.1 _ _ h2) (fun i d u σ' H' hd hu hi => ?_) (fun σ' H' hi => ?_)
  · obtain ⟨x3, ⟨o4, o5, rfl⟩, k1, k2⟩ := hi
    obtain ⟨dd, hdd, rfl⟩ := map_get hd
    have hm := machine_lt ok (hds dd (List.mem_of_getElem? hdd))
    have hlt := (List.getElem?_eq_some_iff.mp hdd).1
    refine q_set (yc (f, dd) (hds dd (List.mem_of_getElem? hdd)) (ya_cons (yd_var rfl (IsD.ex x3 _ _ h1)) (ya_cons (yd_var rfl hu) ya_nil)) fun _ h => h) fun um H3 x4 hum => ?_
    refine q_app (p := p') (ds := (eventsOf f (ds.take i)).map eEv) (d := eEv (machineOf f dd, cntOf f (ds.take i) (machineOf f dd))) rfl (k2.ex x4) (yd_tup (ya_cons (yd_var rfl hum) (ya_cons (ixL (yd_var rfl (k1.ex x4).isD) (yd_var rfl hum) (cnts_at hm)) ya_nil)) (by simp)) rfl (by rw [List.length_map, events_length, List.length_take]; omega) fun H4 xb k3 => ?_
    have k4 : OL K H4 p (cnts (fun m => cntOf f (ds.take i) m) f.rules.length) := OL.exb xb (k2.ex x4).noTup hne (k1.ex x4)
    refine s_setL (p := p) (ds := cnts (fun m => cntOf f (ds.take i) m) f.rules.length) (m := machineOf f dd) rfl k4 (nadd (ixL (yd_var rfl k4.isD) (yd_var rfl hum) (cnts_at hm)) (nlit 1)) (yd_var rfl hum) (by rw [cnts_len]; exact hm) rfl fun H5 xb2 k5 => ?_
    refine ⟨Ex.exb (Ex.exb (x3.trans x4) xb np0) xb2 np, ⟨_, _, rfl⟩, ?_, ?_⟩
    · rw [cnts_set (g' := fun m => cntOf f (ds.take (i + 1)) m) (by show cntOf f _ _ = _; rw [cnt_take hdd, if_pos rfl]) (fun m' hm' => by show cntOf f _ _ = _; rw [cnt_take hdd, if_neg hm'])] at k5
      exact k5
    · rw [ev_take hdd, List.map_append]
      exact OL.exb xb2 k4.noTup (Ne.symm hne) k3
  · obtain ⟨x3, ⟨o4, o5, rfl⟩, k1, k2⟩ := hi
    rw [List.length_map, List.take_length] at k2
    obtain ⟨ws, w1, w2, w3⟩ := id k2
    exact ⟨.ref p', rfl, q _ ws p' H' np0 x3 w1 w2 rfl⟩
abbrev sp_ends_L (K : PySem.W.Frag) : Sp := sp_ends_of_run K
theorem count_cnt (f : Form) (m : Nat) : ∀ ds : List Deed, (ds.map (machineOf f)).count m = cntOf f ds m
  | [] => rfl
  | d :: ds => by
    have ih := count_cnt f m ds
    unfold cntOf at ih ⊢
    rw [List.map_cons, List.count_cons, ih, List.filter_cons]
    by_cases h : machineOf f d = m
    · simp [h]
    · simp [h]
theorem rd_ends_L {x : Form × List Deed} (hc : DsOk x.1 x.2) (h : IsDs K H [eForm x.1, eDeeds x.2] vs) (q : ∀ d v H', Ex H H' → IsD K H' d v → d = eCut (cntOf x.1 x.2) x.1.rules.length → Q v H') :
    t_ends_L K (sp_machine_of K) (EndsOf Q) (L2.start N_ends_L vs) H := by
  obtain ⟨f, ds⟩ := x
  dsimp only at hc h q
  obtain ⟨v1, _, rfl, h1, v2, _, rfl, h2, rfl⟩ := h
  obtain ⟨ok, hds, hz⟩ := hc
  have hn4 := ok.few
  refine q_set (YN.yd (ds := (ds.map (machineOf f)).map eN) ((yn_lcL (ds := ds.map eDeed) (fun _ => true) (fun i => eN (machineOf f (ds.getD i (.own 0)))) (yd_var rfl h2) (by rw [List.length_map]; omega) (fun _ => rfl) (fun _ _ _ _ _ _ _ => et_yes) (fun i d v H3 x3 hd hv _ => ?_) fun _ _ _ => rfl).to ?_)) fun um H1 x1 hum => ?_
  · obtain ⟨dd, hdd, rfl⟩ := map_get hd
    rw [getD_of hdd]
    exact yc (f, dd) (hds dd (List.mem_of_getElem? hdd)) (ya_cons (yd_var rfl (IsD.ex x3 _ _ h1)) (ya_cons (yd_var rfl hv) ya_nil)) fun _ h => h
  · rw [List.length_map, List.map_map]
    have z := compD_map ds (fun _ => true) (fun d => eN (machineOf f d)) (.own 0)
    rw [List.filter_eq_self.mpr fun _ _ => rfl] at z
    exact z
  · refine s_ret (yd_tupL (ds := cnts (cntOf f ds) f.rules.length) ((yn_lcR (n := f.rules.length) (fun _ => true) (fun m => eN (cntOf f ds m)) (ylenTM (ix0 (yd_var rfl (IsD.ex x1 _ _ h1)))) (by omega) (fun _ => rfl) (fun _ _ _ _ => et_yes) (fun m H2 x2 hm _ => ?_) fun _ _ _ => rfl).to compD_all).yd) fun v H2 x2 hi => q _ v H2 (x1.trans x2) hi rfl
    exact (yd_count (yd_var rfl (IsD.ex x2 _ _ hum)) (yd_var rfl (show IsD K H2 (eN m) (.int (m : Int)) from rfl))).to (by rw [count_cnt])
/-! ### in_cut, cut -/
abbrev sp_in_cut_L (K : PySem.W.Frag) : Sp := SpL K (α := Form × List Deed × (Nat → Nat)) (fun x => DsOk x.1 x.2.1) (fun x => [eForm x.1, eDeeds x.2.1, eCut x.2.2 x.1.rules.length]) (fun x es => es = (deedsAt x.2.1 (insideTo (eventsOf x.1 x.2.1) x.2.2 x.2.1.length)).map eDeed)
theorem deedsAt_getD {ds : List Deed} {w : List Nat} (h : ∀ j ∈ w, j < ds.length) : deedsAt ds w = w.map fun j => ds.getD j (.own 0) := by
  induction w with
  | nil => rfl
  | cons j w ih =>
    have hj := h j (List.mem_cons_self ..)
    have e : ds[j]? = some (ds.getD j (.own 0)) := by
      rw [List.getD_eq_getElem?_getD, List.getElem?_eq_getElem hj]
      rfl
    show (j :: w).filterMap _ = _
    rw [List.filterMap_cons_some e, List.map_cons]
    congr 1
    exact ih fun k hk => h k (List.mem_cons_of_mem _ hk)
theorem rd_in_cut_L {x : Form × List Deed × (Nat → Nat)} (hc : DsOk x.1 x.2.1) (h : IsDs K H [eForm x.1, eDeeds x.2.1, eCut x.2.2 x.1.rules.length] vs) (q : ∀ es ws p H', H p = Option.none → Ex H H' → H' p = some (.lst ws) → IsDs K H' es ws → es = (deedsAt x.2.1 (insideTo (eventsOf x.1 x.2.1) x.2.2 x.2.1.length)).map eDeed → Q (.ref p) H') :
    t_in_cut_L K (sp_events_L K) (EndsOf Q) (L2.start N_in_cut_L vs) H := by
  obtain ⟨f, ds, cut⟩ := x
  dsimp only at hc h q
  obtain ⟨v1, _, rfl, h1, v2, _, rfl, h2, v3, _, rfl, h3, rfl⟩ := h
  refine q_set (ycL (f, ds) hc (ya_cons (yd_var rfl h1) (ya_cons (yd_var rfl h2) ya_nil)) fun _ h => h).yd fun ve H1 x1 hve => ?_
  have hl : (eventsOf f ds).length = ds.length := events_length ..
  have hz := hc.2.2
  refine s_retN (ds := (deedsAt ds (insideTo (eventsOf f ds) cut ds.length)).map eDeed) ((yn_lcR (n := ds.length) (inCut (eventsOf f ds) cut) (fun i => eDeed (ds.getD i (.own 0))) (ylenLM (yd_var rfl (IsD.ex x1 _ _ h2))) (by omega) (fun _ => rfl) (fun i H2 x2 hi => ?_) (fun i H2 x2 hi _ => ?_) fun _ _ _ => noL_deed _).to ?_) fun p ws H2 np x2 hp hi => q _ ws p H2 (fresh_back x1 np) (x1.trans x2) hp hi rfl
  · obtain ⟨e, he⟩ : ∃ e, (eventsOf f ds)[i]? = some e := ⟨_, List.getElem?_eq_getElem (by omega)⟩
    rw [inCut_at he]
    have ye := ixLM (K := K) (g := eEv) (yd_var (σ := (wipe [some v1, some v2, some v3, some ve, none] [4]).set 4 (some (.int (i : Int)))) (i := 3) rfl (IsD.ex x2 _ _ hve)) (yd_var (i := 4) rfl (show IsD K H2 (eN i) (.int (i : Int)) from rfl)) he
    exact yt_test (nlt (ix1 ye) (ixT (yd_var rfl (IsD.ex (x1.trans x2) _ _ h3)) (ix0 ye) (cnts_at (ev_lt hc he))))
  · have e : ds[i]? = some (ds.getD i (.own 0)) := by
      rw [List.getD_eq_getElem?_getD, List.getElem?_eq_getElem hi]
      rfl
    exact ixLM (g := eDeed) (yd_var rfl (IsD.ex (x1.trans x2) _ _ h2)) (yd_var rfl (show IsD K H2 (eN i) (.int (i : Int)) from rfl)) e
  · rw [deedsAt_getD (Run.inside_lt (eventsOf f ds) cut ds.length).1, List.map_map]
    rfl
abbrev eNs (l : List Nat) : PyData := .list (l.map eN)
abbrev sp_cut_L (K : PySem.W.Frag) : Sp := SpT K (α := List Nat × (Nat → Nat) × Nat) (fun x => x.2.2 ≤ x.1.length ∧ x.2.2 ≤ 1000) (fun x => [eNs x.1, eCut x.2.1 x.2.2]) (fun x r => r = eCut (fun m => x.1.getD m 0 % (x.2.1 m + 1)) x.2.2)
theorem rd_cut_L {x : List Nat × (Nat → Nat) × Nat} (hc : x.2.2 ≤ x.1.length ∧ x.2.2 ≤ 1000) (h : IsDs K H [eNs x.1, eCut x.2.1 x.2.2] vs) (q : ∀ d v H', Ex H H' → IsD K H' d v → d = eCut (fun m => x.1.getD m 0 % (x.2.1 m + 1)) x.2.2 → Q v H') :
    t_cut_L K (EndsOf Q) (L2.start N_cut_L vs) H := by
  obtain ⟨l, g, n⟩ := x
  dsimp only at hc h q
  obtain ⟨v1, _, rfl, h1, v2, _, rfl, h2, rfl⟩ := h
  refine s_ret (yd_tupL (ds := cnts (fun m => l.getD m 0 % (g m + 1)) n) ((yn_lcR (n := n) (fun _ => true) (fun m => eN (l.getD m 0 % (g m + 1))) ((ylenT (yd_var rfl h2)).to (by rw [cnts_len])) (by omega) (fun _ => rfl) (fun _ _ _ _ => et_yes) (fun m H2 x2 hm _ => ?_) fun _ _ _ => rfl).to compD_all).yd) fun v H2 x2 hi => q _ v H2 x2 hi rfl
  have ym : YD K (tVar 2) ((wipe [some v1, some v2, none] [2]).set 2 (some (.int (m : Int)))) H2 (eN m) := yd_var rfl (show IsD K H2 (eN m) (.int (m : Int)) from rfl)
  have e : l[m]? = some (l.getD m 0) := by
    rw [List.getD_eq_getElem?_getD, List.getElem?_eq_getElem (by omega)]
    rfl
  exact nmod (ixLM (g := eN) (yd_var rfl (IsD.ex x2 _ _ h1)) ym e) (nadd (ixT (yd_var rfl (IsD.ex x2 _ _ h2)) ym (cnts_at hm)) (nlit 1)) (by omega)
/-! ### cause -/
def causeL (f : Form) (s : Stand) (d : Deed) : Option Cs := (answered f s d).bind fun _ => causeOf f s d
abbrev eMC (m : Nat) (c : Cs) : PyData := .tuple [eN m, eCs c]
abbrev sp_cause_L (K : PySem.W.Frag) : Sp := SpT K (α := Form × Stand × Deed) (fun x => FormOk x.1 ∧ DeedOk x.1 x.2.2 ∧ StOk x.1 900 x.2.1) (fun x => [eForm x.1, eStand x.2.1, eDeed x.2.2]) (fun x r => r = eO (eMC (machineOf x.1 x.2.2)) (causeL x.1 x.2.1 x.2.2))
theorem answer_sg (ms : List Move) (st : Nat) (g : Sg) : (answerOf ms st (.sg g)).isSome = true := by
  unfold answerOf
  cases findMove ms st (.sg g) <;> rfl
theorem causeL_sg {f : Form} {s : Stand} {d : Deed} {g : Sg} (h : causeOf f s d = some (.sg g)) : causeL f s d = some (.sg g) := by
  unfold causeL answered
  rw [h]
  show (answerOf _ _ (.sg g)).bind _ = _
  have := answer_sg (movesAt f (machineOf f d)) (stateOf s (machineOf f d)) g
  cases ha : answerOf (movesAt f (machineOf f d)) (stateOf s (machineOf f d)) (.sg g) with
  | none => rw [ha] at this; cases this
  | some a => rfl
theorem causeL_none {f : Form} {s : Stand} {d : Deed} (h : causeOf f s d = none) : causeL f s d = none := by
  unfold causeL answered
  rw [h]
  rfl
theorem heads_none {row : Bool} {w : List (Nat × Sg)} {k : Nat} (h : w.filter (fun p => decide (p.1 = k)) = []) : (heads row w).find? (fun p => decide (p.1 = k)) = none := by
  rw [List.find?_eq_none]
  intro p hp hk
  have hm : p ∈ w := by
    unfold heads at hp
    split at hp
    · exact List.mem_of_mem_take hp
    · exact hp
  have : p ∈ w.filter (fun p => decide (p.1 = k)) := List.mem_filter.mpr ⟨hm, hk⟩
  rw [h] at this
  cases this
theorem find_filter {w : List (Nat × Sg)} {k : Nat} : w.find? (fun p => decide (p.1 = k)) = (w.filter (fun p => decide (p.1 = k))).head? := by
  rw [List.head?_filter]
theorem rd_cause_L {x : Form × Stand × Deed} (hc : FormOk x.1 ∧ DeedOk x.1 x.2.2 ∧ StOk x.1 900 x.2.1) (h : IsDs K H [eForm x.1, eStand x.2.1, eDeed x.2.2] vs) (q : ∀ d v H', Ex H H' → IsD K H' d v → d = eO (eMC (machineOf x.1 x.2.2)) (causeL x.1 x.2.1 x.2.2) → Q v H') :
    t_cause_L K (sp_answer_L K) (EndsOf Q) (L2.start N_cause_L vs) H := by
  obtain ⟨f, s, d⟩ := x
  dsimp only at hc h q
  obtain ⟨ok, hd, hs⟩ := hc
  have hf := hs.fit
  obtain ⟨v1, _, rfl, h1, v2, _, rfl, h2, v3, _, rfl, h3, rfl⟩ := h
  cases d with
  | own m =>
    refine q_when (b := false) (et_is (yt_test (yeqS (ytag (yd_var rfl h3)) yd_str)) st_oc) (fun hb => by cases hb) fun _ H1 x1 => ?_
    refine q_when (b := false) (et_is (yt_test (yeqS (ytag (yd_var rfl (IsD.ex x1 _ _ h3))) yd_str)) st_oh) (fun hb => by cases hb) fun _ H2 x2 => ?_
    have x12 := x1.trans x2
    have h3' := IsD.ex x12 _ _ h3
    have hm := machine_lt ok hd
    have ea : answered f s (.own m) = answerOf (movesAt f m) (stateOf s m) .own := rfl
    have em : ∀ {H3}, Ex H2 H3 → YD K (tOp (rIx K) (tVar 2) (tC (.int 1))) [some v1, some v2, some v3, none, none, none] H3 (eN m) := fun {H3} x => ix1 (yd_var rfl (IsD.ex x _ _ h3'))
    refine q_when (yt_test (yisN (yc (f, m, stateOf s m, .own) hm (ya_cons (yd_var rfl (IsD.ex x12 _ _ h1)) (ya_cons (em (Ex.refl _)) (ya_cons (ixM (g := eN) (ix0 (yd_var rfl (IsD.ex x12 _ _ h2))) (em (Ex.refl _)) (state_at hf hm)) (ya_cons yd_str ya_nil)))) fun _ h => h))) (fun hb H3 x3 => ?_) fun hb H3 x3 => ?_
    · rw [isN_ans] at hb
      refine s_ret yd_non fun v H4 x4 hi => q _ v H4 ((x12.trans x3).trans x4) hi ?_
      have hb : (answered f s (.own m)).isNone = true := hb
      unfold causeL
      rw [Option.isNone_iff_eq_none.mp hb]
      rfl
    · rw [isN_ans] at hb
      have hb : (answered f s (.own m)).isNone = false := hb
      refine s_ret (yd_tup (ya_cons (em x3) (ya_cons yd_str ya_nil)) (by simp)) fun v H4 x4 hi => q _ v H4 ((x12.trans x3).trans x4) hi ?_
      unfold causeL
      cases ha : answered f s (.own m) with
      | none => rw [ha] at hb; cases hb
      | some a => rfl
  | hear m g =>
    refine q_when (b := false) (et_is (yt_test (yeqS (ytag (yd_var rfl h3)) yd_str)) st_hc) (fun hb => by cases hb) fun _ H1 x1 => ?_
    refine q_when (b := true) (et_is (yt_test (yeqS (ytag (yd_var rfl (IsD.ex x1 _ _ h3))) yd_str)) st_hh) (fun _ H2 x2 => ?_) fun hb => by cases hb
    have h3' := IsD.ex (x1.trans x2) _ _ h3
    refine s_ret (yd_tup (ya_cons (ix1 (yd_var rfl h3')) (ya_cons (ix2 (yd_var rfl h3')) ya_nil)) (by simp)) fun v H3 x3 hi => q _ v H3 ((x1.trans x2).trans x3) hi ?_
    rw [causeL_sg (g := g) rfl]
    rfl
  | come r k =>
    have hr : r < f.roads.length := hd
    obtain ⟨rd, hrd, ho, hrow, _⟩ := roads_at hr
    obtain ⟨l, hl, hw, _⟩ := loads_at (f := f) (s := s) (r := r) (by rw [hf.2]; exact hr)
    have hwn := (hs.ld r l hl).wn
    have hcause : causeOf f s (.come r k) = ((heads rd.row l.waiting).find? fun p => decide (p.1 = k)).map fun p => .sg p.2 := by
      show ((heads (rowAt f r) (waitsAt s r)).find? _).map _ = _
      rw [hrow, hw]
    have e2 : ∀ {σ H3 u}, σ[2]? = some (some u) → IsD K H3 (eDeed (.come r k)) u → YD K (tOp (rIx K) (tVar 2) (tC (.int 2))) σ H3 (eN k) := fun {σ H3 u} a b => ix2 (yd_var a b)
    refine q_when (b := true) (et_is (yt_test (yeqS (ytag (yd_var rfl h3)) yd_str)) st_cc) (fun _ H1 x1 => ?_) fun hb => by cases hb
    have h3' := IsD.ex x1 _ _ h3
    refine q_set (ix1 (ixM (g := eLoad) (ix1 (yd_var rfl (IsD.ex x1 _ _ h2))) (ix1 (yd_var rfl h3')) hl)) fun uw H2 x2 huw => ?_
    have x12 := x1.trans x2
    refine q_set (YN.yd (ds := (l.waiting.filter fun p => decide (p.1 = k)).map fun p => eSg p.2) ((yn_lcT (ds := l.waiting.map eSend) (fun i => decide ((l.waiting.getD i (0, .a)).1 = k)) (fun i => eSg (l.waiting.getD i (0, .a)).2) (yd_var rfl huw) (by rw [List.length_map]; omega) (fun _ => rfl) (fun i d v H3 x3 hd hv => ?_) (fun i d v H3 x3 hd hv _ => ?_) fun _ _ _ => rfl).to ?_)) fun uf H3 x3 huf => ?_
    · obtain ⟨p, hp, rfl⟩ := map_get hd
      rw [getD_of hp]
      exact yt_test (neq (ix0 (yd_var rfl hv)) (ix2 (yd_var rfl (IsD.ex (x12.trans x3) _ _ h3))))
    · obtain ⟨p, hp, rfl⟩ := map_get hd
      rw [getD_of hp]
      exact ix1 (yd_var rfl hv)
    · rw [List.length_map]
      exact compD_map l.waiting (fun p => decide (p.1 = k)) (fun p => eSg p.2) (0, .a)
    · have x13 := x12.trans x3
      have h3'' := IsD.ex x13 _ _ h3
      have h1'' := IsD.ex x13 _ _ h1
      have huw' := IsD.ex x3 _ _ huw
      generalize hfl : l.waiting.filter (fun p => decide (p.1 = k)) = fl at huf
      have hfe : (fl.map fun p => eSg p.2) = (fl.map (·.2)).map eSg := by rw [List.map_map]; rfl
      rw [hfe] at huf
      have yrow : YD K (tOp (rIx K) (tOp (rIx K) (tOp (rIx K) (tVar 0) (tC (.int 1))) (tOp (rIx K) (tVar 2) (tC (.int 1)))) (tC (.int 2))) [some v1, some v2, some v3, some uw, some uf, none] H3 (.str (rowStr rd.row)) := ix2 (ixM (g := eRoad) (ix1 (yd_var rfl h1'')) (ix1 (yd_var rfl h3'')) hrd)
      have yeq0 : YD K (tOp (rEqU K) (tVar 4) (tLst tNil)) [some v1, some v2, some v3, some uw, some uf, none] H3 (.bool (decide (fl.map (·.2) = []))) := (yeqD (yd_var rfl huf) (yn_lst ya_nil (by simp)).yd (cmp_lst (n := 59) (cmps_map cmp_sg _)) (cmp_lst (n := 59) rfl)).to (congrArg PyData.bool (eqv_lst eqv_sg (fl.map (·.2)) []))
      cases fl with
      | nil =>
        refine q_when (b := true) (et_or (b := true) (et_is (yt_test yeq0) (a := true) rfl |> fun z => z) (fun z => by cases z)) (fun _ H4 x4 => ?_) fun hb => by cases hb
        refine s_ret yd_non fun v H5 x5 hi => q _ v H5 ((x13.trans x4).trans x5) hi ?_
        rw [causeL_none (by rw [hcause, heads_none hfl]; rfl)]
        rfl
      | cons p0 fl =>
        cases hwq : l.waiting with
        | nil => rw [hwq] at hfl; cases hfl
        | cons w0 wt =>
          have hw0 : l.waiting[0]? = some w0 := by rw [hwq]; rfl
          refine q_when (b := rd.row && !decide (w0.1 = k)) (et_is (et_or (yt_test yeq0) fun _ => et_and (et_is (yt_test (yeqS yrow yd_str)) (st_row rd.row)) fun _ => yt_test (nne (ix0 (ixM (g := eSend) (m := 0) (yd_var rfl huw') (nlit 0) hw0)) (ix2 (yd_var rfl h3'')))) rfl) (fun hb H4 x4 => ?_) fun hb H4 x4 => ?_
          · rw [Bool.and_eq_true] at hb
            refine s_ret yd_non fun v H5 x5 hi => q _ v H5 ((x13.trans x4).trans x5) hi ?_
            rw [causeL_none ?_]
            · rfl
            · rw [hcause, hb.1, hwq]
              have hne : decide (w0.1 = k) = false := by
                have := hb.2
                rw [Bool.not_eq_true'] at this
                exact this
              show (([w0] : List (Nat × Sg)).find? _).map _ = none
              rw [List.find?_cons_of_neg (by rw [hne]; decide)]
              rfl
          · refine s_ret (yd_tup (ya_cons (ix1 (ixM (g := eRoad) (ix1 (yd_var rfl (IsD.ex x4 _ _ h1''))) (ix1 (yd_var rfl (IsD.ex x4 _ _ h3''))) hrd)) (ya_cons (ixLM (g := eSg) (m := 0) (yd_var rfl (IsD.ex x4 _ _ huf)) (nlit 0) rfl) ya_nil)) (by simp)) fun v H5 x5 hi => q _ v H5 ((x13.trans x4).trans x5) hi ?_
            have hfi : (heads rd.row l.waiting).find? (fun p => decide (p.1 = k)) = some p0 := by
              have hff : l.waiting.find? (fun p => decide (p.1 = k)) = some p0 := by
                rw [find_filter, hfl]
                rfl
              unfold heads
              cases hrw : rd.row with
              | false => exact hff
              | true =>
                rw [hrw, Bool.true_and, Bool.not_eq_false'] at hb
                rw [hwq] at hff ⊢
                have z : ∀ t : List (Nat × Sg), (w0 :: t).find? (fun p => decide (p.1 = k)) = some w0 := fun t => List.find?_cons_of_pos (p := fun p : Nat × Sg => decide (p.1 = k)) hb
                exact (z []).trans ((z wt).symm.trans hff)
            rw [causeL_sg (g := p0.2) (by rw [hcause, hfi]; rfl)]
            show PyData.tuple [eN rd.other, _] = PyData.tuple [eN (otherAt f r), _]
            rw [ho]
            rfl
end
end Ct

/-! # CtL2 -/
namespace Ct
open PySem PySem.Spec PyProof.Rows L2 Evl
open Run (dsOf RightL)
section
variable {K : PySem.W.Frag} {σ : L2.St} {H : Hp} {te ti tx : TE} {tas : TA} {tt : TT} {vs : List V} {Q : VK} {E : XK} {D : Ends} {tz tb : TS} {g : TG} {d x : PyData} {ds : List PyData}
theorem noLs_loads (l : List Load) : noLs (l.map eLoad) = true := noLs_map noL_load l
/-- sends, into a list of loads at p -/
theorem step_sends {f : Form} {ls : List Load} {ps : List (Nat × Sg)} {p : Addr} {v1 v2 v3 u3 u4 u5 u6 u7 : V} {o9 o10 o11 o12 : Option V} {tz : TS} (hls : ∀ q ∈ ps, q.1 < ls.length) (hps : ps.length ≤ 10) (hw : ∀ l ∈ ls, l.waiting.length ≤ 1000)
    (h6 : IsD K H (.tuple (ps.map eSend)) u6) (hp : OL K H p (ls.map eLoad)) (kk : ∀ o9 o10 o11 o12 H', Exb p H H' → OL K H' p ((sendOut ls ps).map eLoad) → tz D [some v1, some v2, some v3, some u3, some u4, some u5, some u6, some u7, some (.ref p), o9, o10, o11, o12, none] H') :
    tSeq (tFor (iTup K (tVar 6)) (gTup K 2 (gCons (gName 11) (gCons (gName 12) (gNil)))) (tSeq (tAsg (tOp (rIx K) (tVar 8) (tVar 11)) (gTup K 2 (gCons (gName 9) (gCons (gName 10) (gNil))))) (tAsg (tTup (tCons (tOp (rPlus K) (tVar 9) (tC (.int 1))) (tCons (tOp (rPlus K) (tVar 10) (tTup (tCons (tTup (tCons (tVar 9) (tCons (tVar 12) (tNil)))) (tNil)))) (tNil)))) (gSub (tVar 8) (tVar 11) rSetL)))) tz D
      [some v1, some v2, some v3, some u3, some u4, some u5, some u6, some u7, some (.ref p), o9, o10, o11, o12, none] H := by
  have noLp : noL (.tuple (ps.map eSend)) = true := noLs_sends _
  refine q_forT (ds := ps.map eSend) (yd_var rfl h6) (fun v i σ' H' => Exb p H H' ∧ IsD K H' (.tuple (ps.map eSend)) v ∧ (∃ o9 o10 o11 o12, σ' = [some v1, some v2, some v3, some u3, some u4, some u5, some u6, some u7, some (.ref p), o9, o10, o11, o12, none]) ∧ OL K H' p ((sendOut ls (ps.take i)).map eLoad))
    (fun v H1 x1 hi => ⟨Exb.of_ex x1, hi, ⟨_, _, _, _, rfl⟩, hp.ex x1⟩) (fun v i σ' H' hi => hi.2.1) (fun w i d v σ' H' hd hv hi => ?_) fun w σ' H' hi => ?_
  · obtain ⟨x1, hw', ⟨o9, o10, o11, o12, rfl⟩, k1⟩ := hi
    obtain ⟨⟨r, sg⟩, hpi, rfl⟩ := map_get hd
    have hr : r < (sendOut ls (ps.take i)).length := by
      rw [sendOut_length]
      exact hls _ (List.mem_of_getElem? hpi)
    obtain ⟨l, hl⟩ : ∃ l, (sendOut ls (ps.take i))[r]? = some l := ⟨_, List.getElem?_eq_getElem hr⟩
    have hlw : l.waiting.length ≤ 2000 := by
      rw [sendOut_at] at hl
      obtain ⟨l0, h0, e⟩ := Option.map_eq_some_iff.mp hl
      have z0 := hw l0 (List.mem_of_getElem? h0)
      have z1 := onRoad_len r (ps.take i)
      rw [List.length_take] at z1
      rw [← e]
      show (l0.waiting ++ numbered _ _).length ≤ 2000
      rw [List.length_append, numbered_len]
      omega
    refine g_tup2 hv fun u1 u2 hu1 hu2 => ?_
    refine q_unp2 (d1 := eN l.sent) (d2 := .tuple (l.waiting.map eSend)) (ixLM (g := eLoad) (yd_var rfl k1.isD) (yd_var rfl hu1) hl) fun w3 w4 H1 x2 hu3 hu4 => ?_
    refine s_setL (p := p) (ds := (sendOut ls (ps.take i)).map eLoad) (m := r) (d := eLoad ⟨l.sent + 1, l.waiting ++ [(l.sent, sg)]⟩) rfl (k1.ex x2) (yd_tup (ya_cons (nadd (yd_var rfl hu3) (nlit 1)) (ya_cons ?_ ya_nil)) (by simp)) (yd_var rfl (IsD.ex x2 _ _ hu1)) (by rw [List.length_map]; exact hr) (noL_load _) fun H2 xb k2 => ?_
    · refine (yd_op (yd_var rfl hu4) (yd_tup (ya_cons (yd_tup (ya_cons (yd_var rfl hu3) (ya_cons (yd_var rfl (IsD.ex x2 _ _ hu2)) ya_nil)) (by simp)) ya_nil) (by simp)) (rd_addT ?_)).to ?_
      · rw [List.length_map]
        show _ + 1 ≤ _
        omega
      · rw [List.map_append]
        rfl
    · refine ⟨(x1.trans (Exb.of_ex x2)).trans xb, IsD.exb xb (k1.ex x2).noTup _ _ noLp (IsD.ex x2 _ _ hw'), ⟨_, _, _, _, rfl⟩, ?_⟩
      rw [Wd.take_snoc hpi, sendOut_snoc]
      have e : sendOne (sendOut ls (ps.take i)) (r, sg) = (sendOut ls (ps.take i)).set r ⟨l.sent + 1, l.waiting ++ [(l.sent, sg)]⟩ := by
        unfold sendOne
        rw [hl]
      rw [e, List.map_set]
      exact k2
  · obtain ⟨x1, hw', ⟨o9, o10, o11, o12, rfl⟩, k1⟩ := hi
    rw [List.length_map, List.take_length] at k1
    exact kk _ _ _ _ _ x1 k1
abbrev sp_step_L (K : PySem.W.Frag) : Sp := SpT K (α := Form × Stand × Deed × Ans) (fun x => FormOk x.1 ∧ DeedOk x.1 x.2.2.1 ∧ StOk x.1 900 x.2.1 ∧ answered x.1 x.2.1 x.2.2.1 = some x.2.2.2) (fun x => [eForm x.1, eStand x.2.1, eDeed x.2.2.1])
  (fun x r => r = .tuple [eStand (applyA x.1 x.2.1 x.2.2.1 x.2.2.2), eWord x.2.2.2.2.2])
theorem rd_step_L {x : Form × Stand × Deed × Ans} (hc : FormOk x.1 ∧ DeedOk x.1 x.2.2.1 ∧ StOk x.1 900 x.2.1 ∧ answered x.1 x.2.1 x.2.2.1 = some x.2.2.2) (h : IsDs K H [eForm x.1, eStand x.2.1, eDeed x.2.2.1] vs)
    (q : ∀ d v H', Ex H H' → IsD K H' d v → d = .tuple [eStand (applyA x.1 x.2.1 x.2.2.1 x.2.2.2), eWord x.2.2.2.2.2] → Q v H') :
    t_step_L K (sp_cause_L K) (sp_answer_L K) (EndsOf Q) (L2.start N_step_L vs) H := by
  obtain ⟨f, s, d, a⟩ := x
  dsimp only at hc h q
  obtain ⟨ok, hd, hs, ha⟩ := hc
  obtain ⟨v1, _, rfl, h1, v2, _, rfl, h2, v3, _, rfl, h3, rfl⟩ := h
  have hf := hs.fit
  have hm := machine_lt ok hd
  obtain ⟨_, a2, a3⟩ := ans_ok ok hs ha
  have lw : ∀ l ∈ s.loads, l.waiting.length ≤ 900 := fun l hl => by
    obtain ⟨i, hi⟩ := List.mem_iff_getElem?.mp hl
    exact (hs.ld i l hi).wn
  obtain ⟨c, hcs, hca⟩ : ∃ c, causeOf f s d = some c ∧ answerOf (movesAt f (machineOf f d)) (stateOf s (machineOf f d)) c = some a := Option.bind_eq_some_iff.mp ha
  have hcl : causeL f s d = some c := by
    unfold causeL
    rw [ha]
    exact hcs
  refine q_unp2 (te := tCall (sp_cause_L K) [] E0 _) (d1 := eN (machineOf f d)) (d2 := eCs c) (yc (f, s, d) ⟨ok, hd, hs⟩ (ya_cons (yd_var rfl h1) (ya_cons (yd_var rfl h2) (ya_cons (yd_var rfl h3) ya_nil))) fun d' h => by rw [h, hcl]; rfl) fun u1 u2 H1 x1 hu1 hu2 => ?_
  refine q_unp3 (te := tCall (sp_answer_L K) [] E0 _) (d1 := eN a.1) (d2 := .tuple (a.2.1.map eSend)) (d3 := eWord a.2.2) (yc (f, machineOf f d, stateOf s (machineOf f d), c) hm (ya_cons (yd_var rfl (IsD.ex x1 _ _ h1)) (ya_cons (yd_var rfl hu1) (ya_cons (ixM (g := eN) (ix0 (yd_var rfl (IsD.ex x1 _ _ h2))) (yd_var rfl hu1) (state_at hf hm)) (ya_cons (yd_var rfl hu2) ya_nil)))) fun d' h => by rw [h, hca]; rfl) fun u3 u4 u5 H2 x2 hu3 hu4 hu5 => ?_
  have x12 := x1.trans x2
  refine q_setN (yn_listT (ds := s.loads.map eLoad) (ix1 (yd_var rfl (IsD.ex x12 _ _ h2)))) (noLs_loads _) fun p H3 np x3 hp => ?_
  have np0 : H p = Option.none := fresh_back x12 np
  have x13 := x12.trans x3
  have rest : ∀ o9 o10 H4, Exb p H3 H4 → OL K H4 p ((loadsFor s d).map eLoad) → tSeq (tFor (iTup K (tVar 6)) (gTup K 2 (gCons (gName 11) (gCons (gName 12) (gNil)))) (tSeq (tAsg (tOp (rIx K) (tVar 8) (tVar 11)) (gTup K 2 (gCons (gName 9) (gCons (gName 10) (gNil))))) (tAsg (tTup (tCons (tOp (rPlus K) (tVar 9) (tC (.int 1))) (tCons (tOp (rPlus K) (tVar 10) (tTup (tCons (tTup (tCons (tVar 9) (tCons (tVar 12) (tNil)))) (tNil)))) (tNil)))) (gSub (tVar 8) (tVar 11) rSetL)))) (tRet (tTup (tCons (tTup (tCons (tOp (rPlus K) (tOp (rPlus K) (tSl (rSlU K) (tOp (rIx K) (tVar 1) (tC (.int 0))) (tNoPart) (tPart (tVar 3))) (tTup (tCons (tVar 5) (tNil)))) (tSl (rSlU K) (tOp (rIx K) (tVar 1) (tC (.int 0))) (tPart (tOp (rPlus K) (tVar 3) (tC (.int 1)))) (tNoPart))) (tCons (tCB (rTupU K) (tCons (tVar 8) (tNil))) (tNil)))) (tCons (tVar 7) (tNil))))) (EndsOf Q) [some v1, some v2, some v3, some u1, some u2, some u3, some u4, some u5, some (.ref p), o9, o10, none, none, none] H4 := fun o9 o10 H4 x4 hp4 => by
    have pt := hp.noTup
    refine step_sends (f := f) (ls := loadsFor s d) (ps := a.2.1) (fun q hq => by rw [loadsFor_length, hf.2]; exact (a3 q hq).1) (by omega) (fun l hl => ?_) (IsD.exb x4 pt _ _ (noLs_sends _) (IsD.ex x3 _ _ hu4)) hp4 fun o9 o10 o11 o12 H5 x5 hp5 => ?_
    · obtain ⟨i, hi⟩ := List.mem_iff_getElem?.mp hl
      rw [loadsFor_at] at hi
      obtain ⟨l0, h0, e⟩ := Option.map_eq_some_iff.mp hi
      have := lw l0 (List.mem_of_getElem? h0)
      have z := List.length_filter_le (fun p : Nat × Sg => decide (p.1 ∉ comesOf i d)) l0.waiting
      rw [← e]
      show (l0.waiting.filter _).length ≤ 1000
      omega
    · have x35 := x4.trans x5
      have xH5 : Ex H H5 := Ex.exb x13 x35 np0
      have n4 := ok.few
      refine s_ret (yd_tup (ya_cons (d := eStand (applyA f s d a)) (yd_tup (ya_cons ((yd_repl (x := eN a.1) (r := machineOf f d) (ix0 (yd_var rfl (IsD.ex xH5 _ _ h2))) (yd_var rfl (show IsD K H5 (eN (machineOf f d)) u1 from hu1)) (yd_var rfl (show IsD K H5 (eN a.1) u3 from hu3)) (by rw [List.length_map, hf.1]; exact hm) (by rw [List.length_map, hf.1]; omega)).to (by rw [← List.map_set]; rfl)) (ya_cons (yd_tupL (yd_var rfl hp5.isD)) ya_nil)) (by simp)) (ya_cons (yd_var rfl (IsD.exb x35 pt _ _ (noL_word _) (IsD.ex x3 _ _ hu5))) ya_nil)) (by simp)) fun v H6 x6 hi => q _ v H6 (xH5.trans x6) hi rfl
  refine q_when (b := isCome d) (et_is (yt_test (yeqS (ytag (yd_var rfl (IsD.ex x13 _ _ h3))) yd_str)) (tag_come d)) (fun hb H4 x4 => ?_) fun hb H4 x4 => ?_
  · cases d with
    | own m => cases hb
    | hear m g => cases hb
    | come r k =>
      obtain ⟨l, hl, _⟩ := loads_at (f := f) (s := s) (r := r) (by rw [hf.2]; exact hd)
      have h3' := IsD.ex (x13.trans x4) _ _ h3
      have hlw := lw l (List.mem_of_getElem? hl)
      refine q_unp2 (d1 := eN l.sent) (d2 := .tuple (l.waiting.map eSend)) (ixLM (g := eLoad) (yd_var rfl (hp.ex x4).isD) (ix1 (yd_var rfl h3')) hl) fun w1 w2 H5 x5 hw1 hw2 => ?_
      have h3'' := IsD.ex x5 _ _ h3'
      refine s_setL (p := p) (ds := s.loads.map eLoad) (m := r) (d := eLoad ⟨l.sent, l.waiting.filter fun p => !decide (p.1 = k)⟩) rfl ((hp.ex x4).ex x5) (yd_tup (ya_cons (yd_var rfl hw1) (ya_cons (yd_tupL (yn_keep (w := l.waiting) (fun p => !decide (p.1 = k)) (yd_var rfl hw2) (by omega) (fun _ => rfl) (fun _ => rfl) fun p v H6 x6 hv => yt_test (nne (ix0 (yd_var rfl hv)) (ix2 (yd_var rfl (IsD.ex x6 _ _ h3''))))).yd) ya_nil)) (by simp)) (ix1 (yd_var rfl h3'')) (by rw [List.length_map]; exact (List.getElem?_eq_some_iff.mp hl).1) (noL_load _) fun H6 xb k2 => ?_
      refine rest _ _ H6 ((Exb.of_ex (x4.trans x5)).trans xb) ?_
      show OL K H6 p ((takeOut s.loads r k).map eLoad)
      have e : takeOut s.loads r k = s.loads.set r ⟨l.sent, l.waiting.filter fun p => !decide (p.1 = k)⟩ := by
        unfold takeOut
        rw [hl]
        show s.loads.set r ⟨l.sent, l.waiting.filter fun p => decide (¬ p.1 = k)⟩ = _
        congr 2
        exact List.filter_congr fun p _ => by rw [decide_not]
      rw [e, List.map_set]
      exact k2
  · refine rest _ _ H4 (Exb.of_ex x4) ?_
    have e : loadsFor s d = s.loads := by
      cases d with
      | own m => rfl
      | hear m g => rfl
      | come r k => cases hb
    rw [e]
    exact hp.ex x4
/-! ### walk -/
structure WalkC (f : Form) (s : Stand) (ds : List Deed) : Prop where
  form : FormOk f
  st : StOk f 10 s
  de : ∀ d ∈ ds, DeedOk f d
  few : ds.length ≤ 30
def WalkR (f : Form) (s : Stand) (ds : List Deed) (r : PyData) : Prop := (walk f s ds = none ∧ r = .none) ∨ ∃ s' ts, walk f s ds = some s' ∧ r = .tuple [eStand s', .list ts]
abbrev sp_walk_L (K : PySem.W.Frag) : Sp := SpT K (α := Form × Stand × List Deed) (fun x => WalkC x.1 x.2.1 x.2.2) (fun x => [eForm x.1, eStand x.2.1, eDeeds x.2.2]) (fun x r => WalkR x.1 x.2.1 x.2.2 r)
theorem rd_walk_L {x : Form × Stand × List Deed} (hc : WalkC x.1 x.2.1 x.2.2) (h : IsDs K H [eForm x.1, eStand x.2.1, eDeeds x.2.2] vs) (q : ∀ d v H', Ex H H' → IsD K H' d v → WalkR x.1 x.2.1 x.2.2 d → Q v H') :
    t_walk_L K (sp_cause_L K) (sp_step_L K) (EndsOf Q) (L2.start N_walk_L vs) H := by
  obtain ⟨f, base, ds⟩ := x
  dsimp only at hc h q
  obtain ⟨v1, _, rfl, h1, v2, _, rfl, h2, v3, _, rfl, h3, rfl⟩ := h
  have hfew := hc.few
  refine q_setN (K := K) (yn_lst ya_nil (by simp)) rfl fun p H1 np x1 hp => ?_
  refine q_forLv (j := 2) (v := v3) (ds := ds.map eDeed) rfl (IsD.ex x1 _ _ h3) (fun i σ' H' => Ex H H' ∧ ∃ vst o4 o5 o6, σ' = [some v1, some vst, some v3, some (.ref p), o4, o5, o6] ∧ (∃ s, walk f base (ds.take i) = some s ∧ IsD K H' (eStand s) vst ∧ StOk f (10 + 2 * i) s) ∧ ∃ ts, OL K H' p ts ∧ ts.length ≤ i)
    ⟨x1, v2, _, _, _, rfl, ⟨base, rfl, IsD.ex x1 _ _ h2, hc.st⟩, [], hp, Nat.le_refl _⟩ (fun i σ' H' hi => IsD.ex hi.1 _ _ h3) (fun i d u σ' H' hd hu hi => ?_) fun σ' H' hi => ?_
  · obtain ⟨x2, vst, o4, o5, o6, rfl, ⟨s, hw, hst, hso⟩, ts, k1, k2⟩ := hi
    obtain ⟨dd, hdd, rfl⟩ := map_get hd
    have hlt := (List.getElem?_eq_some_iff.mp hdd).1
    have hde := hc.de dd (List.mem_of_getElem? hdd)
    have hso9 : StOk f 900 s := hso.mono (by omega)
    refine q_set (yc (f, s, dd) ⟨hc.form, hde, hso9⟩ (ya_cons (yd_var rfl (IsD.ex x2 _ _ h1)) (ya_cons (yd_var rfl hst) (ya_cons (yd_var rfl hu) ya_nil))) fun _ h => h) fun uc H3 x3 huc => ?_
    have huc : IsD K H3 (eO (eMC (machineOf f dd)) (causeL f s dd)) uc := huc
    cases ha : answered f s dd with
    | none =>
      have ec : causeL f s dd = none := by
        unfold causeL
        rw [ha]
        rfl
      rw [ec] at huc
      refine q_when (b := true) (yt_test (yisN (yd_var rfl huc))) (fun _ H4 x4 => ?_) fun hb => by cases hb
      refine s_ret (K := K) yd_non fun v H5 x5 hi => q _ v H5 (((x2.trans x3).trans x4).trans x5) hi (.inl ⟨?_, rfl⟩)
      have e : ds = ds.take i ++ dd :: ds.drop (i + 1) := by rw [← drop_at hdd, List.take_append_drop]
      rw [e, show ds.take i ++ dd :: ds.drop (i + 1) = (ds.take i ++ [dd]) ++ ds.drop (i + 1) by simp]
      refine walk_none f _ _ _ ?_
      rw [walk_snoc, hw]
      show (answered f s dd).map _ = none
      rw [ha]
      rfl
    | some a =>
      obtain ⟨c, hcs, _⟩ : ∃ c, causeOf f s dd = some c ∧ answerOf (movesAt f (machineOf f dd)) (stateOf s (machineOf f dd)) c = some a := Option.bind_eq_some_iff.mp ha
      have ec : causeL f s dd = some c := by
        unfold causeL
        rw [ha]
        exact hcs
      rw [ec] at huc
      refine q_when (b := false) (yt_test (yisN (yd_var rfl huc))) (fun hb => by cases hb) fun _ H4 x4 => ?_
      have x24 := (x2.trans x3).trans x4
      have hst4 := IsD.ex (x3.trans x4) _ _ hst
      refine q_unp2 (te := tCall (sp_step_L K) [] E0 _) (d1 := eStand (applyA f s dd a)) (d2 := eWord a.2.2) (yc (f, s, dd, a) ⟨hc.form, hde, hso9, ha⟩ (ya_cons (yd_var rfl (IsD.ex x24 _ _ h1)) (ya_cons (yd_var rfl hst4) (ya_cons (yd_var rfl (IsD.ex (x3.trans x4) _ _ hu)) ya_nil))) fun _ h => h) fun u1 u2 H5 x5 hu1 hu2 => ?_
      have k15 := ((k1.ex x3).ex x4).ex x5
      have hw' : walk f base (ds.take (i + 1)) = some (applyA f s dd a) := by
        rw [Wd.take_snoc hdd, walk_snoc, hw]
        show (answered f s dd).map _ = _
        rw [ha]
        rfl
      have hso' := (stOk_apply hc.form hso ha).mono (show 10 + 2 * i + 2 ≤ 10 + 2 * (i + 1) by omega)
      refine s_when (yt_test (ynotN (yd_var rfl hu2))) (fun hb H6 x6 => ?_) fun hb H6 x6 => ?_
      · cases hwd : a.2.2 with
        | none => rw [hwd] at hb; cases hb
        | some w =>
          rw [hwd] at hu2
          refine s_app (p := p) (ds := ts) (d := .tuple [eN (machineOf f dd), .str w]) rfl (k15.ex x6) (yd_tup (ya_cons (ix0 (yd_var rfl (IsD.ex ((x4.trans x5).trans x6) _ _ huc))) (ya_cons (yd_var rfl (IsD.ex x6 _ _ hu2)) ya_nil)) (by simp)) rfl (by omega) fun H7 xb k7 => ?_
          refine ⟨Ex.exb ((x24.trans x5).trans x6) xb np, u1, _, _, _, rfl, ⟨_, hw', IsD.exb xb (k15.ex x6).noTup _ _ (noL_stand _) (IsD.ex x6 _ _ hu1), hso'⟩, _, k7, ?_⟩
          rw [List.length_append]
          show _ + 1 ≤ _
          omega
      · exact ⟨(x24.trans x5).trans x6, u1, _, _, _, rfl, ⟨_, hw', IsD.ex x6 _ _ hu1, hso'⟩, ts, k15.ex x6, by omega⟩
  · obtain ⟨x2, vst, o4, o5, o6, rfl, ⟨s, hw, hst, hso⟩, ts, k1, k2⟩ := hi
    rw [List.length_map, List.take_length] at hw
    exact s_ret (yd_tup (ya_cons (yd_var rfl hst) (ya_cons (yd_var rfl k1.isD) ya_nil)) (by simp)) fun v H4 x4 hi => q _ v H4 (x2.trans x4) hi (.inr ⟨s, ts, hw, rfl⟩)
end
end Ct

/-! # CtL3 -/
namespace Ct
open PySem PySem.Spec PyProof.Rows L2 Evl
open Run (dsOf RightL)
/-! ### a dict of lists of its own -/
def vON : Option Nat → V
  | none => .non
  | some n => .int (n : Int)
abbrev Row := LK × LV → List V
def rowV (f : Form) (num : Nat → Nat) : Row := fun en => [.int (oneAt f en.1.1 : Nat), vON (en.2.1.map num), .int (otherAt f en.1.1 : Nat), vON (en.2.2.map num)]
def RelM (row : Row) (B H : Hp) : LD → List (List Key × V) → Prop
  | [], l => l = []
  | en :: A, l => ∃ a r, l = (eK en.1, .ref a) :: r ∧ H a = some (.lst (row en)) ∧ B a = none ∧ RelM row B H A r
def Inj (l : List (List Key × V)) : Prop := ∀ e1 ∈ l, ∀ e2 ∈ l, (e1.1 = e2.1 ↔ e1.2 = e2.2)
def TM (row : Row) (B H : Hp) (p : Addr) (A : LD) : Prop := ∃ l, H p = some (.dT l) ∧ RelM row B H A l ∧ Inj l
section
variable {row : Row} {B H H' : Hp} {p q : Addr} {K : PySem.W.Frag} {σ : L2.St} {vs : List V} {Q : VK} {D : Ends} {tz : TS} {te tv ty : TE} {ds : List PyData}
theorem RelM.keep : ∀ {A : LD} {l : List (List Key × V)}, RelM row B H A l → (∀ a ws, H a = some (.lst ws) → B a = none → H' a = some (.lst ws)) → RelM row B H' A l
  | [], _, h, _ => h
  | en :: A, _, h, x => by
    obtain ⟨a, r, h1, h2, h3, h4⟩ := h
    exact ⟨a, r, h1, x a _ h2 h3, h3, RelM.keep h4 x⟩
theorem RelM.len : ∀ {A : LD} {l : List (List Key × V)}, RelM row B H A l → l.length = A.length
  | [], _, h => by rw [show _ = [] from h]; rfl
  | en :: A, _, h => by
    obtain ⟨a, r, rfl, h2, h3, h4⟩ := h
    exact congrArg (· + 1) h4.len
theorem RelM.any (k : LK) : ∀ {A : LD} {l : List (List Key × V)}, RelM row B H A l → (l.any fun kv => decide (kv.1 = eK k)) = A.any fun en => decide (en.1 = k)
  | [], _, h => by rw [show _ = [] from h]; rfl
  | en :: A, _, h => by
    obtain ⟨a, r, rfl, h2, h3, h4⟩ := h
    rw [List.any_cons, List.any_cons, h4.any k]
    congr 1
    exact decide_eq_decide.mpr eK_inj
theorem RelM.vals : ∀ {A : LD} {l : List (List Key × V)}, RelM row B H A l → ∀ e ∈ l, ∃ a ws, e.2 = .ref a ∧ H a = some (.lst ws) ∧ B a = none
  | [], _, h, e, he => by rw [show _ = [] from h] at he; cases he
  | en :: A, _, h, e, he => by
    obtain ⟨a, r, rfl, h2, h3, h4⟩ := h
    rcases List.mem_cons.mp he with rfl | he
    · exact ⟨a, _, rfl, h2, h3⟩
    · exact h4.vals e he
theorem RelM.map (k : LK) {b : LV} {a : Addr} (ha : H a = some (.lst (row (k, b)))) (hb : B a = none) : ∀ {A : LD} {l : List (List Key × V)}, RelM row B H A l → RelM row B H (A.map fun en => if en.1 = k then (en.1, b) else en) (l.map fun kv => if kv.1 = eK k then (kv.1, .ref a) else kv)
  | [], _, h => by rw [show _ = [] from h]; rfl
  | en :: A, _, h => by
    obtain ⟨a', r, rfl, h2, h3, h4⟩ := h
    rw [List.map_cons, List.map_cons]
    by_cases h : en.1 = k
    · rw [if_pos h, if_pos (eK_inj.mpr h)]
      refine ⟨a, _, rfl, ?_, hb, h4.map k ha hb⟩
      rw [h]
      exact ha
    · rw [if_neg h, if_neg fun z => h (eK_inj.mp z)]
      exact ⟨a', _, rfl, h2, h3, h4.map k ha hb⟩
theorem RelM.snoc {k : LK} {b : LV} {a : Addr} (ha : H a = some (.lst (row (k, b)))) (hb : B a = none) : ∀ {A : LD} {l : List (List Key × V)}, RelM row B H A l → RelM row B H (A ++ [(k, b)]) (l ++ [(eK k, .ref a)])
  | [], _, h => by rw [show _ = [] from h]; exact ⟨a, [], rfl, ha, hb, rfl⟩
  | en :: A, _, h => by
    obtain ⟨a', r, rfl, h2, h3, h4⟩ := h
    exact ⟨a', _, rfl, h2, h3, h4.snoc ha hb⟩
theorem RelM.get : ∀ {A : LD} {l : List (List Key × V)} {i : Nat} {k : List Key} {x : V}, RelM row B H A l → l[i]? = some (k, x) → ∃ en a, A[i]? = some en ∧ k = eK en.1 ∧ x = .ref a ∧ H a = some (.lst (row en)) ∧ B a = none
  | [], _, _, _, _, h, z => by rw [show _ = [] from h] at z; simp at z
  | en :: A, _, 0, k, x, h, z => by
    obtain ⟨a, r, rfl, h2, h3, h4⟩ := h
    have z : (eK en.1, V.ref a) = (k, x) := by simpa using z
    cases z
    exact ⟨en, a, rfl, rfl, rfl, h2, h3⟩
  | en :: A, _, i + 1, k, x, h, z => by
    obtain ⟨a, r, rfl, h2, h3, h4⟩ := h
    obtain ⟨en', a', b1, b2⟩ := h4.get (i := i) (by simpa using z)
    exact ⟨en', a', by simpa using b1, b2⟩
theorem RelM.val (k : LK) : ∀ {A : LD} {l : List (List Key × V)} {b : LV}, RelM row B H A l → lookL A k = some b → ∃ a, valV l (eK k) = some (.ref a) ∧ (eK k, V.ref a) ∈ l ∧ H a = some (.lst (row (k, b))) ∧ B a = none
  | [], _, _, h, z => by cases z
  | en :: A, _, b, h, z => by
    obtain ⟨a, r, rfl, h2, h3, h4⟩ := h
    unfold lookL at z
    by_cases h : en.1 = k
    · rw [List.find?_cons_of_pos (by simpa using h)] at z
      cases z
      subst h
      exact ⟨a, valV_pos rfl, List.mem_cons_self .., h2, h3⟩
    · rw [List.find?_cons_of_neg (by simpa using h)] at z
      rw [valV_neg fun z => h (eK_inj.mp z)]
      obtain ⟨a', b1, b2, b3⟩ := h4.val k z
      exact ⟨a', b1, List.mem_cons_of_mem _ b2, b3⟩
theorem RelM.set (k : LK) {b : LV} {a : Addr} {ws : List V} (hw : row (k, b) = ws) (hb : B a = none) : ∀ {A : LD} {l : List (List Key × V)}, RelM row B H A l → (∀ e ∈ l, (e.1 = eK k ↔ e.2 = .ref a)) → RelM row B (upd H a (.lst ws)) (A.map fun en => if en.1 = k then (en.1, b) else en) l
  | [], _, h, _ => h
  | en :: A, _, h, hl => by
    obtain ⟨a', r, rfl, h2, h3, h4⟩ := h
    have ih := RelM.set k hw hb h4 fun e he => hl e (List.mem_cons_of_mem _ he)
    rw [List.map_cons]
    by_cases h : en.1 = k
    · have e1 : V.ref a' = .ref a := (hl _ (List.mem_cons_self ..)).mp (eK_inj.mpr h)
      have e1 : a' = a := by injection e1
      subst e1
      rw [if_pos h]
      refine ⟨a', r, rfl, ?_, h3, ih⟩
      rw [upd_same, h, hw]
    · rw [if_neg h]
      refine ⟨a', r, rfl, ?_, h3, ih⟩
      rw [upd_ne fun z => h (eK_inj.mp ((hl _ (List.mem_cons_self ..)).mpr (by rw [z])))]
      exact h2
theorem TM.keep {A : LD} (h : TM row B H p A) (hp : ∀ o, H p = some o → H' p = some o) (x : ∀ a ws, H a = some (.lst ws) → B a = none → H' a = some (.lst ws)) : TM row B H' p A := by
  obtain ⟨l, h1, h2, h3⟩ := h
  exact ⟨l, hp _ h1, h2.keep x, h3⟩
theorem TM.ex {A : LD} (x : Ex H H') (h : TM row B H p A) : TM row B H' p A := h.keep (fun o => x p o) fun a ws ha _ => x a _ ha
theorem TM.noTup {A : LD} (h : TM row B H p A) : ∀ vs, H p ≠ some (.tup vs) := by
  obtain ⟨l, h1, _⟩ := h
  exact dT_noTup h1
theorem TM.some {A : LD} (h : TM row B H p A) : H p ≠ none := by
  obtain ⟨l, h1, _⟩ := h
  rw [h1]
  intro z
  cases z
theorem inj_put {l : List (List Key × V)} {k : List Key} {a : V} (h : Inj l) (hn : ∀ e ∈ l, e.2 ≠ a) : Inj (putK l k a) := by
  unfold putK
  by_cases z : (l.any fun kv => decide (kv.1 = k)) = true
  · rw [if_pos z]
    intro e1 h1 e2 h2
    obtain ⟨f1, g1, rfl⟩ := List.mem_map.mp h1
    obtain ⟨f2, g2, rfl⟩ := List.mem_map.mp h2
    by_cases k1 : f1.1 = k <;> by_cases k2 : f2.1 = k
    · rw [if_pos k1, if_pos k2]
      exact iff_of_true (k1.trans k2.symm) rfl
    · rw [if_pos k1, if_neg k2]
      exact iff_of_false (fun z => k2 (z.symm.trans k1)) fun z => hn f2 g2 z.symm
    · rw [if_neg k1, if_pos k2]
      exact iff_of_false (fun z => k1 (z.trans k2)) fun z => hn f1 g1 z
    · rw [if_neg k1, if_neg k2]
      exact h f1 g1 f2 g2
  · rw [if_neg z]
    have hk : ∀ e ∈ l, e.1 ≠ k := fun e he hz => z (List.any_eq_true.mpr ⟨e, he, decide_eq_true hz⟩)
    intro e1 h1 e2 h2
    rcases List.mem_append.mp h1 with h1 | h1 <;> rcases List.mem_append.mp h2 with h2 | h2
    · exact h e1 h1 e2 h2
    · have : e2 = (k, a) := by simpa using h2
      subst this
      exact iff_of_false (hk e1 h1) (hn e1 h1)
    · have : e1 = (k, a) := by simpa using h1
      subst this
      exact iff_of_false (fun z => hk e2 h2 z.symm) fun z => hn e2 h2 z.symm
    · have e1' : e1 = (k, a) := by simpa using h1
      have e2' : e2 = (k, a) := by simpa using h2
      subst e1' e2'
      exact iff_of_true rfl rfl
theorem s_tput {j r k : Nat} {b : LV} {A : LD} (hj : σ[j]? = some (some (.ref p))) (hp : TM row B H p A) (hB : ∀ b, H b = none → B b = none) (hk : YD K ty σ H (.tuple [eN r, eN k])) (hv : YN K tv σ H ds) (hrow : ∀ H ws, IsDs K H ds ws → ws = row ((r, k), b)) (hz : A.length < 100000)
    (kk : ∀ H1, Exb p H H1 → TM row B H1 p (putL A (r, k) b) → D.nx σ H1) : sDPut (tVar j) ty tv D σ H := hv H (Ex.refl H) _ fun a ws H1 na x1 ha hiv => ⟨.ref p, hj, hk H1 x1 _ fun y H2 x2 hik => by
    obtain ⟨a2, us, rfl, ha2, w1, _, rfl, e1, w2, _, rfl, e2, rfl⟩ := hik
    obtain ⟨l, l1, l2, l3⟩ := (hp.ex x1).ex x2
    obtain ⟨l0, m1, m2, _⟩ := hp
    have el : l = l0 := by
      have z := (x1.trans x2) p _ m1
      rw [l1] at z
      injection z with z
      injection z
    subst el
    have e1 : w1 = .int (r : Int) := e1
    have e2 : w2 = .int (k : Int) := e2
    subst e1 e2
    have hrw := hrow _ _ hiv
    subst hrw
    have hap : a ≠ p := Ne.symm (ne_of_none m1 na)
    have hb := hB a na
    have noA : ∀ e ∈ l, e.2 ≠ .ref a := fun e he z => by
      obtain ⟨a', ws', f1, f2, _⟩ := m2.vals e he
      rw [f1] at z
      injection z with z
      rw [z, na] at f2
      cases f2
    refine ⟨p, _, rfl, DPut.t (k := eK (r, k)) l1 ha2 (by rw [l2.len]; exact sz_lt hz), kk _ ((Exb.of_ex (x1.trans x2)).trans Exb.upd) ⟨_, upd_same, ?_, inj_put l3 noA⟩⟩
    have ha' : upd H2 p (.dT (putK l (eK (r, k)) (.ref a))) a = some (.lst (row ((r, k), b))) := by
      rw [upd_ne hap]
      exact x2 a _ ha
    have l2' : RelM row B (upd H2 p (.dT (putK l (eK (r, k)) (.ref a)))) A l := l2.keep fun c us hc _ => by
      rw [upd_ne fun z => by rw [z, l1] at hc; cases hc]
      exact hc
    unfold putL putK
    rw [l2'.any (r, k)]
    by_cases z : (A.any fun en => decide (en.1 = (r, k))) = true
    · rw [if_pos z, if_pos z]
      have := l2'.map (r, k) ha' hb
      unfold putK at this
      rw [l2'.any (r, k), if_pos z] at this
      exact this
    · rw [if_neg z, if_neg z]
      have := l2'.snoc ha' hb
      unfold putK at this
      rw [l2'.any (r, k), if_neg z] at this
      exact this⟩
theorem s_tset {j r k n : Nat} {b v0 : LV} {A : LD} (hj : σ[j]? = some (some (.ref p))) (hp : TM row B H p A) (hv : YD K te σ H (eN n)) (hk : YD K ty σ H (.tuple [eN r, eN k])) (hl : lookL A (r, k) = some v0) (hrow : (row ((r, k), v0)).set 3 (.int (n : Int)) = row ((r, k), b)) (h4 : (row ((r, k), v0)).length = 4)
    (kk : ∀ H1 a, Exb a H H1 → B a = none → (∀ vs, H a ≠ some (.tup vs)) → TM row B H1 p (putL A (r, k) b) → D.nx σ H1) : tAsg te (gSub (tDGet (tVar j) ty) (tC (.int 3)) rSetL) D σ H :=
  hv H (Ex.refl H) _ fun v H1 x1 hiv => ⟨.ref p, hj, hk H1 x1 _ fun y H2 x2 hik => by
    obtain ⟨a2, us, rfl, ha2, w1, _, rfl, e1, w2, _, rfl, e2, rfl⟩ := hik
    obtain ⟨l0, m1, m2, m3⟩ := id hp
    obtain ⟨l, l1, l2, l3⟩ := (hp.ex x1).ex x2
    have e1 : w1 = .int (r : Int) := e1
    have e2 : w2 = .int (k : Int) := e2
    have ev : v = .int (n : Int) := hiv
    subst e1 e2 ev
    have el : l = l0 := by
      have z := (x1.trans x2) p _ m1
      rw [l1] at z
      injection z with z
      injection z
    subst el
    obtain ⟨a, f1, f2, f3, f4⟩ := m2.val (r, k) hl
    have f3' := (x1.trans x2) a _ f3
    refine ⟨p, .ref a, rfl, by rw [← f1]; exact DGet.t (k := eK (r, k)) l1 ha2, ?_⟩
    refine ⟨a, _, 3, 3, rfl, rfl, f3', ixN_nat (j := 3) (by rw [h4]; decide), kk _ a ((Exb.of_ex (x1.trans x2)).trans Exb.upd) f4 (lst_noTup f3) ?_⟩
    rw [hrow]
    have hpa : p ≠ a := fun z => by rw [z, f3'] at l1; cases l1
    refine ⟨l, by rw [upd_ne hpa]; exact l1, ?_, l3⟩
    have hset := RelM.set (r, k) (b := b) (a := a) rfl f4 l2 fun e he => l3 e he _ f2
    have hany : (A.any fun en => decide (en.1 = (r, k))) = true := by
      rw [← l2.any (r, k)]
      exact List.any_eq_true.mpr ⟨_, f2, decide_eq_true rfl⟩
    unfold putL
    rw [if_pos hany]
    exact hset⟩
/-! ### right -/
def badT (f : Form) (num : Nat → Nat) (cut : Nat → Nat) (en : LK × LV) : Bool := (match en.2.2 with
  | some j => decide (num j < cut (otherAt f en.1.1))
  | none => false) && (match en.2.1 with
  | some i => decide (cut (oneAt f en.1.1) ≤ num i)
  | none => false)
def sp_right_L (K : PySem.W.Frag) : Sp := fun vs H Q _ => ∃ (p : Addr) (vc : V) (f : Form) (num cut : Nat → Nat) (A : LD) (B : Hp) (n : Nat), vs = [.ref p, vc] ∧ TM (rowV f num) B H p A ∧ IsD K H (eCut cut n) vc ∧ (∀ en ∈ A, oneAt f en.1.1 < n ∧ otherAt f en.1.1 < n) ∧
  ∀ (b : Bool) H', Ex H H' → (b = true ↔ ∀ en ∈ A, badT f num cut en = false) → Q (.bl b) H'
theorem unlock_ex {u : HO} {o : Obj} (hp : H p = some u) (x : Ex (upd H p (.frz o u)) H') : H' p = some (.frz o u) ∧ Ex H (upd H' p u) := by
  refine ⟨x p _ upd_same, fun b v hb => ?_⟩
  by_cases e : b = p
  · subst e
    rw [upd_same, ← hp]
    exact hb
  · rw [upd_ne e]
    exact x b v (by rw [upd_ne e]; exact hb)
theorem vON_isD {o : Option Nat} : IsD K H (eON o) (vON o) := by cases o <;> rfl
theorem q_row {j jk i1 i2 i3 i4 : Nat} {kq a : Addr} {kvs : List (List Key × V)} {k : List Key} {w1 w2 w3 w4 : V} (hj : σ[j]? = some (some (.ref p))) (hk : σ[jk]? = some (some (.ref kq))) (hp : Rd H p (.dT kvs)) (hkq : H kq = some (.tup (k.map kV))) (hv : valV kvs k = some (.ref a)) (ha : H a = some (.lst [w1, w2, w3, w4]))
    (kk : tz D ((((σ.set i1 (some w1)).set i2 (some w2)).set i3 (some w3)).set i4 (some w4)) H) : tSeq (tAsg (tDGet (tVar j) (tVar jk)) (gUnl K 4 (gCons (gName i1) (gCons (gName i2) (gCons (gName i3) (gCons (gName i4) gNil)))))) tz D σ H :=
  ⟨.ref p, hj, .ref kq, hk, p, .ref a, rfl, .inr ⟨kvs, k, kq, hp, rfl, hkq, hv.symm⟩, a, _, rfl, sq_of ha, rfl, _, _, rfl, _, _, rfl, _, _, rfl, _, _, rfl, rfl, kk⟩
theorem rd_right_L {E : XK} (h : sp_right_L K vs H Q E) : t_right_L K (EndsOf Q) (L2.start N_right_L vs) H := by
  obtain ⟨p, vc, f, num, cut, A, B, n, rfl, ⟨l, hp, hr, hi⟩, hc, hn, q⟩ := h
  refine ⟨p, .dT l, hp, trivial, fun od => ?_⟩
  have hfz : upd H p (.frz od (.dT l)) p = some (.frz od (.dT l)) := upd_same
  refine ⟨.ref p, rfl, p, od, rfl, .inr ⟨l, hfz, ?_⟩⟩
  have hrz : RelM (rowV f num) B (upd H p (.frz od (.dT l))) A l := hr.keep fun a ws ha _ => by
    rw [upd_ne fun z => by rw [z, hp] at ha; cases ha]
    exact ha
  have hcz : IsD K (upd H p (.frz od (.dT l))) (eCut cut n) vc := IsD.exb Exb.upd (dT_noTup hp) _ _ noLs_cnts hc
  generalize hH1 : upd H p (.frz od (.dT l)) = H1 at hfz hrz hcz
  refine loop_it (n := l.length) (fun i σ' H' => Ex H1 H' ∧ (∃ o2 o3 o4 o5 o6 o7, σ' = [some (.ref p), some vc, o2, o3, o4, o5, o6, o7]) ∧ ∀ en ∈ A.take i, badT f num cut en = false) ⟨Ex.refl _, ⟨_, _, _, _, _, _, rfl⟩, fun en h => by cases h⟩
    (fun i σ' H' hlt hi => ⟨hi.1 p _ hfz, hlt⟩) (fun σ' H' hi => ⟨hi.1 p _ hfz, Nat.le_refl _⟩) (fun i σ' H' x H'' hlt hx hy => ?_) fun σ' H' hx => ?_
  · obtain ⟨x1, ⟨o2, o3, o4, o5, o6, o7, rfl⟩, hx⟩ := hx
    obtain ⟨rfl, kk, v, kq, hkv, rfl, hkq⟩ := hy
    obtain ⟨en, a, hen, hk, rfl, ha, _⟩ := hrz.get hkv
    have hmem : (kk, V.ref a) ∈ l := List.mem_of_getElem? hkv
    subst hk
    have hval : valV l (eK en.1) = some (.ref a) := by
      cases hv : valV l (eK en.1) with
      | none =>
        unfold valV at hv
        rw [Option.map_eq_none_iff, List.find?_eq_none] at hv
        exact absurd (decide_eq_true rfl) (hv _ hmem)
      | some w =>
        unfold valV at hv
        obtain ⟨e, he, rfl⟩ := Option.map_eq_some_iff.mp hv
        have h1 := List.mem_of_find?_eq_some he
        have h2 : e.1 = eK en.1 := by simpa using List.find?_some he
        rw [(hi e h1 _ hmem).mp h2]
    obtain ⟨n1, n2⟩ := hn en (List.mem_of_getElem? hen)
    have ha' := x1 a _ ha
    have hcz' := IsD.ex x1 _ _ hcz
    -- the four
    refine q_row (p := p) (kq := kq) (a := a) (k := eK en.1) rfl rfl (.inr ⟨od, x1 p _ hfz⟩) hkq hval ha' ?_
    have eT : ∀ b : Bool, badT f num cut en = b → b = false → ∀ e ∈ A.take (i + 1), badT f num cut e = false := fun b h1 h2 e he => by
      rw [Wd.take_snoc hen] at he
      rcases List.mem_append.mp he with he | he
      · exact hx e he
      · have : e = en := by simpa using he
        rw [this, h1, h2]
    refine q_set (K := K) (d := .bool (match en.2.2 with
      | some j => decide (num j < cut (otherAt f en.1.1))
      | none => false)) ?_ fun vi H2 x2 hvi => ?_
    · cases hj : en.2.2 with
      | none => exact (yd_andV (b := false) (ynotN (yd_var rfl (d := eON none) rfl)) fun z => by cases z).to rfl
      | some j => exact (yd_andV (ynotN (yd_var rfl (d := eON (some (num j))) rfl)) fun _ => nlt (yd_var rfl (d := eN (num j)) rfl) (ixT (yd_var rfl hcz') (yd_var rfl (d := eN (otherAt f en.1.1)) rfl) (cnts_at n2))).to rfl
    · refine s_when (b := badT f num cut en) (et_and (yt_B (yd_var rfl hvi)) fun _ => ?_) (fun hb H3 x3 => ?_) fun hb H3 x3 => ?_
      · cases hi1 : en.2.1 with
        | none => exact et_is (et_and (b := false) (yt_test (ynotN (K := K) (yd_var rfl (d := eON none) rfl))) fun z => by cases z) rfl
        | some i' => exact et_is (et_and (yt_test (ynotN (K := K) (yd_var rfl (d := eON (some (num i'))) rfl))) fun _ => yt_test (nge (yd_var rfl (d := eN (num i')) rfl) (ixT (yd_var rfl (IsD.ex x2 _ _ hcz')) (yd_var rfl (d := eN (oneAt f en.1.1)) rfl) (cnts_at n1)))) rfl
      · refine s_ret (K := K) yd_bl fun v H4 x4 hiv => ?_
        have xx := ((x1.trans x2).trans x3).trans x4
        rw [← hH1] at xx
        obtain ⟨u1, u2⟩ := unlock_ex hp xx
        refine ⟨u1, ?_⟩
        rw [show v = V.bl false from hiv]
        exact q false _ u2 (iff_of_false (by decide) fun z => by rw [z en (List.mem_of_getElem? hen)] at hb; cases hb)
      · exact ⟨(x1.trans x2).trans x3, ⟨_, _, _, _, _, _, rfl⟩, eT _ rfl hb⟩
  · obtain ⟨x1, ⟨o2, o3, o4, o5, o6, o7, rfl⟩, hx⟩ := hx
    rw [← hH1] at x1
    obtain ⟨u1, u2⟩ := unlock_ex hp x1
    refine ⟨u1, ?_⟩
    show tRet (tC (.bl true)) (EndsOf Q) [some (.ref p), some vc, o2, o3, o4, o5, o6, o7] _
    refine s_ret (K := K) yd_bl fun v H4 x4 hiv => ?_
    rw [show v = V.bl true from hiv]
    refine q true _ (u2.trans x4) (iff_of_true rfl fun en hen => hx en ?_)
    rw [hr.len, List.take_length]
    exact hen
end
end Ct

/-! # CtL4 -/
namespace Ct
open PySem PySem.Spec PyProof.Rows L2 Evl
open Run (dsOf RightL)
section
variable {row : Row} {B H H' : Hp} {p q : Addr} {K : PySem.W.Frag} {σ : L2.St} {vs : List V} {Q : VK} {D : Ends} {tz : TS} {te tv ty : TE} {ds : List PyData}
abbrev numOf (f : Form) (log : List Ev) (j : Nat) : Nat := ((eventsOf f (dsOf log)).getD j (0, 0)).2
theorem isDs_row4 {a c : Nat} {b d : Option Nat} {ws : List V} (h : IsDs K H [eN a, eON b, eN c, eON d] ws) : ws = [.int (a : Int), vON b, .int (c : Int), vON d] := by
  obtain ⟨w1, _, rfl, h1, w2, _, rfl, h2, w3, _, rfl, h3, w4, _, rfl, h4, rfl⟩ := h
  have e2 : w2 = vON b := by cases b <;> exact h2
  have e4 : w4 = vON d := by cases d <;> exact h4
  rw [show w1 = V.int (a : Int) from h1, e2, show w3 = V.int (c : Int) from h3, e4]
abbrev eEvs (f : Form) (log : List Ev) : List PyData := (eventsOf f (dsOf log)).map eEv
theorem num_at {f : Form} {log : List Ev} {j : Nat} (h : j < log.length) : (eventsOf f (dsOf log))[j]? = some ((eventsOf f (dsOf log)).getD j (0, 0)) := by
  have hl : j < (eventsOf f (dsOf log)).length := by
    rw [events_length]
    show j < (log.map _).length
    rw [List.length_map]
    exact h
  rw [List.getD_eq_getElem?_getD, List.getElem?_eq_getElem hl]
  rfl
theorem noneB {A : LD} (x : Exb p B H) (h : TM row B H p A) : ∀ b, H b = none → B b = none := fun b hb => by
  cases e : B b with
  | none => rfl
  | some o =>
    by_cases z : b = p
    · subst z
      exact absurd hb h.some
    · rw [x b o z e] at hb
      cases hb
theorem trips_tail {f : Form} {log : List Ev} {s s' : Stand} {A : LD} {t : Nat} {p pe : Addr} {v1 v2 v3 vst vb : V} {o6 o7 o8 : Option V} (ok : FormOk f) (hs : StOk f 70 s) (hs' : StOk f 72 s') (hstep : ∀ r, sentAt s r ≤ sentAt s' r ∧ sentAt s' r - sentAt s r ≤ 2) (hA : A.length ≤ 1000) (ht : t < log.length)
    (h1 : IsD K H (eForm f) v1) (hst : IsD K H (eStand s) vst) (hb : IsD K H (eStand s') vb) (hx : Exb p B H) (hpe : pe ≠ p) (he : OL K H pe (eEvs f log)) (hp : TM (rowV f (numOf f log)) B H p A)
    (kk : ∀ o6 o7 v o10 H', Exb p H H' → OL K H' pe (eEvs f log) → IsD K H' (eStand s') v → TM (rowV f (numOf f log)) B H' p (addTo A t s s' f.roads.length) → D.nx [some v1, some v2, some v3, some (.ref p), some (.ref pe), some v, o6, o7, o8, some (.int (t : Int)), o10] H') :
    tSeq (tFor (iRng1 (tCons (tCB (rLenU K) (tCons (tOp (rIx K) (tVar 0) (tC (.int 1))) (tNil))) (tNil))) (gName 6) (tFor (iRng2 (tCons (tOp (rIx K) (tOp (rIx K) (tOp (rIx K) (tVar 5) (tC (.int 1))) (tVar 6)) (tC (.int 0))) (tCons (tOp (rIx K) (tOp (rIx K) (tOp (rIx K) (tVar 10) (tC (.int 1))) (tVar 6)) (tC (.int 0))) (tNil)))) (gName 7) (sDPut (tVar 3) (tTup (tCons (tVar 6) (tCons (tVar 7) (tNil)))) (tLst (tCons (tOp (rIx K) (tOp (rIx K) (tOp (rIx K) (tVar 0) (tC (.int 1))) (tVar 6)) (tC (.int 0))) (tCons (tOp (rIx K) (tOp (rIx K) (tVar 4) (tVar 9)) (tC (.int 1))) (tCons (tOp (rIx K) (tOp (rIx K) (tOp (rIx K) (tVar 0) (tC (.int 1))) (tVar 6)) (tC (.int 1))) (tCons (tC .non) (tNil))))))))) (tAsg (tVar 10) (gName 5)) D
      [some v1, some v2, some v3, some (.ref p), some (.ref pe), some vst, o6, o7, o8, some (.int (t : Int)), some vb] H := by
  have n8 := ok.rfew
  have nf := noL_stand
  have nF : noL (eForm f) = true := by
    show (noLs (f.rules.map eRule) && (noLs (f.roads.map eRoad) && true)) = true
    rw [noLs_map noL_rule, noLs_map noL_road]
    rfl
  refine q_forR (n := f.roads.length) (ylenTM (ix1 (yd_var rfl h1))) (by omega) (fun r σ' H' => Exb p H H' ∧ (∃ o6 o7, σ' = [some v1, some v2, some v3, some (.ref p), some (.ref pe), some vst, o6, o7, o8, some (.int (t : Int)), some vb]) ∧ IsD K H' (eForm f) v1 ∧ IsD K H' (eStand s) vst ∧ IsD K H' (eStand s') vb ∧ OL K H' pe (eEvs f log) ∧ TM (rowV f (numOf f log)) B H' p (addTo A t s s' r))
    (fun H5 x10 => ⟨Exb.of_ex x10, ⟨_, _, rfl⟩, IsD.ex x10 _ _ h1, IsD.ex x10 _ _ hst, IsD.ex x10 _ _ hb, he.ex x10, hp.ex x10⟩) (fun r σ' H' hr hi => ?_) fun σ' H' hi => ?_
  · obtain ⟨x10, ⟨o6, o7, rfl⟩, j0, j1, j2, j4, j3⟩ := hi
    obtain ⟨l, hl, _, el⟩ := loads_at (f := f) (s := s) (r := r) (by rw [hs.fit.2]; exact hr)
    obtain ⟨l', hl', _, el'⟩ := loads_at (f := f) (s := s') (r := r) (by rw [hs'.fit.2]; exact hr)
    obtain ⟨rd, hrd, eo, _, e1⟩ := roads_at hr
    have hsn := (hs.ld r l hl).sn
    have hsn' := (hs'.ld r l' hl').sn
    have hlen := addTo_len (A := A) (t := t) (s := s) (s' := s') (n := r) (c := 2) fun r => (hstep r).2
    have yr : ∀ {H6}, YD K (tVar 6) [some v1, some v2, some v3, some (.ref p), some (.ref pe), some vst, some (.int (r : Int)), o7, o8, some (.int (t : Int)), some vb] H6 (eN r) := fun {H6} => yd_var rfl (show IsD K H6 (eN r) (.int (r : Int)) from rfl)
    refine s_of ?_
    refine q_forR2 (lo := l.sent) (hi := l'.sent) (ix0 (ixM (g := eLoad) (ix1 (yd_var rfl j1)) yr hl)) (ix0 (ixM (g := eLoad) (ix1 (yd_var rfl j2)) yr hl')) (by omega) (by omega)
      (fun i σ' H' => Exb p H H' ∧ (∃ o7, σ' = [some v1, some v2, some v3, some (.ref p), some (.ref pe), some vst, some (.int (r : Int)), o7, o8, some (.int (t : Int)), some vb]) ∧ IsD K H' (eForm f) v1 ∧ IsD K H' (eStand s) vst ∧ IsD K H' (eStand s') vb ∧ OL K H' pe (eEvs f log) ∧ TM (rowV f (numOf f log)) B H' p (addRoad (addTo A t s s' r) t r l.sent i))
      (fun H6 x11 => ⟨x10.trans (Exb.of_ex x11), ⟨_, rfl⟩, IsD.ex x11 _ _ j0, IsD.ex x11 _ _ j1, IsD.ex x11 _ _ j2, j4.ex x11, j3.ex x11⟩) (fun i σ' H' hi2 hi => ?_) fun σ' H' hi => ?_
    · obtain ⟨x11, ⟨o7, rfl⟩, i0, i1, i2, i4, i3⟩ := hi
      have hlen2 := addRoad_len (addTo A t s s' r) t r l.sent i
      have hm := num_at (f := f) ht
      have yr2 : ∀ {H6}, YD K (tVar 6) [some v1, some v2, some v3, some (.ref p), some (.ref pe), some vst, some (.int (r : Int)), some (.int ((l.sent + i : Nat) : Int)), o8, some (.int (t : Int)), some vb] H6 (eN r) := fun {H6} => yd_var rfl (show IsD K H6 (eN r) (.int (r : Int)) from rfl)
      have yf := ixM (K := K) (g := eRoad) (H := H') (ix1 (yd_var (i := 0) rfl i0)) yr2 hrd
      refine s_tput (p := p) (r := r) (k := l.sent + i) (b := ((some t, none) : LV)) (ds := [eN rd.one, eON (some (numOf f log t)), eN rd.other, eON none]) rfl i3 (noneB (hx.trans x11) i3) (yd_tup (ya_cons yr2 (ya_cons (yd_var rfl (show IsD K H' (eN (l.sent + i)) (.int ((l.sent + i : Nat) : Int)) from rfl)) ya_nil)) (by simp)) (yn_lst (ya_cons (ix0 yf) (ya_cons (ix1 (ixLM (g := eEv) (yd_var rfl i4.isD) (yd_var rfl (show IsD K H' (eN t) (.int (t : Int)) from rfl)) hm)) (ya_cons (ix1 yf) (ya_cons yd_non ya_nil)))) (by simp)) (fun H ws h => ?_) (by omega) fun H7 xb k5 => ?_
      · rw [isDs_row4 h]
        show _ = [V.int (oneAt f r : Nat), _, V.int (otherAt f r : Nat), _]
        rw [e1, eo]
        rfl
      · refine ⟨x11.trans xb, ⟨_, rfl⟩, IsD.exb xb i3.noTup _ _ nF i0, IsD.exb xb i3.noTup _ _ (nf _) i1, IsD.exb xb i3.noTup _ _ (nf _) i2, OL.exb xb i3.noTup hpe i4, ?_⟩
        rw [addRoad_succ]
        exact k5
    · obtain ⟨x11, ⟨o7, rfl⟩, i0, i1, i2, i4, i3⟩ := hi
      refine ⟨x11, ⟨_, _, rfl⟩, i0, i1, i2, i4, ?_⟩
      rw [addTo_succ, el, el']
      exact i3
  · obtain ⟨x10, ⟨o6, o7, rfl⟩, j0, j1, j2, j4, j3⟩ := hi
    exact s_set (yd_var rfl j2) fun v H6 x11 hi => kk _ _ _ _ _ (x10.trans (Exb.of_ex x11)) (j4.ex x11) hi (j3.ex x11)
def sp_trips_L (K : PySem.W.Frag) : Sp := fun vs H Q _ => ∃ (f : Form) (base : Stand) (log : List Ev), IsDs K H [eForm f, eStand base, eDeeds (dsOf log)] vs ∧ Good f base log ∧ ∀ p B H', H p = none → Ex H H' → TM (rowV f (numOf f log)) B H' p (lettersAt f base log log.length) → Q (.ref p) H'
theorem rd_trips_L {E : XK} (h : sp_trips_L K vs H Q E) : t_trips_L K (sp_events_L K) (sp_step_L K) (EndsOf Q) (L2.start N_trips_L vs) H := by
  obtain ⟨f, base, log, hi, hc, q⟩ := h
  obtain ⟨v1, _, rfl, h1, v2, _, rfl, h2, v3, _, rfl, h3, rfl⟩ := hi
  have n8 := hc.form.rfew
  have hfew := hc.few
  have hds := dsOk_log hc
  refine q_dict (K := K) fun p H1 np x1 hp => ?_
  refine q_setN (ds := eEvs f log) (ycL (f, dsOf log) hds (ya_cons (yd_var rfl (IsD.ex x1 _ _ h1)) (ya_cons (yd_var rfl (IsD.ex x1 _ _ h3)) ya_nil)) fun _ h => h) (noLs_evs _) fun pe H2 npe x2 hpe => ?_
  have hne : pe ≠ p := Ne.symm ((hp LV eLV).ne npe)
  refine q_set (d := eStand base) (yd_var rfl (IsD.ex (x1.trans x2) _ _ h2)) fun vst H3 x3 hvst => ?_
  have x13 := (x1.trans x2).trans x3
  have hBpe : H3 pe ≠ none := by
    obtain ⟨ws, z, _⟩ := hpe.ex x3
    rw [z]
    intro z
    cases z
  have hT0 : TM (rowV f (numOf f log)) H3 H3 p [] := by
    obtain ⟨l, l1, l2⟩ := ((hp LV eLV).ex x2).ex x3
    have : l = [] := l2
    subst this
    exact ⟨[], l1, rfl, fun e h => by cases h⟩
  refine q_forR (n := f.roads.length) (ylenTM (ix1 (yd_var rfl (IsD.ex x13 _ _ h1)))) (by omega) (fun r σ' H' => Ex H H' ∧ Exb p H3 H' ∧ (∃ o6 o7 o8, σ' = [some v1, some v2, some v3, some (.ref p), some (.ref pe), some vst, o6, o7, o8, none, none]) ∧ OL K H' pe (eEvs f log) ∧ TM (rowV f (numOf f log)) H3 H' p (initTo base r))
    (fun H4 x4 => ⟨x13.trans x4, Exb.of_ex x4, ⟨_, _, _, rfl⟩, (hpe.ex x3).ex x4, hT0.ex x4⟩) (fun r σ' H' hr hi => ?_) fun σ' H' hi => ?_
  · obtain ⟨x4, xB, ⟨o6, o7, o8, rfl⟩, k0, k1⟩ := hi
    obtain ⟨l, hl, hw, _⟩ := loads_at (f := f) (s := base) (r := r) (by rw [hc.bs.fit.2]; exact hr)
    obtain ⟨rd, hrd, eo, _, e1⟩ := roads_at hr
    have hw10 := hc.waits10 r
    have hil := hc.init_len r
    have yr : ∀ {H6 o7 o8}, YD K (tVar 6) [some v1, some v2, some v3, some (.ref p), some (.ref pe), some vst, some (.int (r : Int)), o7, o8, none, none] H6 (eN r) := fun {H6 o7 o8} => yd_var rfl (show IsD K H6 (eN r) (.int (r : Int)) from rfl)
    refine s_of ?_
    refine q_forT (ds := l.waiting.map eSend) (ix1 (ixM (g := eLoad) (ix1 (yd_var rfl (IsD.ex x4 _ _ h2))) yr hl))
      (fun w i σ' H' => Ex H H' ∧ Exb p H3 H' ∧ IsD K H' (.tuple (l.waiting.map eSend)) w ∧ (∃ o7 o8, σ' = [some v1, some v2, some v3, some (.ref p), some (.ref pe), some vst, some (.int (r : Int)), o7, o8, none, none]) ∧ OL K H' pe (eEvs f log) ∧ TM (rowV f (numOf f log)) H3 H' p (initRoad (initTo base r) base r i))
      (fun w H5 x5 hw => ⟨x4.trans x5, xB.trans (Exb.of_ex x5), hw, ⟨_, _, rfl⟩, k0.ex x5, k1.ex x5⟩) (fun w i σ' H' hi => hi.2.2.1) (fun w i d v σ' H'' hd hv hi => ?_) fun w σ' H'' hi => ?_
    · obtain ⟨x5, xB5, hw5, ⟨o7, o8, rfl⟩, k5, k6⟩ := hi
      obtain ⟨pl, hpl, rfl⟩ := map_get hd
      have hpl' : (waitsAt base r)[i]? = some pl := by rw [hw]; exact hpl
      have hlt := (List.getElem?_eq_some_iff.mp hpl').1
      refine g_tup2 hv fun u1 u2 hu1 hu2 => ?_
      have z1 := initRoad_len (initTo base r) base r i
      have yf := ixM (K := K) (g := eRoad) (H := H'') (ix1 (yd_var (i := 0) rfl (IsD.ex x5 _ _ h1))) (yr (o7 := some u1) (o8 := some u2)) hrd
      refine s_tput (p := p) (r := r) (k := pl.1) (b := ((none, none) : LV)) (ds := [eN rd.one, eON none, eN rd.other, eON none]) rfl k6 (noneB xB5 k6) (yd_tup (ya_cons yr (ya_cons (yd_var rfl hu1) ya_nil)) (by simp)) (yn_lst (ya_cons (ix0 yf) (ya_cons yd_non (ya_cons (ix1 yf) (ya_cons yd_non ya_nil)))) (by simp)) (fun H ws h => ?_) (by omega) fun H7 xb k7 => ?_
      · rw [isDs_row4 h]
        show _ = [V.int (oneAt f r : Nat), _, V.int (otherAt f r : Nat), _]
        rw [e1, eo]
        rfl
      · refine ⟨Ex.exb x5 xb np, xB5.trans xb, IsD.exb xb k6.noTup _ _ (noLs_sends _) hw5, ⟨_, _, rfl⟩, OL.exb xb k6.noTup hne k5, ?_⟩
        rw [initRoad_succ hpl']
        exact k7
    · obtain ⟨x5, xB5, hw5, ⟨o7, o8, rfl⟩, k5, k6⟩ := hi
      refine ⟨x5, xB5, ⟨_, _, _, rfl⟩, k5, ?_⟩
      rw [List.length_map, ← hw] at k6
      rw [initTo_succ]
      exact k6
  · obtain ⟨x4, xB, ⟨o6, o7, o8, rfl⟩, k0, k1⟩ := hi
    have hvst3 : IsD K H' (eStand base) vst := IsD.exb xB hT0.noTup _ _ (noL_stand _) hvst
    have hdl : (dsOf log).length = log.length := List.length_map _
    refine q_forR (n := log.length) ((ylenLM (yd_var rfl (IsD.ex x4 _ _ h3))).to (by rw [hdl])) (by omega) (fun t σ' H' => Ex H H' ∧ Exb p H3 H' ∧ ∃ vst o6 o7 o8 o9 o10, σ' = [some v1, some v2, some v3, some (.ref p), some (.ref pe), some vst, o6, o7, o8, o9, o10] ∧ IsD K H' (eStand (after f base (log.take t))) vst ∧ OL K H' pe (eEvs f log) ∧ TM (rowV f (numOf f log)) H3 H' p (lettersAt f base log t))
      (fun H5 x5 => ⟨x4.trans x5, xB.trans (Exb.of_ex x5), vst, _, _, _, _, _, rfl, IsD.ex x5 _ _ hvst3, k0.ex x5, k1.ex x5⟩) (fun t σ' H' hlt hi => ?_) fun σ' H' hi => ?_
    · obtain ⟨x5, xB5, vst, o6, o7, o8, o9, o10, rfl, hst, k2, k3⟩ := hi
      obtain ⟨e, he⟩ : ∃ e, log[t]? = some e := ⟨_, List.getElem?_eq_getElem hlt⟩
      have hdd : (dsOf log)[t]? = some e.1 := by
        show (log.map _)[t]? = _
        rw [List.getElem?_map, he]
        rfl
      have hde := hc.de e (List.mem_of_getElem? he)
      have hs := hc.at_ t
      have ha := runLog_at hc.run he
      have hA := hc.letters_len t
      have eA : lettersAt f base log (t + 1) = addTo (comeL (lettersAt f base log t) t e.1) t (after f base (log.take t)) (after f base (log.take (t + 1))) f.roads.length := by
        show (match log[t]? with
          | some e => addTo (comeL (lettersAt f base log t) t e.1) t (after f base (log.take t)) (after f base (log.take (t + 1))) f.roads.length
          | none => lettersAt f base log t) = _
        rw [he]
      have est : after f base (log.take (t + 1)) = applyA f (after f base (log.take t)) e.1 e.2 := after_take he
      have hcl := comeL_len (lettersAt f base log t) t e.1
      have yd9 : ∀ {H6 o10}, Ex H' H6 → YD K (tOp (rIx K) (tVar 2) (tVar 9)) [some v1, some v2, some v3, some (.ref p), some (.ref pe), some vst, o6, o7, o8, some (.int (t : Int)), o10] H6 (eDeed e.1) := fun {H6 o10} x => ixLM (g := eDeed) (yd_var rfl (IsD.ex (x5.trans x) _ _ h3)) (yd_var rfl (show IsD K H6 (eN t) (.int (t : Int)) from rfl)) hdd
      refine q_set (d := eStand (applyA f (after f base (log.take t)) e.1 e.2)) (ix0 (yc (d := .tuple [eStand (applyA f (after f base (log.take t)) e.1 e.2), eWord e.2.2.2]) (f, after f base (log.take t), e.1, e.2) ⟨hc.form, hde, hs.mono (by decide), ha⟩ (ya_cons (yd_var rfl (IsD.ex x5 _ _ h1)) (ya_cons (yd_var rfl hst) (ya_cons (yd9 (Ex.refl _)) ya_nil))) fun _ h => h)) fun vb H6 x6 hvb => ?_
      have hstep := fun r => sent_step hc.form hs ha r
      have hs' := stOk_apply hc.form hs ha
      refine q_when (b := isCome e.1) (et_is (yt_test (yeqS (ytag (yd9 x6)) yd_str)) (tag_come e.1)) (fun hb H7 x7 => ?_) fun hb H7 x7 => ?_
      · cases hd1 : e.1 with
        | own m => rw [hd1] at hb; cases hb
        | hear m gg => rw [hd1] at hb; cases hb
        | come r k =>
          obtain ⟨v, hv⟩ := hc.look he hd1
          have hm := num_at (f := f) hlt
          have x67 := x6.trans x7
          have yd9' := yd9 (o10 := some vb) x67
          rw [hd1] at yd9'
          refine s_tset (p := p) (r := r) (k := k) (n := numOf f log t) (b := ((v.1, some t) : LV)) (v0 := v) rfl (k3.ex x67) (ix1 (ixLM (g := eEv) (yd_var rfl (k2.ex x67).isD) (yd_var rfl (show IsD K H7 (eN t) (.int (t : Int)) from rfl)) hm)) (yd_from yd9' (nlit 1)) hv rfl rfl fun H8 a xa hBa hta k8 => ?_
          have hpea : pe ≠ a := fun z => hBpe (by rw [z]; exact hBa)
          have hpa : H a = none := by
            cases z : H a with
            | none => rfl
            | some o => rw [x13 a o z] at hBa; cases hBa
          have x8 : Ex H H8 := Ex.exb (x5.trans x67) xa hpa
          have xB8 : Exb p H3 H8 := fun b o hbp hbo => xa b o (fun z => by rw [z, hBa] at hbo; cases hbo) (x67 b o (xB5 b o hbp hbo))
          refine trips_tail (t := t) (A := comeL (lettersAt f base log t) t e.1) (B := H3) hc.form hs hs' hstep (by omega) hlt (IsD.ex x8 _ _ h1) (IsD.exb xa hta _ _ (noL_stand _) (IsD.ex x67 _ _ hst)) (IsD.exb xa hta _ _ (noL_stand _) (IsD.ex x7 _ _ hvb)) xB8 hne (OL.exb xa hta hpea (k2.ex x67)) ?_ fun o6 o7 v o10 H9 xb hol hv9 hT => ⟨Ex.exb x8 xb np, xB8.trans xb, v, _, _, _, _, _, rfl, by rw [est]; exact hv9, hol, by rw [eA, est]; exact hT⟩
          rw [hd1]
          show TM _ H3 H8 p (putL (lettersAt f base log t) (r, k) (((lookL (lettersAt f base log t) (r, k)).getD (none, none)).1, some t))
          rw [hv]
          exact k8
      · have x67 := x6.trans x7
        have x8 := x5.trans x67
        have xB8 := xB5.trans (Exb.of_ex x67)
        refine trips_tail (t := t) (A := comeL (lettersAt f base log t) t e.1) (B := H3) hc.form hs hs' hstep (by omega) hlt (IsD.ex x8 _ _ h1) (IsD.ex x67 _ _ hst) (IsD.ex x7 _ _ hvb) xB8 hne (k2.ex x67) ?_ fun o6 o7 v o10 H9 xb hol hv9 hT => ⟨Ex.exb x8 xb np, xB8.trans xb, v, _, _, _, _, _, rfl, by rw [est]; exact hv9, hol, by rw [eA, est]; exact hT⟩
        have ec : comeL (lettersAt f base log t) t e.1 = lettersAt f base log t := by
          cases hd1 : e.1 with
          | own m => rfl
          | hear m gg => rfl
          | come r k => rw [hd1] at hb; cases hb
        rw [ec]
        exact k3.ex x67
    · obtain ⟨x5, xB5, vst, o6, o7, o8, o9, o10, rfl, hst, k2, k3⟩ := hi
      exact ⟨.ref p, rfl, q p H3 H' np x5 k3⟩
/-! ### right, of the trips -/
def rightB (f : Form) (base : Stand) (log : List Ev) (cut : Nat → Nat) : Bool := (lettersAt f base log log.length).all fun en => !badT f (numOf f log) cut en
theorem Good.bad {f : Form} {base : Stand} {log : List Ev} (g : Good f base log) (cut : Nat → Nat) : rightB f base log cut = true ↔ RightD f base log cut := by
  have R := g.toRun
  have L := R.letters_ok log.length (Nat.le_refl _)
  have key : ∀ {j : Nat} {e : Ev}, log[j]? = some e → inCut (eventsOf f (dsOf log)) cut j = decide (numOf f log j < cut (machineOf f e.1)) := fun {j e} he => by
    have hdd : (dsOf log)[j]? = some e.1 := by
      show (log.map _)[j]? = _
      rw [List.getElem?_map, he]
      rfl
    have hev := events_at (f := f) hdd
    rw [inCut_at hev]
    unfold numOf
    rw [List.getD_eq_getElem?_getD, hev]
    rfl
  have hbad : ∀ en ∈ lettersAt f base log log.length, (badT f (numOf f log) cut en = false ↔ ∀ j, en.2.2 = some j → inCut (eventsOf f (dsOf log)) cut j = true → ∀ j', en.2.1 = some j' → inCut (eventsOf f (dsOf log)) cut j' = true) := fun en hen => by
    unfold badT
    cases hj : en.2.2 with
    | none => exact iff_of_true rfl fun j z => by cases z
    | some j =>
      obtain ⟨_, e, he, hd⟩ := L.dc en hen j hj
      have k1 := key he
      rw [hd] at k1
      have k1 : inCut (eventsOf f (dsOf log)) cut j = decide (numOf f log j < cut (otherAt f en.1.1)) := k1
      cases hi : en.2.1 with
      | none =>
        show (_ && false) = false ↔ _
        rw [Bool.and_false]
        exact iff_of_true rfl fun _ _ _ j' z => by cases z
      | some i =>
        obtain ⟨_, e', he', hm, _⟩ := L.ds en hen i hi
        have k2 := key he'
        have hm : machineOf f e'.1 = oneAt f en.1.1 := hm
        rw [hm] at k2
        show (decide (numOf f log j < cut (otherAt f en.1.1)) && decide (cut (oneAt f en.1.1) ≤ numOf f log i)) = false ↔ _
        rw [← k1]
        constructor
        · intro h j0 z1 z2 i0 z3
          cases z1
          cases z3
          rw [z2, Bool.true_and, decide_eq_false_iff_not] at h
          rw [k2]
          exact decide_eq_true (by omega)
        · intro h
          cases hc : inCut (eventsOf f (dsOf log)) cut j with
          | false => rfl
          | true =>
            have := h j rfl hc i rfl
            rw [k2, decide_eq_true_eq] at this
            rw [Bool.true_and]
            exact decide_eq_false (by omega)
  unfold rightB
  rw [List.all_eq_true]
  exact ⟨fun h en hen => (hbad en hen).mp (by have := h en hen; rw [Bool.not_eq_true'] at this; exact this), fun h en hen => by rw [(hbad en hen).mpr (h en hen)]; rfl⟩
theorem yd_right {f : Form} {base : Stand} {log : List Ev} {cut : Nat → Nat} {tas : TA} {tc : TE} (g : Good f base log) (h : YA K tas σ H [eForm f, eStand base, eDeeds (dsOf log)]) (hc : YD K tc σ H (eCut cut f.rules.length)) :
    YD K (tCall (sp_right_L K) [] E0 (tCons (tCall (sp_trips_L K) [] E0 tas) (tCons tc tNil))) σ H (.bool (rightB f base log cut)) := fun H1 x1 Q q =>
  h H1 x1 _ fun vs H2 x2 hi => ⟨f, base, log, by rw [List.append_nil]; exact hi, g, fun p B H3 np x3 hT => hc H3 ((x1.trans x2).trans x3) _ fun vc H4 x4 hvc => by
    have L := g.toRun.letters_ok log.length (Nat.le_refl _)
    refine ⟨p, vc, f, numOf f log, cut, _, B, f.rules.length, rfl, hT.ex x4, hvc, fun en hen => ?_, fun b H5 x5 hb => q _ H5 (((x2.trans x3).trans x4).trans x5) ?_⟩
    · have hr : en.1.1 < f.roads.length := (L.d0 en hen).1
      obtain ⟨a, b, _⟩ := g.form.roadAt hr
      exact ⟨a, b⟩
    · show V.bl b = V.bl _
      congr 1
      rw [Bool.eq_iff_iff, hb]
      unfold rightB
      rw [List.all_eq_true]
      exact ⟨fun z en hen => by rw [z en hen]; rfl, fun z en hen => by have := z en hen; rw [Bool.not_eq_true'] at this; exact this⟩⟩
end
end Ct

/-! # CtL5 -/
namespace Ct
open PySem PySem.Spec PyProof.Rows L2 Evl
open Run (dsOf RightL)
section
variable {H H' H0 : Hp} {p q : Addr} {K : PySem.W.Frag} {σ : L2.St} {vs : List V} {Q : VK} {D : Ends} {tz : TS} {te tv ty ti : TE} {ds : List PyData}
/-! ### sorted -/
abbrev srt (w : List Nat) : List Nat := w.mergeSort fun a b => decide (a ≤ b)
theorem srt_perm (w : List Nat) : (srt w).Perm w := List.mergeSort_perm w _
theorem srt_up (w : List Nat) : (srt w).Pairwise (· ≤ ·) := (List.pairwise_mergeSort (le := fun a b : Nat => decide (a ≤ b)) (fun a b c h1 h2 => by simp at *; omega) (fun a b => by simp; omega) w).imp fun h => by simpa using h
theorem up_eq {a b : List Nat} (ha : a.Pairwise (· ≤ ·)) (hb : b.Pairwise (· ≤ ·)) (h : a.Perm b) : a = b := List.Perm.eq_of_pairwise (le := (· ≤ ·)) (fun _ _ _ _ h1 h2 => Nat.le_antisymm h1 h2) ha hb h
theorem ints_srt {w : List Nat} {ns : List Int} (hp : ns.Perm (w.map fun n => ((n : Nat) : Int))) (hs : ns.Pairwise (· ≤ ·)) : ns = (srt w).map fun n => ((n : Nat) : Int) := by
  have hq : ns.Perm ((srt w).map fun n => ((n : Nat) : Int)) := hp.trans ((srt_perm w).symm.map _)
  refine List.Perm.eq_of_pairwise (le := (· ≤ ·)) (fun _ _ _ _ h1 h2 => Int.le_antisymm h1 h2) hs ?_ hq
  exact List.pairwise_map.mpr ((srt_up w).imp fun h => by omega)
theorem isDs_nats : ∀ l : List Nat, IsDs K H (l.map eN) ((l.map fun n => ((n : Nat) : Int)).map V.int)
  | [] => rfl
  | n :: l => ⟨_, _, rfl, rfl, isDs_nats l⟩
theorem IsDs.nats : ∀ {l : List Nat} {vs : List V}, IsDs K H (l.map eN) vs → vs = (l.map fun n => ((n : Nat) : Int)).map V.int
  | [], _, h => h
  | n :: l, _, h => by
    obtain ⟨w, ws, rfl, h1, h2⟩ := h
    rw [show w = V.int (n : Int) from h1, IsDs.nats h2]
    rfl
theorem yn_srtL {w : List Nat} (h : YD K te σ H (eNs w)) : YN K (tCB (rSrtU K) (tCons te tNil)) σ H ((srt w).map eN) := fun H1 x Q q => h H1 x _ fun v H2 x2 hv => by
  obtain ⟨a, us, rfl, ha, hi⟩ := hv
  rw [hi.nats] at ha
  refine .inl ⟨a, _, rfl, ha, fun ns p hp hs np => ?_⟩
  rw [ints_srt hp hs]
  exact q p _ _ (fresh_back x2 np) (x2.trans (Ex.new np)) upd_same (isDs_nats _)
theorem yn_srtT {w : List Nat} (h : YD K te σ H (.tuple (w.map eN))) : YN K (tCB (rSrtU K) (tCons te tNil)) σ H ((srt w).map eN) := fun H1 x Q q => h H1 x _ fun v H2 x2 hv => by
  obtain ⟨a, us, rfl, ha, hi⟩ := hv
  rw [hi.nats] at ha
  refine .inr ⟨a, _, rfl, st_of ha, fun ns p hp hs np => ?_⟩
  rw [ints_srt hp hs]
  exact q p _ _ (fresh_back x2 np) (x2.trans (Ex.new np)) upd_same (isDs_nats _)
theorem cmp_nats (l : List Nat) : cmp 60 (eNs l) = true := cmp_lst (n := 59) (cmps_map (fun _ => cmp_int) _)
theorem yneNs {a b : List Nat} (h1 : YD K te σ H (eNs a)) (h2 : YD K ti σ H (eNs b)) : YD K (tOp (rNeU K) te ti) σ H (.bool (!decide (a = b))) := (yneD h1 h2 (cmp_nats a) (cmp_nats b)).to (congrArg (fun b => PyData.bool (!b)) (eqv_lst eqv_nat a b))
/-! ### bent -/
/-- one store of an unpacking -/
theorem g_setL {j i m : Nat} {d : PyData} {v : V} {QQ : L2.St → Hp → Prop} (hj : σ[j]? = some (some (.ref p))) (hi : σ[i]? = some (some (.int (m : Int)))) (hp : OL K H p ds) (hv : IsD K H d v) (hn : noL d = true) (hm : m < ds.length) (k : ∀ H1, Exb p H H1 → OL K H1 p (ds.set m d) → QQ σ H1) :
    gSub (tVar j) (tVar i) rSetL v σ H QQ := by
  obtain ⟨us, h1, h2, h3⟩ := hp
  refine ⟨.ref p, hj, _, hi, p, us, (m : Int), m, rfl, rfl, h1, ixN_nat (by rw [h2.length]; exact hm), k _ Exb.upd ⟨_, upd_same, ?_, noLs_set m h3 hn⟩⟩
  exact (IsDs.exb Exb.upd (lst_noTup h1) ds us h3 h2).set m (IsD.exb Exb.upd (lst_noTup h1) d v hn hv)
structure BC (f : Form) (l : List Nat) (s : Stand) (w : List Nat) : Prop where
  form : FormOk f
  st : StOk f 900 s
  dl : 6 ≤ l.length
  wl : w.length ≤ 100
/-- between the turns -/
def BS (K : PySem.W.Frag) (f : Form) (w : List Nat) (n : Nat) (H0 : Hp) (v1 v2 v4 : V) (p : Addr) (σ : L2.St) (H : Hp) : Prop := H0 p = none ∧ Ex H0 H ∧ ∃ vs vm vt o7 o8 o9 w' many s', σ = [some v1, some v2, some vs, some v4, some (.ref p), some vm, some vt, o7, o8, o9] ∧ OL K H p (List.map eN w') ∧ w'.length = w.length ∧ IsD K H (eN many) vm ∧ IsD K H (eN n) vt ∧ IsD K H (eStand s') vs ∧ StOk f 900 s'
theorem at_d {l : List Nat} {i : Nat} (h : 6 ≤ l.length) (hi : i < 6) : l[i]? = some (l.getD i 0) := by
  rw [List.getD_eq_getElem?_getD, List.getElem?_eq_getElem (by omega)]
  rfl
theorem stOk_set {f : Form} {n m x : Nat} {s : Stand} (h : StOk f n s) (hx : x ≤ 2) : StOk f n ⟨s.states.set m x, s.loads⟩ := by
  refine ⟨⟨by rw [List.length_set]; exact h.fit.1, h.fit.2⟩, fun y hy => ?_, h.ld⟩
  rcases List.mem_or_eq_of_mem_set hy with hy | hy
  · exact h.st y hy
  · rw [hy]
    exact hx
abbrev BentR (f : Form) (w : List Nat) (r : PyData) : Prop := ∃ s' w' many', r = .tuple [eStand s', eWay w' many'] ∧ StOk f 900 s' ∧ w'.length = w.length
theorem bent_ret {f : Form} {w : List Nat} {n : Nat} {v1 v2 v4 : V} (b : BS K f w n H0 v1 v2 v4 p σ H) (q : ∀ d v H', Ex H0 H' → IsD K H' d v → BentR f w d → Q v H') :
    tRet (tTup (tCons (tVar 2) (tCons (tTup (tCons (tCB (rTupU K) (tCons (tVar 4) (tNil))) (tCons (tVar 5) (tNil)))) (tNil)))) (EndsOf Q) σ H := by
  obtain ⟨np, x, vs, vm, vt, o7, o8, o9, w', many, s', rfl, hp, hl, hm, ht, hs, hso⟩ := b
  exact s_ret (yd_tup (ya_cons (yd_var rfl hs) (ya_cons (yd_tup (ya_cons (yd_tupL (yd_var rfl hp.isD)) (ya_cons (yd_var rfl hm) ya_nil)) (by simp)) ya_nil)) (by simp)) fun v H1 x1 hi => q _ v H1 (x.trans x1) hi ⟨s', w', many, rfl, hso, hl⟩
theorem bent_state {f : Form} {w l : List Nat} {n : Nat} {v1 v2 v4 : V} (ok : FormOk f) (hl6 : 6 ≤ l.length) (h1 : IsD K H0 (eForm f) v1) (h2 : IsD K H0 (eNs l) v2) (b : BS K f w n H0 v1 v2 v4 p σ H) (q : ∀ d v H', Ex H0 H' → IsD K H' d v → BentR f w d → Q v H') :
    tSeq (tIfS (tTest (tOp (rEqU K) (tOp (rModI) (tOp (rIx K) (tVar 1) (tC (.int 3))) (tC (.int 5))) (tC (.int 0)))) (tSeq (tAsg (tOp (rModI) (tOp (rIx K) (tVar 1) (tC (.int 4))) (tCB (rLenU K) (tCons (tOp (rIx K) (tVar 0) (tC (.int 0))) (tNil)))) (gName 9)) (tAsg (tTup (tCons (tOp (rPlus K) (tOp (rPlus K) (tSl (rSlU K) (tOp (rIx K) (tVar 2) (tC (.int 0))) (tNoPart) (tPart (tVar 9))) (tTup (tCons (tOp (rModI) (tOp (rIx K) (tVar 1) (tC (.int 5))) (tC (.int 3))) (tNil)))) (tSl (rSlU K) (tOp (rIx K) (tVar 2) (tC (.int 0))) (tPart (tOp (rPlus K) (tVar 9) (tC (.int 1)))) (tNoPart))) (tCons (tOp (rIx K) (tVar 2) (tC (.int 1))) (tNil)))) (gName 2))) (tNext)) (tRet (tTup (tCons (tVar 2) (tCons (tTup (tCons (tCB (rTupU K) (tCons (tVar 4) (tNil))) (tCons (tVar 5) (tNil)))) (tNil))))) (EndsOf Q) σ H := by
  obtain ⟨np, x, vs, vm, vt, o7, o8, o9, w', many, s', rfl, hp, hl, hm, ht, hs, hso⟩ := b
  have h2' := IsD.ex x _ _ h2
  have n4 := ok.few
  have n1 := ok.pos
  refine q_when (yt_test (neq (nmod (ixLM (g := eN) (yd_var rfl h2') (nlit 3) (at_d hl6 (by decide))) (nlit 5) (by decide)) (nlit 0))) (fun hb H3 x3 => ?_) fun hb H3 x3 => ?_
  · have h2'' := IsD.ex x3 _ _ h2'
    refine q_set (nmod (ixLM (g := eN) (yd_var rfl h2'') (nlit 4) (at_d hl6 (by decide))) (ylenTM (ix0 (yd_var rfl (IsD.ex (x.trans x3) _ _ h1)))) (by omega)) fun um H4 x4 hum => ?_
    have hs' := IsD.ex (x3.trans x4) _ _ hs
    have hmod : l.getD 4 0 % f.rules.length < f.rules.length := Nat.mod_lt _ (by omega)
    refine s_set (yd_tup (ya_cons (yd_repl (x := eN (l.getD 5 0 % 3)) (ix0 (yd_var rfl hs')) (yd_var rfl hum) (nmod (ixLM (g := eN) (yd_var rfl (IsD.ex x4 _ _ h2'')) (nlit 5) (at_d hl6 (by decide))) (nlit 3) (by decide)) (by rw [List.length_map, hso.fit.1]; exact hmod) (by rw [List.length_map, hso.fit.1]; omega)) (ya_cons (ix1 (yd_var rfl hs')) ya_nil)) (by simp)) fun v H5 x5 hi => ?_
    have x35 := (x3.trans x4).trans x5
    refine bent_ret (f := f) (w := w) (n := n) (v1 := v1) (v2 := v2) (v4 := v4) (p := p) (H0 := H0) ⟨np, x.trans x35, v, vm, vt, _, _, _, w', many, ⟨s'.states.set (l.getD 4 0 % f.rules.length) (l.getD 5 0 % 3), s'.loads⟩, rfl, hp.ex x35, hl, IsD.ex x35 _ _ hm, IsD.ex x35 _ _ ht, ?_, stOk_set hso (by omega)⟩ q
    show IsD K H5 (.tuple [.tuple ((s'.states.set _ _).map eN), _]) v
    rw [List.map_set]
    exact hi
  · exact bent_ret (f := f) (w := w) (n := n) ⟨np, x.trans x3, vs, vm, vt, _, _, _, w', many, s', rfl, hp.ex x3, hl, IsD.ex x3 _ _ hm, IsD.ex x3 _ _ ht, IsD.ex x3 _ _ hs, hso⟩ q
abbrev sp_bent_L (K : PySem.W.Frag) : Sp := SpT K (α := Form × List Nat × Stand × List Nat × Nat) (fun x => BC x.1 x.2.1 x.2.2.1 x.2.2.2.1) (fun x => [eForm x.1, eNs x.2.1, eStand x.2.2.1, eWay x.2.2.2.1 x.2.2.2.2]) (fun x r => BentR x.1 x.2.2.2.1 r)
theorem rd_bent_L {x : Form × List Nat × Stand × List Nat × Nat} (hc : BC x.1 x.2.1 x.2.2.1 x.2.2.2.1) (h : IsDs K H [eForm x.1, eNs x.2.1, eStand x.2.2.1, eWay x.2.2.2.1 x.2.2.2.2] vs) (q : ∀ d v H', Ex H H' → IsD K H' d v → BentR x.1 x.2.2.2.1 d → Q v H') :
    t_bent_L K (EndsOf Q) (L2.start N_bent_L vs) H := by
  obtain ⟨f, l, s, w, many⟩ := x
  dsimp only at hc h q
  obtain ⟨v1, _, rfl, h1, v2, _, rfl, h2, v3, _, rfl, h3, v4, _, rfl, h4, rfl⟩ := h
  obtain ⟨ok, hso, hl6, hwl⟩ := hc
  refine q_setN (yn_listT (ds := w.map eN) (ix0 (yd_var rfl h4))) (noLs_map (fun _ => rfl) _) fun p H1 np x1 hp => ?_
  refine q_set (ix1 (yd_var rfl (IsD.ex x1 _ _ h4))) fun vm H2 x2 hvm => ?_
  have x12 := x1.trans x2
  refine q_set (nmod (ixLM (g := eN) (yd_var rfl (IsD.ex x12 _ _ h2)) (nlit 0) (at_d hl6 (by decide))) (nlit 6) (by decide)) fun vt H3 x3 hvt => ?_
  have x13 := x12.trans x3
  generalize l.getD 0 0 % 6 = turn at hvt
  have b0 : BS K f w turn H v1 v2 v4 p [some v1, some v2, some v3, some v4, some (.ref p), some vm, some vt, none, none, none] H3 := ⟨np, x13, v3, vm, vt, _, _, _, w, many, s, rfl, (hp.ex x2).ex x3, rfl, IsD.ex x3 _ _ hvm, hvt, IsD.ex x13 _ _ h3, hso⟩
  -- many
  have c3 : ∀ σ H', BS K f w turn H v1 v2 v4 p σ H' → tSeq (tIfS (tTest (tOp rGtI (tVar 6) (tC (.int 3)))) (tAsg (tOp (rModI) (tOp (rIx K) (tVar 1) (tC (.int 1))) (tOp (rPlus K) (tCB (rLenU K) (tCons (tVar 4) (tNil))) (tC (.int 2)))) (gName 5)) (tNext)) (tSeq (tIfS (tTest (tOp (rEqU K) (tOp (rModI) (tOp (rIx K) (tVar 1) (tC (.int 3))) (tC (.int 5))) (tC (.int 0)))) (tSeq (tAsg (tOp (rModI) (tOp (rIx K) (tVar 1) (tC (.int 4))) (tCB (rLenU K) (tCons (tOp (rIx K) (tVar 0) (tC (.int 0))) (tNil)))) (gName 9)) (tAsg (tTup (tCons (tOp (rPlus K) (tOp (rPlus K) (tSl (rSlU K) (tOp (rIx K) (tVar 2) (tC (.int 0))) (tNoPart) (tPart (tVar 9))) (tTup (tCons (tOp (rModI) (tOp (rIx K) (tVar 1) (tC (.int 5))) (tC (.int 3))) (tNil)))) (tSl (rSlU K) (tOp (rIx K) (tVar 2) (tC (.int 0))) (tPart (tOp (rPlus K) (tVar 9) (tC (.int 1)))) (tNoPart))) (tCons (tOp (rIx K) (tVar 2) (tC (.int 1))) (tNil)))) (gName 2))) (tNext)) (tRet (tTup (tCons (tVar 2) (tCons (tTup (tCons (tCB (rTupU K) (tCons (tVar 4) (tNil))) (tCons (tVar 5) (tNil)))) (tNil)))))) (EndsOf Q) σ H' := fun σ H' b => by
    obtain ⟨np, x, vs, vm, vt, o7, o8, o9, w', many, s', rfl, hp, hl, hm, ht, hs, hso⟩ := b
    refine q_when (yt_test (ngt (yd_var rfl ht) (nlit 3))) (fun hb H4 x4 => ?_) fun hb H4 x4 => ?_
    · refine s_set (nmod (ixLM (g := eN) (yd_var rfl (IsD.ex (x.trans x4) _ _ h2)) (nlit 1) (at_d hl6 (by decide))) (nadd (ylenLM (yd_var rfl (hp.ex x4).isD)) (nlit 2)) (by omega)) fun v H5 x5 hi => ?_
      have x45 := x4.trans x5
      exact bent_state ok hl6 h1 h2 ⟨np, x.trans x45, vs, v, vt, _, _, _, w', _, s', rfl, hp.ex x45, hl, hi, IsD.ex x45 _ _ ht, IsD.ex x45 _ _ hs, hso⟩ q
    · exact bent_state ok hl6 h1 h2 ⟨np, x.trans x4, vs, vm, vt, _, _, _, w', many, s', rfl, hp.ex x4, hl, IsD.ex x4 _ _ hm, IsD.ex x4 _ _ ht, IsD.ex x4 _ _ hs, hso⟩ q
  -- one number
  have c2 : ∀ σ H', BS K f w turn H v1 v2 v4 p σ H' → tSeq (tIfS (tAnd (tTest (tOp rGtI (tCB (rLenU K) (tCons (tVar 4) (tNil))) (tC (.int 0)))) (tTest (tOp (rEqU K) (tVar 6) (tC (.int 3))))) (tAsg (tOp (rModI) (tOp (rIx K) (tVar 1) (tC (.int 2))) (tOp (rPlus K) (tCB (rLenU K) (tCons (tVar 4) (tNil))) (tC (.int 1)))) (gSub (tVar 4) (tOp (rModI) (tOp (rIx K) (tVar 1) (tC (.int 1))) (tCB (rLenU K) (tCons (tVar 4) (tNil)))) rSetL)) (tNext)) (tSeq (tIfS (tTest (tOp rGtI (tVar 6) (tC (.int 3)))) (tAsg (tOp (rModI) (tOp (rIx K) (tVar 1) (tC (.int 1))) (tOp (rPlus K) (tCB (rLenU K) (tCons (tVar 4) (tNil))) (tC (.int 2)))) (gName 5)) (tNext)) (tSeq (tIfS (tTest (tOp (rEqU K) (tOp (rModI) (tOp (rIx K) (tVar 1) (tC (.int 3))) (tC (.int 5))) (tC (.int 0)))) (tSeq (tAsg (tOp (rModI) (tOp (rIx K) (tVar 1) (tC (.int 4))) (tCB (rLenU K) (tCons (tOp (rIx K) (tVar 0) (tC (.int 0))) (tNil)))) (gName 9)) (tAsg (tTup (tCons (tOp (rPlus K) (tOp (rPlus K) (tSl (rSlU K) (tOp (rIx K) (tVar 2) (tC (.int 0))) (tNoPart) (tPart (tVar 9))) (tTup (tCons (tOp (rModI) (tOp (rIx K) (tVar 1) (tC (.int 5))) (tC (.int 3))) (tNil)))) (tSl (rSlU K) (tOp (rIx K) (tVar 2) (tC (.int 0))) (tPart (tOp (rPlus K) (tVar 9) (tC (.int 1)))) (tNoPart))) (tCons (tOp (rIx K) (tVar 2) (tC (.int 1))) (tNil)))) (gName 2))) (tNext)) (tRet (tTup (tCons (tVar 2) (tCons (tTup (tCons (tCB (rTupU K) (tCons (tVar 4) (tNil))) (tCons (tVar 5) (tNil)))) (tNil))))))) (EndsOf Q) σ H' := fun σ H' b => by
    obtain ⟨np, x, vs, vm, vt, o7, o8, o9, w', many, s', rfl, hp, hl, hm, ht, hs, hso⟩ := b
    refine q_when (et_and (yt_test (ngt (ylenLM (yd_var rfl hp.isD)) (nlit 0))) fun _ => yt_test (neq (yd_var rfl ht) (nlit 3))) (fun hb H4 x4 => ?_) fun hb H4 x4 => ?_
    · have hpos : 0 < w'.length := of_decide_eq_true (Bool.and_eq_true_iff.mp hb).1
      have h2' := IsD.ex (x.trans x4) _ _ h2
      refine s_setL (p := p) (ds := w'.map eN) (d := eN (l.getD 2 0 % (w'.length + 1))) (m := l.getD 1 0 % w'.length) rfl (hp.ex x4) (nmod (ixLM (g := eN) (yd_var rfl h2') (nlit 2) (at_d hl6 (by decide))) (nadd (ylenLM (yd_var rfl (hp.ex x4).isD)) (nlit 1)) (by omega)) (nmod (ixLM (g := eN) (yd_var rfl h2') (nlit 1) (at_d hl6 (by decide))) (ylenLM (yd_var rfl (hp.ex x4).isD)) hpos) (by rw [List.length_map]; exact Nat.mod_lt _ hpos) rfl fun H5 xb k5 => ?_
      have pt := (hp.ex x4).noTup
      refine c3 _ _ ⟨np, Ex.exb (x.trans x4) xb np, vs, vm, vt, _, _, _, w'.set (l.getD 1 0 % w'.length) (l.getD 2 0 % (w'.length + 1)), many, s', rfl, ?_, by rw [List.length_set]; exact hl, hm, ht, IsD.exb xb pt _ _ (noL_stand _) (IsD.ex x4 _ _ hs), hso⟩
      rw [List.map_set]
      exact k5
    · exact c3 _ _ ⟨np, x.trans x4, vs, vm, vt, _, _, _, w', many, s', rfl, hp.ex x4, hl, IsD.ex x4 _ _ hm, IsD.ex x4 _ _ ht, IsD.ex x4 _ _ hs, hso⟩
  -- two numbers
  obtain ⟨np, x, vs, vm, vt, o7, o8, o9, w', many, s', e, hp, hl, hm, ht, hs, hso⟩ := b0
  cases e
  refine q_when (et_and (yt_test (ngt (ylenLM (yd_var rfl hp.isD)) (nlit 1))) fun _ => yt_test (nlt (yd_var rfl ht) (nlit 3))) (fun hb H4 x4 => ?_) fun hb H4 x4 => ?_
  · have hpos : 1 < w'.length := of_decide_eq_true (Bool.and_eq_true_iff.mp hb).1
    refine q_set (nmod (ixLM (g := eN) (yd_var rfl (IsD.ex (x.trans x4) _ _ h2)) (nlit 1) (at_d hl6 (by decide))) (ylenLM (yd_var rfl (hp.ex x4).isD)) (by omega)) fun va H5 x5 hva => ?_
    have hp5 := (hp.ex x4).ex x5
    refine q_set (nmod (ixLM (g := eN) (yd_var rfl (IsD.ex ((x.trans x4).trans x5) _ _ h2)) (nlit 2) (at_d hl6 (by decide))) (ylenLM (yd_var rfl hp5.isD)) (by omega)) fun vo H6 x6 hvo => ?_
    have hp6 := hp5.ex x6
    have ma : l.getD 1 0 % w'.length < w'.length := Nat.mod_lt _ (by omega)
    have mo : l.getD 2 0 % w'.length < w'.length := Nat.mod_lt _ (by omega)
    generalize l.getD 1 0 % w'.length = ia at hva ma
    generalize l.getD 2 0 % w'.length = io at hvo mo
    have eva : va = .int (ia : Int) := hva
    have evo : vo = .int (io : Int) := hvo
    subst eva evo
    have y1 := ixLM (K := K) (g := eN) (H := H6) (yd_var (σ := [some v1, some v2, some v3, some v4, some (.ref p), some vm, some vt, some (.int (ia : Int)), some (.int (io : Int)), none]) (i := 4) rfl hp6.isD) (yd_var (i := 8) rfl (show IsD K H6 (eN io) (.int (io : Int)) from rfl)) (List.getElem?_eq_getElem mo)
    have y2 := ixLM (K := K) (g := eN) (H := H6) (yd_var (σ := [some v1, some v2, some v3, some v4, some (.ref p), some vm, some vt, some (.int (ia : Int)), some (.int (io : Int)), none]) (i := 4) rfl hp6.isD) (yd_var (i := 7) rfl (show IsD K H6 (eN ia) (.int (ia : Int)) from rfl)) (List.getElem?_eq_getElem ma)
    refine yd_tup (ya_cons y1 (ya_cons y2 ya_nil)) (by simp) H6 (Ex.refl _) _ fun v H7 x7 hv => ?_
    obtain ⟨a, us, rfl, ha, z1, _, rfl, hz1, z2, _, rfl, hz2, rfl⟩ := hv
    refine ⟨a, _, rfl, st_of ha, rfl, z1, _, rfl, ?_⟩
    refine g_setL (p := p) (ds := w'.map eN) (m := ia) (d := eN w'[io]) rfl rfl (hp6.ex x7) hz1 rfl (by rw [List.length_map]; exact ma) fun H8 xb k8 => ?_
    refine ⟨z2, _, rfl, ?_⟩
    refine g_setL (p := p) (ds := (w'.map eN).set ia (eN w'[io])) (m := io) (d := eN w'[ia]) rfl rfl k8 hz2 rfl (by rw [List.length_set, List.length_map]; exact mo) fun H9 xb2 k9 => ?_
    refine ⟨rfl, ?_⟩
    have x47 := ((x4.trans x5).trans x6).trans x7
    have pt := (hp6.ex x7).noTup
    refine c2 _ _ ⟨np, Ex.exb (Ex.exb (x.trans x47) xb np) xb2 np, v3, vm, vt, _, _, _, (w'.set ia w'[io]).set io w'[ia], many, s', rfl, ?_, by rw [List.length_set, List.length_set]; exact hl, hm, ht, IsD.exb xb2 k8.noTup _ _ (noL_stand _) (IsD.exb xb pt _ _ (noL_stand _) (IsD.ex x47 _ _ hs)), hso⟩
    rw [List.map_set, List.map_set]
    exact k9
  · exact c2 _ _ ⟨np, x.trans x4, v3, vm, vt, _, _, _, w', many, s', rfl, hp.ex x4, hl, IsD.ex x4 _ _ hm, IsD.ex x4 _ _ ht, IsD.ex x4 _ _ hs, hso⟩
end
end Ct

/-! # CtL6 -/
namespace Ct
open PySem PySem.Spec PyProof.Rows L2 Evl
open Run (dsOf RightL)
open Classical in
noncomputable def accB (f : Form) (base : Stand) (log : List Ev) (told : Stand) (w : List Nat) (many : Nat) : Bool := decide (Accept f base (dsOf log) w many told)
theorem accB_iff {f : Form} {base : Stand} {log : List Ev} {told : Stand} {w : List Nat} {many : Nat} : accB f base log told w many = true ↔ Accept f base (dsOf log) w many told := by
  unfold accB
  exact @decide_eq_true_iff _ (Classical.propDecidable _)
theorem bool_iff {a b : Bool} {P : Prop} (h1 : a = true ↔ P) (h2 : b = true ↔ P) : a = b := by
  rw [Bool.eq_iff_iff, h1, h2]
section
variable {H H' H0 : Hp} {p q : Addr} {K : PySem.W.Frag} {σ : L2.St} {vs : List V} {Q : VK} {D : Ends} {tz : TS} {te tv ty ti tl : TE} {tas : TA} {ds : List PyData}
theorem deeds_len (ds : List Deed) (w : List Nat) : (deedsAt ds w).length ≤ w.length := List.length_filterMap_le _ _
theorem deeds_mem {ds : List Deed} {w : List Nat} {d : Deed} (h : d ∈ deedsAt ds w) : d ∈ ds := by
  obtain ⟨j, _, hj⟩ := List.mem_filterMap.mp h
  exact List.mem_of_getElem? hj
theorem yn_deeds {j : Nat} {w : List Nat} {ds : List Deed} {v2 : V} (hl : YD K tl σ H (.tuple (w.map eN))) (hz : w.length ≤ 1000) (hw : ∀ j ∈ w, j < ds.length) (hwp : ∀ x, wipe ((wipe σ [j]).set j (some x)) [j] = wipe σ [j]) (hj : ∀ v, ((wipe σ [j]).set j (some v))[j]? = some (some v)) (h2 : ∀ v, ((wipe σ [j]).set j (some v))[2]? = some (some v2)) (hd : IsD K H (eDeeds ds) v2) :
    YN K (tLc (iTup K tl) (gName j) tYes (tOp (rIx K) (tVar 2) (tVar j)) [j]) σ H ((deedsAt ds w).map eDeed) := by
  refine (yn_lcT (ds := w.map eN) (fun _ => true) (fun i => eDeed (ds.getD (w.getD i 0) (.own 0))) hl (by rw [List.length_map]; omega) hwp (fun _ _ _ _ _ _ _ => et_yes) (fun i d v H1 x1 hi hv _ => ?_) fun _ _ _ => noL_deed _).to ?_
  · obtain ⟨k, hk, rfl⟩ := map_get hi
    rw [getD_of hk]
    have hkl := hw k (List.mem_of_getElem? hk)
    have e : ds[k]? = some (ds.getD k (.own 0)) := by
      rw [List.getD_eq_getElem?_getD, List.getElem?_eq_getElem hkl]
      rfl
    exact ixLM (g := eDeed) (yd_var (h2 v) (IsD.ex x1 _ _ hd)) (yd_var (hj v) hv) e
  · rw [deedsAt_getD hw, List.length_map, List.map_map]
    have z := compD_map w (fun _ => true) (fun j => eDeed (ds.getD j (.own 0))) 0
    rw [List.filter_eq_self.mpr fun _ _ => rfl] at z
    exact z
theorem yd_walk0 {f : Form} {base s : Stand} {ds : List Deed} (hc : WalkC f base ds) (hw : walk f base ds = some s) (h : YA K tas σ H [eForm f, eStand base, eDeeds ds]) : YD K (tOp (rIx K) (tCall (sp_walk_L K) [] E0 tas) (tC (.int 0))) σ H (eStand s) := fun H1 x1 Q q =>
  ycR (C := fun x : Form × Stand × List Deed => WalkC x.1 x.2.1 x.2.2) (A := fun x => [eForm x.1, eStand x.2.1, eDeeds x.2.2]) (R := fun x r => WalkR x.1 x.2.1 x.2.2 r) (f, base, ds) hc h H1 x1 _ fun d v H2 x2 hd hr => by
    have hr : WalkR f base ds d := hr
    rcases hr with ⟨hn, _⟩ | ⟨s', ts, hs, rfl⟩
    · rw [hn] at hw
      cases hw
    · rw [hs] at hw
      cases hw
      obtain ⟨a, us, rfl, ha, hi⟩ := hd
      obtain ⟨w, k1, k2⟩ := hi.get (i := 0) rfl
      exact .inr (.inl ⟨a, us, 0, w, rfl, rfl, st_of ha, by unfold atI; rw [hi.length]; exact k1, q w H2 x2 k2⟩)
theorem q_setRe {i : Nat} {R : PyData → Prop} (h : YR K te σ H R) (k : ∀ d v H1, Ex H H1 → IsD K H1 d v → R d → tz D (σ.set i (some v)) H1) : tSeq (tAsg te (gName i)) tz D σ H := q_setR h k
theorem walk_stOk {f : Form} (ok : FormOk f) : ∀ {ds : List Deed} {n : Nat} {s s' : Stand}, StOk f n s → walk f s ds = some s' → StOk f (n + 2 * ds.length) s'
  | [], n, s, s', h, hw => by
    cases hw
    exact h
  | d :: ds, n, s, s', h, hw => by
    obtain ⟨a, ha, hw⟩ := Option.bind_eq_some_iff.mp (show (answered f s d).bind (fun a => walk f (applyA f s d a) ds) = some s' from hw)
    have := walk_stOk ok (stOk_apply ok h ha) hw
    rw [List.length_cons, show n + 2 * (ds.length + 1) = n + 2 + 2 * ds.length by omega]
    exact this
theorem nums_getD {evs : List (Nat × Nat)} {m : Nat} : ∀ {w : List Nat}, (∀ j ∈ w, j < evs.length) → nums evs m w = (w.filter fun j => decide ((evs.getD j (0, 0)).1 = m)).map fun j => (evs.getD j (0, 0)).2
  | [], _ => rfl
  | j :: w, h => by
    have ih := nums_getD (m := m) fun k hk => h k (List.mem_cons_of_mem j hk)
    have hj := h j (List.mem_cons_self ..)
    have e : evs[j]? = some (evs.getD j (0, 0)) := by
      rw [List.getD_eq_getElem?_getD, List.getElem?_eq_getElem hj]
      rfl
    rw [List.filter_cons]
    by_cases hm : (evs.getD j (0, 0)).1 = m
    · rw [if_pos (by simpa using hm), List.map_cons, ← ih]
      refine nums_cons_same ?_
      rw [e, ← hm]
    · rw [if_neg (by simpa using hm), ← ih]
      exact nums_cons_ne (e.trans rfl) (Ne.symm hm)
theorem nums_none {evs : List (Nat × Nat)} {m : Nat} (h : ∀ e ∈ evs, e.1 ≠ m) (w : List Nat) : nums evs m w = [] := by
  unfold nums
  rw [List.filterMap_eq_nil_iff]
  intro j _
  cases e : evs[j]? with
  | none => rfl
  | some e' => exact if_neg (h e' (List.mem_of_getElem? e))
theorem evs_dsOf {f : Form} {log : List Ev} : (eventsOf f (dsOf log)).length = log.length := by
  rw [events_length]
  exact List.length_map _
/-- what an accepted way's prefix is -/
theorem acc_cut {f : Form} {base : Stand} {log : List Ev} (g : Good f base log) {w : List Nat} {many : Nat} {s : Stand} (ho : OrdIdx (eventsOf f (dsOf log)) (fun _ => 0) w) (h : walk f base (deedsAt (dsOf log) (w.take many)) = some s) :
    rightB f base log (cntOf f (deedsAt (dsOf log) (w.take many))) = true ∧ walk f base (deedsAt (dsOf log) (insideTo (eventsOf f (dsOf log)) (cntOf f (deedsAt (dsOf log) (w.take many))) log.length)) = some s := by
  have R := g.toRun
  have e : cntOf f (deedsAt (dsOf log) (w.take many)) = posOf f (evsAt log (w.take many)) := by
    funext m
    rw [posOf_cnt, deedsAt_map]
  obtain ⟨h1, h2⟩ := R.prefix_ok (k := many) ho h
  have hle := R.count_le (ordIdx_take many ho)
  rw [e]
  refine ⟨(g.bad _).mpr ((R.right_iff hle).mpr h2), ?_⟩
  rw [h1]
  exact R.walk_inside h2 hle
abbrev sp_could_be_L (K : PySem.W.Frag) : Sp := SpT K (α := Form × Stand × List Ev × Stand × List Nat × Nat) (fun x => AskC x.1 x.2.1 x.2.2.1 x.2.2.2.1 x.2.2.2.2.1) (fun x => [eForm x.1, eStand x.2.1, eDeeds (dsOf x.2.2.1), eStand x.2.2.2.1, eWay x.2.2.2.2.1 x.2.2.2.2.2])
  (fun x r => r = .bool (accB x.1 x.2.1 x.2.2.1 x.2.2.2.1 x.2.2.2.2.1 x.2.2.2.2.2))
theorem rd_could_be_L {x : Form × Stand × List Ev × Stand × List Nat × Nat} (hc : AskC x.1 x.2.1 x.2.2.1 x.2.2.2.1 x.2.2.2.2.1) (h : IsDs K H [eForm x.1, eStand x.2.1, eDeeds (dsOf x.2.2.1), eStand x.2.2.2.1, eWay x.2.2.2.2.1 x.2.2.2.2.2] vs)
    (q : ∀ d v H', Ex H H' → IsD K H' d v → d = .bool (accB x.1 x.2.1 x.2.2.1 x.2.2.2.1 x.2.2.2.2.1 x.2.2.2.2.2) → Q v H') :
    t_could_be_L K (sp_events_L K) (sp_walk_L K) (sp_ends_L K) (sp_right_L K) (sp_trips_L K) (sp_in_cut_L K) (EndsOf Q) (L2.start N_could_be_L vs) H := by
  obtain ⟨f, base, log, told, w, many⟩ := x
  dsimp only at hc h q
  obtain ⟨v1, _, rfl, h1, v2, _, rfl, h2, v3, _, rfl, h3, v4, _, rfl, h4, v5, _, rfl, h5, rfl⟩ := h
  obtain ⟨gd, ht, hl⟩ := hc
  have hfew := gd.few
  have hds := dsOk_log gd
  have hdl : (dsOf log).length = log.length := List.length_map _
  have n4 := gd.form.few
  have evl := evs_dsOf (f := f) (log := log)
  have qF : ¬ Accept f base (dsOf log) w many told → ∀ v H', Ex H H' → IsD K H' (.bool false) v → Q v H' := fun hn v H' x hv => q _ v H' x hv (by
    congr 1
    cases e : accB f base log told w many with
    | false => rfl
    | true => exact absurd (accB_iff.mp e) hn)
  refine q_when (b := !decide (srt w = List.range log.length) || !decide (many ≤ log.length)) (et_or (yt_test (yneNs (yn_srtT (ix0 (yd_var rfl h5))).yd (yn_rg1 ((ylenLM (yd_var rfl h3)).to (by rw [hdl])) (by omega)).yd)) fun _ => et_not (et_is (yt_test (ychain (p := true) (q := decide (many ≤ log.length)) (d1 := eN 0) (d2 := eN many) (d3 := eN log.length) (nlit 0) (ix1 (yd_var rfl h5)) ((ylenLM (yd_var rfl h3)).to (by rw [hdl])) (rd_I0 (f := .bool true) fun _ => congrArg V.bl (decide_eq_true (by omega))) (rd_I0 (f := .bool (decide (many ≤ log.length))) fun _ => congrArg V.bl (decide_eq_decide.mpr (by omega))))) (Bool.true_and _))) (fun hb H1 x1 => ?_) fun hb H1 x1 => ?_
  · refine s_ret (K := K) yd_bl fun v H2 x2 hi => qF (fun ha => ?_) v H2 (x1.trans x2) hi
    have e1 := perm_range_of ha.1 evl hl (srt_perm w) (srt_up w)
    have e2 := ha.2.1
    rw [e1, decide_eq_true rfl, decide_eq_true (by omega)] at hb
    cases hb
  rw [Bool.or_eq_false_iff, Bool.not_eq_false', Bool.not_eq_false', decide_eq_true_eq, decide_eq_true_eq] at hb
  obtain ⟨hsr, hmany⟩ := hb
  have hperm : w.Perm (List.range log.length) := by
    rw [← hsr]
    exact (srt_perm w).symm
  have hlt : ∀ j ∈ w, j < log.length := fun j hj => List.mem_range.mp (hperm.mem_iff.mp hj)
  refine q_set (ycL (f, dsOf log) hds (ya_cons (yd_var rfl (IsD.ex x1 _ _ h1)) (ya_cons (yd_var rfl (IsD.ex x1 _ _ h3)) ya_nil)) fun _ h => h).yd fun ve H2 x2 hve => ?_
  have hve : IsD K H2 (.list ((eventsOf f (dsOf log)).map eEv)) ve := hve
  have x12 := x1.trans x2
  refine q_forR (n := f.rules.length) (ylenTM (ix0 (yd_var rfl (IsD.ex x12 _ _ h1)))) (by omega) (fun m σ' H' => Ex H2 H' ∧ (∃ o6 o7, σ' = [some v1, some v2, some v3, some v4, some v5, some ve, o6, o7, none, none, none, none, none]) ∧ ∀ m', m' < m → (nums (eventsOf f (dsOf log)) m' w).Pairwise (· ≤ ·))
    (fun H3 x3 => ⟨x3, ⟨_, _, rfl⟩, fun m' z => by omega⟩) (fun m σ' H' hm hi => ?_) fun σ' H' hi => ?_
  · obtain ⟨x3, ⟨o6, o7, rfl⟩, hs⟩ := hi
    have x13 := x12.trans x3
    refine q_set (YN.yd (ds := (nums (eventsOf f (dsOf log)) m w).map eN) ((yn_lcT (ds := w.map eN) (fun i => decide (((eventsOf f (dsOf log)).getD (w.getD i 0) (0, 0)).1 = m)) (fun i => eN ((eventsOf f (dsOf log)).getD (w.getD i 0) (0, 0)).2) (ix0 (yd_var rfl (IsD.ex x13 _ _ h5))) (by rw [List.length_map]; omega) (fun _ => rfl) (fun i d v H4 x4 hi hv => ?_) (fun i d v H4 x4 hi hv _ => ?_) fun _ _ _ => rfl).to ?_)) fun vm H4 x4 hvm => ?_
    · obtain ⟨k, hk, rfl⟩ := map_get hi
      rw [getD_of hk]
      have hkl := hlt k (List.mem_of_getElem? hk)
      exact yt_test (neq (ix0 (ixLM (g := eEv) (yd_var rfl (IsD.ex (x3.trans x4) _ _ hve)) (yd_var rfl hv) (num_at hkl))) (yd_var rfl (show IsD K H4 (eN m) (.int (m : Int)) from rfl)))
    · obtain ⟨k, hk, rfl⟩ := map_get hi
      rw [getD_of hk]
      have hkl := hlt k (List.mem_of_getElem? hk)
      exact ix1 (ixLM (g := eEv) (yd_var rfl (IsD.ex (x3.trans x4) _ _ hve)) (yd_var rfl hv) (num_at hkl))
    · rw [List.length_map, nums_getD fun j hj => by rw [evl]; exact hlt j hj, List.map_map]
      exact compD_map w (fun j => decide (((eventsOf f (dsOf log)).getD j (0, 0)).1 = m)) (fun j => eN ((eventsOf f (dsOf log)).getD j (0, 0)).2) 0
    · refine s_when (yt_test (yneNs (yd_var rfl hvm) (yn_srtL (yd_var rfl hvm)).yd)) (fun hb H5 x5 => ?_) fun hb H5 x5 => ?_
      · refine s_ret (K := K) yd_bl fun v H6 x6 hi => qF (fun ha => ?_) v H6 (((x13.trans x4).trans x5).trans x6) hi
        rw [decide_eq_true (up_eq (nums_sorted ha.1 m) (srt_up _) (srt_perm _).symm)] at hb
        cases hb
      · refine ⟨(x3.trans x4).trans x5, ⟨_, _, rfl⟩, fun m' hm' => ?_⟩
        by_cases e : m' = m
        · subst e
          rw [Bool.not_eq_false', decide_eq_true_eq] at hb
          rw [hb]
          exact srt_up _
        · exact hs m' (by omega)
  obtain ⟨x3, ⟨o6, o7, rfl⟩, hs⟩ := hi
  have ho : OrdIdx (eventsOf f (dsOf log)) (fun _ => 0) w := ordIdx_of_perm (by rw [hdl]; exact hperm) fun m => by
    by_cases hm : m < f.rules.length
    · exact hs m hm
    · rw [nums_none fun e he z => hm (by
        obtain ⟨i, hi⟩ := List.mem_iff_getElem?.mp he
        rw [← z]
        exact ev_lt hds hi)]
      exact .nil
  have x13 := x12.trans x3
  have hlt2 : ∀ j ∈ w.take many, j < (dsOf log).length := fun j hj => by rw [hdl]; exact hlt j (List.mem_of_mem_take hj)
  have hlt3 : ∀ j ∈ w, j < (dsOf log).length := fun j hj => by rw [hdl]; exact hlt j hj
  have wc : ∀ u : List Nat, u.length ≤ w.length → WalkC f base (deedsAt (dsOf log) u) := fun u hu => ⟨gd.form, gd.bs, fun d hd => hds.2.1 d (deeds_mem hd), by have := deeds_len (dsOf log) u; omega⟩
  have htk : (w.take many).length ≤ w.length := by rw [List.length_take]; omega
  refine q_set (YN.yd (yn_deeds (j := 12) (w := w.take many) (ds := dsOf log) (v2 := v3) ((yd_to (ix0 (yd_var rfl (IsD.ex x13 _ _ h5))) (ix1 (yd_var rfl (IsD.ex x13 _ _ h5)))).to (by rw [← List.map_take])) (by omega) hlt2 (fun _ => rfl) (fun _ => rfl) (fun _ => rfl) (IsD.ex x13 _ _ h3))) fun vi H4 x4 hvi => ?_
  have x14 := x13.trans x4
  refine q_setR (ycR (C := fun x : Form × Stand × List Deed => WalkC x.1 x.2.1 x.2.2) (A := fun x => [eForm x.1, eStand x.2.1, eDeeds x.2.2]) (R := fun x r => WalkR x.1 x.2.1 x.2.2 r) (f, base, deedsAt (dsOf log) (w.take many)) (wc _ htk) (ya_cons (yd_var rfl (IsD.ex x14 _ _ h1)) (ya_cons (yd_var rfl (IsD.ex x14 _ _ h2)) (ya_cons (yd_var rfl hvi) ya_nil)))) fun df vf H5 x5 hvf hrf => ?_
  have hrf : WalkR f base (deedsAt (dsOf log) (w.take many)) df := hrf
  have x15 := x14.trans x5
  refine q_setR (ycR (C := fun x : Form × Stand × List Deed => WalkC x.1 x.2.1 x.2.2) (A := fun x => [eForm x.1, eStand x.2.1, eDeeds x.2.2]) (R := fun x r => WalkR x.1 x.2.1 x.2.2 r) (f, base, deedsAt (dsOf log) w) (wc _ (Nat.le_refl _)) (ya_cons (yd_var rfl (IsD.ex x15 _ _ h1)) (ya_cons (yd_var rfl (IsD.ex x15 _ _ h2)) (ya_cons (YN.yd (yn_deeds (j := 12) (w := w) (ds := dsOf log) (v2 := v3) (ix0 (yd_var rfl (IsD.ex x15 _ _ h5))) (by omega) hlt3 (fun _ => rfl) (fun _ => rfl) (fun _ => rfl) (IsD.ex x15 _ _ h3))) ya_nil)))) fun dw vw H6 x6 hvw hrw => ?_
  have hrw : WalkR f base (deedsAt (dsOf log) w) dw := hrw
  have x16 := x15.trans x6
  have hvf6 := IsD.ex x6 _ _ hvf
  rcases hrf with ⟨hn, rfl⟩ | ⟨sf, tf, hsf, rfl⟩
  · refine q_when (b := true) (et_is (et_or (a := true) (b := true) (yt_test (yisN (yd_var rfl hvf6))) fun z => by cases z) rfl) (fun _ H7 x7 => ?_) fun hb => by cases hb
    refine s_ret (K := K) yd_bl fun v H8 x8 hi => qF (fun ha => ?_) v H8 ((x16.trans x7).trans x8) hi
    rw [ha.2.2.2] at hn
    cases hn
  rcases hrw with ⟨hn, rfl⟩ | ⟨sw, tw, hsw, rfl⟩
  · refine q_when (b := true) (et_is (et_or (b := true) (yt_test (yisN (yd_var rfl hvf6))) fun _ => et_or (a := true) (b := true) (yt_test (yisN (yd_var rfl hvw))) fun z => by cases z) rfl) (fun _ H7 x7 => ?_) fun hb => by cases hb
    refine s_ret (K := K) yd_bl fun v H8 x8 hi => qF (fun ha => ?_) v H8 ((x16.trans x7).trans x8) hi
    obtain ⟨s, hs⟩ := ha.2.2.1
    rw [hs] at hn
    cases hn
  refine q_when (b := !decide (sf = told)) (et_is (et_or (yt_test (yisN (yd_var rfl hvf6))) fun _ => et_or (yt_test (yisN (yd_var rfl hvw))) fun _ => yt_test ((yneD (ix0 (yd_var rfl hvf6)) (yd_var rfl (IsD.ex x16 _ _ h4)) (cmp_stand (n := 55) _) (cmp_stand (n := 55) _)).to (congrArg (fun b => PyData.bool (!b)) (eqv_stand sf told)))) rfl) (fun hb H7 x7 => ?_) fun hb H7 x7 => ?_
  · refine s_ret (K := K) yd_bl fun v H8 x8 hi => qF (fun ha => ?_) v H8 ((x16.trans x7).trans x8) hi
    rw [Option.some.inj (hsf.symm.trans ha.2.2.2), decide_eq_true rfl] at hb
    cases hb
  rw [Bool.not_eq_false', decide_eq_true_eq] at hb
  subst hb
  have hacc : Accept f base (dsOf log) w many sf := ⟨ho, by omega, ⟨sw, hsw⟩, hsf⟩
  obtain ⟨hR, hin⟩ := acc_cut gd ho hsf
  have x17 := x16.trans x7
  have dok : DsOk f (deedsAt (dsOf log) (w.take many)) := ⟨gd.form, fun d hd => hds.2.1 d (deeds_mem hd), by have := deeds_len (dsOf log) (w.take many); omega⟩
  refine q_set (yc (f, deedsAt (dsOf log) (w.take many)) dok (ya_cons (yd_var rfl (IsD.ex x17 _ _ h1)) (ya_cons (yd_var rfl (IsD.ex ((x5.trans x6).trans x7) _ _ hvi)) ya_nil)) fun _ h => h) fun vc H8 x8 hvc => ?_
  have hvc : IsD K H8 (eCut (cntOf f (deedsAt (dsOf log) (w.take many))) f.rules.length) vc := hvc
  have x18 := x17.trans x8
  have y3 : ∀ {σ H9}, Ex H8 H9 → σ[0]? = some (some v1) → σ[1]? = some (some v2) → σ[2]? = some (some v3) → YA K (tCons (tVar 0) (tCons (tVar 1) (tCons (tVar 2) tNil))) σ H9 [eForm f, eStand base, eDeeds (dsOf log)] := fun {σ H9} x a b c => ya_cons (yd_var a (IsD.ex (x18.trans x) _ _ h1)) (ya_cons (yd_var b (IsD.ex (x18.trans x) _ _ h2)) (ya_cons (yd_var c (IsD.ex (x18.trans x) _ _ h3)) ya_nil))
  refine q_when (b := false) (et_is (et_not (yt_B (yd_right gd (y3 (Ex.refl _) rfl rfl rfl) (yd_var rfl hvc)))) (by rw [hR]; rfl)) (fun hb => by cases hb) fun _ H9 x9 => ?_
  have wd : WalkC f base (dsOf log) := ⟨gd.form, gd.bs, hds.2.1, by omega⟩
  have hww := gd.toRun.whole_ok ho hperm hsw
  have hww : walk f base (dsOf log) = some sw := hww
  refine q_when (b := false) (et_is (yt_test ((yneD (ix0 (yd_var rfl (IsD.ex ((x7.trans x8).trans x9) _ _ hvw))) (yd_walk0 wd hww (y3 x9 rfl rfl rfl)) (cmp_stand (n := 55) _) (cmp_stand (n := 55) _)).to (congrArg (fun b => PyData.bool (!b)) (eqv_stand sw sw)))) (by rw [decide_eq_true rfl]; rfl)) (fun hb => by cases hb) fun _ H10 x10 => ?_
  have x1a := (x18.trans x9).trans x10
  have wi : WalkC f base (deedsAt (dsOf log) (insideTo (eventsOf f (dsOf log)) (cntOf f (deedsAt (dsOf log) (w.take many))) log.length)) := ⟨gd.form, gd.bs, fun d hd => hds.2.1 d (deeds_mem hd), by
    have z1 := deeds_len (dsOf log) (insideTo (eventsOf f (dsOf log)) (cntOf f (deedsAt (dsOf log) (w.take many))) log.length)
    have z2 := List.length_filter_le (inCut (eventsOf f (dsOf log)) (cntOf f (deedsAt (dsOf log) (w.take many)))) (List.range log.length)
    rw [List.length_range] at z2
    exact Nat.le_trans (Nat.le_trans z1 z2) hfew⟩
  refine s_ret ((yeqD (yd_walk0 wi hin (ya_cons (yd_var rfl (IsD.ex x1a _ _ h1)) (ya_cons (yd_var rfl (IsD.ex x1a _ _ h2)) (ya_cons (YN.yd (ycL (es := (deedsAt (dsOf log) (insideTo (eventsOf f (dsOf log)) (cntOf f (deedsAt (dsOf log) (w.take many))) log.length)).map eDeed) (f, dsOf log, cntOf f (deedsAt (dsOf log) (w.take many))) hds (ya_cons (yd_var rfl (IsD.ex x1a _ _ h1)) (ya_cons (yd_var rfl (IsD.ex x1a _ _ h3)) (ya_cons (yd_var rfl (IsD.ex (x9.trans x10) _ _ hvc)) ya_nil))) fun d' h => by
    have h : d' = (deedsAt (dsOf log) (insideTo (eventsOf f (dsOf log)) (cntOf f (deedsAt (dsOf log) (w.take many))) (dsOf log).length)).map eDeed := h
    rw [h, hdl])) ya_nil)))) (yd_var rfl (IsD.ex x1a _ _ h4)) (cmp_stand (n := 55) _) (cmp_stand (n := 55) _)).to (congrArg PyData.bool (eqv_stand sf sf))) fun v H11 x11 hi => q _ v H11 (x1a.trans x11) hi ?_
  rw [accB_iff.mpr hacc, decide_eq_true rfl]
end
end Ct

/-! # CtL7 -/
namespace Ct
open PySem PySem.Spec PyProof.Rows L2 Evl
open Run (dsOf RightL)
section
variable {H H' H0 : Hp} {p q : Addr} {K : PySem.W.Frag} {σ : L2.St} {vs : List V} {Q : VK} {D : Ends} {tz : TS} {te tv ty ti tl : TE} {tas : TA} {ds : List PyData}
/-- a, b = what is told of only so far -/
theorem q_unp2R {i j : Nat} {R : PyData → Prop} {P : PyData → PyData → Prop} (h : YR K te σ H R) (hR : ∀ d, R d → ∃ a b, d = .tuple [a, b] ∧ P a b) (k : ∀ d1 d2 v1 v2 H1, P d1 d2 → Ex H H1 → IsD K H1 d1 v1 → IsD K H1 d2 v2 → tz D ((σ.set i (some v1)).set j (some v2)) H1) :
    tSeq (tAsg te (gTup K 2 (gCons (gName i) (gCons (gName j) gNil)))) tz D σ H := h H (Ex.refl H) _ fun d v H1 x hi hr => by
  obtain ⟨d1, d2, rfl, hp⟩ := hR d hr
  obtain ⟨a, vs, rfl, h2, w, ws, rfl, k1, w2, ws2, rfl, k2, rfl⟩ := hi
  exact ⟨a, _, rfl, st_of h2, rfl, w, _, rfl, w2, _, rfl, rfl, k d1 d2 w w2 H1 hp x k1 k2⟩
theorem rd_notBl {a b : Bool} : RD K rNotB (.bool a) (.bool b) (.bool (!decide (a = b))) := fun H x y hx hy Q q => ⟨a, b, hx, hy, q _ H (Ex.refl H) rfl⟩
abbrev sp_cut_right_L (K : PySem.W.Frag) : Sp := SpT K (α := Form × Stand × List Ev × List Nat) (fun x => Good x.1 x.2.1 x.2.2.1 ∧ 24 ≤ x.2.2.2.length) (fun x => [eForm x.1, eStand x.2.1, eDeeds (dsOf x.2.2.1), eNs x.2.2.2]) (fun _ r => r = .bool true)
theorem rd_cut_right_L {x : Form × Stand × List Ev × List Nat} (hc : Good x.1 x.2.1 x.2.2.1 ∧ 24 ≤ x.2.2.2.length) (h : IsDs K H [eForm x.1, eStand x.2.1, eDeeds (dsOf x.2.2.1), eNs x.2.2.2] vs) (q : ∀ d v H', Ex H H' → IsD K H' d v → d = .bool true → Q v H') :
    t_cut_right_L K (sp_cut_L K) (sp_ends_L K) (sp_right_L K) (sp_trips_L K) (sp_is_cut_L K) (sp_in_cut_L K) (sp_walk_L K) (sp_through K) (sp_asked_L K) (sp_could_be_L K) (sp_bent_L K) (EndsOf Q) (L2.start N_cut_right_L vs) H := by
  obtain ⟨f, base, log, l⟩ := x
  dsimp only at hc h q
  obtain ⟨v1, _, rfl, h1, v2, _, rfl, h2, v3, _, rfl, h3, v4, _, rfl, h4, rfl⟩ := h
  obtain ⟨gd, hl⟩ := hc
  have hfew := gd.few
  have hds := dsOk_log gd
  have hdl : (dsOf log).length = log.length := List.length_map _
  have n4 := gd.form.few
  have evl := evs_dsOf (f := f) (log := log)
  have R := gd.toRun
  refine q_set (yc (d := eCut (fun m => l.getD m 0 % (cntOf f (dsOf log) m + 1)) f.rules.length) (l, cntOf f (dsOf log), f.rules.length) ⟨by show f.rules.length ≤ l.length; omega, by show f.rules.length ≤ 1000; omega⟩ (ya_cons (yd_var rfl h4) (ya_cons (yc (f, dsOf log) hds (ya_cons (yd_var rfl h1) (ya_cons (yd_var rfl h3) ya_nil)) fun _ h => h) ya_nil)) fun _ h => h) fun vc H1 x1 hvc => ?_
  have hcle : ∀ m, l.getD m 0 % (cntOf f (dsOf log) m + 1) ≤ cntOf f (dsOf log) m := fun m => by have := Nat.mod_lt (l.getD m 0) (show 0 < cntOf f (dsOf log) m + 1 by omega); omega
  obtain ⟨cut, hcut⟩ : ∃ cut : Nat → Nat, cut = fun m => l.getD m 0 % (cntOf f (dsOf log) m + 1) := ⟨_, rfl⟩
  rw [← hcut] at hvc
  have hcle' : ∀ m, cut m ≤ cntOf f (dsOf log) m := fun m => by
    rw [hcut]
    exact hcle m
  have hcp : ∀ m, cut m ≤ posOf f log m := fun m => by rw [posOf_cnt]; exact hcle' m
  have y3 : ∀ {σ H9}, Ex H1 H9 → σ[0]? = some (some v1) → σ[1]? = some (some v2) → σ[2]? = some (some v3) → YA K (tCons (tVar 0) (tCons (tVar 1) (tCons (tVar 2) tNil))) σ H9 [eForm f, eStand base, eDeeds (dsOf log)] := fun {σ H9} x a b c => ya_cons (yd_var a (IsD.ex (x1.trans x) _ _ h1)) (ya_cons (yd_var b (IsD.ex (x1.trans x) _ _ h2)) (ya_cons (yd_var c (IsD.ex (x1.trans x) _ _ h3)) ya_nil))
  refine q_set (yd_right gd (y3 (Ex.refl _) rfl rfl rfl) (yd_var rfl hvc)) fun vd H2 x2 hvd => ?_
  have x12 := x1.trans x2
  have hbad := gd.bad cut
  refine q_when (b := false) (et_is (yt_test (yd_op (yc (d := .bool (rightB f base log cut)) (f, base, log, cut) ⟨gd, hcle'⟩ (ya_cons (yd_var rfl (IsD.ex x12 _ _ h1)) (ya_cons (yd_var rfl (IsD.ex x12 _ _ h2)) (ya_cons (yd_var rfl (IsD.ex x12 _ _ h3)) (ya_cons (yd_var rfl (IsD.ex x2 _ _ hvc)) ya_nil)))) fun d' h => by
    obtain ⟨b, rfl, hb⟩ := h
    rw [bool_iff hb hbad]) (yd_var rfl hvd) rd_ne_bl)) (by rw [decide_eq_true rfl]; rfl)) (fun hb => by cases hb) fun _ H3 x3 => ?_
  have x13 := x12.trans x3
  have hvd3 := IsD.ex x3 _ _ hvd
  cases hrb : rightB f base log cut with
  | false =>
    rw [hrb] at hvd3
    refine q_when (b := true) (et_not (yt_B (yd_var rfl hvd3))) (fun _ H4 x4 => ?_) fun hb => by cases hb
    exact s_ret (K := K) yd_bl fun v H5 x5 hi => q _ v H5 ((x13.trans x4).trans x5) hi rfl
  | true =>
    rw [hrb] at hvd3
    refine q_when (b := false) (et_not (yt_B (yd_var rfl hvd3))) (fun hb => by cases hb) fun _ H4 x4 => ?_
    have hRD := hbad.mp hrb
    have hW := (R.right_iff hcp).mp hRD
    have hwi := R.walk_inside hW hcp
    have hthr := R.through_ok hW hcp
    have hwi : walk f base (deedsAt (dsOf log) (insideTo (eventsOf f (dsOf log)) cut log.length)) = some ((wdOf f base log).posStand cut) := hwi
    have hthr : Accept f base (dsOf log) (insideTo (eventsOf f (dsOf log)) cut log.length ++ outsideTo (eventsOf f (dsOf log)) cut log.length) (insideTo (eventsOf f (dsOf log)) cut log.length).length ((wdOf f base log).posStand cut) := hthr
    have hcnt : cntOf f (deedsAt (dsOf log) (insideTo (eventsOf f (dsOf log)) cut log.length)) = cut := by
      have z := R.inside_pos cut (Nat.le_refl log.length)
      have z : posOf f (evsAt log (insideTo (eventsOf f (dsOf log)) cut log.length)) = fun m => min (cut m) (posOf f (log.take log.length) m) := z
      rw [List.take_length] at z
      funext m
      have z2 := congrFun z m
      rw [posOf_cnt] at z2
      have e : (evsAt log (insideTo (eventsOf f (dsOf log)) cut log.length)).map (·.1) = deedsAt (dsOf log) (insideTo (eventsOf f (dsOf log)) cut log.length) := (deedsAt_map log _).symm
      rw [e] at z2
      rw [z2]
      exact Nat.min_eq_left (hcp m)
    have hlen := Run.through_len (eventsOf f (dsOf log)) cut log.length
    have hil : (insideTo (eventsOf f (dsOf log)) cut log.length).length ≤ log.length := by
      have := List.length_filter_le (inCut (eventsOf f (dsOf log)) cut) (List.range log.length)
      rw [List.length_range] at this
      exact this
    have hint : ∀ j ∈ insideTo (eventsOf f (dsOf log)) cut log.length, j < (dsOf log).length := fun j hj => by rw [hdl]; exact (Run.inside_lt (eventsOf f (dsOf log)) cut log.length).1 j hj
    generalize hIn : insideTo (eventsOf f (dsOf log)) cut log.length = ins at hwi hthr hcnt hlen hil hint
    generalize hOut : outsideTo (eventsOf f (dsOf log)) cut log.length = outs at hthr hlen
    generalize hTold : (wdOf f base log).posStand cut = told at hwi hthr
    have x14 := x13.trans x4
    have x24 := (x2.trans x3).trans x4
    refine q_set (YN.yd (ycL (es := (deedsAt (dsOf log) ins).map eDeed) (f, dsOf log, cut) hds (ya_cons (yd_var rfl (IsD.ex x14 _ _ h1)) (ya_cons (yd_var rfl (IsD.ex x14 _ _ h3)) (ya_cons (yd_var rfl (IsD.ex x24 _ _ hvc)) ya_nil))) fun d' h => by
      have h : d' = (deedsAt (dsOf log) (insideTo (eventsOf f (dsOf log)) cut (dsOf log).length)).map eDeed := h
      rw [h, hdl, hIn])) fun vi H5 x5 hvi => ?_
    have hinl := deeds_len (dsOf log) ins
    have wi : WalkC f base (deedsAt (dsOf log) ins) := ⟨gd.form, gd.bs, fun d hd => hds.2.1 d (deeds_mem hd), by omega⟩
    have x15 := x14.trans x5
    refine q_set (yd_walk0 wi hwi (ya_cons (yd_var rfl (IsD.ex x15 _ _ h1)) (ya_cons (yd_var rfl (IsD.ex x15 _ _ h2)) (ya_cons (yd_var rfl hvi) ya_nil)))) fun vt H6 x6 hvt => ?_
    have htold : StOk f 900 told := (walk_stOk gd.form gd.bs hwi).mono (by omega)
    have x16 := x15.trans x6
    have x26 := (x24.trans x5).trans x6
    refine q_set (yc (d := eWay (ins ++ outs) ins.length) (f, base, dsOf log, cut) hds (ya_cons (yd_var rfl (IsD.ex x16 _ _ h1)) (ya_cons (yd_var rfl (IsD.ex x16 _ _ h2)) (ya_cons (yn_listL (yd_var rfl (IsD.ex x16 _ _ h3))).yd (ya_cons (yd_var rfl (IsD.ex x26 _ _ hvc)) ya_nil)))) fun d' h => by
      have h : d' = .tuple [.tuple ((insideTo (eventsOf f (dsOf log)) cut (dsOf log).length ++ outsideTo (eventsOf f (dsOf log)) cut (dsOf log).length).map eN), eN (insideTo (eventsOf f (dsOf log)) cut (dsOf log).length).length] := h
      rw [h, hdl, hIn, hOut]) fun vw H7 x7 hvw => ?_
    have x17 := x16.trans x7
    have x27 := x26.trans x7
    refine q_set (YN.yd (yn_deeds (j := 10) (w := ins) (ds := dsOf log) (v2 := v3) ((yd_to (ix0 (yd_var rfl hvw)) (ix1 (yd_var rfl hvw))).to (by rw [← List.map_take, List.take_left])) (by omega) hint (fun _ => rfl) (fun _ => rfl) (fun _ => rfl) (IsD.ex x17 _ _ h3))) fun vh H8 x8 hvh => ?_
    have x18 := x17.trans x8
    have x28 := x27.trans x8
    have hvw8 := IsD.ex x8 _ _ hvw
    have hvt8 := IsD.ex (x7.trans x8) _ _ hvt
    have dok : DsOk f (deedsAt (dsOf log) ins) := ⟨gd.form, fun d hd => hds.2.1 d (deeds_mem hd), by omega⟩
    have hinl2 : (deedsAt (dsOf log) ins).length = ins.length := by rw [deedsAt_getD hint, List.length_map]
    have ecut : PyData.eqv (eCut cut f.rules.length) (eCut cut f.rules.length) = true := by
      have e : cnts cut f.rules.length = ((List.range f.rules.length).map cut).map eN := by
        unfold cnts
        rw [List.map_map]
        rfl
      show PyData.eqv (.tuple (cnts cut _)) (.tuple (cnts cut _)) = true
      rw [e, eqv_tup eqv_nat]
      exact decide_eq_true rfl
    refine q_when (b := false) (et_is (et_or (yt_test (nne (ix1 (yd_var rfl hvw8)) ((ylenLM (yd_var rfl (IsD.ex ((x6.trans x7).trans x8) _ _ hvi))).to (by rw [hinl2])))) fun _ => yt_test (yneD (t := eCut cut f.rules.length) (yc (d := eCut cut f.rules.length) (f, deedsAt (dsOf log) ins) dok (ya_cons (yd_var rfl (IsD.ex x18 _ _ h1)) (ya_cons (yd_var rfl hvh) ya_nil)) fun d' h => by
      have h : d' = eCut (cntOf f (deedsAt (dsOf log) ins)) f.rules.length := h
      rw [h, hcnt]) (yd_var rfl (IsD.ex x28 _ _ hvc)) (cmp_tup (n := 59) (cmps_map (fun _ => cmp_int) _)) (cmp_tup (n := 59) (cmps_map (fun _ => cmp_int) _)))) (by rw [ecut, decide_eq_true rfl]; rfl)) (fun hb => by cases hb) fun _ H9 x9 => ?_
    have x19 := x18.trans x9
    have ask : AskC f base log told (ins ++ outs) := ⟨gd, htold, hlen⟩
    have hacc : accB f base log told (ins ++ outs) ins.length = true := accB_iff.mpr hthr
    have yaw : ∀ {σ H10 tt tw : TE} , True := fun {_ _ _ _} => trivial
    refine q_when (b := false) (et_is (yt_test (yd_op (yc (d := .bool true) (f, base, log, told, ins ++ outs, ins.length) ask (ya_cons (yd_var rfl (IsD.ex x19 _ _ h1)) (ya_cons (yd_var rfl (IsD.ex x19 _ _ h2)) (ya_cons (yd_var rfl (IsD.ex x19 _ _ h3)) (ya_cons (yd_var rfl (IsD.ex x9 _ _ hvt8)) (ya_cons (yd_var rfl (IsD.ex x9 _ _ hvw8)) ya_nil))))) fun d' h => by
      obtain ⟨b, rfl, hb⟩ := h
      rw [hb.mpr hthr]) yd_bl rd_notBl)) rfl) (fun hb => by cases hb) fun _ H10 x10 => ?_
    have x1a := x19.trans x10
    have x9a := x9.trans x10
    refine q_when (b := false) (et_is (et_not (yt_B (yc (d := .bool true) (f, base, log, told, ins ++ outs, ins.length) ask (ya_cons (yd_var rfl (IsD.ex x1a _ _ h1)) (ya_cons (yd_var rfl (IsD.ex x1a _ _ h2)) (ya_cons (yd_var rfl (IsD.ex x1a _ _ h3)) (ya_cons (yd_var rfl (IsD.ex x9a _ _ hvt8)) (ya_cons (yd_var rfl (IsD.ex x9a _ _ hvw8)) ya_nil))))) fun d' h => by
      have h : d' = .bool (accB f base log told (ins ++ outs) ins.length) := h
      rw [h, hacc]))) rfl) (fun hb => by cases hb) fun _ H11 x11 => ?_
    have x1b := x1a.trans x11
    have x9b := x9a.trans x11
    refine q_forR (K := K) (n := 3) (nlit 3) (by decide) (fun i σ' H' => Ex H11 H' ∧ ∃ vd o10 o11 o12, σ' = [some v1, some v2, some v3, some v4, some vc, some vd, some vi, some vt, some vw, some vh, o10, o11, o12]) (fun H12 x12 => ⟨x12, _, _, _, _, rfl⟩) (fun i σ' H' hi3 hi => ?_) fun σ' H' hi => ?_
    · obtain ⟨x12', vd', o10, o11, o12, rfl⟩ := hi
      have xx := x1b.trans x12'
      have x9c := x9b.trans x12'
      refine q_unp2R (P := fun a b => ∃ s' w' many', a = eStand s' ∧ b = eWay w' many' ∧ StOk f 900 s' ∧ w'.length = (ins ++ outs).length) (ycR (R := fun (x : Form × List Nat × Stand × List Nat × Nat) r => BentR x.1 x.2.2.2.1 r) (f, l.drop (4 + 6 * i), told, ins ++ outs, ins.length) ⟨gd.form, htold, by show 6 ≤ (l.drop _).length; rw [List.length_drop]; omega, by show (ins ++ outs).length ≤ 100; omega⟩ (ya_cons (yd_var rfl (IsD.ex xx _ _ h1)) (ya_cons ((yn_from (yd_var rfl (IsD.ex xx _ _ h4)) (nadd (nlit 4) (nmul (n := 6) (m := i) (nlit 6) (yd_var rfl (show IsD K H' (eN i) (.int (i : Int)) from rfl)) ?_))).yd.to (by rw [← List.map_drop])) (ya_cons (yd_var rfl (IsD.ex x9c _ _ hvt8)) (ya_cons (yd_var rfl (IsD.ex x9c _ _ hvw8)) ya_nil))))) (fun d hd => ?_) fun d1 d2 u1 u2 H12 hP x13' hu1 hu2 => ?_
      · exact .inl ⟨by omega, by omega⟩
      · obtain ⟨s', w', many', rfl, a, b⟩ := hd
        exact ⟨_, _, rfl, s', w', many', rfl, rfl, a, b⟩
      · obtain ⟨s', w', many', rfl, rfl, hs', hw'⟩ := hP
        have ask' : AskC f base log s' w' := ⟨gd, hs', hw'.trans hlen⟩
        have xy := xx.trans x13'
        refine q_set (yc (d := .bool (accB f base log s' w' many')) (f, base, log, s', w', many') ask' (ya_cons (yd_var rfl (IsD.ex xy _ _ h1)) (ya_cons (yd_var rfl (IsD.ex xy _ _ h2)) (ya_cons (yd_var rfl (IsD.ex xy _ _ h3)) (ya_cons (yd_var rfl hu1) (ya_cons (yd_var rfl hu2) ya_nil))))) fun _ h => h) fun va H13 x14' hva => ?_
        have xz := xy.trans x14'
        refine s_when (b := false) (et_is (yt_test (yd_op (yc (d := .bool (accB f base log s' w' many')) (f, base, log, s', w', many') ask' (ya_cons (yd_var rfl (IsD.ex xz _ _ h1)) (ya_cons (yd_var rfl (IsD.ex xz _ _ h2)) (ya_cons (yd_var rfl (IsD.ex xz _ _ h3)) (ya_cons (yd_var rfl (IsD.ex x14' _ _ hu1)) (ya_cons (yd_var rfl (IsD.ex x14' _ _ hu2)) ya_nil))))) fun d' h => by
          obtain ⟨b, rfl, hb⟩ := h
          rw [bool_iff hb accB_iff]) (yd_var rfl hva) rd_ne_bl)) (by rw [decide_eq_true rfl]; rfl)) (fun hb => by cases hb) fun _ H14 x15' => ⟨((x12'.trans x13').trans x14').trans x15', _, _, _, _, rfl⟩
    · obtain ⟨x12', vd', o10, o11, o12, rfl⟩ := hi
      exact s_ret (K := K) yd_bl fun v H12 x13' hi => q _ v H12 ((x1b.trans x12').trans x13') hi rfl
end
end Ct

/-! # CtL8 -/
namespace Ct
open PySem PySem.Spec PyProof.Rows L2 Evl
open Run (dsOf RightL)
section
variable {H H' H0 : Hp} {p q : Addr} {K : PySem.W.Frag} {σ : L2.St} {vs : List V} {Q : VK} {D : Ends} {tz : TS} {te tv ty ti tl ta tb : TE} {tas : TA} {ds : List PyData}
theorem yr_op1 {r : R2} {R R' : PyData → Prop} {e : PyData} (ha : YR K ta σ H R) (hb : YD K tb σ H e) (hr : ∀ d, R d → ∃ f, R' f ∧ RD K r d e f) : YR K (tOp r ta tb) σ H R' := fun H1 x Q q =>
  ha H1 x _ fun d u H2 x2 hu hR => hb H2 (x.trans x2) _ fun v H3 x3 hv => by
    obtain ⟨f, hf, hrd⟩ := hr d hR
    exact hrd H3 u v (IsD.ex x3 _ _ hu) hv Q fun z H4 x4 hz => q f z H4 ((x2.trans x3).trans x4) hz hf
theorem YR.mono {R R' : PyData → Prop} (h : YR K te σ H R) (hr : ∀ d, R d → R' d) : YR K te σ H R' := fun H1 x Q q => h H1 x Q fun d v H2 x2 hd hR => q d v H2 x2 hd (hr d hR)
theorem s_appR {j : Nat} {R : PyData → Prop} (hj : σ[j]? = some (some (.ref p))) (hp : OL K H p ds) (h : YR K te σ H R) (hn : ∀ d, R d → noL d = true) (hz : ds.length < 100000) (k : ∀ d H1, R d → Exb p H H1 → OL K H1 p (ds ++ [d]) → D.nx σ H1) :
    tDrop (tBM K "list" rAppend (tVar j) (tCons te tNil)) D σ H := by
  obtain ⟨vs, h1, h2, h3⟩ := hp
  refine ⟨.ref p, hj, Or.inl ⟨rfl, vs, sq_of h1⟩, h H (Ex.refl H) _ fun d v H1 x hi hr => ?_⟩
  have hp1 := x p _ h1
  refine ⟨p, vs, v, rfl, rfl, hp1, by rw [h2.length]; exact sz_lt hz, k d _ hr ((Exb.of_ex x).trans Exb.upd) ⟨_, upd_same, ?_, noLs_append h3 (noLs_one (hn d hr))⟩⟩
  exact (IsDs.exb Exb.upd (lst_noTup hp1) ds vs h3 (IsDs.ex x ds vs h2)).append (isDs_one (IsD.exb Exb.upd (lst_noTup hp1) d v (hn d hr) hi))
theorem q_appR {j : Nat} {R : PyData → Prop} (hj : σ[j]? = some (some (.ref p))) (hp : OL K H p ds) (h : YR K te σ H R) (hn : ∀ d, R d → noL d = true) (hz : ds.length < 100000) (k : ∀ d H1, R d → Exb p H H1 → OL K H1 p (ds ++ [d]) → tz D σ H1) :
    tSeq (tDrop (tBM K "list" rAppend (tVar j) (tCons te tNil))) tz D σ H := s_appR (D := { D with nx := tz D }) hj hp h hn hz k
def IsNat (d : PyData) : Prop := ∃ n : Nat, d = eN n
theorem isNat_of {i : Int} (h : 0 ≤ i) : IsNat (.int i) := ⟨i.toNat, by show PyData.int i = PyData.int _; rw [Int.toNat_of_nonneg h]⟩
theorem imod {i j : Int} (h1 : YD K ta σ H (.int i)) (h2 : YD K tb σ H (.int j)) (h : 0 < j) : YD K (tOp rModI ta tb) σ H (.int (i % j)) := yd_op (r := rModI) h1 h2 (rd_I (f := .int (i % j)) h fun _ => rfl)
theorem idiv {i j : Int} (h1 : YD K ta σ H (.int i)) (h2 : YD K tb σ H (.int j)) (h : CDiv i j) : YD K (tOp rDivI ta tb) σ H (.int (i / j)) := yd_op (r := rDivI) h1 h2 (rd_I (f := .int (i / j)) h fun _ => rfl)
theorem imul {i j : Int} (h1 : YD K ta σ H (.int i)) (h2 : YD K tb σ H (.int j)) (h : CMul i j) : YD K (tOp (rTimes K) ta tb) σ H (.int (i * j)) := yd_op h1 h2 (rd_mulI h)
theorem iadd {i j : Int} (h1 : YD K ta σ H (.int i)) (h2 : YD K tb σ H (.int j)) : YD K (tOp (rPlus K) ta tb) σ H (.int (i + j)) := yd_op h1 h2 rd_addI
/-! ### mix, cell, drawn -/
abbrev sp_mix_L (K : PySem.W.Frag) : Sp := SpT K (α := Int × Nat) (fun _ => True) (fun x => [.int x.1, eN x.2]) (fun _ r => IsNat r)
theorem rd_mix_L {x : Int × Nat} (hc : True) (h : IsDs K H [.int x.1, eN x.2] vs) (q : ∀ d v H', Ex H H' → IsD K H' d v → IsNat d → Q v H') : t_mix_L K (EndsOf Q) (L2.start N_mix_L vs) H := by
  obtain ⟨c, k⟩ := x
  obtain ⟨v1, _, rfl, h1, v2, _, rfl, h2, rfl⟩ := h
  refine q_set (imod (iadd (iadd (imul (imod (yd_var rfl h1) yd_int (by decide)) yd_int (.inr ⟨by decide, by decide⟩)) (imul (yd_var rfl h2) yd_int (.inr ⟨by decide, by decide⟩))) yd_int) yd_int (by decide)) fun vt H1 x1 hvt => ?_
  have b1 := Int.emod_nonneg (c % 1000000007 * 48271 + (k : Int) * 7919 + 101) (show (2147483647 : Int) ≠ 0 by decide)
  have b2 := Int.emod_lt_of_pos (c % 1000000007 * 48271 + (k : Int) * 7919 + 101) (show (0 : Int) < 2147483647 by decide)
  generalize (c % 1000000007 * 48271 + (k : Int) * 7919 + 101) % 2147483647 = t at hvt b1 b2
  refine s_ret (imod (imul (imod (imul (yd_var rfl hvt) (yd_var rfl hvt) (.inl ⟨by omega, by omega⟩)) yd_int (by decide)) yd_int (.inr ⟨by decide, by decide⟩)) yd_int (by decide)) fun v H2 x2 hi => q _ v H2 (x1.trans x2) hi (isNat_of (Int.emod_nonneg _ (by decide)))
abbrev eInts (ns : List Int) : PyData := .list (ns.map .int)
abbrev sp_cell_L (K : PySem.W.Frag) : Sp := SpT K (α := List Int × Nat) (fun _ => True) (fun x => [eInts x.1, eN x.2]) (fun _ r => ∃ i : Int, r = .int i)
theorem rd_cell_L {x : List Int × Nat} (hc : True) (h : IsDs K H [eInts x.1, eN x.2] vs) (q : ∀ d v H', Ex H H' → IsD K H' d v → (∃ i : Int, d = .int i) → Q v H') : t_cell_L K (sp_mix_L K) (EndsOf Q) (L2.start N_cell_L vs) H := by
  obtain ⟨ns, k⟩ := x
  dsimp only at h
  obtain ⟨v1, _, rfl, h1, v2, _, rfl, h2, rfl⟩ := h
  have fin : ∀ (i : Int) v H1, Ex H H1 → v = V.int i → tRet (tCall (sp_mix_L K) [] E0 (tCons (tVar 2) (tCons (tVar 1) (tNil)))) (EndsOf Q) [some v1, some v2, some v] H1 := fun i v H1 x1 hv =>
    s_retR (ycR (R := fun (_ : Int × Nat) r => IsNat r) (i, k) trivial (ya_cons (yd_var rfl (show IsD K H1 (.int i) v from hv)) (ya_cons (yd_var rfl (IsD.ex x1 _ _ h2)) ya_nil))) fun d v H2 x2 hd hr => q d v H2 (x1.trans x2) hd (by
      obtain ⟨n, rfl⟩ := hr
      exact ⟨_, rfl⟩)
  have hlen : ∀ {σ H1}, Ex H H1 → σ[0]? = some (some v1) → YD K (tCB (rLenU K) (tCons (tVar 0) tNil)) σ H1 (eN ns.length) := fun {σ H1} x a => ylenLM (yd_var a (IsD.ex x _ _ h1))
  refine q_when (yt_test (nlt (yd_var rfl h2) (hlen (Ex.refl _) rfl))) (fun hb H1 x1 => ?_) fun hb H1 x1 => ?_
  · have hk := of_decide_eq_true hb
    exact s_ret (d := .int (ns[k]'hk)) (ixLM (g := PyData.int) (yd_var rfl (IsD.ex x1 _ _ h1)) (yd_var rfl (IsD.ex x1 _ _ h2)) (List.getElem?_eq_getElem hk)) fun v H2 x2 hi => q _ v H2 (x1.trans x2) hi ⟨_, rfl⟩
  · refine q_set (K := K) (d := .int 0) yd_int fun v0 H2 x2 hv0 => ?_
    have x12 := x1.trans x2
    refine q_when (yt_test (ngt (hlen x12 rfl) (nlit 0))) (fun hb H3 x3 => ?_) fun hb H3 x3 => ?_
    · have hk := of_decide_eq_true hb
      have hm := Nat.mod_lt k hk
      refine s_set (d := .int (ns[k % ns.length]'hm)) (ixLM (g := PyData.int) (yd_var rfl (IsD.ex (x12.trans x3) _ _ h1)) (nmod (yd_var rfl (IsD.ex (x12.trans x3) _ _ h2)) (hlen (x12.trans x3) rfl) hk) (List.getElem?_eq_getElem hm)) fun v H4 x4 hi => fin _ v H4 ((x12.trans x3).trans x4) hi
    · exact fin 0 v0 H3 (x12.trans x3) hv0
abbrev sp_drawn_L (K : PySem.W.Frag) : Sp := SpL K (α := Int × Nat) (fun x => x.2 ≤ 100) (fun x => [.int x.1, eN x.2]) (fun x es => ∃ l : List Nat, es = l.map eN ∧ l.length = x.2)
theorem rd_drawn_L {x : Int × Nat} (hc : x.2 ≤ 100) (h : IsDs K H [.int x.1, eN x.2] vs) (q : ∀ es ws p H', H p = Option.none → Ex H H' → H' p = some (.lst ws) → IsDs K H' es ws → (∃ l : List Nat, es = l.map eN ∧ l.length = x.2) → Q (.ref p) H') : t_drawn_L K (sp_mix_L K) (EndsOf Q) (L2.start N_drawn_L vs) H := by
  obtain ⟨c, n⟩ := x
  dsimp only at hc h q
  obtain ⟨v1, _, rfl, h1, v2, _, rfl, h2, rfl⟩ := h
  refine q_setN (K := K) (yn_lst ya_nil (by simp)) rfl fun p H1 np x1 hp => ?_
  have hcmp : YD K (tOp rGeI (tVar 0) (tOp (rPowI) (tC (.int 10)) (tC (.int 18)))) [some v1, some v2, some (.ref p), none, none] H1 (.bool (decide ((10 : Int) ^ (18 : Int).toNat ≤ c))) := ige (yd_var rfl (show IsD K H1 (.int c) v1 from h1)) (yd_op (r := rPowI) yd_int yd_int (rd_I (f := .int ((10 : Int) ^ (18 : Int).toNat)) ⟨by decide, by decide, by decide⟩ fun _ => rfl))
  refine q_set (imul (yd_var rfl (show IsD K H1 (.int c) v1 from h1)) (yd_cb (ya_cons hcmp ya_nil) rc_int_bool) (.inr (by split <;> exact ⟨by decide, by decide⟩))) fun vl H2 x2 hvl => ?_
  have hv0 : ∃ i : Int, vl = .int i := ⟨_, hvl⟩
  obtain ⟨i0, rfl⟩ := hv0
  refine q_forR (n := n) (yd_var rfl (IsD.ex (x1.trans x2) _ _ h2)) (by omega) (fun i σ' H' => Ex H H' ∧ (∃ (left : Int) (o : Option V), σ' = [some v1, some v2, some (.ref p), some (.int left), o]) ∧ ∃ l : List Nat, OL K H' p (l.map eN) ∧ l.length = i)
    (fun H3 x3 => ⟨(x1.trans x2).trans x3, ⟨_, _, rfl⟩, [], (hp.ex x2).ex x3, rfl⟩) (fun i σ' H' hi hv => ?_) fun σ' H' hv => ?_
  · obtain ⟨x3, ⟨left, o, rfl⟩, l, k1, k2⟩ := hv
    have yl : ∀ {H4}, YD K (tVar 3) [some v1, some v2, some (.ref p), some (.int left), some (.int (i : Int))] H4 (.int left) := fun {H4} => yd_var rfl (show IsD K H4 (.int left) (.int left) from rfl)
    refine s_if (yt_test (igt yl yd_int)) (fun hb H4 x4 => ?_) fun hb H4 x4 => ?_
    · refine q_appR (p := p) (ds := l.map eN) (R := IsNat) rfl (k1.ex x4) ((imod yl yd_int (by decide)).yr (isNat_of (Int.emod_nonneg _ (by decide)))) (fun d hd => by obtain ⟨n, rfl⟩ := hd; rfl) (by rw [List.length_map]; omega) fun d H5 hd xb k5 => ?_
      obtain ⟨m, rfl⟩ := hd
      refine s_set (idiv yl yd_int ⟨by decide, by decide⟩) fun v H6 x6 hi => ⟨(Ex.exb (x3.trans x4) xb np).trans x6, ⟨left / 4096, _, by have e : v = V.int (left / 4096) := hi; subst e; rfl⟩, l ++ [m], ?_, by rw [List.length_append]; show _ + 1 = _; omega⟩
      rw [List.map_append]
      exact k5.ex x6
    · refine s_appR (p := p) (ds := l.map eN) (R := IsNat) rfl (k1.ex x4) ?_ (fun d hd => by obtain ⟨n, rfl⟩ := hd; rfl) (by rw [List.length_map]; omega) fun d H5 hd xb k5 => ?_
      · refine yr_op1 (e := eN 4096) (R := IsNat) (yr_op1 (e := eN 3) (R := IsNat) (R' := IsNat) (ycR (R := fun (_ : Int × Nat) r => IsNat r) (c, i) trivial (ya_cons (yd_var rfl (show IsD K H4 (.int c) v1 from h1)) (ya_cons (yd_var rfl (show IsD K H4 (eN i) (.int (i : Int)) from rfl)) ya_nil))) (nlit 3) fun d hd => ?_) (nlit 4096) fun d hd => ?_
        · obtain ⟨n, rfl⟩ := hd
          exact ⟨.int ((n : Int) / 3), isNat_of (Int.ediv_nonneg (by omega) (by decide)), rd_I ⟨by decide, by decide⟩ fun _ => rfl⟩
        · obtain ⟨n, rfl⟩ := hd
          exact ⟨.int ((n : Int) % 4096), isNat_of (Int.emod_nonneg _ (by decide)), rd_I (by decide) fun _ => rfl⟩
      · obtain ⟨m, rfl⟩ := hd
        refine ⟨Ex.exb (x3.trans x4) xb np, ⟨_, _, rfl⟩, l ++ [m], ?_, by rw [List.length_append]; show _ + 1 = _; omega⟩
        rw [List.map_append]
        exact k5
  · obtain ⟨x3, ⟨left, o, rfl⟩, l, ⟨ws, k1, k2, _⟩, k3⟩ := hv
    exact ⟨.ref p, rfl, q _ ws p H' np x3 k1 k2 ⟨l, rfl, k3⟩⟩
/-! ### options, next, run -/
def OptsOk (f : Form) (s : Stand) (opts : List Deed) : Prop := ∀ d ∈ opts, DeedOk f d ∧ (answered f s d).isSome = true
theorem causeL_some {f : Form} {s : Stand} {d : Deed} (h : (causeL f s d).isSome = true) : (answered f s d).isSome = true := by
  unfold causeL at h
  cases ha : answered f s d with
  | none => rw [ha] at h; cases h
  | some a => rfl
theorem isN_mc {m : Nat} (o : Option Cs) : isNone (eO (eMC m) o) = o.isNone := by cases o <;> rfl
abbrev sp_options_L (K : PySem.W.Frag) : Sp := SpL K (α := Form × Stand) (fun x => FormOk x.1 ∧ StOk x.1 900 x.2) (fun x => [eForm x.1, eStand x.2]) (fun x es => ∃ opts : List Deed, es = opts.map eDeed ∧ opts ≠ [] ∧ OptsOk x.1 x.2 opts)
theorem noLs_deeds (l : List Deed) : noLs (l.map eDeed) = true := noLs_map noL_deed l
theorem hear_ans {f : Form} {s : Stand} {m : Nat} {g : Sg} : (answered f s (.hear m g)).isSome = true := by
  show ((some (Cs.sg g)).bind fun c => answerOf (movesAt f m) (stateOf s m) c).isSome = true
  exact answer_sg _ _ _
theorem rd_options_L {x : Form × Stand} (hc : FormOk x.1 ∧ StOk x.1 900 x.2) (h : IsDs K H [eForm x.1, eStand x.2] vs) (q : ∀ es ws p H', H p = Option.none → Ex H H' → H' p = some (.lst ws) → IsDs K H' es ws → (∃ opts : List Deed, es = opts.map eDeed ∧ opts ≠ [] ∧ OptsOk x.1 x.2 opts) → Q (.ref p) H') :
    t_options_L K (sp_cause_L K) (EndsOf Q) (L2.start N_options_L vs) H := by
  obtain ⟨f, s⟩ := x
  dsimp only at hc h q
  obtain ⟨v1, _, rfl, h1, v2, _, rfl, h2, rfl⟩ := h
  obtain ⟨ok, hs⟩ := hc
  have n8 := ok.rfew
  have n4 := ok.few
  have n1 := ok.pos
  have hf2 := hs.fit.2
  refine q_setN (K := K) (yn_lst ya_nil (by simp)) rfl fun p H1 np x1 hp => ?_
  refine q_forR (n := s.loads.length) (ylenTM (ix1 (yd_var rfl (IsD.ex x1 _ _ h2)))) (by omega) (fun r σ' H' => Ex H H' ∧ (∃ o3 o4, σ' = [some v1, some v2, some (.ref p), o3, o4, none, none, none]) ∧ ∃ opts : List Deed, OL K H' p (opts.map eDeed) ∧ OptsOk f s opts ∧ opts.length ≤ 900 * r)
    (fun H2 x2 => ⟨x1.trans x2, ⟨_, _, rfl⟩, [], hp.ex x2, (fun d h => by cases h), Nat.zero_le _⟩) (fun r σ' H' hr hi => ?_) fun σ' H' hi => ?_
  · obtain ⟨x2, ⟨o3, o4, rfl⟩, opts, k1, k2, k3⟩ := hi
    obtain ⟨l, hl, hw, _⟩ := loads_at (f := f) (s := s) hr
    have hwn := (hs.ld r l hl).wn
    have yr : ∀ {o4 H3}, YD K (tVar 3) [some v1, some v2, some (.ref p), some (.int (r : Int)), o4, none, none, none] H3 (eN r) := fun {o4 H3} => yd_var rfl (show IsD K H3 (eN r) (.int (r : Int)) from rfl)
    refine q_set (YN.yd (ds := (l.waiting.map fun p => Deed.come r p.1).map eDeed) ((yn_lcT (ds := l.waiting.map eSend) (fun _ => true) (fun i => eDeed (.come r (l.waiting.getD i (0, .a)).1)) (ix1 (ixM (g := eLoad) (ix1 (yd_var rfl (IsD.ex x2 _ _ h2))) yr hl)) (by rw [List.length_map]; omega) (fun _ => rfl) (fun _ _ _ _ _ _ _ => et_yes) (fun i d v H3 x3 hi hv _ => ?_) fun _ _ _ => rfl).to ?_)) fun vm H3 x3 hvm => ?_
    · obtain ⟨pl, hpl, rfl⟩ := map_get hi
      rw [getD_of hpl]
      exact yd_tup (ya_cons yd_str (ya_cons (yd_var rfl (show IsD K H3 (eN r) (.int (r : Int)) from rfl)) (ya_cons (ix0 (yd_var rfl hv)) ya_nil))) (by simp)
    · rw [List.length_map, List.map_map]
      have z := compD_map l.waiting (fun _ => true) (fun p => eDeed (.come r p.1)) (0, .a)
      rw [List.filter_eq_self.mpr fun _ _ => rfl] at z
      exact z
    · generalize hcs : (l.waiting.map fun p => Deed.come r p.1) = cs at hvm
      have hcl : cs.length ≤ 900 := by rw [← hcs, List.length_map]; exact hwn
      have hcok : ∀ d ∈ cs, DeedOk f d := fun d hd => by
        rw [← hcs] at hd
        obtain ⟨_, _, rfl⟩ := List.mem_map.mp hd
        show r < f.roads.length
        rw [← hf2]
        exact hr
      have x13 := x2.trans x3
      have hfl := List.length_filter_le (fun d => (causeL f s d).isSome) cs
      refine s_ext (p := p) (ds := opts.map eDeed) (es := (cs.filter fun d => (causeL f s d).isSome).map eDeed) rfl (k1.ex x3) ((yn_lcL (ds := cs.map eDeed) (fun i => (causeL f s (cs.getD i (.own 0))).isSome) (fun i => eDeed (cs.getD i (.own 0))) (yd_var rfl hvm) (by rw [List.length_map]; omega) (fun _ => rfl) (fun i d v H4 x4 hi hv => ?_) (fun i d v H4 x4 hi hv _ => ?_) fun _ _ _ => noL_deed _).to ?_) (noLs_deeds _) (by rw [List.length_map, List.length_map]; have : 900 * r ≤ 900 * 8 := Nat.mul_le_mul_left _ (by omega); omega) fun H4 xb k4 => ?_
      · obtain ⟨dd, hdd, rfl⟩ := map_get hi
        rw [getD_of hdd]
        refine et_is (yt_test (ynotN (yc (d := eO (eMC (machineOf f dd)) (causeL f s dd)) (f, s, dd) ⟨ok, hcok dd (List.mem_of_getElem? hdd), hs⟩ (ya_cons (yd_var rfl (IsD.ex (x13.trans x4) _ _ h1)) (ya_cons (yd_var rfl (IsD.ex (x13.trans x4) _ _ h2)) (ya_cons (yd_var rfl hv) ya_nil))) fun _ h => h))) ?_
        rw [isN_mc]
        cases causeL f s dd <;> rfl
      · obtain ⟨dd, hdd, rfl⟩ := map_get hi
        rw [getD_of hdd]
        exact yd_var rfl hv
      · rw [List.length_map]
        exact compD_map cs (fun d => (causeL f s d).isSome) eDeed (.own 0)
      · refine ⟨Ex.exb x13 xb np, ⟨_, _, rfl⟩, opts ++ cs.filter (fun d => (causeL f s d).isSome), ?_, fun d hd => ?_, ?_⟩
        · rw [List.map_append]
          exact k4
        · rcases List.mem_append.mp hd with hd | hd
          · exact k2 d hd
          · obtain ⟨a, b⟩ := List.mem_filter.mp hd
            exact ⟨hcok d a, causeL_some b⟩
        · rw [List.length_append, Nat.mul_add]
          omega
  · obtain ⟨x2, ⟨o3, o4, rfl⟩, opts, k1, k2, k3⟩ := hi
    have k3 : opts.length ≤ 7200 := Nat.le_trans k3 (by have : 900 * s.loads.length ≤ 900 * 8 := Nat.mul_le_mul_left _ (by omega); omega)
    refine q_forR (n := f.rules.length) (ylenTM (ix0 (yd_var rfl (IsD.ex x2 _ _ h1)))) (by omega) (fun m σ' H' => Ex H H' ∧ (∃ o5, σ' = [some v1, some v2, some (.ref p), o3, o4, o5, none, none]) ∧ ∃ opts : List Deed, OL K H' p (opts.map eDeed) ∧ OptsOk f s opts ∧ opts.length ≤ 7200 + 2 * m ∧ (0 < m → opts ≠ []))
      (fun H3 x3 => ⟨x2.trans x3, ⟨_, rfl⟩, opts, k1.ex x3, k2, k3, fun z => by omega⟩) (fun m σ' H' hm hi => ?_) fun σ' H' hi => ?_
    · obtain ⟨x3, ⟨o5, rfl⟩, opts, j1, j2, j3, j4⟩ := hi
      have ym : ∀ {H4}, YD K (tVar 5) [some v1, some v2, some (.ref p), o3, o4, some (.int (m : Int)), none, none] H4 (eN m) := fun {H4} => yd_var rfl (show IsD K H4 (eN m) (.int (m : Int)) from rfl)
      refine q_app (p := p) (ds := opts.map eDeed) (d := eDeed (.hear m .a)) rfl j1 (yd_tup (ya_cons yd_str (ya_cons ym (ya_cons yd_str ya_nil))) (by simp)) rfl (by rw [List.length_map]; omega) fun H4 xb k4 => ?_
      have x4 := Ex.exb x3 xb np
      have jok : OptsOk f s (opts ++ [.hear m .a]) := fun d hd => by
        rcases List.mem_append.mp hd with hd | hd
        · exact j2 d hd
        · have : d = .hear m .a := by simpa using hd
          subst this
          exact ⟨hm, hear_ans⟩
      have k4 : OL K H4 p ((opts ++ [Deed.hear m .a]).map eDeed) := by
        rw [List.map_append]
        exact k4
      refine s_when (yt_test (ynotN (yc (d := eO (eMC m) (causeL f s (.own m))) (f, s, .own m) ⟨ok, hm, hs⟩ (ya_cons (yd_var rfl (IsD.ex x4 _ _ h1)) (ya_cons (yd_var rfl (IsD.ex x4 _ _ h2)) (ya_cons (yd_tup (ya_cons yd_str (ya_cons ym ya_nil)) (by simp)) ya_nil))) fun _ h => h))) (fun hb H5 x5 => ?_) fun hb H5 x5 => ?_
      · rw [isN_mc] at hb
        refine s_app (p := p) (ds := (opts ++ [Deed.hear m .a]).map eDeed) (d := eDeed (.own m)) rfl (k4.ex x5) (yd_tup (ya_cons yd_str (ya_cons ym ya_nil)) (by simp)) rfl (by rw [List.length_map, List.length_append]; show _ + 1 < _; omega) fun H6 xb6 k6 => ?_
        refine ⟨Ex.exb (x4.trans x5) xb6 np, ⟨_, rfl⟩, (opts ++ [Deed.hear m .a]) ++ [.own m], ?_, fun d hd => ?_, ?_, fun _ => by simp⟩
        · rw [List.map_append]
          exact k6
        · rcases List.mem_append.mp hd with hd | hd
          · exact jok d hd
          · have : d = .own m := by simpa using hd
            subst this
            refine ⟨hm, causeL_some ?_⟩
            cases hcl : causeL f s (.own m) with
            | none => rw [hcl] at hb; cases hb
            | some c => rfl
        · rw [List.length_append, List.length_append]
          show _ + 1 + 1 ≤ _
          omega
      · refine ⟨x4.trans x5, ⟨_, rfl⟩, opts ++ [Deed.hear m .a], k4.ex x5, jok, ?_, fun _ => by simp⟩
        rw [List.length_append]
        show _ + 1 ≤ _
        omega
    · obtain ⟨x3, ⟨o5, rfl⟩, opts, ⟨ws, j1, j2, _⟩, jo, _, j4⟩ := hi
      exact ⟨.ref p, rfl, q _ ws p H' np x3 j1 j2 ⟨opts, rfl, j4 (by omega), jo⟩⟩
abbrev NextR (f : Form) (s : Stand) (r : PyData) : Prop := ∃ d a, r = eDeed d ∧ DeedOk f d ∧ answered f s d = some a
abbrev sp_next_L (K : PySem.W.Frag) : Sp := SpT K (α := Form × Stand × Nat) (fun x => FormOk x.1 ∧ StOk x.1 900 x.2.1) (fun x => [eForm x.1, eStand x.2.1, eN x.2.2]) (fun x r => NextR x.1 x.2.1 r)
theorem abc_at (n : Nat) : ∃ g : Sg, ("abc" : Str).cps.toList[n % 3]? = some ((sgStr g).cps.toList.headD 0) ∧ (⟨#[(sgStr g).cps.toList.headD 0]⟩ : Str) = sgStr g := by
  have h : n % 3 = 0 ∨ n % 3 = 1 ∨ n % 3 = 2 := by omega
  rcases h with h | h | h
  · rw [h]; exact ⟨.a, by decide +kernel, by decide +kernel⟩
  · rw [h]; exact ⟨.b, by decide +kernel, by decide +kernel⟩
  · rw [h]; exact ⟨.c, by decide +kernel, by decide +kernel⟩
theorem q_setLR {i : Nat} {R : List PyData → Prop} {α : Type} {C : α → Prop} {A : α → List PyData} {RR : α → List PyData → Prop} (x : α) (hc : C x) (h : YA K tas σ H (A x)) (k : ∀ es v H1, Ex H H1 → IsD K H1 (.list es) v → RR x es → tz D (σ.set i (some v)) H1) : tSeq (tAsg (tCall (SpL K C A RR) [] E0 tas) (gName i)) tz D σ H :=
  h H (Ex.refl H) _ fun vs H1 x1 hi => ⟨A x, RR x, by rw [List.append_nil]; exact hi, ⟨x, hc, rfl, rfl⟩, fun es ws p H2 np x2 hp hd hr => k es _ H2 (x1.trans x2) ⟨p, ws, rfl, sq_of hp, hd⟩ hr⟩
theorem tag_hear (d : Deed) : decide (tagStr d = "hear") = match d with | .hear _ _ => true | _ => false := by
  cases d with
  | own m => exact st_oh
  | hear m g => exact st_hh
  | come r k => exact st_ch
theorem rd_next_L {x : Form × Stand × Nat} (hc : FormOk x.1 ∧ StOk x.1 900 x.2.1) (h : IsDs K H [eForm x.1, eStand x.2.1, eN x.2.2] vs) (q : ∀ d v H', Ex H H' → IsD K H' d v → NextR x.1 x.2.1 d → Q v H') :
    t_next_L K (sp_options_L K) (EndsOf Q) (L2.start N_next_L vs) H := by
  obtain ⟨f, s, n⟩ := x
  dsimp only at hc h q
  obtain ⟨v1, _, rfl, h1, v2, _, rfl, h2, v3, _, rfl, h3, rfl⟩ := h
  refine q_setLR (R := fun _ => True) (f, s) hc (ya_cons (yd_var rfl h1) (ya_cons (yd_var rfl h2) ya_nil)) fun es vo H1 x1 hvo hr => ?_
  obtain ⟨opts, rfl, hne, hok⟩ := hr
  have hpos : 0 < opts.length := List.length_pos_iff.mpr hne
  have hm := Nat.mod_lt n hpos
  have hvo : IsD K H1 (.list (opts.map eDeed)) vo := hvo
  refine q_set (d := eDeed (opts[n % opts.length]'hm)) (ixLM (g := eDeed) (yd_var rfl hvo) (nmod (yd_var rfl (IsD.ex x1 _ _ h3)) (ylenLM (yd_var rfl hvo)) hpos) (List.getElem?_eq_getElem hm)) fun vd H2 x2 hvd => ?_
  have hmem := List.getElem_mem hm
  obtain ⟨hdo, hda⟩ := hok _ hmem
  generalize opts[n % opts.length]'hm = dd at hvd hdo hda
  obtain ⟨a, ha⟩ := Option.isSome_iff_exists.mp hda
  have x12 := x1.trans x2
  refine q_when (yt_test (yeqS (ytag (yd_var rfl hvd)) yd_str)) (fun hb H3 x3 => ?_) fun hb H3 x3 => ?_
  · rw [tag_hear] at hb
    cases dd with
    | own m => cases hb
    | come r k => cases hb
    | hear m g =>
      obtain ⟨g', hg1, hg2⟩ := abc_at (n / 64)
      obtain ⟨a', ha'⟩ := Option.isSome_iff_exists.mp (hear_ans (f := f) (s := s) (m := m) (g := g'))
      refine s_ret (d := eDeed (.hear m g')) (yd_tup (ya_cons yd_str (ya_cons (ix1 (yd_var rfl (IsD.ex x3 _ _ hvd))) (ya_cons ((ixS yd_str (nmod (ndiv (n := n) (m := 64) (yd_var rfl (IsD.ex (x12.trans x3) _ _ h3)) (nlit 64) ⟨by decide, by decide⟩) (nlit 3) (by decide)) (by decide +kernel) hg1).to (by rw [hg2])) ya_nil))) (by simp)) fun v H4 x4 hi => q _ v H4 ((x12.trans x3).trans x4) hi ⟨.hear m g', a', rfl, hdo, ha'⟩
  · exact s_ret (yd_var rfl (IsD.ex x3 _ _ hvd)) fun v H4 x4 hi => q _ v H4 ((x12.trans x3).trans x4) hi ⟨dd, a, rfl, hdo, ha⟩
theorem runLog_snoc {f : Form} : ∀ {l : List Ev} {s : Stand} {e : Ev}, RunLog f s l → answered f (after f s l) e.1 = some e.2 → RunLog f s (l ++ [e])
  | [], _, _, _, h => ⟨h, trivial⟩
  | _ :: _, _, _, h, h2 => ⟨h.1, runLog_snoc h.2 h2⟩
abbrev sp_run_L (K : PySem.W.Frag) : Sp := SpL K (α := Form × Stand × List Nat) (fun x => FormOk x.1 ∧ StOk x.1 10 x.2.1 ∧ x.2.2.length ≤ 30) (fun x => [eForm x.1, eStand x.2.1, eNs x.2.2]) (fun x es => ∃ log, es = (dsOf log).map eDeed ∧ Good x.1 x.2.1 log)
theorem at_last {α : Type} (l : List α) (x : α) : atI (l ++ [x]) (-1) = some x := by
  unfold atI ixN
  rw [List.length_append]
  show (if (0 : Int) ≤ -1 then _ else if -((l.length + 1 : Nat) : Int) ≤ -1 then some (-1 + ((l.length + 1 : Nat) : Int)).toNat else none).bind _ = _
  rw [if_neg (by decide), if_pos (by omega)]
  show (l ++ [x])[(-1 + ((l.length + 1 : Nat) : Int)).toNat]? = some x
  rw [show (-1 + ((l.length + 1 : Nat) : Int)).toNat = l.length by omega, List.getElem?_append_right (Nat.le_refl _), Nat.sub_self]
  rfl
theorem rd_run_L {x : Form × Stand × List Nat} (hc : FormOk x.1 ∧ StOk x.1 10 x.2.1 ∧ x.2.2.length ≤ 30) (h : IsDs K H [eForm x.1, eStand x.2.1, eNs x.2.2] vs) (q : ∀ es ws p H', H p = Option.none → Ex H H' → H' p = some (.lst ws) → IsDs K H' es ws → (∃ log, es = (dsOf log).map eDeed ∧ Good x.1 x.2.1 log) → Q (.ref p) H') :
    t_run_L K (sp_next_L K) (sp_step_L K) (EndsOf Q) (L2.start N_run_L vs) H := by
  obtain ⟨f, base, ns⟩ := x
  dsimp only at hc h q
  obtain ⟨v1, _, rfl, h1, v2, _, rfl, h2, v3, _, rfl, h3, rfl⟩ := h
  obtain ⟨ok, hs, hl⟩ := hc
  refine q_setN (K := K) (yn_lst ya_nil (by simp)) rfl fun p H1 np x1 hp => ?_
  refine q_forLv (j := 2) (v := v3) (ds := ns.map eN) rfl (IsD.ex x1 _ _ h3) (fun i σ' H' => Ex H H' ∧ ∃ vst o4 log, σ' = [some v1, some vst, some v3, some (.ref p), o4] ∧ OL K H' p ((dsOf log).map eDeed) ∧ log.length = i ∧ RunLog f base log ∧ (∀ e ∈ log, DeedOk f e.1) ∧ IsD K H' (eStand (after f base log)) vst)
    ⟨x1, v2, _, [], rfl, hp, rfl, trivial, (fun e h => by cases h), IsD.ex x1 _ _ h2⟩ (fun i σ' H' hi => IsD.ex hi.1 _ _ h3) (fun i d u σ' H' hd hu hi => ?_) fun σ' H' hi => ?_
  · obtain ⟨x2, vst, o4, log, rfl, k1, k2, k3, k4, hst⟩ := hi
    obtain ⟨n, hn, rfl⟩ := map_get hd
    have hil := (List.getElem?_eq_some_iff.mp hn).1
    have hso : StOk f 900 (after f base log) := (stOk_after ok hs k3).mono (by omega)
    refine q_appR (p := p) (ds := (dsOf log).map eDeed) (R := NextR f (after f base log)) rfl k1 (ycR (R := fun (x : Form × Stand × Nat) r => NextR x.1 x.2.1 r) (f, after f base log, n) ⟨ok, hso⟩ (ya_cons (yd_var rfl (IsD.ex x2 _ _ h1)) (ya_cons (yd_var rfl hst) (ya_cons (yd_var rfl hu) ya_nil)))) (fun d hd => by obtain ⟨dd, a, rfl, _⟩ := hd; exact noL_deed _) (by rw [List.length_map]; show (log.map _).length < _; rw [List.length_map]; omega) fun d H3 hdr xb k5 => ?_
    obtain ⟨dd, a, rfl, hdo, ha⟩ := hdr
    have x3 := Ex.exb x2 xb np
    have hst3 := IsD.exb xb k1.noTup _ _ (noL_stand _) hst
    refine s_set (d := eStand (applyA f (after f base log) dd a)) (ix0 (yc (d := .tuple [eStand (applyA f (after f base log) dd a), eWord a.2.2]) (f, after f base log, dd, a) ⟨ok, hdo, hso, ha⟩ (ya_cons (yd_var rfl (IsD.ex x3 _ _ h1)) (ya_cons (yd_var rfl hst3) (ya_cons (yd_op (yd_var rfl k5.isD) (yd_neg yd_int) (rd_ixL (at_last _ _))) ya_nil))) fun _ h => h)) fun v H4 x4 hi => ⟨x3.trans x4, v, _, log ++ [(dd, a)], rfl, ?_, by rw [List.length_append]; show _ + 1 = _; omega, runLog_snoc k3 ha, fun e he => ?_, ?_⟩
    · have e : (dsOf (log ++ [(dd, a)])).map eDeed = (dsOf log).map eDeed ++ [eDeed dd] := by
        show ((log ++ [(dd, a)]).map _).map _ = _
        rw [List.map_append, List.map_append]
        rfl
      rw [e]
      exact k5.ex x4
    · rcases List.mem_append.mp he with he | he
      · exact k4 e he
      · have : e = (dd, a) := by simpa using he
        rw [this]
        exact hdo
    · rw [after_snoc]
      exact hi
  · obtain ⟨x2, vst, o4, log, rfl, ⟨ws, w1, w2, _⟩, k2, k3, k4, hst⟩ := hi
    rw [List.length_map] at k2
    exact ⟨.ref p, rfl, q _ ws p H' np x2 w1 w2 ⟨log, rfl, ok, hs, k4, k3, by omega⟩⟩
end
end Ct

/-! # CtL9 -/
namespace Ct
open PySem PySem.Spec PyProof.Rows L2 Evl
open Run (dsOf RightL)
section
variable {H H' H0 : Hp} {p q : Addr} {K : PySem.W.Frag} {σ : L2.St} {vs : List V} {Q : VK} {D : Ends} {tz : TS} {te tv ty ti tl ta tb : TE} {tas tr : TA} {ds : List PyData} {d : PyData}
/-! ### argument lists of which one is told of only so far -/
def YAR (K : PySem.W.Frag) (ta : TA) (σ : L2.St) (H : Hp) (R : List PyData → Prop) : Prop := ∀ H1, Ex H H1 → ∀ Q : List V → Hp → Prop, (∀ ds vs H2, Ex H1 H2 → IsDs K H2 ds vs → R ds → Q vs H2) → ta σ H1 Q
theorem ya_r {R : PyData → Prop} (h : YR K ta σ H R) (hr : YA K tr σ H ds) : YAR K (tCons ta tr) σ H fun es => ∃ d, R d ∧ es = d :: ds := fun H1 x Q q =>
  h H1 x _ fun d u H2 x2 hu hR => hr H2 (x.trans x2) _ fun us H3 x3 hus => q (d :: ds) (u :: us) H3 (x2.trans x3) ⟨u, us, rfl, IsD.ex x3 _ _ hu, hus⟩ ⟨d, hR, rfl⟩
theorem ya_s {R : List PyData → Prop} (h : YD K ta σ H d) (hr : YAR K tr σ H R) : YAR K (tCons ta tr) σ H fun es => ∃ ds, R ds ∧ es = d :: ds := fun H1 x Q q =>
  h H1 x _ fun u H2 x2 hu => hr H2 (x.trans x2) _ fun ds us H3 x3 hus hR => q (d :: ds) (u :: us) H3 (x2.trans x3) ⟨u, us, rfl, IsD.ex x3 _ _ hu, hus⟩ ⟨ds, hR, rfl⟩
theorem ycAR {α : Type} {C : α → Prop} {A : α → List PyData} {RR : α → PyData → Prop} {R : List PyData → Prop} {R' : PyData → Prop} (h : YAR K tas σ H R) (hG : ∀ ds, R ds → ∃ x, C x ∧ ds = A x ∧ ∀ d, RR x d → R' d) : YR K (tCall (SpT K C A RR) [] E0 tas) σ H R' := fun H1 x Q q =>
  h H1 x _ fun ds vs H2 x2 hi hR => by
    obtain ⟨y, hc, rfl, hr⟩ := hG ds hR
    exact ⟨A y, RR y, by rw [List.append_nil]; exact hi, ⟨y, hc, rfl, rfl⟩, fun d v H3 x3 hd hrr => q d v H3 (x2.trans x3) hd (hr d hrr)⟩
theorem ycAL {α : Type} {C : α → Prop} {A : α → List PyData} {RR : α → List PyData → Prop} {R : List PyData → Prop} {R' : PyData → Prop} (h : YAR K tas σ H R) (hG : ∀ ds, R ds → ∃ x, C x ∧ ds = A x ∧ ∀ es, RR x es → R' (.list es)) : YR K (tCall (SpL K C A RR) [] E0 tas) σ H R' := fun H1 x Q q =>
  h H1 x _ fun ds vs H2 x2 hi hR => by
    obtain ⟨y, hc, rfl, hr⟩ := hG ds hR
    exact ⟨A y, RR y, by rw [List.append_nil]; exact hi, ⟨y, hc, rfl, rfl⟩, fun es ws p H3 np x3 hp hd hrr => q (.list es) _ H3 (x2.trans x3) ⟨p, ws, rfl, sq_of hp, hd⟩ (hr es hrr)⟩
def DrawnR (n : Nat) (d : PyData) : Prop := ∃ l : List Nat, d = eNs l ∧ l.length = n
/-- drawn(cell(script, k), n) -/
theorem yr_drawn {ns : List Int} {k n : Nat} {tk : TE} {v0 : V} {i : Int} (h0 : σ[0]? = some (some v0)) (hs : IsD K H (eInts ns) v0) (hk : YD K tk σ H (eN k)) (hi : i = (n : Int)) (hn : n ≤ 100) :
    YR K (tCall (sp_drawn_L K) [] E0 (tCons (tCall (sp_cell_L K) [] E0 (tCons (tVar 0) (tCons tk tNil))) (tCons (tC (.int i)) tNil))) σ H (DrawnR n) := by
  refine ycAL (ya_r (ycR (R := fun (_ : List Int × Nat) r => ∃ i : Int, r = .int i) (ns, k) trivial (ya_cons (yd_var h0 hs) (ya_cons hk ya_nil))) (ya_cons (nlit n hi) ya_nil)) fun ds hds => ?_
  obtain ⟨d, ⟨c, rfl⟩, rfl⟩ := hds
  exact ⟨(c, n), hn, rfl, fun es hes => by
    obtain ⟨l, rfl, hl⟩ := hes
    exact ⟨l, rfl, hl⟩⟩
/-! ### rule -/
theorem ab_at (n : Nat) : ∃ g : Sg, ("ab" : Str).cps.toList[n % 2]? = some ((sgStr g).cps.toList.headD 0) ∧ (⟨#[(sgStr g).cps.toList.headD 0]⟩ : Str) = sgStr g := by
  have h : n % 2 = 0 ∨ n % 2 = 1 := by omega
  rcases h with h | h
  · rw [h]; exact ⟨.a, by decide +kernel, by decide +kernel⟩
  · rw [h]; exact ⟨.b, by decide +kernel, by decide +kernel⟩
theorem yab {n : Nat} (h : YD K te σ H (eN n)) : ∃ g : Sg, YD K (tOp (rIx K) (tC (.str "ab")) (tOp rModI te (tC (.int 2)))) σ H (eSg g) := by
  obtain ⟨g, h1, h2⟩ := ab_at n
  exact ⟨g, (ixS yd_str (nmod h (nlit 2) (by decide)) (by decide +kernel) h1).to (by rw [h2])⟩
theorem three {l : List Nat} {n : Nat} (h : n + 3 ≤ l.length) : ∃ a b c, (l.drop n).take (n + 3 - n) = [a, b, c] := by
  refine ⟨l[n], l[n + 1], l[n + 2], ?_⟩
  rw [show n + 3 - n = 3 by omega, List.drop_eq_getElem_cons (by omega), List.drop_eq_getElem_cons (by omega), List.drop_eq_getElem_cons (by omega)]
  rfl
structure RuleOk (mine : List Nat) (ru : Rule) : Prop where
  st : ru.start ≤ 2
  ml : ru.moves.length ≤ 9
  mv : ∀ mv ∈ ru.moves, mv.state ≤ 2 ∧ mv.next ≤ 2 ∧ mv.sends.length ≤ 2 ∧ ∀ p ∈ mv.sends, p.1 ∈ mine
abbrev sp_rule_L (K : PySem.W.Frag) : Sp := SpT K (α := List Nat × List Nat) (fun x => 28 ≤ x.1.length ∧ x.2.length ≤ 8) (fun x => [eNs x.1, eNs x.2]) (fun x r => ∃ ru : Rule, r = eRule ru ∧ RuleOk x.2 ru)
theorem yd_nats4 {a b c e : Nat} {i j k l : Int} (h1 : i = (a : Int)) (h2 : j = (b : Int)) (h3 : k = (c : Int)) (h4 : l = (e : Int)) : YD K (tLst (tCons (tC (.int i)) (tCons (tC (.int j)) (tCons (tC (.int k)) (tCons (tC (.int l)) tNil))))) σ H (eNs [a, b, c, e]) := (yn_lst (ya_cons (nlit a h1) (ya_cons (nlit b h2) (ya_cons (nlit c h3) (ya_cons (nlit e h4) ya_nil)))) (by simp)).yd
theorem yint_b {b : Bool} (h : YD K te σ H (.bool b)) : YD K (tCB rIntU (tCons te tNil)) σ H (eN (if b then 1 else 0)) := (yd_cb (ya_cons h ya_nil) rc_int_bool).to (by cases b <;> rfl)
theorem rd_rule_L {x : List Nat × List Nat} (hc : 28 ≤ x.1.length ∧ x.2.length ≤ 8) (h : IsDs K H [eNs x.1, eNs x.2] vs) (q : ∀ d v H', Ex H H' → IsD K H' d v → (∃ ru : Rule, d = eRule ru ∧ RuleOk x.2 ru) → Q v H') : t_rule_L K (EndsOf Q) (L2.start N_rule_L vs) H := by
  obtain ⟨l, mine⟩ := x
  dsimp only at hc h q
  obtain ⟨v1, _, rfl, h1, v2, _, rfl, h2, rfl⟩ := h
  obtain ⟨hl, hm⟩ := hc
  have at0 : l[0]? = some (l.getD 0 0) := by
    rw [List.getD_eq_getElem?_getD, List.getElem?_eq_getElem (by omega)]
    rfl
  refine q_setN (K := K) (yn_lst ya_nil (by simp)) rfl fun p H1 np x1 hp => ?_
  refine q_forR (K := K) (n := 9) (nlit 9) (by decide) (fun k σ' H' => Ex H H' ∧ (∃ o3 o4 o5 o6 o7 o8 o9 o10, σ' = [some v1, some v2, some (.ref p), o3, o4, o5, o6, o7, o8, o9, o10]) ∧ ∃ mvs : List Move, OL K H' p (mvs.map eMove) ∧ mvs.length ≤ k ∧ ∀ mv ∈ mvs, mv.state ≤ 2 ∧ mv.next ≤ 2 ∧ mv.sends.length ≤ 2 ∧ ∀ p ∈ mv.sends, p.1 ∈ mine)
    (fun H2 x2 => ⟨x1.trans x2, ⟨_, _, _, _, _, _, _, _, rfl⟩, [], hp.ex x2, Nat.le_refl _, fun mv h => by cases h⟩) (fun k σ' H' hk hi => ?_) fun σ' H' hi => ?_
  · obtain ⟨x2, ⟨o3, o4, o5, o6, o7, o8, o9, o10, rfl⟩, mvs, k1, k2, k3⟩ := hi
    have yk : ∀ {σ H3}, σ[3]? = some (some (.int (k : Int))) → YD K (tVar 3) σ H3 (eN k) := fun {σ H3} a => yd_var a (show IsD K H3 (eN k) (.int (k : Int)) from rfl)
    have y3k : ∀ {σ H3}, σ[3]? = some (some (.int (k : Int))) → YD K (tOp (rTimes K) (tC (.int 3)) (tVar 3)) σ H3 (eN (3 * k)) := fun {σ H3} a => nmul (nlit 3) (yk a) (.inl ⟨by decide, by decide⟩)
    obtain ⟨a, b, c, habc⟩ := three (l := l) (n := 1 + 3 * k) (by omega)
    refine q_unl3 (d1 := eN a) (d2 := eN b) (d3 := eN c) ((yn_mid (n := 1 + 3 * k) (k := 4 + 3 * k) (yd_var rfl (IsD.ex x2 _ _ h1)) (nadd (nlit 1) (y3k rfl)) (nadd (nlit 4) (y3k rfl)) (by rw [List.length_map]; omega) (by omega)).yd.to ?_) fun ua ub uc H3 x3 hua hub huc => ?_
    · rw [← List.map_drop, ← List.map_take, show 4 + 3 * k - (1 + 3 * k) = 1 + 3 * k + 3 - (1 + 3 * k) by omega, habc]
      rfl
    have e1 : ua = .int (a : Int) := hua
    have e2 : ub = .int (b : Int) := hub
    have e3 : uc = .int (c : Int) := huc
    subst e1 e2 e3
    refine q_setN (K := K) (yn_lst ya_nil (by simp)) rfl fun ps H4 nps x4 hps => ?_
    have x24 := (x2.trans x3).trans x4
    have k14 := (k1.ex x3).ex x4
    have hne : p ≠ ps := (k1.ex x3).ne nps
    have nps0 : H ps = Option.none := fresh_back (x2.trans x3) nps
    have ya : ∀ {σ H3}, σ[4]? = some (some (.int (a : Int))) → YD K (tVar 4) σ H3 (eN a) := fun {σ H3} z => yd_var z (show IsD K H3 (eN a) (.int (a : Int)) from rfl)
    have yb : ∀ {σ H3}, σ[5]? = some (some (.int (b : Int))) → YD K (tVar 5) σ H3 (eN b) := fun {σ H3} z => yd_var z (show IsD K H3 (eN b) (.int (b : Int)) from rfl)
    have yc' : ∀ {σ H3}, σ[6]? = some (some (.int (c : Int))) → YD K (tVar 6) σ H3 (eN c) := fun {σ H3} z => yd_var z (show IsD K H3 (eN c) (.int (c : Int)) from rfl)
    have hmod4 : a / 6 % 4 < 4 := Nat.mod_lt _ (by decide)
    obtain ⟨cnt, hcnt, hc2⟩ : ∃ cnt, [0, 1, 1, 2][a / 6 % 4]? = some cnt ∧ cnt ≤ 2 := by
      have h : a / 6 % 4 = 0 ∨ a / 6 % 4 = 1 ∨ a / 6 % 4 = 2 ∨ a / 6 % 4 = 3 := by omega
      rcases h with h | h | h | h <;> rw [h] <;> exact ⟨_, rfl, by decide⟩
    have hcm : cnt * (if decide (0 < mine.length) = true then 1 else 0) ≤ 2 := by split <;> omega
    refine q_forR (n := cnt * (if decide (0 < mine.length) = true then 1 else 0)) (nmul (ixLM (g := eN) (l := [0, 1, 1, 2]) (yd_nats4 rfl rfl rfl rfl) (nmod (ndiv (n := a) (m := 6) (ya rfl) (nlit 6) ⟨by decide, by decide⟩) (nlit 4) (by decide)) hcnt) (yint_b (ngt (ylenLM (yd_var rfl (IsD.ex x24 _ _ h2))) (nlit 0))) (.inl ⟨by omega, by omega⟩)) (by omega)
      (fun i σ' H' => Ex H H' ∧ (∃ o8 o9, σ' = [some v1, some v2, some (.ref p), some (.int (k : Int)), some (.int (a : Int)), some (.int (b : Int)), some (.int (c : Int)), some (.ref ps), o8, o9, o10]) ∧ OL K H' p (mvs.map eMove) ∧ ∃ sd : List (Nat × Sg), OL K H' ps (sd.map eSend) ∧ sd.length = i ∧ ∀ p ∈ sd, p.1 ∈ mine)
      (fun H5 x5 => ⟨x24.trans x5, ⟨_, _, rfl⟩, k14.ex x5, [], hps.ex x5, rfl, fun p h => by cases h⟩) (fun i σ' H' hi hv => ?_) fun σ' H' hv => ?_
    · obtain ⟨x5, ⟨o8, o9, rfl⟩, j0, sd, j1, j2, j3⟩ := hv
      have hpos : 0 < mine.length := by
        by_cases z : 0 < mine.length
        · exact z
        · rw [decide_eq_false z] at hi
          simp at hi
      have yi : ∀ {σ H3}, σ[8]? = some (some (.int (i : Int))) → YD K (tVar 8) σ H3 (eN i) := fun {σ H3} z => yd_var z (show IsD K H3 (eN i) (.int (i : Int)) from rfl)
      have hmm := Nat.mod_lt (b / 3 + i * c) hpos
      refine q_set (d := eN (mine[(b / 3 + i * c) % mine.length]'hmm)) (ixLM (g := eN) (yd_var rfl (IsD.ex x5 _ _ h2)) (nmod (nadd (ndiv (n := b) (m := 3) (yb rfl) (nlit 3) ⟨by decide, by decide⟩) (nmul (yi rfl) (yc' rfl) (.inl ⟨by omega, by omega⟩))) (ylenLM (yd_var rfl (IsD.ex x5 _ _ h2))) hpos) (List.getElem?_eq_getElem hmm)) fun ur H6 x6 hur => ?_
      have hmem := List.getElem_mem hmm
      generalize mine[(b / 3 + i * c) % mine.length]'hmm = rr at hur hmem
      obtain ⟨g, hg⟩ := yab (K := K) (H := H6) (nadd (n := c / 2) (m := i) (ndiv (n := c) (m := 2) (yc' (σ := [some v1, some v2, some (.ref p), some (.int (k : Int)), some (.int (a : Int)), some (.int (b : Int)), some (.int (c : Int)), some (.ref ps), some (.int (i : Int)), some ur, o10]) rfl) (nlit 2) ⟨by decide, by decide⟩) (yi rfl))
      refine s_app (p := ps) (ds := sd.map eSend) (d := eSend (rr, g)) rfl (j1.ex x6) (yd_tup (ya_cons (yd_var rfl hur) (ya_cons hg ya_nil)) (by simp)) rfl (by rw [List.length_map]; omega) fun H7 xb j7 => ?_
      refine ⟨Ex.exb (x5.trans x6) xb nps0, ⟨_, _, rfl⟩, OL.exb xb (j1.ex x6).noTup hne (j0.ex x6), sd ++ [(rr, g)], ?_, by rw [List.length_append]; show _ + 1 = _; omega, fun p hp => ?_⟩
      · rw [List.map_append]
        exact j7
      · rcases List.mem_append.mp hp with hp | hp
        · exact j3 p hp
        · have : p = (rr, g) := by simpa using hp
          rw [this]
          exact hmem
    · obtain ⟨x5, ⟨o8, o9, rfl⟩, j0, sd, j1, j2, j3⟩ := hv
      have hmod5 : c / 4 % 5 < 5 := Nat.mod_lt _ (by decide)
      obtain ⟨w, hw⟩ : ∃ w : Option Str, ([none, none, some "hi", some "no", some "on"] : List (Option Str))[c / 4 % 5]? = some w := ⟨_, List.getElem?_eq_getElem hmod5⟩
      refine q_set (d := eWord w) (ixLM (g := eWord) (l := [none, none, some "hi", some "no", some "on"]) (yn_lst (ya_cons yd_non (ya_cons yd_non (ya_cons yd_str (ya_cons yd_str (ya_cons yd_str ya_nil))))) (by simp)).yd (nmod (ndiv (n := c) (m := 4) (yc' rfl) (nlit 4) ⟨by decide, by decide⟩) (nlit 5) (by decide)) hw) fun uw H6 x6 huw => ?_
      refine s_when (yt_test (ngt (nmod (n := a) (m := 6) (ya rfl) (nlit 6) (by decide)) (nlit 0))) (fun hb H7 x7 => ?_) fun hb H7 x7 => ?_
      · have hmod3 : k % 3 < 3 := Nat.mod_lt _ (by decide)
        obtain ⟨cs, hcs⟩ : ∃ cs : Cs, ([.own, .sg .a, .sg .b] : List Cs)[k % 3]? = some cs := ⟨_, List.getElem?_eq_getElem hmod3⟩
        have x67 := x6.trans x7
        refine s_app (p := p) (ds := mvs.map eMove) (d := eMove ⟨k / 3, cs, b % 3, sd, w⟩) rfl (j0.ex x67) (yd_tup (ya_cons (ndiv (n := k) (m := 3) (yk rfl) (nlit 3) ⟨by decide, by decide⟩) (ya_cons (ixLM (g := eCs) (l := [.own, .sg .a, .sg .b]) (yn_lst (ya_cons yd_str (ya_cons yd_str (ya_cons yd_str ya_nil))) (by simp)).yd (nmod (n := k) (m := 3) (yk rfl) (nlit 3) (by decide)) hcs) (ya_cons (nmod (n := b) (m := 3) (yb rfl) (nlit 3) (by decide)) (ya_cons (yd_tupL (yd_var rfl (j1.ex x67).isD)) (ya_cons (yd_var rfl (IsD.ex x7 _ _ huw)) ya_nil))))) (by simp)) (noL_move _) (by rw [List.length_map]; omega) fun H8 xb k8 => ?_
        refine ⟨Ex.exb (x5.trans x67) xb np, ⟨_, _, _, _, _, _, _, _, rfl⟩, mvs ++ [⟨k / 3, cs, b % 3, sd, w⟩], ?_, by rw [List.length_append]; show _ + 1 ≤ _; omega, fun mv hmv => ?_⟩
        · rw [List.map_append]
          exact k8
        · rcases List.mem_append.mp hmv with hmv | hmv
          · exact k3 mv hmv
          · have : mv = ⟨k / 3, cs, b % 3, sd, w⟩ := by simpa using hmv
            subst this
            exact ⟨by show k / 3 ≤ 2; omega, by show b % 3 ≤ 2; omega, by show sd.length ≤ 2; omega, j3⟩
      · exact ⟨(x5.trans x6).trans x7, ⟨_, _, _, _, _, _, _, _, rfl⟩, mvs, (j0.ex x6).ex x7, by omega, k3⟩
  · obtain ⟨x2, ⟨o3, o4, o5, o6, o7, o8, o9, o10, rfl⟩, mvs, k1, k2, k3⟩ := hi
    exact s_ret (yd_tup (ya_cons (nmod (ixLM (g := eN) (yd_var rfl (IsD.ex x2 _ _ h1)) (nlit 0) at0) (nlit 3) (by decide)) (ya_cons (yd_tupL (yd_var rfl k1.isD)) ya_nil)) (by simp)) fun v H4 x4 hi => q _ v H4 (x2.trans x4) hi ⟨⟨l.getD 0 0 % 3, mvs⟩, rfl, by show _ % 3 ≤ 2; omega, k2, k3⟩
/-! ### form -/
theorem other_ne {M one t : Nat} (h1 : one < M) (ht : t < M - 1) : one ≠ (one + 1 + t) % M := by
  by_cases h : one + 1 + t < M
  · rw [Nat.mod_eq_of_lt h]
    omega
  · rw [Nat.mod_eq_sub_mod (by omega), Nat.mod_eq_of_lt (by omega)]
    omega
abbrev sp_form_L (K : PySem.W.Frag) : Sp := SpT K (α := List Int) (fun _ => True) (fun ns => [eInts ns]) (fun _ r => ∃ f, r = eForm f ∧ FormOk f)
theorem yd_nats8 {a b c e a' b' c' e' : Nat} {i j k l i' j' k' l' : Int} (h1 : i = (a : Int)) (h2 : j = (b : Int)) (h3 : k = (c : Int)) (h4 : l = (e : Int)) (h1' : i' = (a' : Int)) (h2' : j' = (b' : Int)) (h3' : k' = (c' : Int)) (h4' : l' = (e' : Int)) : YD K (tLst (tCons (tC (.int i)) (tCons (tC (.int j)) (tCons (tC (.int k)) (tCons (tC (.int l)) (tCons (tC (.int i')) (tCons (tC (.int j')) (tCons (tC (.int k')) (tCons (tC (.int l')) tNil))))))))) σ H (eNs [a, b, c, e, a', b', c', e']) := (yn_lst (ya_cons (nlit a h1) (ya_cons (nlit b h2) (ya_cons (nlit c h3) (ya_cons (nlit e h4) (ya_cons (nlit a' h1') (ya_cons (nlit b' h2') (ya_cons (nlit c' h3') (ya_cons (nlit e' h4') ya_nil)))))))) (by simp)).yd
theorem noLs_rules (l : List Rule) : noLs (l.map eRule) = true := noLs_map noL_rule l
theorem rd_form_L {ns : List Int} (hc : True) (h : IsDs K H [eInts ns] vs) (q : ∀ d v H', Ex H H' → IsD K H' d v → (∃ f, d = eForm f ∧ FormOk f) → Q v H') : t_form_L K (sp_drawn_L K) (sp_cell_L K) (sp_rule_L K) (EndsOf Q) (L2.start N_form_L vs) H := by
  obtain ⟨v1, _, rfl, h1, rfl⟩ := h
  refine q_setR (yr_drawn (n := 26) rfl h1 (nlit 0) rfl (by decide)) fun d v2 H1 x1 h2 hd => ?_
  obtain ⟨l, rfl, hl⟩ := hd
  have atl : ∀ {i}, i < 26 → l[i]? = some (l.getD i 0) := fun {i} hi => by
    rw [List.getD_eq_getElem?_getD, List.getElem?_eq_getElem (by omega)]
    rfl
  have h8 : ∀ n : Nat, n % 8 = 0 ∨ n % 8 = 1 ∨ n % 8 = 2 ∨ n % 8 = 3 ∨ n % 8 = 4 ∨ n % 8 = 5 ∨ n % 8 = 6 ∨ n % 8 = 7 := fun n => by omega
  obtain ⟨M, hM, hM1, hM4⟩ : ∃ M, [2, 2, 3, 3, 3, 4, 1, 2][l.getD 0 0 % 8]? = some M ∧ 1 ≤ M ∧ M ≤ 4 := by
    rcases h8 (l.getD 0 0) with h | h | h | h | h | h | h | h <;> rw [h] <;> exact ⟨_, rfl, by decide, by decide⟩
  obtain ⟨R, hR, hR8⟩ : ∃ R, [1, 2, 3, 4, 5, 6, 8, 0][l.getD 1 0 % 8]? = some R ∧ R ≤ 8 := by
    rcases h8 (l.getD 1 0) with h | h | h | h | h | h | h | h <;> rw [h] <;> exact ⟨_, rfl, by decide⟩
  refine q_set (d := eN M) (ixLM (g := eN) (l := [2, 2, 3, 3, 3, 4, 1, 2]) (yd_nats8 rfl rfl rfl rfl rfl rfl rfl rfl) (nmod (ixLM (g := eN) (yd_var rfl h2) (nlit 0) (atl (by decide))) (nlit 8) (by decide)) hM) fun vm H2 x2 hvm => ?_
  have em : vm = .int (M : Int) := hvm
  subst em
  have yM : ∀ {σ H3}, σ[2]? = some (some (.int (M : Int))) → YD K (tVar 2) σ H3 (eN M) := fun {σ H3} z => yd_var z (show IsD K H3 (eN M) (.int (M : Int)) from rfl)
  refine q_setN (K := K) (yn_lst ya_nil (by simp)) rfl fun p H3 np x3 hp => ?_
  have x13 := (x1.trans x2).trans x3
  have np0 : H p = Option.none := fresh_back (x1.trans x2) np
  have np1 : H1 p = Option.none := fresh_back x2 np
  have hcR : R * (if decide (1 < M) = true then 1 else 0) ≤ 8 := by split <;> omega
  refine q_forR (n := R * (if decide (1 < M) = true then 1 else 0)) (nmul (ixLM (g := eN) (l := [1, 2, 3, 4, 5, 6, 8, 0]) (yd_nats8 rfl rfl rfl rfl rfl rfl rfl rfl) (nmod (ixLM (g := eN) (yd_var rfl (IsD.ex (x2.trans x3) _ _ h2)) (nlit 1) (atl (by decide))) (nlit 8) (by decide)) hR) (yint_b (ngt (yM rfl) (nlit 1))) (.inl ⟨by omega, by omega⟩)) (by omega)
    (fun i σ' H' => Ex H1 H' ∧ (∃ o4 o5 o6, σ' = [some v1, some v2, some (.int (M : Int)), some (.ref p), o4, o5, o6, none, none, none, none, none]) ∧ ∃ rds : List Road, OL K H' p (rds.map eRoad) ∧ rds.length = i ∧ ∀ rd ∈ rds, RoadOk M rd)
    (fun H4 x4 => ⟨(x2.trans x3).trans x4, ⟨_, _, _, rfl⟩, [], hp.ex x4, rfl, fun p h => by cases h⟩) (fun i σ' H' hi hv => ?_) fun σ' H' hv => ?_
  · obtain ⟨x4, ⟨o4, o5, o6, rfl⟩, rds, k1, k2, k3⟩ := hv
    have hM2 : 1 < M := by
      by_cases z : 1 < M
      · exact z
      · rw [decide_eq_false z] at hi
        simp at hi
    have yi3 : ∀ {σ H3}, σ[4]? = some (some (.int (i : Int))) → YD K (tOp (rTimes K) (tC (.int 3)) (tVar 4)) σ H3 (eN (3 * i)) := fun {σ H3} z => nmul (nlit 3) (yd_var z (show IsD K H3 (eN i) (.int (i : Int)) from rfl)) (.inl ⟨by decide, by decide⟩)
    have hm1 := Nat.mod_lt (l.getD (2 + 3 * i) 0) hM1
    have hm2 := Nat.mod_lt (l.getD (3 + 3 * i) 0) (show 0 < M - 1 by omega)
    refine q_set (d := eN (l.getD (2 + 3 * i) 0 % M)) (nmod (ixLM (g := eN) (yd_var rfl (IsD.ex x4 _ _ h2)) (nadd (nlit 2) (yi3 rfl)) (atl (by omega))) (yM rfl) hM1) fun u1 H5 x5 hu1 => ?_
    have h2' := IsD.ex (x4.trans x5) _ _ h2
    refine q_set (d := eN ((l.getD (2 + 3 * i) 0 % M + 1 + l.getD (3 + 3 * i) 0 % (M - 1)) % M)) (nmod (nadd (nadd (yd_var rfl hu1) (nlit 1)) (nmod (ixLM (g := eN) (yd_var rfl h2') (nadd (nlit 3) (yi3 rfl)) (atl (by omega))) (nsub (yM rfl) (nlit 1) hM1) (by omega))) (yM rfl) hM1) fun u2 H6 x6 hu2 => ?_
    have hne := other_ne hm1 hm2
    have hm3 := Nat.mod_lt (l.getD (2 + 3 * i) 0 % M + 1 + l.getD (3 + 3 * i) 0 % (M - 1)) hM1
    generalize l.getD (2 + 3 * i) 0 % M = one at hu1 hu2 hne hm1 hm3
    generalize (one + 1 + l.getD (3 + 3 * i) 0 % (M - 1)) % M = other at hu2 hne hm3
    have h2m : ∀ n : Nat, n % 2 = 0 ∨ n % 2 = 1 := fun n => by omega
    obtain ⟨row, hrow⟩ : ∃ row : Bool, ([true, false] : List Bool)[l.getD (4 + 3 * i) 0 % 2]? = some row := by
      rcases h2m (l.getD (4 + 3 * i) 0) with h | h <;> rw [h] <;> exact ⟨_, rfl⟩
    refine s_app (p := p) (ds := rds.map eRoad) (d := eRoad ⟨one, other, row⟩) rfl ((k1.ex x5).ex x6) (yd_tup (ya_cons (yd_var rfl (IsD.ex x6 _ _ hu1)) (ya_cons (yd_var rfl hu2) (ya_cons (ixLM (g := fun b => PyData.str (rowStr b)) (l := [true, false]) (yn_lst (ya_cons yd_str (ya_cons yd_str ya_nil)) (by simp)).yd (nmod (ixLM (g := eN) (yd_var rfl (IsD.ex x6 _ _ h2')) (nadd (nlit 4) (yi3 rfl)) (atl (by omega))) (nlit 2) (by decide)) hrow) ya_nil))) (by simp)) rfl (by rw [List.length_map]; omega) fun H7 xb k7 => ?_
    refine ⟨Ex.exb ((x4.trans x5).trans x6) xb np1, ⟨_, _, _, rfl⟩, rds ++ [⟨one, other, row⟩], ?_, by rw [List.length_append]; show _ + 1 = _; omega, fun rd hrd => ?_⟩
    · rw [List.map_append]
      exact k7
    · rcases List.mem_append.mp hrd with hrd | hrd
      · exact k3 rd hrd
      · have : rd = ⟨one, other, row⟩ := by simpa using hrd
        subst this
        exact ⟨hm1, hm3, hne⟩
  · obtain ⟨x4, ⟨o4, o5, o6, rfl⟩, rds, k1, k2, k3⟩ := hv
    refine q_setN (K := K) (yn_lst ya_nil (by simp)) rfl fun pq H5 npq x5 hpq => ?_
    have hne : p ≠ pq := k1.ne npq
    have x15 := x1.trans (x4.trans x5)
    have npq0 : H pq = Option.none := fresh_back (x1.trans x4) npq
    refine q_forR (n := M) (yM rfl) (by omega) (fun m σ' H' => Ex H H' ∧ (∃ o8 o9 o10, σ' = [some v1, some v2, some (.int (M : Int)), some (.ref p), o4, o5, o6, some (.ref pq), o8, o9, o10, none]) ∧ OL K H' p (rds.map eRoad) ∧ ∃ rus : List Rule, OL K H' pq (rus.map eRule) ∧ rus.length = m ∧ ∀ i ru, rus[i]? = some ru → RuleOk ((List.range rds.length).filter fun r => decide ((rds.getD r ⟨0, 0, false⟩).one = i)) ru)
      (fun H6 x6 => ⟨x15.trans x6, ⟨_, _, _, rfl⟩, (k1.ex x5).ex x6, [], hpq.ex x6, rfl, fun i ru h => by simp at h⟩) (fun m σ' H' hm hv => ?_) fun σ' H' hv => ?_
    · obtain ⟨x6, ⟨o8, o9, o10, rfl⟩, j0, rus, j1, j2, j3⟩ := hv
      have ym : ∀ {σ H3}, σ[8]? = some (some (.int (m : Int))) → YD K (tVar 8) σ H3 (eN m) := fun {σ H3} z => yd_var z (show IsD K H3 (eN m) (.int (m : Int)) from rfl)
      refine q_set (YN.yd (ds := ((List.range rds.length).filter fun r => decide ((rds.getD r ⟨0, 0, false⟩).one = m)).map eN) ((yn_lcR (n := rds.length) (fun r => decide ((rds.getD r ⟨0, 0, false⟩).one = m)) eN (ylenLM (yd_var rfl j0.isD)) (by omega) (fun _ => rfl) (fun r H7 x7 hr => ?_) (fun r H7 x7 hr _ => yd_var rfl rfl) fun _ _ _ => rfl).to rfl)) fun un H7 x7 hun => ?_
      · have e : rds[r]? = some (rds.getD r ⟨0, 0, false⟩) := by
          rw [List.getD_eq_getElem?_getD, List.getElem?_eq_getElem hr]
          rfl
        exact yt_test (neq (ix0 (ixLM (g := eRoad) (yd_var rfl (j0.ex x7).isD) (yd_var rfl (show IsD K H7 (eN r) (.int (r : Int)) from rfl)) e)) (ym rfl))
      · have hml := List.length_filter_le (fun r => decide ((rds.getD r ⟨0, 0, false⟩).one = m)) (List.range rds.length)
        rw [List.length_range] at hml
        generalize hmine : (List.range rds.length).filter (fun r => decide ((rds.getD r ⟨0, 0, false⟩).one = m)) = mine at hun hml
        have x67 := x6.trans x7
        refine q_setR (yr_drawn (n := 28) rfl (IsD.ex x67 _ _ h1) (nadd (nlit 1) (ym rfl)) rfl (by decide)) fun d ud H8 x8 hud hd => ?_
        obtain ⟨l2, rfl, hl2⟩ := hd
        refine s_appR (p := pq) (ds := rus.map eRule) (R := fun r => ∃ ru : Rule, r = eRule ru ∧ RuleOk mine ru) rfl ((j1.ex x7).ex x8) (ycR (R := fun (x : List Nat × List Nat) r => ∃ ru : Rule, r = eRule ru ∧ RuleOk x.2 ru) (l2, mine) ⟨by show 28 ≤ l2.length; omega, by show mine.length ≤ 8; omega⟩ (ya_cons (yd_var rfl hud) (ya_cons (yd_var rfl (IsD.ex x8 _ _ hun)) ya_nil))) (fun d hd => by obtain ⟨ru, rfl, _⟩ := hd; exact noL_rule _) (by rw [List.length_map]; omega) fun d H9 hd xb k9 => ?_
        obtain ⟨ru, rfl, hru⟩ := hd
        refine ⟨Ex.exb (x67.trans x8) xb npq0, ⟨_, _, _, rfl⟩, OL.exb xb ((j1.ex x7).ex x8).noTup hne ((j0.ex x7).ex x8), rus ++ [ru], ?_, by rw [List.length_append]; show _ + 1 = _; omega, fun i ru' hi => ?_⟩
        · rw [List.map_append]
          exact k9
        · by_cases hil : i < rus.length
          · rw [List.getElem?_append_left hil] at hi
            exact j3 i ru' hi
          · have hil2 : i = m := by
              have := (List.getElem?_eq_some_iff.mp hi).1
              rw [List.length_append] at this
              have : i < rus.length + 1 := this
              omega
            subst hil2
            rw [List.getElem?_append_right (by omega), j2, Nat.sub_self] at hi
            have : ru = ru' := by simpa using hi
            subst this
            rw [hmine]
            exact hru
    · obtain ⟨x6, ⟨o8, o9, o10, rfl⟩, j0, rus, j1, j2, j3⟩ := hv
      refine s_ret (yd_tup (ya_cons (yd_tupL (yd_var rfl j1.isD)) (ya_cons (yd_tupL (yd_var rfl j0.isD)) ya_nil)) (by simp)) fun v H7 x7 hi => q _ v H7 (x6.trans x7) hi ⟨⟨rus, rds⟩, rfl, ⟨by show 1 ≤ rus.length; omega, by show rus.length ≤ 4; omega, by show rds.length ≤ 8; omega, fun rd hrd => by show RoadOk rus.length rd; rw [j2]; exact k3 rd hrd, fun m ru hm => ?_⟩⟩
      have hr := j3 m ru hm
      refine ⟨hr.st, hr.ml, fun mv hmv => ?_⟩
      obtain ⟨a, b, c, e⟩ := hr.mv mv hmv
      refine ⟨a, b, c, fun p hp => ?_⟩
      obtain ⟨f1, f2⟩ := List.mem_filter.mp (e p hp)
      have f1 := List.mem_range.mp f1
      refine ⟨f1, ?_⟩
      have f2 := of_decide_eq_true f2
      rw [List.getD_eq_getElem?_getD, List.getElem?_eq_getElem f1] at f2
      unfold oneAt
      show (match rds[p.1]? with | some rd => rd.one | none => 0) = m
      rw [List.getElem?_eq_getElem f1]
      exact f2
end
end Ct

/-! # CtL10 -/
namespace Ct
open PySem PySem.Spec PyProof.Rows L2 Evl
open Run (dsOf RightL)
section
variable {H H' H0 : Hp} {p q : Addr} {K : PySem.W.Frag} {σ : L2.St} {vs : List V} {Q : VK} {D : Ends} {tz : TS} {te tv ty ti tl ta tb : TE} {tas tr : TA} {ds : List PyData} {d : PyData}
abbrev sp_base_L (K : PySem.W.Frag) : Sp := SpT K (α := List Int × Form) (fun x => FormOk x.2) (fun x => [eInts x.1, eForm x.2]) (fun x r => ∃ s, r = eStand s ∧ StOk x.2 10 s)
/-- the numbers that wait at the start -/
structure KsOk (row : Bool) (s : Nat) (ks : List Nat) : Prop where
  up : ks.Pairwise (· < ·)
  lt : ∀ k ∈ ks, k < s
  row : row = true → ks = List.range' (s - ks.length) ks.length
  le : ks.length ≤ s
theorem load_of {row : Bool} {s : Nat} {ks : List Nat} (g : Nat → Sg) (h : KsOk row s ks) (hs : s ≤ 4) : LoadOk row 10 ⟨s, ks.map fun k => (k, g k)⟩ := by
  have e : (ks.map fun k => (k, g k)).map (·.1) = ks := by
    rw [List.map_map]
    exact List.map_id ks
  have hle := h.le
  refine ⟨fun p hp => ?_, ?_, fun hr => ?_, ?_, by show s ≤ 10; omega, ?_⟩
  · obtain ⟨k, hk, rfl⟩ := List.mem_map.mp hp
    exact h.lt k hk
  · show ((ks.map fun k => (k, g k)).map (·.1)).Pairwise (· < ·)
    rw [e]
    exact h.up
  · show (ks.map fun k => (k, g k)).map (·.1) = List.range' (s - (ks.map fun k => (k, g k)).length) (ks.map fun k => (k, g k)).length
    rw [e, List.length_map]
    exact h.row hr
  · show (ks.map _).length ≤ 10
    rw [List.length_map]
    omega
  · show (ks.map _).length ≤ s
    rw [List.length_map]
    exact hle
theorem ks_row {a s : Nat} (h : a ≤ s) (row : Bool) : KsOk row s (List.range' a (s - a)) := by
  refine ⟨range'_up _ _, fun k hk => ?_, fun _ => ?_, ?_⟩
  · have := List.mem_range'_1.mp hk
    omega
  · rw [List.length_range']
    congr 1
    omega
  · rw [List.length_range']
    omega
theorem ks_heap {s : Nat} (f : Nat → Bool) : KsOk false s ((List.range s).filter f) := by
  refine ⟨?_, fun k hk => List.mem_range.mp (List.mem_filter.mp hk).1, fun z => (by cases z), ?_⟩
  · have : (List.range s).Pairwise (· < ·) := by
      rw [List.range_eq_range']
      exact range'_up _ _
    exact this.sublist (List.filter_sublist ..)
  · have := List.length_filter_le f (List.range s)
    rw [List.length_range] at this
    exact this
theorem rd_base_L {x : List Int × Form} (hc : FormOk x.2) (h : IsDs K H [eInts x.1, eForm x.2] vs) (q : ∀ d v H', Ex H H' → IsD K H' d v → (∃ s, d = eStand s ∧ StOk x.2 10 s) → Q v H') : t_base_L K (sp_drawn_L K) (sp_cell_L K) (EndsOf Q) (L2.start N_base_L vs) H := by
  obtain ⟨ns, f⟩ := x
  dsimp only at hc h q
  obtain ⟨v1, _, rfl, h1, v2, _, rfl, h2, rfl⟩ := h
  have n8 := hc.rfew
  have n4 := hc.few
  refine q_setR (yr_drawn (n := 21) rfl h1 (nlit 5) rfl (by decide)) fun d v3 H1 x1 h3 hd => ?_
  obtain ⟨l, rfl, hl⟩ := hd
  have atl : ∀ {i}, i < 21 → l[i]? = some (l.getD i 0) := fun {i} hi => by
    rw [List.getD_eq_getElem?_getD, List.getElem?_eq_getElem (by omega)]
    rfl
  refine q_setN (K := K) (yn_lst ya_nil (by simp)) rfl fun p H2 np x2 hp => ?_
  have x12 := x1.trans x2
  have np0 : H p = Option.none := fresh_back x1 np
  refine q_forR (n := f.roads.length) (ylenTM (ix1 (yd_var rfl (IsD.ex x12 _ _ h2)))) (by omega)
    (fun r σ' H' => Ex H1 H' ∧ (∃ o4 o5 o6, σ' = [some v1, some v2, some v3, some (.ref p), o4, o5, o6, none, none, none]) ∧ ∃ lds : List Load, OL K H' p (lds.map eLoad) ∧ lds.length = r ∧ ∀ i ld, lds[i]? = some ld → LoadOk (rowAt f i) 10 ld)
    (fun H3 x3 => ⟨x2.trans x3, ⟨_, _, _, rfl⟩, [], hp.ex x3, rfl, fun i ld h => by simp at h⟩) (fun r σ' H' hr hv => ?_) fun σ' H' hv => ?_
  · obtain ⟨x3, ⟨o4, o5, o6, rfl⟩, lds, k1, k2, k3⟩ := hv
    obtain ⟨rd, hrd, _, erow, _⟩ := roads_at hr
    have yr : ∀ {σ H3}, σ[4]? = some (some (.int (r : Int))) → YD K (tVar 4) σ H3 (eN r) := fun {σ H3} z => yd_var z (show IsD K H3 (eN r) (.int (r : Int)) from rfl)
    refine q_set (d := eN (l.getD (5 + r) 0)) (ixLM (g := eN) (yd_var rfl (IsD.ex x3 _ _ h3)) (nadd (nlit 5) (yr rfl)) (atl (by omega))) fun ux H4 x4 hux => ?_
    generalize l.getD (5 + r) 0 = x at hux
    have ex : ux = .int (x : Int) := hux
    subst ex
    have yx : ∀ {σ H3}, σ[5]? = some (some (.int (x : Int))) → YD K (tVar 5) σ H3 (eN x) := fun {σ H3} z => yd_var z (show IsD K H3 (eN x) (.int (x : Int)) from rfl)
    have hx5 := Nat.mod_lt x (show 0 < 5 by decide)
    have hxs := Nat.mod_lt (x / 5) (show 0 < x % 5 + 1 by omega)
    have yx5 : ∀ {σ H3}, σ[5]? = some (some (.int (x : Int))) → YD K (tOp rModI (tVar 5) (tC (.int 5))) σ H3 (eN (x % 5)) := fun {σ H3} z => nmod (yx z) (nlit 5) (by decide)
    refine q_set (YN.yd (yn_rg2 (nmod (ndiv (n := x) (m := 5) (yx rfl) (nlit 5) ⟨by decide, by decide⟩) (nadd (yx5 rfl) (nlit 1)) (by omega)) (yx5 rfl) (by omega) (by omega))) fun us H5 x5 hus => ?_
    have x45 := (x3.trans x4).trans x5
    have fin : ∀ (ks : List Nat) (uk : V) H6, Ex H5 H6 → IsD K H6 (eNs ks) uk → KsOk rd.row (x % 5) ks → ∀ DD : Ends, (∀ H7 (g : Nat → Sg), Exb p H6 H7 → OL K H7 p ((lds ++ [(⟨x % 5, ks.map fun k => (k, g k)⟩ : Load)]).map eLoad) → DD.nx [some v1, some v2, some v3, some (.ref p), some (.int (r : Int)), some (.int (x : Int)), some uk, none, none, none] H7) →
        tDrop (tBM K "list" rAppend (tVar 3) (tCons (tTup (tCons (tOp rModI (tVar 5) (tC (.int 5))) (tCons (tCB (rTupU K) (tCons (tLc (iList K (tVar 6)) (gName 7) (tYes) (tTup (tCons (tVar 7) (tCons (tOp (rIx K) (tC (.str "ab")) (tOp rModI (tOp rDivI (tOp (rIx K) (tVar 2) (tOp (rPlus K) (tC (.int 13)) (tVar 4))) (tOp (rPlus K) (tVar 7) (tC (.int 1)))) (tC (.int 2)))) (tNil)))) [7]) (tNil))) (tNil)))) (tNil))) DD [some v1, some v2, some v3, some (.ref p), some (.int (r : Int)), some (.int (x : Int)), some uk, none, none, none] H6 := fun ks uk H6 x6 huk hks DD kk => by
      have hg : ∀ k : Nat, ∃ g : Sg, ("ab" : Str).cps.toList[l.getD (13 + r) 0 / (k + 1) % 2]? = some ((sgStr g).cps.toList.headD 0) ∧ (⟨#[(sgStr g).cps.toList.headD 0]⟩ : Str) = sgStr g := fun k => ab_at _
      obtain ⟨g, hg⟩ : ∃ g : Nat → Sg, ∀ k, ("ab" : Str).cps.toList[l.getD (13 + r) 0 / (k + 1) % 2]? = some ((sgStr (g k)).cps.toList.headD 0) ∧ (⟨#[(sgStr (g k)).cps.toList.headD 0]⟩ : Str) = sgStr (g k) := ⟨fun k => Classical.choose (hg k), fun k => Classical.choose_spec (hg k)⟩
      have hkl : ks.length ≤ 4 := by have := hks.le; omega
      have x36 := x45.trans x6
      refine s_app (p := p) (ds := lds.map eLoad) (d := eLoad ⟨x % 5, ks.map fun k => (k, g k)⟩) rfl (((k1.ex x4).ex x5).ex x6) (yd_tup (ya_cons (yx5 rfl) (ya_cons (yd_tupL (YN.yd (ds := (ks.map fun k => (k, g k)).map eSend) ((yn_lcL (ds := ks.map eN) (fun _ => true) (fun i => eSend (ks.getD i 0, g (ks.getD i 0))) (yd_var rfl huk) (by rw [List.length_map]; omega) (fun _ => rfl) (fun _ _ _ _ _ _ _ => et_yes) (fun i d v H7 x7 hi hv _ => ?_) fun i hi _ => rfl).to ?_))) ya_nil)) (by simp)) (noL_load _) (by rw [List.length_map]; omega) fun H7 xb k7 => kk H7 g xb ?_
      · obtain ⟨k, hk, rfl⟩ := map_get hi
        rw [getD_of hk]
        have hk4 : k < 5 := by have := hks.lt k (List.mem_of_getElem? hk); omega
        have yk : ∀ {H8}, YD K (tVar 7) ((wipe [some v1, some v2, some v3, some (.ref p), some (.int (r : Int)), some (.int (x : Int)), some uk, none, none, none] [7]).set 7 (some v)) H8 (eN k) := fun {H8} => yd_var rfl (show IsD K H8 (eN k) v from hv)
        obtain ⟨g1, g2⟩ := hg k
        exact yd_tup (ya_cons yk (ya_cons ((ixS yd_str (nmod (ndiv (n := l.getD (13 + r) 0) (m := k + 1) (ixLM (g := eN) (yd_var rfl (IsD.ex (x36.trans x7) _ _ h3)) (nadd (nlit 13) (yr rfl)) (atl (by omega))) (nadd yk (nlit 1)) ⟨by omega, by omega⟩) (nlit 2) (by decide)) (by decide +kernel) g1).to (by rw [g2])) ya_nil)) (by simp)
      · rw [List.length_map, List.map_map]
        have z := compD_map ks (fun _ => true) (fun k => eSend (k, g k)) 0
        rw [List.filter_eq_self.mpr fun _ _ => rfl] at z
        exact z
      · rw [List.map_append]
        exact k7
    have done : ∀ (ks : List Nat) (uk : V) H6 H7 (g : Nat → Sg), Ex H5 H6 → KsOk rd.row (x % 5) ks → Exb p H6 H7 → OL K H7 p ((lds ++ [(⟨x % 5, ks.map fun k => (k, g k)⟩ : Load)]).map eLoad) → Ex H1 H7 ∧ (∃ o4 o5 o6, [some v1, some v2, some v3, some (.ref p), some (.int (r : Int)), some (.int (x : Int)), some uk, none, none, none] = [some v1, some v2, some v3, some (.ref p), o4, o5, o6, none, none, none]) ∧ ∃ lds : List Load, OL K H7 p (lds.map eLoad) ∧ lds.length = r + 1 ∧ ∀ i ld, lds[i]? = some ld → LoadOk (rowAt f i) 10 ld := fun ks uk H6 H7 g x6 hks xb k7 => by
      refine ⟨Ex.exb (x45.trans x6) xb np, ⟨_, _, _, rfl⟩, _, k7, by rw [List.length_append]; show _ + 1 = _; omega, fun i ld hi => ?_⟩
      by_cases hil : i < lds.length
      · rw [List.getElem?_append_left hil] at hi
        exact k3 i ld hi
      · have hil2 : i = r := by
          have := (List.getElem?_eq_some_iff.mp hi).1
          rw [List.length_append] at this
          have : i < lds.length + 1 := this
          omega
        subst hil2
        rw [List.getElem?_append_right (by omega), k2, Nat.sub_self] at hi
        have : (⟨x % 5, ks.map fun k => (k, g k)⟩ : Load) = ld := by simpa using hi
        rw [← this, erow]
        exact load_of g hks (by omega)
    have hheap : decide (rowStr rd.row = ("heap" : Str)) = !rd.row := by cases rd.row <;> decide +kernel
    refine q_when (b := !rd.row) (et_is (yt_test (yeqS (ix2 (ixM (g := eRoad) (ix1 (yd_var rfl (IsD.ex (x1.trans x45) _ _ h2))) (yr rfl) hrd)) yd_str)) hheap) (fun hb H6 x6 => ?_) fun hb H6 x6 => ?_
    · have hrf : rd.row = false := by rw [Bool.not_eq_true'] at hb; exact hb
      refine s_set (YN.yd (ds := ((List.range (x % 5)).filter fun k => decide (x / [5, 10, 20, 40].getD k 1 % 2 = 1)).map eN) ((yn_lcR (n := x % 5) (fun k => decide (x / [5, 10, 20, 40].getD k 1 % 2 = 1)) eN (yx5 rfl) (by omega) (fun _ => rfl) (fun k H7 x7 hk => ?_) (fun k H7 x7 hk _ => yd_var rfl rfl) fun _ _ _ => rfl).to rfl)) fun uk H7 x7 huk => ?_
      · have hk4 : k < 4 := by omega
        have hat : [5, 10, 20, 40][k]? = some ([5, 10, 20, 40].getD k 1) := by
          rw [List.getD_eq_getElem?_getD, List.getElem?_eq_getElem (show k < [5, 10, 20, 40].length from hk4)]
          rfl
        have hb5 : 0 < [5, 10, 20, 40].getD k 1 ∧ [5, 10, 20, 40].getD k 1 < 100 := by
          have h : k = 0 ∨ k = 1 ∨ k = 2 ∨ k = 3 := by omega
          rcases h with h | h | h | h <;> rw [h] <;> decide
        exact yt_test (neq (nmod (ndiv (n := x) (yx rfl) (ixLM (g := eN) (l := [5, 10, 20, 40]) (yd_nats4 rfl rfl rfl rfl) (yd_var rfl (show IsD K H7 (eN k) (.int (k : Int)) from rfl)) hat) ⟨by omega, by omega⟩) (nlit 2) (by decide)) (nlit 1))
      · have hks : KsOk rd.row (x % 5) ((List.range (x % 5)).filter fun k => decide (x / [5, 10, 20, 40].getD k 1 % 2 = 1)) := by
          rw [hrf]
          exact ks_heap _
        exact fin _ uk H7 (x6.trans x7) huk hks _ fun H8 g xb k8 => done _ uk H7 H8 g (x6.trans x7) hks xb k8
    · have hks := ks_row (a := x / 5 % (x % 5 + 1)) (s := x % 5) (by omega) rd.row
      exact fin _ us H6 x6 (IsD.ex x6 _ _ hus) hks _ fun H8 g xb k8 => done _ us H6 H8 g x6 hks xb k8
  · obtain ⟨x3, ⟨o4, o5, o6, rfl⟩, lds, k1, k2, k3⟩ := hv
    have x13 := x1.trans x3
    have h2' := IsD.ex x13 _ _ h2
    refine q_when (yt_test (neq (nmod (ixLM (g := eN) (yd_var rfl (IsD.ex x3 _ _ h3)) (nlit 0) (atl (by decide))) (nlit 2) (by decide)) (nlit 0))) (fun hb H4 x4 => ?_) fun hb H4 x4 => ?_
    · have h2'' := IsD.ex x4 _ _ h2'
      refine s_ret (d := eStand ⟨f.rules.map (·.start), List.replicate f.roads.length ⟨0, []⟩⟩) (yd_tup (ya_cons (yd_tupL (YN.yd (ds := (f.rules.map (·.start)).map eN) ((yn_lcT (ds := f.rules.map eRule) (fun _ => true) (fun i => eN (f.rules.getD i ⟨0, []⟩).start) (ix0 (yd_var rfl h2'')) (by rw [List.length_map]; omega) (fun _ => rfl) (fun _ _ _ _ _ _ _ => et_yes) (fun i d v H7 x7 hi hv _ => ?_) fun _ _ _ => rfl).to ?_))) (ya_cons ((yd_op (yd_tup (ya_cons (yd_tup (ya_cons yd_int (ya_cons (yd_tup ya_nil (by simp)) ya_nil)) (by simp)) ya_nil) (by simp)) (ylenTM (ix1 (yd_var rfl h2''))) (rd_mulT (by simp) (by simp) (by omega))).to ?_) ya_nil)) (by simp)) fun v H5 x5 hi => q _ v H5 ((x13.trans x4).trans x5) hi ⟨_, rfl, ?_⟩
      · obtain ⟨ru, hru, rfl⟩ := map_get hi
        rw [getD_of hru]
        exact ix0 (yd_var rfl hv)
      · rw [List.length_map, List.map_map]
        have z := compD_map f.rules (fun _ => true) (fun ru => eN ru.start) ⟨0, []⟩
        rw [List.filter_eq_self.mpr fun _ _ => rfl] at z
        exact z
      · rw [flat_rep]
        show PyData.tuple _ = PyData.tuple _
        rw [List.map_replicate]
        rfl
      · refine ⟨⟨List.length_map _, List.length_replicate ..⟩, fun y hy => ?_, fun r ld hld => ?_⟩
        · obtain ⟨ru, hru, rfl⟩ := List.mem_map.mp hy
          obtain ⟨m, hm⟩ := List.mem_iff_getElem?.mp hru
          exact (hc.rule m ru hm).1
        · have : ld = ⟨0, []⟩ := by
            have := List.mem_of_getElem? hld
            exact (List.mem_replicate.mp this).2
          subst this
          exact ⟨(fun p hp => by cases hp), .nil, fun _ => rfl, by show 0 ≤ 10; omega, by show 0 ≤ 10; omega, by show 0 ≤ 0; omega⟩
    · have h2'' := IsD.ex x4 _ _ h2'
      refine s_ret (d := eStand ⟨(List.range f.rules.length).map fun m => l.getD (1 + m) 0 % 3, lds⟩) (yd_tup (ya_cons (yd_tupL (YN.yd (ds := ((List.range f.rules.length).map fun m => l.getD (1 + m) 0 % 3).map eN) ((yn_lcR (n := f.rules.length) (fun _ => true) (fun m => eN (l.getD (1 + m) 0 % 3)) (ylenTM (ix0 (yd_var rfl h2''))) (by omega) (fun _ => rfl) (fun _ _ _ _ => et_yes) (fun m H7 x7 hm _ => ?_) fun _ _ _ => rfl).to ?_))) (ya_cons (yd_tupL (yd_var rfl (k1.ex x4).isD)) ya_nil)) (by simp)) fun v H5 x5 hi => q _ v H5 ((x13.trans x4).trans x5) hi ⟨_, rfl, ?_⟩
      · exact nmod (ixLM (g := eN) (yd_var rfl (IsD.ex ((x3.trans x4).trans x7) _ _ h3)) (nadd (n := 1) (m := m) (nlit 1) (yd_var rfl (show IsD K H7 (eN m) (.int (m : Int)) from rfl))) (atl (by omega))) (nlit 3) (by decide)
      · rw [compD_all, List.map_map]
        rfl
      · refine ⟨⟨by show (List.map _ _).length = _; rw [List.length_map, List.length_range], k2⟩, fun y hy => ?_, k3⟩
        obtain ⟨m, _, rfl⟩ := List.mem_map.mp hy
        show _ % 3 ≤ 2
        omega
/-! ### the law -/
abbrev sp_law (K : PySem.W.Frag) : Sp := SpT K (α := List Int) (fun ns => ns.length ≤ 63) (fun ns => [eInts ns]) (fun _ r => r = .bool true)
theorem rd_law {ns : List Int} (hc : ns.length ≤ 63) (h : IsDs K H [eInts ns] vs) (q : ∀ d v H', Ex H H' → IsD K H' d v → d = .bool true → Q v H') :
    t_law K (sp_form_L K) (sp_base_L K) (sp_drawn_L K) (sp_cell_L K) (sp_run_L K) (sp_cut_right_L K) (EndsOf Q) (L2.start N_law vs) H := by
  obtain ⟨v1, _, rfl, h1, rfl⟩ := h
  refine q_setR (ycR (R := fun (_ : List Int) r => ∃ f, r = eForm f ∧ FormOk f) ns trivial (ya_cons (yd_var rfl h1) ya_nil)) fun d v2 H1 x1 h2 hd => ?_
  obtain ⟨f, rfl, ok⟩ := hd
  refine q_setR (ycR (R := fun (x : List Int × Form) r => ∃ s, r = eStand s ∧ StOk x.2 10 s) (ns, f) ok (ya_cons (yd_var rfl (IsD.ex x1 _ _ h1)) (ya_cons (yd_var rfl h2) ya_nil))) fun d v3 H2 x2 h3 hd => ?_
  obtain ⟨base, rfl, hb⟩ := hd
  have hb : StOk f 10 base := hb
  have x12 := x1.trans x2
  refine q_setR (yr_drawn (n := 20) rfl (IsD.ex x12 _ _ h1) (nlit 6) rfl (by decide)) fun d v4 H3 x3 h4 hd => ?_
  obtain ⟨l, rfl, hl⟩ := hd
  have at0 : l[0]? = some (l.getD 0 0) := by
    rw [List.getD_eq_getElem?_getD, List.getElem?_eq_getElem (by omega)]
    rfl
  have x13 := x12.trans x3
  have hm19 := Nat.mod_lt (l.getD 0 0) (show 0 < 19 by decide)
  refine q_setLR (R := fun _ => True) (f, base, (l.drop 1).take (1 + l.getD 0 0 % 19 - 1)) ⟨ok, hb, by show ((l.drop 1).take _).length ≤ 30; rw [List.length_take]; omega⟩ (ya_cons (yd_var rfl (IsD.ex (x2.trans x3) _ _ h2)) (ya_cons (yd_var rfl (IsD.ex x3 _ _ h3)) (ya_cons ((yn_mid (n := 1) (k := 1 + l.getD 0 0 % 19) (yd_var rfl h4) (nlit 1) (nadd (nlit 1) (nmod (ixLM (g := eN) (yd_var rfl h4) (nlit 0) at0) (nlit 19) (by decide))) (by rw [List.length_map]; omega) (by omega)).yd.to (by rw [← List.map_drop, ← List.map_take])) ya_nil))) fun es v5 H4 x4 h5 hr => ?_
  obtain ⟨log, rfl, gd⟩ := hr
  have gd : Good f base log := gd
  have x14 := x13.trans x4
  have hlen : YD K (tCB (rLenU K) (tCons (tVar 0) tNil)) [some v1, some v2, some v3, some v4, some v5, none] H4 (eN ns.length) := ylenLM (yd_var rfl (IsD.ex x14 _ _ h1))
  obtain ⟨n, hn, hn8⟩ : ∃ n : Nat, (1 + (if (if (ns.length : Int) - 7 < 6 then (ns.length : Int) - 7 else 6) > 0 then (if (ns.length : Int) - 7 < 6 then (ns.length : Int) - 7 else 6) else 0) : Int) = (n : Int) ∧ n ≤ 7 := ⟨(1 + (if (if (ns.length : Int) - 7 < 6 then (ns.length : Int) - 7 else 6) > 0 then (if (ns.length : Int) - 7 < 6 then (ns.length : Int) - 7 else 6) else 0) : Int).toNat, by split <;> split <;> omega, by split <;> split <;> omega⟩
  refine q_forR (n := n) (yn_nat (iadd yd_int (ymax yd_int (ymin yd_int (yd_op (r := rSubI) hlen yd_int (rd_I0 (f := .int ((ns.length : Int) - 7)) fun _ => rfl))))) hn) (by omega) (fun i σ' H' => Ex H4 H' ∧ ∃ o, σ' = [some v1, some v2, some v3, some v4, some v5, o]) (fun H5 x5 => ⟨x5, _, rfl⟩) (fun i σ' H' hi hv => ?_) fun σ' H' hv => ?_
  · obtain ⟨x5, o, rfl⟩ := hv
    have x15 := x14.trans x5
    refine s_when (b := false) (fun H6 x6 Q' q' => ?_) (fun hb => by cases hb) fun _ H6 x6 => ⟨x5.trans x6, _, rfl⟩
    have y : YR K (tCall (sp_cut_right_L K) [] E0 (tCons (tVar 1) (tCons (tVar 2) (tCons (tVar 4) (tCons (tCall (sp_drawn_L K) [] E0 (tCons (tCall (sp_cell_L K) [] E0 (tCons (tVar 0) (tCons (tOp (rPlus K) (tC (.int 7)) (tVar 5)) (tNil)))) (tCons (tC (.int 24)) (tNil)))) (tNil)))))) [some v1, some v2, some v3, some v4, some v5, some (.int (i : Int))] H' (fun r => r = .bool true) :=
      ycAR (ya_s (yd_var rfl (IsD.ex (((x2.trans x3).trans x4).trans x5) _ _ h2)) (ya_s (yd_var rfl (IsD.ex ((x3.trans x4).trans x5) _ _ h3)) (ya_s (yd_var rfl (IsD.ex x5 _ _ h5)) (ya_r (yr_drawn (n := 24) rfl (IsD.ex x15 _ _ h1) (nadd (nlit 7) (yd_var rfl (show IsD K H' (eN i) (.int (i : Int)) from rfl))) rfl (by decide)) ya_nil)))) fun ds hds => by
        obtain ⟨_, ⟨_, ⟨_, ⟨_, ⟨l2, rfl, hl2⟩, rfl⟩, rfl⟩, rfl⟩, rfl⟩ := hds
        exact ⟨(f, base, log, l2), ⟨gd, by show 24 ≤ l2.length; omega⟩, rfl, fun _ h => h⟩
    exact y H6 x6 _ fun d v H7 x7 hd hr => ⟨true, by rw [show d = _ from hr] at hd; exact hd, q' H7 x7⟩
  · obtain ⟨x5, o, rfl⟩ := hv
    exact s_ret (K := K) yd_bl fun v H6 x6 hi => q _ v H6 ((x14.trans x5).trans x6) hi rfl
end
end Ct

/-! # CtOk -/
namespace Ct
open PySem PySem.Spec PyProof.Rows L2 Evl
section
variable {P : Program} {w : World} {K : PySem.W.Frag} {mg : Str → Option Value} {base : Heap}
theorem ok_is_whole_forms (T : Tz K mg) : Gv P w K mg base CX0 1 "is_whole_forms" P_is_whole_forms (sp_is_whole_forms K) := by
  obtain ⟨fd, F⟩ := T.d.def_ 0 (d := d_is_whole_forms) rfl
  have F : FunD K "is_whole" "is_whole" (defArgs s_is_whole_forms) (defBody s_is_whole_forms) (defScope s_is_whole_forms) [] [] (He.ga K "is_whole_forms") fd := F
  refine gv_mk (k := 0) F (T.glo 0) sc_is_whole_forms (fun _ _ _ _ _ _ us hl => match us, hl with | [_], _ => rfl) (psp_len fun ds R h => by
    obtain ⟨x, _, rfl, _⟩ := h
    rfl) fun f cdv A outer s H vs Q E hr h => ⟨t_is_whole_forms K , dv_is_whole_forms T  hr, ?_⟩
  · obtain ⟨ds, R, hi, ⟨x, hc, rfl, rfl⟩, q⟩ := h
    exact rd_is_whole_forms (x := x) hc hi q
theorem ok_is_within (T : Tz K mg) : Gv P w K mg base CX0 2 "is_within" P_is_within (sp_is_within K) := by
  obtain ⟨fd, F⟩ := T.d.def_ 1 (d := d_is_within) rfl
  have F : FunD K "is_within" "is_within" (defArgs s_is_within) (defBody s_is_within) (defScope s_is_within) [] [] (He.ga K "is_within") fd := F
  refine gv_mk (k := 1) F (T.glo 1) sc_is_within (fun _ _ _ _ _ _ us hl => match us, hl with | [_, _, _], _ => rfl) (psp_len fun ds R h => by
    obtain ⟨x, _, rfl, _⟩ := h
    rfl) fun f cdv A outer s H vs Q E hr h => ⟨t_is_within K (sp_is_whole_forms K), dv_is_within T (ok_is_whole_forms T) hr, ?_⟩
  · obtain ⟨ds, R, hi, ⟨x, hc, rfl, rfl⟩, q⟩ := h
    exact rd_is_within (x := x) hc hi q
theorem ok_is_word (T : Tz K mg) : Gv P w K mg base CX0 1 "is_word" P_is_word (sp_is_word K) := by
  obtain ⟨fd, F⟩ := T.d.def_ 2 (d := d_is_word) rfl
  have F : FunD K "is_word" "is_word" (defArgs s_is_word) (defBody s_is_word) (defScope s_is_word) [] [] (He.ga K "is_word") fd := F
  refine gv_mk (k := 0) F (T.glo 2) sc_is_word (fun _ _ _ _ _ _ us hl => match us, hl with | [_], _ => rfl) (psp_len fun ds R h => by
    obtain ⟨x, _, rfl, _⟩ := h
    rfl) fun f cdv A outer s H vs Q E hr h => ⟨t_is_word K , dv_is_word T  hr, ?_⟩
  · obtain ⟨ds, R, hi, ⟨x, hc, rfl, rfl⟩, q⟩ := h
    exact rd_is_word (x := x) hc hi q
theorem ok_is_sign (T : Tz K mg) : Gv P w K mg base CX0 2 "is_sign" P_is_sign (sp_is_sign K) := by
  obtain ⟨fd, F⟩ := T.d.def_ 3 (d := d_is_sign) rfl
  have F : FunD K "is_sign" "is_sign" (defArgs s_is_sign) (defBody s_is_sign) (defScope s_is_sign) [] [] (He.ga K "is_sign") fd := F
  refine gv_mk (k := 1) F (T.glo 3) sc_is_sign (fun _ _ _ _ _ _ us hl => match us, hl with | [_], _ => rfl) (psp_len fun ds R h => by
    obtain ⟨x, _, rfl, _⟩ := h
    rfl) fun f cdv A outer s H vs Q E hr h => ⟨t_is_sign K (sp_is_word K), dv_is_sign T (ok_is_word T) hr, ?_⟩
  · obtain ⟨ds, R, hi, ⟨x, hc, rfl, rfl⟩, q⟩ := h
    exact rd_is_sign (x := x) hc hi q
theorem ok_is_tuple (T : Tz K mg) : Gv P w K mg base CX0 1 "is_tuple" P_is_tuple (sp_is_tuple K) := by
  obtain ⟨fd, F⟩ := T.d.def_ 4 (d := d_is_tuple) rfl
  have F : FunD K "is_tuple" "is_tuple" (defArgs s_is_tuple) (defBody s_is_tuple) (defScope s_is_tuple) [] [] (He.ga K "is_tuple") fd := F
  refine gv_mk (k := 0) F (T.glo 4) sc_is_tuple (fun _ _ _ _ _ _ us hl => match us, hl with | [_, _], _ => rfl) (psp_len fun ds R h => by
    obtain ⟨x, _, rfl, _⟩ := h
    rfl) fun f cdv A outer s H vs Q E hr h => ⟨t_is_tuple K , dv_is_tuple T  hr, ?_⟩
  · obtain ⟨ds, R, hi, ⟨x, hc, rfl, rfl⟩, q⟩ := h
    exact rd_is_tuple (x := x) hc hi q
theorem ok_answer (T : Tz K mg) : Gv P w K mg base CX0 1 "answer" P_answer (sp_answer K) := by
  obtain ⟨fd, F⟩ := T.d.def_ 5 (d := d_answer) rfl
  have F : FunD K "answer" "answer" (defArgs s_answer) (defBody s_answer) (defScope s_answer) [] [] (He.ga K "answer") fd := F
  refine gv_mk (k := 0) F (T.glo 5) sc_answer (fun _ _ _ _ _ _ us hl => match us, hl with | [_, _, _, _], _ => rfl) (psp_len fun ds R h => by
    obtain ⟨x, _, rfl, _⟩ := h
    rfl) fun f cdv A outer s H vs Q E hr h => ⟨t_answer K , dv_answer T  hr, ?_⟩
  · obtain ⟨ds, R, hi, ⟨x, hc, rfl, rfl⟩, q⟩ := h
    exact rd_answer (x := x) hc hi q
theorem ok_is_letter (T : Tz K mg) : Gv P w K mg base CX0 3 "is_letter" P_is_letter (sp_is_letter K) := by
  obtain ⟨fd, F⟩ := T.d.def_ 6 (d := d_is_letter) rfl
  have F : FunD K "is_letter" "is_letter" (defArgs s_is_letter) (defBody s_is_letter) (defScope s_is_letter) [] [] (He.ga K "is_letter") fd := F
  refine gv_mk (k := 2) F (T.glo 6) sc_is_letter (fun _ _ _ _ _ _ us hl => match us, hl with | [_, _], _ => rfl) (psp_len fun ds R h => by
    obtain ⟨x, _, rfl, _⟩ := h
    rfl) fun f cdv A outer s H vs Q E hr h => ⟨t_is_letter K (sp_is_tuple K) (sp_is_within K) (sp_is_sign K), dv_is_letter T (ok_is_tuple T) (ok_is_within T) (ok_is_sign T) hr, ?_⟩
  · obtain ⟨ds, R, hi, ⟨x, hc, rfl, rfl⟩, q⟩ := h
    exact rd_is_letter (x := x) hc hi q
theorem ok_is_load (T : Tz K mg) : Gv P w K mg base CX0 4 "is_load" P_is_load (sp_is_load K) := by
  obtain ⟨fd, F⟩ := T.d.def_ 7 (d := d_is_load) rfl
  have F : FunD K "is_load" "is_load" (defArgs s_is_load) (defBody s_is_load) (defScope s_is_load) [] [] (He.ga K "is_load") fd := F
  refine gv_mk (k := 3) F (T.glo 7) sc_is_load (fun _ _ _ _ _ _ us hl => match us, hl with | [_, _], _ => rfl) (psp_len fun ds R h => by
    obtain ⟨x, _, rfl, _⟩ := h
    rfl) fun f cdv A outer s H vs Q E hr h => ⟨t_is_load K (sp_is_tuple K) (sp_is_whole_forms K) (sp_is_letter K), dv_is_load T (ok_is_tuple T) (ok_is_whole_forms T) (ok_is_letter T) hr, ?_⟩
  · obtain ⟨ds, R, hi, ⟨x, hc, rfl, rfl⟩, q⟩ := h
    exact rd_is_load (x := x) hc hi q
theorem ok_right_stand (T : Tz K mg) : Gv P w K mg base CX0 5 "right_stand" P_right_stand (sp_right_stand K) := by
  obtain ⟨fd, F⟩ := T.d.def_ 8 (d := d_right_stand) rfl
  have F : FunD K "right_stand" "right_stand" (defArgs s_right_stand) (defBody s_right_stand) (defScope s_right_stand) [] [] (He.ga K "right_stand") fd := F
  refine gv_mk (k := 4) F (T.glo 8) sc_right_stand (fun _ _ _ _ _ _ us hl => match us, hl with | [_, _], _ => rfl) (psp_len fun ds R h => by
    obtain ⟨x, _, rfl, _⟩ := h
    rfl) fun f cdv A outer s H vs Q E hr h => ⟨t_right_stand K (sp_is_tuple K) (sp_is_within K) (sp_is_load K), dv_right_stand T (ok_is_tuple T) (ok_is_within T) (ok_is_load T) hr, ?_⟩
  · obtain ⟨ds, R, hi, ⟨x, hc, rfl, rfl⟩, q⟩ := h
    exact rd_right_stand (x := x) hc hi q
theorem ok_waits (T : Tz K mg) : Gv P w K mg base CX0 1 "waits" P_waits (sp_waits K) := by
  obtain ⟨fd, F⟩ := T.d.def_ 9 (d := d_waits) rfl
  have F : FunD K "waits" "waits" (defArgs s_waits) (defBody s_waits) (defScope s_waits) [] [] (He.ga K "waits") fd := F
  refine gv_mk (k := 0) F (T.glo 9) sc_waits (fun _ _ _ _ _ _ us hl => match us, hl with | [_, _], _ => rfl) (pspl_len fun ds R h => by
    obtain ⟨x, _, rfl, _⟩ := h
    rfl) fun f cdv A outer s H vs Q E hr h => ⟨t_waits K , dv_waits T  hr, ?_⟩
  · obtain ⟨ds, R, hi, ⟨x, hc, rfl, rfl⟩, q⟩ := h
    exact rd_waits (x := x) hc hi q
theorem ok_is_plain (T : Tz K mg) : Gv P w K mg base CX0 3 "is_plain" P_is_plain (sp_is_plain K) := by
  obtain ⟨fd, F⟩ := T.d.def_ 10 (d := d_is_plain) rfl
  have F : FunD K "is_plain" "is_plain" (defArgs s_is_plain) (defBody s_is_plain) (defScope s_is_plain) [] [] (He.ga K "is_plain") fd := F
  refine gv_mk (k := 2) F (T.glo 10) sc_is_plain (fun _ _ _ _ _ _ us hl => match us, hl with | [_, _], _ => rfl) (psp_len fun ds R h => by
    obtain ⟨x, _, rfl, _⟩ := h
    rfl) fun f cdv A outer s H vs Q E hr h => ⟨t_is_plain K (sp_is_within K) (sp_is_sign K) (sp_is_tuple K) (sp_is_whole_forms K), dv_is_plain T (ok_is_within T) (ok_is_sign T) (ok_is_tuple T) (ok_is_whole_forms T) hr, ?_⟩
  · obtain ⟨ds, R, hi, ⟨x, hc, rfl, rfl⟩, q⟩ := h
    exact rd_is_plain (x := x) hc hi q
theorem ok_machine_of (T : Tz K mg) : Gv P w K mg base CX0 1 "machine_of" P_machine_of (sp_machine_of K) := by
  obtain ⟨fd, F⟩ := T.d.def_ 11 (d := d_machine_of) rfl
  have F : FunD K "machine_of" "machine_of" (defArgs s_machine_of) (defBody s_machine_of) (defScope s_machine_of) [] [] (He.ga K "machine_of") fd := F
  refine gv_mk (k := 0) F (T.glo 11) sc_machine_of (fun _ _ _ _ _ _ us hl => match us, hl with | [_, _], _ => rfl) (psp_len fun ds R h => by
    obtain ⟨x, _, rfl, _⟩ := h
    rfl) fun f cdv A outer s H vs Q E hr h => ⟨t_machine_of K , dv_machine_of T  hr, ?_⟩
  · obtain ⟨ds, R, hi, ⟨x, hc, rfl, rfl⟩, q⟩ := h
    exact rd_machine_of (x := x) hc hi q
theorem ok_cause_of (T : Tz K mg) : Gv P w K mg base CX0 2 "cause_of" P_cause_of (sp_cause_of K) := by
  obtain ⟨fd, F⟩ := T.d.def_ 12 (d := d_cause_of) rfl
  have F : FunD K "cause_of" "cause_of" (defArgs s_cause_of) (defBody s_cause_of) (defScope s_cause_of) [] [] (He.ga K "cause_of") fd := F
  refine gv_mk (k := 1) F (T.glo 12) sc_cause_of (fun _ _ _ _ _ _ us hl => match us, hl with | [_, _, _], _ => rfl) (psp_len fun ds R h => by
    obtain ⟨x, _, rfl, _⟩ := h
    rfl) fun f cdv A outer s H vs Q E hr h => ⟨t_cause_of K (sp_waits K), dv_cause_of T (ok_waits T) hr, ?_⟩
  · obtain ⟨ds, R, hi, ⟨x, hc, rfl, rfl⟩, q⟩ := h
    exact rd_cause_of (x := x) hc hi q
theorem ok_answered (T : Tz K mg) : Gv P w K mg base CX0 3 "answered" P_answered (sp_answered K) := by
  obtain ⟨fd, F⟩ := T.d.def_ 13 (d := d_answered) rfl
  have F : FunD K "answered" "answered" (defArgs s_answered) (defBody s_answered) (defScope s_answered) [] [] (He.ga K "answered") fd := F
  refine gv_mk (k := 2) F (T.glo 13) sc_answered (fun _ _ _ _ _ _ us hl => match us, hl with | [_, _, _], _ => rfl) (psp_len fun ds R h => by
    obtain ⟨x, _, rfl, _⟩ := h
    rfl) fun f cdv A outer s H vs Q E hr h => ⟨t_answered K (sp_cause_of K) (sp_machine_of K) (sp_answer K), dv_answered T (ok_cause_of T) (ok_machine_of T) (ok_answer T) hr, ?_⟩
  · obtain ⟨ds, R, hi, ⟨x, hc, rfl, rfl⟩, q⟩ := h
    exact rd_answered (x := x) hc hi q
theorem ok_can (T : Tz K mg) : Gv P w K mg base CX0 4 "can" P_can (sp_can K) := by
  obtain ⟨fd, F⟩ := T.d.def_ 14 (d := d_can) rfl
  have F : FunD K "can" "can" (defArgs s_can) (defBody s_can) (defScope s_can) [] [] (He.ga K "can") fd := F
  refine gv_mk (k := 3) F (T.glo 14) sc_can (fun _ _ _ _ _ _ us hl => match us, hl with | [_, _, _], _ => rfl) (psp_len fun ds R h => by
    obtain ⟨x, _, rfl, _⟩ := h
    rfl) fun f cdv A outer s H vs Q E hr h => ⟨t_can K (sp_is_plain K) (sp_answered K), dv_can T (ok_is_plain T) (ok_answered T) hr, ?_⟩
  · obtain ⟨ds, R, hi, ⟨x, hc, rfl, rfl⟩, q⟩ := h
    exact rd_can (x := x) hc hi q
theorem ok_taken_out (T : Tz K mg) : Gv P w K mg base CX0 1 "taken_out" P_taken_out (sp_taken_out K) := by
  obtain ⟨fd, F⟩ := T.d.def_ 15 (d := d_taken_out) rfl
  have F : FunD K "taken_out" "taken_out" (defArgs s_taken_out) (defBody s_taken_out) (defScope s_taken_out) [] [] (He.ga K "taken_out") fd := F
  refine gv_mk (k := 0) F (T.glo 15) sc_taken_out (fun _ _ _ _ _ _ us hl => match us, hl with | [_, _, _], _ => rfl) (psp_len fun ds R h => by
    obtain ⟨x, _, rfl, _⟩ := h
    rfl) fun f cdv A outer s H vs Q E hr h => ⟨t_taken_out K , dv_taken_out T  hr, ?_⟩
  · obtain ⟨ds, R, hi, ⟨x, hc, rfl, rfl⟩, q⟩ := h
    exact rd_taken_out (x := x) hc hi q
theorem ok_sent_out (T : Tz K mg) : Gv P w K mg base CX0 1 "sent_out" P_sent_out (sp_sent_out K) := by
  obtain ⟨fd, F⟩ := T.d.def_ 16 (d := d_sent_out) rfl
  have F : FunD K "sent_out" "sent_out" (defArgs s_sent_out) (defBody s_sent_out) (defScope s_sent_out) [] [] (He.ga K "sent_out") fd := F
  refine gv_mk (k := 0) F (T.glo 16) sc_sent_out (fun _ _ _ _ _ _ us hl => match us, hl with | [_, _], _ => rfl) (psp_len fun ds R h => by
    obtain ⟨x, _, rfl, _⟩ := h
    rfl) fun f cdv A outer s H vs Q E hr h => ⟨t_sent_out K , dv_sent_out T  hr, ?_⟩
  · obtain ⟨ds, R, hi, ⟨x, hc, rfl, rfl⟩, q⟩ := h
    exact rd_sent_out (x := x) hc hi q
theorem ok_done (T : Tz K mg) : Gv P w K mg base CX0 5 "done" P_done (sp_done K) := by
  obtain ⟨fd, F⟩ := T.d.def_ 17 (d := d_done) rfl
  have F : FunD K "done" "done" (defArgs s_done) (defBody s_done) (defScope s_done) [] [] (He.ga K "done") fd := F
  refine gv_mk (k := 4) F (T.glo 17) sc_done (fun _ _ _ _ _ _ us hl => match us, hl with | [_, _, _], _ => rfl) (psp_len fun ds R h => by
    obtain ⟨x, _, rfl, _⟩ := h
    rfl) fun f cdv A outer s H vs Q E hr h => ⟨t_done K (sp_can K) (sp_answered K) (sp_machine_of K) (sp_taken_out K) (sp_sent_out K), dv_done T (ok_can T) (ok_answered T) (ok_machine_of T) (ok_taken_out T) (ok_sent_out T) hr, ?_⟩
  · obtain ⟨ds, R, hi, ⟨x, hc, rfl, rfl⟩, q⟩ := h
    exact rd_done (x := x) hc hi q
theorem ok_run (T : Tz K mg) : Gv P w K mg base CX0 6 "run" P_run (sp_run K) := by
  obtain ⟨fd, F⟩ := T.d.def_ 18 (d := d_run) rfl
  have F : FunD K "run" "run" (defArgs s_run) (defBody s_run) (defScope s_run) [] [] (He.ga K "run") fd := F
  refine gv_mk (k := 5) F (T.glo 18) sc_run (fun _ _ _ _ _ _ us hl => match us, hl with | [_, _, _], _ => rfl) (psp_len fun ds R h => by
    obtain ⟨x, _, rfl, _⟩ := h
    rfl) fun f cdv A outer s H vs Q E hr h => ⟨t_run K (sp_can K) (sp_done K), dv_run T (ok_can T) (ok_done T) hr, ?_⟩
  · obtain ⟨ds, R, hi, ⟨x, hc, rfl, rfl⟩, q⟩ := h
    exact rd_run (x := x) hc hi q
theorem ok_events_of (T : Tz K mg) : Gv P w K mg base CX0 2 "events_of" P_events_of (sp_events_of K) := by
  obtain ⟨fd, F⟩ := T.d.def_ 19 (d := d_events_of) rfl
  have F : FunD K "events_of" "events_of" (defArgs s_events_of) (defBody s_events_of) (defScope s_events_of) [] [] (He.ga K "events_of") fd := F
  refine gv_mk (k := 1) F (T.glo 19) sc_events_of (fun _ _ _ _ _ _ us hl => match us, hl with | [_, _], _ => rfl) (pspl_len fun ds R h => by
    obtain ⟨x, _, rfl, _⟩ := h
    rfl) fun f cdv A outer s H vs Q E hr h => ⟨t_events_of K (sp_machine_of K), dv_events_of T (ok_machine_of T) hr, ?_⟩
  · obtain ⟨ds, R, hi, ⟨x, hc, rfl, rfl⟩, q⟩ := h
    exact rd_events_of (x := x) hc hi q
theorem ok_letters_of (T : Tz K mg) : Gv P w K mg base CX0 7 "letters_of" P_letters_of (sp_letters_of K) := by
  obtain ⟨fd, F⟩ := T.d.def_ 20 (d := d_letters_of) rfl
  have F : FunD K "letters_of" "letters_of" (defArgs s_letters_of) (defBody s_letters_of) (defScope s_letters_of) [] [] (He.ga K "letters_of") fd := F
  refine gv_mk (k := 6) F (T.glo 20) sc_letters_of (fun _ _ _ _ _ _ us hl => match us, hl with | [_, _, _], _ => rfl) (pspd_len fun ds R h => by
    obtain ⟨x, _, rfl, _⟩ := h
    rfl) fun f cdv A outer s H vs Q E hr h => ⟨t_letters_of K (sp_run K) (sp_waits K) (sp_done K), dv_letters_of T (ok_run T) (ok_waits T) (ok_done T) hr, ?_⟩
  · obtain ⟨ds, R, hi, ⟨x, hc, rfl, rfl⟩, q⟩ := h
    exact rd_letters_of (x := x) hc hi q
theorem ok_is_whole_cuts (T : Tz K mg) : Gv P w K mg base CX0 1 "is_whole_cuts" P_is_whole_cuts (sp_is_whole_cuts K) := by
  obtain ⟨fd, F⟩ := T.d.def_ 21 (d := d_is_whole_cuts) rfl
  have F : FunD K "is_whole" "is_whole" (defArgs s_is_whole_cuts) (defBody s_is_whole_cuts) (defScope s_is_whole_cuts) [] [] (He.ga K "is_whole_cuts") fd := F
  refine gv_mk (k := 0) F (T.glo 21) sc_is_whole_cuts (fun _ _ _ _ _ _ us hl => match us, hl with | [_], _ => rfl) (psp_len fun ds R h => by
    obtain ⟨x, _, rfl, _⟩ := h
    rfl) fun f cdv A outer s H vs Q E hr h => ⟨t_is_whole_cuts K , dv_is_whole_cuts T  hr, ?_⟩
  · obtain ⟨ds, R, hi, ⟨x, hc, rfl, rfl⟩, q⟩ := h
    exact rd_is_whole_cuts (x := x) hc hi q
theorem ok_are_wholes (T : Tz K mg) : Gv P w K mg base CX0 2 "are_wholes" P_are_wholes (sp_are_wholes K) := by
  obtain ⟨fd, F⟩ := T.d.def_ 22 (d := d_are_wholes) rfl
  have F : FunD K "are_wholes" "are_wholes" (defArgs s_are_wholes) (defBody s_are_wholes) (defScope s_are_wholes) [] [] (He.ga K "are_wholes") fd := F
  refine gv_mk (k := 1) F (T.glo 22) sc_are_wholes (fun _ _ _ _ _ _ us hl => match us, hl with | [_, _], _ => rfl) (psp_len fun ds R h => by
    obtain ⟨x, _, rfl, _⟩ := h
    rfl) fun f cdv A outer s H vs Q E hr h => ⟨t_are_wholes K (sp_is_whole_cuts K), dv_are_wholes T (ok_is_whole_cuts T) hr, ?_⟩
  · obtain ⟨ds, R, hi, ⟨x, hc, rfl, rfl⟩, q⟩ := h
    exact rd_are_wholes (x := x) hc hi q
theorem ok_ends_of_run (T : Tz K mg) : Gv P w K mg base CX0 3 "ends_of_run" P_ends_of_run (sp_ends_of_run K) := by
  obtain ⟨fd, F⟩ := T.d.def_ 23 (d := d_ends_of_run) rfl
  have F : FunD K "ends_of_run" "ends_of_run" (defArgs s_ends_of_run) (defBody s_ends_of_run) (defScope s_ends_of_run) [] [] (He.ga K "ends_of_run") fd := F
  refine gv_mk (k := 2) F (T.glo 23) sc_ends_of_run (fun _ _ _ _ _ _ us hl => match us, hl with | [_, _], _ => rfl) (psp_len fun ds R h => by
    obtain ⟨x, _, rfl, _⟩ := h
    rfl) fun f cdv A outer s H vs Q E hr h => ⟨t_ends_of_run K (sp_events_of K), dv_ends_of_run T (ok_events_of T) hr, ?_⟩
  · obtain ⟨ds, R, hi, ⟨x, hc, rfl, rfl⟩, q⟩ := h
    exact rd_ends_of_run (x := x) hc hi q
theorem ok_is_in (T : Tz K mg) : Gv P w K mg base CX0 1 "is_in" P_is_in (sp_is_in K) := by
  obtain ⟨fd, F⟩ := T.d.def_ 24 (d := d_is_in) rfl
  have F : FunD K "is_in" "is_in" (defArgs s_is_in) (defBody s_is_in) (defScope s_is_in) [] [] (He.ga K "is_in") fd := F
  refine gv_mk (k := 0) F (T.glo 24) sc_is_in (fun _ _ _ _ _ _ us hl => match us, hl with | [_, _], _ => rfl) (psp_len fun ds R h => by
    obtain ⟨x, _, rfl, _⟩ := h
    rfl) fun f cdv A outer s H vs Q E hr h => ⟨t_is_in K , dv_is_in T  hr, ?_⟩
  · obtain ⟨ds, R, hi, ⟨x, hc, rfl, rfl⟩, q⟩ := h
    exact rd_is_in (x := x) hc hi q
theorem ok_roads_of_letters (T : Tz K mg) : Gv P w K mg base CX0 8 "roads_of_letters" P_roads_of_letters (sp_roads_of_letters K) := by
  obtain ⟨fd, F⟩ := T.d.def_ 25 (d := d_roads_of_letters) rfl
  have F : FunD K "roads_of_letters" "roads_of_letters" (defArgs s_roads_of_letters) (defBody s_roads_of_letters) (defScope s_roads_of_letters) [] [] (He.ga K "roads_of_letters") fd := F
  refine gv_mk (k := 7) F (T.glo 25) sc_roads_of_letters (fun _ _ _ _ _ _ us hl => match us, hl with | [_, _, _], _ => rfl) (pspl_len fun ds R h => by
    obtain ⟨x, _, rfl, _⟩ := h
    rfl) fun f cdv A outer s H vs Q E hr h => ⟨t_roads_of_letters K (sp_events_of K) (sp_letters_of K), dv_roads_of_letters T (ok_events_of T) (ok_letters_of T) hr, ?_⟩
  · obtain ⟨ds, R, hi, ⟨x, hc, rfl, rfl⟩, q⟩ := h
    exact rd_roads_of_letters (x := x) hc hi q
theorem ok_first_come_unsent (T : Tz K mg) : Gv P w K mg base CX0 9 "first_come_unsent" P_first_come_unsent (sp_first_come_unsent K) := by
  obtain ⟨fd, F⟩ := T.d.def_ 26 (d := d_first_come_unsent) rfl
  have F : FunD K "first_come_unsent" "first_come_unsent" (defArgs s_first_come_unsent) (defBody s_first_come_unsent) (defScope s_first_come_unsent) [] [] (He.ga K "first_come_unsent") fd := F
  refine gv_mk (k := 8) F (T.glo 26) sc_first_come_unsent (fun _ _ _ _ _ _ us hl => match us, hl with | [_, _, _, _], _ => rfl) (psp_len fun ds R h => by
    obtain ⟨x, _, rfl, _⟩ := h
    rfl) fun f cdv A outer s H vs Q E hr h => ⟨t_first_come_unsent K (sp_roads_of_letters K) (sp_is_in K), dv_first_come_unsent T (ok_roads_of_letters T) (ok_is_in T) hr, ?_⟩
  · obtain ⟨ds, R, hi, ⟨x, hc, rfl, rfl⟩, q⟩ := h
    exact rd_first_come_unsent (x := x) hc hi q
theorem ok_right_cut (T : Tz K mg) : Gv P w K mg base (CX P w) 10 "right_cut" P_right_cut (sp_right_cut K) := by
  obtain ⟨fd, F⟩ := T.d.def_ 27 (d := d_right_cut) rfl
  have F : FunD K "right_cut" "right_cut" (defArgs s_right_cut) (defBody s_right_cut) (defScope s_right_cut) [] [] (He.ga K "right_cut") fd := F
  refine gv_mk (k := 9) F (T.glo 27) sc_right_cut (fun _ _ _ _ _ _ us hl => match us, hl with | [_, _, _, _], _ => rfl) (pspx_len fun ds R N h => by
    obtain ⟨x, _, rfl, _⟩ := h
    rfl) fun f cdv A outer s H vs Q E hr h => ⟨t_right_cut K E (sp_ends_of_run K) (sp_are_wholes K) (sp_first_come_unsent K), dv_right_cut T (ok_ends_of_run T) (ok_are_wholes T) (ok_first_come_unsent T) hr, ?_⟩
  · obtain ⟨ds, R, N, hi, ⟨x, hc, rfl, rfl, rfl⟩, q, qN⟩ := h
    exact rd_right_cut (x := x) hc hi q qN
theorem ok_deeds_in (T : Tz K mg) : Gv P w K mg base CX0 3 "deeds_in" P_deeds_in (sp_deeds_in K) := by
  obtain ⟨fd, F⟩ := T.d.def_ 28 (d := d_deeds_in) rfl
  have F : FunD K "deeds_in" "deeds_in" (defArgs s_deeds_in) (defBody s_deeds_in) (defScope s_deeds_in) [] [] (He.ga K "deeds_in") fd := F
  refine gv_mk (k := 2) F (T.glo 28) sc_deeds_in (fun _ _ _ _ _ _ us hl => match us, hl with | [_, _, _], _ => rfl) (pspl_len fun ds R h => by
    obtain ⟨x, _, rfl, _⟩ := h
    rfl) fun f cdv A outer s H vs Q E hr h => ⟨t_deeds_in K (sp_events_of K) (sp_is_in K), dv_deeds_in T (ok_events_of T) (ok_is_in T) hr, ?_⟩
  · obtain ⟨ds, R, hi, ⟨x, hc, rfl, rfl⟩, q⟩ := h
    exact rd_deeds_in (x := x) hc hi q
theorem ok_through (T : Tz K mg) : Gv P w K mg base CX0 4 "through" P_through (sp_through K) := by
  obtain ⟨fd, F⟩ := T.d.def_ 29 (d := d_through) rfl
  have F : FunD K "through" "through" (defArgs s_through) (defBody s_through) (defScope s_through) [] [] (He.ga K "through") fd := F
  refine gv_mk (k := 3) F (T.glo 29) sc_through (fun _ _ _ _ _ _ us hl => match us, hl with | [_, _, _, _], _ => rfl) (psp_len fun ds R h => by
    obtain ⟨x, _, rfl, _⟩ := h
    rfl) fun f cdv A outer s H vs Q E hr h => ⟨t_through K (sp_deeds_in K), dv_through T (ok_deeds_in T) hr, ?_⟩
  · obtain ⟨ds, R, hi, ⟨x, hc, rfl, rfl⟩, q⟩ := h
    exact rd_through (x := x) hc hi q
theorem ok_asked_shape (T : Tz K mg) : Gv P w K mg base (CX P w) 3 "asked_shape" P_asked_shape (sp_asked_shape K) := by
  obtain ⟨fd, F⟩ := T.d.def_ 30 (d := d_asked_shape) rfl
  have F : FunD K "asked_shape" "asked_shape" (defArgs s_asked_shape) (defBody s_asked_shape) (defScope s_asked_shape) [] [] (He.ga K "asked_shape") fd := F
  refine gv_mk (k := 2) F (T.glo 30) sc_asked_shape (fun _ _ _ _ _ _ us hl => match us, hl with | [_], _ => rfl) (pspx_len fun ds R N h => by
    obtain ⟨x, _, rfl, _⟩ := h
    rfl) fun f cdv A outer s H vs Q E hr h => ⟨t_asked_shape K E (sp_is_whole_cuts K), dv_asked_shape T (ok_is_whole_cuts T) hr, ?_⟩
  · obtain ⟨ds, R, N, hi, ⟨x, hc, rfl, rfl, rfl⟩, q, qN⟩ := h
    exact rd_asked_shape (x := x) hc hi q
theorem ok_asked_order (T : Tz K mg) : Gv P w K mg base (CX P w) 3 "asked_order" P_asked_order (sp_asked_order K) := by
  obtain ⟨fd, F⟩ := T.d.def_ 31 (d := d_asked_order) rfl
  have F : FunD K "asked_order" "asked_order" (defArgs s_asked_order) (defBody s_asked_order) (defScope s_asked_order) [] [] (He.ga K "asked_order") fd := F
  refine gv_mk (k := 2) F (T.glo 31) sc_asked_order (fun _ _ _ _ _ _ us hl => match us, hl with | [_, _, _], _ => rfl) (pspx_len fun ds R N h => by
    obtain ⟨x, _, rfl, _⟩ := h
    rfl) fun f cdv A outer s H vs Q E hr h => ⟨t_asked_order K E (sp_events_of K), dv_asked_order T (ok_events_of T) hr, ?_⟩
  · obtain ⟨ds, R, N, hi, ⟨x, hc, rfl, rfl, rfl⟩, q, qN⟩ := h
    exact rd_asked_order (x := x) hc hi q qN
theorem ok_way_asked (T : Tz K mg) : Gv P w K mg base (CX P w) 6 "way_asked" P_way_asked (sp_way_asked K) := by
  obtain ⟨fd, F⟩ := T.d.def_ 32 (d := d_way_asked) rfl
  have F : FunD K "way_asked" "way_asked" (defArgs s_way_asked) (defBody s_way_asked) (defScope s_way_asked) [] [] (He.ga K "way_asked") fd := F
  refine gv_mk (k := 5) F (T.glo 32) sc_way_asked (fun _ _ _ _ _ _ us hl => match us, hl with | [_, _, _, _, _], _ => rfl) (pspx_len fun ds R N h => by
    obtain ⟨x, _, rfl, _⟩ := h
    rfl) fun f cdv A outer s H vs Q E hr h => ⟨t_way_asked K E (sp_asked_shape K) (sp_asked_order K) (sp_can K) (sp_done K) (sp_right_stand K), dv_way_asked T (ok_asked_shape T) (ok_asked_order T) (ok_can T) (ok_done T) (ok_right_stand T) hr, ?_⟩
  · obtain ⟨ds, R, N, hi, ⟨x, hc, rfl, rfl, rfl⟩, q, qN⟩ := h
    exact rd_way_asked (x := x) hc hi q qN
theorem ok_mix_L (T : Tz K mg) : Gv P w K mg base CX0 1 "_law_mix" P_mix_L (sp_mix_L K) := by
  obtain ⟨fd, F⟩ := T.d.def_ 33 (d := d_mix_L) rfl
  have F : FunD K "_law_mix" "_law_mix" (defArgs s_mix_L) (defBody s_mix_L) (defScope s_mix_L) [] [] (He.ga K "_law_mix") fd := F
  refine gv_mk (k := 0) F (T.glo 33) sc_mix_L (fun _ _ _ _ _ _ us hl => match us, hl with | [_, _], _ => rfl) (psp_len fun ds R h => by
    obtain ⟨x, _, rfl, _⟩ := h
    rfl) fun f cdv A outer s H vs Q E hr h => ⟨t_mix_L K , dv_mix_L T  hr, ?_⟩
  · obtain ⟨ds, R, hi, ⟨x, hc, rfl, rfl⟩, q⟩ := h
    exact rd_mix_L (x := x) hc hi q
theorem ok_cell_L (T : Tz K mg) : Gv P w K mg base CX0 2 "_law_cell" P_cell_L (sp_cell_L K) := by
  obtain ⟨fd, F⟩ := T.d.def_ 34 (d := d_cell_L) rfl
  have F : FunD K "_law_cell" "_law_cell" (defArgs s_cell_L) (defBody s_cell_L) (defScope s_cell_L) [] [] (He.ga K "_law_cell") fd := F
  refine gv_mk (k := 1) F (T.glo 34) sc_cell_L (fun _ _ _ _ _ _ us hl => match us, hl with | [_, _], _ => rfl) (psp_len fun ds R h => by
    obtain ⟨x, _, rfl, _⟩ := h
    rfl) fun f cdv A outer s H vs Q E hr h => ⟨t_cell_L K (sp_mix_L K), dv_cell_L T (ok_mix_L T) hr, ?_⟩
  · obtain ⟨ds, R, hi, ⟨x, hc, rfl, rfl⟩, q⟩ := h
    exact rd_cell_L (x := x) hc hi q
theorem ok_drawn_L (T : Tz K mg) : Gv P w K mg base CX0 2 "_law_drawn" P_drawn_L (sp_drawn_L K) := by
  obtain ⟨fd, F⟩ := T.d.def_ 35 (d := d_drawn_L) rfl
  have F : FunD K "_law_drawn" "_law_drawn" (defArgs s_drawn_L) (defBody s_drawn_L) (defScope s_drawn_L) [] [] (He.ga K "_law_drawn") fd := F
  refine gv_mk (k := 1) F (T.glo 35) sc_drawn_L (fun _ _ _ _ _ _ us hl => match us, hl with | [_, _], _ => rfl) (pspl_len fun ds R h => by
    obtain ⟨x, _, rfl, _⟩ := h
    rfl) fun f cdv A outer s H vs Q E hr h => ⟨t_drawn_L K (sp_mix_L K), dv_drawn_L T (ok_mix_L T) hr, ?_⟩
  · obtain ⟨ds, R, hi, ⟨x, hc, rfl, rfl⟩, q⟩ := h
    exact rd_drawn_L (x := x) hc hi q
theorem ok_rule_L (T : Tz K mg) : Gv P w K mg base CX0 1 "_law_rule" P_rule_L (sp_rule_L K) := by
  obtain ⟨fd, F⟩ := T.d.def_ 36 (d := d_rule_L) rfl
  have F : FunD K "_law_rule" "_law_rule" (defArgs s_rule_L) (defBody s_rule_L) (defScope s_rule_L) [] [] (He.ga K "_law_rule") fd := F
  refine gv_mk (k := 0) F (T.glo 36) sc_rule_L (fun _ _ _ _ _ _ us hl => match us, hl with | [_, _], _ => rfl) (psp_len fun ds R h => by
    obtain ⟨x, _, rfl, _⟩ := h
    rfl) fun f cdv A outer s H vs Q E hr h => ⟨t_rule_L K , dv_rule_L T  hr, ?_⟩
  · obtain ⟨ds, R, hi, ⟨x, hc, rfl, rfl⟩, q⟩ := h
    exact rd_rule_L (x := x) hc hi q
theorem ok_form_L (T : Tz K mg) : Gv P w K mg base CX0 3 "_law_form" P_form_L (sp_form_L K) := by
  obtain ⟨fd, F⟩ := T.d.def_ 37 (d := d_form_L) rfl
  have F : FunD K "_law_form" "_law_form" (defArgs s_form_L) (defBody s_form_L) (defScope s_form_L) [] [] (He.ga K "_law_form") fd := F
  refine gv_mk (k := 2) F (T.glo 37) sc_form_L (fun _ _ _ _ _ _ us hl => match us, hl with | [_], _ => rfl) (psp_len fun ds R h => by
    obtain ⟨x, _, rfl, _⟩ := h
    rfl) fun f cdv A outer s H vs Q E hr h => ⟨t_form_L K (sp_drawn_L K) (sp_cell_L K) (sp_rule_L K), dv_form_L T (ok_drawn_L T) (ok_cell_L T) (ok_rule_L T) hr, ?_⟩
  · obtain ⟨ds, R, hi, ⟨x, hc, rfl, rfl⟩, q⟩ := h
    exact rd_form_L (ns := x) hc hi q
theorem ok_base_L (T : Tz K mg) : Gv P w K mg base CX0 3 "_law_base" P_base_L (sp_base_L K) := by
  obtain ⟨fd, F⟩ := T.d.def_ 38 (d := d_base_L) rfl
  have F : FunD K "_law_base" "_law_base" (defArgs s_base_L) (defBody s_base_L) (defScope s_base_L) [] [] (He.ga K "_law_base") fd := F
  refine gv_mk (k := 2) F (T.glo 38) sc_base_L (fun _ _ _ _ _ _ us hl => match us, hl with | [_, _], _ => rfl) (psp_len fun ds R h => by
    obtain ⟨x, _, rfl, _⟩ := h
    rfl) fun f cdv A outer s H vs Q E hr h => ⟨t_base_L K (sp_drawn_L K) (sp_cell_L K), dv_base_L T (ok_drawn_L T) (ok_cell_L T) hr, ?_⟩
  · obtain ⟨ds, R, hi, ⟨x, hc, rfl, rfl⟩, q⟩ := h
    exact rd_base_L (x := x) hc hi q
theorem ok_answer_L (T : Tz K mg) : Gv P w K mg base CX0 1 "_law_answer" P_answer_L (sp_answer_L K) := by
  obtain ⟨fd, F⟩ := T.d.def_ 39 (d := d_answer_L) rfl
  have F : FunD K "_law_answer" "_law_answer" (defArgs s_answer_L) (defBody s_answer_L) (defScope s_answer_L) [] [] (He.ga K "_law_answer") fd := F
  refine gv_mk (k := 0) F (T.glo 39) sc_answer_L (fun _ _ _ _ _ _ us hl => match us, hl with | [_, _, _, _], _ => rfl) (psp_len fun ds R h => by
    obtain ⟨x, _, rfl, _⟩ := h
    rfl) fun f cdv A outer s H vs Q E hr h => ⟨t_answer_L K , dv_answer_L T  hr, ?_⟩
  · obtain ⟨ds, R, hi, ⟨x, hc, rfl, rfl⟩, q⟩ := h
    exact rd_answer_L (x := x) hc hi q
theorem ok_cause_L (T : Tz K mg) : Gv P w K mg base CX0 2 "_law_cause" P_cause_L (sp_cause_L K) := by
  obtain ⟨fd, F⟩ := T.d.def_ 40 (d := d_cause_L) rfl
  have F : FunD K "_law_cause" "_law_cause" (defArgs s_cause_L) (defBody s_cause_L) (defScope s_cause_L) [] [] (He.ga K "_law_cause") fd := F
  refine gv_mk (k := 1) F (T.glo 40) sc_cause_L (fun _ _ _ _ _ _ us hl => match us, hl with | [_, _, _], _ => rfl) (psp_len fun ds R h => by
    obtain ⟨x, _, rfl, _⟩ := h
    rfl) fun f cdv A outer s H vs Q E hr h => ⟨t_cause_L K (sp_answer_L K), dv_cause_L T (ok_answer_L T) hr, ?_⟩
  · obtain ⟨ds, R, hi, ⟨x, hc, rfl, rfl⟩, q⟩ := h
    exact rd_cause_L (x := x) hc hi q
theorem ok_step_L (T : Tz K mg) : Gv P w K mg base CX0 3 "_law_step" P_step_L (sp_step_L K) := by
  obtain ⟨fd, F⟩ := T.d.def_ 41 (d := d_step_L) rfl
  have F : FunD K "_law_step" "_law_step" (defArgs s_step_L) (defBody s_step_L) (defScope s_step_L) [] [] (He.ga K "_law_step") fd := F
  refine gv_mk (k := 2) F (T.glo 41) sc_step_L (fun _ _ _ _ _ _ us hl => match us, hl with | [_, _, _], _ => rfl) (psp_len fun ds R h => by
    obtain ⟨x, _, rfl, _⟩ := h
    rfl) fun f cdv A outer s H vs Q E hr h => ⟨t_step_L K (sp_cause_L K) (sp_answer_L K), dv_step_L T (ok_cause_L T) (ok_answer_L T) hr, ?_⟩
  · obtain ⟨ds, R, hi, ⟨x, hc, rfl, rfl⟩, q⟩ := h
    exact rd_step_L (x := x) hc hi q
theorem ok_walk_L (T : Tz K mg) : Gv P w K mg base CX0 4 "_law_walk" P_walk_L (sp_walk_L K) := by
  obtain ⟨fd, F⟩ := T.d.def_ 42 (d := d_walk_L) rfl
  have F : FunD K "_law_walk" "_law_walk" (defArgs s_walk_L) (defBody s_walk_L) (defScope s_walk_L) [] [] (He.ga K "_law_walk") fd := F
  refine gv_mk (k := 3) F (T.glo 42) sc_walk_L (fun _ _ _ _ _ _ us hl => match us, hl with | [_, _, _], _ => rfl) (psp_len fun ds R h => by
    obtain ⟨x, _, rfl, _⟩ := h
    rfl) fun f cdv A outer s H vs Q E hr h => ⟨t_walk_L K (sp_cause_L K) (sp_step_L K), dv_walk_L T (ok_cause_L T) (ok_step_L T) hr, ?_⟩
  · obtain ⟨ds, R, hi, ⟨x, hc, rfl, rfl⟩, q⟩ := h
    exact rd_walk_L (x := x) hc hi q
theorem ok_options_L (T : Tz K mg) : Gv P w K mg base CX0 3 "_law_options" P_options_L (sp_options_L K) := by
  obtain ⟨fd, F⟩ := T.d.def_ 43 (d := d_options_L) rfl
  have F : FunD K "_law_options" "_law_options" (defArgs s_options_L) (defBody s_options_L) (defScope s_options_L) [] [] (He.ga K "_law_options") fd := F
  refine gv_mk (k := 2) F (T.glo 43) sc_options_L (fun _ _ _ _ _ _ us hl => match us, hl with | [_, _], _ => rfl) (pspl_len fun ds R h => by
    obtain ⟨x, _, rfl, _⟩ := h
    rfl) fun f cdv A outer s H vs Q E hr h => ⟨t_options_L K (sp_cause_L K), dv_options_L T (ok_cause_L T) hr, ?_⟩
  · obtain ⟨ds, R, hi, ⟨x, hc, rfl, rfl⟩, q⟩ := h
    exact rd_options_L (x := x) hc hi q
theorem ok_next_L (T : Tz K mg) : Gv P w K mg base CX0 4 "_law_next" P_next_L (sp_next_L K) := by
  obtain ⟨fd, F⟩ := T.d.def_ 44 (d := d_next_L) rfl
  have F : FunD K "_law_next" "_law_next" (defArgs s_next_L) (defBody s_next_L) (defScope s_next_L) [] [] (He.ga K "_law_next") fd := F
  refine gv_mk (k := 3) F (T.glo 44) sc_next_L (fun _ _ _ _ _ _ us hl => match us, hl with | [_, _, _], _ => rfl) (psp_len fun ds R h => by
    obtain ⟨x, _, rfl, _⟩ := h
    rfl) fun f cdv A outer s H vs Q E hr h => ⟨t_next_L K (sp_options_L K), dv_next_L T (ok_options_L T) hr, ?_⟩
  · obtain ⟨ds, R, hi, ⟨x, hc, rfl, rfl⟩, q⟩ := h
    exact rd_next_L (x := x) hc hi q
theorem ok_run_L (T : Tz K mg) : Gv P w K mg base CX0 5 "_law_run" P_run_L (sp_run_L K) := by
  obtain ⟨fd, F⟩ := T.d.def_ 45 (d := d_run_L) rfl
  have F : FunD K "_law_run" "_law_run" (defArgs s_run_L) (defBody s_run_L) (defScope s_run_L) [] [] (He.ga K "_law_run") fd := F
  refine gv_mk (k := 4) F (T.glo 45) sc_run_L (fun _ _ _ _ _ _ us hl => match us, hl with | [_, _, _], _ => rfl) (pspl_len fun ds R h => by
    obtain ⟨x, _, rfl, _⟩ := h
    rfl) fun f cdv A outer s H vs Q E hr h => ⟨t_run_L K (sp_next_L K) (sp_step_L K), dv_run_L T (ok_next_L T) (ok_step_L T) hr, ?_⟩
  · obtain ⟨ds, R, hi, ⟨x, hc, rfl, rfl⟩, q⟩ := h
    exact rd_run_L (x := x) hc hi q
theorem ok_machine_L (T : Tz K mg) : Gv P w K mg base CX0 1 "_law_machine" P_machine_L (sp_machine_L K) := by
  obtain ⟨fd, F⟩ := T.d.def_ 46 (d := d_machine_L) rfl
  have F : FunD K "_law_machine" "_law_machine" (defArgs s_machine_L) (defBody s_machine_L) (defScope s_machine_L) [] [] (He.ga K "_law_machine") fd := F
  refine gv_mk (k := 0) F (T.glo 46) sc_machine_L (fun _ _ _ _ _ _ us hl => match us, hl with | [_, _], _ => rfl) (psp_len fun ds R h => by
    obtain ⟨x, _, rfl, _⟩ := h
    rfl) fun f cdv A outer s H vs Q E hr h => ⟨t_machine_L K , dv_machine_L T  hr, ?_⟩
  · obtain ⟨ds, R, hi, ⟨x, hc, rfl, rfl⟩, q⟩ := h
    exact rd_machine_L (x := x) hc hi q
theorem ok_events_L (T : Tz K mg) : Gv P w K mg base CX0 2 "_law_events" P_events_L (sp_events_L K) := by
  obtain ⟨fd, F⟩ := T.d.def_ 47 (d := d_events_L) rfl
  have F : FunD K "_law_events" "_law_events" (defArgs s_events_L) (defBody s_events_L) (defScope s_events_L) [] [] (He.ga K "_law_events") fd := F
  refine gv_mk (k := 1) F (T.glo 47) sc_events_L (fun _ _ _ _ _ _ us hl => match us, hl with | [_, _], _ => rfl) (pspl_len fun ds R h => by
    obtain ⟨x, _, rfl, _⟩ := h
    rfl) fun f cdv A outer s H vs Q E hr h => ⟨t_events_L K (sp_machine_L K), dv_events_L T (ok_machine_L T) hr, ?_⟩
  · obtain ⟨ds, R, hi, ⟨x, hc, rfl, rfl⟩, q⟩ := h
    exact rd_events_L (x := x) hc hi q
theorem ok_ends_L (T : Tz K mg) : Gv P w K mg base CX0 2 "_law_ends" P_ends_L (sp_ends_L K) := by
  obtain ⟨fd, F⟩ := T.d.def_ 48 (d := d_ends_L) rfl
  have F : FunD K "_law_ends" "_law_ends" (defArgs s_ends_L) (defBody s_ends_L) (defScope s_ends_L) [] [] (He.ga K "_law_ends") fd := F
  refine gv_mk (k := 1) F (T.glo 48) sc_ends_L (fun _ _ _ _ _ _ us hl => match us, hl with | [_, _], _ => rfl) (psp_len fun ds R h => by
    obtain ⟨x, _, rfl, _⟩ := h
    rfl) fun f cdv A outer s H vs Q E hr h => ⟨t_ends_L K (sp_machine_L K), dv_ends_L T (ok_machine_L T) hr, ?_⟩
  · obtain ⟨ds, R, hi, ⟨x, hc, rfl, rfl⟩, q⟩ := h
    exact rd_ends_L (x := x) hc hi q
theorem ok_trips_L (T : Tz K mg) : Gv P w K mg base CX0 4 "_law_trips" P_trips_L (sp_trips_L K) := by
  obtain ⟨fd, F⟩ := T.d.def_ 49 (d := d_trips_L) rfl
  have F : FunD K "_law_trips" "_law_trips" (defArgs s_trips_L) (defBody s_trips_L) (defScope s_trips_L) [] [] (He.ga K "_law_trips") fd := F
  refine gv_mk (k := 3) F (T.glo 49) sc_trips_L (fun _ _ _ _ _ _ us hl => match us, hl with | [_, _, _], _ => rfl) (fun vs H Q E h => by
    obtain ⟨f, base, log, hi, _⟩ := h
    rw [hi.length]
    rfl) fun f cdv A outer s H vs Q E hr h => ⟨t_trips_L K (sp_events_L K) (sp_step_L K), dv_trips_L T (ok_events_L T) (ok_step_L T) hr, ?_⟩
  · exact rd_trips_L h
theorem ok_right_L (T : Tz K mg) : Gv P w K mg base CX0 1 "_law_right" P_right_L (sp_right_L K) := by
  obtain ⟨fd, F⟩ := T.d.def_ 50 (d := d_right_L) rfl
  have F : FunD K "_law_right" "_law_right" (defArgs s_right_L) (defBody s_right_L) (defScope s_right_L) [] [] (He.ga K "_law_right") fd := F
  refine gv_mk (k := 0) F (T.glo 50) sc_right_L (fun _ _ _ _ _ _ us hl => match us, hl with | [_, _], _ => rfl) (fun vs H Q E h => by
    obtain ⟨p, vc, f, num, cut, A, B, n, rfl, _⟩ := h
    rfl) fun f cdv A outer s H vs Q E hr h => ⟨t_right_L K , dv_right_L T  hr, ?_⟩
  · exact rd_right_L h
theorem ok_in_cut_L (T : Tz K mg) : Gv P w K mg base CX0 3 "_law_in_cut" P_in_cut_L (sp_in_cut_L K) := by
  obtain ⟨fd, F⟩ := T.d.def_ 51 (d := d_in_cut_L) rfl
  have F : FunD K "_law_in_cut" "_law_in_cut" (defArgs s_in_cut_L) (defBody s_in_cut_L) (defScope s_in_cut_L) [] [] (He.ga K "_law_in_cut") fd := F
  refine gv_mk (k := 2) F (T.glo 51) sc_in_cut_L (fun _ _ _ _ _ _ us hl => match us, hl with | [_, _, _], _ => rfl) (pspl_len fun ds R h => by
    obtain ⟨x, _, rfl, _⟩ := h
    rfl) fun f cdv A outer s H vs Q E hr h => ⟨t_in_cut_L K (sp_events_L K), dv_in_cut_L T (ok_events_L T) hr, ?_⟩
  · obtain ⟨ds, R, hi, ⟨x, hc, rfl, rfl⟩, q⟩ := h
    exact rd_in_cut_L (x := x) hc hi q
theorem ok_cut_L (T : Tz K mg) : Gv P w K mg base CX0 1 "_law_cut" P_cut_L (sp_cut_L K) := by
  obtain ⟨fd, F⟩ := T.d.def_ 52 (d := d_cut_L) rfl
  have F : FunD K "_law_cut" "_law_cut" (defArgs s_cut_L) (defBody s_cut_L) (defScope s_cut_L) [] [] (He.ga K "_law_cut") fd := F
  refine gv_mk (k := 0) F (T.glo 52) sc_cut_L (fun _ _ _ _ _ _ us hl => match us, hl with | [_, _], _ => rfl) (psp_len fun ds R h => by
    obtain ⟨x, _, rfl, _⟩ := h
    rfl) fun f cdv A outer s H vs Q E hr h => ⟨t_cut_L K , dv_cut_L T  hr, ?_⟩
  · obtain ⟨ds, R, hi, ⟨x, hc, rfl, rfl⟩, q⟩ := h
    exact rd_cut_L (x := x) hc hi q
theorem ok_asked_L (T : Tz K mg) : Gv P w K mg base CX0 7 "_law_asked" P_asked_L (sp_asked_L K) := by
  obtain ⟨fd, F⟩ := T.d.def_ 53 (d := d_asked_L) rfl
  have F : FunD K "_law_asked" "_law_asked" (defArgs s_asked_L) (defBody s_asked_L) (defScope s_asked_L) [] [] (He.ga K "_law_asked") fd := F
  refine gv_mk (k := 6) F (T.glo 53) sc_asked_L (fun _ _ _ _ _ _ us hl => match us, hl with | [_, _, _, _, _], _ => rfl) (psp_len fun ds R h => by
    obtain ⟨x, _, rfl, _⟩ := h
    rfl) fun f cdv A outer s H vs Q E hr h => ⟨t_asked_L K (sp_way_asked K), dv_asked_L T (ok_way_asked T) hr, ?_⟩
  · obtain ⟨ds, R, hi, ⟨x, hc, rfl, rfl⟩, q⟩ := h
    exact rd_asked_L T (x := x) hc hi q
theorem ok_is_cut_L (T : Tz K mg) : Gv P w K mg base CX0 11 "_law_is_cut" P_is_cut_L (sp_is_cut_L K) := by
  obtain ⟨fd, F⟩ := T.d.def_ 54 (d := d_is_cut_L) rfl
  have F : FunD K "_law_is_cut" "_law_is_cut" (defArgs s_is_cut_L) (defBody s_is_cut_L) (defScope s_is_cut_L) [] [] (He.ga K "_law_is_cut") fd := F
  refine gv_mk (k := 10) F (T.glo 54) sc_is_cut_L (fun _ _ _ _ _ _ us hl => match us, hl with | [_, _, _, _], _ => rfl) (psp_len fun ds R h => by
    obtain ⟨x, _, rfl, _⟩ := h
    rfl) fun f cdv A outer s H vs Q E hr h => ⟨t_is_cut_L K (sp_right_cut K), dv_is_cut_L T (ok_right_cut T) hr, ?_⟩
  · obtain ⟨ds, R, hi, ⟨x, hc, rfl, rfl⟩, q⟩ := h
    exact rd_is_cut_L T (x := x) hc hi q
theorem ok_bent_L (T : Tz K mg) : Gv P w K mg base CX0 1 "_law_bent" P_bent_L (sp_bent_L K) := by
  obtain ⟨fd, F⟩ := T.d.def_ 55 (d := d_bent_L) rfl
  have F : FunD K "_law_bent" "_law_bent" (defArgs s_bent_L) (defBody s_bent_L) (defScope s_bent_L) [] [] (He.ga K "_law_bent") fd := F
  refine gv_mk (k := 0) F (T.glo 55) sc_bent_L (fun _ _ _ _ _ _ us hl => match us, hl with | [_, _, _, _], _ => rfl) (psp_len fun ds R h => by
    obtain ⟨x, _, rfl, _⟩ := h
    rfl) fun f cdv A outer s H vs Q E hr h => ⟨t_bent_L K , dv_bent_L T  hr, ?_⟩
  · obtain ⟨ds, R, hi, ⟨x, hc, rfl, rfl⟩, q⟩ := h
    exact rd_bent_L (x := x) hc hi q
theorem ok_could_be_L (T : Tz K mg) : Gv P w K mg base CX0 5 "_law_could_be" P_could_be_L (sp_could_be_L K) := by
  obtain ⟨fd, F⟩ := T.d.def_ 56 (d := d_could_be_L) rfl
  have F : FunD K "_law_could_be" "_law_could_be" (defArgs s_could_be_L) (defBody s_could_be_L) (defScope s_could_be_L) [] [] (He.ga K "_law_could_be") fd := F
  refine gv_mk (k := 4) F (T.glo 56) sc_could_be_L (fun _ _ _ _ _ _ us hl => match us, hl with | [_, _, _, _, _], _ => rfl) (psp_len fun ds R h => by
    obtain ⟨x, _, rfl, _⟩ := h
    rfl) fun f cdv A outer s H vs Q E hr h => ⟨t_could_be_L K (sp_events_L K) (sp_walk_L K) (sp_ends_L K) (sp_right_L K) (sp_trips_L K) (sp_in_cut_L K), dv_could_be_L T (ok_events_L T) (ok_walk_L T) (ok_ends_L T) (ok_right_L T) (ok_trips_L T) (ok_in_cut_L T) hr, ?_⟩
  · obtain ⟨ds, R, hi, ⟨x, hc, rfl, rfl⟩, q⟩ := h
    exact rd_could_be_L (x := x) hc hi q
theorem ok_cut_right_L (T : Tz K mg) : Gv P w K mg base CX0 12 "_law_cut_right" P_cut_right_L (sp_cut_right_L K) := by
  obtain ⟨fd, F⟩ := T.d.def_ 57 (d := d_cut_right_L) rfl
  have F : FunD K "_law_cut_right" "_law_cut_right" (defArgs s_cut_right_L) (defBody s_cut_right_L) (defScope s_cut_right_L) [] [] (He.ga K "_law_cut_right") fd := F
  refine gv_mk (k := 11) F (T.glo 57) sc_cut_right_L (fun _ _ _ _ _ _ us hl => match us, hl with | [_, _, _, _], _ => rfl) (psp_len fun ds R h => by
    obtain ⟨x, _, rfl, _⟩ := h
    rfl) fun f cdv A outer s H vs Q E hr h => ⟨t_cut_right_L K (sp_cut_L K) (sp_ends_L K) (sp_right_L K) (sp_trips_L K) (sp_is_cut_L K) (sp_in_cut_L K) (sp_walk_L K) (sp_through K) (sp_asked_L K) (sp_could_be_L K) (sp_bent_L K), dv_cut_right_L T (ok_cut_L T) (ok_ends_L T) (ok_right_L T) (ok_trips_L T) (ok_is_cut_L T) (ok_in_cut_L T) (ok_walk_L T) (ok_through T) (ok_asked_L T) (ok_could_be_L T) (ok_bent_L T) hr, ?_⟩
  · obtain ⟨ds, R, hi, ⟨x, hc, rfl, rfl⟩, q⟩ := h
    exact rd_cut_right_L (x := x) hc hi q
theorem ok_law (T : Tz K mg) : Gv P w K mg base CX0 13 "law" P_law (sp_law K) := by
  obtain ⟨fd, F⟩ := T.d.def_ 58 (d := d_law) rfl
  have F : FunD K "law" "law" (defArgs s_law) (defBody s_law) (defScope s_law) [] [] (He.ga K "law") fd := F
  refine gv_mk (k := 12) F (T.glo 58) sc_law (fun _ _ _ _ _ _ us hl => match us, hl with | [_], _ => rfl) (psp_len fun ds R h => by
    obtain ⟨x, _, rfl, _⟩ := h
    rfl) fun f cdv A outer s H vs Q E hr h => ⟨t_law K (sp_form_L K) (sp_base_L K) (sp_drawn_L K) (sp_cell_L K) (sp_run_L K) (sp_cut_right_L K), dv_law T (ok_form_L T) (ok_base_L T) (ok_drawn_L T) (ok_cell_L T) (ok_run_L T) (ok_cut_right_L T) hr, ?_⟩
  · obtain ⟨ds, R, hi, ⟨x, hc, rfl, rfl⟩, q⟩ := h
    exact rd_law (ns := x) hc hi q
end
end Ct

/-! # CtEnd -/
namespace Ct
open PySem PySem.Spec PyProof.Rows L2 Evl
theorem facts {P : Program} {w : World} {K : PySem.W.Frag} {h : Heap} {mg : Str → Option Value} {f : Addr} (X : K.In h) (G : h.Ns mainGlobals mg) (hfa : mg ("law" : Str) = some (.ref f)) (c : SaysY K) :
    ∃ fd : FuncData, (∀ (s : Shared) (v : Value), BindsTo s fd ⟨[v], []⟩ [("_law_script", v)]) ∧ ∀ base : Heap, K.In base → base.Ns mainGlobals mg → FnOk P w K mg base CX0 13 f fd ["_law_script"] (sp_law K) := by
  have T : Tz K mg := ⟨⟨h, X, G, c⟩⟩
  obtain ⟨fd, F⟩ := T.d.def_ 58 (d := d_law) rfl
  have F : FunD K "law" "law" (defArgs s_law) (defBody s_law) (defScope s_law) [] [] (He.ga K "law") fd := F
  have e := hfa.symm.trans (T.glo 58 (x := "law"))
  cases e
  have b := FunD.bindsA (ps := ["_law_script"]) F fun _ _ _ _ _ _ us hl => match us, hl with | [_], _ => rfl
  refine ⟨fd, fun s v => b s [v] rfl, fun base _ _ => F.ok sc_law (psp_len fun ds R h => ?_) fun cdv A outer s H vs Q E hr h => ⟨t_law K (sp_form_L K) (sp_base_L K) (sp_drawn_L K) (sp_cell_L K) (sp_run_L K) (sp_cut_right_L K), dv_law T (ok_form_L T) (ok_base_L T) (ok_drawn_L T) (ok_cell_L T) (ok_run_L T) (ok_cut_right_L T) hr, ?_⟩⟩
  · obtain ⟨x, _, rfl, _⟩ := h
    rfl
  · obtain ⟨ds, R, hi, ⟨x, hc, rfl, rfl⟩, q⟩ := h
    exact rd_law (ns := x) hc hi q
end Ct
open PySem PySem.W PySem.Calls PyProof.Rows
theorem PySem.Challenge.cw_cutstand_k90_whole_cuts_could_have_been_holds : PySem.Challenge.rw_cutstand_k90_whole_cuts_could_have_been.Holds := by
  w_on; o_law
  refine HandSHeadRun.head_any (r := OpenLaw.row PySem.Challenge.rw_cutstand_k90_whole_cuts_could_have_been) (q := view (OpenLaw.row PySem.Challenge.rw_cutstand_k90_whole_cuts_could_have_been).prog [74]) (H := Ct.hookY 5) (ob := Ct.ob) (M := 3000) (loose := Ct.loose) (d := HandSHeadRun.topDef (OpenLaw.row PySem.Challenge.rw_cutstand_k90_whole_cuts_could_have_been).prog 74) (kwd := []) Ct.ob_eq
    (by kernel_rfl) (fun s => by kernel_rfl) Ct.run (by kernel_rfl) (by kernel_rfl) (by kernel_rfl) (by rfl) (by first | assumption | decide +kernel) (by decide +kernel) ⟨rfl, rfl, rfl, rfl, rfl, by decide +kernel⟩ ?hw ?hc
  case hw => w_witness2
  case hc =>
    refine L2.walk_ofE (l := PySem.Challenge.rw_cutstand_k90_whole_cuts_could_have_been) (n := 63) (k := 13) (x := "_law_script") (CX := L2.CX0) rfl (by decide) (by kernel_rfl) ⟨rfl, by decide, by decide⟩ ?F (fun _ _ _ _ z => z)
    intro w mg fa h Y G hmg0
    obtain ⟨K, KX, c⟩ := Y
    have hmg : mg ("law" : PySem.Str) = some (.ref fa) := by
      have e : (HandSHeadRun.topDef (OpenLaw.row PySem.Challenge.rw_cutstand_k90_whole_cuts_could_have_been).prog 74).name = ("law" : PySem.Str) := by kernel_rfl
      rw [← e]
      exact hmg0
    obtain ⟨fd, hb, hF⟩ := Ct.facts (P := (PySem.Challenge.rw_cutstand_k90_whole_cuts_could_have_been).prog) (w := w) KX G hmg c
    exact ⟨K, fd, Ct.sp_law K, KX, hb, fun H a ns hl _ hS => ⟨[Ct.eInts ns], fun r => r = .bool true, ⟨.ref a, [], rfl, ⟨a, _, rfl, hS, Ct.isDs_ints⟩, rfl⟩, ⟨ns, hl, rfl, rfl⟩, fun d v H' _ hd hr => by subst hr; exact hd⟩, hF⟩

