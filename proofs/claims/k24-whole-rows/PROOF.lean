import PyProof.Rows.All
import Wide.All
import OpenK.AllK
import Wide.FinOn
import KE.KStateDown
import Lean
import HandS.ForMost
import HandS.ForExc
import HandS.Defaults
import HandS.ExcField
import HandS.Head0
import HandS.Head1
import HandS.Head2
import HandS.HeadEnd
import HandS.HeadHook1
import HandS.HeadHook2
import PySem.Challenge.RW_stillheap_k24_whole_rows_and_jumps
import HandS.Walk
import HandS.Conv
import KE.KExcMore
import HandS.Deep
import HandS.NoneIn
import HandS.Style
import HandS.SortInts
import HandS.More
import HandS.RaiseMore
import KE.GoesEnum
import PyProof.P3Eq
section
set_option Elab.async false
set_option linter.all false
set_option maxRecDepth 100000
set_option maxHeartbeats 4000000
namespace Sh
open PySem PySem.Spec PyProof.Rows L2
open He (fAd ga)
def top (i : Nat) : Stmt := PySem.Challenge.pw_stillheap_k24_whole_rows_and_jumps.main.body.getD i (.Pass ⟨0, 0, 0, 0⟩)
/-! ### the text by places (printed by wip/gen_head.py) -/
abbrev st_HeapError_called : Stmt := inClass (top 2) 0
abbrev st_BadCount_called : Stmt := inClass (top 3) 0
abbrev st_BadField_called : Stmt := inClass (top 4) 0
abbrev st_BadHand_called : Stmt := inClass (top 5) 0
abbrev st_BadName_called : Stmt := inClass (top 6) 0
abbrev st_NoRoom_called : Stmt := inClass (top 9) 0
abbrev st_TooManyWords_called : Stmt := inClass (top 11) 0
abbrev st_parts_due : Stmt := top 18
abbrev st_are_all_in : Stmt := top 19
abbrev st_is_plain : Stmt := top 20
abbrev st_is_mark : Stmt := top 21
abbrev st_part_in : Stmt := top 22
abbrev st_row_in : Stmt := top 23
abbrev st_mark_of : Stmt := top 24
abbrev st_marks_in : Stmt := top 25
abbrev st_read_program : Stmt := top 26
abbrev st_do_value : Stmt := top 28
abbrev st_do_plain : Stmt := top 29
abbrev st_goes_on : Stmt := top 30
abbrev st_said_of : Stmt := top 31
abbrev st_Running_init : Stmt := inClass (top 32) 0
abbrev st_Running_at : Stmt := inClass (top 32) 1
abbrev st_Running_do_row : Stmt := inClass (top 32) 2
abbrev st_Running_step : Stmt := inClass (top 32) 3
abbrev st_Running_told : Stmt := inClass (top 32) 4
abbrev st_Running_fault : Stmt := inClass (top 32) 5
abbrev st_Running_steps : Stmt := inClass (top 32) 6
abbrev st_number_value : Stmt := top 41
abbrev st_thing_value : Stmt := top 42
abbrev st_kind_of : Stmt := top 43
abbrev st_words_of : Stmt := top 44
abbrev st_look_at_hand : Stmt := top 45
abbrev st_look_at_name : Stmt := top 46
abbrev st_look_at_limits : Stmt := top 47
abbrev st_IdealThing_init : Stmt := inClass (top 50) 0
abbrev st_thing_of : Stmt := top 51
abbrev st_things_of : Stmt := top 52
abbrev st_led_within : Stmt := top 53
abbrev st_young_things : Stmt := top 54
abbrev st_words_in : Stmt := top 55
abbrev st_young_kept : Stmt := top 56
abbrev st_IdealHeap_init : Stmt := inClass (top 57) 0
abbrev st_IdealHeap_thing_in : Stmt := inClass (top 57) 1
abbrev st_IdealHeap_field_due : Stmt := inClass (top 57) 2
abbrev st_IdealHeap_make : Stmt := inClass (top 57) 3
abbrev st_IdealHeap_load : Stmt := inClass (top 57) 4
abbrev st_IdealHeap_store : Stmt := inClass (top 57) 5
abbrev st_IdealHeap_copy : Stmt := inClass (top 57) 6
abbrev st_IdealHeap_drop : Stmt := inClass (top 57) 7
abbrev st_IdealHeap_number : Stmt := inClass (top 57) 8
abbrev st_IdealHeap_name : Stmt := inClass (top 57) 9
abbrev st_IdealHeap_read : Stmt := inClass (top 57) 10
abbrev st_IdealHeap_give_back : Stmt := inClass (top 57) 11
abbrev st_IdealHeap_word : Stmt := inClass (top 57) 12
abbrev st_IdealHeap_take : Stmt := inClass (top 57) 13
abbrev st_IdealHeap_kind : Stmt := inClass (top 57) 14
abbrev st_IdealHeap_value : Stmt := inClass (top 57) 15
abbrev st_IdealHeap_fields : Stmt := inClass (top 57) 16
abbrev st_IdealHeap_same : Stmt := inClass (top 57) 17
abbrev st_IdealHeap_held : Stmt := inClass (top 57) 18
abbrev st_IdealHeap_settle : Stmt := inClass (top 57) 19
abbrev st_IdealHeap_small : Stmt := inClass (top 57) 20
abbrev st_IdealHeap_round_on : Stmt := inClass (top 57) 23
abbrev st_IdealHeap_hands : Stmt := inClass (top 57) 24
abbrev st_IdealHeap_names : Stmt := inClass (top 57) 25
abbrev st_IdealHeap_things : Stmt := inClass (top 57) 26
abbrev st_IdealHeap_thing_due : Stmt := inClass (top 57) 27
abbrev st_IdealHeap_fields_of : Stmt := inClass (top 57) 28
abbrev st_IdealHeap_is_old : Stmt := inClass (top 57) 29
abbrev st_IdealHeap_word_of : Stmt := inClass (top 57) 30
abbrev st_IdealHeap_doomed : Stmt := inClass (top 57) 31
abbrev st_IdealHeap_said : Stmt := inClass (top 57) 32
abbrev st_IdealHeap_made : Stmt := inClass (top 57) 33
abbrev st_law_numbers : Stmt := top 59
abbrev st_law_row : Stmt := top 60
abbrev st_law_program : Stmt := top 61
abbrev st_law_text : Stmt := top 62
abbrev st_law_plain : Stmt := top 63
abbrev st_law_jumps : Stmt := top 64
abbrev st_law_reckoned : Stmt := top 65
abbrev st_law_said : Stmt := top 66
abbrev st_law_one : Stmt := top 67
abbrev st_law_heap : Stmt := top 68
abbrev st_law_told : Stmt := top 69
abbrev st_law_step_right : Stmt := top 70
abbrev st_law : Stmt := top 71
abbrev at_HeapError_called : Str × Option Str := ("HeapError", some "called")
def d_HeapError_called : He.DefD := ⟨at_HeapError_called, "called", "HeapError.called", defArgs st_HeapError_called, defBody st_HeapError_called, defScope st_HeapError_called, [], []⟩
abbrev at_BadCount_called : Str × Option Str := ("BadCount", some "called")
def d_BadCount_called : He.DefD := ⟨at_BadCount_called, "called", "BadCount.called", defArgs st_BadCount_called, defBody st_BadCount_called, defScope st_BadCount_called, [], []⟩
abbrev at_BadField_called : Str × Option Str := ("BadField", some "called")
def d_BadField_called : He.DefD := ⟨at_BadField_called, "called", "BadField.called", defArgs st_BadField_called, defBody st_BadField_called, defScope st_BadField_called, [], []⟩
abbrev at_BadHand_called : Str × Option Str := ("BadHand", some "called")
def d_BadHand_called : He.DefD := ⟨at_BadHand_called, "called", "BadHand.called", defArgs st_BadHand_called, defBody st_BadHand_called, defScope st_BadHand_called, [], []⟩
abbrev at_BadName_called : Str × Option Str := ("BadName", some "called")
def d_BadName_called : He.DefD := ⟨at_BadName_called, "called", "BadName.called", defArgs st_BadName_called, defBody st_BadName_called, defScope st_BadName_called, [], []⟩
abbrev at_NoRoom_called : Str × Option Str := ("NoRoom", some "called")
def d_NoRoom_called : He.DefD := ⟨at_NoRoom_called, "called", "NoRoom.called", defArgs st_NoRoom_called, defBody st_NoRoom_called, defScope st_NoRoom_called, [], []⟩
abbrev at_TooManyWords_called : Str × Option Str := ("TooManyWords", some "called")
def d_TooManyWords_called : He.DefD := ⟨at_TooManyWords_called, "called", "TooManyWords.called", defArgs st_TooManyWords_called, defBody st_TooManyWords_called, defScope st_TooManyWords_called, [], []⟩
abbrev at_parts_due : Str × Option Str := ("parts_due", none)
def d_parts_due : He.DefD := ⟨at_parts_due, "parts_due", "parts_due", defArgs st_parts_due, defBody st_parts_due, defScope st_parts_due, [], []⟩
abbrev at_are_all_in : Str × Option Str := ("are_all_in", none)
def d_are_all_in : He.DefD := ⟨at_are_all_in, "are_all_in", "are_all_in", defArgs st_are_all_in, defBody st_are_all_in, defScope st_are_all_in, [], []⟩
abbrev at_is_plain : Str × Option Str := ("is_plain", none)
def d_is_plain : He.DefD := ⟨at_is_plain, "is_plain", "is_plain", defArgs st_is_plain, defBody st_is_plain, defScope st_is_plain, [], []⟩
abbrev at_is_mark : Str × Option Str := ("is_mark", none)
def d_is_mark : He.DefD := ⟨at_is_mark, "is_mark", "is_mark", defArgs st_is_mark, defBody st_is_mark, defScope st_is_mark, [], []⟩
abbrev at_part_in : Str × Option Str := ("part_in", none)
def d_part_in : He.DefD := ⟨at_part_in, "part_in", "part_in", defArgs st_part_in, defBody st_part_in, defScope st_part_in, [], []⟩
abbrev at_row_in : Str × Option Str := ("row_in", none)
def d_row_in : He.DefD := ⟨at_row_in, "row_in", "row_in", defArgs st_row_in, defBody st_row_in, defScope st_row_in, [], []⟩
abbrev at_mark_of : Str × Option Str := ("mark_of", none)
def d_mark_of : He.DefD := ⟨at_mark_of, "mark_of", "mark_of", defArgs st_mark_of, defBody st_mark_of, defScope st_mark_of, [], []⟩
abbrev at_marks_in : Str × Option Str := ("marks_in", none)
def d_marks_in : He.DefD := ⟨at_marks_in, "marks_in", "marks_in", defArgs st_marks_in, defBody st_marks_in, defScope st_marks_in, [], []⟩
abbrev at_read_program : Str × Option Str := ("read_program", none)
def d_read_program : He.DefD := ⟨at_read_program, "read_program", "read_program", defArgs st_read_program, defBody st_read_program, defScope st_read_program, [], []⟩
abbrev at_do_value : Str × Option Str := ("do_value", none)
def d_do_value : He.DefD := ⟨at_do_value, "do_value", "do_value", defArgs st_do_value, defBody st_do_value, defScope st_do_value, [], []⟩
abbrev at_do_plain : Str × Option Str := ("do_plain", none)
def d_do_plain : He.DefD := ⟨at_do_plain, "do_plain", "do_plain", defArgs st_do_plain, defBody st_do_plain, defScope st_do_plain, [], []⟩
abbrev at_goes_on : Str × Option Str := ("goes_on", none)
def d_goes_on : He.DefD := ⟨at_goes_on, "goes_on", "goes_on", defArgs st_goes_on, defBody st_goes_on, defScope st_goes_on, [], []⟩
abbrev at_said_of : Str × Option Str := ("said_of", none)
def d_said_of : He.DefD := ⟨at_said_of, "said_of", "said_of", defArgs st_said_of, defBody st_said_of, defScope st_said_of, [], []⟩
abbrev at_Running_init : Str × Option Str := ("Running", some "__init__")
def d_Running_init : He.DefD := ⟨at_Running_init, "__init__", "Running.__init__", defArgs st_Running_init, defBody st_Running_init, defScope st_Running_init, [], []⟩
abbrev at_Running_at : Str × Option Str := ("Running", some "at")
def d_Running_at : He.DefD := ⟨at_Running_at, "at", "Running.at", defArgs st_Running_at, defBody st_Running_at, defScope st_Running_at, [], []⟩
abbrev at_Running_do_row : Str × Option Str := ("Running", some "do_row")
def d_Running_do_row : He.DefD := ⟨at_Running_do_row, "do_row", "Running.do_row", defArgs st_Running_do_row, defBody st_Running_do_row, defScope st_Running_do_row, [], []⟩
abbrev at_Running_step : Str × Option Str := ("Running", some "step")
def d_Running_step : He.DefD := ⟨at_Running_step, "step", "Running.step", defArgs st_Running_step, defBody st_Running_step, defScope st_Running_step, [], []⟩
abbrev at_Running_told : Str × Option Str := ("Running", some "told")
def d_Running_told : He.DefD := ⟨at_Running_told, "told", "Running.told", defArgs st_Running_told, defBody st_Running_told, defScope st_Running_told, [], []⟩
abbrev at_Running_fault : Str × Option Str := ("Running", some "fault")
def d_Running_fault : He.DefD := ⟨at_Running_fault, "fault", "Running.fault", defArgs st_Running_fault, defBody st_Running_fault, defScope st_Running_fault, [], []⟩
abbrev at_Running_steps : Str × Option Str := ("Running", some "steps")
def d_Running_steps : He.DefD := ⟨at_Running_steps, "steps", "Running.steps", defArgs st_Running_steps, defBody st_Running_steps, defScope st_Running_steps, [], []⟩
abbrev at_number_value : Str × Option Str := ("number_value", none)
def d_number_value : He.DefD := ⟨at_number_value, "number_value", "number_value", defArgs st_number_value, defBody st_number_value, defScope st_number_value, [], []⟩
abbrev at_thing_value : Str × Option Str := ("thing_value", none)
def d_thing_value : He.DefD := ⟨at_thing_value, "thing_value", "thing_value", defArgs st_thing_value, defBody st_thing_value, defScope st_thing_value, [], []⟩
abbrev at_kind_of : Str × Option Str := ("kind_of", none)
def d_kind_of : He.DefD := ⟨at_kind_of, "kind_of", "kind_of", defArgs st_kind_of, defBody st_kind_of, defScope st_kind_of, [], []⟩
abbrev at_words_of : Str × Option Str := ("words_of", none)
def d_words_of : He.DefD := ⟨at_words_of, "words_of", "words_of", defArgs st_words_of, defBody st_words_of, defScope st_words_of, [], []⟩
abbrev at_look_at_hand : Str × Option Str := ("look_at_hand", none)
def d_look_at_hand : He.DefD := ⟨at_look_at_hand, "look_at_hand", "look_at_hand", defArgs st_look_at_hand, defBody st_look_at_hand, defScope st_look_at_hand, [], []⟩
abbrev at_look_at_name : Str × Option Str := ("look_at_name", none)
def d_look_at_name : He.DefD := ⟨at_look_at_name, "look_at_name", "look_at_name", defArgs st_look_at_name, defBody st_look_at_name, defScope st_look_at_name, [], []⟩
abbrev at_look_at_limits : Str × Option Str := ("look_at_limits", none)
def d_look_at_limits : He.DefD := ⟨at_look_at_limits, "look_at_limits", "look_at_limits", defArgs st_look_at_limits, defBody st_look_at_limits, defScope st_look_at_limits, [], []⟩
abbrev at_IdealThing_init : Str × Option Str := ("IdealThing", some "__init__")
def d_IdealThing_init : He.DefD := ⟨at_IdealThing_init, "__init__", "IdealThing.__init__", defArgs st_IdealThing_init, defBody st_IdealThing_init, defScope st_IdealThing_init, [], []⟩
abbrev at_thing_of : Str × Option Str := ("thing_of", none)
def d_thing_of : He.DefD := ⟨at_thing_of, "thing_of", "thing_of", defArgs st_thing_of, defBody st_thing_of, defScope st_thing_of, [], []⟩
abbrev at_things_of : Str × Option Str := ("things_of", none)
def d_things_of : He.DefD := ⟨at_things_of, "things_of", "things_of", defArgs st_things_of, defBody st_things_of, defScope st_things_of, [], []⟩
abbrev at_led_within : Str × Option Str := ("led_within", none)
def d_led_within : He.DefD := ⟨at_led_within, "led_within", "led_within", defArgs st_led_within, defBody st_led_within, defScope st_led_within, [], []⟩
abbrev at_young_things : Str × Option Str := ("young_things", none)
def d_young_things : He.DefD := ⟨at_young_things, "young_things", "young_things", defArgs st_young_things, defBody st_young_things, defScope st_young_things, [], []⟩
abbrev at_words_in : Str × Option Str := ("words_in", none)
def d_words_in : He.DefD := ⟨at_words_in, "words_in", "words_in", defArgs st_words_in, defBody st_words_in, defScope st_words_in, [], []⟩
abbrev at_young_kept : Str × Option Str := ("young_kept", none)
def d_young_kept : He.DefD := ⟨at_young_kept, "young_kept", "young_kept", defArgs st_young_kept, defBody st_young_kept, defScope st_young_kept, [], []⟩
abbrev at_IdealHeap_init : Str × Option Str := ("IdealHeap", some "__init__")
def d_IdealHeap_init : He.DefD := ⟨at_IdealHeap_init, "__init__", "IdealHeap.__init__", defArgs st_IdealHeap_init, defBody st_IdealHeap_init, defScope st_IdealHeap_init, [], []⟩
abbrev at_IdealHeap_thing_in : Str × Option Str := ("IdealHeap", some "thing_in")
def d_IdealHeap_thing_in : He.DefD := ⟨at_IdealHeap_thing_in, "thing_in", "IdealHeap.thing_in", defArgs st_IdealHeap_thing_in, defBody st_IdealHeap_thing_in, defScope st_IdealHeap_thing_in, [], []⟩
abbrev at_IdealHeap_field_due : Str × Option Str := ("IdealHeap", some "field_due")
def d_IdealHeap_field_due : He.DefD := ⟨at_IdealHeap_field_due, "field_due", "IdealHeap.field_due", defArgs st_IdealHeap_field_due, defBody st_IdealHeap_field_due, defScope st_IdealHeap_field_due, [], []⟩
abbrev at_IdealHeap_make : Str × Option Str := ("IdealHeap", some "make")
def d_IdealHeap_make : He.DefD := ⟨at_IdealHeap_make, "make", "IdealHeap.make", defArgs st_IdealHeap_make, defBody st_IdealHeap_make, defScope st_IdealHeap_make, [], []⟩
abbrev at_IdealHeap_load : Str × Option Str := ("IdealHeap", some "load")
def d_IdealHeap_load : He.DefD := ⟨at_IdealHeap_load, "load", "IdealHeap.load", defArgs st_IdealHeap_load, defBody st_IdealHeap_load, defScope st_IdealHeap_load, [], []⟩
abbrev at_IdealHeap_store : Str × Option Str := ("IdealHeap", some "store")
def d_IdealHeap_store : He.DefD := ⟨at_IdealHeap_store, "store", "IdealHeap.store", defArgs st_IdealHeap_store, defBody st_IdealHeap_store, defScope st_IdealHeap_store, [], []⟩
abbrev at_IdealHeap_copy : Str × Option Str := ("IdealHeap", some "copy")
def d_IdealHeap_copy : He.DefD := ⟨at_IdealHeap_copy, "copy", "IdealHeap.copy", defArgs st_IdealHeap_copy, defBody st_IdealHeap_copy, defScope st_IdealHeap_copy, [], []⟩
abbrev at_IdealHeap_drop : Str × Option Str := ("IdealHeap", some "drop")
def d_IdealHeap_drop : He.DefD := ⟨at_IdealHeap_drop, "drop", "IdealHeap.drop", defArgs st_IdealHeap_drop, defBody st_IdealHeap_drop, defScope st_IdealHeap_drop, [], []⟩
abbrev at_IdealHeap_number : Str × Option Str := ("IdealHeap", some "number")
def d_IdealHeap_number : He.DefD := ⟨at_IdealHeap_number, "number", "IdealHeap.number", defArgs st_IdealHeap_number, defBody st_IdealHeap_number, defScope st_IdealHeap_number, [], []⟩
abbrev at_IdealHeap_name : Str × Option Str := ("IdealHeap", some "name")
def d_IdealHeap_name : He.DefD := ⟨at_IdealHeap_name, "name", "IdealHeap.name", defArgs st_IdealHeap_name, defBody st_IdealHeap_name, defScope st_IdealHeap_name, [], []⟩
abbrev at_IdealHeap_read : Str × Option Str := ("IdealHeap", some "read")
def d_IdealHeap_read : He.DefD := ⟨at_IdealHeap_read, "read", "IdealHeap.read", defArgs st_IdealHeap_read, defBody st_IdealHeap_read, defScope st_IdealHeap_read, [], []⟩
abbrev at_IdealHeap_give_back : Str × Option Str := ("IdealHeap", some "give_back")
def d_IdealHeap_give_back : He.DefD := ⟨at_IdealHeap_give_back, "give_back", "IdealHeap.give_back", defArgs st_IdealHeap_give_back, defBody st_IdealHeap_give_back, defScope st_IdealHeap_give_back, [], []⟩
abbrev at_IdealHeap_word : Str × Option Str := ("IdealHeap", some "word")
def d_IdealHeap_word : He.DefD := ⟨at_IdealHeap_word, "word", "IdealHeap.word", defArgs st_IdealHeap_word, defBody st_IdealHeap_word, defScope st_IdealHeap_word, [], []⟩
abbrev at_IdealHeap_take : Str × Option Str := ("IdealHeap", some "take")
def d_IdealHeap_take : He.DefD := ⟨at_IdealHeap_take, "take", "IdealHeap.take", defArgs st_IdealHeap_take, defBody st_IdealHeap_take, defScope st_IdealHeap_take, [], []⟩
abbrev at_IdealHeap_kind : Str × Option Str := ("IdealHeap", some "kind")
def d_IdealHeap_kind : He.DefD := ⟨at_IdealHeap_kind, "kind", "IdealHeap.kind", defArgs st_IdealHeap_kind, defBody st_IdealHeap_kind, defScope st_IdealHeap_kind, [], []⟩
abbrev at_IdealHeap_value : Str × Option Str := ("IdealHeap", some "value")
def d_IdealHeap_value : He.DefD := ⟨at_IdealHeap_value, "value", "IdealHeap.value", defArgs st_IdealHeap_value, defBody st_IdealHeap_value, defScope st_IdealHeap_value, [], []⟩
abbrev at_IdealHeap_fields : Str × Option Str := ("IdealHeap", some "fields")
def d_IdealHeap_fields : He.DefD := ⟨at_IdealHeap_fields, "fields", "IdealHeap.fields", defArgs st_IdealHeap_fields, defBody st_IdealHeap_fields, defScope st_IdealHeap_fields, [], []⟩
abbrev at_IdealHeap_same : Str × Option Str := ("IdealHeap", some "same")
def d_IdealHeap_same : He.DefD := ⟨at_IdealHeap_same, "same", "IdealHeap.same", defArgs st_IdealHeap_same, defBody st_IdealHeap_same, defScope st_IdealHeap_same, [], []⟩
abbrev at_IdealHeap_held : Str × Option Str := ("IdealHeap", some "held")
def d_IdealHeap_held : He.DefD := ⟨at_IdealHeap_held, "held", "IdealHeap.held", defArgs st_IdealHeap_held, defBody st_IdealHeap_held, defScope st_IdealHeap_held, [], []⟩
abbrev at_IdealHeap_settle : Str × Option Str := ("IdealHeap", some "settle")
def d_IdealHeap_settle : He.DefD := ⟨at_IdealHeap_settle, "settle", "IdealHeap.settle", defArgs st_IdealHeap_settle, defBody st_IdealHeap_settle, defScope st_IdealHeap_settle, [], []⟩
abbrev at_IdealHeap_small : Str × Option Str := ("IdealHeap", some "small")
def d_IdealHeap_small : He.DefD := ⟨at_IdealHeap_small, "small", "IdealHeap.small", defArgs st_IdealHeap_small, defBody st_IdealHeap_small, defScope st_IdealHeap_small, [], []⟩
abbrev at_IdealHeap_round_on : Str × Option Str := ("IdealHeap", some "round_on")
def d_IdealHeap_round_on : He.DefD := ⟨at_IdealHeap_round_on, "round_on", "IdealHeap.round_on", defArgs st_IdealHeap_round_on, defBody st_IdealHeap_round_on, defScope st_IdealHeap_round_on, [], []⟩
abbrev at_IdealHeap_hands : Str × Option Str := ("IdealHeap", some "hands")
def d_IdealHeap_hands : He.DefD := ⟨at_IdealHeap_hands, "hands", "IdealHeap.hands", defArgs st_IdealHeap_hands, defBody st_IdealHeap_hands, defScope st_IdealHeap_hands, [], []⟩
abbrev at_IdealHeap_names : Str × Option Str := ("IdealHeap", some "names")
def d_IdealHeap_names : He.DefD := ⟨at_IdealHeap_names, "names", "IdealHeap.names", defArgs st_IdealHeap_names, defBody st_IdealHeap_names, defScope st_IdealHeap_names, [], []⟩
abbrev at_IdealHeap_things : Str × Option Str := ("IdealHeap", some "things")
def d_IdealHeap_things : He.DefD := ⟨at_IdealHeap_things, "things", "IdealHeap.things", defArgs st_IdealHeap_things, defBody st_IdealHeap_things, defScope st_IdealHeap_things, [], []⟩
abbrev at_IdealHeap_thing_due : Str × Option Str := ("IdealHeap", some "thing_due")
def d_IdealHeap_thing_due : He.DefD := ⟨at_IdealHeap_thing_due, "thing_due", "IdealHeap.thing_due", defArgs st_IdealHeap_thing_due, defBody st_IdealHeap_thing_due, defScope st_IdealHeap_thing_due, [], []⟩
abbrev at_IdealHeap_fields_of : Str × Option Str := ("IdealHeap", some "fields_of")
def d_IdealHeap_fields_of : He.DefD := ⟨at_IdealHeap_fields_of, "fields_of", "IdealHeap.fields_of", defArgs st_IdealHeap_fields_of, defBody st_IdealHeap_fields_of, defScope st_IdealHeap_fields_of, [], []⟩
abbrev at_IdealHeap_is_old : Str × Option Str := ("IdealHeap", some "is_old")
def d_IdealHeap_is_old : He.DefD := ⟨at_IdealHeap_is_old, "is_old", "IdealHeap.is_old", defArgs st_IdealHeap_is_old, defBody st_IdealHeap_is_old, defScope st_IdealHeap_is_old, [], []⟩
abbrev at_IdealHeap_word_of : Str × Option Str := ("IdealHeap", some "word_of")
def d_IdealHeap_word_of : He.DefD := ⟨at_IdealHeap_word_of, "word_of", "IdealHeap.word_of", defArgs st_IdealHeap_word_of, defBody st_IdealHeap_word_of, defScope st_IdealHeap_word_of, [], []⟩
abbrev at_IdealHeap_doomed : Str × Option Str := ("IdealHeap", some "doomed")
def d_IdealHeap_doomed : He.DefD := ⟨at_IdealHeap_doomed, "doomed", "IdealHeap.doomed", defArgs st_IdealHeap_doomed, defBody st_IdealHeap_doomed, defScope st_IdealHeap_doomed, [], []⟩
abbrev at_IdealHeap_said : Str × Option Str := ("IdealHeap", some "said")
def d_IdealHeap_said : He.DefD := ⟨at_IdealHeap_said, "said", "IdealHeap.said", defArgs st_IdealHeap_said, defBody st_IdealHeap_said, defScope st_IdealHeap_said, [], []⟩
abbrev at_IdealHeap_made : Str × Option Str := ("IdealHeap", some "made")
def d_IdealHeap_made : He.DefD := ⟨at_IdealHeap_made, "made", "IdealHeap.made", defArgs st_IdealHeap_made, defBody st_IdealHeap_made, defScope st_IdealHeap_made, [], []⟩
abbrev at_law_numbers : Str × Option Str := ("_law_numbers", none)
def d_law_numbers : He.DefD := ⟨at_law_numbers, "_law_numbers", "_law_numbers", defArgs st_law_numbers, defBody st_law_numbers, defScope st_law_numbers, [], []⟩
abbrev at_law_row : Str × Option Str := ("_law_row", none)
def d_law_row : He.DefD := ⟨at_law_row, "_law_row", "_law_row", defArgs st_law_row, defBody st_law_row, defScope st_law_row, [], []⟩
abbrev at_law_program : Str × Option Str := ("_law_program", none)
def d_law_program : He.DefD := ⟨at_law_program, "_law_program", "_law_program", defArgs st_law_program, defBody st_law_program, defScope st_law_program, [], []⟩
abbrev at_law_text : Str × Option Str := ("_law_text", none)
def d_law_text : He.DefD := ⟨at_law_text, "_law_text", "_law_text", defArgs st_law_text, defBody st_law_text, defScope st_law_text, [], []⟩
abbrev at_law_plain : Str × Option Str := ("_law_plain", none)
def d_law_plain : He.DefD := ⟨at_law_plain, "_law_plain", "_law_plain", defArgs st_law_plain, defBody st_law_plain, defScope st_law_plain, [], []⟩
abbrev at_law_jumps : Str × Option Str := ("_law_jumps", none)
def d_law_jumps : He.DefD := ⟨at_law_jumps, "_law_jumps", "_law_jumps", defArgs st_law_jumps, defBody st_law_jumps, defScope st_law_jumps, [], []⟩
abbrev at_law_reckoned : Str × Option Str := ("_law_reckoned", none)
def d_law_reckoned : He.DefD := ⟨at_law_reckoned, "_law_reckoned", "_law_reckoned", defArgs st_law_reckoned, defBody st_law_reckoned, defScope st_law_reckoned, [], []⟩
abbrev at_law_said : Str × Option Str := ("_law_said", none)
def d_law_said : He.DefD := ⟨at_law_said, "_law_said", "_law_said", defArgs st_law_said, defBody st_law_said, defScope st_law_said, [], []⟩
abbrev at_law_one : Str × Option Str := ("_law_one", none)
def d_law_one : He.DefD := ⟨at_law_one, "_law_one", "_law_one", defArgs st_law_one, defBody st_law_one, defScope st_law_one, [], []⟩
abbrev at_law_heap : Str × Option Str := ("_law_heap", none)
def d_law_heap : He.DefD := ⟨at_law_heap, "_law_heap", "_law_heap", defArgs st_law_heap, defBody st_law_heap, defScope st_law_heap, [], []⟩
abbrev at_law_told : Str × Option Str := ("_law_told", none)
def d_law_told : He.DefD := ⟨at_law_told, "_law_told", "_law_told", defArgs st_law_told, defBody st_law_told, defScope st_law_told, [], []⟩
abbrev at_law_step_right : Str × Option Str := ("_law_step_right", none)
def d_law_step_right : He.DefD := ⟨at_law_step_right, "_law_step_right", "_law_step_right", defArgs st_law_step_right, defBody st_law_step_right, defScope st_law_step_right, [], []⟩
abbrev at_law : Str × Option Str := ("law", none)
def d_law : He.DefD := ⟨at_law, "law", "law", defArgs st_law, defBody st_law, defScope st_law, [], []⟩
def fn : List He.DefD := [d_HeapError_called, d_BadCount_called, d_BadField_called, d_BadHand_called, d_BadName_called, d_NoRoom_called, d_TooManyWords_called, d_parts_due, d_are_all_in, d_is_plain, d_is_mark, d_part_in, d_row_in, d_mark_of, d_marks_in, d_read_program, d_do_value, d_do_plain, d_goes_on, d_said_of, d_Running_init, d_Running_at, d_Running_do_row, d_Running_step, d_Running_told, d_Running_fault, d_Running_steps, d_number_value, d_thing_value, d_kind_of, d_words_of, d_look_at_hand, d_look_at_name, d_look_at_limits, d_IdealThing_init, d_thing_of, d_things_of, d_led_within, d_young_things, d_words_in, d_young_kept, d_IdealHeap_init, d_IdealHeap_thing_in, d_IdealHeap_field_due, d_IdealHeap_make, d_IdealHeap_load, d_IdealHeap_store, d_IdealHeap_copy, d_IdealHeap_drop, d_IdealHeap_number, d_IdealHeap_name, d_IdealHeap_read, d_IdealHeap_give_back, d_IdealHeap_word, d_IdealHeap_take, d_IdealHeap_kind, d_IdealHeap_value, d_IdealHeap_fields, d_IdealHeap_same, d_IdealHeap_held, d_IdealHeap_settle, d_IdealHeap_small, d_IdealHeap_round_on, d_IdealHeap_hands, d_IdealHeap_names, d_IdealHeap_things, d_IdealHeap_thing_due, d_IdealHeap_fields_of, d_IdealHeap_is_old, d_IdealHeap_word_of, d_IdealHeap_doomed, d_IdealHeap_said, d_IdealHeap_made, d_law_numbers, d_law_row, d_law_program, d_law_text, d_law_plain, d_law_jumps, d_law_reckoned, d_law_said, d_law_one, d_law_heap, d_law_told, d_law_step_right, d_law]
def fa0 : List He.Fa := [.glo "parts_due", .glo "are_all_in", .glo "is_plain", .glo "is_mark", .glo "part_in", .glo "row_in", .glo "mark_of", .glo "marks_in"]
def fa1 : List He.Fa := [.glo "read_program", .glo "do_value", .glo "do_plain", .glo "goes_on", .glo "said_of", .glo "number_value", .glo "thing_value", .glo "kind_of"]
def fa2 : List He.Fa := [.glo "words_of", .glo "look_at_hand", .glo "look_at_name", .glo "look_at_limits", .glo "thing_of", .glo "things_of", .glo "led_within", .glo "young_things"]
def fa3 : List He.Fa := [.glo "words_in", .glo "young_kept", .glo "_law_numbers", .glo "_law_row", .glo "_law_program", .glo "_law_text", .glo "_law_plain", .glo "_law_jumps"]
def fa4 : List He.Fa := [.glo "_law_reckoned", .glo "_law_said", .glo "_law_one", .glo "_law_heap", .glo "_law_told", .glo "_law_step_right", .glo "law", .glo "HeapError"]
def fa5 : List He.Fa := [.glo "BadCount", .glo "BadField", .glo "BadHand", .glo "BadName", .glo "NoRoom", .glo "TooManyWords", .glo "Running", .glo "IdealThing"]
def fa6 : List He.Fa := [.glo "IdealHeap", .exc "HeapError", .exc "BadCount", .exc "BadField", .exc "BadHand", .exc "BadName", .exc "NoRoom", .exc "TooManyWords"]
def fa7 : List He.Fa := [.exm "HeapError" "HeapError" true, .exm "BadCount" "HeapError" true, .exm "BadField" "HeapError" true, .exm "BadHand" "HeapError" true, .exm "BadName" "HeapError" true, .exm "NoRoom" "HeapError" true, .exm "TooManyWords" "HeapError" true, .cls "Running"]
def fa8 : List He.Fa := [.mkr "Running", .noat "Running" "program", .noat "Running" "hall", .noat "Running" "places", .noat "Running" "spot", .noat "Running" "rows_done", .noat "Running" "lines", .noat "Running" "broken"]
def fa9 : List He.Fa := [.cls "IdealThing", .mkr "IdealThing", .noat "IdealThing" "inside", .noat "IdealThing" "aged", .noat "IdealThing" "last_word", .cls "IdealHeap", .mkr "IdealHeap", .noat "IdealHeap" "room"]
def fa10 : List He.Fa := [.noat "IdealHeap" "limit", .noat "IdealHeap" "in_hands", .noat "IdealHeap" "naming", .noat "IdealHeap" "kept", .noat "IdealHeap" "count", .noat "IdealHeap" "going", .noat "IdealHeap" "spoken", .meth "HeapError" "called"]
def fa11 : List He.Fa := [.meth "BadCount" "called", .meth "BadField" "called", .meth "BadHand" "called", .meth "BadName" "called", .meth "NoRoom" "called", .meth "TooManyWords" "called", .meth "Running" "__init__", .meth "Running" "at"]
def fa12 : List He.Fa := [.meth "Running" "do_row", .meth "Running" "step", .meth "Running" "told", .meth "Running" "fault", .meth "Running" "steps", .meth "IdealThing" "__init__", .meth "IdealHeap" "__init__", .meth "IdealHeap" "thing_in"]
def fa13 : List He.Fa := [.meth "IdealHeap" "field_due", .meth "IdealHeap" "make", .meth "IdealHeap" "load", .meth "IdealHeap" "store", .meth "IdealHeap" "copy", .meth "IdealHeap" "drop", .meth "IdealHeap" "number", .meth "IdealHeap" "name"]
def fa14 : List He.Fa := [.meth "IdealHeap" "read", .meth "IdealHeap" "give_back", .meth "IdealHeap" "word", .meth "IdealHeap" "take", .meth "IdealHeap" "kind", .meth "IdealHeap" "value", .meth "IdealHeap" "fields", .meth "IdealHeap" "same"]
def fa15 : List He.Fa := [.meth "IdealHeap" "held", .meth "IdealHeap" "settle", .meth "IdealHeap" "small", .meth "IdealHeap" "round_on", .meth "IdealHeap" "hands", .meth "IdealHeap" "names", .meth "IdealHeap" "things", .meth "IdealHeap" "thing_due"]
def fa16 : List He.Fa := [.meth "IdealHeap" "fields_of", .meth "IdealHeap" "is_old", .meth "IdealHeap" "word_of", .meth "IdealHeap" "doomed", .meth "IdealHeap" "said", .meth "IdealHeap" "made", .int "MOST_FIGURES" 61, .int "MOST_LETTERS" 8]
def fa17 : List He.Fa := [.int "MOST_ROWS" 200, .int "FAR" 1000000000000000000000000000000000000000000000000000000000000, .int "MOST_FIELDS" 6, .int "HANDS" 8, .int "NAMES" 8, .int "LEAST_ROOM" 7, .int "MOST_YOUNG" 64, .int "MOST_LIMIT" 400]
def fa18 : List He.Fa := [.int "MOST_WORDS" 12, .str "FIGURES" "0123456789", .str "LETTERS" "abcdefghijklmnopqrstuvwxyz", .free "len", .free "range", .free "list", .free "tuple", .free "sum"]
def fa19 : List He.Fa := [.free "sorted", .free "enumerate", .free "int", .free "str"]
def fa : List He.Fa := fa0 ++ (fa1 ++ (fa2 ++ (fa3 ++ (fa4 ++ (fa5 ++ (fa6 ++ (fa7 ++ (fa8 ++ (fa9 ++ (fa10 ++ (fa11 ++ (fa12 ++ (fa13 ++ (fa14 ++ (fa15 ++ (fa16 ++ (fa17 ++ (fa18 ++ (fa19)))))))))))))))))))
def names1 : List Str := ["_wall", "HeapError", "BadCount", "BadField", "BadHand", "BadName", "BadText", "BadView", "NoRoom", "NoRound", "TooManyWords", "FIGURES", "LETTERS", "MOST_FIGURES", "MOST_LETTERS"]
def names2 : List Str := ["MOST_ROWS", "parts_due", "are_all_in", "is_plain", "is_mark", "part_in", "row_in", "mark_of", "marks_in", "read_program", "do_value", "do_plain", "goes_on", "said_of", "Running"]
def names3 : List Str := ["FAR", "MOST_FIELDS", "HANDS", "NAMES", "LEAST_ROOM", "MOST_YOUNG", "MOST_LIMIT", "number_value", "thing_value", "kind_of", "words_of", "look_at_hand", "look_at_name", "look_at_limits", "MOST_WORDS"]
def names4 : List Str := ["IdealThing", "thing_of", "things_of", "led_within", "young_things", "words_in", "young_kept", "IdealHeap", "_law_numbers", "_law_row", "_law_program", "_law_text", "_law_plain", "_law_jumps", "_law_reckoned"]
def names5 : List Str := ["_law_said", "_law_one", "_law_heap", "_law_told", "_law_step_right"]
def names : List Str := names1 ++ names2 ++ names3 ++ names4 ++ names5
def excs : List Str := ["HeapError", "BadCount", "BadField", "BadHand", "BadName", "NoRoom", "TooManyWords"]

/-! ### what the top leaves -/
def ex (K : PySem.W.Frag) : Bool := excs.all fun x => L2.xfB K (ga K x)
abbrev AlM : Type := He.AlD × Bool
def obsK (K : PySem.W.Frag) : AlM := (He.obsD fa fn K, ex K)
def ads : List Addr := [3, 38, 58, 77, 96, 115, 141, 160, 179, 198, 217, 365, 433, 715, 37, 57, 76, 95, 114, 140, 159, 178, 197, 216, 364, 432, 714, 4, 21, 226, 233, 240,
247, 254, 259, 266, 273, 278, 285, 292, 299, 306, 376, 383, 390, 397, 404, 411, 418, 444, 451, 456, 463, 468, 475, 726, 733, 740, 745, 752, 759, 766,
773, 780, 787, 792, 799, 806, 20, 225, 232, 239, 246, 253, 258, 265, 272, 277, 284, 291, 298, 305, 375, 382, 389, 396, 403, 410, 417, 443, 450, 455,
462, 467, 474, 725, 732, 739, 744, 751, 758, 765, 772, 779, 786, 791, 798, 805, 35, 55, 74, 93, 112, 131, 138, 157, 176, 195, 214, 320, 327, 334, 341,
348, 355, 362, 430, 487, 494, 501, 508, 515, 522, 529, 536, 543, 550, 557, 564, 569, 576, 583, 590, 597, 604, 611, 616, 621, 628, 635, 642, 649, 656,
663, 670, 677, 684, 691, 698, 705, 712, 34, 54, 73, 92, 111, 130, 137, 156, 175, 194, 213, 319, 326, 333, 340, 347, 354, 361, 429, 486, 493, 500, 507,
514, 521, 528, 535, 542, 549, 556, 563, 568, 575, 582, 589, 596, 603, 610, 615, 620, 627, 634, 641, 648, 655, 662, 669, 676, 683, 690, 697, 704, 711]
def obsM (g : Addr → Option Obj) : AlM := obsK (He.frG g ads)
def hookM : PySem.W.Hook where
  α := AlM
  obs := fun s => obsM s.heap.get?
  val := fun _ => (He.valD fn, true)
  says := fun _ h => ∃ K : PySem.W.Frag, K.In h ∧ He.SaysD fa fn K ∧ ex K = true
  of := fun _ _ e => ⟨_, He.frG_in, congrArg (fun z : AlM => z.1) e, congrArg (fun z : AlM => z.2) e⟩
  keeps := fun _ _ _ ⟨K, hK, c⟩ k => ⟨K, PySem.W.Frag.In.keeps hK k, c⟩
/-- a def's data where it stands -/
noncomputable def fdOf (p : Str × Option Str) (K : PySem.W.Frag) : FuncData := match K.lookup (He.fAd K p) with
  | some ⟨_, _, .func fd, _⟩ => fd
  | _ => Classical.choice ⟨PySem.W.fnOf "" "" (defArgs st_law) [] (defScope st_law) .none .none .none .none none .none .none⟩
abbrev fAd (p : Str × Option Str) (K : PySem.W.Frag) : Addr := He.fAd K p
theorem fd_at {K : PySem.W.Frag} {x q : Str} {a : Arguments} {b : List Stmt} {sc : Scope} {dv : List V} {kw : List (Str × V)} {p : Str × Option Str} (h : ∃ fd, FunD K x q a b sc dv kw (He.fAd K p) fd) : FunD K x q a b sc dv kw (fAd p K) (fdOf p K) := by
  obtain ⟨fd, F⟩ := h
  obtain ⟨oc, od, dV, kV, doc, pm, an, cdv, ct, osl, e, lk, _⟩ := F.ex
  have e2 : fdOf p K = fd := by
    unfold fdOf
    rw [lk]
  rw [e2]
  exact F
structure Txt (K : PySem.W.Frag) (mg : Str → Option Value) : Prop where
  c : He.SaysD fa fn K
  x : ex K = true
  hp : ∃ h : Heap, K.In h ∧ h.Ns mainGlobals mg
theorem Txt.glo {K : PySem.W.Frag} {mg : Str → Option Value} (E : Txt K mg) {x : Str} (c : (He.Fa.glo x).ok K = true) : mg x = some (.ref (ga K x)) := let ⟨_, X, G⟩ := E.hp; He.glo_ok X G c
theorem Txt.free {K : PySem.W.Frag} {mg : Str → Option Value} (E : Txt K mg) {x : Str} (c : (He.Fa.free x).ok K = true) : mg x = none := let ⟨_, X, G⟩ := E.hp; He.free_ok X G c
theorem Txt.int {K : PySem.W.Frag} {mg : Str → Option Value} (E : Txt K mg) {x : Str} {i : Int} (c : (He.Fa.int x i).ok K = true) : ∃ t, mg x = some (.int i t) := let ⟨_, X, G⟩ := E.hp; He.int_ok X G c
theorem Txt.str {K : PySem.W.Frag} {mg : Str → Option Value} (E : Txt K mg) {x z : Str} (c : (He.Fa.str x z).ok K = true) : ∃ t, mg x = some (.str z t) := let ⟨_, X, G⟩ := E.hp; He.str_ok X G c
/-! ### the facts by their names (printed by wip/gen_head.py) -/
section
variable {K : PySem.W.Frag} {mg : Str → Option Value}
theorem Txt.fd_HeapError_called (E : Txt K mg) : FunD K d_HeapError_called.name d_HeapError_called.qual (defArgs st_HeapError_called) (defBody st_HeapError_called) (defScope st_HeapError_called) [] [] (fAd at_HeapError_called K) (fdOf at_HeapError_called K) := fd_at (E.c.def_ 0 (d := d_HeapError_called))
theorem Txt.b_HeapError_called (E : Txt K mg) : Binds K (fdOf at_HeapError_called K) ["self"] [] := E.fd_HeapError_called.bindsN fun _ _ _ _ _ _ us hl => match us, hl with | [_], _ => rfl
theorem Txt.fd_BadCount_called (E : Txt K mg) : FunD K d_BadCount_called.name d_BadCount_called.qual (defArgs st_BadCount_called) (defBody st_BadCount_called) (defScope st_BadCount_called) [] [] (fAd at_BadCount_called K) (fdOf at_BadCount_called K) := fd_at (E.c.def_ 1 (d := d_BadCount_called))
theorem Txt.b_BadCount_called (E : Txt K mg) : Binds K (fdOf at_BadCount_called K) ["self"] [] := E.fd_BadCount_called.bindsN fun _ _ _ _ _ _ us hl => match us, hl with | [_], _ => rfl
theorem Txt.fd_BadField_called (E : Txt K mg) : FunD K d_BadField_called.name d_BadField_called.qual (defArgs st_BadField_called) (defBody st_BadField_called) (defScope st_BadField_called) [] [] (fAd at_BadField_called K) (fdOf at_BadField_called K) := fd_at (E.c.def_ 2 (d := d_BadField_called))
theorem Txt.b_BadField_called (E : Txt K mg) : Binds K (fdOf at_BadField_called K) ["self"] [] := E.fd_BadField_called.bindsN fun _ _ _ _ _ _ us hl => match us, hl with | [_], _ => rfl
theorem Txt.fd_BadHand_called (E : Txt K mg) : FunD K d_BadHand_called.name d_BadHand_called.qual (defArgs st_BadHand_called) (defBody st_BadHand_called) (defScope st_BadHand_called) [] [] (fAd at_BadHand_called K) (fdOf at_BadHand_called K) := fd_at (E.c.def_ 3 (d := d_BadHand_called))
theorem Txt.b_BadHand_called (E : Txt K mg) : Binds K (fdOf at_BadHand_called K) ["self"] [] := E.fd_BadHand_called.bindsN fun _ _ _ _ _ _ us hl => match us, hl with | [_], _ => rfl
theorem Txt.fd_BadName_called (E : Txt K mg) : FunD K d_BadName_called.name d_BadName_called.qual (defArgs st_BadName_called) (defBody st_BadName_called) (defScope st_BadName_called) [] [] (fAd at_BadName_called K) (fdOf at_BadName_called K) := fd_at (E.c.def_ 4 (d := d_BadName_called))
theorem Txt.b_BadName_called (E : Txt K mg) : Binds K (fdOf at_BadName_called K) ["self"] [] := E.fd_BadName_called.bindsN fun _ _ _ _ _ _ us hl => match us, hl with | [_], _ => rfl
theorem Txt.fd_NoRoom_called (E : Txt K mg) : FunD K d_NoRoom_called.name d_NoRoom_called.qual (defArgs st_NoRoom_called) (defBody st_NoRoom_called) (defScope st_NoRoom_called) [] [] (fAd at_NoRoom_called K) (fdOf at_NoRoom_called K) := fd_at (E.c.def_ 5 (d := d_NoRoom_called))
theorem Txt.b_NoRoom_called (E : Txt K mg) : Binds K (fdOf at_NoRoom_called K) ["self"] [] := E.fd_NoRoom_called.bindsN fun _ _ _ _ _ _ us hl => match us, hl with | [_], _ => rfl
theorem Txt.fd_TooManyWords_called (E : Txt K mg) : FunD K d_TooManyWords_called.name d_TooManyWords_called.qual (defArgs st_TooManyWords_called) (defBody st_TooManyWords_called) (defScope st_TooManyWords_called) [] [] (fAd at_TooManyWords_called K) (fdOf at_TooManyWords_called K) := fd_at (E.c.def_ 6 (d := d_TooManyWords_called))
theorem Txt.b_TooManyWords_called (E : Txt K mg) : Binds K (fdOf at_TooManyWords_called K) ["self"] [] := E.fd_TooManyWords_called.bindsN fun _ _ _ _ _ _ us hl => match us, hl with | [_], _ => rfl
theorem Txt.fd_parts_due (E : Txt K mg) : FunD K d_parts_due.name d_parts_due.qual (defArgs st_parts_due) (defBody st_parts_due) (defScope st_parts_due) [] [] (fAd at_parts_due K) (fdOf at_parts_due K) := fd_at (E.c.def_ 7 (d := d_parts_due))
theorem Txt.b_parts_due (E : Txt K mg) : Binds K (fdOf at_parts_due K) ["word"] [] := E.fd_parts_due.bindsN fun _ _ _ _ _ _ us hl => match us, hl with | [_], _ => rfl
theorem Txt.fd_are_all_in (E : Txt K mg) : FunD K d_are_all_in.name d_are_all_in.qual (defArgs st_are_all_in) (defBody st_are_all_in) (defScope st_are_all_in) [] [] (fAd at_are_all_in K) (fdOf at_are_all_in K) := fd_at (E.c.def_ 8 (d := d_are_all_in))
theorem Txt.b_are_all_in (E : Txt K mg) : Binds K (fdOf at_are_all_in K) ["text", "signs"] [] := E.fd_are_all_in.bindsN fun _ _ _ _ _ _ us hl => match us, hl with | [_, _], _ => rfl
theorem Txt.fd_is_plain (E : Txt K mg) : FunD K d_is_plain.name d_is_plain.qual (defArgs st_is_plain) (defBody st_is_plain) (defScope st_is_plain) [] [] (fAd at_is_plain K) (fdOf at_is_plain K) := fd_at (E.c.def_ 9 (d := d_is_plain))
theorem Txt.b_is_plain (E : Txt K mg) : Binds K (fdOf at_is_plain K) ["text"] [] := E.fd_is_plain.bindsN fun _ _ _ _ _ _ us hl => match us, hl with | [_], _ => rfl
theorem Txt.fd_is_mark (E : Txt K mg) : FunD K d_is_mark.name d_is_mark.qual (defArgs st_is_mark) (defBody st_is_mark) (defScope st_is_mark) [] [] (fAd at_is_mark K) (fdOf at_is_mark K) := fd_at (E.c.def_ 10 (d := d_is_mark))
theorem Txt.b_is_mark (E : Txt K mg) : Binds K (fdOf at_is_mark K) ["text"] [] := E.fd_is_mark.bindsN fun _ _ _ _ _ _ us hl => match us, hl with | [_], _ => rfl
theorem Txt.fd_part_in (E : Txt K mg) : FunD K d_part_in.name d_part_in.qual (defArgs st_part_in) (defBody st_part_in) (defScope st_part_in) [] [] (fAd at_part_in K) (fdOf at_part_in K) := fd_at (E.c.def_ 11 (d := d_part_in))
theorem Txt.b_part_in (E : Txt K mg) : Binds K (fdOf at_part_in K) ["text", "kind"] [] := E.fd_part_in.bindsN fun _ _ _ _ _ _ us hl => match us, hl with | [_, _], _ => rfl
theorem Txt.fd_row_in (E : Txt K mg) : FunD K d_row_in.name d_row_in.qual (defArgs st_row_in) (defBody st_row_in) (defScope st_row_in) [] [] (fAd at_row_in K) (fdOf at_row_in K) := fd_at (E.c.def_ 12 (d := d_row_in))
theorem Txt.b_row_in (E : Txt K mg) : Binds K (fdOf at_row_in K) ["text"] [] := E.fd_row_in.bindsN fun _ _ _ _ _ _ us hl => match us, hl with | [_], _ => rfl
theorem Txt.fd_mark_of (E : Txt K mg) : FunD K d_mark_of.name d_mark_of.qual (defArgs st_mark_of) (defBody st_mark_of) (defScope st_mark_of) [] [] (fAd at_mark_of K) (fdOf at_mark_of K) := fd_at (E.c.def_ 13 (d := d_mark_of))
theorem Txt.b_mark_of (E : Txt K mg) : Binds K (fdOf at_mark_of K) ["row"] [] := E.fd_mark_of.bindsN fun _ _ _ _ _ _ us hl => match us, hl with | [_], _ => rfl
theorem Txt.fd_marks_in (E : Txt K mg) : FunD K d_marks_in.name d_marks_in.qual (defArgs st_marks_in) (defBody st_marks_in) (defScope st_marks_in) [] [] (fAd at_marks_in K) (fdOf at_marks_in K) := fd_at (E.c.def_ 14 (d := d_marks_in))
theorem Txt.b_marks_in (E : Txt K mg) : Binds K (fdOf at_marks_in K) ["rows"] [] := E.fd_marks_in.bindsN fun _ _ _ _ _ _ us hl => match us, hl with | [_], _ => rfl
theorem Txt.fd_read_program (E : Txt K mg) : FunD K d_read_program.name d_read_program.qual (defArgs st_read_program) (defBody st_read_program) (defScope st_read_program) [] [] (fAd at_read_program K) (fdOf at_read_program K) := fd_at (E.c.def_ 15 (d := d_read_program))
theorem Txt.b_read_program (E : Txt K mg) : Binds K (fdOf at_read_program K) ["text"] [] := E.fd_read_program.bindsN fun _ _ _ _ _ _ us hl => match us, hl with | [_], _ => rfl
theorem Txt.fd_do_value (E : Txt K mg) : FunD K d_do_value.name d_do_value.qual (defArgs st_do_value) (defBody st_do_value) (defScope st_do_value) [] [] (fAd at_do_value K) (fdOf at_do_value K) := fd_at (E.c.def_ 16 (d := d_do_value))
theorem Txt.b_do_value (E : Txt K mg) : Binds K (fdOf at_do_value K) ["hall", "row"] [] := E.fd_do_value.bindsN fun _ _ _ _ _ _ us hl => match us, hl with | [_, _], _ => rfl
theorem Txt.fd_do_plain (E : Txt K mg) : FunD K d_do_plain.name d_do_plain.qual (defArgs st_do_plain) (defBody st_do_plain) (defScope st_do_plain) [] [] (fAd at_do_plain K) (fdOf at_do_plain K) := fd_at (E.c.def_ 17 (d := d_do_plain))
theorem Txt.b_do_plain (E : Txt K mg) : Binds K (fdOf at_do_plain K) ["hall", "row"] [] := E.fd_do_plain.bindsN fun _ _ _ _ _ _ us hl => match us, hl with | [_, _], _ => rfl
theorem Txt.fd_goes_on (E : Txt K mg) : FunD K d_goes_on.name d_goes_on.qual (defArgs st_goes_on) (defBody st_goes_on) (defScope st_goes_on) [] [] (fAd at_goes_on K) (fdOf at_goes_on K) := fd_at (E.c.def_ 18 (d := d_goes_on))
theorem Txt.b_goes_on (E : Txt K mg) : Binds K (fdOf at_goes_on K) ["hall", "row"] [] := E.fd_goes_on.bindsN fun _ _ _ _ _ _ us hl => match us, hl with | [_, _], _ => rfl
theorem Txt.fd_said_of (E : Txt K mg) : FunD K d_said_of.name d_said_of.qual (defArgs st_said_of) (defBody st_said_of) (defScope st_said_of) [] [] (fAd at_said_of K) (fdOf at_said_of K) := fd_at (E.c.def_ 19 (d := d_said_of))
theorem Txt.b_said_of (E : Txt K mg) : Binds K (fdOf at_said_of K) ["hall", "h"] [] := E.fd_said_of.bindsN fun _ _ _ _ _ _ us hl => match us, hl with | [_, _], _ => rfl
theorem Txt.fd_Running_init (E : Txt K mg) : FunD K d_Running_init.name d_Running_init.qual (defArgs st_Running_init) (defBody st_Running_init) (defScope st_Running_init) [] [] (fAd at_Running_init K) (fdOf at_Running_init K) := fd_at (E.c.def_ 20 (d := d_Running_init))
theorem Txt.b_Running_init (E : Txt K mg) : Binds K (fdOf at_Running_init K) ["self", "program", "hall"] [] := E.fd_Running_init.bindsN fun _ _ _ _ _ _ us hl => match us, hl with | [_, _, _], _ => rfl
theorem Txt.fd_Running_at (E : Txt K mg) : FunD K d_Running_at.name d_Running_at.qual (defArgs st_Running_at) (defBody st_Running_at) (defScope st_Running_at) [] [] (fAd at_Running_at K) (fdOf at_Running_at K) := fd_at (E.c.def_ 21 (d := d_Running_at))
theorem Txt.b_Running_at (E : Txt K mg) : Binds K (fdOf at_Running_at K) ["self"] [] := E.fd_Running_at.bindsN fun _ _ _ _ _ _ us hl => match us, hl with | [_], _ => rfl
theorem Txt.fd_Running_do_row (E : Txt K mg) : FunD K d_Running_do_row.name d_Running_do_row.qual (defArgs st_Running_do_row) (defBody st_Running_do_row) (defScope st_Running_do_row) [] [] (fAd at_Running_do_row K) (fdOf at_Running_do_row K) := fd_at (E.c.def_ 22 (d := d_Running_do_row))
theorem Txt.b_Running_do_row (E : Txt K mg) : Binds K (fdOf at_Running_do_row K) ["self", "row"] [] := E.fd_Running_do_row.bindsN fun _ _ _ _ _ _ us hl => match us, hl with | [_, _], _ => rfl
theorem Txt.fd_Running_step (E : Txt K mg) : FunD K d_Running_step.name d_Running_step.qual (defArgs st_Running_step) (defBody st_Running_step) (defScope st_Running_step) [] [] (fAd at_Running_step K) (fdOf at_Running_step K) := fd_at (E.c.def_ 23 (d := d_Running_step))
theorem Txt.b_Running_step (E : Txt K mg) : Binds K (fdOf at_Running_step K) ["self"] [] := E.fd_Running_step.bindsN fun _ _ _ _ _ _ us hl => match us, hl with | [_], _ => rfl
theorem Txt.fd_Running_told (E : Txt K mg) : FunD K d_Running_told.name d_Running_told.qual (defArgs st_Running_told) (defBody st_Running_told) (defScope st_Running_told) [] [] (fAd at_Running_told K) (fdOf at_Running_told K) := fd_at (E.c.def_ 24 (d := d_Running_told))
theorem Txt.b_Running_told (E : Txt K mg) : Binds K (fdOf at_Running_told K) ["self"] [] := E.fd_Running_told.bindsN fun _ _ _ _ _ _ us hl => match us, hl with | [_], _ => rfl
theorem Txt.fd_Running_fault (E : Txt K mg) : FunD K d_Running_fault.name d_Running_fault.qual (defArgs st_Running_fault) (defBody st_Running_fault) (defScope st_Running_fault) [] [] (fAd at_Running_fault K) (fdOf at_Running_fault K) := fd_at (E.c.def_ 25 (d := d_Running_fault))
theorem Txt.b_Running_fault (E : Txt K mg) : Binds K (fdOf at_Running_fault K) ["self"] [] := E.fd_Running_fault.bindsN fun _ _ _ _ _ _ us hl => match us, hl with | [_], _ => rfl
theorem Txt.fd_Running_steps (E : Txt K mg) : FunD K d_Running_steps.name d_Running_steps.qual (defArgs st_Running_steps) (defBody st_Running_steps) (defScope st_Running_steps) [] [] (fAd at_Running_steps K) (fdOf at_Running_steps K) := fd_at (E.c.def_ 26 (d := d_Running_steps))
theorem Txt.b_Running_steps (E : Txt K mg) : Binds K (fdOf at_Running_steps K) ["self"] [] := E.fd_Running_steps.bindsN fun _ _ _ _ _ _ us hl => match us, hl with | [_], _ => rfl
theorem Txt.fd_number_value (E : Txt K mg) : FunD K d_number_value.name d_number_value.qual (defArgs st_number_value) (defBody st_number_value) (defScope st_number_value) [] [] (fAd at_number_value K) (fdOf at_number_value K) := fd_at (E.c.def_ 27 (d := d_number_value))
theorem Txt.b_number_value (E : Txt K mg) : Binds K (fdOf at_number_value K) ["x"] [] := E.fd_number_value.bindsN fun _ _ _ _ _ _ us hl => match us, hl with | [_], _ => rfl
theorem Txt.fd_thing_value (E : Txt K mg) : FunD K d_thing_value.name d_thing_value.qual (defArgs st_thing_value) (defBody st_thing_value) (defScope st_thing_value) [] [] (fAd at_thing_value K) (fdOf at_thing_value K) := fd_at (E.c.def_ 28 (d := d_thing_value))
theorem Txt.b_thing_value (E : Txt K mg) : Binds K (fdOf at_thing_value K) ["t"] [] := E.fd_thing_value.bindsN fun _ _ _ _ _ _ us hl => match us, hl with | [_], _ => rfl
theorem Txt.fd_kind_of (E : Txt K mg) : FunD K d_kind_of.name d_kind_of.qual (defArgs st_kind_of) (defBody st_kind_of) (defScope st_kind_of) [] [] (fAd at_kind_of K) (fdOf at_kind_of K) := fd_at (E.c.def_ 29 (d := d_kind_of))
theorem Txt.b_kind_of (E : Txt K mg) : Binds K (fdOf at_kind_of K) ["value"] [] := E.fd_kind_of.bindsN fun _ _ _ _ _ _ us hl => match us, hl with | [_], _ => rfl
theorem Txt.fd_words_of (E : Txt K mg) : FunD K d_words_of.name d_words_of.qual (defArgs st_words_of) (defBody st_words_of) (defScope st_words_of) [] [] (fAd at_words_of K) (fdOf at_words_of K) := fd_at (E.c.def_ 30 (d := d_words_of))
theorem Txt.b_words_of (E : Txt K mg) : Binds K (fdOf at_words_of K) ["fields"] [] := E.fd_words_of.bindsN fun _ _ _ _ _ _ us hl => match us, hl with | [_], _ => rfl
theorem Txt.fd_look_at_hand (E : Txt K mg) : FunD K d_look_at_hand.name d_look_at_hand.qual (defArgs st_look_at_hand) (defBody st_look_at_hand) (defScope st_look_at_hand) [] [] (fAd at_look_at_hand K) (fdOf at_look_at_hand K) := fd_at (E.c.def_ 31 (d := d_look_at_hand))
theorem Txt.b_look_at_hand (E : Txt K mg) : Binds K (fdOf at_look_at_hand K) ["h"] [] := E.fd_look_at_hand.bindsN fun _ _ _ _ _ _ us hl => match us, hl with | [_], _ => rfl
theorem Txt.fd_look_at_name (E : Txt K mg) : FunD K d_look_at_name.name d_look_at_name.qual (defArgs st_look_at_name) (defBody st_look_at_name) (defScope st_look_at_name) [] [] (fAd at_look_at_name K) (fdOf at_look_at_name K) := fd_at (E.c.def_ 32 (d := d_look_at_name))
theorem Txt.b_look_at_name (E : Txt K mg) : Binds K (fdOf at_look_at_name K) ["w"] [] := E.fd_look_at_name.bindsN fun _ _ _ _ _ _ us hl => match us, hl with | [_], _ => rfl
theorem Txt.fd_look_at_limits (E : Txt K mg) : FunD K d_look_at_limits.name d_look_at_limits.qual (defArgs st_look_at_limits) (defBody st_look_at_limits) (defScope st_look_at_limits) [] [] (fAd at_look_at_limits K) (fdOf at_look_at_limits K) := fd_at (E.c.def_ 33 (d := d_look_at_limits))
theorem Txt.b_look_at_limits (E : Txt K mg) : Binds K (fdOf at_look_at_limits K) ["young", "limit"] [] := E.fd_look_at_limits.bindsN fun _ _ _ _ _ _ us hl => match us, hl with | [_, _], _ => rfl
theorem Txt.fd_IdealThing_init (E : Txt K mg) : FunD K d_IdealThing_init.name d_IdealThing_init.qual (defArgs st_IdealThing_init) (defBody st_IdealThing_init) (defScope st_IdealThing_init) [] [] (fAd at_IdealThing_init K) (fdOf at_IdealThing_init K) := fd_at (E.c.def_ 34 (d := d_IdealThing_init))
theorem Txt.b_IdealThing_init (E : Txt K mg) : Binds K (fdOf at_IdealThing_init K) ["self", "fields", "old"] [] := E.fd_IdealThing_init.bindsN fun _ _ _ _ _ _ us hl => match us, hl with | [_, _, _], _ => rfl
theorem Txt.fd_thing_of (E : Txt K mg) : FunD K d_thing_of.name d_thing_of.qual (defArgs st_thing_of) (defBody st_thing_of) (defScope st_thing_of) [] [] (fAd at_thing_of K) (fdOf at_thing_of K) := fd_at (E.c.def_ 35 (d := d_thing_of))
theorem Txt.b_thing_of (E : Txt K mg) : Binds K (fdOf at_thing_of K) ["value"] [] := E.fd_thing_of.bindsN fun _ _ _ _ _ _ us hl => match us, hl with | [_], _ => rfl
theorem Txt.fd_things_of (E : Txt K mg) : FunD K d_things_of.name d_things_of.qual (defArgs st_things_of) (defBody st_things_of) (defScope st_things_of) [] [] (fAd at_things_of K) (fdOf at_things_of K) := fd_at (E.c.def_ 36 (d := d_things_of))
theorem Txt.b_things_of (E : Txt K mg) : Binds K (fdOf at_things_of K) ["values"] [] := E.fd_things_of.bindsN fun _ _ _ _ _ _ us hl => match us, hl with | [_], _ => rfl
theorem Txt.fd_led_within (E : Txt K mg) : FunD K d_led_within.name d_led_within.qual (defArgs st_led_within) (defBody st_led_within) (defScope st_led_within) [] [] (fAd at_led_within K) (fdOf at_led_within K) := fd_at (E.c.def_ 37 (d := d_led_within))
theorem Txt.b_led_within (E : Txt K mg) : Binds K (fdOf at_led_within K) ["held", "starts", "some"] [] := E.fd_led_within.bindsN fun _ _ _ _ _ _ us hl => match us, hl with | [_, _, _], _ => rfl
theorem Txt.fd_young_things (E : Txt K mg) : FunD K d_young_things.name d_young_things.qual (defArgs st_young_things) (defBody st_young_things) (defScope st_young_things) [] [] (fAd at_young_things K) (fdOf at_young_things K) := fd_at (E.c.def_ 38 (d := d_young_things))
theorem Txt.b_young_things (E : Txt K mg) : Binds K (fdOf at_young_things K) ["held"] [] := E.fd_young_things.bindsN fun _ _ _ _ _ _ us hl => match us, hl with | [_], _ => rfl
theorem Txt.fd_words_in (E : Txt K mg) : FunD K d_words_in.name d_words_in.qual (defArgs st_words_in) (defBody st_words_in) (defScope st_words_in) [] [] (fAd at_words_in K) (fdOf at_words_in K) := fd_at (E.c.def_ 39 (d := d_words_in))
theorem Txt.b_words_in (E : Txt K mg) : Binds K (fdOf at_words_in K) ["held", "some"] [] := E.fd_words_in.bindsN fun _ _ _ _ _ _ us hl => match us, hl with | [_, _], _ => rfl
theorem Txt.fd_young_kept (E : Txt K mg) : FunD K d_young_kept.name d_young_kept.qual (defArgs st_young_kept) (defBody st_young_kept) (defScope st_young_kept) [] [] (fAd at_young_kept K) (fdOf at_young_kept K) := fd_at (E.c.def_ 40 (d := d_young_kept))
theorem Txt.b_young_kept (E : Txt K mg) : Binds K (fdOf at_young_kept K) ["held", "hands"] [] := E.fd_young_kept.bindsN fun _ _ _ _ _ _ us hl => match us, hl with | [_, _], _ => rfl
theorem Txt.fd_IdealHeap_init (E : Txt K mg) : FunD K d_IdealHeap_init.name d_IdealHeap_init.qual (defArgs st_IdealHeap_init) (defBody st_IdealHeap_init) (defScope st_IdealHeap_init) [] [] (fAd at_IdealHeap_init K) (fdOf at_IdealHeap_init K) := fd_at (E.c.def_ 41 (d := d_IdealHeap_init))
theorem Txt.b_IdealHeap_init (E : Txt K mg) : Binds K (fdOf at_IdealHeap_init K) ["self", "young", "limit"] [] := E.fd_IdealHeap_init.bindsN fun _ _ _ _ _ _ us hl => match us, hl with | [_, _, _], _ => rfl
theorem Txt.fd_IdealHeap_thing_in (E : Txt K mg) : FunD K d_IdealHeap_thing_in.name d_IdealHeap_thing_in.qual (defArgs st_IdealHeap_thing_in) (defBody st_IdealHeap_thing_in) (defScope st_IdealHeap_thing_in) [] [] (fAd at_IdealHeap_thing_in K) (fdOf at_IdealHeap_thing_in K) := fd_at (E.c.def_ 42 (d := d_IdealHeap_thing_in))
theorem Txt.b_IdealHeap_thing_in (E : Txt K mg) : Binds K (fdOf at_IdealHeap_thing_in K) ["self", "h"] [] := E.fd_IdealHeap_thing_in.bindsN fun _ _ _ _ _ _ us hl => match us, hl with | [_, _], _ => rfl
theorem Txt.fd_IdealHeap_field_due (E : Txt K mg) : FunD K d_IdealHeap_field_due.name d_IdealHeap_field_due.qual (defArgs st_IdealHeap_field_due) (defBody st_IdealHeap_field_due) (defScope st_IdealHeap_field_due) [] [] (fAd at_IdealHeap_field_due K) (fdOf at_IdealHeap_field_due K) := fd_at (E.c.def_ 43 (d := d_IdealHeap_field_due))
theorem Txt.b_IdealHeap_field_due (E : Txt K mg) : Binds K (fdOf at_IdealHeap_field_due K) ["self", "thing", "k"] [] := E.fd_IdealHeap_field_due.bindsN fun _ _ _ _ _ _ us hl => match us, hl with | [_, _, _], _ => rfl
theorem Txt.fd_IdealHeap_make (E : Txt K mg) : FunD K d_IdealHeap_make.name d_IdealHeap_make.qual (defArgs st_IdealHeap_make) (defBody st_IdealHeap_make) (defScope st_IdealHeap_make) [] [] (fAd at_IdealHeap_make K) (fdOf at_IdealHeap_make K) := fd_at (E.c.def_ 44 (d := d_IdealHeap_make))
theorem Txt.b_IdealHeap_make (E : Txt K mg) : Binds K (fdOf at_IdealHeap_make K) ["self", "h", "n"] [] := E.fd_IdealHeap_make.bindsN fun _ _ _ _ _ _ us hl => match us, hl with | [_, _, _], _ => rfl
theorem Txt.fd_IdealHeap_load (E : Txt K mg) : FunD K d_IdealHeap_load.name d_IdealHeap_load.qual (defArgs st_IdealHeap_load) (defBody st_IdealHeap_load) (defScope st_IdealHeap_load) [] [] (fAd at_IdealHeap_load K) (fdOf at_IdealHeap_load K) := fd_at (E.c.def_ 45 (d := d_IdealHeap_load))
theorem Txt.b_IdealHeap_load (E : Txt K mg) : Binds K (fdOf at_IdealHeap_load K) ["self", "h", "g", "k"] [] := E.fd_IdealHeap_load.bindsN fun _ _ _ _ _ _ us hl => match us, hl with | [_, _, _, _], _ => rfl
theorem Txt.fd_IdealHeap_store (E : Txt K mg) : FunD K d_IdealHeap_store.name d_IdealHeap_store.qual (defArgs st_IdealHeap_store) (defBody st_IdealHeap_store) (defScope st_IdealHeap_store) [] [] (fAd at_IdealHeap_store K) (fdOf at_IdealHeap_store K) := fd_at (E.c.def_ 46 (d := d_IdealHeap_store))
theorem Txt.b_IdealHeap_store (E : Txt K mg) : Binds K (fdOf at_IdealHeap_store K) ["self", "g", "k", "h"] [] := E.fd_IdealHeap_store.bindsN fun _ _ _ _ _ _ us hl => match us, hl with | [_, _, _, _], _ => rfl
theorem Txt.fd_IdealHeap_copy (E : Txt K mg) : FunD K d_IdealHeap_copy.name d_IdealHeap_copy.qual (defArgs st_IdealHeap_copy) (defBody st_IdealHeap_copy) (defScope st_IdealHeap_copy) [] [] (fAd at_IdealHeap_copy K) (fdOf at_IdealHeap_copy K) := fd_at (E.c.def_ 47 (d := d_IdealHeap_copy))
theorem Txt.b_IdealHeap_copy (E : Txt K mg) : Binds K (fdOf at_IdealHeap_copy K) ["self", "h", "g"] [] := E.fd_IdealHeap_copy.bindsN fun _ _ _ _ _ _ us hl => match us, hl with | [_, _, _], _ => rfl
theorem Txt.fd_IdealHeap_drop (E : Txt K mg) : FunD K d_IdealHeap_drop.name d_IdealHeap_drop.qual (defArgs st_IdealHeap_drop) (defBody st_IdealHeap_drop) (defScope st_IdealHeap_drop) [] [] (fAd at_IdealHeap_drop K) (fdOf at_IdealHeap_drop K) := fd_at (E.c.def_ 48 (d := d_IdealHeap_drop))
theorem Txt.b_IdealHeap_drop (E : Txt K mg) : Binds K (fdOf at_IdealHeap_drop K) ["self", "h"] [] := E.fd_IdealHeap_drop.bindsN fun _ _ _ _ _ _ us hl => match us, hl with | [_, _], _ => rfl
theorem Txt.fd_IdealHeap_number (E : Txt K mg) : FunD K d_IdealHeap_number.name d_IdealHeap_number.qual (defArgs st_IdealHeap_number) (defBody st_IdealHeap_number) (defScope st_IdealHeap_number) [] [] (fAd at_IdealHeap_number K) (fdOf at_IdealHeap_number K) := fd_at (E.c.def_ 49 (d := d_IdealHeap_number))
theorem Txt.b_IdealHeap_number (E : Txt K mg) : Binds K (fdOf at_IdealHeap_number K) ["self", "h", "x"] [] := E.fd_IdealHeap_number.bindsN fun _ _ _ _ _ _ us hl => match us, hl with | [_, _, _], _ => rfl
theorem Txt.fd_IdealHeap_name (E : Txt K mg) : FunD K d_IdealHeap_name.name d_IdealHeap_name.qual (defArgs st_IdealHeap_name) (defBody st_IdealHeap_name) (defScope st_IdealHeap_name) [] [] (fAd at_IdealHeap_name K) (fdOf at_IdealHeap_name K) := fd_at (E.c.def_ 50 (d := d_IdealHeap_name))
theorem Txt.b_IdealHeap_name (E : Txt K mg) : Binds K (fdOf at_IdealHeap_name K) ["self", "w", "h"] [] := E.fd_IdealHeap_name.bindsN fun _ _ _ _ _ _ us hl => match us, hl with | [_, _, _], _ => rfl
theorem Txt.fd_IdealHeap_read (E : Txt K mg) : FunD K d_IdealHeap_read.name d_IdealHeap_read.qual (defArgs st_IdealHeap_read) (defBody st_IdealHeap_read) (defScope st_IdealHeap_read) [] [] (fAd at_IdealHeap_read K) (fdOf at_IdealHeap_read K) := fd_at (E.c.def_ 51 (d := d_IdealHeap_read))
theorem Txt.b_IdealHeap_read (E : Txt K mg) : Binds K (fdOf at_IdealHeap_read K) ["self", "h", "w"] [] := E.fd_IdealHeap_read.bindsN fun _ _ _ _ _ _ us hl => match us, hl with | [_, _, _], _ => rfl
theorem Txt.fd_IdealHeap_give_back (E : Txt K mg) : FunD K d_IdealHeap_give_back.name d_IdealHeap_give_back.qual (defArgs st_IdealHeap_give_back) (defBody st_IdealHeap_give_back) (defScope st_IdealHeap_give_back) [] [] (fAd at_IdealHeap_give_back K) (fdOf at_IdealHeap_give_back K) := fd_at (E.c.def_ 52 (d := d_IdealHeap_give_back))
theorem Txt.b_IdealHeap_give_back (E : Txt K mg) : Binds K (fdOf at_IdealHeap_give_back K) ["self", "thing"] [] := E.fd_IdealHeap_give_back.bindsN fun _ _ _ _ _ _ us hl => match us, hl with | [_, _], _ => rfl
theorem Txt.fd_IdealHeap_word (E : Txt K mg) : FunD K d_IdealHeap_word.name d_IdealHeap_word.qual (defArgs st_IdealHeap_word) (defBody st_IdealHeap_word) (defScope st_IdealHeap_word) [] [] (fAd at_IdealHeap_word K) (fdOf at_IdealHeap_word K) := fd_at (E.c.def_ 53 (d := d_IdealHeap_word))
theorem Txt.b_IdealHeap_word (E : Txt K mg) : Binds K (fdOf at_IdealHeap_word K) ["self", "h", "x"] [] := E.fd_IdealHeap_word.bindsN fun _ _ _ _ _ _ us hl => match us, hl with | [_, _, _], _ => rfl
theorem Txt.fd_IdealHeap_take (E : Txt K mg) : FunD K d_IdealHeap_take.name d_IdealHeap_take.qual (defArgs st_IdealHeap_take) (defBody st_IdealHeap_take) (defScope st_IdealHeap_take) [] [] (fAd at_IdealHeap_take K) (fdOf at_IdealHeap_take K) := fd_at (E.c.def_ 54 (d := d_IdealHeap_take))
theorem Txt.b_IdealHeap_take (E : Txt K mg) : Binds K (fdOf at_IdealHeap_take K) ["self"] [] := E.fd_IdealHeap_take.bindsN fun _ _ _ _ _ _ us hl => match us, hl with | [_], _ => rfl
theorem Txt.fd_IdealHeap_kind (E : Txt K mg) : FunD K d_IdealHeap_kind.name d_IdealHeap_kind.qual (defArgs st_IdealHeap_kind) (defBody st_IdealHeap_kind) (defScope st_IdealHeap_kind) [] [] (fAd at_IdealHeap_kind K) (fdOf at_IdealHeap_kind K) := fd_at (E.c.def_ 55 (d := d_IdealHeap_kind))
theorem Txt.b_IdealHeap_kind (E : Txt K mg) : Binds K (fdOf at_IdealHeap_kind K) ["self", "h"] [] := E.fd_IdealHeap_kind.bindsN fun _ _ _ _ _ _ us hl => match us, hl with | [_, _], _ => rfl
theorem Txt.fd_IdealHeap_value (E : Txt K mg) : FunD K d_IdealHeap_value.name d_IdealHeap_value.qual (defArgs st_IdealHeap_value) (defBody st_IdealHeap_value) (defScope st_IdealHeap_value) [] [] (fAd at_IdealHeap_value K) (fdOf at_IdealHeap_value K) := fd_at (E.c.def_ 56 (d := d_IdealHeap_value))
theorem Txt.b_IdealHeap_value (E : Txt K mg) : Binds K (fdOf at_IdealHeap_value K) ["self", "h"] [] := E.fd_IdealHeap_value.bindsN fun _ _ _ _ _ _ us hl => match us, hl with | [_, _], _ => rfl
theorem Txt.fd_IdealHeap_fields (E : Txt K mg) : FunD K d_IdealHeap_fields.name d_IdealHeap_fields.qual (defArgs st_IdealHeap_fields) (defBody st_IdealHeap_fields) (defScope st_IdealHeap_fields) [] [] (fAd at_IdealHeap_fields K) (fdOf at_IdealHeap_fields K) := fd_at (E.c.def_ 57 (d := d_IdealHeap_fields))
theorem Txt.b_IdealHeap_fields (E : Txt K mg) : Binds K (fdOf at_IdealHeap_fields K) ["self", "h"] [] := E.fd_IdealHeap_fields.bindsN fun _ _ _ _ _ _ us hl => match us, hl with | [_, _], _ => rfl
theorem Txt.fd_IdealHeap_same (E : Txt K mg) : FunD K d_IdealHeap_same.name d_IdealHeap_same.qual (defArgs st_IdealHeap_same) (defBody st_IdealHeap_same) (defScope st_IdealHeap_same) [] [] (fAd at_IdealHeap_same K) (fdOf at_IdealHeap_same K) := fd_at (E.c.def_ 58 (d := d_IdealHeap_same))
theorem Txt.b_IdealHeap_same (E : Txt K mg) : Binds K (fdOf at_IdealHeap_same K) ["self", "h", "g"] [] := E.fd_IdealHeap_same.bindsN fun _ _ _ _ _ _ us hl => match us, hl with | [_, _, _], _ => rfl
theorem Txt.fd_IdealHeap_held (E : Txt K mg) : FunD K d_IdealHeap_held.name d_IdealHeap_held.qual (defArgs st_IdealHeap_held) (defBody st_IdealHeap_held) (defScope st_IdealHeap_held) [] [] (fAd at_IdealHeap_held K) (fdOf at_IdealHeap_held K) := fd_at (E.c.def_ 59 (d := d_IdealHeap_held))
theorem Txt.b_IdealHeap_held (E : Txt K mg) : Binds K (fdOf at_IdealHeap_held K) ["self"] [] := E.fd_IdealHeap_held.bindsN fun _ _ _ _ _ _ us hl => match us, hl with | [_], _ => rfl
theorem Txt.fd_IdealHeap_settle (E : Txt K mg) : FunD K d_IdealHeap_settle.name d_IdealHeap_settle.qual (defArgs st_IdealHeap_settle) (defBody st_IdealHeap_settle) (defScope st_IdealHeap_settle) [] [] (fAd at_IdealHeap_settle K) (fdOf at_IdealHeap_settle K) := fd_at (E.c.def_ 60 (d := d_IdealHeap_settle))
theorem Txt.b_IdealHeap_settle (E : Txt K mg) : Binds K (fdOf at_IdealHeap_settle K) ["self", "gone"] [] := E.fd_IdealHeap_settle.bindsN fun _ _ _ _ _ _ us hl => match us, hl with | [_, _], _ => rfl
theorem Txt.fd_IdealHeap_small (E : Txt K mg) : FunD K d_IdealHeap_small.name d_IdealHeap_small.qual (defArgs st_IdealHeap_small) (defBody st_IdealHeap_small) (defScope st_IdealHeap_small) [] [] (fAd at_IdealHeap_small K) (fdOf at_IdealHeap_small K) := fd_at (E.c.def_ 61 (d := d_IdealHeap_small))
theorem Txt.b_IdealHeap_small (E : Txt K mg) : Binds K (fdOf at_IdealHeap_small K) ["self"] [] := E.fd_IdealHeap_small.bindsN fun _ _ _ _ _ _ us hl => match us, hl with | [_], _ => rfl
theorem Txt.fd_IdealHeap_round_on (E : Txt K mg) : FunD K d_IdealHeap_round_on.name d_IdealHeap_round_on.qual (defArgs st_IdealHeap_round_on) (defBody st_IdealHeap_round_on) (defScope st_IdealHeap_round_on) [] [] (fAd at_IdealHeap_round_on K) (fdOf at_IdealHeap_round_on K) := fd_at (E.c.def_ 62 (d := d_IdealHeap_round_on))
theorem Txt.b_IdealHeap_round_on (E : Txt K mg) : Binds K (fdOf at_IdealHeap_round_on K) ["self"] [] := E.fd_IdealHeap_round_on.bindsN fun _ _ _ _ _ _ us hl => match us, hl with | [_], _ => rfl
theorem Txt.fd_IdealHeap_hands (E : Txt K mg) : FunD K d_IdealHeap_hands.name d_IdealHeap_hands.qual (defArgs st_IdealHeap_hands) (defBody st_IdealHeap_hands) (defScope st_IdealHeap_hands) [] [] (fAd at_IdealHeap_hands K) (fdOf at_IdealHeap_hands K) := fd_at (E.c.def_ 63 (d := d_IdealHeap_hands))
theorem Txt.b_IdealHeap_hands (E : Txt K mg) : Binds K (fdOf at_IdealHeap_hands K) ["self"] [] := E.fd_IdealHeap_hands.bindsN fun _ _ _ _ _ _ us hl => match us, hl with | [_], _ => rfl
theorem Txt.fd_IdealHeap_names (E : Txt K mg) : FunD K d_IdealHeap_names.name d_IdealHeap_names.qual (defArgs st_IdealHeap_names) (defBody st_IdealHeap_names) (defScope st_IdealHeap_names) [] [] (fAd at_IdealHeap_names K) (fdOf at_IdealHeap_names K) := fd_at (E.c.def_ 64 (d := d_IdealHeap_names))
theorem Txt.b_IdealHeap_names (E : Txt K mg) : Binds K (fdOf at_IdealHeap_names K) ["self"] [] := E.fd_IdealHeap_names.bindsN fun _ _ _ _ _ _ us hl => match us, hl with | [_], _ => rfl
theorem Txt.fd_IdealHeap_things (E : Txt K mg) : FunD K d_IdealHeap_things.name d_IdealHeap_things.qual (defArgs st_IdealHeap_things) (defBody st_IdealHeap_things) (defScope st_IdealHeap_things) [] [] (fAd at_IdealHeap_things K) (fdOf at_IdealHeap_things K) := fd_at (E.c.def_ 65 (d := d_IdealHeap_things))
theorem Txt.b_IdealHeap_things (E : Txt K mg) : Binds K (fdOf at_IdealHeap_things K) ["self"] [] := E.fd_IdealHeap_things.bindsN fun _ _ _ _ _ _ us hl => match us, hl with | [_], _ => rfl
theorem Txt.fd_IdealHeap_thing_due (E : Txt K mg) : FunD K d_IdealHeap_thing_due.name d_IdealHeap_thing_due.qual (defArgs st_IdealHeap_thing_due) (defBody st_IdealHeap_thing_due) (defScope st_IdealHeap_thing_due) [] [] (fAd at_IdealHeap_thing_due K) (fdOf at_IdealHeap_thing_due K) := fd_at (E.c.def_ 66 (d := d_IdealHeap_thing_due))
theorem Txt.b_IdealHeap_thing_due (E : Txt K mg) : Binds K (fdOf at_IdealHeap_thing_due K) ["self", "t"] [] := E.fd_IdealHeap_thing_due.bindsN fun _ _ _ _ _ _ us hl => match us, hl with | [_, _], _ => rfl
theorem Txt.fd_IdealHeap_fields_of (E : Txt K mg) : FunD K d_IdealHeap_fields_of.name d_IdealHeap_fields_of.qual (defArgs st_IdealHeap_fields_of) (defBody st_IdealHeap_fields_of) (defScope st_IdealHeap_fields_of) [] [] (fAd at_IdealHeap_fields_of K) (fdOf at_IdealHeap_fields_of K) := fd_at (E.c.def_ 67 (d := d_IdealHeap_fields_of))
theorem Txt.b_IdealHeap_fields_of (E : Txt K mg) : Binds K (fdOf at_IdealHeap_fields_of K) ["self", "t"] [] := E.fd_IdealHeap_fields_of.bindsN fun _ _ _ _ _ _ us hl => match us, hl with | [_, _], _ => rfl
theorem Txt.fd_IdealHeap_is_old (E : Txt K mg) : FunD K d_IdealHeap_is_old.name d_IdealHeap_is_old.qual (defArgs st_IdealHeap_is_old) (defBody st_IdealHeap_is_old) (defScope st_IdealHeap_is_old) [] [] (fAd at_IdealHeap_is_old K) (fdOf at_IdealHeap_is_old K) := fd_at (E.c.def_ 68 (d := d_IdealHeap_is_old))
theorem Txt.b_IdealHeap_is_old (E : Txt K mg) : Binds K (fdOf at_IdealHeap_is_old K) ["self", "t"] [] := E.fd_IdealHeap_is_old.bindsN fun _ _ _ _ _ _ us hl => match us, hl with | [_, _], _ => rfl
theorem Txt.fd_IdealHeap_word_of (E : Txt K mg) : FunD K d_IdealHeap_word_of.name d_IdealHeap_word_of.qual (defArgs st_IdealHeap_word_of) (defBody st_IdealHeap_word_of) (defScope st_IdealHeap_word_of) [] [] (fAd at_IdealHeap_word_of K) (fdOf at_IdealHeap_word_of K) := fd_at (E.c.def_ 69 (d := d_IdealHeap_word_of))
theorem Txt.b_IdealHeap_word_of (E : Txt K mg) : Binds K (fdOf at_IdealHeap_word_of K) ["self", "t"] [] := E.fd_IdealHeap_word_of.bindsN fun _ _ _ _ _ _ us hl => match us, hl with | [_, _], _ => rfl
theorem Txt.fd_IdealHeap_doomed (E : Txt K mg) : FunD K d_IdealHeap_doomed.name d_IdealHeap_doomed.qual (defArgs st_IdealHeap_doomed) (defBody st_IdealHeap_doomed) (defScope st_IdealHeap_doomed) [] [] (fAd at_IdealHeap_doomed K) (fdOf at_IdealHeap_doomed K) := fd_at (E.c.def_ 70 (d := d_IdealHeap_doomed))
theorem Txt.b_IdealHeap_doomed (E : Txt K mg) : Binds K (fdOf at_IdealHeap_doomed K) ["self"] [] := E.fd_IdealHeap_doomed.bindsN fun _ _ _ _ _ _ us hl => match us, hl with | [_], _ => rfl
theorem Txt.fd_IdealHeap_said (E : Txt K mg) : FunD K d_IdealHeap_said.name d_IdealHeap_said.qual (defArgs st_IdealHeap_said) (defBody st_IdealHeap_said) (defScope st_IdealHeap_said) [] [] (fAd at_IdealHeap_said K) (fdOf at_IdealHeap_said K) := fd_at (E.c.def_ 71 (d := d_IdealHeap_said))
theorem Txt.b_IdealHeap_said (E : Txt K mg) : Binds K (fdOf at_IdealHeap_said K) ["self"] [] := E.fd_IdealHeap_said.bindsN fun _ _ _ _ _ _ us hl => match us, hl with | [_], _ => rfl
theorem Txt.fd_IdealHeap_made (E : Txt K mg) : FunD K d_IdealHeap_made.name d_IdealHeap_made.qual (defArgs st_IdealHeap_made) (defBody st_IdealHeap_made) (defScope st_IdealHeap_made) [] [] (fAd at_IdealHeap_made K) (fdOf at_IdealHeap_made K) := fd_at (E.c.def_ 72 (d := d_IdealHeap_made))
theorem Txt.b_IdealHeap_made (E : Txt K mg) : Binds K (fdOf at_IdealHeap_made K) ["self"] [] := E.fd_IdealHeap_made.bindsN fun _ _ _ _ _ _ us hl => match us, hl with | [_], _ => rfl
theorem Txt.fd_law_numbers (E : Txt K mg) : FunD K d_law_numbers.name d_law_numbers.qual (defArgs st_law_numbers) (defBody st_law_numbers) (defScope st_law_numbers) [] [] (fAd at_law_numbers K) (fdOf at_law_numbers K) := fd_at (E.c.def_ 73 (d := d_law_numbers))
theorem Txt.b_law_numbers (E : Txt K mg) : Binds K (fdOf at_law_numbers K) ["script", "most"] [] := E.fd_law_numbers.bindsN fun _ _ _ _ _ _ us hl => match us, hl with | [_, _], _ => rfl
theorem Txt.fd_law_row (E : Txt K mg) : FunD K d_law_row.name d_law_row.qual (defArgs st_law_row) (defBody st_law_row) (defScope st_law_row) [] [] (fAd at_law_row K) (fdOf at_law_row K) := fd_at (E.c.def_ 74 (d := d_law_row))
theorem Txt.b_law_row (E : Txt K mg) : Binds K (fdOf at_law_row K) ["number"] [] := E.fd_law_row.bindsN fun _ _ _ _ _ _ us hl => match us, hl with | [_], _ => rfl
theorem Txt.fd_law_program (E : Txt K mg) : FunD K d_law_program.name d_law_program.qual (defArgs st_law_program) (defBody st_law_program) (defScope st_law_program) [] [] (fAd at_law_program K) (fdOf at_law_program K) := fd_at (E.c.def_ 75 (d := d_law_program))
theorem Txt.b_law_program (E : Txt K mg) : Binds K (fdOf at_law_program K) ["script", "most"] [] := E.fd_law_program.bindsN fun _ _ _ _ _ _ us hl => match us, hl with | [_, _], _ => rfl
theorem Txt.fd_law_text (E : Txt K mg) : FunD K d_law_text.name d_law_text.qual (defArgs st_law_text) (defBody st_law_text) (defScope st_law_text) [] [] (fAd at_law_text K) (fdOf at_law_text K) := fd_at (E.c.def_ 76 (d := d_law_text))
theorem Txt.b_law_text (E : Txt K mg) : Binds K (fdOf at_law_text K) ["rows"] [] := E.fd_law_text.bindsN fun _ _ _ _ _ _ us hl => match us, hl with | [_], _ => rfl
theorem Txt.fd_law_plain (E : Txt K mg) : FunD K d_law_plain.name d_law_plain.qual (defArgs st_law_plain) (defBody st_law_plain) (defScope st_law_plain) [] [] (fAd at_law_plain K) (fdOf at_law_plain K) := fd_at (E.c.def_ 77 (d := d_law_plain))
theorem Txt.b_law_plain (E : Txt K mg) : Binds K (fdOf at_law_plain K) ["hall", "deed"] [] := E.fd_law_plain.bindsN fun _ _ _ _ _ _ us hl => match us, hl with | [_, _], _ => rfl
theorem Txt.fd_law_jumps (E : Txt K mg) : FunD K d_law_jumps.name d_law_jumps.qual (defArgs st_law_jumps) (defBody st_law_jumps) (defScope st_law_jumps) [] [] (fAd at_law_jumps K) (fdOf at_law_jumps K) := fd_at (E.c.def_ 78 (d := d_law_jumps))
theorem Txt.b_law_jumps (E : Txt K mg) : Binds K (fdOf at_law_jumps K) ["hall", "row"] [] := E.fd_law_jumps.bindsN fun _ _ _ _ _ _ us hl => match us, hl with | [_, _], _ => rfl
theorem Txt.fd_law_reckoned (E : Txt K mg) : FunD K d_law_reckoned.name d_law_reckoned.qual (defArgs st_law_reckoned) (defBody st_law_reckoned) (defScope st_law_reckoned) [] [] (fAd at_law_reckoned K) (fdOf at_law_reckoned K) := fd_at (E.c.def_ 79 (d := d_law_reckoned))
theorem Txt.b_law_reckoned (E : Txt K mg) : Binds K (fdOf at_law_reckoned K) ["hall", "row"] [] := E.fd_law_reckoned.bindsN fun _ _ _ _ _ _ us hl => match us, hl with | [_, _], _ => rfl
theorem Txt.fd_law_said (E : Txt K mg) : FunD K d_law_said.name d_law_said.qual (defArgs st_law_said) (defBody st_law_said) (defScope st_law_said) [] [] (fAd at_law_said K) (fdOf at_law_said K) := fd_at (E.c.def_ 80 (d := d_law_said))
theorem Txt.b_law_said (E : Txt K mg) : Binds K (fdOf at_law_said K) ["hall", "h"] [] := E.fd_law_said.bindsN fun _ _ _ _ _ _ us hl => match us, hl with | [_, _], _ => rfl
theorem Txt.fd_law_one (E : Txt K mg) : FunD K d_law_one.name d_law_one.qual (defArgs st_law_one) (defBody st_law_one) (defScope st_law_one) [] [] (fAd at_law_one K) (fdOf at_law_one K) := fd_at (E.c.def_ 81 (d := d_law_one))
theorem Txt.b_law_one (E : Txt K mg) : Binds K (fdOf at_law_one K) ["hall", "row"] [] := E.fd_law_one.bindsN fun _ _ _ _ _ _ us hl => match us, hl with | [_, _], _ => rfl
theorem Txt.fd_law_heap (E : Txt K mg) : FunD K d_law_heap.name d_law_heap.qual (defArgs st_law_heap) (defBody st_law_heap) (defScope st_law_heap) [] [] (fAd at_law_heap K) (fdOf at_law_heap K) := fd_at (E.c.def_ 82 (d := d_law_heap))
theorem Txt.b_law_heap (E : Txt K mg) : Binds K (fdOf at_law_heap K) ["script"] [] := E.fd_law_heap.bindsN fun _ _ _ _ _ _ us hl => match us, hl with | [_], _ => rfl
theorem Txt.fd_law_told (E : Txt K mg) : FunD K d_law_told.name d_law_told.qual (defArgs st_law_told) (defBody st_law_told) (defScope st_law_told) [] [] (fAd at_law_told K) (fdOf at_law_told K) := fd_at (E.c.def_ 83 (d := d_law_told))
theorem Txt.b_law_told (E : Txt K mg) : Binds K (fdOf at_law_told K) ["heap"] [] := E.fd_law_told.bindsN fun _ _ _ _ _ _ us hl => match us, hl with | [_], _ => rfl
theorem Txt.fd_law_step_right (E : Txt K mg) : FunD K d_law_step_right.name d_law_step_right.qual (defArgs st_law_step_right) (defBody st_law_step_right) (defScope st_law_step_right) [] [] (fAd at_law_step_right K) (fdOf at_law_step_right K) := fd_at (E.c.def_ 84 (d := d_law_step_right))
theorem Txt.b_law_step_right (E : Txt K mg) : Binds K (fdOf at_law_step_right K) ["running", "heap", "twin", "rows"] [] := E.fd_law_step_right.bindsN fun _ _ _ _ _ _ us hl => match us, hl with | [_, _, _, _], _ => rfl
theorem Txt.fd_law (E : Txt K mg) : FunD K d_law.name d_law.qual (defArgs st_law) (defBody st_law) (defScope st_law) [] [] (fAd at_law K) (fdOf at_law K) := fd_at (E.c.def_ 85 (d := d_law))
theorem Txt.b_law (E : Txt K mg) : Binds K (fdOf at_law K) ["script"] [] := E.fd_law.bindsN fun _ _ _ _ _ _ us hl => match us, hl with | [_], _ => rfl
theorem Txt.g_parts_due (E : Txt K mg) : mg "parts_due" = some (.ref (He.ga K "parts_due")) := E.glo (x := "parts_due") (E.c.fact 0)
theorem Txt.g_are_all_in (E : Txt K mg) : mg "are_all_in" = some (.ref (He.ga K "are_all_in")) := E.glo (x := "are_all_in") (E.c.fact 1)
theorem Txt.g_is_plain (E : Txt K mg) : mg "is_plain" = some (.ref (He.ga K "is_plain")) := E.glo (x := "is_plain") (E.c.fact 2)
theorem Txt.g_is_mark (E : Txt K mg) : mg "is_mark" = some (.ref (He.ga K "is_mark")) := E.glo (x := "is_mark") (E.c.fact 3)
theorem Txt.g_part_in (E : Txt K mg) : mg "part_in" = some (.ref (He.ga K "part_in")) := E.glo (x := "part_in") (E.c.fact 4)
theorem Txt.g_row_in (E : Txt K mg) : mg "row_in" = some (.ref (He.ga K "row_in")) := E.glo (x := "row_in") (E.c.fact 5)
theorem Txt.g_mark_of (E : Txt K mg) : mg "mark_of" = some (.ref (He.ga K "mark_of")) := E.glo (x := "mark_of") (E.c.fact 6)
theorem Txt.g_marks_in (E : Txt K mg) : mg "marks_in" = some (.ref (He.ga K "marks_in")) := E.glo (x := "marks_in") (E.c.fact 7)
theorem Txt.g_read_program (E : Txt K mg) : mg "read_program" = some (.ref (He.ga K "read_program")) := E.glo (x := "read_program") (E.c.fact 8)
theorem Txt.g_do_value (E : Txt K mg) : mg "do_value" = some (.ref (He.ga K "do_value")) := E.glo (x := "do_value") (E.c.fact 9)
theorem Txt.g_do_plain (E : Txt K mg) : mg "do_plain" = some (.ref (He.ga K "do_plain")) := E.glo (x := "do_plain") (E.c.fact 10)
theorem Txt.g_goes_on (E : Txt K mg) : mg "goes_on" = some (.ref (He.ga K "goes_on")) := E.glo (x := "goes_on") (E.c.fact 11)
theorem Txt.g_said_of (E : Txt K mg) : mg "said_of" = some (.ref (He.ga K "said_of")) := E.glo (x := "said_of") (E.c.fact 12)
theorem Txt.g_number_value (E : Txt K mg) : mg "number_value" = some (.ref (He.ga K "number_value")) := E.glo (x := "number_value") (E.c.fact 13)
theorem Txt.g_thing_value (E : Txt K mg) : mg "thing_value" = some (.ref (He.ga K "thing_value")) := E.glo (x := "thing_value") (E.c.fact 14)
theorem Txt.g_kind_of (E : Txt K mg) : mg "kind_of" = some (.ref (He.ga K "kind_of")) := E.glo (x := "kind_of") (E.c.fact 15)
theorem Txt.g_words_of (E : Txt K mg) : mg "words_of" = some (.ref (He.ga K "words_of")) := E.glo (x := "words_of") (E.c.fact 16)
theorem Txt.g_look_at_hand (E : Txt K mg) : mg "look_at_hand" = some (.ref (He.ga K "look_at_hand")) := E.glo (x := "look_at_hand") (E.c.fact 17)
theorem Txt.g_look_at_name (E : Txt K mg) : mg "look_at_name" = some (.ref (He.ga K "look_at_name")) := E.glo (x := "look_at_name") (E.c.fact 18)
theorem Txt.g_look_at_limits (E : Txt K mg) : mg "look_at_limits" = some (.ref (He.ga K "look_at_limits")) := E.glo (x := "look_at_limits") (E.c.fact 19)
theorem Txt.g_thing_of (E : Txt K mg) : mg "thing_of" = some (.ref (He.ga K "thing_of")) := E.glo (x := "thing_of") (E.c.fact 20)
theorem Txt.g_things_of (E : Txt K mg) : mg "things_of" = some (.ref (He.ga K "things_of")) := E.glo (x := "things_of") (E.c.fact 21)
theorem Txt.g_led_within (E : Txt K mg) : mg "led_within" = some (.ref (He.ga K "led_within")) := E.glo (x := "led_within") (E.c.fact 22)
theorem Txt.g_young_things (E : Txt K mg) : mg "young_things" = some (.ref (He.ga K "young_things")) := E.glo (x := "young_things") (E.c.fact 23)
theorem Txt.g_words_in (E : Txt K mg) : mg "words_in" = some (.ref (He.ga K "words_in")) := E.glo (x := "words_in") (E.c.fact 24)
theorem Txt.g_young_kept (E : Txt K mg) : mg "young_kept" = some (.ref (He.ga K "young_kept")) := E.glo (x := "young_kept") (E.c.fact 25)
theorem Txt.g_law_numbers (E : Txt K mg) : mg "_law_numbers" = some (.ref (He.ga K "_law_numbers")) := E.glo (x := "_law_numbers") (E.c.fact 26)
theorem Txt.g_law_row (E : Txt K mg) : mg "_law_row" = some (.ref (He.ga K "_law_row")) := E.glo (x := "_law_row") (E.c.fact 27)
theorem Txt.g_law_program (E : Txt K mg) : mg "_law_program" = some (.ref (He.ga K "_law_program")) := E.glo (x := "_law_program") (E.c.fact 28)
theorem Txt.g_law_text (E : Txt K mg) : mg "_law_text" = some (.ref (He.ga K "_law_text")) := E.glo (x := "_law_text") (E.c.fact 29)
theorem Txt.g_law_plain (E : Txt K mg) : mg "_law_plain" = some (.ref (He.ga K "_law_plain")) := E.glo (x := "_law_plain") (E.c.fact 30)
theorem Txt.g_law_jumps (E : Txt K mg) : mg "_law_jumps" = some (.ref (He.ga K "_law_jumps")) := E.glo (x := "_law_jumps") (E.c.fact 31)
theorem Txt.g_law_reckoned (E : Txt K mg) : mg "_law_reckoned" = some (.ref (He.ga K "_law_reckoned")) := E.glo (x := "_law_reckoned") (E.c.fact 32)
theorem Txt.g_law_said (E : Txt K mg) : mg "_law_said" = some (.ref (He.ga K "_law_said")) := E.glo (x := "_law_said") (E.c.fact 33)
theorem Txt.g_law_one (E : Txt K mg) : mg "_law_one" = some (.ref (He.ga K "_law_one")) := E.glo (x := "_law_one") (E.c.fact 34)
theorem Txt.g_law_heap (E : Txt K mg) : mg "_law_heap" = some (.ref (He.ga K "_law_heap")) := E.glo (x := "_law_heap") (E.c.fact 35)
theorem Txt.g_law_told (E : Txt K mg) : mg "_law_told" = some (.ref (He.ga K "_law_told")) := E.glo (x := "_law_told") (E.c.fact 36)
theorem Txt.g_law_step_right (E : Txt K mg) : mg "_law_step_right" = some (.ref (He.ga K "_law_step_right")) := E.glo (x := "_law_step_right") (E.c.fact 37)
theorem Txt.g_law (E : Txt K mg) : mg "law" = some (.ref (He.ga K "law")) := E.glo (x := "law") (E.c.fact 38)
theorem Txt.g_HeapError (E : Txt K mg) : mg "HeapError" = some (.ref (He.ga K "HeapError")) := E.glo (x := "HeapError") (E.c.fact 39)
theorem Txt.g_BadCount (E : Txt K mg) : mg "BadCount" = some (.ref (He.ga K "BadCount")) := E.glo (x := "BadCount") (E.c.fact 40)
theorem Txt.g_BadField (E : Txt K mg) : mg "BadField" = some (.ref (He.ga K "BadField")) := E.glo (x := "BadField") (E.c.fact 41)
theorem Txt.g_BadHand (E : Txt K mg) : mg "BadHand" = some (.ref (He.ga K "BadHand")) := E.glo (x := "BadHand") (E.c.fact 42)
theorem Txt.g_BadName (E : Txt K mg) : mg "BadName" = some (.ref (He.ga K "BadName")) := E.glo (x := "BadName") (E.c.fact 43)
theorem Txt.g_NoRoom (E : Txt K mg) : mg "NoRoom" = some (.ref (He.ga K "NoRoom")) := E.glo (x := "NoRoom") (E.c.fact 44)
theorem Txt.g_TooManyWords (E : Txt K mg) : mg "TooManyWords" = some (.ref (He.ga K "TooManyWords")) := E.glo (x := "TooManyWords") (E.c.fact 45)
theorem Txt.g_Running (E : Txt K mg) : mg "Running" = some (.ref (He.ga K "Running")) := E.glo (x := "Running") (E.c.fact 46)
theorem Txt.g_IdealThing (E : Txt K mg) : mg "IdealThing" = some (.ref (He.ga K "IdealThing")) := E.glo (x := "IdealThing") (E.c.fact 47)
theorem Txt.g_IdealHeap (E : Txt K mg) : mg "IdealHeap" = some (.ref (He.ga K "IdealHeap")) := E.glo (x := "IdealHeap") (E.c.fact 48)
theorem Txt.x_HeapError (E : Txt K mg) : PySem.W.excIn K (He.ga K "HeapError") He.veBase "ValueError.__new__" = true ∧ PySem.W.keepIn K (.ref (He.ga K "HeapError")) = true ∧ PySem.W.subIn K (.ref (He.ga K "HeapError")) (.type "BaseException") = some true ∧ PySem.W.typeIn K (.ref (He.ga K "HeapError")) = some (.type "type") := He.exc_ok (x := "HeapError") (E.c.fact 49)
theorem Txt.x_BadCount (E : Txt K mg) : PySem.W.excIn K (He.ga K "BadCount") He.veBase "ValueError.__new__" = true ∧ PySem.W.keepIn K (.ref (He.ga K "BadCount")) = true ∧ PySem.W.subIn K (.ref (He.ga K "BadCount")) (.type "BaseException") = some true ∧ PySem.W.typeIn K (.ref (He.ga K "BadCount")) = some (.type "type") := He.exc_ok (x := "BadCount") (E.c.fact 50)
theorem Txt.x_BadField (E : Txt K mg) : PySem.W.excIn K (He.ga K "BadField") He.veBase "ValueError.__new__" = true ∧ PySem.W.keepIn K (.ref (He.ga K "BadField")) = true ∧ PySem.W.subIn K (.ref (He.ga K "BadField")) (.type "BaseException") = some true ∧ PySem.W.typeIn K (.ref (He.ga K "BadField")) = some (.type "type") := He.exc_ok (x := "BadField") (E.c.fact 51)
theorem Txt.x_BadHand (E : Txt K mg) : PySem.W.excIn K (He.ga K "BadHand") He.veBase "ValueError.__new__" = true ∧ PySem.W.keepIn K (.ref (He.ga K "BadHand")) = true ∧ PySem.W.subIn K (.ref (He.ga K "BadHand")) (.type "BaseException") = some true ∧ PySem.W.typeIn K (.ref (He.ga K "BadHand")) = some (.type "type") := He.exc_ok (x := "BadHand") (E.c.fact 52)
theorem Txt.x_BadName (E : Txt K mg) : PySem.W.excIn K (He.ga K "BadName") He.veBase "ValueError.__new__" = true ∧ PySem.W.keepIn K (.ref (He.ga K "BadName")) = true ∧ PySem.W.subIn K (.ref (He.ga K "BadName")) (.type "BaseException") = some true ∧ PySem.W.typeIn K (.ref (He.ga K "BadName")) = some (.type "type") := He.exc_ok (x := "BadName") (E.c.fact 53)
theorem Txt.x_NoRoom (E : Txt K mg) : PySem.W.excIn K (He.ga K "NoRoom") He.veBase "ValueError.__new__" = true ∧ PySem.W.keepIn K (.ref (He.ga K "NoRoom")) = true ∧ PySem.W.subIn K (.ref (He.ga K "NoRoom")) (.type "BaseException") = some true ∧ PySem.W.typeIn K (.ref (He.ga K "NoRoom")) = some (.type "type") := He.exc_ok (x := "NoRoom") (E.c.fact 54)
theorem Txt.x_TooManyWords (E : Txt K mg) : PySem.W.excIn K (He.ga K "TooManyWords") He.veBase "ValueError.__new__" = true ∧ PySem.W.keepIn K (.ref (He.ga K "TooManyWords")) = true ∧ PySem.W.subIn K (.ref (He.ga K "TooManyWords")) (.type "BaseException") = some true ∧ PySem.W.typeIn K (.ref (He.ga K "TooManyWords")) = some (.type "type") := He.exc_ok (x := "TooManyWords") (E.c.fact 55)
theorem Txt.e_HeapError (E : Txt K mg) : PySem.W.exmOne K (.ref (He.ga K "HeapError")) (.ref (He.ga K "HeapError")) = some true := He.exm_ok (x := "HeapError") (y := "HeapError") (b := true) (E.c.fact 56)
theorem Txt.e_BadCount (E : Txt K mg) : PySem.W.exmOne K (.ref (He.ga K "BadCount")) (.ref (He.ga K "HeapError")) = some true := He.exm_ok (x := "BadCount") (y := "HeapError") (b := true) (E.c.fact 57)
theorem Txt.e_BadField (E : Txt K mg) : PySem.W.exmOne K (.ref (He.ga K "BadField")) (.ref (He.ga K "HeapError")) = some true := He.exm_ok (x := "BadField") (y := "HeapError") (b := true) (E.c.fact 58)
theorem Txt.e_BadHand (E : Txt K mg) : PySem.W.exmOne K (.ref (He.ga K "BadHand")) (.ref (He.ga K "HeapError")) = some true := He.exm_ok (x := "BadHand") (y := "HeapError") (b := true) (E.c.fact 59)
theorem Txt.e_BadName (E : Txt K mg) : PySem.W.exmOne K (.ref (He.ga K "BadName")) (.ref (He.ga K "HeapError")) = some true := He.exm_ok (x := "BadName") (y := "HeapError") (b := true) (E.c.fact 60)
theorem Txt.e_NoRoom (E : Txt K mg) : PySem.W.exmOne K (.ref (He.ga K "NoRoom")) (.ref (He.ga K "HeapError")) = some true := He.exm_ok (x := "NoRoom") (y := "HeapError") (b := true) (E.c.fact 61)
theorem Txt.e_TooManyWords (E : Txt K mg) : PySem.W.exmOne K (.ref (He.ga K "TooManyWords")) (.ref (He.ga K "HeapError")) = some true := He.exm_ok (x := "TooManyWords") (y := "HeapError") (b := true) (E.c.fact 62)
theorem Txt.c_Running (E : Txt K mg) : Cls K (He.ga K "Running") := He.cls_ok (x := "Running") (E.c.fact 63)
theorem Txt.k_Running (E : Txt K mg) : Mk K (He.ga K "Running") (fAd at_Running_init K) := He.mkr_ok (x := "Running") (E.c.fact 64)
theorem Txt.n_Running_program (E : Txt K mg) : NoAttr K (He.ga K "Running") "program" := He.noat_ok (x := "Running") (f := "program") (E.c.fact 65)
theorem Txt.n_Running_hall (E : Txt K mg) : NoAttr K (He.ga K "Running") "hall" := He.noat_ok (x := "Running") (f := "hall") (E.c.fact 66)
theorem Txt.n_Running_places (E : Txt K mg) : NoAttr K (He.ga K "Running") "places" := He.noat_ok (x := "Running") (f := "places") (E.c.fact 67)
theorem Txt.n_Running_spot (E : Txt K mg) : NoAttr K (He.ga K "Running") "spot" := He.noat_ok (x := "Running") (f := "spot") (E.c.fact 68)
theorem Txt.n_Running_rows_done (E : Txt K mg) : NoAttr K (He.ga K "Running") "rows_done" := He.noat_ok (x := "Running") (f := "rows_done") (E.c.fact 69)
theorem Txt.n_Running_lines (E : Txt K mg) : NoAttr K (He.ga K "Running") "lines" := He.noat_ok (x := "Running") (f := "lines") (E.c.fact 70)
theorem Txt.n_Running_broken (E : Txt K mg) : NoAttr K (He.ga K "Running") "broken" := He.noat_ok (x := "Running") (f := "broken") (E.c.fact 71)
theorem Txt.c_IdealThing (E : Txt K mg) : Cls K (He.ga K "IdealThing") := He.cls_ok (x := "IdealThing") (E.c.fact 72)
theorem Txt.k_IdealThing (E : Txt K mg) : Mk K (He.ga K "IdealThing") (fAd at_IdealThing_init K) := He.mkr_ok (x := "IdealThing") (E.c.fact 73)
theorem Txt.n_IdealThing_inside (E : Txt K mg) : NoAttr K (He.ga K "IdealThing") "inside" := He.noat_ok (x := "IdealThing") (f := "inside") (E.c.fact 74)
theorem Txt.n_IdealThing_aged (E : Txt K mg) : NoAttr K (He.ga K "IdealThing") "aged" := He.noat_ok (x := "IdealThing") (f := "aged") (E.c.fact 75)
theorem Txt.n_IdealThing_last_word (E : Txt K mg) : NoAttr K (He.ga K "IdealThing") "last_word" := He.noat_ok (x := "IdealThing") (f := "last_word") (E.c.fact 76)
theorem Txt.c_IdealHeap (E : Txt K mg) : Cls K (He.ga K "IdealHeap") := He.cls_ok (x := "IdealHeap") (E.c.fact 77)
theorem Txt.k_IdealHeap (E : Txt K mg) : Mk K (He.ga K "IdealHeap") (fAd at_IdealHeap_init K) := He.mkr_ok (x := "IdealHeap") (E.c.fact 78)
theorem Txt.n_IdealHeap_room (E : Txt K mg) : NoAttr K (He.ga K "IdealHeap") "room" := He.noat_ok (x := "IdealHeap") (f := "room") (E.c.fact 79)
theorem Txt.n_IdealHeap_limit (E : Txt K mg) : NoAttr K (He.ga K "IdealHeap") "limit" := He.noat_ok (x := "IdealHeap") (f := "limit") (E.c.fact 80)
theorem Txt.n_IdealHeap_in_hands (E : Txt K mg) : NoAttr K (He.ga K "IdealHeap") "in_hands" := He.noat_ok (x := "IdealHeap") (f := "in_hands") (E.c.fact 81)
theorem Txt.n_IdealHeap_naming (E : Txt K mg) : NoAttr K (He.ga K "IdealHeap") "naming" := He.noat_ok (x := "IdealHeap") (f := "naming") (E.c.fact 82)
theorem Txt.n_IdealHeap_kept (E : Txt K mg) : NoAttr K (He.ga K "IdealHeap") "kept" := He.noat_ok (x := "IdealHeap") (f := "kept") (E.c.fact 83)
theorem Txt.n_IdealHeap_count (E : Txt K mg) : NoAttr K (He.ga K "IdealHeap") "count" := He.noat_ok (x := "IdealHeap") (f := "count") (E.c.fact 84)
theorem Txt.n_IdealHeap_going (E : Txt K mg) : NoAttr K (He.ga K "IdealHeap") "going" := He.noat_ok (x := "IdealHeap") (f := "going") (E.c.fact 85)
theorem Txt.n_IdealHeap_spoken (E : Txt K mg) : NoAttr K (He.ga K "IdealHeap") "spoken" := He.noat_ok (x := "IdealHeap") (f := "spoken") (E.c.fact 86)
theorem Txt.m_HeapError_called (E : Txt K mg) : Meth K (He.ga K "HeapError") "called" (fAd at_HeapError_called K) := He.meth_ok (x := "HeapError") (m := "called") (E.c.fact 87)
theorem Txt.m_BadCount_called (E : Txt K mg) : Meth K (He.ga K "BadCount") "called" (fAd at_BadCount_called K) := He.meth_ok (x := "BadCount") (m := "called") (E.c.fact 88)
theorem Txt.m_BadField_called (E : Txt K mg) : Meth K (He.ga K "BadField") "called" (fAd at_BadField_called K) := He.meth_ok (x := "BadField") (m := "called") (E.c.fact 89)
theorem Txt.m_BadHand_called (E : Txt K mg) : Meth K (He.ga K "BadHand") "called" (fAd at_BadHand_called K) := He.meth_ok (x := "BadHand") (m := "called") (E.c.fact 90)
theorem Txt.m_BadName_called (E : Txt K mg) : Meth K (He.ga K "BadName") "called" (fAd at_BadName_called K) := He.meth_ok (x := "BadName") (m := "called") (E.c.fact 91)
theorem Txt.m_NoRoom_called (E : Txt K mg) : Meth K (He.ga K "NoRoom") "called" (fAd at_NoRoom_called K) := He.meth_ok (x := "NoRoom") (m := "called") (E.c.fact 92)
theorem Txt.m_TooManyWords_called (E : Txt K mg) : Meth K (He.ga K "TooManyWords") "called" (fAd at_TooManyWords_called K) := He.meth_ok (x := "TooManyWords") (m := "called") (E.c.fact 93)
theorem Txt.m_Running_init (E : Txt K mg) : Meth K (He.ga K "Running") "__init__" (fAd at_Running_init K) := He.meth_ok (x := "Running") (m := "__init__") (E.c.fact 94)
theorem Txt.m_Running_at (E : Txt K mg) : Meth K (He.ga K "Running") "at" (fAd at_Running_at K) := He.meth_ok (x := "Running") (m := "at") (E.c.fact 95)
theorem Txt.m_Running_do_row (E : Txt K mg) : Meth K (He.ga K "Running") "do_row" (fAd at_Running_do_row K) := He.meth_ok (x := "Running") (m := "do_row") (E.c.fact 96)
theorem Txt.m_Running_step (E : Txt K mg) : Meth K (He.ga K "Running") "step" (fAd at_Running_step K) := He.meth_ok (x := "Running") (m := "step") (E.c.fact 97)
theorem Txt.m_Running_told (E : Txt K mg) : Meth K (He.ga K "Running") "told" (fAd at_Running_told K) := He.meth_ok (x := "Running") (m := "told") (E.c.fact 98)
theorem Txt.m_Running_fault (E : Txt K mg) : Meth K (He.ga K "Running") "fault" (fAd at_Running_fault K) := He.meth_ok (x := "Running") (m := "fault") (E.c.fact 99)
theorem Txt.m_Running_steps (E : Txt K mg) : Meth K (He.ga K "Running") "steps" (fAd at_Running_steps K) := He.meth_ok (x := "Running") (m := "steps") (E.c.fact 100)
theorem Txt.m_IdealThing_init (E : Txt K mg) : Meth K (He.ga K "IdealThing") "__init__" (fAd at_IdealThing_init K) := He.meth_ok (x := "IdealThing") (m := "__init__") (E.c.fact 101)
theorem Txt.m_IdealHeap_init (E : Txt K mg) : Meth K (He.ga K "IdealHeap") "__init__" (fAd at_IdealHeap_init K) := He.meth_ok (x := "IdealHeap") (m := "__init__") (E.c.fact 102)
theorem Txt.m_IdealHeap_thing_in (E : Txt K mg) : Meth K (He.ga K "IdealHeap") "thing_in" (fAd at_IdealHeap_thing_in K) := He.meth_ok (x := "IdealHeap") (m := "thing_in") (E.c.fact 103)
theorem Txt.m_IdealHeap_field_due (E : Txt K mg) : Meth K (He.ga K "IdealHeap") "field_due" (fAd at_IdealHeap_field_due K) := He.meth_ok (x := "IdealHeap") (m := "field_due") (E.c.fact 104)
theorem Txt.m_IdealHeap_make (E : Txt K mg) : Meth K (He.ga K "IdealHeap") "make" (fAd at_IdealHeap_make K) := He.meth_ok (x := "IdealHeap") (m := "make") (E.c.fact 105)
theorem Txt.m_IdealHeap_load (E : Txt K mg) : Meth K (He.ga K "IdealHeap") "load" (fAd at_IdealHeap_load K) := He.meth_ok (x := "IdealHeap") (m := "load") (E.c.fact 106)
theorem Txt.m_IdealHeap_store (E : Txt K mg) : Meth K (He.ga K "IdealHeap") "store" (fAd at_IdealHeap_store K) := He.meth_ok (x := "IdealHeap") (m := "store") (E.c.fact 107)
theorem Txt.m_IdealHeap_copy (E : Txt K mg) : Meth K (He.ga K "IdealHeap") "copy" (fAd at_IdealHeap_copy K) := He.meth_ok (x := "IdealHeap") (m := "copy") (E.c.fact 108)
theorem Txt.m_IdealHeap_drop (E : Txt K mg) : Meth K (He.ga K "IdealHeap") "drop" (fAd at_IdealHeap_drop K) := He.meth_ok (x := "IdealHeap") (m := "drop") (E.c.fact 109)
theorem Txt.m_IdealHeap_number (E : Txt K mg) : Meth K (He.ga K "IdealHeap") "number" (fAd at_IdealHeap_number K) := He.meth_ok (x := "IdealHeap") (m := "number") (E.c.fact 110)
theorem Txt.m_IdealHeap_name (E : Txt K mg) : Meth K (He.ga K "IdealHeap") "name" (fAd at_IdealHeap_name K) := He.meth_ok (x := "IdealHeap") (m := "name") (E.c.fact 111)
theorem Txt.m_IdealHeap_read (E : Txt K mg) : Meth K (He.ga K "IdealHeap") "read" (fAd at_IdealHeap_read K) := He.meth_ok (x := "IdealHeap") (m := "read") (E.c.fact 112)
theorem Txt.m_IdealHeap_give_back (E : Txt K mg) : Meth K (He.ga K "IdealHeap") "give_back" (fAd at_IdealHeap_give_back K) := He.meth_ok (x := "IdealHeap") (m := "give_back") (E.c.fact 113)
theorem Txt.m_IdealHeap_word (E : Txt K mg) : Meth K (He.ga K "IdealHeap") "word" (fAd at_IdealHeap_word K) := He.meth_ok (x := "IdealHeap") (m := "word") (E.c.fact 114)
theorem Txt.m_IdealHeap_take (E : Txt K mg) : Meth K (He.ga K "IdealHeap") "take" (fAd at_IdealHeap_take K) := He.meth_ok (x := "IdealHeap") (m := "take") (E.c.fact 115)
theorem Txt.m_IdealHeap_kind (E : Txt K mg) : Meth K (He.ga K "IdealHeap") "kind" (fAd at_IdealHeap_kind K) := He.meth_ok (x := "IdealHeap") (m := "kind") (E.c.fact 116)
theorem Txt.m_IdealHeap_value (E : Txt K mg) : Meth K (He.ga K "IdealHeap") "value" (fAd at_IdealHeap_value K) := He.meth_ok (x := "IdealHeap") (m := "value") (E.c.fact 117)
theorem Txt.m_IdealHeap_fields (E : Txt K mg) : Meth K (He.ga K "IdealHeap") "fields" (fAd at_IdealHeap_fields K) := He.meth_ok (x := "IdealHeap") (m := "fields") (E.c.fact 118)
theorem Txt.m_IdealHeap_same (E : Txt K mg) : Meth K (He.ga K "IdealHeap") "same" (fAd at_IdealHeap_same K) := He.meth_ok (x := "IdealHeap") (m := "same") (E.c.fact 119)
theorem Txt.m_IdealHeap_held (E : Txt K mg) : Meth K (He.ga K "IdealHeap") "held" (fAd at_IdealHeap_held K) := He.meth_ok (x := "IdealHeap") (m := "held") (E.c.fact 120)
theorem Txt.m_IdealHeap_settle (E : Txt K mg) : Meth K (He.ga K "IdealHeap") "settle" (fAd at_IdealHeap_settle K) := He.meth_ok (x := "IdealHeap") (m := "settle") (E.c.fact 121)
theorem Txt.m_IdealHeap_small (E : Txt K mg) : Meth K (He.ga K "IdealHeap") "small" (fAd at_IdealHeap_small K) := He.meth_ok (x := "IdealHeap") (m := "small") (E.c.fact 122)
theorem Txt.m_IdealHeap_round_on (E : Txt K mg) : Meth K (He.ga K "IdealHeap") "round_on" (fAd at_IdealHeap_round_on K) := He.meth_ok (x := "IdealHeap") (m := "round_on") (E.c.fact 123)
theorem Txt.m_IdealHeap_hands (E : Txt K mg) : Meth K (He.ga K "IdealHeap") "hands" (fAd at_IdealHeap_hands K) := He.meth_ok (x := "IdealHeap") (m := "hands") (E.c.fact 124)
theorem Txt.m_IdealHeap_names (E : Txt K mg) : Meth K (He.ga K "IdealHeap") "names" (fAd at_IdealHeap_names K) := He.meth_ok (x := "IdealHeap") (m := "names") (E.c.fact 125)
theorem Txt.m_IdealHeap_things (E : Txt K mg) : Meth K (He.ga K "IdealHeap") "things" (fAd at_IdealHeap_things K) := He.meth_ok (x := "IdealHeap") (m := "things") (E.c.fact 126)
theorem Txt.m_IdealHeap_thing_due (E : Txt K mg) : Meth K (He.ga K "IdealHeap") "thing_due" (fAd at_IdealHeap_thing_due K) := He.meth_ok (x := "IdealHeap") (m := "thing_due") (E.c.fact 127)
theorem Txt.m_IdealHeap_fields_of (E : Txt K mg) : Meth K (He.ga K "IdealHeap") "fields_of" (fAd at_IdealHeap_fields_of K) := He.meth_ok (x := "IdealHeap") (m := "fields_of") (E.c.fact 128)
theorem Txt.m_IdealHeap_is_old (E : Txt K mg) : Meth K (He.ga K "IdealHeap") "is_old" (fAd at_IdealHeap_is_old K) := He.meth_ok (x := "IdealHeap") (m := "is_old") (E.c.fact 129)
theorem Txt.m_IdealHeap_word_of (E : Txt K mg) : Meth K (He.ga K "IdealHeap") "word_of" (fAd at_IdealHeap_word_of K) := He.meth_ok (x := "IdealHeap") (m := "word_of") (E.c.fact 130)
theorem Txt.m_IdealHeap_doomed (E : Txt K mg) : Meth K (He.ga K "IdealHeap") "doomed" (fAd at_IdealHeap_doomed K) := He.meth_ok (x := "IdealHeap") (m := "doomed") (E.c.fact 131)
theorem Txt.m_IdealHeap_said (E : Txt K mg) : Meth K (He.ga K "IdealHeap") "said" (fAd at_IdealHeap_said K) := He.meth_ok (x := "IdealHeap") (m := "said") (E.c.fact 132)
theorem Txt.m_IdealHeap_made (E : Txt K mg) : Meth K (He.ga K "IdealHeap") "made" (fAd at_IdealHeap_made K) := He.meth_ok (x := "IdealHeap") (m := "made") (E.c.fact 133)
theorem Txt.i_MOST_FIGURES (E : Txt K mg) : ∃ t, mg "MOST_FIGURES" = some (.int 61 t) := E.int (x := "MOST_FIGURES") (i := 61) (E.c.fact 134)
theorem Txt.i_MOST_LETTERS (E : Txt K mg) : ∃ t, mg "MOST_LETTERS" = some (.int 8 t) := E.int (x := "MOST_LETTERS") (i := 8) (E.c.fact 135)
theorem Txt.i_MOST_ROWS (E : Txt K mg) : ∃ t, mg "MOST_ROWS" = some (.int 200 t) := E.int (x := "MOST_ROWS") (i := 200) (E.c.fact 136)
theorem Txt.i_FAR (E : Txt K mg) : ∃ t, mg "FAR" = some (.int 1000000000000000000000000000000000000000000000000000000000000 t) := E.int (x := "FAR") (i := 1000000000000000000000000000000000000000000000000000000000000) (E.c.fact 137)
theorem Txt.i_MOST_FIELDS (E : Txt K mg) : ∃ t, mg "MOST_FIELDS" = some (.int 6 t) := E.int (x := "MOST_FIELDS") (i := 6) (E.c.fact 138)
theorem Txt.i_HANDS (E : Txt K mg) : ∃ t, mg "HANDS" = some (.int 8 t) := E.int (x := "HANDS") (i := 8) (E.c.fact 139)
theorem Txt.i_NAMES (E : Txt K mg) : ∃ t, mg "NAMES" = some (.int 8 t) := E.int (x := "NAMES") (i := 8) (E.c.fact 140)
theorem Txt.i_LEAST_ROOM (E : Txt K mg) : ∃ t, mg "LEAST_ROOM" = some (.int 7 t) := E.int (x := "LEAST_ROOM") (i := 7) (E.c.fact 141)
theorem Txt.i_MOST_YOUNG (E : Txt K mg) : ∃ t, mg "MOST_YOUNG" = some (.int 64 t) := E.int (x := "MOST_YOUNG") (i := 64) (E.c.fact 142)
theorem Txt.i_MOST_LIMIT (E : Txt K mg) : ∃ t, mg "MOST_LIMIT" = some (.int 400 t) := E.int (x := "MOST_LIMIT") (i := 400) (E.c.fact 143)
theorem Txt.i_MOST_WORDS (E : Txt K mg) : ∃ t, mg "MOST_WORDS" = some (.int 12 t) := E.int (x := "MOST_WORDS") (i := 12) (E.c.fact 144)
theorem Txt.s_FIGURES (E : Txt K mg) : ∃ t, mg "FIGURES" = some (.str "0123456789" t) := E.str (x := "FIGURES") (z := "0123456789") (E.c.fact 145)
theorem Txt.s_LETTERS (E : Txt K mg) : ∃ t, mg "LETTERS" = some (.str "abcdefghijklmnopqrstuvwxyz" t) := E.str (x := "LETTERS") (z := "abcdefghijklmnopqrstuvwxyz") (E.c.fact 146)
theorem Txt.f_len (E : Txt K mg) : mg "len" = none := E.free (x := "len") (E.c.fact 147)
theorem Txt.f_range (E : Txt K mg) : mg "range" = none := E.free (x := "range") (E.c.fact 148)
theorem Txt.f_list (E : Txt K mg) : mg "list" = none := E.free (x := "list") (E.c.fact 149)
theorem Txt.f_tuple (E : Txt K mg) : mg "tuple" = none := E.free (x := "tuple") (E.c.fact 150)
theorem Txt.f_sum (E : Txt K mg) : mg "sum" = none := E.free (x := "sum") (E.c.fact 151)
theorem Txt.f_sorted (E : Txt K mg) : mg "sorted" = none := E.free (x := "sorted") (E.c.fact 152)
theorem Txt.f_enumerate (E : Txt K mg) : mg "enumerate" = none := E.free (x := "enumerate") (E.c.fact 153)
theorem Txt.f_int (E : Txt K mg) : mg "int" = none := E.free (x := "int") (E.c.fact 154)
theorem Txt.f_str (E : Txt K mg) : mg "str" = none := E.free (x := "str") (E.c.fact 155)
theorem Txt.bA_law (E : Txt K mg) (s : Shared) (us : List Value) (hl : us.length = (["script"] : List Str).length) : BindsTo s (fdOf at_law K) ⟨us, []⟩ ((["script"] : List Str).zip us) := FunD.bindsA E.fd_law (fun _ _ _ _ _ _ us hl => match us, hl with | [_], _ => rfl) s us hl
end
theorem Txt.fa_law {K : PySem.W.Frag} {mg : Str → Option Value} (E : Txt K mg) {fa : Addr} (h : mg "law" = some (.ref fa)) : fa = fAd at_law K := by
  have e : some (Value.ref fa) = some (Value.ref (ga K "law")) := h.symm.trans E.g_law
  exact Value.ref.inj (Option.some.inj e)
end Sh
end

section
set_option Elab.async false
set_option linter.all false
set_option maxRecDepth 100000
set_option maxHeartbeats 4000000
namespace Sh
open PySem PySem.Spec PyProof.Rows L2
abbrev R : PySem.W.OpenRow := PySem.W.OpenLaw.row PySem.Challenge.rw_stillheap_k24_whole_rows_and_jumps
def ob (s : PySem.W.SharedT) : AlM := obsM (HandSHeadRun.getT s)
theorem ob_eq (s : PySem.W.SharedT) : ob s = hookM.obs s.abs := by
  have e : HandSHeadRun.getT s = s.abs.heap.get? := funext fun a => HandSHeadRun.getT_eq s a
  show obsM (HandSHeadRun.getT s) = obsM s.abs.heap.get?
  rw [e]
theorem run (w : World) : HandSHeadRun.RunEq R (PySem.W.view R.prog [71]) hookM ob 12000 names w := by
  intro os
  kernel_rfl
end Sh
end

section
/-! The ideal heap as plain data, and what its deeds do (the mirror). No Python here. -/
set_option linter.all false
namespace Sh
inductive Val where
  | non
  | num (x : Int)
  | thg (t : Int)
  deriving DecidableEq
structure Thing where
  inside : List Val
  aged : Bool
  word : Option Int
structure IH where
  room : Int
  limit : Int
  hands : List Val
  names : List (Option Int)
  kept : List (Int × Thing)
  count : Int
  spoken : List Int
inductive Err where
  | badHand | badName | badField | badCount | noRoom | tooMany
  deriving DecidableEq
/-- what a deed comes to: done with a result, or refused; the heap behind it -/
inductive Res (α : Type) where
  | ok (a : α) (h : IH)
  | err (e : Err) (h : IH)
def far : Int := 1000000000000000000000000000000000000000000000000000000000000
def numOk (x : Int) : Bool := decide (-far ≤ x ∧ x ≤ far)
def Val.thing : Val → Option Int
  | .thg t => some t
  | _ => none
theorem thing_some {x : Val} {t : Int} (h : x.thing = some t) : x = .thg t := by
  cases x with
  | thg j =>
    cases h
    rfl
  | non => cases h
  | num j => cases h
/-! ### a dict of things, in the order of their making -/
def kget (kept : List (Int × Thing)) (t : Int) : Option Thing := (kept.find? fun q => decide (q.1 = t)).map (·.2)
def kmod (kept : List (Int × Thing)) (t : Int) (f : Thing → Thing) : List (Int × Thing) := kept.map fun q => if q.1 = t then (q.1, f q.2) else q
def keys (kept : List (Int × Thing)) : List Int := kept.map (·.1)
def Asc (kept : List (Int × Thing)) : Prop := (keys kept).Pairwise (· < ·)
theorem kget_mem {kept : List (Int × Thing)} {t : Int} {th : Thing} (h : kget kept t = some th) : (t, th) ∈ kept := by
  unfold kget at h
  cases e : kept.find? fun q => decide (q.1 = t) with
  | none =>
    rw [e] at h
    cases h
  | some q =>
    rw [e] at h
    have h1 := List.find?_some e
    have h2 := List.mem_of_find?_eq_some e
    obtain ⟨a, b⟩ := q
    have ea : a = t := by simpa using h1
    have eb : b = th := Option.some.inj h
    subst ea eb
    exact h2
theorem kget_of_key {kept : List (Int × Thing)} {t : Int} (h : t ∈ keys kept) : ∃ th, kget kept t = some th := by
  obtain ⟨q, hq, e⟩ := List.mem_map.mp h
  unfold kget
  cases e2 : kept.find? fun q => decide (q.1 = t) with
  | none =>
    have z := List.find?_eq_none.mp e2 q hq
    exact absurd (decide_eq_true e) (by simpa using z)
  | some r => exact ⟨r.2, rfl⟩
theorem key_of_kget {kept : List (Int × Thing)} {t : Int} {th : Thing} (h : kget kept t = some th) : t ∈ keys kept := List.mem_map.mpr ⟨_, kget_mem h, rfl⟩
theorem asc_uniq : ∀ {kept : List (Int × Thing)}, Asc kept → ∀ {q r : Int × Thing}, q ∈ kept → r ∈ kept → q.1 = r.1 → q = r
  | [], _, _, _, h, _, _ => by cases h
  | a :: l, A, q, r, hq, hr, e => by
    obtain ⟨h1, h2⟩ := List.pairwise_cons.mp (show (a.1 :: keys l).Pairwise (· < ·) from A)
    rcases List.mem_cons.mp hq with z | z
    · rcases List.mem_cons.mp hr with y | y
      · rw [z, y]
      · have := h1 r.1 (List.mem_map.mpr ⟨r, y, rfl⟩)
        subst z
        omega
    · rcases List.mem_cons.mp hr with y | y
      · have := h1 q.1 (List.mem_map.mpr ⟨q, z, rfl⟩)
        subst y
        omega
      · exact asc_uniq (kept := l) h2 z y e
theorem mem_kget {kept : List (Int × Thing)} (A : Asc kept) {t : Int} {th : Thing} (h : (t, th) ∈ kept) : kget kept t = some th := by
  obtain ⟨u, hu⟩ := kget_of_key (List.mem_map.mpr ⟨_, h, rfl⟩ : t ∈ keys kept)
  have := asc_uniq A (kget_mem hu) h rfl
  cases this
  exact hu
theorem keys_kmod (kept : List (Int × Thing)) (t : Int) (f : Thing → Thing) : keys (kmod kept t f) = keys kept := by
  unfold keys kmod
  rw [List.map_map]
  refine List.map_congr_left fun q _ => ?_
  show (if q.1 = t then (q.1, f q.2) else q).1 = q.1
  split <;> rfl
theorem mem_kmod {kept : List (Int × Thing)} {t : Int} {f : Thing → Thing} {r : Int × Thing} (h : r ∈ kmod kept t f) : ∃ q ∈ kept, r.1 = q.1 ∧ ((q.1 = t ∧ r.2 = f q.2) ∨ (q.1 ≠ t ∧ r.2 = q.2)) := by
  obtain ⟨q, hq, e⟩ := List.mem_map.mp h
  refine ⟨q, hq, ?_⟩
  by_cases c : q.1 = t
  · rw [if_pos c] at e
    subst e
    exact ⟨rfl, Or.inl ⟨c, rfl⟩⟩
  · rw [if_neg c] at e
    subst e
    exact ⟨rfl, Or.inr ⟨c, rfl⟩⟩
def words (kept : List (Int × Thing)) : Int := (kept.map fun q => ((q.2.inside.length : Int) + 1)).sum
theorem sum_map_congr {α : Type} {f g : α → Int} : ∀ {l : List α}, (∀ q ∈ l, f q = g q) → (l.map f).sum = (l.map g).sum
  | [], _ => rfl
  | a :: l, h => by
    rw [List.map_cons, List.map_cons, List.sum_cons, List.sum_cons, h a (List.mem_cons_self ..), sum_map_congr fun q hq => h q (List.mem_cons_of_mem _ hq)]
theorem words_kmod {kept : List (Int × Thing)} {t : Int} {f : Thing → Thing} (hf : ∀ th, (f th).inside.length = th.inside.length) : words (kmod kept t f) = words kept := by
  unfold words kmod
  rw [List.map_map]
  refine sum_map_congr fun q _ => ?_
  show (((if q.1 = t then (q.1, f q.2) else q).2.inside.length : Int) + 1) = _
  split
  · rw [hf]
  · rfl
theorem words_len : ∀ kept : List (Int × Thing), (kept.length : Int) ≤ words kept
  | [] => by simp [words]
  | a :: l => by
    have ih := words_len l
    unfold words at ih ⊢
    rw [List.map_cons, List.sum_cons, List.length_cons]
    omega
theorem words_app (k l : List (Int × Thing)) : words (k ++ l) = words k + words l := by
  unfold words
  rw [List.map_append, List.sum_append]
theorem words_filter (p : Int × Thing → Bool) : ∀ kept : List (Int × Thing), words (kept.filter p) ≤ words kept
  | [] => by simp [words]
  | a :: l => by
    have ih := words_filter p l
    have e : words (a :: l) = ((a.2.inside.length : Int) + 1) + words l := by unfold words; rw [List.map_cons, List.sum_cons]
    rw [List.filter_cons]
    split
    · have e2 : words (a :: l.filter p) = ((a.2.inside.length : Int) + 1) + words (l.filter p) := by unfold words; rw [List.map_cons, List.sum_cons]
      omega
    · omega
theorem words_map {f : Int × Thing → Int × Thing} (hf : ∀ q, (f q).2.inside.length = q.2.inside.length) (kept : List (Int × Thing)) : words (kept.map f) = words kept := by
  unfold words
  rw [List.map_map]
  exact sum_map_congr fun q _ => by show (((f q).2.inside.length : Int) + 1) = _; rw [hf]
/-! ### what leads where -/
inductive Led (kept : List (Int × Thing)) (start some : Int → Prop) : Int → Prop where
  | base {t : Int} : start t → some t → Led kept start some t
  | step {t u : Int} {th : Thing} : Led kept start some t → kget kept t = Option.some th → Val.thg u ∈ th.inside → some u → Led kept start some u
def Young (kept : List (Int × Thing)) (t : Int) : Prop := ∃ th, kget kept t = some th ∧ th.aged = false
/-- where a small round begins -/
def Starts (h : IH) (t : Int) : Prop := Val.thg t ∈ h.hands ∨ ∃ q ∈ h.kept, q.2.aged = true ∧ Val.thg t ∈ q.2.inside
def Stay (h : IH) (t : Int) : Prop := Led h.kept (Starts h) (Young h.kept) t
noncomputable def stayB (h : IH) (t : Int) : Bool := @decide (Stay h t) (Classical.propDecidable _)
theorem stayB_iff {h : IH} {t : Int} : stayB h t = true ↔ Stay h t := by
  unfold stayB
  exact @decide_eq_true_iff _ (Classical.propDecidable _)
/-- things that go in a small round -/
noncomputable def goesB (h : IH) (t : Int) : Bool := match kget h.kept t with
  | some th => !th.aged && !stayB h t
  | none => false
/-! ### settle: things go -/
def settled (h : IH) (gone : Int → Bool) : IH := { h with
  kept := h.kept.filter fun q => !gone q.1
  spoken := h.spoken ++ h.kept.filterMap fun q => if gone q.1 then q.2.word else none
  names := h.names.map fun n => match n with
    | some t => if gone t then none else some t
    | none => none }
def aged1 (q : Int × Thing) : Int × Thing := (q.1, { q.2 with aged := true })
noncomputable def small (h : IH) : IH := let s := settled h (goesB h); { s with kept := s.kept.map aged1 }
/-! ### the deeds (hands, names in their bounds) -/
def IH.hand (h : IH) (i : Int) : Val := h.hands.getD i.toNat .non
def IH.setHand (h : IH) (i : Int) (x : Val) : IH := { h with hands := h.hands.set i.toNat x }
def young (kept : List (Int × Thing)) : List (Int × Thing) := kept.filter fun q => !q.2.aged
noncomputable def roomed (h : IH) (n : Int) : IH := if 0 < h.room ∧ h.room < words (young h.kept) + (n + 1) then small h else h
noncomputable def dMake (h : IH) (i n : Int) : Res Unit :=
  if h.limit < words (roomed h n).kept + (n + 1) then .err .noRoom (roomed h n)
  else .ok () { (roomed h n).setHand i (.thg h.count) with kept := (roomed h n).kept ++ [(h.count, ⟨List.replicate n.toNat .non, decide (h.room = 0), none⟩)], count := h.count + 1 }
def dLoad (h : IH) (i g k : Int) : Res Unit := match (h.hand g).thing with
  | none => .err .badHand h
  | some t => match kget h.kept t with
    | none => .err .badHand h
    | some th => if 0 ≤ k ∧ k < (th.inside.length : Int) then .ok () (h.setHand i (th.inside.getD k.toNat .non)) else .err .badField h
def dStore (h : IH) (g k i : Int) : Res Unit := match (h.hand g).thing with
  | none => .err .badHand h
  | some t => match kget h.kept t with
    | none => .err .badHand h
    | some th => if 0 ≤ k ∧ k < (th.inside.length : Int) then .ok () { h with kept := kmod h.kept t fun th => { th with inside := th.inside.set k.toNat (h.hand i) } } else .err .badField h
def dCopy (h : IH) (i g : Int) : Res Unit := .ok () (h.setHand i (h.hand g))
def dDrop (h : IH) (i : Int) : Res Unit := .ok () (h.setHand i .non)
def dNumber (h : IH) (i x : Int) : Res Unit := if numOk x then .ok () (h.setHand i (.num x)) else .err .badCount h
def dName (h : IH) (w i : Int) : Res Unit := match (h.hand i).thing with
  | none => .err .badHand h
  | some t => .ok () { h with names := h.names.set w.toNat (some t) }
def dRead (h : IH) (i w : Int) : Res Unit := match (h.names.getD w.toNat none) with
  | none => .ok () (h.setHand i .non)
  | some t => .ok () (h.setHand i (.thg t))
def bearers (kept : List (Int × Thing)) : List (Int × Thing) := kept.filter fun q => q.2.word.isSome
def dWord (h : IH) (i x : Int) : Res Unit := match (h.hand i).thing with
  | none => .err .badHand h
  | some t => match kget h.kept t with
    | none => .err .badHand h
    | some th => if numOk x then
        if th.word = none ∧ 12 ≤ (bearers h.kept).length then .err .tooMany h else .ok () { h with kept := kmod h.kept t fun th => { th with word := some x } }
      else .err .badCount h
def dTake (h : IH) : Option Int × IH := match h.spoken with
  | [] => (none, h)
  | x :: r => (some x, { h with spoken := r })
def dValue (h : IH) (i : Int) : Res Int := match h.hand i with
  | .num x => .ok x h
  | _ => .err .badHand h
def dFields (h : IH) (i : Int) : Res Int := match (h.hand i).thing with
  | none => .err .badHand h
  | some t => match kget h.kept t with
    | none => .err .badHand h
    | some th => .ok th.inside.length h
/-! ### what always holds -/
structure WF (h : IH) : Prop where
  hl : h.hands.length = 8
  nl : h.names.length = 8
  asc : Asc h.kept
  below : ∀ q ∈ h.kept, q.1 < h.count
  hin : ∀ t, Val.thg t ∈ h.hands → t ∈ keys h.kept
  nin : ∀ t, some t ∈ h.names → t ∈ keys h.kept
  fin : ∀ q ∈ h.kept, ∀ t, Val.thg t ∈ q.2.inside → t ∈ keys h.kept
  few : ∀ q ∈ h.kept, q.2.inside.length ≤ 6
  lim : words h.kept ≤ h.limit
  lim2 : h.limit ≤ 400
  wok : ∀ q ∈ h.kept, ∀ x, q.2.word = some x → numOk x = true
  sok : ∀ x ∈ h.spoken, numOk x = true
  spk : (h.spoken.length : Int) + (h.kept.length : Int) ≤ h.count
theorem WF.klen {h : IH} (W : WF h) : h.kept.length ≤ 400 := by
  have h1 := words_len h.kept
  have h2 := W.lim
  have h3 := W.lim2
  omega
theorem WF.hand_mem {h : IH} (W : WF h) {i : Int} (hi : 0 ≤ i ∧ i < 8) : h.hand i ∈ h.hands := by
  unfold IH.hand
  have l : i.toNat < h.hands.length := by rw [W.hl]; omega
  rw [List.getD_eq_getElem?_getD, List.getElem?_eq_getElem l]
  exact List.getElem_mem l
/-- a thing in a hand is kept -/
theorem WF.at_hand {h : IH} (W : WF h) {i t : Int} (hi : 0 ≤ i ∧ i < 8) (e : (h.hand i).thing = some t) : ∃ th, kget h.kept t = some th :=
  kget_of_key (W.hin t (by rw [← thing_some e]; exact W.hand_mem hi))
theorem WF.setHand {h : IH} (W : WF h) (i : Int) {x : Val} (hx : ∀ t, x = .thg t → t ∈ keys h.kept) : WF (h.setHand i x) :=
  { W with
    hl := by show (h.hands.set _ _).length = 8; rw [List.length_set]; exact W.hl
    hin := fun t m => by
      rcases List.mem_or_eq_of_mem_set (show Val.thg t ∈ h.hands.set i.toNat x from m) with z | z
      · exact W.hin t z
      · exact hx t z.symm }
theorem WF.load {h : IH} (W : WF h) {i t : Int} {th : Thing} {k : Nat} (e : kget h.kept t = some th) : WF (h.setHand i (th.inside.getD k .non)) :=
  W.setHand i fun u hu => by
    have m := kget_mem e
    refine W.fin _ m u ?_
    show Val.thg u ∈ th.inside
    rw [← hu]
    rw [List.getD_eq_getElem?_getD] at hu ⊢
    cases e2 : th.inside[k]? with
    | none =>
      rw [e2] at hu
      cases hu
    | some y => exact List.mem_of_getElem? e2
theorem WF.kmod {h : IH} (W : WF h) (t : Int) {f : Thing → Thing} (h1 : ∀ th, (f th).inside.length = th.inside.length) (h2 : ∀ th u, (t, th) ∈ h.kept → Val.thg u ∈ (f th).inside → u ∈ keys h.kept)
    (h3 : ∀ th x, (t, th) ∈ h.kept → (f th).word = some x → numOk x = true) : WF { h with kept := Sh.kmod h.kept t f } := by
  have ek := keys_kmod h.kept t f
  refine { W with asc := ?_, below := ?_, hin := ?_, nin := ?_, fin := ?_, few := ?_, lim := ?_, wok := ?_, spk := ?_ }
  · show (keys (Sh.kmod h.kept t f)).Pairwise _
    rw [ek]
    exact W.asc
  · intro r hr
    obtain ⟨q, hq, e, _⟩ := mem_kmod hr
    rw [e]
    exact W.below q hq
  · intro u m
    show u ∈ keys (Sh.kmod h.kept t f)
    rw [ek]
    exact W.hin u m
  · intro u m
    show u ∈ keys (Sh.kmod h.kept t f)
    rw [ek]
    exact W.nin u m
  · intro r hr u m
    show u ∈ keys (Sh.kmod h.kept t f)
    rw [ek]
    obtain ⟨q, hq, e, ⟨e1, e2⟩ | ⟨e1, e2⟩⟩ := mem_kmod hr
    · rw [e2] at m
      exact h2 q.2 u (by rw [← e1]; exact hq) m
    · rw [e2] at m
      exact W.fin q hq u m
  · intro r hr
    obtain ⟨q, hq, e, ⟨e1, e2⟩ | ⟨e1, e2⟩⟩ := mem_kmod hr
    · rw [e2, h1]
      exact W.few q hq
    · rw [e2]
      exact W.few q hq
  · show words (Sh.kmod h.kept t f) ≤ h.limit
    rw [words_kmod h1]
    exact W.lim
  · intro r hr x e3
    obtain ⟨q, hq, e, ⟨e1, e2⟩ | ⟨e1, e2⟩⟩ := mem_kmod hr
    · rw [e2] at e3
      exact h3 q.2 x (by rw [← e1]; exact hq) e3
    · rw [e2] at e3
      exact W.wok q hq x e3
  · show (h.spoken.length : Int) + ((Sh.kmod h.kept t f).length : Int) ≤ h.count
    unfold Sh.kmod
    rw [List.length_map]
    exact W.spk
theorem WF.take {h : IH} (W : WF h) : WF (dTake h).2 := by
  unfold dTake
  cases e : h.spoken with
  | nil => exact W
  | cons x r =>
    refine { W with sok := fun y hy => W.sok y (by rw [e]; exact List.mem_cons_of_mem _ hy), spk := ?_ }
    have := W.spk
    rw [e] at this
    simp at this ⊢
    omega
/-- behind a small round -/
theorem stay_young {h : IH} {t : Int} (s : Stay h t) : Young h.kept t := by
  cases s with
  | base _ y => exact y
  | step _ _ _ y => exact y
theorem goes_false {h : IH} {t : Int} {th : Thing} (e : kget h.kept t = some th) : goesB h t = false ↔ th.aged = true ∨ Stay h t := by
  unfold goesB
  rw [e]
  show (!th.aged && !stayB h t) = false ↔ _
  rw [← stayB_iff]
  cases th.aged <;> cases stayB h t <;> simp
theorem settled_keys {h : IH} {gone : Int → Bool} {t : Int} : t ∈ keys (settled h gone).kept ↔ t ∈ keys h.kept ∧ gone t = false := by
  unfold settled keys
  constructor
  · intro m
    obtain ⟨q, hq, e⟩ := List.mem_map.mp m
    obtain ⟨a, b⟩ := List.mem_filter.mp hq
    subst e
    exact ⟨List.mem_map.mpr ⟨q, a, rfl⟩, by simpa using b⟩
  · rintro ⟨m, g⟩
    obtain ⟨q, hq, e⟩ := List.mem_map.mp m
    subst e
    exact List.mem_map.mpr ⟨q, List.mem_filter.mpr ⟨hq, by simp [g]⟩, rfl⟩
theorem keys_aged (kept : List (Int × Thing)) : keys (kept.map aged1) = keys kept := by
  unfold keys
  rw [List.map_map]
  rfl
theorem filterMap_len {α : Type} (p : α → Bool) (f : α → Option Int) : ∀ l : List α, (l.filterMap fun q => if p q then f q else none).length + (l.filter fun q => !p q).length ≤ l.length
  | [] => Nat.le_refl _
  | a :: l => by
    have ih := filterMap_len p f l
    rw [List.filterMap_cons, List.filter_cons]
    cases hp : p a with
    | false =>
      simp only [Bool.false_eq_true, if_false, Bool.not_false, if_true, List.length_cons]
      omega
    | true =>
      simp only [if_true, Bool.not_true, Bool.false_eq_true, if_false, List.length_cons]
      cases f a with
      | none => simp only []; omega
      | some b => simp only [List.length_cons]; omega
theorem WF.small {h : IH} (W : WF h) : WF (small h) := by
  have ekeys : ∀ t, t ∈ keys (Sh.small h).kept ↔ t ∈ keys h.kept ∧ goesB h t = false := fun t => by
    show t ∈ keys ((settled h (goesB h)).kept.map aged1) ↔ _
    rw [keys_aged]
    exact settled_keys
  have mem : ∀ r ∈ (Sh.small h).kept, ∃ q ∈ h.kept, goesB h q.1 = false ∧ r = aged1 q := fun r hr => by
    obtain ⟨q, hq, e⟩ := List.mem_map.mp (show r ∈ (settled h (goesB h)).kept.map aged1 from hr)
    obtain ⟨a, b⟩ := List.mem_filter.mp (show q ∈ h.kept.filter fun q => !goesB h q.1 from hq)
    exact ⟨q, a, by simpa using b, e.symm⟩
  refine ⟨W.hl, ?_, ?_, ?_, ?_, ?_, ?_, ?_, ?_, W.lim2, ?_, ?_, ?_⟩
  · show (List.map _ h.names).length = 8
    rw [List.length_map]
    exact W.nl
  · show (keys ((settled h (goesB h)).kept.map aged1)).Pairwise _
    rw [keys_aged]
    show (keys (h.kept.filter fun q => !goesB h q.1)).Pairwise _
    exact W.asc.sublist (List.Sublist.map _ List.filter_sublist)
  · intro r hr
    obtain ⟨q, hq, _, rfl⟩ := mem r hr
    exact W.below q hq
  · intro t m
    refine (ekeys t).mpr ⟨W.hin t m, ?_⟩
    obtain ⟨th, e⟩ := kget_of_key (W.hin t m)
    refine (goes_false e).mpr ?_
    cases ag : th.aged with
    | true => exact Or.inl rfl
    | false => exact Or.inr (Led.base (Or.inl m) ⟨th, e, ag⟩)
  · intro t m
    obtain ⟨n, hn, e⟩ := List.mem_map.mp (show some t ∈ h.names.map _ from m)
    cases n with
    | none => cases e
    | some u =>
      dsimp only at e
      cases g : goesB h u with
      | true =>
        rw [g] at e
        cases e
      | false =>
        rw [g] at e
        simp at e
        subst e
        exact (ekeys u).mpr ⟨W.nin u hn, g⟩
  · intro r hr t m
    obtain ⟨q, hq, g, rfl⟩ := mem r hr
    have m : Val.thg t ∈ q.2.inside := m
    have kt := W.fin q hq t m
    obtain ⟨th, e⟩ := kget_of_key kt
    refine (ekeys t).mpr ⟨kt, (goes_false e).mpr ?_⟩
    cases ag : th.aged with
    | true => exact Or.inl rfl
    | false =>
      refine Or.inr ?_
      have eq : kget h.kept q.1 = some q.2 := mem_kget W.asc hq
      rcases (goes_false eq).mp g with z | z
      · exact Led.base (Or.inr ⟨q, hq, z, m⟩) ⟨th, e, ag⟩
      · exact Led.step z eq m ⟨th, e, ag⟩
  · intro r hr
    obtain ⟨q, hq, _, rfl⟩ := mem r hr
    exact W.few q hq
  · show words ((h.kept.filter fun q => !goesB h q.1).map aged1) ≤ h.limit
    rw [words_map (f := aged1) fun _ => rfl]
    exact Int.le_trans (words_filter _ _) W.lim
  · intro r hr x e
    obtain ⟨q, hq, _, rfl⟩ := mem r hr
    exact W.wok q hq x e
  · intro x m
    rcases List.mem_append.mp (show x ∈ h.spoken ++ _ from m) with z | z
    · exact W.sok x z
    · obtain ⟨q, hq, e⟩ := List.mem_filterMap.mp z
      split at e
      · exact W.wok q hq x e
      · cases e
  · show ((h.spoken ++ h.kept.filterMap fun q => if goesB h q.1 then q.2.word else none).length : Int) + (((h.kept.filter fun q => !goesB h q.1).map aged1).length : Int) ≤ h.count
    have := filterMap_len (fun q : Int × Thing => goesB h q.1) (fun q => q.2.word) h.kept
    have := W.spk
    rw [List.length_append, List.length_map]
    omega
theorem WF.roomed {h : IH} (W : WF h) (n : Int) : WF (roomed h n) := by
  unfold Sh.roomed
  split
  · exact W.small
  · exact W
theorem roomed_same (h : IH) (n : Int) : (roomed h n).count = h.count ∧ (roomed h n).limit = h.limit ∧ (roomed h n).room = h.room ∧ (roomed h n).hands = h.hands := by
  unfold Sh.roomed
  split
  · exact ⟨rfl, rfl, rfl, rfl⟩
  · exact ⟨rfl, rfl, rfl, rfl⟩
theorem WF.made {h : IH} (W : WF h) {n i : Int} {old : Bool} (hn : 0 ≤ n ∧ n ≤ 6) (hl : words h.kept + (n + 1) ≤ h.limit) :
    WF { h.setHand i (.thg h.count) with kept := h.kept ++ [(h.count, ⟨List.replicate n.toNat .non, old, none⟩)], count := h.count + 1 } := by
  have ek : keys (h.kept ++ [(h.count, (⟨List.replicate n.toNat .non, old, none⟩ : Thing))]) = keys h.kept ++ [h.count] := by
    unfold keys
    rw [List.map_append]
    rfl
  have inm : ∀ t, t ∈ keys h.kept → t ∈ keys (h.kept ++ [(h.count, (⟨List.replicate n.toNat .non, old, none⟩ : Thing))]) := fun t m => by
    rw [ek]
    exact List.mem_append_left _ m
  have split : ∀ {p : Int × Thing → Prop}, (∀ q ∈ h.kept, p q) → p (h.count, ⟨List.replicate n.toNat .non, old, none⟩) → ∀ q ∈ h.kept ++ [(h.count, (⟨List.replicate n.toNat .non, old, none⟩ : Thing))], p q := fun a b q m => by
    rcases List.mem_append.mp m with z | z
    · exact a q z
    · rw [List.mem_singleton.mp z]
      exact b
  refine ⟨?_, W.nl, ?_, ?_, ?_, ?_, ?_, ?_, ?_, W.lim2, ?_, W.sok, ?_⟩
  · show (h.hands.set _ _).length = 8
    rw [List.length_set]
    exact W.hl
  · show (keys (h.kept ++ _)).Pairwise _
    rw [ek]
    refine List.pairwise_append.mpr ⟨W.asc, List.pairwise_singleton _ _, fun a ha b hb => ?_⟩
    obtain ⟨q, hq, e⟩ := List.mem_map.mp ha
    rw [List.mem_singleton.mp hb, ← e]
    exact W.below q hq
  · refine split (fun q hq => ?_) ?_
    · have := W.below q hq
      show q.1 < h.count + 1
      omega
    · show h.count < h.count + 1
      omega
  · intro t m
    rcases List.mem_or_eq_of_mem_set (show Val.thg t ∈ h.hands.set i.toNat (.thg h.count) from m) with z | z
    · exact inm t (W.hin t z)
    · cases z
      show h.count ∈ keys (h.kept ++ _)
      rw [ek]
      simp
  · intro t m
    exact inm t (W.nin t m)
  · refine split (fun q hq t m => inm t (W.fin q hq t m)) fun t m => ?_
    have := List.eq_of_mem_replicate (show Val.thg t ∈ List.replicate n.toNat Val.non from m)
    cases this
  · refine split (fun q hq => W.few q hq) ?_
    show (List.replicate n.toNat Val.non).length ≤ 6
    rw [List.length_replicate]
    omega
  · show words (h.kept ++ _) ≤ h.limit
    rw [words_app]
    have : words [(h.count, (⟨List.replicate n.toNat .non, old, none⟩ : Thing))] = n + 1 := by
      unfold words
      simp
      omega
    omega
  · refine split (fun q hq => W.wok q hq) fun x e => ?_
    cases e
  · show (h.spoken.length : Int) + ((h.kept ++ _).length : Int) ≤ h.count + 1
    rw [List.length_append]
    have := W.spk
    simp only [List.length_singleton]
    omega
end Sh
end

section
set_option linter.all false
/-! The search for what leads where, as plain data. -/
namespace Sh
structure LInv (kept : List (Int × Thing)) (st so : Int → Prop) (fs ls : List Int) : Prop where
  sf : ∀ t ∈ fs, Led kept st so t
  sl : ∀ t ∈ ls, Led kept st so t
  cs : ∀ t, st t → so t → t ∈ fs ∨ t ∈ ls
  cf : ∀ t ∈ fs, ∀ th u, kget kept t = some th → Val.thg u ∈ th.inside → so u → u ∈ fs ∨ u ∈ ls
variable {kept : List (Int × Thing)} {st so : Int → Prop} {fs ls zs : List Int} {t : Int} {th : Thing}
theorem Led.in_ (h : Led kept st so t) : so t := by
  cases h with
  | base _ y => exact y
  | step _ _ _ y => exact y
theorem LInv.done (I : LInv kept st so fs []) : t ∈ fs ↔ Led kept st so t := by
  refine ⟨I.sf t, fun h => ?_⟩
  induction h with
  | base a b => exact (I.cs _ a b).elim id fun z => by cases z
  | step a e m b ih => exact (I.cf _ ih _ _ e m b).elim id fun z => by cases z
theorem LInv.skip (I : LInv kept st so fs (ls ++ [t])) (h : t ∈ fs) : LInv kept st so fs ls := by
  have back : ∀ u, u ∈ fs ∨ u ∈ ls ++ [t] → u ∈ fs ∨ u ∈ ls := fun u m => m.elim Or.inl fun z => (List.mem_append.mp z).elim Or.inr fun y => Or.inl (by rw [List.mem_singleton.mp y]; exact h)
  exact ⟨I.sf, fun u m => I.sl u (List.mem_append_left _ m), fun u a b => back u (I.cs u a b), fun v m th u e i s => back u (I.cf v m th u e i s)⟩
theorem LInv.grow (A : Asc kept) (I : LInv kept st so fs (ls ++ [t])) (e : kget kept t = some th) (hz : ∀ u, u ∈ zs ↔ Val.thg u ∈ th.inside ∧ so u) : LInv kept st so (fs ++ [t]) (ls ++ zs) := by
  have lt : Led kept st so t := I.sl t (by simp)
  have mv : ∀ u, u ∈ fs ∨ u ∈ ls ++ [t] → u ∈ fs ++ [t] ∨ u ∈ ls ++ zs := fun u m => by
    rcases m with z | z
    · exact Or.inl (List.mem_append_left _ z)
    · rcases List.mem_append.mp z with y | y
      · exact Or.inr (List.mem_append_left _ y)
      · exact Or.inl (List.mem_append_right _ y)
  refine ⟨fun u m => ?_, fun u m => ?_, fun u a b => mv u (I.cs u a b), fun v m th' u e' i s => ?_⟩
  · rcases List.mem_append.mp m with z | z
    · exact I.sf u z
    · rw [List.mem_singleton.mp z]
      exact lt
  · rcases List.mem_append.mp m with z | z
    · exact I.sl u (List.mem_append_left _ z)
    · obtain ⟨a, b⟩ := (hz u).mp z
      exact Led.step lt e a b
  · rcases List.mem_append.mp m with z | z
    · exact mv u (I.cf v z th' u e' i s)
    · rw [List.mem_singleton.mp z, e] at e'
      cases e'
      exact Or.inr (List.mem_append_right _ ((hz u).mpr ⟨i, s⟩))
theorem LInv.start (h : ∀ u, u ∈ ls ↔ st u ∧ so u) : LInv kept st so [] ls :=
  ⟨fun _ m => by (cases m), fun u m => Led.base ((h u).mp m).1 ((h u).mp m).2, fun u a b => Or.inr ((h u).mpr ⟨a, b⟩), fun _ m => by (cases m)⟩
/-- a list without like items among another's is no longer -/
theorem nodup_sub_len : ∀ {l k : List Int}, l.Nodup → (∀ t ∈ l, t ∈ k) → l.length ≤ k.length
  | [], k, _, _ => by simp
  | a :: l, k, n, s => by
    obtain ⟨h1, h2⟩ := List.nodup_cons.mp n
    have ak := s a (List.mem_cons_self ..)
    have ih := nodup_sub_len (l := l) (k := k.erase a) h2 fun t m => (List.mem_erase_of_ne (fun e : t = a => h1 (by rw [← e]; exact m))).mpr (s t (List.mem_cons_of_mem _ m))
    rw [List.length_erase_of_mem ak] at ih
    have : 0 < k.length := List.length_pos_of_mem ak
    rw [List.length_cons]
    omega
theorem take_sub {α : Type} {l : List α} {i : Nat} {a : α} (h : l[i]? = some a) : l.take (i + 1) = l.take i ++ [a] := by
  rw [List.take_succ, h] <;> rfl
theorem words_take {kept : List (Int × Thing)} {i : Nat} {q : Int × Thing} (h : kept[i]? = some q) : words (kept.take (i + 1)) = words (kept.take i) + ((q.2.inside.length : Int) + 1) := by
  rw [take_sub h, words_app]
  congr 1
theorem asc_nodup {kept : List (Int × Thing)} (A : Asc kept) : (keys kept).Nodup := List.Pairwise.imp (fun {a b} h => by omega) A
theorem asc_young (A : Asc kept) : Asc (young kept) := A.sublist (List.Sublist.map _ List.filter_sublist)
theorem mem_young (A : Asc kept) : t ∈ keys (young kept) ↔ Young kept t := by
  constructor
  · intro m
    obtain ⟨q, hq, e⟩ := List.mem_map.mp m
    obtain ⟨a, b⟩ := List.mem_filter.mp hq
    subst e
    exact ⟨q.2, mem_kget A a, by simpa using b⟩
  · rintro ⟨th, e, ag⟩
    exact List.mem_map.mpr ⟨(t, th), List.mem_filter.mpr ⟨kget_mem e, by simp [ag]⟩, rfl⟩
end Sh
end

section
set_option Elab.async false
set_option linter.all false
set_option maxRecDepth 100000
set_option maxHeartbeats 4000000
namespace Sh
open PySem PySem.Spec PyProof.Rows L2
/-! ### a def that lets nothing out -/
theorem FunD.ok0 {P : Program} {w : World} {K : PySem.W.Frag} {mg : Str → Option Value} {base : Heap} {x qual : Str} {params : Arguments} {body : List Stmt} {scope : Scope} {dvs : List V} {kws : List (Str × V)} {f : Addr} {fd : FuncData}
    {N ps : List Str} {k : Nat} {sp : Sp} (F : FunD K x qual params body scope dvs kws f fd) (S : FnScope N ps scope) (len : ∀ vs H Q E, sp vs H Q E → vs.length = ps.length)
    (hb : ∀ (cdv : Value) (A : Around) (outer : List Env) (s : Shared) (H : Hp) (vs : List V) (Q : VK) (E : XK), Room k (A.deeper (envOfC qual scope s.heap.objs.size f cdv)) → sp vs H Q E →
      ∃ t, PSs (cxOf CX0 P w K mg base N qual scope f cdv A outer s H E).nox body t ∧ t { nx := fun _ H' => Q .non H', rt := Q } (start N vs) H) : FnOk P w K mg base CX0 (k + 1) f fd ps sp :=
  F.ok S len fun cdv A outer s H vs Q E hr h => let ⟨t, a, b⟩ := hb cdv A outer s H vs Q E hr h; ⟨t, a.nox, b⟩
def Err.nm : Err → Str
  | .badHand => "BadHand"
  | .badName => "BadName"
  | .badField => "BadField"
  | .badCount => "BadCount"
  | .noRoom => "NoRoom"
  | .tooMany => "TooManyWords"
/-- where the class of a refusal stands -/
def eAd (K : PySem.W.Frag) (e : Err) : Addr := He.ga K e.nm
/-! ### values -/
/-- v stands for x -/
def VA (H : Hp) (v : V) : Val → Prop
  | .non => v = .non
  | .num i => ∃ a, v = .ref a ∧ H a = some (.tup [.str "number", .int i])
  | .thg t => ∃ a, v = .ref a ∧ H a = some (.tup [.str "thing", .int t])
/-- tuples stand -/
def Tups (H H' : Hp) : Prop := ∀ b xs, H b = some (.tup xs) → H' b = some (.tup xs)
theorem Tups.refl (H : Hp) : Tups H H := fun _ _ h => h
theorem Tups.trans {H H1 H2 : Hp} (a : Tups H H1) (b : Tups H1 H2) : Tups H H2 := fun c o h => b c o (a c o h)
theorem Tups.of {H H' : Hp} (s : Same H H') : Tups H H' := fun b xs h => s b _ h
theorem VA.mono {H H' : Hp} (k : Tups H H') : ∀ {v : V} {x : Val}, VA H v x → VA H' v x
  | _, .non, h => h
  | _, .num _, ⟨a, e, h⟩ => ⟨a, e, k a _ h⟩
  | _, .thg _, ⟨a, e, h⟩ => ⟨a, e, k a _ h⟩
structure VAs (H : Hp) (l : List V) (xs : List Val) : Prop where
  len : l.length = xs.length
  at_ : ∀ (i : Nat) (v : V) (x : Val), l[i]? = some v → xs[i]? = some x → VA H v x
theorem VAs.mono {H H' : Hp} (k : Tups H H') {l : List V} {xs : List Val} (h : VAs H l xs) : VAs H' l xs := ⟨h.len, fun i v x a b => (h.at_ i v x a b).mono k⟩
theorem VAs.get {H : Hp} {l : List V} {xs : List Val} (h : VAs H l xs) {i : Nat} (hi : i < xs.length) : ∃ v, l[i]? = some v ∧ VA H v xs[i] :=
  ⟨l[i]'(by rw [h.len]; exact hi), List.getElem?_eq_getElem _, h.at_ i _ _ (List.getElem?_eq_getElem _) (List.getElem?_eq_getElem _)⟩
theorem VAs.set {H : Hp} {l : List V} {xs : List Val} (h : VAs H l xs) {v : V} {x : Val} (hv : VA H v x) (i : Nat) : VAs H (l.set i v) (xs.set i x) := by
  refine ⟨by rw [List.length_set, List.length_set, h.len], fun j u y a b => ?_⟩
  by_cases e : i = j
  · subst e
    rw [List.getElem?_set] at a b
    by_cases q : i < l.length
    · rw [if_pos rfl, if_pos q] at a
      rw [if_pos rfl, if_pos (by rw [← h.len]; exact q)] at b
      cases a
      cases b
      exact hv
    · rw [if_pos rfl, if_neg q] at a
      cases a
  · rw [List.getElem?_set_ne e] at a b
    exact h.at_ j u y a b
def Val.kind : Val → Str
  | .non => "none"
  | .num _ => "number"
  | .thg _ => "thing"
def oV : Option Int → V
  | none => .non
  | some i => .int i
/-! ### tests -/
theorem ifd {c : Prop} [Decidable c] {A B : Prop} (h1 : c → A) (h2 : ¬ c → B) : if decide c = true then A else B := by
  by_cases h : c
  · rw [decide_eq_true h]
    exact iteT (h1 h)
  · rw [decide_eq_false h]
    exact iteF (h2 h)
theorem ifnd {c : Prop} [Decidable c] {A B : Prop} (h1 : ¬ c → A) (h2 : c → B) : if (!decide c) = true then A else B := by
  by_cases h : c
  · rw [decide_eq_true h]
    exact iteF (h2 h)
  · rw [decide_eq_false h]
    exact iteT (h1 h)
theorem upd_same_of_none {H : Hp} {a : Addr} {o : HO} (h : H a = none) : Same H (upd H a o) := fun b u e => by rw [upd_ne (ne_of_none e h)]; exact e
/-- a tuple is not at a place where another thing stands -/
theorem Tups.upd {H : Hp} {a : Addr} {o u : HO} (h : H a = some u) (hu : ∀ xs, u ≠ .tup xs) : Tups H (upd H a o) := fun b xs e => by
  rw [upd_ne fun z => by rw [z, h] at e; exact hu xs (Option.some.inj e)]
  exact e
section
variable {P : Program} {w : World} {K : PySem.W.Frag} {mg : Str → Option Value} {base : Heap}
theorem pe_gi {X : Cx} {x : Str} {i : Int} {pos : Pos} (hm : ∃ t, X.mg x = some (.int i t)) (hg : Gl X x := by rfl) (hd : (x == ("__debug__" : Str)) = false := by decide) : PE X (.Name x pos) (tC (.int i)) := by
  obtain ⟨t, e⟩ := hm
  exact pe_glob hg e ⟨t, rfl⟩ hd
theorem pe_gs {X : Cx} {x y : Str} {pos : Pos} (hm : ∃ t, X.mg x = some (.str y t)) (hg : Gl X x := by rfl) (hd : (x == ("__debug__" : Str)) = false := by decide) : PE X (.Name x pos) (tC (.str y)) := by
  obtain ⟨t, e⟩ := hm
  exact pe_glob hg e ⟨t, rfl⟩ hd
def spKind : Sp := fun vs H Q _ => ∃ v x, vs = [v] ∧ VA H v x ∧ Q (.str x.kind) H
theorem sc_kind_of : FnScope ["value"] ["value"] (defScope st_kind_of) := ⟨rfl, rfl, rfl, by decide +kernel, rfl, by decide +kernel, by decide +kernel⟩
theorem ok_kind_of (E : Txt K mg) : FnOk P w K mg base CX0 1 (fAd at_kind_of K) (fdOf at_kind_of K) ["value"] spKind := by
  refine FunD.ok0 E.fd_kind_of sc_kind_of (fun vs H Q E0 h => ?_) (fun cdv A outer s H vs Q E0 hr h => ?_)
  · obtain ⟨v, x, rfl, _⟩ := h
    rfl
  · obtain ⟨v, x, rfl, hv, q⟩ := h
    refine ⟨_, (pss_cons (ps_if (pt_cmpR op_isN (pv 0) pe_non (nomark _)) (pss_one (ps_ret pe_str)) pss_nil)
      (pss_one (ps_ret (pe_ix ix_tup (pv 0) pe_int (fun _ _ => rfl))))), ?_⟩
    cases x with
    | non =>
      obtain rfl : v = .non := hv
      exact ⟨_, rfl, rfl, _, rfl, q⟩
    | num i =>
      obtain ⟨a, rfl, ha⟩ := hv
      exact ⟨_, rfl, rfl, _, rfl, _, rfl, a, _, _, _, rfl, rfl, SqT.of ha, rfl, q⟩
    | thg i =>
      obtain ⟨a, rfl, ha⟩ := hv
      exact ⟨_, rfl, rfl, _, rfl, _, rfl, a, _, _, _, rfl, rfl, SqT.of ha, rfl, q⟩
def spHand (K : PySem.W.Frag) : Sp := fun vs H Q E => ∃ i : Int, vs = [.int i] ∧ ((0 ≤ i ∧ i < 8) → Q .non H) ∧ (¬ (0 ≤ i ∧ i < 8) → E (.ref (eAd K .badHand)) none H)
theorem sc_look_at_hand : FnScope ["h"] ["h"] (defScope st_look_at_hand) := ⟨rfl, rfl, rfl, by decide +kernel, rfl, by decide +kernel, by decide +kernel⟩
theorem ok_look_at_hand (E : Txt K mg) : FnOk P w K mg base (L2.CX P w) 1 (fAd at_look_at_hand K) (fdOf at_look_at_hand K) ["h"] (spHand K) := by
  refine FunD.ok E.fd_look_at_hand sc_look_at_hand (fun vs H Q E0 h => ?_) (fun cdv A outer s H vs Q E0 hr h => ?_)
  · obtain ⟨v, rfl, _⟩ := h
    rfl
  · obtain ⟨i, rfl, q1, q2⟩ := h
    refine ⟨_, (pss_one (ps_if (PW.pt (pw_or (pt_cmpR op_lt (pv 0) pe_int (nomark _)) (pw_or1 (pt_cmpR op_ge (pv 0) (pe_gi E.i_HANDS) (nomark _))))) (pss_one (ps_raise rfl (takes_of rfl rfl rfl rfl) (pmk_own PySem.F.excBase_ValueError E.x_BadHand.1 E.g_BadHand E.x_BadHand.2.1 (raises_own E.x_BadHand.2.2.1 E.x_BadHand.2.2.2) rfl))) pss_nil)), ?_⟩
    refine ⟨_, rfl, _, _, rfl, rfl, _, rfl, ifd (fun c => iteT (q2 (by omega))) fun c => ⟨_, rfl, _, _, rfl, rfl, _, rfl, ifd (fun d => q2 (by omega)) fun d => q1 (by omega)⟩⟩
def spNm (K : PySem.W.Frag) : Sp := fun vs H Q E => ∃ i : Int, vs = [.int i] ∧ ((0 ≤ i ∧ i < 8) → Q .non H) ∧ (¬ (0 ≤ i ∧ i < 8) → E (.ref (eAd K .badName)) none H)
theorem sc_look_at_name : FnScope ["w"] ["w"] (defScope st_look_at_name) := ⟨rfl, rfl, rfl, by decide +kernel, rfl, by decide +kernel, by decide +kernel⟩
theorem ok_look_at_name (E : Txt K mg) : FnOk P w K mg base (L2.CX P w) 1 (fAd at_look_at_name K) (fdOf at_look_at_name K) ["w"] (spNm K) := by
  refine FunD.ok E.fd_look_at_name sc_look_at_name (fun vs H Q E0 h => ?_) (fun cdv A outer s H vs Q E0 hr h => ?_)
  · obtain ⟨v, rfl, _⟩ := h
    rfl
  · obtain ⟨i, rfl, q1, q2⟩ := h
    refine ⟨_, (pss_one (ps_if (PW.pt (pw_or (pt_cmpR op_lt (pv 0) pe_int (nomark _)) (pw_or1 (pt_cmpR op_ge (pv 0) (pe_gi E.i_NAMES) (nomark _))))) (pss_one (ps_raise rfl (takes_of rfl rfl rfl rfl) (pmk_own PySem.F.excBase_ValueError E.x_BadName.1 E.g_BadName E.x_BadName.2.1 (raises_own E.x_BadName.2.2.1 E.x_BadName.2.2.2) rfl))) pss_nil)), ?_⟩
    refine ⟨_, rfl, _, _, rfl, rfl, _, rfl, ifd (fun c => iteT (q2 (by omega))) fun c => ⟨_, rfl, _, _, rfl, rfl, _, rfl, ifd (fun d => q2 (by omega)) fun d => q1 (by omega)⟩⟩
def spWords (K : PySem.W.Frag) : Sp := fun vs H Q E => ∃ n : Int, vs = [.int n] ∧ ((0 ≤ n ∧ n ≤ 6) → Q (.int (n + 1)) H) ∧ (¬ (0 ≤ n ∧ n ≤ 6) → E (.ref (eAd K .badCount)) none H)
theorem sc_words_of : FnScope ["fields"] ["fields"] (defScope st_words_of) := ⟨rfl, rfl, rfl, by decide +kernel, rfl, by decide +kernel, by decide +kernel⟩
theorem ok_words_of (E : Txt K mg) : FnOk P w K mg base (L2.CX P w) 1 (fAd at_words_of K) (fdOf at_words_of K) ["fields"] (spWords K) := by
  refine FunD.ok E.fd_words_of sc_words_of (fun vs H Q E0 h => ?_) (fun cdv A outer s H vs Q E0 hr h => ?_)
  · obtain ⟨v, rfl, _⟩ := h
    rfl
  · obtain ⟨i, rfl, q1, q2⟩ := h
    refine ⟨_, (pss_cons (ps_if (PW.pt (pw_or (pt_cmpR op_lt (pv 0) pe_int (nomark _)) (pw_or1 (pt_cmpR op_gt (pv 0) (pe_gi E.i_MOST_FIELDS) (nomark _))))) (pss_one (ps_raise rfl (takes_of rfl rfl rfl rfl) (pmk_own PySem.F.excBase_ValueError E.x_BadCount.1 E.g_BadCount E.x_BadCount.2.1 (raises_own E.x_BadCount.2.2.1 E.x_BadCount.2.2.2) rfl))) pss_nil)
      (pss_one (ps_ret (pe_op op_add (pv 0) pe_int)))), ?_⟩
    refine ⟨_, rfl, _, _, rfl, rfl, _, rfl, ifd (fun c => iteT (q2 (by omega))) fun c => ⟨_, rfl, _, _, rfl, rfl, _, rfl, ifd (fun d => q2 (by omega)) fun d => ⟨_, rfl, _, _, rfl, rfl, q1 (by omega)⟩⟩⟩
def spLimits : Sp := fun vs H Q _ => ∃ y l : Int, vs = [.int y, .int l] ∧ (y = 0 ∨ (7 ≤ y ∧ y ≤ 64)) ∧ 7 ≤ l ∧ l ≤ 400 ∧ Q .non H
theorem sc_look_at_limits : FnScope ["young", "limit"] ["young", "limit"] (defScope st_look_at_limits) := ⟨rfl, rfl, rfl, by decide +kernel, rfl, by decide +kernel, by decide +kernel⟩
theorem ok_look_at_limits (E : Txt K mg) : FnOk P w K mg base (L2.CX P w) 1 (fAd at_look_at_limits K) (fdOf at_look_at_limits K) ["young", "limit"] spLimits := by
  refine FunD.ok E.fd_look_at_limits sc_look_at_limits (fun vs H Q E0 h => ?_) (fun cdv A outer s H vs Q E0 hr h => ?_)
  · obtain ⟨y, l, rfl, _⟩ := h
    rfl
  · obtain ⟨y, l, rfl, hy, hl, hl2, q⟩ := h
    refine ⟨_, (pss_cons (ps_if (PW.pt (pw_and (pt_cmpR op_ne (pv 0) pe_int (nomark _)) (pw_and1 (PW.pt (pw_or (pt_cmpR op_lt (pv 0) (pe_gi E.i_LEAST_ROOM) (nomark _)) (pw_or1 (pt_cmpR op_gt (pv 0) (pe_gi E.i_MOST_YOUNG) (nomark _)))))))) (pss_one (ps_raise rfl (takes_of rfl rfl rfl rfl) (pmk_own PySem.F.excBase_ValueError E.x_BadCount.1 E.g_BadCount E.x_BadCount.2.1 (raises_own E.x_BadCount.2.2.1 E.x_BadCount.2.2.2) rfl))) pss_nil)
      (pss_one (ps_if (PW.pt (pw_or (pt_cmpR op_lt (pv 1) (pe_gi E.i_LEAST_ROOM) (nomark _)) (pw_or1 (pt_cmpR op_gt (pv 1) (pe_gi E.i_MOST_LIMIT) (nomark _))))) (pss_one (ps_raise rfl (takes_of rfl rfl rfl rfl) (pmk_own PySem.F.excBase_ValueError E.x_BadCount.1 E.g_BadCount E.x_BadCount.2.1 (raises_own E.x_BadCount.2.2.1 E.x_BadCount.2.2.2) rfl))) pss_nil))), ?_⟩
    refine ⟨_, rfl, rfl, _, rfl, ifnd (fun c => ⟨_, rfl, _, _, rfl, rfl, _, rfl, ifd (fun d => ?_) fun d => ⟨_, rfl, _, _, rfl, rfl, _, rfl, ifd (fun e => ?_) fun e => ?_⟩⟩) fun c => iteF ?_⟩
    · have : ¬ y = 0 := fun z => c (by rw [z])
      omega
    · have : ¬ y = 0 := fun z => c (by rw [z])
      omega
    · exact ⟨_, rfl, _, _, rfl, rfl, _, rfl, ifd (fun d => by omega) fun d => ⟨_, rfl, _, _, rfl, rfl, _, rfl, ifd (fun e => by omega) fun e => q⟩⟩
    · exact ⟨_, rfl, _, _, rfl, rfl, _, rfl, ifd (fun d => by omega) fun d => ⟨_, rfl, _, _, rfl, rfl, _, rfl, ifd (fun e => by omega) fun e => q⟩⟩
def spNumV (K : PySem.W.Frag) : Sp := fun vs H Q E => ∃ x : Int, vs = [.int x] ∧ (numOk x = true → ∀ p, H p = none → Q (.ref p) (upd H p (.tup [.str "number", .int x]))) ∧ (numOk x = false → E (.ref (eAd K .badCount)) none H)
theorem sc_number_value : FnScope ["x"] ["x"] (defScope st_number_value) := ⟨rfl, rfl, rfl, by decide +kernel, rfl, by decide +kernel, by decide +kernel⟩
theorem ok_number_value (E : Txt K mg) : FnOk P w K mg base (L2.CX P w) 1 (fAd at_number_value K) (fdOf at_number_value K) ["x"] (spNumV K) := by
  refine FunD.ok E.fd_number_value sc_number_value (fun vs H Q E0 h => ?_) (fun cdv A outer s H vs Q E0 hr h => ?_)
  · obtain ⟨v, rfl, _⟩ := h
    rfl
  · obtain ⟨x, rfl, q1, q2⟩ := h
    refine ⟨_, (pss_cons (ps_if (PW.pt (pw_or (pt_cmpR op_lt (pv 0) (pe_un un_neg (pe_gi E.i_FAR)) (nomark _)) (pw_or1 (pt_cmpR op_gt (pv 0) (pe_gi E.i_FAR) (nomark _))))) (pss_one (ps_raise rfl (takes_of rfl rfl rfl rfl) (pmk_own PySem.F.excBase_ValueError E.x_BadCount.1 E.g_BadCount E.x_BadCount.2.1 (raises_own E.x_BadCount.2.2.1 E.x_BadCount.2.2.2) rfl))) pss_nil)
      (pss_one (ps_ret (pe_tup (pa_cons pe_str (pa_cons (pv 0) pa_nil)))))), ?_⟩
    have e1 : (-(1000000000000000000000000000000000000000000000000000000000000 : Int)) = -far := rfl
    have e2 : (1000000000000000000000000000000000000000000000000000000000000 : Int) = far := rfl
    refine ⟨_, rfl, _, rfl, _, _, rfl, rfl, _, rfl, ifd (fun c => iteT (q2 ?_)) fun c => ⟨_, rfl, _, _, rfl, rfl, _, rfl, ifd (fun d => q2 ?_) fun d => ⟨_, rfl, (by show 2 ≤ sizeLine; decide), q1 ?_⟩⟩⟩
    · exact decide_eq_false fun z => absurd z.1 (Int.not_le.mpr c)
    · exact decide_eq_false fun z => absurd z.2 (Int.not_le.mpr d)
    · exact decide_eq_true ⟨Int.not_lt.mp c, Int.not_lt.mp d⟩
def spThgV : Sp := fun vs H Q _ => ∃ t : Int, vs = [.int t] ∧ ∀ p, H p = none → Q (.ref p) (upd H p (.tup [.str "thing", .int t]))
theorem sc_thing_value : FnScope ["t"] ["t"] (defScope st_thing_value) := ⟨rfl, rfl, rfl, by decide +kernel, rfl, by decide +kernel, by decide +kernel⟩
theorem ok_thing_value (E : Txt K mg) : FnOk P w K mg base CX0 1 (fAd at_thing_value K) (fdOf at_thing_value K) ["t"] spThgV := by
  refine FunD.ok0 E.fd_thing_value sc_thing_value (fun vs H Q E0 h => ?_) (fun cdv A outer s H vs Q E0 hr h => ?_)
  · obtain ⟨v, rfl, _⟩ := h
    rfl
  · obtain ⟨x, rfl, q1⟩ := h
    refine ⟨_, (pss_one (ps_ret (pe_tup (pa_cons pe_str (pa_cons (pv 0) pa_nil))))), ?_⟩
    exact ⟨_, rfl, (by show 2 ≤ sizeLine; decide), q1⟩
def spThingOf : Sp := fun vs H Q _ => ∃ v x, vs = [v] ∧ VA H v x ∧ Q (oV x.thing) H
theorem sc_thing_of : FnScope ["value"] ["value"] (defScope st_thing_of) := ⟨rfl, rfl, rfl, by decide +kernel, rfl, by decide +kernel, by decide +kernel⟩
theorem ok_thing_of (E : Txt K mg) : FnOk P w K mg base CX0 2 (fAd at_thing_of K) (fdOf at_thing_of K) ["value"] spThingOf := by
  refine FunD.ok0 E.fd_thing_of sc_thing_of (fun vs H Q E0 h => ?_) (fun cdv A outer s H vs Q E0 hr h => ?_)
  · obtain ⟨v, x, rfl, _⟩ := h
    rfl
  · obtain ⟨v, x, rfl, hv, q⟩ := h
    refine ⟨_, (pss_cons (ps_if (pt_cmpR op_eq (pe_call (ok_kind_of E) (hr.mono (by decide)) (by rfl) E.g_kind_of E.fd_kind_of.kp E.b_kind_of .nil pass0 (pa_cons (pv 0) pa_nil)) pe_str (nomark _)) (pss_one (ps_ret (pe_ix ix_tup (pv 0) pe_int (fun _ _ => rfl)))) pss_nil)
      (pss_one (ps_ret pe_non))), ?_⟩
    refine ⟨_, rfl, v, x, rfl, hv, rfl, _, rfl, ?_⟩
    cases x with
    | non => exact q
    | num i => exact q
    | thg i =>
      obtain ⟨a, rfl, ha⟩ := hv
      exact ⟨_, rfl, a, _, _, _, rfl, rfl, SqT.of ha, rfl, q⟩
/-! ### a dict of seen things -/
def seenK (ts : List Int) : List (Key × V) := ts.map fun t => (Sum.inl t, V.bl true)
theorem seen_val (ts : List Int) (t : Int) : valV (seenK ts) (Sum.inl t) = if t ∈ ts then some (V.bl true) else none := by
  induction ts with
  | nil => rfl
  | cons a r ih =>
    show valV ((Sum.inl a, V.bl true) :: seenK r) (Sum.inl t) = _
    by_cases e : a = t
    · rw [valV_pos (by simpa using e), if_pos (by simp [e])]
    · rw [valV_neg (by simpa using e), ih]
      have : (t ∈ a :: r) = (t ∈ r) := by simp [List.mem_cons, Ne.symm e, show ¬ t = a from fun z => e z.symm]
      simp only [this]
def addS (ts : List Int) (t : Int) : List Int := if t ∈ ts then ts else ts ++ [t]
theorem seen_put (ts : List Int) (t : Int) : putK (seenK ts) (Sum.inl t) (V.bl true) = seenK (addS ts t) := by
  unfold addS
  by_cases h : t ∈ ts
  · rw [if_pos h]
    unfold putK
    have ha : ((seenK ts).any fun kv => decide (kv.1 = (Sum.inl t : Key))) = true := List.any_eq_true.mpr ⟨(Sum.inl t, V.bl true), List.mem_map.mpr ⟨t, h, rfl⟩, decide_eq_true rfl⟩
    rw [if_pos ha]
    unfold seenK
    rw [List.map_map]
    refine List.map_congr_left fun a _ => ?_
    show (if (Sum.inl a : Key) = Sum.inl t then (((Sum.inl a : Key), V.bl true) : Key × V) else (Sum.inl a, V.bl true)) = _
    split <;> rfl
  · rw [if_neg h, putK_new _ (by rw [seen_val, if_neg h])]
    simp [seenK]
theorem addS_nodup {ts : List Int} {t : Int} (h : ts.Nodup) : (addS ts t).Nodup := by
  unfold addS
  by_cases e : t ∈ ts
  · rw [if_pos e]
    exact h
  · rw [if_neg e]
    exact nd_snoc h e
theorem addS_mem {ts : List Int} {t x : Int} : x ∈ addS ts t ↔ x ∈ ts ∨ x = t := by
  unfold addS
  by_cases e : t ∈ ts
  · rw [if_pos e]
    exact ⟨fun h => Or.inl h, fun h => h.elim id fun q => q ▸ e⟩
  · rw [if_neg e]
    simp
theorem addS_len {ts : List Int} {t : Int} : (addS ts t).length ≤ ts.length + 1 := by
  unfold addS
  split <;> simp
theorem line1000 {n : Nat} (h : n ≤ 100000) : n < sizeLine := Nat.lt_of_le_of_lt h (by decide)
/-- the things among values: each once; what stood stands -/
def spThingsOf (K : PySem.W.Frag) : Sp := fun vs H Q _ => ∃ (a : Addr) (l : List V) (xs : List Val), vs = [.ref a] ∧ SqL K H a l ∧ VAs H l xs ∧ xs.length ≤ 1000 ∧
  ∀ (ts : List Int) (H' : Hp) (p : Addr), Same H H' → H p = none → H' p = some (.lst (ts.map V.int)) → (∀ t, t ∈ ts ↔ Val.thg t ∈ xs) → ts.Nodup → ts.length ≤ xs.length → Q (.ref p) H'
theorem sc_things_of : FnScope ["values", "found", "value", "thing"] ["values"] (defScope st_things_of) := ⟨rfl, rfl, rfl, by decide +kernel, rfl, by decide +kernel, by decide +kernel⟩
theorem ok_things_of (E : Txt K mg) : FnOk P w K mg base CX0 3 (fAd at_things_of K) (fdOf at_things_of K) ["values"] (spThingsOf K) := by
  refine FunD.ok0 E.fd_things_of sc_things_of (fun vs H Q E0 h => ?_) (fun cdv A outer s H vs Q E0 hr h => ?_)
  · obtain ⟨v, x, xs, rfl, _⟩ := h
    rfl
  · obtain ⟨a, l, xs, rfl, hl, hv, hx, q⟩ := h
    refine ⟨_, (pss_cons (ps_set (i := 1) sc_things_of.nd rfl (Or.inl rfl) pe_dnewK)
      (pss_cons (ps_for PassesOwn.never rfl (pi_list (pv 0)) (pg_name (i := 2) sc_things_of.nd rfl (Or.inl rfl)) (pss_cons (ps_set (i := 3) sc_things_of.nd rfl (Or.inl rfl) (pe_call (ok_thing_of E) (hr.mono (by decide)) (by rfl) E.g_thing_of E.fd_thing_of.kp E.b_thing_of .nil pass0 (pa_cons (pv 2) pa_nil)))
      (pss_one (ps_if (pt_cmpR op_notN (pv 3) pe_non (nomark _)) (pss_one (ps_dput (hu_of hr) (pv 1) (pv 3) pe_bl rfl)) pss_nil))))
      (pss_one (ps_ret (pe_callTy (call_list_dK rfl) (by rfl) E.f_list (by decide +kernel) (pa_cons (pv 1) pa_nil)))))), ?_⟩
    intro d hd
    refine ⟨_, rfl, a, rfl, ⟨_, (upd_same_of_none hd).seq hl⟩, for_it (walk_list (xs := l)) (fun i σ H1 => ∃ (ts : List Int) (u1 u2 : Option V), σ = [some (.ref a), some (.ref d), u1, u2] ∧ Same H H1 ∧ H1 d = some (.dK (seenK ts)) ∧ ts.Nodup ∧ (∀ t, t ∈ ts ↔ Val.thg t ∈ xs.take i) ∧ ts.length ≤ i)
      ⟨[], none, none, rfl, upd_same_of_none hd, upd_same, List.nodup_nil, fun t => by simp, Nat.le_refl _⟩ (fun i σ H1 _ ⟨_, _, _, _, s, _⟩ => s.seq hl) ?_ ?_⟩
    · rintro i v σ H1 H2 hi ⟨ts, u1, u2, rfl, s, hd1, nd, hm, hlen⟩ ⟨rfl, hv1⟩
      have hi2 : i < xs.length := by rw [← hv.len]; exact hi
      have va := hv.at_ i v xs[i] hv1 (List.getElem?_eq_getElem _)
      have e1 : xs.take (i + 1) = xs.take i ++ [xs[i]] := by rw [List.take_succ, List.getElem?_eq_getElem hi2]; rfl
      refine ⟨_, rfl, v, xs[i], rfl, va.mono (Tups.of s), ?_⟩
      cases ex : xs[i].thing with
      | none =>
        refine ⟨_, rfl, rfl, _, rfl, ts, some v, some .non, rfl, s, hd1, nd, fun t => ?_, by omega⟩
        rw [e1, hm t]
        have ne : ¬ Val.thg t = xs[i] := fun z => by rw [← z] at ex; cases ex
        rw [List.mem_append, List.mem_singleton]
        exact ⟨Or.inl, fun h => h.elim id fun z => absurd z ne⟩
      | some k =>
        have ek : xs[i] = Val.thg k := by
          cases h : xs[i] with
          | thg j => rw [h] at ex; cases ex; rfl
          | non => rw [h] at ex; cases ex
          | num j => rw [h] at ex; cases ex
        refine ⟨_, rfl, rfl, _, rfl, _, rfl, _, rfl, d, _, rfl, DPut.k (k := Sum.inl k) hd1 ?_, ?_⟩
        · exact line1000 (by unfold seenK; rw [List.length_map]; omega)
        refine ⟨addS ts k, some v, some (.int k), rfl, fun b o e => ?_, by rw [upd_same, seen_put], addS_nodup nd, fun t => ?_, by have := addS_len (ts := ts) (t := k); omega⟩
        · rw [upd_ne (ne_of_none e hd)]
          exact s b o e
        · rw [addS_mem, hm t, e1, ek]
          simp
    · rintro σ H1 ⟨ts, u1, u2, rfl, s, hd1, nd, hm, hlen⟩
      refine ⟨_, rfl, d, seenK ts, rfl, hd1, fun p hp => ?_⟩
      refine q ts _ p (s.trans (upd_same_of_none hp)) (s.free hp) ?_ (fun t => ?_) nd (by rw [← hv.len]; exact hlen)
      · rw [upd_same]
        unfold seenK
        rw [List.map_map]
        rfl
      · rw [hm t, hv.len, List.take_length]
end
end Sh
end

section
set_option Elab.async false
set_option linter.all false
set_option maxRecDepth 100000
set_option maxHeartbeats 4000000
/-! Rules of our own over the hand layer. -/
namespace Sh
open PySem PySem.Spec PyProof.Rows L2
/-! ### a method's call within a try -/
def tMethS (C : Addr) (m : Str) (sp : Sp) (E : L2.St → XK) (ta : TE) (t : TA) : TE := fun σ H Q => ta σ H fun x H1 => ∃ a dx fs, x = .ref a ∧ H1 a = some (.ins C dx fs) ∧ fs.lookup m = none ∧ t σ H1 fun vs H2 => sp (x :: vs) H2 Q (E σ)
section
variable {X : Cx}
theorem pe_methT {CX : CXT} {k : Nat} {f C : Addr} {fd : FuncData} {ps : List Str} {sp : Sp} {E : L2.St → XK} {m : Str} {pos apos : Pos} {e o : Expr} {es : List Expr} {ta : TE} {t : TA} {pl : Sem Bool}
    (he : PE X o ta) (c : Cls X.K C) (hm : Meth X.K C m f) (F : FnOk X.prog X.w X.K X.mg X.base CX k f fd ps sp) (hr : Room k X.A) (hb : Binds X.K fd ps []) (hx : ∀ σ, PassesAt CX X σ (E σ)) (ha : PA X (e :: es) t)
    (hst : starEach (e :: es) X.env = (false, eval e X.env) :: starEach es X.env := by rfl) (hpl : (backTo pos (starEach es X.env)).any (·.1) = false := by rfl)
    (ht : eval (.Call (.Attribute o m apos) (e :: es) [] pos) X.env = (do
      let ov ← eval o X.env
      standAt apos.atName
      let (f, first) ← holding [ov] (getMethod ov m pl)
      callWith pos f first (backTo pos (starEach (e :: es) X.env)) (backToKw pos (keywordEach [] X.env))) := by rfl) :
    PE X (.Call (.Attribute o m apos) (e :: es) [] pos) (tMethS C m sp E ta t) := by
  refine ⟨fun pins s σ H Q I h => PySem.W.methodCall_KW (pl := pl) (thn (he.run pins s σ H _ I h) fun u s1 ⟨x, H1, I1, rx, a, dx, fs, ex, ea, l, q⟩ => ?_) ht⟩
  subst ex
  obtain rfl : u = Value.ref a := rx
  refine getmeth_ok I1 ea c hm l (PySem.W.callWith_K (first := [.ref a]) (h₀ := X.base) I.ok.mod.kin hm.kp (thn (ha.run pos pins s1 σ H1 _ I1 q) fun us s2 ⟨vs, H2, I2, r, q2⟩ => ⟨I2.kIn, ?_⟩) hst hpl)
  exact run_fnS (us := .ref a :: us) (vs := .ref a :: vs) F hr hb (hx σ) I2 (.cons rfl r) q2
end
/-! ### e.called() in an except suite -/
def errs : List Err := [.badHand, .badName, .badField, .badCount, .noRoom, .tooMany]
/-- a def that hands back a written text, called with anything handled -/
theorem run_const {P : Program} {w : World} {K : PySem.W.Frag} {mg : Str → Option Value} {base : Heap} {x qual : Str} {params : Arguments} {scope : Scope} {f : Addr} {fd : FuncData} {z : Str} {j : Nat} {p1 p2 : Pos} {ps N : List Str}
    (F : FunD K x qual params [.Return (some (.Constant (.str z) j p1)) p2] scope [] [] f fd) (S : FnScope N ps scope) (B : Binds K fd ps []) {A : Around} {outer : List Env} {s : Shared} {H : Hp} {us : List Value} {vs : List V} {Q : VK} {Xe : Value → Shared → Prop}
    (hd : A.depth < recursionLimit) (e0 : Env0 P w K mg base A outer s H) (hl : us.length = ps.length) (q : Q (.str z) H) :
    wpAny (model P w) A (call (.ref f) us) (CE outer P w H s Q) Xe s := by
  obtain ⟨oc, od, dV, kV, doc, pm, an, cdv, ct, osl, rfl, lk, hcd, _, _⟩ := F.ex
  have KX : K.In s.heap := e0.mod.kin.keeps fun b o e => (e0.bs b o e).1
  have lim : s.heap.NoLimit := e0.mod.nolimit.keeps fun b o e => (e0.bs b o e).1
  have b := B s us KX (by rw [List.append_nil]; exact hl)
  rw [List.append_nil] at b
  have hkind : ∀ y ∈ ps.zip us, scope.names.lookup y.1 = some .local ∨ (scope.names.lookup y.1 = some .cell ∧ ((cellsFrom (s.heap.objs.size + 1) scope.names []).lookup y.1).isSome = true) := fun ⟨n, v⟩ hy => by
    rcases S.par n (List.of_mem_zip hy).1 with q | q
    · exact .inl q
    · exact .inr ⟨q, PySem.W.cellsFrom_some _ _ _ (.inl q)⟩
  refine wpAny_call (codeAny_call_function hd (KX _ _ lk) rfl S.co S.gen rfl (PySem.W.codeRec_of KX hcd) (b _ _ _ _ (wpAny_newFunctionEnv_cells S.kind hkind fun env he s1 x => ?_)))
  subst he
  obtain ⟨h1, tk, rfl, hk⟩ := x.done
  refine ⟨lim.keeps x.toInCall.keep, codeAny_func (wpAny_execs_cons (wpAny_Return_some (Calls.Constant_str ?_)))⟩
  exact ⟨.str z, H, rfl, e0.bare, Un.kept hk, e0.hok.kept hk, ⟨_, rfl⟩, q⟩
structure CalledOk (K : PySem.W.Frag) (C : Addr) (z : Str) : Prop where
  ex : ∃ (f : Addr) (fd : FuncData) (qual : Str) (params : Arguments) (scope : Scope) (j : Nat) (p1 p2 : Pos) (N : List Str), Meth K C "called" f ∧ FunD K "called" qual params [.Return (some (.Constant (.str z) j p1)) p2] scope [] [] f fd ∧ FnScope N ["self"] scope ∧ Binds K fd ["self"] []
  xf : XfC K C
theorem xf_of {K : PySem.W.Frag} (h : ex K = true) {x : Str} (hx : x ∈ excs) : XfC K (He.ga K x) := xfB_ok (List.all_eq_true.mp h x hx)
theorem called_ok {K : PySem.W.Frag} {mg : Str → Option Value} (E : Txt K mg) : ∀ e : Err, CalledOk K (eAd K e) e.nm
  | .badHand => ⟨⟨_, _, _, _, _, _, _, _, ["self"], E.m_BadHand_called, E.fd_BadHand_called, ⟨rfl, rfl, rfl, by decide +kernel, rfl, by decide +kernel, by decide +kernel⟩, E.b_BadHand_called⟩, xf_of E.x (by decide +kernel)⟩
  | .badName => ⟨⟨_, _, _, _, _, _, _, _, ["self"], E.m_BadName_called, E.fd_BadName_called, ⟨rfl, rfl, rfl, by decide +kernel, rfl, by decide +kernel, by decide +kernel⟩, E.b_BadName_called⟩, xf_of E.x (by decide +kernel)⟩
  | .badField => ⟨⟨_, _, _, _, _, _, _, _, ["self"], E.m_BadField_called, E.fd_BadField_called, ⟨rfl, rfl, rfl, by decide +kernel, rfl, by decide +kernel, by decide +kernel⟩, E.b_BadField_called⟩, xf_of E.x (by decide +kernel)⟩
  | .badCount => ⟨⟨_, _, _, _, _, _, _, _, ["self"], E.m_BadCount_called, E.fd_BadCount_called, ⟨rfl, rfl, rfl, by decide +kernel, rfl, by decide +kernel, by decide +kernel⟩, E.b_BadCount_called⟩, xf_of E.x (by decide +kernel)⟩
  | .noRoom => ⟨⟨_, _, _, _, _, _, _, _, ["self"], E.m_NoRoom_called, E.fd_NoRoom_called, ⟨rfl, rfl, rfl, by decide +kernel, rfl, by decide +kernel, by decide +kernel⟩, E.b_NoRoom_called⟩, xf_of E.x (by decide +kernel)⟩
  | .tooMany => ⟨⟨_, _, _, _, _, _, _, _, ["self"], E.m_TooManyWords_called, E.fd_TooManyWords_called, ⟨rfl, rfl, rfl, by decide +kernel, rfl, by decide +kernel, by decide +kernel⟩, E.b_TooManyWords_called⟩, xf_of E.x (by decide +kernel)⟩
/-- a the caught exception, cls its class, d its dict -/
def tCalled (K : PySem.W.Frag) (a : Addr) (cls : Value) (d : Option Addr) (te : TE) : TE := fun σ H Q => te σ H fun x H1 => x = .ref a ∧ d = none ∧ ∃ e : Err, cls = .ref (eAd K e) ∧ Q (.str e.nm) H1
theorem pe_called {X : Cx} {a : Addr} {oe : Obj} {cls : Value} {d : Option Addr} {pn : List (Addr × Obj)} {e : Expr} {te : TE} {pos apos : Pos} {pl : Sem Bool} (E : Txt X.K X.mg) (hr : Room 1 X.A) (hz : Zc cls d oe) (hf : ∃ vs, oe.data = .fields vs) (he : PE (X.suite a ((a, oe) :: pn)) e te)
    (ht : eval (.Call (.Attribute e "called" apos) [] [] pos) X.env = (do
      let ov ← eval e X.env
      standAt apos.atName
      let (f, first) ← holding [ov] (getMethod ov "called" pl)
      callWith pos f first (backTo pos (starEach [] X.env)) (backToKw pos (keywordEach [] X.env))) := by rfl) :
    PE (X.suite a ((a, oe) :: pn)) (.Call (.Attribute e "called" apos) [] [] pos) (tCalled X.K a cls d te) := by
  refine ⟨fun pins s σ H Q I h => PySem.W.methodCall_KW (pl := pl) (thn (he.run pins s σ H _ I h) fun u s1 ⟨x, H1, I1, rx, ex, ed, er, ec, q⟩ => ?_) ht⟩
  subst ex ed ec
  obtain rfl : u = Value.ref a := rx
  obtain ⟨⟨f, fd, qual, params, scope, j, p1, p2, N, hm, F, S, B⟩, xf⟩ := called_ok E er
  obtain ⟨ha, _⟩ := I1.pin (a, oe) (List.mem_append_left _ List.mem_cons_self)
  obtain ⟨vs, hd⟩ := hf
  obtain ⟨m, fr⟩ := I1.fr
  have J : PySem.W.InstAt s1.heap a oe (eAd X.K er) none := ⟨ha, hz.1, by unfold PySem.W.notCls; rw [hd] <;> rfl, by rw [hz.2]; trivial⟩
  refine PySem.W.method_exc0 fr I1.ok.mod.kin J xf.ga xf.gg hm.at_ hm.fn ?_
  refine PySem.W.callWith_K0 (first := [.ref a]) I1.kIn hm.kp ?_
  refine thn (run_const (us := [.ref a]) (vs := [.ref a]) (Q := Q) F S B (by have := hr.dp; show X.A.depth < _; omega) I1.env0 rfl q) fun u s2 hc => I1.after hc
/-! ### enumerate over a tuple, over a text -/
/-! ### a dict that is made where it is walked -/
def tThenLock (td : TE) : TE := fun σ H Q => td σ H fun x H1 => ∃ d u, x = .ref d ∧ H1 d = some u ∧ Mut (some u) ∧ ∀ od, Q x (upd H1 d (.frz od u))
theorem pe_thenLock {X : Cx} {e : Expr} {td : TE} (he : PE X e td) : PE X e (tThenLock td) := by
  refine ⟨fun pins s σ H Q I h => thn (he.run pins s σ H _ I h) fun v s1 ⟨x, H1, I1, rx, d, u, ex, hd, mu, q⟩ => ?_⟩
  obtain ⟨od, I2⟩ := I1.lock hd mu
  exact ⟨x, _, I2, rx, q od⟩
end Sh
end

section
set_option Elab.async false
set_option linter.all false
set_option maxRecDepth 100000
set_option maxHeartbeats 4000000
/-! enumerate over a tuple and over a text. -/
namespace Sh
open PySem PySem.Spec PyProof.Rows L2
/-- enumerate(v), whatever v begins as -/
theorem meets_enum1 {v : Value} {o : Obj} {Hh : Heap → Prop} (B : Begins v o Hh) :
    Meets (Builtin.«enumerate.__new__» ⟨[.type "enumerate", v], []⟩) (fun _ R s => Hh s.heap ∧
      R (.ok (.ret (.ref (s.heap.push o).objs.size))) { s with heap := (s.heap.push o).push { cls := .type "enumerate", data := .fields #[.none, .bool false, .ref s.heap.objs.size, rawInt 0, .none, .none] } }) :=
  .of_wp fun prog w A R s h => by
    obtain ⟨hp, g, d, tk, os⟩ := s
    obtain ⟨h1, h⟩ := h
    have hsub := sub_enumerate
    have q1 : ∀ {A' : Around} {E : Value → Shared → Prop} {Q : Value → Shared → Prop}, Q (.ref hp.objs.size) ⟨hp.push o, g, d, tk, os⟩ → wpAny (model prog w) A' (pyIter v) Q E ⟨hp, g, d, tk, os⟩ :=
      fun q => B.iter prog w _ _ ⟨hp, g, d, tk, os⟩ _ h1 q
    wp_walk using q1
    refine wpAny_stack_any fun st => wpAny_pure ?_
    split
    · rename_i c _ _ _ _ _
      cases (c == Value.type "enumerate") <;> (wp_walk using q1; exact ⟨_, rfl, h⟩)
    · wp_walk using q1
      exact ⟨_, rfl, h⟩
theorem call_enum1 {prog : Program} {w : World} {A : Around} {E : Value → Shared → Prop} {s : Shared} {v : Value} {o : Obj} {Hh : Heap → Prop} {Q : Value → Shared → Prop} (B : Begins v o Hh) (h1 : Hh s.heap)
    (h : ∀ h', IsEnum h' (s.heap.objs.size + 1) s.heap.objs.size 0 .none → h'.get? s.heap.objs.size = some o → (∀ b u, s.heap.get? b = some u → h'.get? b = some u) → Q (.ref (s.heap.objs.size + 1)) { s with heap := h' }) :
    wpAny (model prog w) A (call (.type "enumerate") [v]) Q E s := by
  refine callType_new F.called_enumerate (by decide) (F.typeCall_enumerate_1 _) (F.newCall_enumerate_1 _) (fun obj => F.args_object_init_2 obj _) F.entry_enumerate_new (meets_enum1 B) ⟨h1, ?_⟩
  have hz : (s.heap.push o).objs.size = s.heap.objs.size + 1 := Heap.size_push ..
  show _ ∧ _
  rw [hz]
  have he : IsEnum ((s.heap.push o).push { cls := .type "enumerate", data := .fields #[.none, .bool false, .ref s.heap.objs.size, rawInt 0, .none, .none] }) (s.heap.objs.size + 1) s.heap.objs.size 0 .none := by
    have q := Heap.get?_push_size (s.heap.push o) (o := { cls := .type "enumerate", data := .fields #[.none, .bool false, .ref s.heap.objs.size, rawInt 0, .none, .none] }) rfl
    rw [hz] at q
    exact q
  exact ⟨⟨_, he, rfl⟩, h _ he (Heap.get?_push_of_some _ (Heap.get?_push_size _ B.free)) fun b u x => Heap.get?_push_of_some _ (Heap.get?_push_of_some _ x)⟩
theorem str_iter_end {prog : Program} {w : World} {A : Around} {E : Value → Shared → Prop} {s : Shared} {it : Addr} {x : Str} {t : Tok} {i : Nat} {Q : Value → Shared → Prop} (hh : A.handled = none) (hit : s.heap.IsStrIter it (strIterType x) x t i) (hx : x.cps.size ≤ i)
    (hE : ∀ h' e, Heap.ExtBut it s.heap h' → (∃ o, h'.get? e = some o ∧ o.cls = .type "StopIteration") → E (.ref e) { s with heap := h' }) : wpAny (model prog w) A (Builtin.SmallTypes.nextOf (.ref it)) Q E s := by
  have hn : x.cps[i]? = none := by simp; omega
  unfold strIterType at hit
  cases ha : x.cps.all (· < 128)
  · simp only [ha, Bool.false_eq_true, if_false] at hit
    exact wpAny_nextOf_wide_end hh hit hn hE
  · simp only [ha, if_true] at hit
    exact wpAny_nextOf_ascii_end hh hit hn hE
/-! ### over a tuple -/
def IteT (K : PySem.W.Frag) (a : Addr) : It :=
  ⟨fun i H => ∃ (xs : List V) (x : V), SqT K H a xs ∧ xs[i]? = some x, fun i H v H' => ∃ T x, v = .ref T ∧ H T = none ∧ H' = upd H T (.tup [.int (i : Nat), x]) ∧ ∀ xs, SqT K H a xs → xs[i]? = some x, fun i H => ∃ xs : List V, SqT K H a xs ∧ xs.length ≤ i⟩
theorem enum_ne {h : Heap} {e it t : Addr} {c : Int} {old : Value} {its : Array Value} (he : IsEnum h e it c old) (ht : h.IsTuple t its) : e ≠ t := fun q => by
  obtain ⟨o, ho, hc, _⟩ := ht
  rw [← q, he] at ho
  rw [← Option.some.inj ho] at hc
  have hc : Value.type "enumerate" = Value.type "tuple" := hc
  exact absurd hc (by decide)
theorem turn_enumT {P : Program} {w : World} {K : PySem.W.Frag} {elts : List Expr} {kk : Nat} {tpos : Pos} (a e it : Addr) :
    Turn P w K (.Tuple elts kk tpos) (IteT K a) [e, it] e (fun i h => (∃ old, IsEnum h e it ((i : Nat) : Int) old) ∧ h.IsTupleIter it a i ∧ e ≠ it) where
  mem := by simp
  obj := fun i h st b hb => by
    obtain ⟨⟨old, he⟩, ⟨o, ho, hc, hd⟩, _⟩ := st
    have e' : b = e ∨ b = it := by simpa using hb
    rcases e' with y | y
    · rw [y]
      exact ⟨_, he, fun v q => nomatch q⟩
    · rw [y]
      exact ⟨o, ho, fun v q => by rw [hd] at q; cases q⟩
  keep := fun i h h' st k => let ⟨⟨old, he⟩, hi, hne⟩ := st; ⟨⟨old, k e (by simp) _ he⟩, hi.at fun o q => k it (by simp) o q, hne⟩
  item := by
    intro X hP hw hK hc i pins s σ H E I hf st hg
    subst hP hw hK
    obtain ⟨⟨old, he⟩, hit, hne⟩ := st
    obtain ⟨xs, x, hq, hx⟩ := hg
    obtain ⟨its, rv, p, hz⟩ := I.tuple hq
    obtain ⟨u, hu, ru⟩ := rv.get hx
    have hel : e < s.heap.objs.size := Heap.lt_size he
    have hil : it < s.heap.objs.size := by
      obtain ⟨_, q, _⟩ := hit
      exact Heap.lt_size q
    have pt : s.heap.IsTuple a its.toArray := p
    have hti : a ≠ it := fun q => by
      obtain ⟨o1, h1, c1, _⟩ := pt
      obtain ⟨o2, h2, c2, _⟩ := hit
      rw [q, h2] at h1
      rw [← Option.some.inj h1, c2] at c1
      exact absurd c1 (by decide)
    have hilen : i < its.toArray.size := by
      have q := (List.getElem?_eq_some_iff.mp hu).1
      simpa using q
    refine wpAny_pyNext_enum_itemD (Draws.tuple (prog := X.prog) (w := X.w) (A := X.A.in1) (show X.A.in1.handled = none from I.ok.hd hc) it a hti its.toArray) he ⟨hit, pt⟩ hilen hne (fun q => ?_) fun y h' tk hy ho st' hT hsz hk => ?_
    · rcases List.mem_cons.mp q with z | z
      · exact hne z
      · exact enum_ne he pt (List.mem_singleton.mp z)
    have ey : y = u := by
      have h2 : its.toArray[i]? = some u := by simpa using hu
      rw [h2] at hy
      exact (Option.some.inj hy).symm
    subst ey
    refine ⟨_, rfl, wpAny_letOwnedTupleGo_enum (s := { s with heap := h', toks := tk + 1 }) ho fun h'' he' sb => ?_⟩
    have hT2 : h''.get? s.heap.objs.size = some { cls := .type "tuple", data := .seq #[.int i tk, y] } := (sb.2 _ (Nat.ne_of_gt hel)).trans hT
    have new : ObjOk X.prog X.w (upd H s.heap.objs.size (.tup [.int (i : Nat), x])) h'' s.heap.objs.size (.tup [.int (i : Nat), x]) :=
      ⟨by show 2 ≤ sizeLine; decide, [.int i tk, y], .cons ⟨_, rfl⟩ (.cons ru .nil), ⟨_, hT2, rfl, _, rfl⟩⟩
    have I1 : Inv X pins σ (upd H s.heap.objs.size (.tup [.int (i : Nat), x])) { s with heap := h'', toks := tk + 1 } :=
      I.turnedNew (ch := [e, it]) (fun b ob hb q => (sb.2 b (fun z => hb (by simp [z]))).trans (hk b ob (fun z => hb (by simp [z])) (fun z => hb (by simp [z])) q)) hf (Nat.le_refl _) new
    refine ⟨.ref s.heap.objs.size, _, I1, rfl, ⟨_, x, rfl, I.hok.fresh (Nat.le_refl _), rfl, fun ys hy => by rw [I.tuple_inj hy hq]; exact hx⟩, ⟨⟨y, ?_⟩, st'.1.at fun o q => (sb.2 it (Ne.symm hne)).trans q, hne⟩, fun b hb => ?_⟩
    · have e1 : ((i + 1 : Nat) : Int) = (i : Int) + 1 := by omega
      rw [e1]
      exact he'
    · have e' : b = e ∨ b = it := by simpa using hb
      have hb' : b < s.heap.objs.size := by
        rcases e' with z | z
        · exact z ▸ hel
        · exact z ▸ hil
      rw [upd_ne (Nat.ne_of_lt hb')]
      exact (hf b hb).1
  done := by
    intro X hP hw hK hc i pins s σ H E I hf st hg
    subst hP hw hK
    obtain ⟨⟨old, he⟩, hit, hne⟩ := st
    obtain ⟨xs, hq, hx⟩ := hg
    obtain ⟨its, rv, p, hz⟩ := I.tuple hq
    obtain ⟨f0, f1, f2, f3, f4, f5⟩ := hf it (by simp)
    have hl := rv.length
    have pt : s.heap.IsTuple a its.toArray := p
    have hT : s.TypeIs (.ref e) "enumerate" := ⟨_, he, rfl⟩
    unfold pyNext
    refine wpAny_bind (wpAny_attempt (wpAny_callSpecial?_slot (name := Str.ofString "__next__") hT F.slot_enumerate_next (wpAny_call_entry F.slot_enumerate_next hT F.entry_enumerate_next ?_ (F.args_enumerate_next_1 _))))
    show wpAny _ _ (field (.ref e) 2 >>= _) _ _ _
    refine wpAny_bind (wpAny_field he rfl (x := .ref it) rfl ?_)
    refine wpAny_bind (wpAny_nextOf_tuple_end (show X.A.in1.handled = none from I.ok.hd hc) hit pt (by simp; omega) fun h' er hx' he' => ?_)
    obtain ⟨o, ho, hc'⟩ := he'
    refine wpAny_bind (wpAny_isInstance (T := "StopIteration") (b := true) ⟨o, ho, hc'⟩ isSubtype_stop ?_)
    exact wpAny_pure ⟨rfl, I.turned (t' := s.toks) (fun b o hb q => hx' b o hb q) f0 f1 f3 f4 f5⟩
  self := fun A i s Q E st h => let ⟨⟨_, he⟩, _⟩ := st; wpAny_pyIter_enum he h
def iEnumT (K : PySem.W.Frag) (ta : TA) : TI := fun σ H R => ta σ H fun vs H1 => ∃ a xs, vs = [.ref a] ∧ SqT K H1 a xs ∧ R (IteT K a) H1
theorem pi_enumT {X : Cx} {e : Expr} {ta : TA} {p pos tpos : Pos} {elts : List Expr} {kk : Nat} (hg : Gl X "enumerate") (hm : X.mg "enumerate" = none) (ha : PA X [e] ta) (hs : starEach [e] X.env = [(false, eval e X.env)] := by rfl) :
    PI X (.Tuple elts kk tpos) (.Call (.Name "enumerate" p) [e] [] pos) (iEnumT X.K ta) := by
  refine ⟨fun pins s σ H R I h => ?_⟩
  refine Call_ (ld_blt I hg hm boot_enumerate (PyProof.Rows.callWith_type1 (thn (ha.run pos pins s σ H _ I h) fun us s1 ⟨vs, H1, I1, r1, q1⟩ => ?_) hs rfl))
  obtain ⟨a, xs, ex, hq, q⟩ := q1
  subst ex
  cases r1 with
  | cons r rr =>
    cases rr
    cases r
    obtain ⟨its, rv, p', hz⟩ := I1.tuple hq
    have pt : s1.heap.IsTuple a its.toArray := p'
    refine call_enum1 (begins_tuple a its.toArray) pt fun h' he hit hk => wpAny_pyIter_enum he ?_
    have I2 : Inv X pins σ H1 { s1 with heap := h' } := I1.kept (t' := s1.toks) hk
    refine ⟨s1.heap.objs.size + 1, [s1.heap.objs.size + 1, s1.heap.objs.size], _, _, H1, rfl, I2, turn_enumT a (s1.heap.objs.size + 1) s1.heap.objs.size, ⟨⟨.none, he⟩, ⟨_, hit, rfl, rfl⟩, Nat.succ_ne_self _⟩, fun b hb => ?_, q⟩
    have e' : b = s1.heap.objs.size + 1 ∨ b = s1.heap.objs.size := by simpa using hb
    have hle : s1.heap.objs.size ≤ b := by
      rcases e' with z | z
      · exact z ▸ Nat.le_add_right _ _
      · exact z ▸ Nat.le_refl _
    exact I1.fpOk hle (I1.hok.fresh hle)
/-! ### over a text -/
def IteS (z : Str) : It :=
  ⟨fun i _ => i < z.cps.size, fun i H v H' => ∃ T c, v = .ref T ∧ H T = none ∧ z.cps[i]? = some c ∧ H' = upd H T (.tup [.int (i : Nat), .str ⟨#[c]⟩]), fun i _ => z.cps.size ≤ i⟩
theorem turn_enumS {P : Program} {w : World} {K : PySem.W.Frag} {elts : List Expr} {kk : Nat} {tpos : Pos} (z : Str) (t : Tok) (e it : Addr) :
    Turn P w K (.Tuple elts kk tpos) (IteS z) [e, it] e (fun i h => (∃ old, IsEnum h e it ((i : Nat) : Int) old) ∧ h.IsStrIter it (strIterType z) z t i ∧ e ≠ it) where
  mem := by simp
  obj := fun i h st b hb => by
    obtain ⟨⟨old, he⟩, ⟨o, ho, hc, hd⟩, _⟩ := st
    have e' : b = e ∨ b = it := by simpa using hb
    rcases e' with y | y
    · rw [y]
      exact ⟨_, he, fun v q => nomatch q⟩
    · rw [y]
      exact ⟨o, ho, fun v q => by rw [hd] at q; cases q⟩
  keep := fun i h h' st k => let ⟨⟨old, he⟩, ⟨o, ho, r⟩, hne⟩ := st; ⟨⟨old, k e (by simp) _ he⟩, ⟨o, k it (by simp) o ho, r⟩, hne⟩
  item := by
    intro X hP hw hK hc i pins s σ H E I hf st hg
    subst hP hw hK
    obtain ⟨⟨old, he⟩, hit, hne⟩ := st
    have hel : e < s.heap.objs.size := Heap.lt_size he
    have hil : it < s.heap.objs.size := by
      obtain ⟨_, q, _⟩ := hit
      exact Heap.lt_size q
    refine wpAny_pyNext_enum_itemD (Draws.text (prog := X.prog) (w := X.w) (A := X.A.in1) (show X.A.in1.handled = none from I.ok.hd hc) it z t) he hit hg hne (fun q => hne (List.mem_singleton.mp q)) fun y h' tk hy ho st' hT hsz hk => ?_
    obtain ⟨c, ut, hcps, rfl⟩ := hy
    refine ⟨_, rfl, wpAny_letOwnedTupleGo_enum (s := { s with heap := h', toks := tk + 1 }) ho fun h'' he' sb => ?_⟩
    have hT2 : h''.get? s.heap.objs.size = some { cls := .type "tuple", data := .seq #[.int i tk, .str ⟨#[c]⟩ ut] } := (sb.2 _ (Nat.ne_of_gt hel)).trans hT
    have new : ObjOk X.prog X.w (upd H s.heap.objs.size (.tup [.int (i : Nat), .str ⟨#[c]⟩])) h'' s.heap.objs.size (.tup [.int (i : Nat), .str ⟨#[c]⟩]) :=
      ⟨by show 2 ≤ sizeLine; decide, [.int i tk, .str ⟨#[c]⟩ ut], .cons ⟨_, rfl⟩ (.cons ⟨_, rfl⟩ .nil), ⟨_, hT2, rfl, _, rfl⟩⟩
    have I1 : Inv X pins σ (upd H s.heap.objs.size (.tup [.int (i : Nat), .str ⟨#[c]⟩])) { s with heap := h'', toks := tk + 1 } :=
      I.turnedNew (ch := [e, it]) (fun b ob hb q => (sb.2 b (fun z => hb (by simp [z]))).trans (hk b ob (fun z => hb (by simp [z])) (fun z => hb (by simp [z])) q)) hf (Nat.le_refl _) new
    refine ⟨.ref s.heap.objs.size, _, I1, rfl, ⟨_, c, rfl, I.hok.fresh (Nat.le_refl _), hcps, rfl⟩, ⟨⟨.str ⟨#[c]⟩ ut, ?_⟩, ?_, hne⟩, fun b hb => ?_⟩
    · have e1 : ((i + 1 : Nat) : Int) = (i : Int) + 1 := by omega
      rw [e1]
      exact he'
    · obtain ⟨o, ho2, r⟩ := st'
      exact ⟨o, (sb.2 it (Ne.symm hne)).trans ho2, r⟩
    · have e' : b = e ∨ b = it := by simpa using hb
      have hb' : b < s.heap.objs.size := by
        rcases e' with z | z
        · exact z ▸ hel
        · exact z ▸ hil
      rw [upd_ne (Nat.ne_of_lt hb')]
      exact (hf b hb).1
  done := by
    intro X hP hw hK hc i pins s σ H E I hf st hg
    subst hP hw hK
    obtain ⟨⟨old, he⟩, hit, hne⟩ := st
    obtain ⟨f0, f1, f2, f3, f4, f5⟩ := hf it (by simp)
    have hT : s.TypeIs (.ref e) "enumerate" := ⟨_, he, rfl⟩
    unfold pyNext
    refine wpAny_bind (wpAny_attempt (wpAny_callSpecial?_slot (name := Str.ofString "__next__") hT F.slot_enumerate_next (wpAny_call_entry F.slot_enumerate_next hT F.entry_enumerate_next ?_ (F.args_enumerate_next_1 _))))
    show wpAny _ _ (field (.ref e) 2 >>= _) _ _ _
    refine wpAny_bind (wpAny_field he rfl (x := .ref it) rfl ?_)
    refine wpAny_bind (str_iter_end (show X.A.in1.handled = none from I.ok.hd hc) hit hg fun h' er hx' he' => ?_)
    obtain ⟨o, ho, hc'⟩ := he'
    refine wpAny_bind (wpAny_isInstance (T := "StopIteration") (b := true) ⟨o, ho, hc'⟩ isSubtype_stop ?_)
    exact wpAny_pure ⟨rfl, I.turned (t' := s.toks) (fun b o hb q => hx' b o hb q) f0 f1 f3 f4 f5⟩
  self := fun A i s Q E st h => let ⟨⟨_, he⟩, _⟩ := st; wpAny_pyIter_enum he h
def iEnumS (ta : TA) : TI := fun σ H R => ta σ H fun vs H1 => ∃ z, vs = [.str z] ∧ R (IteS z) H1
theorem pi_enumS {X : Cx} {e : Expr} {ta : TA} {p pos tpos : Pos} {elts : List Expr} {kk : Nat} (hg : Gl X "enumerate") (hm : X.mg "enumerate" = none) (ha : PA X [e] ta) (hs : starEach [e] X.env = [(false, eval e X.env)] := by rfl) :
    PI X (.Tuple elts kk tpos) (.Call (.Name "enumerate" p) [e] [] pos) (iEnumS ta) := by
  refine ⟨fun pins s σ H R I h => ?_⟩
  refine Call_ (ld_blt I hg hm boot_enumerate (PyProof.Rows.callWith_type1 (thn (ha.run pos pins s σ H _ I h) fun us s1 ⟨vs, H1, I1, r1, q1⟩ => ?_) hs rfl))
  obtain ⟨z, ex, q⟩ := q1
  subst ex
  cases r1 with
  | cons r rr =>
    cases rr
    obtain ⟨t, rfl⟩ := r
    refine call_enumerate_str fun h' he hit hsz hk => wpAny_pyIter_enum he ?_
    have I2 : Inv X pins σ H1 { s1 with heap := h' } := I1.kept (t' := s1.toks) hk
    refine ⟨s1.heap.objs.size + 1, [s1.heap.objs.size + 1, s1.heap.objs.size], _, _, H1, rfl, I2, turn_enumS z t (s1.heap.objs.size + 1) s1.heap.objs.size, ⟨⟨.none, he⟩, hit, Nat.succ_ne_self _⟩, fun b hb => ?_, q⟩
    have e' : b = s1.heap.objs.size + 1 ∨ b = s1.heap.objs.size := by simpa using hb
    have hle : s1.heap.objs.size ≤ b := by
      rcases e' with z | z
      · exact z ▸ Nat.le_add_right _ _
      · exact z ▸ Nat.le_refl _
    exact I1.fpOk hle (I1.hok.fresh hle)
theorem walk_enumT {K : PySem.W.Frag} {a : Addr} {xs : List V} : Walk (IteT K a) xs.length (fun H => SqT K H a xs) (YPair (fun i => some (.int (i : Nat))) (fun i => xs[i]?)) := by
  refine ⟨fun i _ hi q => ⟨xs, xs[i], q, by simp [hi]⟩, fun _ q => ⟨xs, q, Nat.le_refl _⟩, fun i H v H' _ q y => ?_⟩
  obtain ⟨T, x, h1, h2, h3, h4⟩ := y
  exact ⟨T, .int (i : Nat), x, h1, h2, h3, rfl, h4 xs q⟩
theorem walk_enumS {z : Str} : Walk (IteS z) z.cps.size (fun _ => True) (YPair (fun i => some (.int (i : Nat))) (fun i => z.cps[i]?.map fun c => .str ⟨#[c]⟩)) := by
  refine ⟨fun _ _ hi _ => hi, fun _ _ => Nat.le_refl _, fun i H v H' _ _ y => ?_⟩
  obtain ⟨T, c, h1, h2, h3, h4⟩ := y
  exact ⟨T, .int (i : Nat), .str ⟨#[c]⟩, h1, h2, h4, rfl, by simp [h3]⟩
end Sh
end

section
set_option Elab.async false
set_option linter.all false
set_option maxRecDepth 100000
set_option maxHeartbeats 4000000
/-! sorted(d), ints, any number of them; str(x) of a number or a text. -/
namespace Sh
open PySem PySem.Spec PyProof.Rows L2
theorem ud {k : Nat} {A : Around} (hr : Room k A) : A.units + 65 < cLine := by have := hr.un; omega
section
variable {X : Cx}
def rSortedD : List V → Hp → VK → Prop := fun vs H Q => ∃ (a : Addr) (kvs : List (Key × V)) (ks : List Int), vs = [.ref a] ∧ Rd H a (.dK kvs) ∧ kvs.map (·.1) = ks.map Sum.inl ∧
  ∀ (ys : List Int) (p : Addr), ys.Perm ks → ys.Pairwise (· ≤ ·) → H p = none → Q (.ref p) (upd H p (.lst (ys.map V.int)))
theorem cr_sortedD (hcalm : X.calm = true) : CallR X (.builtin "sorted") rSortedD := by
  intro pins s σ H xs us Q I r q
  obtain ⟨a, kvs, ks, ex, hd, hks, q⟩ := q
  subst ex
  obtain ⟨u, eu, rx⟩ := vals1 r
  subst eu
  cases rx
  obtain ⟨z, lo, vs, rel, dd⟩ := dk_rd I.hok hd
  obtain ⟨ep, hat⟩ := dd.dictAt
  have hkeys : vs.map (·.1) = ks.map Sum.inl := rel.keys.symm.trans hks
  have hl : vs.length = ks.length := by simpa using congrArg List.length hkeys
  have hk2 : kvs.length = ks.length := by simpa using congrArg List.length hks
  have h16 : vs.length ≤ sizeLine := by omega
  refine Calls.call_function_entry PyProof.Rows.kind_sorted PyProof.Rows.plain_sorted PyProof.Rows.entry_sorted (PyProof.Rows.args_sorted1 _) ?_
  unfold Builtin.«sorted»
  refine wpAny_bind (m := checkCount "sorted" 1 1 _) (wpAny_pure ?_)
  refine wpAny_bind (PySem.W.kdu_collect (A := X.A.in1) (PySem.W.kdl_dict (knd := mixKind X.prog X.w) (kvs := vs) (ep := ep) lo) (I.ok.hd hcalm) hat h16 fun h' tk acc hk hacc => ?_)
  have hal : acc.toList.length = ks.length := by rw [Array.length_toList, hacc.1, hl]
  have hS : IntsAre acc.toList ks := ints_each hal fun j v e => by
    obtain ⟨k, x, e1, e2⟩ := hacc.2 j v (by rw [← Array.getElem?_toList]; exact e)
    have e3 : (vs.map (·.1))[j]? = some k := by rw [List.getElem?_map, e1]; rfl
    rw [hkeys, List.getElem?_map] at e3
    cases e4 : ks[j]? with
    | none => rw [e4] at e3; cases e3
    | some y =>
      rw [e4] at e3
      obtain rfl : Sum.inl y = k := Option.some.inj e3
      rcases keyIs_shape (show keyIs (Sum.inl y) v = true from e2) with ⟨i, t, ek, ev⟩ | ⟨z, t, ek, ev⟩
      · cases ek
        exact ⟨y, t, rfl, ev⟩
      · cases ek
  have I1 : Inv X pins σ H { s with heap := h', toks := tk } := I.kept hk
  have hz2 : acc.toList.length ≤ sizeLine := by omega
  refine wpAny_bind (wpAny_newList ?_ hz2)
  have hoL : (h'.push (seqObj "list" acc.toList.toArray 0)).get? h'.objs.size = some (seqObj "list" acc.toList.toArray 0) := Heap.get?_push_size _ rfl
  show wpAny _ _ _ _ _ { s with heap := h'.push (seqObj "list" acc.toList.toArray 0), toks := tk }
  refine wpAny_bind (wpAny_holding (wpAny_call_entry PyProof.Rows.slot_list_sort ⟨_, hoL, rfl⟩ PyProof.Rows.entry_list_sort
    (SrtO.list_sort_ord (s := { s with heap := h'.push (seqObj "list" acc.toList.toArray 0), toks := tk }) SrtO.swo_int hoL hz2 (fun h2 => SrtO.ints_sortable hS h2) fun out h1 h2 => ⟨_, rfl, ?_⟩) (PyProof.Rows.args_list_sort _)))
  obtain ⟨k1, k2, k3⟩ := SrtO.ints_out hS h1 h2
  obtain ⟨e', he'⟩ := PyProof.Rows.sortedHeap_at (vs := acc.toList) (out := out.toArray) hoL
  have hlen : ((out.map SrtO.iv).map V.int).length ≤ sizeLine := by
    rw [List.length_map, k2.length_eq]
    omega
  refine wpAny_pure ⟨_, rfl, .ref h'.objs.size, upd H h'.objs.size (.lst ((out.map SrtO.iv).map V.int)), I1.laid (t' := tk) (fun b u e => ?_) (Nat.le_refl _) ⟨hlen, out, e', vals_of_ints k1, he'⟩, rfl, q _ _ k2 k3 (I1.hok.fresh (Nat.le_refl _))⟩
  have hb : b ≠ h'.objs.size := Nat.ne_of_lt (Heap.lt_size e)
  have e2 : (h'.push (seqObj "list" acc.toList.toArray 0)).get? b = some u := Heap.get?_push_of_some _ e
  rw [PyProof.Rows.sortedHeap_old hb (Heap.lt_size e2)]
  exact e2
/-! ### the rules by the written part's name (within a comprehension) -/
variable {K : PySem.W.Frag}
theorem pe_fldK {e : Expr} {ta : TE} {f : Str} {pos : Pos} (hK : X.K = K) (he : PE X e ta) (hb : attributeBase e f X.env (eval e X.env) = eval e X.env) : PE X (.Attribute e f pos) (tFld K ta f) := by
  subst hK
  exact pe_fld he hb
theorem call_lenK (hK : X.K = K) : CallR X (.builtin "len") (fun xs H Q => ∃ x n, xs = [x] ∧ LenV K x H n ∧ Q (.int n) H) := by
  subst hK
  exact call_len
theorem ix_listK (hK : X.K = K) : IxR X (rIxL K) := by
  subst hK
  exact ix_list
theorem ix_tupK (hK : X.K = K) : IxR X (rIxT K) := by
  subst hK
  exact ix_tup
theorem op_in_seqK (hK : X.K = K) : OpR X (compareOp .In) (rIn K false) := by
  subst hK
  exact op_in_seq
theorem op_notIn_seqK (hK : X.K = K) : OpR X (compareOp .NotIn) (rIn K true) := by
  subst hK
  exact op_notIn_seq
theorem pi_listK {tg l : Expr} {tl : TE} (hK : X.K = K) (hl : PE X l tl) : PI X tg l (iList K tl) := by
  subst hK
  exact pi_list hl
theorem pi_tupK {tg l : Expr} {tl : TE} (hK : X.K = K) (hl : PE X l tl) : PI X tg l (iTup K tl) := by
  subst hK
  exact pi_tup hl
def tJoin (K : PySem.W.Frag) (to te : TE) : TE := tM1 (fun x xs H Q => ∃ a p, ∃ ys : List Str, x = .str a ∧ xs = [.ref p] ∧ (SqL K H p (ys.map V.str) ∨ SqT K H p (ys.map V.str)) ∧ (ys.map (·.length)).sum + ys.length * a.length ≤ 16777216 ∧ Q (.str (Txt.join a ys)) H) to te
theorem pe_joinK {o e : Expr} {to te : TE} {apos pos : Pos} (hK : X.K = K) (ho : PE X o to) (he : PE X e te) (hs : starEach [e] X.env = [(false, eval e X.env)] := by rfl) (hbase : attributeBase o "join" X.env (eval o X.env) = eval o X.env := by rfl) (hline : (apos.endLine == pos.line) = true := by rfl) :
    PE X (.Call (.Attribute o "join" apos) [e] [] pos) (tJoin K to te) := by
  subst hK
  exact pe_join ho he hs hbase hline
theorem call_strX : CallR X (.type "str") (fun xs H Q => (∃ i : Int, xs = [.int i] ∧ i.natAbs.log2 < 1920 ∧ Q (.str (toString i)) H) ∨ ∃ a, xs = [.str a] ∧ Q (.str a) H) := by
  intro pins s σ H xs us Q I r h
  rcases h with h | h
  · exact call_str_int pins s σ H xs us Q I r h
  · exact SkE.call_str_str pins s σ H xs us Q I r h
end
end Sh
end

section
set_option Elab.async false
set_option linter.all false
set_option maxRecDepth 100000
set_option maxHeartbeats 4000000
/-! The heap of things, as it is written down; what walks it. -/
namespace Sh
open PySem PySem.Spec PyProof.Rows L2
def tf (l : Addr) (aged : Bool) (w : Option Int) : List (Str × V) := [("inside", .ref l), ("aged", .bl aged), ("last_word", oV w)]
theorem tf_inside {l : Addr} {a : Bool} {w : Option Int} : (tf l a w).lookup ("inside" : Str) = some (.ref l) := by kernel_rfl
theorem tf_aged {l : Addr} {a : Bool} {w : Option Int} : (tf l a w).lookup ("aged" : Str) = some (.bl a) := by kernel_rfl
theorem tf_word {l : Addr} {a : Bool} {w : Option Int} : (tf l a w).lookup ("last_word" : Str) = some (oV w) := by kernel_rfl
theorem tf_put_aged {l : Addr} {a : Bool} {w : Option Int} {b : Bool} : putF "aged" (.bl b) (tf l a w) = tf l b w := by kernel_rfl
theorem tf_put_word {l : Addr} {a : Bool} {w : Option Int} {x : Int} : putF "last_word" (.int x) (tf l a w) = tf l a (some x) := by kernel_rfl
/-- a thing stands at a, its fields' list at l -/
structure TAt (CT : Addr) (H : Hp) (a l d : Addr) (th : Thing) : Prop where
  ob : H a = some (.ins CT d (tf l th.aged th.word))
  li : ∃ il, H l = some (.lst il) ∧ VAs H il th.inside
/-- where all stands -/
structure Lay where
  dx : Addr
  ha : Addr
  na : Addr
  ka : Addr
  sa : Addr
  ad : Int → Addr
  il : Int → Addr
  td : Int → Addr
def keptK (L : Lay) (kept : List (Int × Thing)) : List (Key × V) := kept.map fun q => (Sum.inl q.1, V.ref (L.ad q.1))
theorem keptK_val (L : Lay) (t : Int) : ∀ kept : List (Int × Thing), valV (keptK L kept) (Sum.inl t) = (kget kept t).map fun _ => V.ref (L.ad t)
  | [] => rfl
  | q :: r => by
    have ih := keptK_val L t r
    show valV ((Sum.inl q.1, V.ref (L.ad q.1)) :: keptK L r) (Sum.inl t) = _
    by_cases e : q.1 = t
    · rw [valV_pos (by simpa using e)]
      have : kget (q :: r) t = some q.2 := by
        unfold kget
        rw [List.find?_cons, decide_eq_true e]
        rfl
      rw [this, e]
      rfl
    · rw [valV_neg (by simpa using e), ih]
      have : kget (q :: r) t = kget r t := by
        unfold kget
        rw [List.find?_cons, decide_eq_false e]
      rw [this]
theorem dget_rd {H : Hp} {a : Addr} {kvs : List (Key × V)} {k : Key} {o : Option V} (e : Rd H a (.dK kvs)) (h : valV kvs k = o) : DGet H a (kV k) o := .inl ⟨kvs, k, e, rfl, h.symm⟩
/-- a dict, locked or not -/
def DictLike : HO → Prop
  | .dK _ => True
  | .frz _ _ => True
  | _ => False
theorem VA.off {H H' : Hp} {x : Addr} {u : HO} (hx : H x = some u) (nu : ∀ xs, u ≠ .tup xs) (k : ∀ b o, H b = some o → b ≠ x → H' b = some o) : Tups H H' := fun b xs e => k b _ e fun z => by
  rw [z, hx] at e
  exact nu xs (Option.some.inj e)
/-- a thing stands while a dict is changed -/
theorem TAt.off {CT : Addr} {H H' : Hp} {a l d x : Addr} {th : Thing} {u : HO} (h : TAt CT H a l d th) (hx : H x = some u) (du : DictLike u) (k : ∀ b o, H b = some o → b ≠ x → H' b = some o) : TAt CT H' a l d th := by
  obtain ⟨ob, il, li, va⟩ := h
  have e1 : a ≠ x := ne_of ob hx fun z => by rw [← z] at du; exact du
  have e2 : l ≠ x := ne_of li hx fun z => by rw [← z] at du; exact du
  exact ⟨k _ _ ob e1, il, k _ _ li e2, va.mono (VA.off hx (fun xs z => by rw [z] at du; exact du) k)⟩
theorem TAt.same {CT : Addr} {H H' : Hp} {a l d : Addr} {th : Thing} (h : TAt CT H a l d th) (k : Same H H') : TAt CT H' a l d th :=
  let ⟨ob, il, li, va⟩ := h; ⟨k _ _ ob, il, k _ _ li, va.mono (Tups.of k)⟩
structure Things (CT : Addr) (H : Hp) (L : Lay) (kept : List (Int × Thing)) : Prop where
  at_ : ∀ q ∈ kept, TAt CT H (L.ad q.1) (L.il q.1) (L.td q.1) q.2
theorem Things.off {CT : Addr} {H H' : Hp} {L : Lay} {kept : List (Int × Thing)} {x : Addr} {u : HO} (h : Things CT H L kept) (hx : H x = some u) (du : DictLike u) (k : ∀ b o, H b = some o → b ≠ x → H' b = some o) : Things CT H' L kept :=
  ⟨fun q hq => (h.at_ q hq).off hx du k⟩
theorem Things.same {CT : Addr} {H H' : Hp} {L : Lay} {kept : List (Int × Thing)} (h : Things CT H L kept) (k : Same H H') : Things CT H' L kept := ⟨fun q hq => (h.at_ q hq).same k⟩
theorem Rd.same {H H' : Hp} {a : Addr} {u : HO} (h : Rd H a u) (k : Same H H') : Rd H' a u := h.elim (fun e => Or.inl (k _ _ e)) fun ⟨o, e⟩ => Or.inr ⟨o, k _ _ e⟩
abbrev CT (K : PySem.W.Frag) : Addr := He.ga K "IdealThing"
abbrev CH (K : PySem.W.Frag) : Addr := He.ga K "IdealHeap"
theorem young_take {kept : List (Int × Thing)} {i : Nat} {q : Int × Thing} (h : kept[i]? = some q) : young (kept.take (i + 1)) = young (kept.take i) ++ (if q.2.aged = true then [] else [q]) := by
  unfold young
  rw [List.take_succ, h, List.filter_append]
  congr 1
  show List.filter _ [q] = _
  rw [List.filter_cons]
  cases q.2.aged <;> rfl
theorem asc_new {kept : List (Int × Thing)} (A : Asc kept) {i : Nat} {q : Int × Thing} (h : kept[i]? = some q) : ¬ q.1 ∈ keys (kept.take i) := fun m => by
  obtain ⟨r, hr, e⟩ := List.mem_map.mp m
  obtain ⟨j, hj, ej⟩ := List.mem_iff_getElem.mp hr
  have hji : j < i := by
    rw [List.length_take] at hj
    omega
  obtain ⟨hi, ei⟩ := List.getElem?_eq_some_iff.mp h
  have := List.pairwise_iff_getElem.mp A j i (by unfold keys; rw [List.length_map]; omega) (by unfold keys; rw [List.length_map]; exact hi) hji
  unfold keys at this
  rw [List.getElem_map, List.getElem_map, ei] at this
  rw [List.getElem_take] at ej
  rw [ej, e] at this
  omega
theorem keys_young_sub {kept : List (Int × Thing)} {t : Int} (h : t ∈ keys (young kept)) : t ∈ keys kept := by
  obtain ⟨q, hq, e⟩ := List.mem_map.mp h
  exact List.mem_map.mpr ⟨q, (List.mem_filter.mp hq).1, e⟩
theorem keptK_get {L : Lay} {kept : List (Int × Thing)} {i : Nat} {k : Key} {v : V} (h : (keptK L kept)[i]? = some (k, v)) : ∃ q, kept[i]? = some q ∧ k = Sum.inl q.1 := by
  unfold keptK at h
  rw [List.getElem?_map] at h
  cases e : kept[i]? with
  | none =>
    rw [e] at h
    cases h
  | some q =>
    rw [e] at h
    cases h
    exact ⟨q, rfl, rfl⟩
theorem addS_new {ts : List Int} {t : Int} (h : ¬ t ∈ ts) : addS ts t = ts ++ [t] := if_neg h
section
variable {P : Program} {w : World} {K : PySem.W.Frag} {mg : Str → Option Value} {base : Heap}
/-- the young ones among held things -/
def spYoung (K : PySem.W.Frag) : Sp := fun vs H Q _ => ∃ (ka : Addr) (L : Lay) (kept : List (Int × Thing)), vs = [.ref ka] ∧ H ka = some (.dK (keptK L kept)) ∧ Things (CT K) H L kept ∧ Asc kept ∧ kept.length ≤ 1000 ∧
  ∀ (H' : Hp) (p : Addr), Same H H' → H p = none → H' p = some (.dK (seenK (keys (young kept)))) → Q (.ref p) H'
theorem sc_young_things : FnScope ["held", "some", "thing"] ["held"] (defScope st_young_things) := ⟨rfl, rfl, rfl, by decide +kernel, rfl, by decide +kernel, by decide +kernel⟩
theorem ok_young_things (E : Txt K mg) : FnOk P w K mg base CX0 1 (fAd at_young_things K) (fdOf at_young_things K) ["held"] (spYoung K) := by
  refine FunD.ok0 E.fd_young_things sc_young_things (fun vs H Q E0 h => ?_) (fun cdv A outer s H vs Q E0 hr h => ?_)
  · obtain ⟨v, x, xs, rfl, _⟩ := h
    rfl
  · obtain ⟨ka, L, kept, rfl, hk, ht, A, hlen, q⟩ := h
    refine ⟨_, (pss_cons (ps_set (i := 1) sc_young_things.nd rfl (Or.inl rfl) pe_dnewK)
      (pss_cons (ps_lock (ps_for PassesOwn.never rfl (pi_keys (pv 0)) (pg_name (i := 2) sc_young_things.nd rfl (Or.inl rfl)) (pss_one (ps_if (pt_not (pt_val (pe_fld (pe_dget (hu_of hr) (pv 0) (pv 2) (fun _ _ => rfl)) rfl))) (pss_one (ps_dput (hu_of hr) (pv 1) (pv 2) pe_bl rfl)) pss_nil))))
      (pss_one (ps_ret (pv 1))))), ?_⟩
    intro d hd
    have ned : ka ≠ d := ne_of_none hk hd
    refine ⟨ka, .dK (keptK L kept), (by rw [upd_ne ned]; exact hk), trivial, fun od => ?_⟩
    refine ⟨_, rfl, ka, od, rfl, Or.inl ⟨_, upd_same, for_it (walk_keys (kvs := keptK L kept)) (fun i σ H1 => ∃ u2 : Option V, σ = [some (.ref ka), some (.ref d), u2] ∧ H1 ka = some (.frz od (.dK (keptK L kept))) ∧
      H1 d = some (.dK (seenK (keys (young (kept.take i))))) ∧ ∀ b o, H b = some o → b ≠ ka → H1 b = some o)
      ⟨none, rfl, upd_same, (by rw [upd_ne ned.symm]; exact upd_same), fun b o e hb => by rw [upd_ne hb, upd_ne (ne_of_none e hd)]; exact e⟩ (fun i σ H1 _ ⟨_, _, h2, _⟩ => h2) ?_ ?_⟩⟩
    · rintro i v σ H1 H2 hi ⟨u2, rfl, h1, h2, h3⟩ ⟨rfl, k, kv, hkv, rfl⟩
      obtain ⟨r, hr, rfl⟩ := keptK_get hkv
      have rm := List.mem_of_getElem? hr
      have T := (ht.off hk trivial h3).at_ r rm
      have eg : kget kept r.1 = some r.2 := mem_kget A rm
      refine ⟨_, rfl, _, rfl, ka, V.ref (L.ad r.1), rfl, dget_rd (k := Sum.inl r.1) (Or.inr ⟨od, h1⟩) (by rw [keptK_val, eg]; rfl), L.ad r.1, _, L.td r.1, _, _, rfl, T.ob, E.c_IdealThing, E.n_IdealThing_aged, tf_aged, _, rfl, ?_⟩
      have e1 := young_take hr
      cases ag : r.2.aged with
      | true =>
        refine iteF ⟨_, rfl, h1, ?_, h3⟩
        rw [e1, if_pos ag, List.append_nil]
        exact h2
      | false =>
        refine iteT ⟨_, rfl, _, rfl, d, _, rfl, DPut.k (k := Sum.inl r.1) h2 ?_, _, rfl, (by rw [upd_ne ned]; exact h1), ?_, fun b o e hb => by rw [upd_ne (ne_of_none e hd)]; exact h3 b o e hb⟩
        · refine line1000 ?_
          unfold seenK keys young
          rw [List.length_map, List.length_map]
          have := List.length_filter_le (fun q : Int × Thing => !q.2.aged) (kept.take i)
          rw [List.length_take] at this
          omega
        · rw [upd_same, seen_put, addS_new fun m => asc_new A hr (keys_young_sub m), e1, if_neg (by rw [ag]; exact Bool.false_ne_true)]
          unfold keys
          rw [List.map_append]
          rfl
    · rintro σ H1 ⟨u2, rfl, h1, h2, h3⟩
      refine ⟨h1, _, rfl, q _ d (fun b o e => ?_) hd ?_⟩
      · by_cases hb : b = ka
        · rw [hb] at e ⊢
          rw [upd_same, ← e, hk]
        · rw [upd_ne hb]
          exact h3 b o e hb
      · rw [upd_ne ned.symm, h2]
        unfold keptK
        rw [List.length_map, List.take_length]
end
end Sh
end

section
set_option Elab.async false
set_option linter.all false
set_option maxRecDepth 100000
set_option maxHeartbeats 4000000
namespace Sh
open PySem PySem.Spec PyProof.Rows L2
section
variable {P : Program} {w : World} {K : PySem.W.Frag} {mg : Str → Option Value} {base : Heap}
theorem same_unlock {H H1 : Hp} {d : Addr} {u : HO} (hd : H d = some u) (k : ∀ b o, H b = some o → b ≠ d → H1 b = some o) : Same H (upd H1 d u) := fun b o e => by
  by_cases hb : b = d
  · rw [hb] at e ⊢
    rw [upd_same, ← e, hd]
  · rw [upd_ne hb]
    exact k b o e hb
/-- how many words some of the held things have -/
def spWordsIn (K : PySem.W.Frag) : Sp := fun vs H Q _ => ∃ (ka sb : Addr) (L : Lay) (kept sub : List (Int × Thing)) (kvs : List (Key × V)), vs = [.ref ka, .ref sb] ∧ Rd H ka (.dK (keptK L kept)) ∧ Things (CT K) H L kept ∧ Asc kept ∧
  H sb = some (.dK kvs) ∧ kvs.map (·.1) = sub.map (fun q => (Sum.inl q.1 : Key)) ∧ (∀ q ∈ sub, q ∈ kept) ∧ (∀ q ∈ sub, q.2.inside.length ≤ 6) ∧ sub.length ≤ 1000 ∧ ∀ H' : Hp, Same H H' → Q (.int (words sub)) H'
theorem rd_lock {H : Hp} {ka sb : Addr} {kvs ks : List (Key × V)} {od : Obj} (h : Rd H ka (.dK ks)) (hb : H sb = some (.dK kvs)) : Rd (upd H sb (.frz od (.dK kvs))) ka (.dK ks) := by
  by_cases e : ka = sb
  · subst e
    rcases h with h | ⟨o, h⟩
    · rw [hb] at h
      cases h
      exact Or.inr ⟨od, upd_same⟩
    · rw [hb] at h
      cases h
  · rcases h with h | ⟨o, h⟩
    · exact Or.inl (by rw [upd_ne e]; exact h)
    · exact Or.inr ⟨o, by rw [upd_ne e]; exact h⟩
theorem rd_keep {H H' : Hp} {ka : Addr} {u : HO} (h : Rd H ka u) (k : ∀ b o, H b = some o → H' b = some o) : Rd H' ka u := Rd.same h k
theorem sc_words_in : FnScope ["held", "some", "thing"] ["held", "some"] (defScope st_words_in) := ⟨rfl, rfl, rfl, by decide +kernel, rfl, by decide +kernel, by decide +kernel⟩
theorem ok_words_in (E : Txt K mg) : FnOk P w K mg base CX0 2 (fAd at_words_in K) (fdOf at_words_in K) ["held", "some"] (spWordsIn K) := by
  refine FunD.ok0 E.fd_words_in sc_words_in (fun vs H Q E0 h => ?_) (fun cdv A outer s H vs Q E0 hr h => ?_)
  · obtain ⟨v, x, L, k, s, kvs, rfl, _⟩ := h
    rfl
  · obtain ⟨ka, sb, L, kept, sub, kvs, rfl, hk, ht, A, hb, hks, hsub, few, hlen, q⟩ := h
    refine ⟨_, (pss_one (ps_ret (pe_callB (cr_sum rfl) (by rfl) E.f_sum (by decide +kernel) (pa_cons (pe_lock (pe_lc (own := [("thing", 2)]) rfl sc_words_in.nd (pi_keys (pv 1)) (blkOk_by (own := [("thing", 2)]) (N := ["held", "some", "thing"]) (sc := (defScope st_words_in)) (by decide +kernel)) (fun _ _ _ _ _ => (pg_name (i := 2) sc_words_in.nd rfl (Or.inl rfl))) (fun _ _ _ _ _ => pts_nil) (fun _ _ _ _ _ => by exact ((pe_call (ok_words_of E) (hr.mono (by decide)) (by rfl) E.g_words_of E.fd_words_of.kp E.b_words_of .nil passL (pa_cons (pe_callB (call_lenK (K := K) rfl) (by rfl) E.f_len PySem.boot_len (pa_cons (pe_fldK (K := K) rfl (pe_dget (hu_of hr) (pv 0) (pv 2) (fun _ _ => rfl)) rfl) pa_nil)) pa_nil)))))) pa_nil)))), ?_⟩
    have hl : kvs.length = sub.length := by simpa using congrArg List.length hks
    refine ⟨sb, .dK kvs, hb, trivial, fun od => ?_⟩
    refine ⟨_, rfl, sb, od, rfl, Or.inl ⟨_, upd_same, fun D hD => ?_⟩⟩
    have neD : sb ≠ D := ne_of_none (o := .frz od (.dK kvs)) upd_same hD
    have HD : H D = none := by rw [upd_ne neD.symm] at hD; exact hD
    have lk := rd_lock (od := od) hk hb
    have lt : Things (CT K) (upd H sb (.frz od (.dK kvs))) L kept := ht.off hb trivial fun b o e hne => by rw [upd_ne hne]; exact e
    refine lc_it (walk_keys (kvs := kvs)) (fun i H1 => H1 D = some (.lst ((sub.take i).map fun r => V.int ((r.2.inside.length : Int) + 1))) ∧ Same (upd H sb (.frz od (.dK kvs))) H1)
      ⟨by simp [upd_same], upd_same_of_none hD⟩ (fun i H1 _ h => h.2 _ _ upd_same) ?_ ?_
    · rintro i v H1 H2 hi ⟨h1, h2⟩ ⟨rfl, k, kv, hkv, rfl⟩
      have hi2 : i < sub.length := by rw [← hl]; exact hi
      have ek : k = Sum.inl sub[i].1 := by
        have e := congrArg (fun l : List Key => l[i]?) hks
        simp only [List.getElem?_map, hkv, List.getElem?_eq_getElem hi2, Option.map_some, Option.some.injEq] at e
        exact e
      subst ek
      have rm : sub[i] ∈ kept := hsub _ (List.getElem_mem hi2)
      obtain ⟨ob, il, li, va⟩ := (lt.same h2).at_ _ rm
      have eg : kget kept sub[i].1 = some sub[i].2 := mem_kget A rm
      have f6 := few _ (List.getElem_mem hi2)
      have le : (il.length : Int) = (sub[i].2.inside.length : Int) := by rw [va.len]
      refine ⟨rfl, _, rfl, _, rfl, ka, V.ref (L.ad sub[i].1), rfl, dget_rd (k := Sum.inl sub[i].1) (rd_keep lk h2) (by rw [keptK_val, eg]; rfl), L.ad sub[i].1, _, L.td sub[i].1, _, _, rfl, ob, E.c_IdealThing, E.n_IdealThing_inside, tf_inside,
        _, _, rfl, Or.inl ⟨_, SqL.of li, rfl⟩, _, rfl, fun _ => ?_, fun c => absurd (⟨by omega, by omega⟩ : (0 : Int) ≤ (il.length : Int) ∧ (il.length : Int) ≤ 6) c⟩
      refine ⟨_, h1, ?_, ?_, fun b o e => ?_⟩
      · rw [List.length_map, List.length_take]
        exact line1000 (by omega)
      · rw [upd_same, take_sub (List.getElem?_eq_getElem hi2), List.map_append, le]
        rfl
      · rw [upd_ne (ne_of_none e hD)]
        exact h2 b o e
    · rintro H1 ⟨h1, h2⟩
      refine ⟨h2 _ _ upd_same, D, sub.map (fun (r : Int × Thing) => ((r.2.inside.length : Int) + 1)), rfl, SqL.of ?_, q _ (same_unlock hb fun b o e hne => h2 b o (by rw [upd_ne hne]; exact e))⟩
      rw [upd_ne neD.symm, h1, hl, List.take_length, List.map_map]
      rfl
/-- what some things lead to within others -/
def spLed (K : PySem.W.Frag) : Sp := fun vs H Q _ => ∃ (ka sa ya : Addr) (L : Lay) (kept : List (Int × Thing)) (ss ys : List Int), vs = [.ref ka, .ref sa, .ref ya] ∧ Rd H ka (.dK (keptK L kept)) ∧ Things (CT K) H L kept ∧ Asc kept ∧
  H sa = some (.lst (ss.map V.int)) ∧ H ya = some (.dK (seenK ys)) ∧ ys.Nodup ∧ (∀ y ∈ ys, y ∈ keys kept) ∧ (∀ q ∈ kept, q.2.inside.length ≤ 6) ∧ ys.length ≤ 1000 ∧ ss.length ≤ 10000 ∧
  ∀ (fs : List Int) (H' : Hp) (p : Addr), Same H H' → H p = none → H' p = some (.dK (seenK fs)) → fs.Nodup → (∀ t, t ∈ fs ↔ Led kept (fun t => t ∈ ss) (fun t => t ∈ ys) t) → Q (.ref p) H'
theorem seen_some {ys : List Int} {t : Int} : (valV (seenK ys) (Sum.inl t)).isSome = decide (t ∈ ys) := by
  rw [seen_val]
  by_cases h : t ∈ ys
  · rw [if_pos h, decide_eq_true h]
    rfl
  · rw [if_neg h, decide_eq_false h]
    rfl
theorem filter_take {ss : List Int} {p : Int → Bool} {i : Nat} {t : Int} (h : ss[i]? = some t) : (ss.take (i + 1)).filter p = (ss.take i).filter p ++ (if p t = true then [t] else []) := by
  rw [take_sub h, List.filter_append]
  congr 1
  rw [List.filter_cons]
  split <;> rfl
theorem map_int_get {ss : List Int} {i : Nat} {v : V} (h : (ss.map V.int)[i]? = some v) : ∃ t, ss[i]? = some t ∧ v = .int t := by
  rw [List.getElem?_map] at h
  cases e : ss[i]? with
  | none =>
    rw [e] at h
    cases h
  | some t =>
    rw [e] at h
    cases h
    exact ⟨t, rfl, rfl⟩
theorem sc_led_within : FnScope ["held", "starts", "some", "found", "left", "thing", "other"] ["held", "starts", "some"] (defScope st_led_within) := ⟨rfl, rfl, rfl, by decide +kernel, rfl, by decide +kernel, by decide +kernel⟩
theorem ok_led_within (E : Txt K mg) : FnOk P w K mg base CX0 4 (fAd at_led_within K) (fdOf at_led_within K) ["held", "starts", "some"] (spLed K) := by
  refine FunD.ok0 E.fd_led_within sc_led_within (fun vs H Q E0 h => ?_) (fun cdv A outer s H vs Q E0 hr h => ?_)
  · obtain ⟨v, x, y, L, k, s, z, rfl, _⟩ := h
    rfl
  · obtain ⟨ka, sa, ya, L, kept, ss, ys, rfl, hk, ht, A, hs, hy, nd, hyk, few, ylen, slen, q⟩ := h
    refine ⟨_, (pss_cons (ps_set (i := 3) sc_led_within.nd rfl (Or.inl rfl) pe_dnewK)
      (pss_cons (ps_setLc (i := 4) (own := [("thing", 5)]) rfl sc_led_within.nd rfl rfl (sw_true rfl rfl rfl (by decide +kernel)) (pi_list (pv 1)) (blkOk_by (own := [("thing", 5)]) (N := ["held", "starts", "some", "found", "left", "thing", "other"]) (sc := (defScope st_led_within)) (by decide +kernel)) (fun _ _ _ _ _ => (pg_name (i := 5) sc_led_within.nd rfl (Or.inl rfl))) (fun _ _ _ _ _ => (pts_one (pt_cmp (pc_din (hu_of hr) (pv 5) (pv 2)) (by rfl)))) (fun _ _ _ _ _ => by exact ((pv 5))))
      (pss_cons (ps_while PassesOwn.never (pt_truth (pv 4) (by intro _; rfl)) (pss_cons (ps_set (i := 5) sc_led_within.nd rfl (Or.inl rfl) (pe_bm0 PySem.F.plainAttrs_list PySem.F.slot_list_pop PySem.F.type_list_pop mt_pop (pv 4)))
      (pss_one (ps_if (pt_cmp (pc_dnotin (hu_of hr) (pv 5) (pv 3)) (by rfl)) (pss_cons (ps_dput (hu_of hr) (pv 3) (pv 5) pe_bl rfl)
      (pss_one (ps_expr (pe_bm PySem.F.plainAttrs_list PySem.F.slot_list_extend PySem.F.type_list_extend mt_extend (pv 4) (pa_cons (pe_lc (own := [("other", 6)]) rfl sc_led_within.nd (pi_list (pe_call (ok_things_of E) (hr.mono (by decide)) (by rfl) E.g_things_of E.fd_things_of.kp E.b_things_of .nil pass0 (pa_cons (pe_fld (pe_dget (hu_of hr) (pv 0) (pv 5) (fun _ _ => rfl)) rfl) pa_nil))) (blkOk_by (own := [("other", 6)]) (N := ["held", "starts", "some", "found", "left", "thing", "other"]) (sc := (defScope st_led_within)) (by decide +kernel)) (fun _ _ _ _ _ => (pg_name (i := 6) sc_led_within.nd rfl (Or.inl rfl))) (fun _ _ _ _ _ => (pts_one (pt_cmp (pc_din (hu_of hr) (pv 6) (pv 2)) (by rfl)))) (fun _ _ _ _ _ => by exact ((pv 6)))) pa_nil))))) pss_nil))))
      (pss_one (ps_ret (pv 3)))))), ?_⟩
    intro d hd
    -- left = [thing for thing in starts if thing in some]
    refine ⟨_, rfl, sa, rfl, ⟨_, (upd_same_of_none hd).seq (SqL.of hs)⟩, fun D hD => ?_⟩
    have s0 := upd_same_of_none (o := .dK []) hd
    have HD : H D = none := s0.free hD
    refine lc_it (walk_list (xs := ss.map V.int)) (fun i H1 => H1 D = some (.lst (((ss.take i).filter fun t => decide (t ∈ ys)).map V.int)) ∧ Same (upd H d (.dK [])) H1)
      ⟨by simp [upd_same], upd_same_of_none hD⟩ (fun i H1 _ h => (s0.trans h.2).seq (SqL.of hs)) ?_ ?_
    · rintro i v H1 H2 hi ⟨h1, h2⟩ ⟨rfl, hv⟩
      obtain ⟨t, ht1, rfl⟩ := map_int_get hv
      refine ⟨rfl, _, rfl, _, rfl, ya, _, rfl, dget_rd (k := Sum.inl t) (Or.inl (h2 _ _ (s0 _ _ hy))) rfl, _, rfl, ?_⟩
      rw [seen_some]
      have e1 := filter_take (p := fun t => decide (t ∈ ys)) ht1
      refine ifd (fun c => ⟨_, rfl, _, h1, ?_, ?_, fun b o e => ?_⟩) fun c => ⟨?_, h2⟩
      · rw [List.length_map]
        have := List.length_filter_le (fun t => decide (t ∈ ys)) (ss.take i)
        rw [List.length_take] at this
        exact line1000 (by omega)
      · rw [upd_same, e1, if_pos (decide_eq_true c), List.map_append]
        rfl
      · rw [upd_ne (ne_of_none e hD)]
        exact h2 b o e
      · rw [h1, e1, if_neg (by simpa using c), List.append_nil]
    · rintro H1 ⟨h1, h2⟩
      have e0 : (ss.map V.int).length = ss.length := List.length_map _
      rw [e0, List.take_length] at h1
      -- while left:
      refine ⟨fun m σ H2 => ∃ (fs ls : List Int) (u5 u6 : Option V), σ = [some (.ref ka), some (.ref sa), some (.ref ya), some (.ref d), some (.ref D), u5, u6] ∧ H2 d = some (.dK (seenK fs)) ∧ H2 D = some (.lst (ls.map V.int)) ∧ Same H H2 ∧ fs.Nodup ∧ (∀ t ∈ fs, t ∈ ys) ∧
        LInv kept (fun t => t ∈ ss) (fun t => t ∈ ys) fs ls ∧ 7 * (ys.length - fs.length) + ls.length ≤ 20000 ∧ m = 7 * (ys.length - fs.length) + ls.length, ⟨_, [], ss.filter fun t => decide (t ∈ ys), none, none, rfl, ?_, h1, s0.trans h2, List.nodup_nil, fun _ m => by (cases m), LInv.start fun u => by simp, ?_, rfl⟩, ?_⟩
      · exact h2 _ _ upd_same
      · have := List.length_filter_le (fun t => decide (t ∈ ys)) ss
        simp only [List.length_nil]
        omega
      rintro m σ H2 ⟨fs, ls, u5, u6, rfl, k1, k2, k3, fnd, fy, I, big, rfl⟩
      refine ⟨_, rfl, _, Or.inl ⟨_, SqL.of k2, rfl⟩, ?_⟩
      rcases List.eq_nil_or_concat ls with e | ⟨l0, t, e⟩
      · subst e
        exact iteF ⟨_, rfl, q fs _ d k3 hd k1 fnd fun t => I.done⟩
      · rw [List.concat_eq_append] at e
        subst e
        have en : (!((l0 ++ [t]).map V.int).isEmpty) = true := by simp
        rw [en]
        refine iteT ⟨_, fun σ' H' h => h, ?_⟩
        have neDd : D ≠ d := ne_of k2 k1 fun z => by cases z
        -- thing = left.pop()
        refine ⟨_, rfl, Or.inl ⟨rfl, _, Or.inl (Or.inl k2)⟩, D, (l0 ++ [t]).map V.int, .int t, rfl, rfl, k2, ?_, ?_⟩
        · simp
        have ed : ((l0 ++ [t]).map V.int).dropLast = l0.map V.int := by
          rw [List.map_append]
          exact List.dropLast_concat
        rw [ed]
        have tk : t ∈ ys := (I.sl t (by simp)).in_
        have kD : ∀ {o : HO}, Same H (upd H2 D o) := fun {o} b u e => by rw [upd_ne (ne_of_none e HD)]; exact k3 b u e
        have k1' : (upd H2 D (.lst (l0.map V.int))) d = some (.dK (seenK fs)) := by rw [upd_ne neDd.symm]; exact k1
        refine ⟨_, rfl, _, rfl, d, _, rfl, dget_rd (k := Sum.inl t) (Or.inl k1') rfl, _, rfl, ?_⟩
        rw [seen_some]
        refine ifnd (fun c => ?_) fun c => ?_
        · -- a new one
          have flen : fs.length + 1 ≤ ys.length := by
            have := nodup_sub_len (l := fs ++ [t]) (k := ys) (nd_snoc fnd c) fun u m => (List.mem_append.mp m).elim (fy u) fun z => by rw [List.mem_singleton.mp z]; exact tk
            rw [List.length_append] at this
            exact this
          have k1'' : DPut (upd H2 D (.lst (l0.map V.int))) d (kV (Sum.inl t)) (V.bl true) (upd (upd H2 D (.lst (l0.map V.int))) d (.dK (putK (seenK fs) (Sum.inl t) (V.bl true)))) := DPut.k k1' (by unfold seenK; rw [List.length_map]; exact line1000 (by omega))
          rw [seen_put, addS_new c] at k1''
          refine ⟨_, rfl, _, rfl, d, _, rfl, k1'', ?_⟩
          have kd : Same H (upd (upd H2 D (.lst (l0.map V.int))) d (.dK (seenK (fs ++ [t])))) := fun b u e => by rw [upd_ne (ne_of_none e hd)]; exact kD b u e
          have hD3 : (upd (upd H2 D (.lst (l0.map V.int))) d (.dK (seenK (fs ++ [t])))) D = some (.lst (l0.map V.int)) := by rw [upd_ne neDd]; exact upd_same
          obtain ⟨th, eg⟩ := kget_of_key (hyk t tk)
          obtain ⟨ob, il, li, va⟩ := (ht.same kd).at_ _ (kget_mem eg)
          -- left.extend([other for other in things_of(held[thing].inside) if other in some])
          refine ⟨_, rfl, Or.inl ⟨rfl, _, Or.inl (Or.inl hD3)⟩, ?_⟩
          refine ⟨_, rfl, _, rfl, ka, V.ref (L.ad t), rfl, dget_rd (k := Sum.inl t) (rd_keep hk kd) (by rw [keptK_val, eg]; rfl), L.ad t, _, L.td t, _, _, rfl, ob, E.c_IdealThing, E.n_IdealThing_inside, tf_inside, _, il, th.inside, rfl, SqL.of li, va, ?_, fun ts H3 p s3 hp hp3 hts tnd tlen => ?_⟩
          · have f6 : th.inside.length ≤ 6 := few _ (kget_mem eg)
            omega
          refine ⟨p, rfl, ⟨_, SqL.of hp3⟩, fun F hF => ?_⟩
          have f6 : th.inside.length ≤ 6 := few _ (kget_mem eg)
          have kH3 : Same H H3 := kd.trans s3
          refine lc_it (walk_list (xs := ts.map V.int)) (fun i H4 => H4 F = some (.lst (((ts.take i).filter fun t => decide (t ∈ ys)).map V.int)) ∧ Same H3 H4)
            ⟨by simp [upd_same], upd_same_of_none hF⟩ (fun i H4 _ h => h.2.seq (SqL.of hp3)) ?_ ?_
          · rintro i v H4 H5 hi ⟨g1, g2⟩ ⟨rfl, hv⟩
            obtain ⟨t', ht1, rfl⟩ := map_int_get hv
            refine ⟨rfl, _, rfl, _, rfl, ya, _, rfl, dget_rd (k := Sum.inl t') (Or.inl (g2 _ _ (kH3 _ _ hy))) rfl, _, rfl, ?_⟩
            rw [seen_some]
            have e1 := filter_take (p := fun t => decide (t ∈ ys)) ht1
            refine ifd (fun c => ⟨_, rfl, _, g1, ?_, ?_, fun b o e => ?_⟩) fun c => ⟨?_, g2⟩
            · rw [List.length_map]
              have := List.length_filter_le (fun t => decide (t ∈ ys)) (ts.take i)
              rw [List.length_take] at this
              exact line1000 (by omega)
            · rw [upd_same, e1, if_pos (decide_eq_true c), List.map_append]
              rfl
            · rw [upd_ne (ne_of_none e hF)]
              exact g2 b o e
            · rw [g1, e1, if_neg (by simpa using c), List.append_nil]
          · rintro H4 ⟨g1, g2⟩
            have e2 : (ts.map V.int).length = ts.length := List.length_map _
            rw [e2, List.take_length] at g1
            have zl := List.length_filter_le (fun t => decide (t ∈ ys)) ts
            have gD : H4 D = some (.lst (l0.map V.int)) := g2 _ _ (s3 _ _ hD3)
            have gd : H4 d = some (.dK (seenK (fs ++ [t]))) := g2 _ _ (s3 _ _ upd_same)
            rw [List.length_append, List.length_singleton] at big
            refine ⟨D, F, l0.map V.int, _, rfl, rfl, gD, g1, ?_, ?_⟩
            · rw [List.length_map, List.length_map]
              exact Nat.le_of_lt (line1000 (by omega))
            refine ⟨7 * (ys.length - (fs ++ [t]).length) + (l0 ++ ts.filter fun t => decide (t ∈ ys)).length, ?_, fs ++ [t], l0 ++ ts.filter fun t => decide (t ∈ ys), _, _, rfl, ?_, ?_, fun b o e => ?_, nd_snoc fnd c, fun u m => ?_, I.grow A eg fun u => ?_, ?_, rfl⟩
            · rw [List.length_append, List.length_append, List.length_append, List.length_singleton]
              omega
            · rw [upd_ne neDd.symm]
              exact gd
            · rw [upd_same, List.map_append]
            · rw [upd_ne (ne_of_none e HD)]
              exact g2 b o (kH3 b o e)
            · exact (List.mem_append.mp m).elim (fy u) fun z => by rw [List.mem_singleton.mp z]; exact tk
            · rw [List.mem_filter, hts u, decide_eq_true_eq]
            · rw [List.length_append, List.length_append, List.length_singleton]
              omega
        · -- an old one
          refine ⟨7 * (ys.length - fs.length) + l0.length, ?_, fs, l0, _, _, rfl, k1', upd_same, kD, fnd, fy, I.skip c, ?_, rfl⟩
          · rw [List.length_append, List.length_singleton]
            omega
          · rw [List.length_append, List.length_singleton] at big
            omega
end
end Sh
end

section
set_option Elab.async false
set_option linter.all false
set_option maxRecDepth 100000
set_option maxHeartbeats 4000000
namespace Sh
open PySem PySem.Spec PyProof.Rows L2
theorem Led.congr {kept : List (Int × Thing)} {s1 s2 o1 o2 : Int → Prop} (hs : ∀ t, s1 t ↔ s2 t) (ho : ∀ t, o1 t ↔ o2 t) {t : Int} : Led kept s1 o1 t ↔ Led kept s2 o2 t := by
  have e1 : s1 = s2 := funext fun t => propext (hs t)
  have e2 : o1 = o2 := funext fun t => propext (ho t)
  rw [e1, e2]
section
variable {P : Program} {w : World} {K : PySem.W.Frag} {mg : Str → Option Value} {base : Heap}
def spYKept (K : PySem.W.Frag) : Sp := fun vs H Q _ => ∃ (ka ha : Addr) (L : Lay) (h : IH) (hl : List V), vs = [.ref ka, .ref ha] ∧ H ka = some (.dK (keptK L h.kept)) ∧ Things (CT K) H L h.kept ∧ H ha = some (.lst hl) ∧ VAs H hl h.hands ∧ WF h ∧
  ∀ (fs : List Int) (H' : Hp) (p : Addr), Same H H' → H p = none → H' p = some (.dK (seenK fs)) → fs.Nodup → (∀ t, t ∈ fs ↔ Stay h t) → Q (.ref p) H'
theorem sc_young_kept : FnScope ["held", "hands", "starts", "thing"] ["held", "hands"] (defScope st_young_kept) := ⟨rfl, rfl, rfl, by decide +kernel, rfl, by decide +kernel, by decide +kernel⟩
theorem ok_young_kept (E : Txt K mg) : FnOk P w K mg base CX0 5 (fAd at_young_kept K) (fdOf at_young_kept K) ["held", "hands"] (spYKept K) := by
  refine FunD.ok0 E.fd_young_kept sc_young_kept (fun vs H Q E0 h => ?_) (fun cdv A outer s H vs Q E0 hr h => ?_)
  · obtain ⟨v, x, y, L, k, rfl, _⟩ := h
    rfl
  · obtain ⟨ka, ha, L, h, hl, rfl, hk, ht, hh, hv, W, q⟩ := h
    refine ⟨_, (pss_cons (ps_set (i := 2) sc_young_kept.nd rfl (Or.inl rfl) (pe_call (ok_things_of E) (hr.mono (by decide)) (by rfl) E.g_things_of E.fd_things_of.kp E.b_things_of .nil pass0 (pa_cons (pv 1) pa_nil)))
      (pss_cons (ps_lock (ps_for PassesOwn.never rfl (pi_keys (pv 0)) (pg_name (i := 3) sc_young_kept.nd rfl (Or.inl rfl)) (pss_one (ps_if (pt_val (pe_fld (pe_dget (hu_of hr) (pv 0) (pv 3) (fun _ _ => rfl)) rfl)) (pss_one (ps_expr (pe_bm PySem.F.plainAttrs_list PySem.F.slot_list_extend PySem.F.type_list_extend mt_extend (pv 2) (pa_cons (pe_call (ok_things_of E) (hr.mono (by decide)) (by rfl) E.g_things_of E.fd_things_of.kp E.b_things_of .nil pass0 (pa_cons (pe_fld (pe_dget (hu_of hr) (pv 0) (pv 3) (fun _ _ => rfl)) rfl) pa_nil)) pa_nil)))) pss_nil))))
      (pss_one (ps_ret (pe_call (ok_led_within E) (hr.mono (by decide)) (by rfl) E.g_led_within E.fd_led_within.kp E.b_led_within .nil pass0 (pa_cons (pv 0) (pa_cons (pv 2) (pa_cons (pe_call (ok_young_things E) (hr.mono (by decide)) (by rfl) E.g_young_things E.fd_young_things.kp E.b_young_things .nil pass0 (pa_cons (pv 0) pa_nil)) pa_nil)))))))), ?_⟩
    have klen := W.klen
    refine ⟨_, rfl, ha, hl, h.hands, rfl, SqL.of hh, hv, by rw [W.hl]; decide, fun ts H1 p s1 hp hp1 hts tnd tlen => ?_⟩
    -- for thing in held: ..
    refine ⟨ka, .dK (keptK L h.kept), s1 _ _ hk, trivial, fun od => ?_⟩
    have nkp : ka ≠ p := ne_of_none hk hp
    refine ⟨_, rfl, ka, od, rfl, Or.inl ⟨_, upd_same, for_it (walk_keys (kvs := keptK L h.kept)) (fun i σ H2 => ∃ (ss : List Int) (u3 : Option V), σ = [some (.ref ka), some (.ref ha), some (.ref p), u3] ∧ H2 ka = some (.frz od (.dK (keptK L h.kept))) ∧
      H2 p = some (.lst (ss.map V.int)) ∧ (∀ b o, H b = some o → b ≠ ka → H2 b = some o) ∧ (∀ t, t ∈ ss ↔ Val.thg t ∈ h.hands ∨ ∃ r ∈ h.kept.take i, r.2.aged = true ∧ Val.thg t ∈ r.2.inside) ∧ ss.length ≤ 8 + 6 * i)
      ⟨ts, none, rfl, upd_same, by rw [upd_ne nkp.symm]; exact hp1, fun b o e hne => by rw [upd_ne hne]; exact s1 b o e, fun t => by rw [hts t]; simp, by rw [W.hl] at tlen; omega⟩ (fun i σ H2 _ ⟨_, _, _, h2, _⟩ => h2) ?_ ?_⟩⟩
    · rintro i v σ H3 H2 hi ⟨ss, u3, rfl, h1, h2, h3, h4, h5⟩ ⟨rfl, k, kv, hkv, rfl⟩
      obtain ⟨r, hr, rfl⟩ := keptK_get hkv
      have rm := List.mem_of_getElem? hr
      obtain ⟨ob, il, li, va⟩ := (ht.off hk trivial h3).at_ r rm
      have eg : kget h.kept r.1 = some r.2 := mem_kget W.asc rm
      have dg : DGet H2 ka (kV (Sum.inl r.1)) (some (V.ref (L.ad r.1))) := dget_rd (Or.inr ⟨od, h1⟩) (by rw [keptK_val, eg]; rfl)
      have ilen : i < h.kept.length := (List.getElem?_eq_some_iff.mp hr).1
      have f6 : r.2.inside.length ≤ 6 := W.few r rm
      have e1 := take_sub hr
      refine ⟨_, rfl, _, rfl, ka, V.ref (L.ad r.1), rfl, dg, L.ad r.1, _, L.td r.1, _, _, rfl, ob, E.c_IdealThing, E.n_IdealThing_aged, tf_aged, _, rfl, ?_⟩
      cases ag : r.2.aged with
      | false =>
        refine iteF ⟨ss, _, rfl, h1, h2, h3, fun t => ?_, by omega⟩
        rw [h4 t, e1]
        constructor
        · rintro (a | ⟨x, hx, a⟩)
          · exact Or.inl a
          · exact Or.inr ⟨x, List.mem_append_left _ hx, a⟩
        · rintro (a | ⟨x, hx, a, b⟩)
          · exact Or.inl a
          · rcases List.mem_append.mp hx with z | z
            · exact Or.inr ⟨x, z, a, b⟩
            · rw [List.mem_singleton.mp z, ag] at a
              cases a
      | true =>
        refine iteT ⟨_, rfl, Or.inl ⟨rfl, _, Or.inl (Or.inl h2)⟩, ?_⟩
        refine ⟨_, rfl, _, rfl, ka, V.ref (L.ad r.1), rfl, dg, L.ad r.1, _, L.td r.1, _, _, rfl, ob, E.c_IdealThing, E.n_IdealThing_inside, tf_inside, _, il, r.2.inside, rfl, SqL.of li, va, by omega, fun us H4 z s4 hz hz4 hus und ulen => ?_⟩
        refine ⟨p, z, _, _, rfl, rfl, s4 _ _ h2, hz4, ?_, ss ++ us, _, rfl, ?_, ?_, fun b o e hne => ?_, fun t => ?_, ?_⟩
        · rw [List.length_map, List.length_map]
          exact Nat.le_of_lt (line1000 (by omega))
        · rw [upd_ne nkp]
          exact s4 _ _ h1
        · rw [upd_same, List.map_append]
        · rw [upd_ne (ne_of_none e hp)]
          exact s4 b o (h3 b o e hne)
        · rw [List.mem_append, h4 t, hus t, e1]
          constructor
          · rintro ((a | ⟨x, hx, a⟩) | a)
            · exact Or.inl a
            · exact Or.inr ⟨x, List.mem_append_left _ hx, a⟩
            · exact Or.inr ⟨r, by simp, ag, a⟩
          · rintro (a | ⟨x, hx, a, b⟩)
            · exact Or.inl (Or.inl a)
            · rcases List.mem_append.mp hx with z | z
              · exact Or.inl (Or.inr ⟨x, z, a, b⟩)
              · rw [List.mem_singleton.mp z] at b
                exact Or.inr b
        · rw [List.length_append]
          omega
    · rintro σ H2 ⟨ss, u3, rfl, h1, h2, h3, h4, h5⟩
      have e0 : (keptK L h.kept).length = h.kept.length := List.length_map _
      rw [e0, List.take_length] at h4
      rw [e0] at h5
      refine ⟨h1, ?_⟩
      have sH : Same H (upd H2 ka (.dK (keptK L h.kept))) := same_unlock hk h3
      -- return led_within(held, starts, young_things(held))
      refine ⟨_, rfl, _, rfl, _, rfl, ka, L, h.kept, rfl, upd_same, ht.same sH, W.asc, by omega, fun H4 y s4 hy hy4 => ?_⟩
      have yl : (keys (young h.kept)).length ≤ 400 := by
        unfold keys young
        rw [List.length_map]
        exact Nat.le_trans (List.length_filter_le _ _) klen
      refine ⟨ka, p, y, L, h.kept, ss, keys (young h.kept), rfl, Or.inl (s4 _ _ upd_same), (ht.same sH).same s4, W.asc, s4 _ _ (by rw [upd_ne nkp.symm]; exact h2), hy4, asc_nodup (asc_young W.asc), fun t m => keys_young_sub m, W.few, by omega, by omega, fun fs H5 z s5 hz hz5 fnd hfs => ?_⟩
      have s05 := (sH.trans s4).trans s5
      refine q fs H5 z s05 ((sH.trans s4).free hz) hz5 fnd fun t => (hfs t).trans (Led.congr (fun t => h4 t) fun t => mem_young W.asc)
end
end Sh
end

section
set_option Elab.async false
set_option linter.all false
set_option maxRecDepth 100000
set_option maxHeartbeats 4000000
/-! A heap as it stands. -/
namespace Sh
open PySem PySem.Spec PyProof.Rows L2
def hf (h : IH) (L : Lay) : List (Str × V) := [("room", .int h.room), ("limit", .int h.limit), ("in_hands", .ref L.ha), ("naming", .ref L.na), ("kept", .ref L.ka), ("count", .int h.count), ("going", .non), ("spoken", .ref L.sa)]
section
variable {h : IH} {L : Lay}
theorem hf_room : (hf h L).lookup ("room" : Str) = some (.int h.room) := by kernel_rfl
theorem hf_limit : (hf h L).lookup ("limit" : Str) = some (.int h.limit) := by kernel_rfl
theorem hf_in_hands : (hf h L).lookup ("in_hands" : Str) = some (.ref L.ha) := by kernel_rfl
theorem hf_naming : (hf h L).lookup ("naming" : Str) = some (.ref L.na) := by kernel_rfl
theorem hf_kept : (hf h L).lookup ("kept" : Str) = some (.ref L.ka) := by kernel_rfl
theorem hf_count : (hf h L).lookup ("count" : Str) = some (.int h.count) := by kernel_rfl
theorem hf_going : (hf h L).lookup ("going" : Str) = some .non := by kernel_rfl
theorem hf_spoken : (hf h L).lookup ("spoken" : Str) = some (.ref L.sa) := by kernel_rfl
theorem hf_put_naming {z : Addr} : putF "naming" (.ref z) (hf h L) = hf h { L with na := z } := by kernel_rfl
theorem hf_put_count {c : Int} : putF "count" (.int c) (hf h L) = hf { h with count := c } L := by kernel_rfl
theorem hf_len : (hf h L).length < 1000 := by show 8 < 1000; decide
end
structure Sep (L : Lay) (kept : List (Int × Thing)) : Prop where
  hn : L.ha ≠ L.na
  hs : L.ha ≠ L.sa
  ns : L.na ≠ L.sa
  ilh : ∀ q ∈ kept, L.il q.1 ≠ L.ha
  iln : ∀ q ∈ kept, L.il q.1 ≠ L.na
  ils : ∀ q ∈ kept, L.il q.1 ≠ L.sa
  ad : ∀ q ∈ kept, ∀ r ∈ kept, L.ad q.1 = L.ad r.1 → q.1 = r.1
  il : ∀ q ∈ kept, ∀ r ∈ kept, L.il q.1 = L.il r.1 → q.1 = r.1
/-- the places that a heap's deeds may change -/
def fp (p : Addr) (L : Lay) (kept : List (Int × Thing)) (b : Addr) : Prop := b = p ∨ b = L.ha ∨ b = L.na ∨ b = L.ka ∨ b = L.sa ∨ ∃ q ∈ kept, b = L.ad q.1 ∨ b = L.il q.1
structure AtR (K : PySem.W.Frag) (H : Hp) (p : Addr) (h : IH) (L : Lay) : Prop where
  ob : H p = some (.ins (CH K) L.dx (hf h L))
  hands : ∃ hl, H L.ha = some (.lst hl) ∧ VAs H hl h.hands
  names : H L.na = some (.lst (h.names.map oV))
  kept : H L.ka = some (.dK (keptK L h.kept))
  spoken : H L.sa = some (.lst (h.spoken.map V.int))
  things : Things (CT K) H L h.kept
  sep : Sep L h.kept
structure At (K : PySem.W.Frag) (H : Hp) (p : Addr) (h : IH) (L : Lay) : Prop extends AtR K H p h L where
  wf : WF h
/-- what a deed leaves: all but the heap's own places; new ones are new -/
structure Fr (p : Addr) (L : Lay) (kept : List (Int × Thing)) (H : Hp) (L' : Lay) (kept' : List (Int × Thing)) (H' : Hp) : Prop where
  keep : ∀ b o, H b = some o → ¬ fp p L kept b → H' b = some o
  new : ∀ b, fp p L' kept' b → fp p L kept b ∨ H b = none
theorem Fr.refl (p : Addr) (L : Lay) (kept : List (Int × Thing)) (H : Hp) : Fr p L kept H L kept H := ⟨fun _ _ e _ => e, fun _ h => Or.inl h⟩
theorem Fr.trans {p : Addr} {L L1 L2 : Lay} {k k1 k2 : List (Int × Thing)} {H H1 H2 : Hp} (a : Fr p L k H L1 k1 H1) (b : Fr p L1 k1 H1 L2 k2 H2) : Fr p L k H L2 k2 H2 := by
  refine ⟨fun x o e n => b.keep x o (a.keep x o e n) fun f => ?_, fun x f => ?_⟩
  · rcases a.new x f with z | z
    · exact n z
    · rw [e] at z
      cases z
  · rcases b.new x f with z | z
    · exact a.new x z
    · by_cases c : fp p L k x
      · exact Or.inl c
      · cases e : H x with
        | none => exact Or.inr rfl
        | some o =>
          rw [a.keep x o e c] at z
          cases z
theorem Fr.same {p : Addr} {L : Lay} {k : List (Int × Thing)} {H H' : Hp} (s : Same H H') : Fr p L k H L k H' := ⟨fun b o e _ => s b o e, fun _ h => Or.inl h⟩
theorem Fr.upd {p : Addr} {L : Lay} {k k' : List (Int × Thing)} {H : Hp} {x : Addr} {o : HO} (hx : fp p L k x) (hk : keys k' = keys k) : Fr p L k H L k' (upd H x o) := by
  refine ⟨fun b u e n => by rw [upd_ne fun z => n (by rw [z]; exact hx)]; exact e, fun b f => Or.inl ?_⟩
  rcases f with z | z | z | z | z | ⟨q, hq, z⟩
  · exact Or.inl z
  · exact Or.inr (Or.inl z)
  · exact Or.inr (Or.inr (Or.inl z))
  · exact Or.inr (Or.inr (Or.inr (Or.inl z)))
  · exact Or.inr (Or.inr (Or.inr (Or.inr (Or.inl z))))
  · have m : q.1 ∈ keys k := by rw [← hk]; exact List.mem_map.mpr ⟨q, hq, rfl⟩
    obtain ⟨r, hr, e⟩ := List.mem_map.mp m
    exact Or.inr (Or.inr (Or.inr (Or.inr (Or.inr ⟨r, hr, by rw [e]; exact z⟩))))
section
variable {K : PySem.W.Frag} {H H' : Hp} {p : Addr} {h : IH} {L : Lay}
theorem fp_p : fp p L h.kept p := Or.inl rfl
theorem fp_ha : fp p L h.kept L.ha := Or.inr (Or.inl rfl)
theorem fp_na : fp p L h.kept L.na := Or.inr (Or.inr (Or.inl rfl))
theorem fp_ka : fp p L h.kept L.ka := Or.inr (Or.inr (Or.inr (Or.inl rfl)))
theorem fp_sa : fp p L h.kept L.sa := Or.inr (Or.inr (Or.inr (Or.inr (Or.inl rfl))))
theorem fp_ad {q : Int × Thing} (hq : q ∈ h.kept) : fp p L h.kept (L.ad q.1) := Or.inr (Or.inr (Or.inr (Or.inr (Or.inr ⟨q, hq, Or.inl rfl⟩))))
theorem fp_il {q : Int × Thing} (hq : q ∈ h.kept) : fp p L h.kept (L.il q.1) := Or.inr (Or.inr (Or.inr (Or.inr (Or.inr ⟨q, hq, Or.inr rfl⟩))))
/-- no tuple stands at a place of the heap's -/
theorem AtR.notup (A : AtR K H p h L) {b : Addr} (f : fp p L h.kept b) (xs : List V) : H b ≠ some (.tup xs) := by
  rcases f with z | z | z | z | z | ⟨q, hq, z | z⟩
  · rw [z, A.ob]
    intro e
    cases e
  · obtain ⟨hl, e1, _⟩ := A.hands
    rw [z, e1]
    intro e
    cases e
  · rw [z, A.names]
    intro e
    cases e
  · rw [z, A.kept]
    intro e
    cases e
  · rw [z, A.spoken]
    intro e
    cases e
  · rw [z, (A.things.at_ q hq).ob]
    intro e
    cases e
  · obtain ⟨il, e1, _⟩ := (A.things.at_ q hq).li
    rw [z, e1]
    intro e
    cases e
theorem AtR.there (A : AtR K H p h L) {b : Addr} (f : fp p L h.kept b) : H b ≠ none := by
  rcases f with z | z | z | z | z | ⟨q, hq, z | z⟩
  · rw [z, A.ob]
    intro e
    cases e
  · obtain ⟨hl, e1, _⟩ := A.hands
    rw [z, e1]
    intro e
    cases e
  · rw [z, A.names]
    intro e
    cases e
  · rw [z, A.kept]
    intro e
    cases e
  · rw [z, A.spoken]
    intro e
    cases e
  · rw [z, (A.things.at_ q hq).ob]
    intro e
    cases e
  · obtain ⟨il, e1, _⟩ := (A.things.at_ q hq).li
    rw [z, e1]
    intro e
    cases e
theorem Fr.tups {L' : Lay} {k' : List (Int × Thing)} (F : Fr p L h.kept H L' k' H') (A : AtR K H p h L) : Tups H H' := fun b xs e => F.keep b _ e fun f => A.notup f xs e
/-- a heap stands where its places stand -/
theorem AtR.keep (A : AtR K H p h L) (k : ∀ b o, H b = some o → fp p L h.kept b → H' b = some o) (t : Tups H H') : AtR K H' p h L := by
  obtain ⟨ob, ⟨hl, h1, h2⟩, nm, kp, sp, th, sep⟩ := A
  refine ⟨k _ _ ob fp_p, ⟨hl, k _ _ h1 fp_ha, h2.mono t⟩, k _ _ nm fp_na, k _ _ kp fp_ka, k _ _ sp fp_sa, ⟨fun q hq => ?_⟩, sep⟩
  obtain ⟨o1, il, l1, va⟩ := th.at_ q hq
  exact ⟨k _ _ o1 (fp_ad hq), il, k _ _ l1 (fp_il hq), va.mono t⟩
theorem AtR.same (A : AtR K H p h L) (s : Same H H') : AtR K H' p h L := A.keep (fun b o e _ => s b o e) (Tups.of s)
theorem At.same (A : At K H p h L) (s : Same H H') : At K H' p h L := ⟨A.toAtR.same s, A.wf⟩
/-- another heap's deed leaves this one -/
theorem At.other {p2 : Addr} {h2 : IH} {L2 L2' : Lay} {k2' : List (Int × Thing)} (A : At K H p h L) (B : AtR K H p2 h2 L2) (F : Fr p2 L2 h2.kept H L2' k2' H') (d : ∀ b, fp p L h.kept b → ¬ fp p2 L2 h2.kept b) : At K H' p h L :=
  ⟨A.toAtR.keep (fun b o e f => F.keep b o e (d b f)) (F.tups B), A.wf⟩
theorem apart_after {p2 : Addr} {h2 : IH} {L2 L2' : Lay} {k2' : List (Int × Thing)} (A : AtR K H p h L) (F : Fr p2 L2 h2.kept H L2' k2' H') (d : ∀ b, fp p L h.kept b → ¬ fp p2 L2 h2.kept b) : ∀ b, fp p L h.kept b → ¬ fp p2 L2' k2' b := fun b f g => by
  rcases F.new b g with z | z
  · exact d b f z
  · exact A.there f z
/-! ### one place changed -/
/-- a list of the heap's, and it is none of the things' -/
theorem AtR.set_hand (A : AtR K H p h L) {hl : List V} (e : H L.ha = some (.lst hl)) (va : VAs H hl h.hands) {v : V} {x : Val} (hv : VA H v x) (i : Nat) :
    AtR K (upd H L.ha (.lst (hl.set i v))) p { h with hands := h.hands.set i x } L := by
  have t : Tups H (upd H L.ha (.lst (hl.set i v))) := Tups.upd e fun _ z => by cases z
  have nl : ∀ {b : Addr} {o : HO}, H b = some o → (∀ xs, o ≠ .lst xs) → b ≠ L.ha := fun {b o} eb no => ne_of eb e (no hl)
  refine ⟨?_, ⟨_, upd_same, (va.set hv i).mono t⟩, ?_, ?_, ?_, ⟨fun q hq => ?_⟩, A.sep⟩
  · rw [upd_ne (nl A.ob fun _ z => by cases z)]
    exact A.ob
  · rw [upd_ne A.sep.hn.symm]
    exact A.names
  · rw [upd_ne (nl A.kept fun _ z => by cases z)]
    exact A.kept
  · rw [upd_ne A.sep.hs.symm]
    exact A.spoken
  · obtain ⟨o1, il, l1, vi⟩ := A.things.at_ q hq
    exact ⟨by rw [upd_ne (nl o1 fun _ z => by cases z)]; exact o1, il, by rw [upd_ne (A.sep.ilh q hq)]; exact l1, vi.mono t⟩
theorem AtR.set_name (A : AtR K H p h L) (i : Nat) (n : Option Int) : AtR K (upd H L.na (.lst ((h.names.map oV).set i (oV n)))) p { h with names := h.names.set i n } L := by
  have e := A.names
  have t : Tups H (upd H L.na (.lst ((h.names.map oV).set i (oV n)))) := Tups.upd e fun _ z => by cases z
  have nl : ∀ {b : Addr} {o : HO}, H b = some o → (∀ xs, o ≠ .lst xs) → b ≠ L.na := fun {b o} eb no => ne_of eb e (no _)
  obtain ⟨hl, h1, h2⟩ := A.hands
  refine ⟨?_, ⟨hl, by rw [upd_ne A.sep.hn]; exact h1, h2.mono t⟩, ?_, ?_, ?_, ⟨fun q hq => ?_⟩, A.sep⟩
  · rw [upd_ne (nl A.ob fun _ z => by cases z)]
    exact A.ob
  · rw [upd_same, List.map_set]
  · rw [upd_ne (nl A.kept fun _ z => by cases z)]
    exact A.kept
  · rw [upd_ne A.sep.ns.symm]
    exact A.spoken
  · obtain ⟨o1, il, l1, vi⟩ := A.things.at_ q hq
    exact ⟨by rw [upd_ne (nl o1 fun _ z => by cases z)]; exact o1, il, by rw [upd_ne (A.sep.iln q hq)]; exact l1, vi.mono t⟩
theorem AtR.set_spoken (A : AtR K H p h L) (r : List Int) : AtR K (upd H L.sa (.lst (r.map V.int))) p { h with spoken := r } L := by
  have e := A.spoken
  have t : Tups H (upd H L.sa (.lst (r.map V.int))) := Tups.upd e fun _ z => by cases z
  have nl : ∀ {b : Addr} {o : HO}, H b = some o → (∀ xs, o ≠ .lst xs) → b ≠ L.sa := fun {b o} eb no => ne_of eb e (no _)
  obtain ⟨hl, h1, h2⟩ := A.hands
  refine ⟨?_, ⟨hl, by rw [upd_ne A.sep.hs]; exact h1, h2.mono t⟩, ?_, ?_, upd_same, ⟨fun q hq => ?_⟩, A.sep⟩
  · rw [upd_ne (nl A.ob fun _ z => by cases z)]
    exact A.ob
  · rw [upd_ne A.sep.ns]
    exact A.names
  · rw [upd_ne (nl A.kept fun _ z => by cases z)]
    exact A.kept
  · obtain ⟨o1, il, l1, vi⟩ := A.things.at_ q hq
    exact ⟨by rw [upd_ne (nl o1 fun _ z => by cases z)]; exact o1, il, by rw [upd_ne (A.sep.ils q hq)]; exact l1, vi.mono t⟩
theorem Sep.of_keys {L : Lay} {k k' : List (Int × Thing)} (S : Sep L k) (e : ∀ q ∈ k', q.1 ∈ keys k) : Sep L k' := by
  have bk : ∀ q ∈ k', ∃ r ∈ k, r.1 = q.1 := fun q hq => List.mem_map.mp (e q hq)
  refine ⟨S.hn, S.hs, S.ns, fun q hq => ?_, fun q hq => ?_, fun q hq => ?_, fun q hq r hr z => ?_, fun q hq r hr z => ?_⟩
  · obtain ⟨s, hs, e⟩ := bk q hq
    rw [← e]
    exact S.ilh s hs
  · obtain ⟨s, hs, e⟩ := bk q hq
    rw [← e]
    exact S.iln s hs
  · obtain ⟨s, hs, e⟩ := bk q hq
    rw [← e]
    exact S.ils s hs
  · obtain ⟨s, hs, e⟩ := bk q hq
    obtain ⟨u, hu, f⟩ := bk r hr
    rw [← e, ← f] at z ⊢
    exact S.ad s hs u hu z
  · obtain ⟨s, hs, e⟩ := bk q hq
    obtain ⟨u, hu, f⟩ := bk r hr
    rw [← e, ← f] at z ⊢
    exact S.il s hs u hu z
theorem keptK_kmod (L : Lay) (k : List (Int × Thing)) (t : Int) (f : Thing → Thing) : keptK L (kmod k t f) = keptK L k := by
  unfold keptK kmod
  rw [List.map_map]
  refine List.map_congr_left fun q _ => ?_
  show ((Sum.inl (if q.1 = t then (q.1, f q.2) else q).1 : Key), V.ref (L.ad (if q.1 = t then (q.1, f q.2) else q).1)) = _
  split <;> rfl
theorem kmod_keys_mem {k : List (Int × Thing)} {t : Int} {f : Thing → Thing} {q : Int × Thing} (hq : q ∈ kmod k t f) : q.1 ∈ keys k := by
  rw [← keys_kmod k t f]
  exact List.mem_map.mpr ⟨q, hq, rfl⟩
/-- a thing's object changed: age, last word -/
theorem AtR.set_thing (A : AtR K H p h L) (wa : Asc h.kept) {t : Int} {th : Thing} (e : kget h.kept t = some th) (f : Thing → Thing) (hi : ∀ th, (f th).inside = th.inside) :
    AtR K (upd H (L.ad t) (.ins (CT K) (L.td t) (tf (L.il t) (f th).aged (f th).word))) p { h with kept := kmod h.kept t f } L := by
  have m := kget_mem e
  obtain ⟨o1, il, l1, vi⟩ := A.things.at_ _ m
  have tt : Tups H (upd H (L.ad t) (.ins (CT K) (L.td t) (tf (L.il t) (f th).aged (f th).word))) := Tups.upd o1 fun _ z => by cases z
  have nl : ∀ {b : Addr} {o : HO}, H b = some o → (o ≠ .ins (CT K) (L.td t) (tf (L.il t) th.aged th.word)) → b ≠ L.ad t := fun {b o} eb no => ne_of eb o1 no
  obtain ⟨hl, h1, h2⟩ := A.hands
  refine ⟨?_, ⟨hl, by rw [upd_ne (nl h1 fun z => by cases z)]; exact h1, h2.mono tt⟩, ?_, ?_, ?_, ⟨fun q hq => ?_⟩, A.sep.of_keys fun q hq => kmod_keys_mem hq⟩
  · rw [upd_ne (nl A.ob fun z => by
      injection z with z1 z2 z3
      exact absurd (congrArg List.length z3) (by show ¬ 8 = 3; decide))]
    exact A.ob
  · rw [upd_ne (nl A.names fun z => by cases z)]
    exact A.names
  · rw [upd_ne (nl A.kept fun z => by cases z)]
    show H L.ka = some (.dK (keptK L (kmod h.kept t f)))
    rw [keptK_kmod]
    exact A.kept
  · rw [upd_ne (nl A.spoken fun z => by cases z)]
    exact A.spoken
  · obtain ⟨r, hr, e1, ⟨e2, e3⟩ | ⟨e2, e3⟩⟩ := mem_kmod hq
    · have er : r = (t, th) := asc_uniq wa hr m e2
      subst er
      rw [e1, e3]
      refine ⟨upd_same, il, ?_, ?_⟩
      · rw [upd_ne (nl l1 fun z => by cases z)]
        exact l1
      · rw [hi]
        exact vi.mono tt
    · obtain ⟨o2, il2, l2, v2⟩ := A.things.at_ r hr
      rw [e1, e3]
      refine ⟨?_, il2, ?_, v2.mono tt⟩
      · rw [upd_ne fun z => e2 (A.sep.ad r hr _ m z)]
        exact o2
      · rw [upd_ne (nl l2 fun z => by cases z)]
        exact l2
/-- a thing's fields changed -/
theorem AtR.set_inside (A : AtR K H p h L) (wa : Asc h.kept) {t : Int} {th : Thing} (e : kget h.kept t = some th) {il : List V} (el : H (L.il t) = some (.lst il)) (vi : VAs H il th.inside) {v : V} {x : Val} (hv : VA H v x) (i : Nat) :
    AtR K (upd H (L.il t) (.lst (il.set i v))) p { h with kept := kmod h.kept t fun th => { th with inside := th.inside.set i x } } L := by
  have m := kget_mem e
  have tt : Tups H (upd H (L.il t) (.lst (il.set i v))) := Tups.upd el fun _ z => by cases z
  have nl : ∀ {b : Addr} {o : HO}, H b = some o → (∀ xs, o ≠ .lst xs) → b ≠ L.il t := fun {b o} eb no => ne_of eb el (no _)
  obtain ⟨hl, h1, h2⟩ := A.hands
  refine ⟨?_, ⟨hl, by rw [upd_ne (A.sep.ilh _ m).symm]; exact h1, h2.mono tt⟩, ?_, ?_, ?_, ⟨fun q hq => ?_⟩, A.sep.of_keys fun q hq => kmod_keys_mem (show q ∈ kmod h.kept t (fun th => { th with inside := th.inside.set i x }) from hq)⟩
  · rw [upd_ne (nl A.ob fun _ z => by cases z)]
    exact A.ob
  · rw [upd_ne (A.sep.iln _ m).symm]
    exact A.names
  · rw [upd_ne (nl A.kept fun _ z => by cases z)]
    show H L.ka = some (.dK (keptK L (kmod h.kept t (fun th => { th with inside := th.inside.set i x }))))
    rw [keptK_kmod]
    exact A.kept
  · rw [upd_ne (A.sep.ils _ m).symm]
    exact A.spoken
  · obtain ⟨r, hr, e1, ⟨e2, e3⟩ | ⟨e2, e3⟩⟩ := mem_kmod (show q ∈ kmod h.kept t (fun th => { th with inside := th.inside.set i x }) from hq)
    · have er : r = (t, th) := asc_uniq wa hr m e2
      subst er
      obtain ⟨o2, il2, l2, v2⟩ := A.things.at_ _ m
      rw [e1, e3]
      refine ⟨?_, _, upd_same, (vi.set hv i).mono tt⟩
      rw [upd_ne (nl o2 fun _ z => by cases z)]
      exact o2
    · obtain ⟨o2, il2, l2, v2⟩ := A.things.at_ r hr
      rw [e1, e3]
      refine ⟨?_, il2, ?_, v2.mono tt⟩
      · rw [upd_ne (nl o2 fun _ z => by cases z)]
        exact o2
      · rw [upd_ne fun z => e2 (A.sep.il r hr _ m z)]
        exact l2
end
/-! ### what a deed promises -/
def PostU (K : PySem.W.Frag) (p : Addr) (H : Hp) (h : IH) (L : Lay) (Q : VK) (E : XK) : Res Unit → Prop
  | .ok _ h' => ∀ (H' : Hp) (L' : Lay), At K H' p h' L' → Fr p L h.kept H L' h'.kept H' → Q .non H'
  | .err e h' => ∀ (H' : Hp) (L' : Lay), At K H' p h' L' → Fr p L h.kept H L' h'.kept H' → E (.ref (eAd K e)) none H'
theorem at_int {α : Type} {xs : List α} {i : Int} {v : α} (h0 : 0 ≤ i) (h : xs[i.toNat]? = some v) : atI xs i = some v := by
  have e : i = (i.toNat : Int) := by omega
  rw [e]
  exact atI_nat h
theorem ixN_int {n : Nat} {i : Int} (h0 : 0 ≤ i) (h1 : i < n) : ixN n i = some i.toNat := by
  unfold ixN
  rw [if_pos h0, if_pos h1]
theorem hand_get {K : PySem.W.Frag} {H : Hp} {p : Addr} {h : IH} {L : Lay} (A : At K H p h L) {i : Int} (hi : 0 ≤ i ∧ i < 8) : ∃ hl v, H L.ha = some (.lst hl) ∧ VAs H hl h.hands ∧ hl.length = 8 ∧ hl[i.toNat]? = some v ∧ VA H v (h.hand i) := by
  obtain ⟨hl, h1, h2⟩ := A.hands
  have l : i.toNat < h.hands.length := by rw [A.wf.hl]; omega
  obtain ⟨v, e1, e2⟩ := h2.get l
  refine ⟨hl, v, h1, h2, by rw [h2.len, A.wf.hl], e1, ?_⟩
  unfold IH.hand
  rw [List.getD_eq_getElem?_getD, List.getElem?_eq_getElem l]
  exact e2
end Sh
end

section
set_option Elab.async false
set_option linter.all false
set_option maxRecDepth 100000
set_option maxHeartbeats 4000000
/-! The heap's deeds and asks, one by one. -/
namespace Sh
open PySem PySem.Spec PyProof.Rows L2
section
variable {P : Program} {w : World} {K : PySem.W.Frag} {mg : Str → Option Value} {base : Heap}
theorem kept_dg {H : Hp} {p : Addr} {h : IH} {L : Lay} (A : AtR K H p h L) {t : Int} {th : Thing} (eg : kget h.kept t = some th) : DGet H L.ka (.int t) (some (V.ref (L.ad t))) :=
  dget_rd (k := Sum.inl t) (Or.inl A.kept) (by rw [keptK_val, eg]; rfl)
def spThingIn (K : PySem.W.Frag) : Sp := fun vs H Q E => ∃ (p : Addr) (i : Int) (h : IH) (L : Lay), vs = [.ref p, .int i] ∧ At K H p h L ∧ (0 ≤ i ∧ i < 8) ∧ (∀ t, (h.hand i).thing = some t → Q (.int t) H) ∧ ((h.hand i).thing = none → E (.ref (eAd K .badHand)) none H)
theorem sc_IdealHeap_thing_in : FnScope ["self", "h", "thing"] ["self", "h"] (defScope st_IdealHeap_thing_in) := ⟨rfl, rfl, rfl, by decide +kernel, rfl, by decide +kernel, by decide +kernel⟩
theorem ok_IdealHeap_thing_in (E : Txt K mg) : FnOk P w K mg base (L2.CX P w) 3 (fAd at_IdealHeap_thing_in K) (fdOf at_IdealHeap_thing_in K) ["self", "h"] (spThingIn K) := by
  refine FunD.ok E.fd_IdealHeap_thing_in sc_IdealHeap_thing_in (fun vs H Q E0 h => ?_) (fun cdv A outer s H vs Q E0 hr h => ?_)
  · obtain ⟨p, i, h, L, rfl, _⟩ := h
    rfl
  · obtain ⟨p, i, h, L, rfl, A, hi, q1, q2⟩ := h
    refine ⟨_, (pss_cons (ps_expr (pe_call (ok_look_at_hand E) (hr.mono (by decide)) (by rfl) E.g_look_at_hand E.fd_look_at_hand.kp E.b_look_at_hand .nil (passes_call (takes_of rfl rfl rfl rfl) fun _ _ _ _ h => h) (pa_cons (pv 1) pa_nil)))
      (pss_cons (ps_set (i := 2) sc_IdealHeap_thing_in.nd rfl (Or.inl rfl) (pe_call (ok_thing_of E) (hr.mono (by decide)) (by rfl) E.g_thing_of E.fd_thing_of.kp E.b_thing_of .nil pass0 (pa_cons (pe_ix ix_list (pe_fld (pv 0) rfl) (pv 1) (fun _ _ => rfl)) pa_nil)))
      (pss_cons (ps_if (pt_cmpR op_isN (pv 2) pe_non (nomark _)) (pss_one (ps_raise rfl (takes_of rfl rfl rfl rfl) (pmk_own PySem.F.excBase_ValueError E.x_BadHand.1 E.g_BadHand E.x_BadHand.2.1 (raises_own E.x_BadHand.2.2.1 E.x_BadHand.2.2.2) rfl))) pss_nil)
      (pss_one (ps_ret (pv 2)))))), ?_⟩
    obtain ⟨hl, v, h1, h2, h3, h4, h5⟩ := hand_get A hi
    refine ⟨_, rfl, i, rfl, fun _ => ?_, fun c => absurd hi c⟩
    refine ⟨_, rfl, p, _, _, _, _, rfl, A.ob, E.c_IdealHeap, E.n_IdealHeap_in_hands, hf_in_hands, _, rfl, L.ha, hl, i, v, rfl, rfl, SqL.of h1, at_int hi.1 h4, v, _, rfl, h5, ?_⟩
    cases e : (h.hand i).thing with
    | none => exact ⟨_, rfl, rfl, _, rfl, q2 e⟩
    | some t => exact ⟨_, rfl, rfl, _, rfl, _, rfl, q1 t e⟩
def spFieldDue (K : PySem.W.Frag) : Sp := fun vs H Q E => ∃ (p : Addr) (t k : Int) (h : IH) (L : Lay) (th : Thing), vs = [.ref p, .int t, .int k] ∧ At K H p h L ∧ kget h.kept t = some th ∧ ((0 ≤ k ∧ k < (th.inside.length : Int)) → Q .non H) ∧ (¬ (0 ≤ k ∧ k < (th.inside.length : Int)) → E (.ref (eAd K .badField)) none H)
theorem sc_IdealHeap_field_due : FnScope ["self", "thing", "k"] ["self", "thing", "k"] (defScope st_IdealHeap_field_due) := ⟨rfl, rfl, rfl, by decide +kernel, rfl, by decide +kernel, by decide +kernel⟩
theorem ok_IdealHeap_field_due (E : Txt K mg) : FnOk P w K mg base (L2.CX P w) 1 (fAd at_IdealHeap_field_due K) (fdOf at_IdealHeap_field_due K) ["self", "thing", "k"] (spFieldDue K) := by
  refine FunD.ok E.fd_IdealHeap_field_due sc_IdealHeap_field_due (fun vs H Q E0 h => ?_) (fun cdv A outer s H vs Q E0 hr h => ?_)
  · obtain ⟨p, t, k, h, L, th, rfl, _⟩ := h
    rfl
  · obtain ⟨p, t, k, h, L, th, rfl, A, eg, q1, q2⟩ := h
    refine ⟨_, (pss_one (ps_if (PW.pt (pw_or (pt_cmpR op_lt (pv 2) pe_int (nomark _)) (pw_or1 (pt_cmpR op_ge (pv 2) (pe_callB call_len (by rfl) E.f_len PySem.boot_len (pa_cons (pe_fld (pe_dget (hu_of hr) (pe_fld (pv 0) rfl) (pv 1) (fun _ _ => rfl)) rfl) pa_nil)) (nomark _))))) (pss_one (ps_raise rfl (takes_of rfl rfl rfl rfl) (pmk_own PySem.F.excBase_ValueError E.x_BadField.1 E.g_BadField E.x_BadField.2.1 (raises_own E.x_BadField.2.2.1 E.x_BadField.2.2.2) rfl))) pss_nil)), ?_⟩
    have dg := kept_dg A.toAtR eg
    obtain ⟨ob, il, li, vi⟩ := A.things.at_ _ (kget_mem eg)
    have il2 : (il.length : Int) = (th.inside.length : Int) := by rw [vi.len]
    refine ⟨_, rfl, _, _, rfl, rfl, _, rfl, ifd (fun c => iteT (q2 (by omega))) fun c => ⟨_, rfl, _, rfl, p, _, _, _, _, rfl, A.ob, E.c_IdealHeap, E.n_IdealHeap_kept, hf_kept, _, rfl, L.ka, V.ref (L.ad t), rfl, dg, L.ad t, _, _, _, _, rfl, ob, E.c_IdealThing, E.n_IdealThing_inside, tf_inside, _, _, rfl, Or.inl ⟨_, SqL.of li, rfl⟩, _, _, rfl, rfl, _, rfl, ifd (fun d => q2 (by omega)) fun d => q1 (by omega)⟩⟩
/-- what a hand's place becomes -/
theorem hand_post {Q : VK} {E0 : XK} {H : Hp} {p : Addr} {h : IH} {L : Lay} (A : At K H p h L) {hl : List V} (h1 : H L.ha = some (.lst hl)) (h2 : VAs H hl h.hands) {i : Int} {v : V} {x : Val} (hv : VA H v x) (hx : ∀ t, x = .thg t → t ∈ keys h.kept)
    (q : PostU K p H h L Q E0 (.ok () (h.setHand i x))) : Q .non (upd H L.ha (.lst (hl.set i.toNat v))) :=
  q _ L ⟨A.toAtR.set_hand h1 h2 hv i.toNat, A.wf.setHand i hx⟩ (Fr.upd fp_ha rfl)
def spLoad (K : PySem.W.Frag) : Sp := fun vs H Q E => ∃ (p : Addr) (i g k : Int) (h : IH) (L : Lay), vs = [.ref p, .int i, .int g, .int k] ∧ At K H p h L ∧ (0 ≤ i ∧ i < 8) ∧ (0 ≤ g ∧ g < 8) ∧ PostU K p H h L Q E (dLoad h i g k)
theorem sc_IdealHeap_load : FnScope ["self", "h", "g", "k", "thing"] ["self", "h", "g", "k"] (defScope st_IdealHeap_load) := ⟨rfl, rfl, rfl, by decide +kernel, rfl, by decide +kernel, by decide +kernel⟩
theorem ok_IdealHeap_load (E : Txt K mg) : FnOk P w K mg base (L2.CX P w) 4 (fAd at_IdealHeap_load K) (fdOf at_IdealHeap_load K) ["self", "h", "g", "k"] (spLoad K) := by
  refine FunD.ok E.fd_IdealHeap_load sc_IdealHeap_load (fun vs H Q E0 h => ?_) (fun cdv A outer s H vs Q E0 hr h => ?_)
  · obtain ⟨p, i, g, k, h, L, rfl, _⟩ := h
    rfl
  · obtain ⟨p, i, g, k, h, L, rfl, A, hi, hg, q⟩ := h
    refine ⟨_, (pss_cons (ps_expr (pe_call (ok_look_at_hand E) (hr.mono (by decide)) (by rfl) E.g_look_at_hand E.fd_look_at_hand.kp E.b_look_at_hand .nil (passes_call (takes_of rfl rfl rfl rfl) fun _ _ _ _ h => h) (pa_cons (pv 1) pa_nil)))
      (pss_cons (ps_set (i := 4) sc_IdealHeap_load.nd rfl (Or.inl rfl) (pe_meth (pv 0) E.c_IdealHeap E.m_IdealHeap_thing_in (ok_IdealHeap_thing_in E) (hr.mono (by decide)) E.b_IdealHeap_thing_in .nil (passes_call (takes_of rfl rfl rfl rfl) fun _ _ _ _ h => h) (pa_cons (pv 2) pa_nil)))
      (pss_cons (ps_expr (pe_meth (pv 0) E.c_IdealHeap E.m_IdealHeap_field_due (ok_IdealHeap_field_due E) (hr.mono (by decide)) E.b_IdealHeap_field_due .nil (passes_call (takes_of rfl rfl rfl rfl) fun _ _ _ _ h => h) (pa_cons (pv 4) (pa_cons (pv 3) pa_nil))))
      (pss_one (ps_asg (pe_ix ix_list (pe_fld (pe_dget (hu_of hr) (pe_fld (pv 0) rfl) (pv 4) (fun _ _ => rfl)) rfl) (pv 3) (fun _ _ => rfl)) (pg_sub (pe_fld (pv 0) rfl) (pv 1) set_list)))))), ?_⟩
    refine ⟨_, rfl, i, rfl, fun _ => ?_, fun c => absurd hi c⟩
    unfold dLoad at q
    refine ⟨_, rfl, p, _, _, rfl, A.ob, (by kernel_rfl), _, rfl, p, g, h, L, rfl, A, hg, fun t et => ?_, fun en => ?_⟩
    · rw [et] at q
      obtain ⟨th, eg⟩ := A.wf.at_hand hg et
      dsimp only at q
      rw [eg] at q
      dsimp only at q
      refine ⟨_, rfl, p, _, _, rfl, A.ob, (by kernel_rfl), _, rfl, _, rfl, p, t, k, h, L, th, rfl, A, eg, fun c => ?_, fun c => ?_⟩
      · rw [if_pos c] at q
        have dg := kept_dg A.toAtR eg
        obtain ⟨ob, il, li, vi⟩ := A.things.at_ _ (kget_mem eg)
        obtain ⟨hl, h1, h2⟩ := A.hands
        have kl : k.toNat < th.inside.length := by omega
        obtain ⟨u, hu, vu⟩ := vi.get kl
        have eu : th.inside.getD k.toNat .non = th.inside[k.toNat] := by rw [List.getD_eq_getElem?_getD, List.getElem?_eq_getElem kl]; rfl
        refine ⟨_, rfl, p, _, _, _, _, rfl, A.ob, E.c_IdealHeap, E.n_IdealHeap_kept, hf_kept, _, rfl, L.ka, V.ref (L.ad t), rfl, dg, L.ad t, _, _, _, _, rfl, ob, E.c_IdealThing, E.n_IdealThing_inside, tf_inside, _, rfl, L.il t, il, k, u, rfl, rfl, SqL.of li, at_int c.1 hu, _, rfl, p, _, _, _, _, rfl, A.ob, E.c_IdealHeap, E.n_IdealHeap_in_hands, hf_in_hands, _, rfl, L.ha, hl, i, i.toNat, rfl, rfl, h1, ixN_int hi.1 (by rw [h2.len, A.wf.hl]; exact hi.2), ?_⟩
        rw [eu] at q
        exact hand_post A h1 h2 vu (fun z hz => A.wf.fin _ (kget_mem eg) z (by rw [← hz]; exact List.getElem_mem kl)) q
      · rw [if_neg c] at q
        exact q H L A (Fr.refl _ _ _ _)
    · rw [en] at q
      exact q H L A (Fr.refl _ _ _ _)
def spStore (K : PySem.W.Frag) : Sp := fun vs H Q E => ∃ (p : Addr) (g k i : Int) (h : IH) (L : Lay), vs = [.ref p, .int g, .int k, .int i] ∧ At K H p h L ∧ (0 ≤ g ∧ g < 8) ∧ (0 ≤ i ∧ i < 8) ∧ PostU K p H h L Q E (dStore h g k i)
theorem sc_IdealHeap_store : FnScope ["self", "g", "k", "h", "thing"] ["self", "g", "k", "h"] (defScope st_IdealHeap_store) := ⟨rfl, rfl, rfl, by decide +kernel, rfl, by decide +kernel, by decide +kernel⟩
theorem ok_IdealHeap_store (E : Txt K mg) : FnOk P w K mg base (L2.CX P w) 4 (fAd at_IdealHeap_store K) (fdOf at_IdealHeap_store K) ["self", "g", "k", "h"] (spStore K) := by
  refine FunD.ok E.fd_IdealHeap_store sc_IdealHeap_store (fun vs H Q E0 h => ?_) (fun cdv A outer s H vs Q E0 hr h => ?_)
  · obtain ⟨p, g, k, i, h, L, rfl, _⟩ := h
    rfl
  · obtain ⟨p, g, k, i, h, L, rfl, A, hg, hi, q⟩ := h
    refine ⟨_, (pss_cons (ps_set (i := 4) sc_IdealHeap_store.nd rfl (Or.inl rfl) (pe_meth (pv 0) E.c_IdealHeap E.m_IdealHeap_thing_in (ok_IdealHeap_thing_in E) (hr.mono (by decide)) E.b_IdealHeap_thing_in .nil (passes_call (takes_of rfl rfl rfl rfl) fun _ _ _ _ h => h) (pa_cons (pv 1) pa_nil)))
      (pss_cons (ps_expr (pe_call (ok_look_at_hand E) (hr.mono (by decide)) (by rfl) E.g_look_at_hand E.fd_look_at_hand.kp E.b_look_at_hand .nil (passes_call (takes_of rfl rfl rfl rfl) fun _ _ _ _ h => h) (pa_cons (pv 3) pa_nil)))
      (pss_cons (ps_expr (pe_meth (pv 0) E.c_IdealHeap E.m_IdealHeap_field_due (ok_IdealHeap_field_due E) (hr.mono (by decide)) E.b_IdealHeap_field_due .nil (passes_call (takes_of rfl rfl rfl rfl) fun _ _ _ _ h => h) (pa_cons (pv 4) (pa_cons (pv 2) pa_nil))))
      (pss_one (ps_asg (pe_ix ix_list (pe_fld (pv 0) rfl) (pv 3) (fun _ _ => rfl)) (pg_sub (pe_fld (pe_dget (hu_of hr) (pe_fld (pv 0) rfl) (pv 4) (fun _ _ => rfl)) rfl) (pv 2) set_list)))))), ?_⟩
    unfold dStore at q
    refine ⟨_, rfl, p, _, _, rfl, A.ob, (by kernel_rfl), _, rfl, p, g, h, L, rfl, A, hg, fun t et => ?_, fun en => ?_⟩
    · rw [et] at q
      obtain ⟨th, eg⟩ := A.wf.at_hand hg et
      dsimp only at q
      rw [eg] at q
      dsimp only at q
      refine ⟨_, rfl, i, rfl, fun _ => ?_, fun c => absurd hi c⟩
      refine ⟨_, rfl, p, _, _, rfl, A.ob, (by kernel_rfl), _, rfl, _, rfl, p, t, k, h, L, th, rfl, A, eg, fun c => ?_, fun c => ?_⟩
      · rw [if_pos c] at q
        have dg := kept_dg A.toAtR eg
        obtain ⟨ob, il, li, vi⟩ := A.things.at_ _ (kget_mem eg)
        obtain ⟨hl, v, h1, h2, h3, h4, h5⟩ := hand_get A hi
        refine ⟨_, rfl, p, _, _, _, _, rfl, A.ob, E.c_IdealHeap, E.n_IdealHeap_in_hands, hf_in_hands, _, rfl, L.ha, hl, i, v, rfl, rfl, SqL.of h1, at_int hi.1 h4, _, rfl, p, _, _, _, _, rfl, A.ob, E.c_IdealHeap, E.n_IdealHeap_kept, hf_kept, _, rfl, L.ka, V.ref (L.ad t), rfl, dg, L.ad t, _, _, _, _, rfl, ob, E.c_IdealThing, E.n_IdealThing_inside, tf_inside, _, rfl, L.il t, il, k, k.toNat, rfl, rfl, li, ixN_int c.1 (by rw [vi.len]; exact c.2), ?_⟩
        refine q _ L ⟨A.toAtR.set_inside A.wf.asc eg li vi h5 k.toNat, ?_⟩ (Fr.upd (fp_il (kget_mem eg)) (keys_kmod h.kept t (fun th => { th with inside := th.inside.set k.toNat (h.hand i) })))
        refine A.wf.kmod t (fun th => by show (th.inside.set _ _).length = _; rw [List.length_set]) (fun th2 u m mu => ?_) fun th2 x m e => A.wf.wok _ m x e
        rcases List.mem_or_eq_of_mem_set (show Val.thg u ∈ th2.inside.set k.toNat (h.hand i) from mu) with z | z
        · exact A.wf.fin _ m u z
        · exact A.wf.hin u (by rw [z]; exact A.wf.hand_mem hi)
      · rw [if_neg c] at q
        exact q H L A (Fr.refl _ _ _ _)
    · rw [en] at q
      exact q H L A (Fr.refl _ _ _ _)
def spCopy (K : PySem.W.Frag) : Sp := fun vs H Q E => ∃ (p : Addr) (i g : Int) (h : IH) (L : Lay), vs = [.ref p, .int i, .int g] ∧ At K H p h L ∧ (0 ≤ i ∧ i < 8) ∧ (0 ≤ g ∧ g < 8) ∧ PostU K p H h L Q E (dCopy h i g)
theorem sc_IdealHeap_copy : FnScope ["self", "h", "g"] ["self", "h", "g"] (defScope st_IdealHeap_copy) := ⟨rfl, rfl, rfl, by decide +kernel, rfl, by decide +kernel, by decide +kernel⟩
theorem ok_IdealHeap_copy (E : Txt K mg) : FnOk P w K mg base (L2.CX P w) 2 (fAd at_IdealHeap_copy K) (fdOf at_IdealHeap_copy K) ["self", "h", "g"] (spCopy K) := by
  refine FunD.ok E.fd_IdealHeap_copy sc_IdealHeap_copy (fun vs H Q E0 h => ?_) (fun cdv A outer s H vs Q E0 hr h => ?_)
  · obtain ⟨p, i, g, h, L, rfl, _⟩ := h
    rfl
  · obtain ⟨p, i, g, h, L, rfl, A, hj, hi, q⟩ := h
    refine ⟨_, (pss_cons (ps_expr (pe_call (ok_look_at_hand E) (hr.mono (by decide)) (by rfl) E.g_look_at_hand E.fd_look_at_hand.kp E.b_look_at_hand .nil (passes_call (takes_of rfl rfl rfl rfl) fun _ _ _ _ h => h) (pa_cons (pv 1) pa_nil)))
      (pss_cons (ps_expr (pe_call (ok_look_at_hand E) (hr.mono (by decide)) (by rfl) E.g_look_at_hand E.fd_look_at_hand.kp E.b_look_at_hand .nil (passes_call (takes_of rfl rfl rfl rfl) fun _ _ _ _ h => h) (pa_cons (pv 2) pa_nil)))
      (pss_one (ps_asg (pe_ix ix_list (pe_fld (pv 0) rfl) (pv 2) (fun _ _ => rfl)) (pg_sub (pe_fld (pv 0) rfl) (pv 1) set_list))))), ?_⟩
    obtain ⟨hl, v, h1, h2, h3, h4, h5⟩ := hand_get A hi
    refine ⟨_, rfl, i, rfl, fun _ => ?_, fun c => absurd hj c⟩
    refine ⟨_, rfl, g, rfl, fun _ => ?_, fun c => absurd hi c⟩
    refine ⟨_, rfl, p, _, _, _, _, rfl, A.ob, E.c_IdealHeap, E.n_IdealHeap_in_hands, hf_in_hands, _, rfl, L.ha, hl, g, v, rfl, rfl, SqL.of h1, at_int hi.1 h4, _, rfl, p, _, _, _, _, rfl, A.ob, E.c_IdealHeap, E.n_IdealHeap_in_hands, hf_in_hands, _, rfl, L.ha, hl, i, i.toNat, rfl, rfl, h1, ixN_int hj.1 (by rw [h3]; exact hj.2), ?_⟩
    exact hand_post A h1 h2 h5 (fun z hz => A.wf.hin z (by rw [← hz]; exact A.wf.hand_mem hi)) q
def spDrop (K : PySem.W.Frag) : Sp := fun vs H Q E => ∃ (p : Addr) (i : Int) (h : IH) (L : Lay), vs = [.ref p, .int i] ∧ At K H p h L ∧ (0 ≤ i ∧ i < 8) ∧ PostU K p H h L Q E (dDrop h i)
theorem sc_IdealHeap_drop : FnScope ["self", "h"] ["self", "h"] (defScope st_IdealHeap_drop) := ⟨rfl, rfl, rfl, by decide +kernel, rfl, by decide +kernel, by decide +kernel⟩
theorem ok_IdealHeap_drop (E : Txt K mg) : FnOk P w K mg base (L2.CX P w) 2 (fAd at_IdealHeap_drop K) (fdOf at_IdealHeap_drop K) ["self", "h"] (spDrop K) := by
  refine FunD.ok E.fd_IdealHeap_drop sc_IdealHeap_drop (fun vs H Q E0 h => ?_) (fun cdv A outer s H vs Q E0 hr h => ?_)
  · obtain ⟨p, i, h, L, rfl, _⟩ := h
    rfl
  · obtain ⟨p, i, h, L, rfl, A, hi, q⟩ := h
    refine ⟨_, (pss_cons (ps_expr (pe_call (ok_look_at_hand E) (hr.mono (by decide)) (by rfl) E.g_look_at_hand E.fd_look_at_hand.kp E.b_look_at_hand .nil (passes_call (takes_of rfl rfl rfl rfl) fun _ _ _ _ h => h) (pa_cons (pv 1) pa_nil)))
      (pss_one (ps_asg pe_non (pg_sub (pe_fld (pv 0) rfl) (pv 1) set_list)))), ?_⟩
    obtain ⟨hl, h1, h2⟩ := A.hands
    refine ⟨_, rfl, i, rfl, fun _ => ?_, fun c => absurd hi c⟩
    refine ⟨_, rfl, p, _, _, _, _, rfl, A.ob, E.c_IdealHeap, E.n_IdealHeap_in_hands, hf_in_hands, _, rfl, L.ha, hl, i, i.toNat, rfl, rfl, h1, ixN_int hi.1 (by rw [h2.len, A.wf.hl]; exact hi.2), ?_⟩
    exact hand_post A h1 h2 (v := .non) (x := .non) rfl (fun z hz => by cases hz) q
def spNumber (K : PySem.W.Frag) : Sp := fun vs H Q E => ∃ (p : Addr) (i x : Int) (h : IH) (L : Lay), vs = [.ref p, .int i, .int x] ∧ At K H p h L ∧ (0 ≤ i ∧ i < 8) ∧ PostU K p H h L Q E (dNumber h i x)
theorem sc_IdealHeap_number : FnScope ["self", "h", "x"] ["self", "h", "x"] (defScope st_IdealHeap_number) := ⟨rfl, rfl, rfl, by decide +kernel, rfl, by decide +kernel, by decide +kernel⟩
theorem ok_IdealHeap_number (E : Txt K mg) : FnOk P w K mg base (L2.CX P w) 2 (fAd at_IdealHeap_number K) (fdOf at_IdealHeap_number K) ["self", "h", "x"] (spNumber K) := by
  refine FunD.ok E.fd_IdealHeap_number sc_IdealHeap_number (fun vs H Q E0 h => ?_) (fun cdv A outer s H vs Q E0 hr h => ?_)
  · obtain ⟨p, i, x, h, L, rfl, _⟩ := h
    rfl
  · obtain ⟨p, i, x, h, L, rfl, A, hi, q⟩ := h
    refine ⟨_, (pss_cons (ps_expr (pe_call (ok_look_at_hand E) (hr.mono (by decide)) (by rfl) E.g_look_at_hand E.fd_look_at_hand.kp E.b_look_at_hand .nil (passes_call (takes_of rfl rfl rfl rfl) fun _ _ _ _ h => h) (pa_cons (pv 1) pa_nil)))
      (pss_one (ps_asg (pe_call (ok_number_value E) (hr.mono (by decide)) (by rfl) E.g_number_value E.fd_number_value.kp E.b_number_value .nil (passes_call (takes_of rfl rfl rfl rfl) fun _ _ _ _ h => h) (pa_cons (pv 2) pa_nil)) (pg_sub (pe_fld (pv 0) rfl) (pv 1) set_list)))), ?_⟩
    refine ⟨_, rfl, i, rfl, fun _ => ?_, fun c => absurd hi c⟩
    unfold dNumber at q
    refine ⟨_, rfl, x, rfl, fun c a ha => ?_, fun c => ?_⟩
    · rw [if_pos c] at q
      have s := upd_same_of_none (o := .tup [.str "number", .int x]) ha
      have A1 := A.same s
      obtain ⟨hl, h1, h2⟩ := A1.hands
      refine ⟨_, rfl, p, _, _, _, _, rfl, A1.ob, E.c_IdealHeap, E.n_IdealHeap_in_hands, hf_in_hands, _, rfl, L.ha, hl, i, i.toNat, rfl, rfl, h1, ixN_int hi.1 (by rw [h2.len, A.wf.hl]; exact hi.2), ?_⟩
      exact hand_post (E0 := E0) A1 h1 h2 (v := .ref a) (x := .num x) ⟨a, rfl, upd_same⟩ (fun z hz => by cases hz) fun H' L' A' F => q H' L' A' ((Fr.same s).trans F)
    · rw [if_neg (by rw [c]; exact Bool.false_ne_true)] at q
      exact q H L A (Fr.refl _ _ _ _)
def spName (K : PySem.W.Frag) : Sp := fun vs H Q E => ∃ (p : Addr) (n i : Int) (h : IH) (L : Lay), vs = [.ref p, .int n, .int i] ∧ At K H p h L ∧ (0 ≤ n ∧ n < 8) ∧ (0 ≤ i ∧ i < 8) ∧ PostU K p H h L Q E (dName h n i)
theorem sc_IdealHeap_name : FnScope ["self", "w", "h", "thing"] ["self", "w", "h"] (defScope st_IdealHeap_name) := ⟨rfl, rfl, rfl, by decide +kernel, rfl, by decide +kernel, by decide +kernel⟩
theorem ok_IdealHeap_name (E : Txt K mg) : FnOk P w K mg base (L2.CX P w) 4 (fAd at_IdealHeap_name K) (fdOf at_IdealHeap_name K) ["self", "w", "h"] (spName K) := by
  refine FunD.ok E.fd_IdealHeap_name sc_IdealHeap_name (fun vs H Q E0 h => ?_) (fun cdv A outer s H vs Q E0 hr h => ?_)
  · obtain ⟨p, n, i, h, L, rfl, _⟩ := h
    rfl
  · obtain ⟨p, n, i, h, L, rfl, A, hn, hi, q⟩ := h
    refine ⟨_, (pss_cons (ps_set (i := 3) sc_IdealHeap_name.nd rfl (Or.inl rfl) (pe_meth (pv 0) E.c_IdealHeap E.m_IdealHeap_thing_in (ok_IdealHeap_thing_in E) (hr.mono (by decide)) E.b_IdealHeap_thing_in .nil (passes_call (takes_of rfl rfl rfl rfl) fun _ _ _ _ h => h) (pa_cons (pv 2) pa_nil)))
      (pss_cons (ps_expr (pe_call (ok_look_at_name E) (hr.mono (by decide)) (by rfl) E.g_look_at_name E.fd_look_at_name.kp E.b_look_at_name .nil (passes_call (takes_of rfl rfl rfl rfl) fun _ _ _ _ h => h) (pa_cons (pv 1) pa_nil)))
      (pss_one (ps_asg (pv 3) (pg_sub (pe_fld (pv 0) rfl) (pv 1) set_list))))), ?_⟩
    unfold dName at q
    refine ⟨_, rfl, p, _, _, rfl, A.ob, (by kernel_rfl), _, rfl, p, i, h, L, rfl, A, hi, fun t et => ?_, fun en => ?_⟩
    · rw [et] at q
      obtain ⟨th, eg⟩ := A.wf.at_hand hi et
      refine ⟨_, rfl, n, rfl, fun _ => ?_, fun c => absurd hn c⟩
      refine ⟨_, rfl, _, rfl, p, _, _, _, _, rfl, A.ob, E.c_IdealHeap, E.n_IdealHeap_naming, hf_naming, _, rfl, L.na, h.names.map oV, n, n.toNat, rfl, rfl, A.names, ixN_int hn.1 (by rw [List.length_map, A.wf.nl]; exact hn.2), ?_⟩
      refine q _ L ⟨A.toAtR.set_name n.toNat (some t), ?_⟩ (Fr.upd fp_na rfl)
      exact { A.wf with
        nl := by show (h.names.set _ _).length = 8; rw [List.length_set]; exact A.wf.nl
        nin := fun u m => by
          rcases List.mem_or_eq_of_mem_set (show some u ∈ h.names.set n.toNat (some t) from m) with z | z
          · exact A.wf.nin u z
          · cases z
            exact key_of_kget eg }
    · rw [en] at q
      exact q H L A (Fr.refl _ _ _ _)
def spGive (K : PySem.W.Frag) : Sp := fun vs H Q _ => ∃ (p : Addr) (t : Int) (h : IH) (L : Lay), vs = [.ref p, .int t] ∧ At K H p h L ∧ Q .non H
theorem sc_IdealHeap_give_back : FnScope ["self", "thing", "other"] ["self", "thing"] (defScope st_IdealHeap_give_back) := ⟨rfl, rfl, rfl, by decide +kernel, rfl, by decide +kernel, by decide +kernel⟩
theorem ok_IdealHeap_give_back (E : Txt K mg) : FnOk P w K mg base CX0 1 (fAd at_IdealHeap_give_back K) (fdOf at_IdealHeap_give_back K) ["self", "thing"] (spGive K) := by
  refine FunD.ok0 E.fd_IdealHeap_give_back sc_IdealHeap_give_back (fun vs H Q E0 h => ?_) (fun cdv A outer s H vs Q E0 hr h => ?_)
  · obtain ⟨p, i, h, L, rfl, _⟩ := h
    rfl
  · obtain ⟨p, i, h, L, rfl, A, q⟩ := h
    refine ⟨_, (pss_one (ps_if (pt_cmpR op_notN (pe_fld (pv 0) rfl) pe_non (nomark _)) pss_never pss_nil)), ?_⟩
    exact ⟨_, rfl, p, _, _, _, _, rfl, A.ob, E.c_IdealHeap, E.n_IdealHeap_going, hf_going, rfl, _, rfl, q⟩
theorem upd_comm {H : Hp} {a b : Addr} {o u : HO} (h : a ≠ b) : upd (upd H a o) b u = upd (upd H b u) a o := by
  funext c
  unfold upd
  by_cases e : c = b
  · rw [if_pos e, if_neg (fun z => h (by rw [← z, e])), if_pos e]
  · rw [if_neg e]
    by_cases f : c = a
    · rw [if_pos f, if_pos f]
    · rw [if_neg f, if_neg f, if_neg e]
def spRead (K : PySem.W.Frag) : Sp := fun vs H Q E => ∃ (p : Addr) (i n : Int) (h : IH) (L : Lay), vs = [.ref p, .int i, .int n] ∧ At K H p h L ∧ (0 ≤ i ∧ i < 8) ∧ (0 ≤ n ∧ n < 8) ∧ PostU K p H h L Q E (dRead h i n)
theorem sc_IdealHeap_read : FnScope ["self", "h", "w", "thing"] ["self", "h", "w"] (defScope st_IdealHeap_read) := ⟨rfl, rfl, rfl, by decide +kernel, rfl, by decide +kernel, by decide +kernel⟩
theorem ok_IdealHeap_read (E : Txt K mg) : FnOk P w K mg base (L2.CX P w) 2 (fAd at_IdealHeap_read K) (fdOf at_IdealHeap_read K) ["self", "h", "w"] (spRead K) := by
  refine FunD.ok E.fd_IdealHeap_read sc_IdealHeap_read (fun vs H Q E0 h => ?_) (fun cdv A outer s H vs Q E0 hr h => ?_)
  · obtain ⟨p, i, n, h, L, rfl, _⟩ := h
    rfl
  · obtain ⟨p, i, n, h, L, rfl, A, hi, hn, q⟩ := h
    refine ⟨_, (pss_cons (ps_expr (pe_call (ok_look_at_hand E) (hr.mono (by decide)) (by rfl) E.g_look_at_hand E.fd_look_at_hand.kp E.b_look_at_hand .nil (passes_call (takes_of rfl rfl rfl rfl) fun _ _ _ _ h => h) (pa_cons (pv 1) pa_nil)))
      (pss_cons (ps_expr (pe_call (ok_look_at_name E) (hr.mono (by decide)) (by rfl) E.g_look_at_name E.fd_look_at_name.kp E.b_look_at_name .nil (passes_call (takes_of rfl rfl rfl rfl) fun _ _ _ _ h => h) (pa_cons (pv 2) pa_nil)))
      (pss_cons (ps_set (i := 3) sc_IdealHeap_read.nd rfl (Or.inl rfl) (pe_ix ix_list (pe_fld (pv 0) rfl) (pv 2) (fun _ _ => rfl)))
      (pss_cons (ps_asg pe_non (pg_sub (pe_fld (pv 0) rfl) (pv 1) set_list))
      (pss_one (ps_if (pt_cmpR op_notN (pv 3) pe_non (nomark _)) (pss_cons (ps_asg (pe_call (ok_thing_value E) (hr.mono (by decide)) (by rfl) E.g_thing_value E.fd_thing_value.kp E.b_thing_value .nil pass0 (pa_cons (pv 3) pa_nil)) (pg_sub (pe_fld (pv 0) rfl) (pv 1) set_list))
      (pss_one (ps_expr (pe_meth (pv 0) E.c_IdealHeap E.m_IdealHeap_give_back (ok_IdealHeap_give_back E) (hr.mono (by decide)) E.b_IdealHeap_give_back .nil pass0 (pa_cons (pv 3) pa_nil))))) pss_nil)))))), ?_⟩
    obtain ⟨hl, h1, h2⟩ := A.hands
    refine ⟨_, rfl, i, rfl, fun _ => ?_, fun c => absurd hi c⟩
    refine ⟨_, rfl, n, rfl, fun _ => ?_, fun c => absurd hn c⟩
    have nl : n.toNat < h.names.length := by rw [A.wf.nl]; omega
    have e1 : (h.names.map oV)[n.toNat]? = some (oV h.names[n.toNat]) := by rw [List.getElem?_map, List.getElem?_eq_getElem nl]; rfl
    have e2 : h.names.getD n.toNat none = h.names[n.toNat] := by rw [List.getD_eq_getElem?_getD, List.getElem?_eq_getElem nl]; rfl
    have hx : ixN hl.length i = some i.toNat := ixN_int hi.1 (by rw [h2.len, A.wf.hl]; exact hi.2)
    refine ⟨_, rfl, p, _, _, _, _, rfl, A.ob, E.c_IdealHeap, E.n_IdealHeap_naming, hf_naming, _, rfl, L.na, h.names.map oV, n, _, rfl, rfl, SqL.of A.names, at_int hn.1 e1, ?_⟩
    refine ⟨_, rfl, p, _, _, _, _, rfl, A.ob, E.c_IdealHeap, E.n_IdealHeap_in_hands, hf_in_hands, _, rfl, L.ha, hl, i, i.toNat, rfl, rfl, h1, hx, ?_⟩
    have A1 : At K (upd H L.ha (.lst (hl.set i.toNat .non))) p (h.setHand i .non) L := ⟨A.toAtR.set_hand h1 h2 (v := .non) (x := .non) rfl i.toNat, A.wf.setHand i fun z hz => by cases hz⟩
    have F1 : Fr p L h.kept H L h.kept (upd H L.ha (.lst (hl.set i.toNat .non))) := Fr.upd fp_ha rfl
    unfold dRead at q
    rw [e2] at q
    cases e : h.names[n.toNat] with
    | none =>
      rw [e] at q
      exact ⟨_, rfl, rfl, _, rfl, q _ L A1 F1⟩
    | some t =>
      rw [e] at q
      refine ⟨_, rfl, rfl, _, rfl, _, rfl, t, rfl, fun a ha => ?_⟩
      have s := upd_same_of_none (o := .tup [.str "thing", .int t]) ha
      have A2 := A1.same s
      obtain ⟨hl2, g1, g2⟩ := A2.hands
      refine ⟨_, rfl, p, _, _, _, _, rfl, A2.ob, E.c_IdealHeap, E.n_IdealHeap_in_hands, hf_in_hands, _, rfl, L.ha, hl2, i, i.toNat, rfl, rfl, g1, ixN_int hi.1 (by rw [g2.len, A1.wf.hl]; exact hi.2), ?_⟩
      have tk : t ∈ keys h.kept := A.wf.nin t (by rw [← e]; exact List.getElem_mem nl)
      have A3 := A2.toAtR.set_hand g1 g2 (v := .ref a) (x := .thg t) ⟨a, rfl, upd_same⟩ i.toNat
      have es : ({ (h.setHand i .non) with hands := (h.setHand i .non).hands.set i.toNat (.thg t) } : IH) = h.setHand i (.thg t) := by
        unfold IH.setHand
        simp only [List.set_set]
      rw [es] at A3
      have A4 : At K _ p (h.setHand i (.thg t)) L := ⟨A3, A.wf.setHand i fun z hz => by cases hz; exact tk⟩
      refine ⟨_, rfl, p, _, _, rfl, A4.ob, (by kernel_rfl), _, rfl, p, t, _, L, rfl, A4, ?_⟩
      exact q _ L A4 ((F1.trans (Fr.same s)).trans (Fr.upd fp_ha rfl))
def spTake (K : PySem.W.Frag) : Sp := fun vs H Q _ => ∃ (p : Addr) (h : IH) (L : Lay), vs = [.ref p] ∧ At K H p h L ∧ ∀ H', At K H' p (dTake h).2 L → Fr p L h.kept H L (dTake h).2.kept H' → Q (oV (dTake h).1) H'
theorem sc_IdealHeap_take : FnScope ["self"] ["self"] (defScope st_IdealHeap_take) := ⟨rfl, rfl, rfl, by decide +kernel, rfl, by decide +kernel, by decide +kernel⟩
theorem ok_IdealHeap_take (E : Txt K mg) : FnOk P w K mg base CX0 1 (fAd at_IdealHeap_take K) (fdOf at_IdealHeap_take K) ["self"] (spTake K) := by
  refine FunD.ok0 E.fd_IdealHeap_take sc_IdealHeap_take (fun vs H Q E0 h => ?_) (fun cdv A outer s H vs Q E0 hr h => ?_)
  · obtain ⟨p, h, L, rfl, _⟩ := h
    rfl
  · obtain ⟨p, h, L, rfl, A, q⟩ := h
    refine ⟨_, (pss_cons (ps_if (pt_cmpR op_eq (pe_callB call_len (by rfl) E.f_len PySem.boot_len (pa_cons (pe_fld (pv 0) rfl) pa_nil)) pe_int (nomark _)) (pss_one (ps_ret pe_non)) pss_nil)
      (pss_one (ps_ret (pe_bm PySem.F.plainAttrs_list PySem.F.slot_list_pop PySem.F.type_list_pop mt_popAt (pe_fld (pv 0) rfl) (pa_cons pe_int pa_nil))))), ?_⟩
    refine ⟨_, rfl, p, _, _, _, _, rfl, A.ob, E.c_IdealHeap, E.n_IdealHeap_spoken, hf_spoken, _, _, rfl, Or.inl ⟨_, SqL.of A.spoken, rfl⟩, rfl, _, rfl, ?_⟩
    have W := A.wf.take
    unfold dTake at q W
    cases e : h.spoken with
    | nil =>
      rw [e] at q
      exact q H A (Fr.refl _ _ _ _)
    | cons x r =>
      rw [e] at q W
      have sp := A.spoken
      rw [e] at sp
      refine ⟨_, rfl, p, _, _, _, _, rfl, A.ob, E.c_IdealHeap, E.n_IdealHeap_spoken, hf_spoken, Or.inl ⟨rfl, _, Or.inl (Or.inl A.spoken)⟩, L.sa, (x :: r).map V.int, 0, 0, .int x, rfl, rfl, sp, by decide, by decide, by simp [seqIndex?], rfl, ?_⟩
      exact q _ ⟨A.toAtR.set_spoken r, W⟩ (Fr.upd fp_sa rfl)
def spKindH (K : PySem.W.Frag) : Sp := fun vs H Q _ => ∃ (p : Addr) (i : Int) (h : IH) (L : Lay), vs = [.ref p, .int i] ∧ At K H p h L ∧ (0 ≤ i ∧ i < 8) ∧ Q (.str (h.hand i).kind) H
theorem sc_IdealHeap_kind : FnScope ["self", "h"] ["self", "h"] (defScope st_IdealHeap_kind) := ⟨rfl, rfl, rfl, by decide +kernel, rfl, by decide +kernel, by decide +kernel⟩
theorem ok_IdealHeap_kind (E : Txt K mg) : FnOk P w K mg base (L2.CX P w) 2 (fAd at_IdealHeap_kind K) (fdOf at_IdealHeap_kind K) ["self", "h"] (spKindH K) := by
  refine FunD.ok E.fd_IdealHeap_kind sc_IdealHeap_kind (fun vs H Q E0 h => ?_) (fun cdv A outer s H vs Q E0 hr h => ?_)
  · obtain ⟨p, i, h, L, rfl, _⟩ := h
    rfl
  · obtain ⟨p, i, h, L, rfl, A, hi, q⟩ := h
    refine ⟨_, (pss_cons (ps_expr (pe_call (ok_look_at_hand E) (hr.mono (by decide)) (by rfl) E.g_look_at_hand E.fd_look_at_hand.kp E.b_look_at_hand .nil (passes_call (takes_of rfl rfl rfl rfl) fun _ _ _ _ h => h) (pa_cons (pv 1) pa_nil)))
      (pss_one (ps_ret (pe_call (ok_kind_of E) (hr.mono (by decide)) (by rfl) E.g_kind_of E.fd_kind_of.kp E.b_kind_of .nil pass0 (pa_cons (pe_ix ix_list (pe_fld (pv 0) rfl) (pv 1) (fun _ _ => rfl)) pa_nil))))), ?_⟩
    obtain ⟨hl, v, h1, h2, h3, h4, h5⟩ := hand_get A hi
    exact ⟨_, rfl, i, rfl, fun _ => ⟨_, rfl, p, _, _, _, _, rfl, A.ob, E.c_IdealHeap, E.n_IdealHeap_in_hands, hf_in_hands, _, rfl, L.ha, hl, i, v, rfl, rfl, SqL.of h1, at_int hi.1 h4, v, _, rfl, h5, q⟩, fun c => absurd hi c⟩
def spValue (K : PySem.W.Frag) : Sp := fun vs H Q E => ∃ (p : Addr) (i : Int) (h : IH) (L : Lay), vs = [.ref p, .int i] ∧ At K H p h L ∧ (0 ≤ i ∧ i < 8) ∧ (∀ x, h.hand i = .num x → Q (.int x) H) ∧ ((∀ x, h.hand i ≠ .num x) → E (.ref (eAd K .badHand)) none H)
theorem sc_IdealHeap_value : FnScope ["self", "h"] ["self", "h"] (defScope st_IdealHeap_value) := ⟨rfl, rfl, rfl, by decide +kernel, rfl, by decide +kernel, by decide +kernel⟩
theorem ok_IdealHeap_value (E : Txt K mg) : FnOk P w K mg base (L2.CX P w) 2 (fAd at_IdealHeap_value K) (fdOf at_IdealHeap_value K) ["self", "h"] (spValue K) := by
  refine FunD.ok E.fd_IdealHeap_value sc_IdealHeap_value (fun vs H Q E0 h => ?_) (fun cdv A outer s H vs Q E0 hr h => ?_)
  · obtain ⟨p, i, h, L, rfl, _⟩ := h
    rfl
  · obtain ⟨p, i, h, L, rfl, A, hi, q1, q2⟩ := h
    refine ⟨_, (pss_cons (ps_expr (pe_call (ok_look_at_hand E) (hr.mono (by decide)) (by rfl) E.g_look_at_hand E.fd_look_at_hand.kp E.b_look_at_hand .nil (passes_call (takes_of rfl rfl rfl rfl) fun _ _ _ _ h => h) (pa_cons (pv 1) pa_nil)))
      (pss_cons (ps_if (pt_cmpR op_ne (pe_call (ok_kind_of E) (hr.mono (by decide)) (by rfl) E.g_kind_of E.fd_kind_of.kp E.b_kind_of .nil pass0 (pa_cons (pe_ix ix_list (pe_fld (pv 0) rfl) (pv 1) (fun _ _ => rfl)) pa_nil)) pe_str (nomark _)) (pss_one (ps_raise rfl (takes_of rfl rfl rfl rfl) (pmk_own PySem.F.excBase_ValueError E.x_BadHand.1 E.g_BadHand E.x_BadHand.2.1 (raises_own E.x_BadHand.2.2.1 E.x_BadHand.2.2.2) rfl))) pss_nil)
      (pss_one (ps_ret (pe_ix ix_tup (pe_ix ix_list (pe_fld (pv 0) rfl) (pv 1) (fun _ _ => rfl)) pe_int (fun _ _ => rfl)))))), ?_⟩
    obtain ⟨hl, v, h1, h2, h3, h4, h5⟩ := hand_get A hi
    refine ⟨_, rfl, i, rfl, fun _ => ⟨_, rfl, p, _, _, _, _, rfl, A.ob, E.c_IdealHeap, E.n_IdealHeap_in_hands, hf_in_hands, _, rfl, L.ha, hl, i, v, rfl, rfl, SqL.of h1, at_int hi.1 h4, v, _, rfl, h5, rfl, _, rfl, ?_⟩, fun c => absurd hi c⟩
    cases e : h.hand i with
    | non => exact q2 fun x z => by rw [e] at z; cases z
    | thg t => exact q2 fun x z => by rw [e] at z; cases z
    | num x =>
      rw [e] at h5
      obtain ⟨a, ea, ha⟩ := h5
      exact ⟨_, rfl, p, _, _, _, _, rfl, A.ob, E.c_IdealHeap, E.n_IdealHeap_in_hands, hf_in_hands, _, rfl, L.ha, hl, i, v, rfl, rfl, SqL.of h1, at_int hi.1 h4, a, _, _, _, ea, rfl, SqT.of ha, rfl, q1 x e⟩
def spFields (K : PySem.W.Frag) : Sp := fun vs H Q E => ∃ (p : Addr) (i : Int) (h : IH) (L : Lay), vs = [.ref p, .int i] ∧ At K H p h L ∧ (0 ≤ i ∧ i < 8) ∧ (∀ t th, (h.hand i).thing = some t → kget h.kept t = some th → Q (.int th.inside.length) H) ∧ ((h.hand i).thing = none → E (.ref (eAd K .badHand)) none H)
theorem sc_IdealHeap_fields : FnScope ["self", "h"] ["self", "h"] (defScope st_IdealHeap_fields) := ⟨rfl, rfl, rfl, by decide +kernel, rfl, by decide +kernel, by decide +kernel⟩
theorem ok_IdealHeap_fields (E : Txt K mg) : FnOk P w K mg base (L2.CX P w) 4 (fAd at_IdealHeap_fields K) (fdOf at_IdealHeap_fields K) ["self", "h"] (spFields K) := by
  refine FunD.ok E.fd_IdealHeap_fields sc_IdealHeap_fields (fun vs H Q E0 h => ?_) (fun cdv A outer s H vs Q E0 hr h => ?_)
  · obtain ⟨p, i, h, L, rfl, _⟩ := h
    rfl
  · obtain ⟨p, i, h, L, rfl, A, hi, q1, q2⟩ := h
    refine ⟨_, (pss_one (ps_ret (pe_callB call_len (by rfl) E.f_len PySem.boot_len (pa_cons (pe_fld (pe_dget (hu_of hr) (pe_fld (pv 0) rfl) (pe_meth (pv 0) E.c_IdealHeap E.m_IdealHeap_thing_in (ok_IdealHeap_thing_in E) (hr.mono (by decide)) E.b_IdealHeap_thing_in .nil (passes_call (takes_of rfl rfl rfl rfl) fun _ _ _ _ h => h) (pa_cons (pv 1) pa_nil)) (fun _ _ => rfl)) rfl) pa_nil)))), ?_⟩
    refine ⟨_, rfl, p, _, _, _, _, rfl, A.ob, E.c_IdealHeap, E.n_IdealHeap_kept, hf_kept, _, rfl, p, _, _, rfl, A.ob, (by kernel_rfl), _, rfl, p, i, h, L, rfl, A, hi, fun t et => ?_, fun en => q2 en⟩
    obtain ⟨th, eg⟩ := A.wf.at_hand hi et
    obtain ⟨ob, il, li, vi⟩ := A.things.at_ _ (kget_mem eg)
    have il2 : (il.length : Int) = (th.inside.length : Int) := by rw [vi.len]
    refine ⟨L.ka, V.ref (L.ad t), rfl, kept_dg A.toAtR eg, L.ad t, _, _, _, _, rfl, ob, E.c_IdealThing, E.n_IdealThing_inside, tf_inside, _, _, rfl, Or.inl ⟨_, SqL.of li, rfl⟩, ?_⟩
    rw [il2]
    exact q1 t th et eg
end
end Sh
end

section
set_option Elab.async false
set_option linter.all false
set_option maxRecDepth 100000
set_option maxHeartbeats 4000000
/-! What the heap tells. -/
namespace Sh
open PySem PySem.Spec PyProof.Rows L2
/-- a value as data -/
def Val.data : Val → PyData
  | .non => .none
  | .num x => .tuple [.str "number", .int x]
  | .thg t => .tuple [.str "thing", .int t]
def oData : Option Int → PyData
  | none => .none
  | some t => .int t
theorem dp_all (K : PySem.W.Frag) (H : Hp) : ∀ (l : List V) (ds : List PyData), l.length = ds.length → (∀ (i : Nat) (v : V) (d : PyData), l[i]? = some v → ds[i]? = some d → Dp K H v d) → DpAll K H l ds
  | [], [], _, _ => .nil
  | [], _ :: _, e, _ => by cases e
  | _ :: _, [], e, _ => by cases e
  | v :: l, d :: ds, e, h => .cons (h 0 v d rfl rfl) (dp_all K H l ds (by simpa using e) fun i a b h1 h2 => h (i + 1) a b h1 h2)
theorem dp_val {K : PySem.W.Frag} {H : Hp} {v : V} {x : Val} (h : VA H v x) : Dp K H v x.data := by
  cases x with
  | non =>
    obtain rfl : v = .non := h
    exact .non
  | num x =>
    obtain ⟨a, rfl, ha⟩ := h
    exact .tup (SqT.of ha) (.cons (.str _) (.cons (.int _) .nil))
  | thg x =>
    obtain ⟨a, rfl, ha⟩ := h
    exact .tup (SqT.of ha) (.cons (.str _) (.cons (.int _) .nil))
theorem dp_o {K : PySem.W.Frag} {H : Hp} (x : Option Int) : Dp K H (oV x) (oData x) := by
  cases x with
  | none => exact .non
  | some t => exact .int t
theorem dp_vals {K : PySem.W.Frag} {H : Hp} {l : List V} {xs : List Val} (h : VAs H l xs) : DpAll K H l (xs.map Val.data) := dp_all K H l _ (by rw [List.length_map, h.len]) fun i v d h1 h2 => by
  rw [List.getElem?_map] at h2
  cases e : xs[i]? with
  | none =>
    rw [e] at h2
    cases h2
  | some x =>
    rw [e] at h2
    cases h2
    exact dp_val (h.at_ i v x h1 e)
theorem shaped2 {x : Str} (h : PySem.PyData.canLay0 (.str x) = true) (i : Int) : SeqAt.shaped (.tuple [.str x, .int i]) = true := by
  show (((PySem.PyData.canLay0 (.str x)) && (true && true)) && decide ((max 0 (max 0 0)) + 1 ≤ 64)) = true
  rw [h]
  rfl
theorem val_shaped (x : Val) : SeqAt.shaped x.data = true := by
  cases x with
  | non => rfl
  | num i => exact shaped2 (by decide +kernel) i
  | thg i => exact shaped2 (by decide +kernel) i
theorem int_eqv (i j : Int) : (i == j) = decide (i = j) := by
  by_cases c : i = j
  · subst c
    simp
  · simp [c]
theorem val_eqv (x y : Val) : PyData.eqv x.data y.data = decide (x = y) := by
  cases x with
  | non => cases y <;> first | rfl | (show false = _; exact (decide_eq_false (fun z => by cases z)).symm)
  | num i =>
    cases y with
    | non => exact (decide_eq_false (fun z => by cases z)).symm
    | thg j => exact (decide_eq_false (fun z => by cases z)).symm
    | num j =>
      by_cases c : i = j
      · subst c
        rw [decide_eq_true rfl]
        exact PySem.SeqAt.eqv_refl _ (by first | exact (PySem.SeqAt.canLay_of_shaped (val_shaped (.num i))) | exact (PySem.SeqAt.canLay_of_shaped (val_shaped (.thg i))))
      · rw [decide_eq_false (fun z => c (by cases z; rfl))]
        show (PyData.eqv (.str "number") (.str "number") && (PyData.eqv (.int i) (.int j) && true)) = false
        have : PyData.eqv (.int i) (.int j) = false := by
          show (i == j) = false
          simp [c]
        rw [this]
        simp
  | thg i =>
    cases y with
    | non => exact (decide_eq_false (fun z => by cases z)).symm
    | num j => exact (decide_eq_false (fun z => by cases z)).symm
    | thg j =>
      by_cases c : i = j
      · subst c
        rw [decide_eq_true rfl]
        exact PySem.SeqAt.eqv_refl _ (by first | exact (PySem.SeqAt.canLay_of_shaped (val_shaped (.num i))) | exact (PySem.SeqAt.canLay_of_shaped (val_shaped (.thg i))))
      · rw [decide_eq_false (fun z => c (by cases z; rfl))]
        show (PyData.eqv (.str "thing") (.str "thing") && (PyData.eqv (.int i) (.int j) && true)) = false
        have : PyData.eqv (.int i) (.int j) = false := by
          show (i == j) = false
          simp [c]
        rw [this]
        simp
theorem asc_perm {ys ks : List Int} (hp : ys.Perm ks) (hs : ys.Pairwise (· ≤ ·)) (ha : ks.Pairwise (· < ·)) : ys = ks :=
  List.Perm.eq_of_pairwise (le := (· ≤ ·)) (fun a b _ _ h1 h2 => by omega) hs (ha.imp fun {a b} h => by omega) hp
section
variable {P : Program} {w : World} {K : PySem.W.Frag} {mg : Str → Option Value} {base : Heap}
def spSame (K : PySem.W.Frag) : Sp := fun vs H Q _ => ∃ (p : Addr) (i g : Int) (h : IH) (L : Lay), vs = [.ref p, .int i, .int g] ∧ At K H p h L ∧ (0 ≤ i ∧ i < 8) ∧ (0 ≤ g ∧ g < 8) ∧ Q (.bl (decide (h.hand i = h.hand g))) H
theorem sc_IdealHeap_same : FnScope ["self", "h", "g"] ["self", "h", "g"] (defScope st_IdealHeap_same) := ⟨rfl, rfl, rfl, by decide +kernel, rfl, by decide +kernel, by decide +kernel⟩
theorem ok_IdealHeap_same (E : Txt K mg) : FnOk P w K mg base (L2.CX P w) 2 (fAd at_IdealHeap_same K) (fdOf at_IdealHeap_same K) ["self", "h", "g"] (spSame K) := by
  refine FunD.ok E.fd_IdealHeap_same sc_IdealHeap_same (fun vs H Q E0 h => ?_) (fun cdv A outer s H vs Q E0 hr h => ?_)
  · obtain ⟨p, i, g, h, L, rfl, _⟩ := h
    rfl
  · obtain ⟨p, i, g, h, L, rfl, A, hi, hg, q⟩ := h
    refine ⟨_, (pss_cons (ps_expr (pe_call (ok_look_at_hand E) (hr.mono (by decide)) (by rfl) E.g_look_at_hand E.fd_look_at_hand.kp E.b_look_at_hand .nil (passes_call (takes_of rfl rfl rfl rfl) fun _ _ _ _ h => h) (pa_cons (pv 1) pa_nil)))
      (pss_cons (ps_expr (pe_call (ok_look_at_hand E) (hr.mono (by decide)) (by rfl) E.g_look_at_hand E.fd_look_at_hand.kp E.b_look_at_hand .nil (passes_call (takes_of rfl rfl rfl rfl) fun _ _ _ _ h => h) (pa_cons (pv 2) pa_nil)))
      (pss_one (ps_ret (pe_cmpR (op_eqD (hr.units)) (pe_ix ix_list (pe_fld (pv 0) rfl) (pv 1) (fun _ _ => rfl)) (pe_ix ix_list (pe_fld (pv 0) rfl) (pv 2) (fun _ _ => rfl)) (nomark _)))))), ?_⟩
    refine ⟨_, rfl, i, rfl, fun _ => ?_, fun c => absurd hi c⟩
    refine ⟨_, rfl, g, rfl, fun _ => ?_, fun c => absurd hg c⟩
    obtain ⟨hl, v, h1, h2, h3, h4, h5⟩ := hand_get A hi
    obtain ⟨hl', v', h1', h2', h3', h4', h5'⟩ := hand_get A hg
    rw [h1] at h1'
    cases h1'
    refine ⟨_, rfl, p, _, _, _, _, rfl, A.ob, E.c_IdealHeap, E.n_IdealHeap_in_hands, hf_in_hands, _, rfl, L.ha, hl, i, v, rfl, rfl, SqL.of h1, at_int hi.1 h4, _, rfl, p, _, _, _, _, rfl, A.ob, E.c_IdealHeap, E.n_IdealHeap_in_hands, hf_in_hands, _, rfl, L.ha, hl, g, v', rfl, rfl, SqL.of h1, at_int hg.1 h4', _, _, dp_val h5, dp_val h5', val_shaped _, val_shaped _, ?_⟩
    rw [val_eqv]
    exact q
def spHands (K : PySem.W.Frag) : Sp := fun vs H Q _ => ∃ (p : Addr) (h : IH) (L : Lay), vs = [.ref p] ∧ At K H p h L ∧ ∀ hl q, VAs H hl h.hands → H q = none → Q (.ref q) (upd H q (.lst hl))
theorem sc_IdealHeap_hands : FnScope ["self"] ["self"] (defScope st_IdealHeap_hands) := ⟨rfl, rfl, rfl, by decide +kernel, rfl, by decide +kernel, by decide +kernel⟩
theorem ok_IdealHeap_hands (E : Txt K mg) : FnOk P w K mg base CX0 1 (fAd at_IdealHeap_hands K) (fdOf at_IdealHeap_hands K) ["self"] (spHands K) := by
  refine FunD.ok0 E.fd_IdealHeap_hands sc_IdealHeap_hands (fun vs H Q E0 h => ?_) (fun cdv A outer s H vs Q E0 hr h => ?_)
  · obtain ⟨p, h, L, rfl, _⟩ := h
    rfl
  · obtain ⟨p, h, L, rfl, A, q⟩ := h
    refine ⟨_, (pss_one (ps_ret (pe_callTy call_list_of (by rfl) E.f_list (by decide +kernel) (pa_cons (pe_fld (pv 0) rfl) pa_nil)))), ?_⟩
    obtain ⟨hl, h1, h2⟩ := A.hands
    exact ⟨_, rfl, p, _, _, _, _, rfl, A.ob, E.c_IdealHeap, E.n_IdealHeap_in_hands, hf_in_hands, L.ha, hl, rfl, Or.inl (SqL.of h1), fun l hl' => q hl l h2 hl'⟩
def spNames (K : PySem.W.Frag) : Sp := fun vs H Q _ => ∃ (p : Addr) (h : IH) (L : Lay), vs = [.ref p] ∧ At K H p h L ∧ ∀ q, H q = none → Q (.ref q) (upd H q (.lst (h.names.map oV)))
theorem sc_IdealHeap_names : FnScope ["self"] ["self"] (defScope st_IdealHeap_names) := ⟨rfl, rfl, rfl, by decide +kernel, rfl, by decide +kernel, by decide +kernel⟩
theorem ok_IdealHeap_names (E : Txt K mg) : FnOk P w K mg base CX0 1 (fAd at_IdealHeap_names K) (fdOf at_IdealHeap_names K) ["self"] (spNames K) := by
  refine FunD.ok0 E.fd_IdealHeap_names sc_IdealHeap_names (fun vs H Q E0 h => ?_) (fun cdv A outer s H vs Q E0 hr h => ?_)
  · obtain ⟨p, h, L, rfl, _⟩ := h
    rfl
  · obtain ⟨p, h, L, rfl, A, q⟩ := h
    refine ⟨_, (pss_one (ps_ret (pe_callTy call_list_of (by rfl) E.f_list (by decide +kernel) (pa_cons (pe_fld (pv 0) rfl) pa_nil)))), ?_⟩
    exact ⟨_, rfl, p, _, _, _, _, rfl, A.ob, E.c_IdealHeap, E.n_IdealHeap_naming, hf_naming, L.na, _, rfl, Or.inl (SqL.of A.names), fun l hl => q l hl⟩
def spSaid (K : PySem.W.Frag) : Sp := fun vs H Q _ => ∃ (p : Addr) (h : IH) (L : Lay), vs = [.ref p] ∧ At K H p h L ∧ ∀ q, H q = none → Q (.ref q) (upd H q (.lst (h.spoken.map V.int)))
theorem sc_IdealHeap_said : FnScope ["self"] ["self"] (defScope st_IdealHeap_said) := ⟨rfl, rfl, rfl, by decide +kernel, rfl, by decide +kernel, by decide +kernel⟩
theorem ok_IdealHeap_said (E : Txt K mg) : FnOk P w K mg base CX0 1 (fAd at_IdealHeap_said K) (fdOf at_IdealHeap_said K) ["self"] (spSaid K) := by
  refine FunD.ok0 E.fd_IdealHeap_said sc_IdealHeap_said (fun vs H Q E0 h => ?_) (fun cdv A outer s H vs Q E0 hr h => ?_)
  · obtain ⟨p, h, L, rfl, _⟩ := h
    rfl
  · obtain ⟨p, h, L, rfl, A, q⟩ := h
    refine ⟨_, (pss_one (ps_ret (pe_callTy call_list_of (by rfl) E.f_list (by decide +kernel) (pa_cons (pe_fld (pv 0) rfl) pa_nil)))), ?_⟩
    exact ⟨_, rfl, p, _, _, _, _, rfl, A.ob, E.c_IdealHeap, E.n_IdealHeap_spoken, hf_spoken, L.sa, _, rfl, Or.inl (SqL.of A.spoken), fun l hl => q l hl⟩
def spThings (K : PySem.W.Frag) : Sp := fun vs H Q _ => ∃ (p : Addr) (h : IH) (L : Lay), vs = [.ref p] ∧ At K H p h L ∧ ∀ q, H q = none → Q (.ref q) (upd H q (.lst ((keys h.kept).map V.int)))
theorem sc_IdealHeap_things : FnScope ["self"] ["self"] (defScope st_IdealHeap_things) := ⟨rfl, rfl, rfl, by decide +kernel, rfl, by decide +kernel, by decide +kernel⟩
theorem ok_IdealHeap_things (E : Txt K mg) : FnOk P w K mg base CX0 1 (fAd at_IdealHeap_things K) (fdOf at_IdealHeap_things K) ["self"] (spThings K) := by
  refine FunD.ok0 E.fd_IdealHeap_things sc_IdealHeap_things (fun vs H Q E0 h => ?_) (fun cdv A outer s H vs Q E0 hr h => ?_)
  · obtain ⟨p, h, L, rfl, _⟩ := h
    rfl
  · obtain ⟨p, h, L, rfl, A, q⟩ := h
    refine ⟨_, (pss_one (ps_ret (pe_callB (cr_sortedD rfl) (by rfl) E.f_sorted (by decide +kernel) (pa_cons (pe_fld (pv 0) rfl) pa_nil)))), ?_⟩
    refine ⟨_, rfl, p, _, _, _, _, rfl, A.ob, E.c_IdealHeap, E.n_IdealHeap_kept, hf_kept, L.ka, keptK L h.kept, keys h.kept, rfl, Or.inl A.kept, by unfold keptK keys; rw [List.map_map, List.map_map]; rfl, fun ys z hp hs hz => ?_⟩
    rw [asc_perm hp hs A.wf.asc]
    exact q z hz
def spDue (K : PySem.W.Frag) : Sp := fun vs H Q _ => ∃ (p : Addr) (t : Int) (h : IH) (L : Lay) (th : Thing), vs = [.ref p, .int t] ∧ At K H p h L ∧ kget h.kept t = some th ∧ Q (.ref (L.ad t)) H
theorem sc_IdealHeap_thing_due : FnScope ["self", "t"] ["self", "t"] (defScope st_IdealHeap_thing_due) := ⟨rfl, rfl, rfl, by decide +kernel, rfl, by decide +kernel, by decide +kernel⟩
theorem ok_IdealHeap_thing_due (E : Txt K mg) : FnOk P w K mg base CX0 1 (fAd at_IdealHeap_thing_due K) (fdOf at_IdealHeap_thing_due K) ["self", "t"] (spDue K) := by
  refine FunD.ok0 E.fd_IdealHeap_thing_due sc_IdealHeap_thing_due (fun vs H Q E0 h => ?_) (fun cdv A outer s H vs Q E0 hr h => ?_)
  · obtain ⟨p, t, h, L, th, rfl, _⟩ := h
    rfl
  · obtain ⟨p, t, h, L, th, rfl, A, eg, q⟩ := h
    refine ⟨_, (pss_cons (ps_if (pt_cmp (pc_dnotin (hu_of hr) (pv 1) (pe_fld (pv 0) rfl)) (by rfl)) (pss_one ps_never) pss_nil)
      (pss_one (ps_ret (pe_dget (hu_of hr) (pe_fld (pv 0) rfl) (pv 1) (fun _ _ => rfl))))), ?_⟩
    have dg := kept_dg A.toAtR eg
    exact ⟨_, rfl, _, rfl, p, _, _, _, _, rfl, A.ob, E.c_IdealHeap, E.n_IdealHeap_kept, hf_kept, L.ka, _, rfl, dg, _, rfl, _, rfl, p, _, _, _, _, rfl, A.ob, E.c_IdealHeap, E.n_IdealHeap_kept, hf_kept, _, rfl, L.ka, V.ref (L.ad t), rfl, dg, q⟩
def spFieldsOf (K : PySem.W.Frag) : Sp := fun vs H Q _ => ∃ (p : Addr) (t : Int) (h : IH) (L : Lay) (th : Thing), vs = [.ref p, .int t] ∧ At K H p h L ∧ kget h.kept t = some th ∧ ∀ il q, VAs H il th.inside → H q = none → Q (.ref q) (upd H q (.lst il))
theorem sc_IdealHeap_fields_of : FnScope ["self", "t"] ["self", "t"] (defScope st_IdealHeap_fields_of) := ⟨rfl, rfl, rfl, by decide +kernel, rfl, by decide +kernel, by decide +kernel⟩
theorem ok_IdealHeap_fields_of (E : Txt K mg) : FnOk P w K mg base CX0 2 (fAd at_IdealHeap_fields_of K) (fdOf at_IdealHeap_fields_of K) ["self", "t"] (spFieldsOf K) := by
  refine FunD.ok0 E.fd_IdealHeap_fields_of sc_IdealHeap_fields_of (fun vs H Q E0 h => ?_) (fun cdv A outer s H vs Q E0 hr h => ?_)
  · obtain ⟨p, t, h, L, th, rfl, _⟩ := h
    rfl
  · obtain ⟨p, t, h, L, th, rfl, A, eg, q⟩ := h
    refine ⟨_, (pss_one (ps_ret (pe_callTy call_list_of (by rfl) E.f_list (by decide +kernel) (pa_cons (pe_fld (pe_meth (pv 0) E.c_IdealHeap E.m_IdealHeap_thing_due (ok_IdealHeap_thing_due E) (hr.mono (by decide)) E.b_IdealHeap_thing_due .nil pass0 (pa_cons (pv 1) pa_nil)) rfl) pa_nil)))), ?_⟩
    obtain ⟨ob, il, li, vi⟩ := A.things.at_ _ (kget_mem eg)
    exact ⟨_, rfl, p, _, _, rfl, A.ob, (by kernel_rfl), _, rfl, p, t, h, L, th, rfl, A, eg, L.ad t, _, _, _, _, rfl, ob, E.c_IdealThing, E.n_IdealThing_inside, tf_inside, L.il t, il, rfl, Or.inl (SqL.of li), fun l hl => q il l vi hl⟩
def spIsOld (K : PySem.W.Frag) : Sp := fun vs H Q _ => ∃ (p : Addr) (t : Int) (h : IH) (L : Lay) (th : Thing), vs = [.ref p, .int t] ∧ At K H p h L ∧ kget h.kept t = some th ∧ Q (.bl th.aged) H
theorem sc_IdealHeap_is_old : FnScope ["self", "t"] ["self", "t"] (defScope st_IdealHeap_is_old) := ⟨rfl, rfl, rfl, by decide +kernel, rfl, by decide +kernel, by decide +kernel⟩
theorem ok_IdealHeap_is_old (E : Txt K mg) : FnOk P w K mg base CX0 2 (fAd at_IdealHeap_is_old K) (fdOf at_IdealHeap_is_old K) ["self", "t"] (spIsOld K) := by
  refine FunD.ok0 E.fd_IdealHeap_is_old sc_IdealHeap_is_old (fun vs H Q E0 h => ?_) (fun cdv A outer s H vs Q E0 hr h => ?_)
  · obtain ⟨p, t, h, L, th, rfl, _⟩ := h
    rfl
  · obtain ⟨p, t, h, L, th, rfl, A, eg, q⟩ := h
    refine ⟨_, (pss_one (ps_ret (pe_fld (pe_meth (pv 0) E.c_IdealHeap E.m_IdealHeap_thing_due (ok_IdealHeap_thing_due E) (hr.mono (by decide)) E.b_IdealHeap_thing_due .nil pass0 (pa_cons (pv 1) pa_nil)) rfl))), ?_⟩
    obtain ⟨ob, il, li, vi⟩ := A.things.at_ _ (kget_mem eg)
    exact ⟨_, rfl, p, _, _, rfl, A.ob, (by kernel_rfl), _, rfl, p, t, h, L, th, rfl, A, eg, L.ad t, _, _, _, _, rfl, ob, E.c_IdealThing, E.n_IdealThing_aged, tf_aged, q⟩
def spWordOf (K : PySem.W.Frag) : Sp := fun vs H Q _ => ∃ (p : Addr) (t : Int) (h : IH) (L : Lay) (th : Thing), vs = [.ref p, .int t] ∧ At K H p h L ∧ kget h.kept t = some th ∧ Q (oV th.word) H
theorem sc_IdealHeap_word_of : FnScope ["self", "t"] ["self", "t"] (defScope st_IdealHeap_word_of) := ⟨rfl, rfl, rfl, by decide +kernel, rfl, by decide +kernel, by decide +kernel⟩
theorem ok_IdealHeap_word_of (E : Txt K mg) : FnOk P w K mg base CX0 2 (fAd at_IdealHeap_word_of K) (fdOf at_IdealHeap_word_of K) ["self", "t"] (spWordOf K) := by
  refine FunD.ok0 E.fd_IdealHeap_word_of sc_IdealHeap_word_of (fun vs H Q E0 h => ?_) (fun cdv A outer s H vs Q E0 hr h => ?_)
  · obtain ⟨p, t, h, L, th, rfl, _⟩ := h
    rfl
  · obtain ⟨p, t, h, L, th, rfl, A, eg, q⟩ := h
    refine ⟨_, (pss_one (ps_ret (pe_fld (pe_meth (pv 0) E.c_IdealHeap E.m_IdealHeap_thing_due (ok_IdealHeap_thing_due E) (hr.mono (by decide)) E.b_IdealHeap_thing_due .nil pass0 (pa_cons (pv 1) pa_nil)) rfl))), ?_⟩
    obtain ⟨ob, il, li, vi⟩ := A.things.at_ _ (kget_mem eg)
    exact ⟨_, rfl, p, _, _, rfl, A.ob, (by kernel_rfl), _, rfl, p, t, h, L, th, rfl, A, eg, L.ad t, _, _, _, _, rfl, ob, E.c_IdealThing, E.n_IdealThing_last_word, tf_word, q⟩
def spDoomed (K : PySem.W.Frag) : Sp := fun vs H Q _ => ∃ (p : Addr) (h : IH) (L : Lay), vs = [.ref p] ∧ At K H p h L ∧ ∀ q, H q = none → Q (.ref q) (upd H q (.lst []))
theorem sc_IdealHeap_doomed : FnScope ["self"] ["self"] (defScope st_IdealHeap_doomed) := ⟨rfl, rfl, rfl, by decide +kernel, rfl, by decide +kernel, by decide +kernel⟩
theorem ok_IdealHeap_doomed (E : Txt K mg) : FnOk P w K mg base CX0 1 (fAd at_IdealHeap_doomed K) (fdOf at_IdealHeap_doomed K) ["self"] (spDoomed K) := by
  refine FunD.ok0 E.fd_IdealHeap_doomed sc_IdealHeap_doomed (fun vs H Q E0 h => ?_) (fun cdv A outer s H vs Q E0 hr h => ?_)
  · obtain ⟨p, h, L, rfl, _⟩ := h
    rfl
  · obtain ⟨p, h, L, rfl, A, q⟩ := h
    refine ⟨_, (pss_cons (ps_if (pt_cmpR op_isN (pe_fld (pv 0) rfl) pe_non (nomark _)) (pss_one (ps_ret (pe_lst pa_nil))) pss_nil)
      (pss_one (ps_ret (pe_callB cr_sortedI (by rfl) E.f_sorted (by decide +kernel) (pa_cons (pe_fld (pv 0) rfl) pa_nil))))), ?_⟩
    exact ⟨_, rfl, p, _, _, _, _, rfl, A.ob, E.c_IdealHeap, E.n_IdealHeap_going, hf_going, rfl, _, rfl, by decide, fun l hl => q l hl⟩
def spMade (K : PySem.W.Frag) : Sp := fun vs H Q _ => ∃ (p : Addr) (h : IH) (L : Lay), vs = [.ref p] ∧ At K H p h L ∧ Q (.int h.count) H
theorem sc_IdealHeap_made : FnScope ["self"] ["self"] (defScope st_IdealHeap_made) := ⟨rfl, rfl, rfl, by decide +kernel, rfl, by decide +kernel, by decide +kernel⟩
theorem ok_IdealHeap_made (E : Txt K mg) : FnOk P w K mg base CX0 1 (fAd at_IdealHeap_made K) (fdOf at_IdealHeap_made K) ["self"] (spMade K) := by
  refine FunD.ok0 E.fd_IdealHeap_made sc_IdealHeap_made (fun vs H Q E0 h => ?_) (fun cdv A outer s H vs Q E0 hr h => ?_)
  · obtain ⟨p, h, L, rfl, _⟩ := h
    rfl
  · obtain ⟨p, h, L, rfl, A, q⟩ := h
    refine ⟨_, (pss_one (ps_ret (pe_fld (pv 0) rfl))), ?_⟩
    exact ⟨_, rfl, p, _, _, _, _, rfl, A.ob, E.c_IdealHeap, E.n_IdealHeap_count, hf_count, q⟩
def spRoundOn (K : PySem.W.Frag) : Sp := fun vs H Q _ => ∃ (p : Addr) (h : IH) (L : Lay), vs = [.ref p] ∧ At K H p h L ∧ Q (.bl false) H
theorem sc_IdealHeap_round_on : FnScope ["self"] ["self"] (defScope st_IdealHeap_round_on) := ⟨rfl, rfl, rfl, by decide +kernel, rfl, by decide +kernel, by decide +kernel⟩
theorem ok_IdealHeap_round_on (E : Txt K mg) : FnOk P w K mg base CX0 1 (fAd at_IdealHeap_round_on K) (fdOf at_IdealHeap_round_on K) ["self"] (spRoundOn K) := by
  refine FunD.ok0 E.fd_IdealHeap_round_on sc_IdealHeap_round_on (fun vs H Q E0 h => ?_) (fun cdv A outer s H vs Q E0 hr h => ?_)
  · obtain ⟨p, h, L, rfl, _⟩ := h
    rfl
  · obtain ⟨p, h, L, rfl, A, q⟩ := h
    refine ⟨_, (pss_one (ps_ret (pe_cmpR op_notN (pe_fld (pv 0) rfl) pe_non (nomark _)))), ?_⟩
    exact ⟨_, rfl, p, _, _, _, _, rfl, A.ob, E.c_IdealHeap, E.n_IdealHeap_going, hf_going, rfl, (show Q (.bl (!decide ((V.non : V) = V.non))) H by simpa using q)⟩
def spHeld (K : PySem.W.Frag) : Sp := fun vs H Q _ => ∃ (p : Addr) (h : IH) (L : Lay), vs = [.ref p] ∧ At K H p h L ∧ ∀ H' : Hp, Same H H' → Q (.int (words h.kept)) H'
theorem sc_IdealHeap_held : FnScope ["self"] ["self"] (defScope st_IdealHeap_held) := ⟨rfl, rfl, rfl, by decide +kernel, rfl, by decide +kernel, by decide +kernel⟩
theorem ok_IdealHeap_held (E : Txt K mg) : FnOk P w K mg base CX0 3 (fAd at_IdealHeap_held K) (fdOf at_IdealHeap_held K) ["self"] (spHeld K) := by
  refine FunD.ok0 E.fd_IdealHeap_held sc_IdealHeap_held (fun vs H Q E0 h => ?_) (fun cdv A outer s H vs Q E0 hr h => ?_)
  · obtain ⟨p, h, L, rfl, _⟩ := h
    rfl
  · obtain ⟨p, h, L, rfl, A, q⟩ := h
    refine ⟨_, (pss_one (ps_ret (pe_call (ok_words_in E) (hr.mono (by decide)) (by rfl) E.g_words_in E.fd_words_in.kp E.b_words_in .nil pass0 (pa_cons (pe_fld (pv 0) rfl) (pa_cons (pe_fld (pv 0) rfl) pa_nil))))), ?_⟩
    exact ⟨_, rfl, p, _, _, _, _, rfl, A.ob, E.c_IdealHeap, E.n_IdealHeap_kept, hf_kept, _, rfl, p, _, _, _, _, rfl, A.ob, E.c_IdealHeap, E.n_IdealHeap_kept, hf_kept, L.ka, L.ka, L, h.kept, h.kept, keptK L h.kept, rfl, Or.inl A.kept, A.things, A.wf.asc, A.kept, by unfold keptK; rw [List.map_map]; rfl, fun q hq => hq, A.wf.few, by have := A.wf.klen; omega, q⟩
end
end Sh
end

section
set_option Elab.async false
set_option linter.all false
set_option maxRecDepth 100000
set_option maxHeartbeats 4000000
/-! Last words; how heaps and things begin. -/
namespace Sh
open PySem PySem.Spec PyProof.Rows L2
section
variable {P : Program} {w : World} {K : PySem.W.Frag} {mg : Str → Option Value} {base : Heap}
theorem bearers_take {kept : List (Int × Thing)} {i : Nat} {q : Int × Thing} (h : kept[i]? = some q) : bearers (kept.take (i + 1)) = bearers (kept.take i) ++ (if q.2.word.isSome then [q] else []) := by
  unfold bearers
  rw [take_sub h, List.filter_append, List.filter_cons]
  rfl
def spWord (K : PySem.W.Frag) : Sp := fun vs H Q E => ∃ (p : Addr) (i x : Int) (h : IH) (L : Lay), vs = [.ref p, .int i, .int x] ∧ At K H p h L ∧ (0 ≤ i ∧ i < 8) ∧ PostU K p H h L Q E (dWord h i x)
theorem sc_IdealHeap_word : FnScope ["self", "h", "x", "thing", "bearers", "other"] ["self", "h", "x"] (defScope st_IdealHeap_word) := ⟨rfl, rfl, rfl, by decide +kernel, rfl, by decide +kernel, by decide +kernel⟩
theorem ok_IdealHeap_word (E : Txt K mg) : FnOk P w K mg base (L2.CX P w) 4 (fAd at_IdealHeap_word K) (fdOf at_IdealHeap_word K) ["self", "h", "x"] (spWord K) := by
  refine FunD.ok E.fd_IdealHeap_word sc_IdealHeap_word (fun vs H Q E0 h => ?_) (fun cdv A outer s H vs Q E0 hr h => ?_)
  · obtain ⟨p, i, x, h, L, rfl, _⟩ := h
    rfl
  · obtain ⟨p, i, x, h, L, rfl, A, hi, q⟩ := h
    refine ⟨_, (pss_cons (ps_set (i := 3) sc_IdealHeap_word.nd rfl (Or.inl rfl) (pe_meth (pv 0) E.c_IdealHeap E.m_IdealHeap_thing_in (ok_IdealHeap_thing_in E) (hr.mono (by decide)) E.b_IdealHeap_thing_in .nil (passes_call (takes_of rfl rfl rfl rfl) fun _ _ _ _ h => h) (pa_cons (pv 1) pa_nil)))
      (pss_cons (ps_expr (pe_call (ok_number_value E) (hr.mono (by decide)) (by rfl) E.g_number_value E.fd_number_value.kp E.b_number_value .nil (passes_call (takes_of rfl rfl rfl rfl) fun _ _ _ _ h => h) (pa_cons (pv 2) pa_nil)))
      (pss_cons (ps_lock (ps_setLc (i := 4) (own := [("other", 5)]) rfl sc_IdealHeap_word.nd rfl rfl (sw_true rfl rfl rfl (by decide +kernel)) (pi_keys (pe_fld (pv 0) rfl)) (blkOk_by (own := [("other", 5)]) (N := ["self", "h", "x", "thing", "bearers", "other"]) (sc := (defScope st_IdealHeap_word)) (by decide +kernel)) (fun _ _ _ _ _ => (pg_name (i := 5) sc_IdealHeap_word.nd rfl (Or.inl rfl))) (fun _ _ _ _ _ => (pts_one (pt_cmpR op_notN (pe_fldK (K := K) rfl (pe_dget (hu_of hr) (pe_fldK (K := K) rfl (pv 0) rfl) (pv 5) (fun _ _ => rfl)) rfl) pe_non (nomark _)))) (fun _ _ _ _ _ => by exact ((pv 5)))))
      (pss_cons (ps_if (PW.pt (pw_and (pt_cmpR op_isN (pe_fld (pe_dget (hu_of hr) (pe_fld (pv 0) rfl) (pv 3) (fun _ _ => rfl)) rfl) pe_non (nomark _)) (pw_and1 (pt_cmpR op_ge (pe_callB call_len (by rfl) E.f_len PySem.boot_len (pa_cons (pv 4) pa_nil)) (pe_gi E.i_MOST_WORDS) (nomark _))))) (pss_one (ps_raise rfl (takes_of rfl rfl rfl rfl) (pmk_own PySem.F.excBase_ValueError E.x_TooManyWords.1 E.g_TooManyWords E.x_TooManyWords.2.1 (raises_own E.x_TooManyWords.2.2.1 E.x_TooManyWords.2.2.2) rfl))) pss_nil)
      (pss_one (ps_fld (pe_dget (hu_of hr) (pe_fld (pv 0) rfl) (pv 3) (fun _ _ => rfl)) (pv 2) rfl)))))), ?_⟩
    unfold dWord at q
    refine ⟨_, rfl, p, _, _, rfl, A.ob, (by kernel_rfl), _, rfl, p, i, h, L, rfl, A, hi, fun t et => ?_, fun en => ?_⟩
    rotate_left
    · rw [en] at q
      exact q H L A (Fr.refl _ _ _ _)
    rw [et] at q
    obtain ⟨th, eg⟩ := A.wf.at_hand hi et
    dsimp only at q
    rw [eg] at q
    dsimp only at q
    refine ⟨_, rfl, x, rfl, fun c a ha => ?_, fun c => ?_⟩
    rotate_left
    · rw [if_neg (by rw [c]; exact Bool.false_ne_true)] at q
      exact q H L A (Fr.refl _ _ _ _)
    rw [if_pos c] at q
    have s0 : Same H (upd H a (.tup [.str "number", .int x])) := upd_same_of_none ha
    generalize upd H a (.tup [.str "number", .int x]) = H0 at s0 ⊢
    have A0 := A.same s0
    refine ⟨L.ka, .dK (keptK L h.kept), A0.kept, trivial, fun od => ?_⟩
    have nk : p ≠ L.ka := ne_of A0.ob A0.kept (fun z => by cases z)
    have ob1 : (upd H0 L.ka (.frz od (.dK (keptK L h.kept)))) p = some (.ins (CH K) L.dx (hf h L)) := by
      rw [upd_ne nk]
      exact A0.ob
    refine ⟨_, rfl, p, _, _, _, _, rfl, ob1, E.c_IdealHeap, E.n_IdealHeap_kept, hf_kept, L.ka, od, rfl, Or.inl ⟨_, upd_same, fun D hD => ?_⟩⟩
    have neD : L.ka ≠ D := ne_of_none (o := .frz od (.dK (keptK L h.kept))) upd_same hD
    have HD : H0 D = none := by rw [upd_ne neD.symm] at hD; exact hD
    have lt : Things (CT K) (upd H0 L.ka (.frz od (.dK (keptK L h.kept)))) L h.kept := A0.things.off A0.kept trivial fun b o e hne => by rw [upd_ne hne]; exact e
    have kl : (keptK L h.kept).length = h.kept.length := List.length_map _
    have klen := A.wf.klen
    refine lc_it (walk_keys (kvs := keptK L h.kept)) (fun i H1 => H1 D = some (.lst ((keys (bearers (h.kept.take i))).map V.int)) ∧ Same (upd H0 L.ka (.frz od (.dK (keptK L h.kept)))) H1)
      ⟨by simp [upd_same, bearers, keys], upd_same_of_none hD⟩ (fun i H1 _ h => h.2 _ _ upd_same) ?_ ?_
    · rintro i v H1 H2 hi ⟨h1, h2⟩ ⟨rfl, k, kv, hkv, rfl⟩
      obtain ⟨r, hr, rfl⟩ := keptK_get hkv
      have rm := List.mem_of_getElem? hr
      obtain ⟨ob, il, li, va⟩ := (lt.same h2).at_ r rm
      have eg2 : kget h.kept r.1 = some r.2 := mem_kget A.wf.asc rm
      have bl : (bearers (h.kept.take i)).length ≤ 400 := Nat.le_trans (List.length_filter_le _ _) (by rw [List.length_take]; omega)
      refine ⟨rfl, _, rfl, p, _, _, _, _, rfl, h2 _ _ ob1, E.c_IdealHeap, E.n_IdealHeap_kept, hf_kept, _, rfl, L.ka, V.ref (L.ad r.1), rfl, dget_rd (k := Sum.inl r.1) (Or.inr ⟨od, h2 _ _ upd_same⟩) (by rw [keptK_val, eg2]; rfl), L.ad r.1, _, _, _, _, rfl, ob, E.c_IdealThing, E.n_IdealThing_last_word, tf_word, rfl, _, rfl, ?_⟩
      cases ew : r.2.word with
      | none =>
        refine iteF ⟨?_, h2⟩
        rw [h1, bearers_take hr, ew]
        simp
      | some y =>
        refine iteT ⟨_, rfl, _, h1, ?_, ?_, fun b o e => ?_⟩
        · rw [List.length_map]
          unfold keys
          rw [List.length_map]
          exact line1000 (by omega)
        · rw [upd_same, bearers_take hr, ew]
          unfold keys
          simp
          rfl
        · rw [upd_ne (ne_of_none e hD)]
          exact h2 b o e
    · rintro H1 ⟨h1, h2⟩
      rw [kl, List.take_length] at h1
      refine ⟨h2 _ _ upd_same, ?_⟩
      have s1 : Same H0 (upd H1 L.ka (.dK (keptK L h.kept))) := same_unlock A0.kept fun b o e hne => h2 b o (by rw [upd_ne hne]; exact e)
      have hb : (upd H1 L.ka (.dK (keptK L h.kept))) D = some (.lst ((keys (bearers h.kept)).map V.int)) := by rw [upd_ne neD.symm]; exact h1
      generalize upd H1 L.ka (.dK (keptK L h.kept)) = H2 at s1 hb ⊢
      have A2 := A0.same s1
      have F2 : Fr p L h.kept H L h.kept H2 := Fr.same (s0.trans s1)
      have dg := kept_dg A2.toAtR eg
      obtain ⟨ob, il, li, vi⟩ := A2.things.at_ _ (kget_mem eg)
      have put : Q .non (upd H2 (L.ad t) (.ins (CT K) (L.td t) (tf (L.il t) th.aged (some x)))) ∨ (th.word = none ∧ 12 ≤ (bearers h.kept).length) := by
        by_cases z : th.word = none ∧ 12 ≤ (bearers h.kept).length
        · exact Or.inr z
        · rw [if_neg z] at q
          refine Or.inl (q _ L ⟨A2.toAtR.set_thing A.wf.asc eg (fun th => { th with word := some x }) fun _ => rfl, ?_⟩ (F2.trans (Fr.upd (fp_ad (kget_mem eg)) (keys_kmod h.kept t (fun th => { th with word := some x })))))
          exact A.wf.kmod t (fun _ => rfl) (fun th2 u m mu => A.wf.fin _ m u mu) fun th2 y m e => by cases e; exact c
      have bad : (th.word = none ∧ 12 ≤ (bearers h.kept).length) → E0 (.ref (eAd K .tooMany)) none H2 := fun z => by
        rw [if_pos z] at q
        exact q H2 L A2 F2
      have bl : ((keys (bearers h.kept)).map V.int).length = (bearers h.kept).length := by unfold keys; rw [List.length_map, List.length_map]
      refine ⟨_, rfl, p, _, _, _, _, rfl, A2.ob, E.c_IdealHeap, E.n_IdealHeap_kept, hf_kept, _, rfl, L.ka, V.ref (L.ad t), rfl, dg, L.ad t, _, _, _, _, rfl, ob, E.c_IdealThing, E.n_IdealThing_last_word, tf_word, rfl, _, rfl, ?_⟩
      have go := fun z => put.resolve_right z
      clear put
      cases ew : th.word with
      | some y =>
        refine iteF ?_
        refine ⟨_, rfl, _, rfl, p, _, _, _, _, rfl, A2.ob, E.c_IdealHeap, E.n_IdealHeap_kept, hf_kept, _, rfl, L.ka, V.ref (L.ad t), rfl, dg, L.ad t, _, _, _, rfl, ob, E.c_IdealThing, E.n_IdealThing_last_word, (by show 3 < 1000; decide), ?_⟩
        rw [tf_put_word]
        exact go fun z => by rw [ew] at z; cases z.1
      | none =>
        refine iteT ⟨_, rfl, _, _, rfl, Or.inl ⟨_, SqL.of hb, rfl⟩, _, _, rfl, rfl, _, rfl, ifd (fun z => ?_) fun z => ?_⟩
        · exact bad ⟨ew, by omega⟩
        · refine ⟨_, rfl, _, rfl, p, _, _, _, _, rfl, A2.ob, E.c_IdealHeap, E.n_IdealHeap_kept, hf_kept, _, rfl, L.ka, V.ref (L.ad t), rfl, dg, L.ad t, _, _, _, rfl, ob, E.c_IdealThing, E.n_IdealThing_last_word, (by show 3 < 1000; decide), ?_⟩
          rw [tf_put_word]
          exact go fun y => z (by omega)
end
end Sh
end

section
set_option Elab.async false
set_option linter.all false
set_option maxRecDepth 100000
set_option maxHeartbeats 4000000
/-! How heaps and things begin. -/
namespace Sh
open PySem PySem.Spec PyProof.Rows L2
def ih0 (y l : Int) : IH := ⟨y, l, List.replicate 8 .non, List.replicate 8 none, [], 0, []⟩
theorem WF.begin {y l : Int} (h0 : 0 ≤ l) (h1 : l ≤ 400) : WF (ih0 y l) := by
  refine ⟨rfl, rfl, List.Pairwise.nil, fun q hq => by (cases hq), fun t m => ?_, fun t m => ?_, fun q hq => by (cases hq), fun q hq => by (cases hq), ?_, h1, fun q hq => by (cases hq), fun x hx => by (cases hx), Int.le_refl _⟩
  · have := List.eq_of_mem_replicate (show Val.thg t ∈ List.replicate 8 Val.non from m)
    cases this
  · have := List.eq_of_mem_replicate (show some t ∈ List.replicate 8 (none : Option Int) from m)
    cases this
  · show words [] ≤ l
    unfold words
    simpa using h0
section
variable {P : Program} {w : World} {K : PySem.W.Frag} {mg : Str → Option Value} {base : Heap}
def spThInit (K : PySem.W.Frag) : Sp := fun vs H Q _ => ∃ (x dx : Addr) (n : Int) (old : Bool), vs = [.ref x, .int n, .bl old] ∧ H x = some (.ins (CT K) dx []) ∧ (0 ≤ n ∧ n ≤ 6) ∧
  ∀ D, H D = none → Q .non (upd (upd H D (.lst (List.replicate n.toNat .non))) x (.ins (CT K) dx (tf D old none)))
theorem sc_IdealThing_init : FnScope ["self", "fields", "old", "place"] ["self", "fields", "old"] (defScope st_IdealThing_init) := ⟨rfl, rfl, rfl, by decide +kernel, rfl, by decide +kernel, by decide +kernel⟩
theorem ok_IdealThing_init (E : Txt K mg) : FnOk P w K mg base CX0 1 (fAd at_IdealThing_init K) (fdOf at_IdealThing_init K) ["self", "fields", "old"] (spThInit K) := by
  refine FunD.ok0 E.fd_IdealThing_init sc_IdealThing_init (fun vs H Q E0 h => ?_) (fun cdv A outer s H vs Q E0 hr h => ?_)
  · obtain ⟨x, dx, n, old, rfl, _⟩ := h
    rfl
  · obtain ⟨x, dx, n, old, rfl, ob, hn, q⟩ := h
    refine ⟨_, (pss_cons (ps_fld (pv 0) (pe_lc (own := [("place", 3)]) rfl sc_IdealThing_init.nd (pi_range1 (by rfl) E.f_range (pa_cons (pv 1) pa_nil)) (blkOk_by (own := [("place", 3)]) (N := ["self", "fields", "old", "place"]) (sc := (defScope st_IdealThing_init)) (by decide +kernel)) (fun _ _ _ _ _ => (pg_name (i := 3) sc_IdealThing_init.nd rfl (Or.inl rfl))) (fun _ _ _ _ _ => pts_nil) (fun _ _ _ _ _ => by exact (pe_non))) rfl)
      (pss_cons (ps_fld (pv 0) (pv 2) rfl)
      (pss_one (ps_fld (pv 0) pe_non rfl)))), ?_⟩
    refine ⟨_, rfl, n, rfl, by omega, by omega, fun D hD => ?_⟩
    refine lc_it (walk_range (lo := 0) (n := n.toNat)) (fun i H1 => H1 = upd H D (.lst (List.replicate i .non))) rfl (fun _ _ _ _ => trivial) ?_ ?_
    · rintro i v H1 H2 hi rfl ⟨rfl, rfl⟩
      exact ⟨rfl, List.replicate i .non, upd_same, by rw [List.length_replicate]; exact line1000 (by omega), by rw [upd_upd, List.replicate_succ']⟩
    · rintro H1 rfl
      have nx : x ≠ D := ne_of_none ob hD
      refine ⟨_, rfl, x, _, _, _, rfl, by rw [upd_ne nx]; exact ob, E.c_IdealThing, E.n_IdealThing_inside, (by decide), ?_⟩
      refine ⟨_, rfl, _, rfl, x, _, _, _, rfl, upd_same, E.c_IdealThing, E.n_IdealThing_aged, (by show 1 < 1000; decide), ?_⟩
      refine ⟨_, rfl, x, _, _, _, rfl, upd_same, E.c_IdealThing, E.n_IdealThing_last_word, (by show 2 < 1000; decide), ?_⟩
      rw [upd_upd, upd_upd]
      exact q D hD
def spHInit (K : PySem.W.Frag) : Sp := fun vs H Q _ => ∃ (x dx : Addr) (y l : Int), vs = [.ref x, .int y, .int l] ∧ H x = some (.ins (CH K) dx []) ∧ (y = 0 ∨ (7 ≤ y ∧ y ≤ 64)) ∧ 7 ≤ l ∧ l ≤ 400 ∧
  ∀ H' L, At K H' x (ih0 y l) L → (∀ b o, H b = some o → b ≠ x → H' b = some o) → (∀ b, fp x L [] b → b = x ∨ H b = none) → Q .non H'
theorem sc_IdealHeap_init : FnScope ["self", "young", "limit", "hand", "name"] ["self", "young", "limit"] (defScope st_IdealHeap_init) := ⟨rfl, rfl, rfl, by decide +kernel, rfl, by decide +kernel, by decide +kernel⟩
theorem ok_IdealHeap_init (E : Txt K mg) : FnOk P w K mg base (L2.CX P w) 2 (fAd at_IdealHeap_init K) (fdOf at_IdealHeap_init K) ["self", "young", "limit"] (spHInit K) := by
  refine FunD.ok E.fd_IdealHeap_init sc_IdealHeap_init (fun vs H Q E0 h => ?_) (fun cdv A outer s H vs Q E0 hr h => ?_)
  · obtain ⟨x, dx, y, l, rfl, _⟩ := h
    rfl
  · obtain ⟨x, dx, y, l, rfl, ob, hy, hl, hl2, q⟩ := h
    refine ⟨_, (pss_cons (ps_expr (pe_call (ok_look_at_limits E) (hr.mono (by decide)) (by rfl) E.g_look_at_limits E.fd_look_at_limits.kp E.b_look_at_limits .nil (passes_call (takes_of rfl rfl rfl rfl) fun _ _ _ _ h => h) (pa_cons (pv 1) (pa_cons (pv 2) pa_nil))))
      (pss_cons (ps_fld (pv 0) (pv 1) rfl)
      (pss_cons (ps_fld (pv 0) (pv 2) rfl)
      (pss_cons (ps_fld (pv 0) (pe_lc (own := [("hand", 3)]) rfl sc_IdealHeap_init.nd (pi_range1 (by rfl) E.f_range (pa_cons (pe_gi E.i_HANDS) pa_nil)) (blkOk_by (own := [("hand", 3)]) (N := ["self", "young", "limit", "hand", "name"]) (sc := (defScope st_IdealHeap_init)) (by decide +kernel)) (fun _ _ _ _ _ => (pg_name (i := 3) sc_IdealHeap_init.nd rfl (Or.inl rfl))) (fun _ _ _ _ _ => pts_nil) (fun _ _ _ _ _ => by exact (pe_non))) rfl)
      (pss_cons (ps_fld (pv 0) (pe_lc (own := [("name", 4)]) rfl sc_IdealHeap_init.nd (pi_range1 (by rfl) E.f_range (pa_cons (pe_gi E.i_NAMES) pa_nil)) (blkOk_by (own := [("name", 4)]) (N := ["self", "young", "limit", "hand", "name"]) (sc := (defScope st_IdealHeap_init)) (by decide +kernel)) (fun _ _ _ _ _ => (pg_name (i := 4) sc_IdealHeap_init.nd rfl (Or.inl rfl))) (fun _ _ _ _ _ => pts_nil) (fun _ _ _ _ _ => by exact (pe_non))) rfl)
      (pss_cons (ps_fld (pv 0) pe_dnewK rfl)
      (pss_cons (ps_fld (pv 0) pe_int rfl)
      (pss_cons (ps_fld (pv 0) pe_non rfl)
      (pss_one (ps_fld (pv 0) (pe_lst pa_nil) rfl)))))))))), ?_⟩
    refine ⟨_, rfl, _, rfl, y, l, rfl, hy, hl, hl2, ?_⟩
    -- room, limit
    refine ⟨_, rfl, _, rfl, x, _, _, _, rfl, ob, E.c_IdealHeap, E.n_IdealHeap_room, (by decide), ?_⟩
    refine ⟨_, rfl, _, rfl, x, _, _, _, rfl, upd_same, E.c_IdealHeap, E.n_IdealHeap_limit, (by show 1 < 1000; decide), ?_⟩
    rw [upd_upd]
    have o1 : (upd H x (.ins (CH K) dx (putF "limit" (.int l) (putF "room" (.int y) [])))) x = some (.ins (CH K) dx (putF "limit" (.int l) (putF "room" (.int y) []))) := upd_same
    have k1 : ∀ b o, H b = some o → b ≠ x → (upd H x (.ins (CH K) dx (putF "limit" (.int l) (putF "room" (.int y) [])))) b = some o := fun b o e n => by rw [upd_ne n]; exact e
    have f1 : ∀ b, (upd H x (.ins (CH K) dx (putF "limit" (.int l) (putF "room" (.int y) [])))) b = none → H b = none := fun b e => by
      by_cases z : b = x
      · rw [z, upd_same] at e
        cases e
      · rw [upd_ne z] at e
        exact e
    generalize upd H x (.ins (CH K) dx (putF "limit" (.int l) (putF "room" (.int y) []))) = H1 at o1 k1 f1 ⊢
    -- hands
    refine ⟨8, rfl, by decide, by decide, fun ha h1 => ?_⟩
    refine lc_it (walk_range (lo := 0) (n := 8)) (fun i H2 => H2 = upd H1 ha (.lst (List.replicate i .non))) rfl (fun _ _ _ _ => trivial) ?_ ?_
    · rintro i v H1 H2 hi rfl ⟨rfl, rfl⟩
      exact ⟨rfl, List.replicate i .non, upd_same, by rw [List.length_replicate]; exact line1000 (by omega), by rw [upd_upd, List.replicate_succ']⟩
    rintro _ rfl
    have nx : x ≠ ha := ne_of_none o1 h1
    refine ⟨_, rfl, x, _, _, _, rfl, by rw [upd_ne nx]; exact o1, E.c_IdealHeap, E.n_IdealHeap_in_hands, (by show 2 < 1000; decide), ?_⟩
    generalize eH2 : upd (upd H1 ha (.lst (List.replicate 8 .non))) x _ = H2
    have o2 := (congrFun eH2 x).symm.trans upd_same
    have a2 : H2 ha = some (.lst (List.replicate 8 .non)) := by rw [← eH2, upd_ne nx.symm]; exact upd_same
    have k2 : ∀ b o, H b = some o → b ≠ x → H2 b = some o := fun b o e n => by
      rw [← eH2, upd_ne n, upd_ne (ne_of_none (k1 b o e n) h1)]
      exact k1 b o e n
    have f2 : ∀ b, H2 b = none → H b = none := fun b e => f1 b (by
      rw [← eH2] at e
      by_cases z : b = x
      · rw [z, upd_same] at e
        cases e
      · rw [upd_ne z] at e
        by_cases z2 : b = ha
        · rw [z2, upd_same] at e
          cases e
        · rw [upd_ne z2] at e
          exact e)
    clear eH2
    -- names
    refine ⟨8, rfl, by decide, by decide, fun na h2 => ?_⟩
    refine lc_it (walk_range (lo := 0) (n := 8)) (fun i H3 => H3 = upd H2 na (.lst (List.replicate i .non))) rfl (fun _ _ _ _ => trivial) ?_ ?_
    · rintro i v H1 H2 hi rfl ⟨rfl, rfl⟩
      exact ⟨rfl, List.replicate i .non, upd_same, by rw [List.length_replicate]; exact line1000 (by omega), by rw [upd_upd, List.replicate_succ']⟩
    rintro _ rfl
    have nx2 : x ≠ na := ne_of_none o2 h2
    have nhn : ha ≠ na := ne_of_none a2 h2
    refine ⟨_, rfl, x, _, _, _, rfl, by rw [upd_ne nx2]; exact o2, E.c_IdealHeap, E.n_IdealHeap_naming, (by show 3 < 1000; decide), ?_⟩
    generalize eH3 : upd (upd H2 na (.lst (List.replicate 8 .non))) x _ = H3
    have o3 := (congrFun eH3 x).symm.trans upd_same
    have a3 : H3 ha = some (.lst (List.replicate 8 .non)) := by rw [← eH3, upd_ne nx.symm, upd_ne nhn]; exact a2
    have b3 : H3 na = some (.lst (List.replicate 8 .non)) := by rw [← eH3, upd_ne nx2.symm]; exact upd_same
    have k3 : ∀ b o, H b = some o → b ≠ x → H3 b = some o := fun b o e n => by
      rw [← eH3, upd_ne n, upd_ne (ne_of_none (k2 b o e n) h2)]
      exact k2 b o e n
    have f3 : ∀ b, H3 b = none → H b = none := fun b e => f2 b (by
      rw [← eH3] at e
      by_cases z : b = x
      · rw [z, upd_same] at e
        cases e
      · rw [upd_ne z] at e
        by_cases z2 : b = na
        · rw [z2, upd_same] at e
          cases e
        · rw [upd_ne z2] at e
          exact e)
    clear eH3
    -- kept
    refine fun ka h3 => ⟨_, rfl, x, _, _, _, rfl, by rw [upd_ne (ne_of_none o3 h3)]; exact o3, E.c_IdealHeap, E.n_IdealHeap_kept, (by show 4 < 1000; decide), ?_⟩
    have nx3 : x ≠ ka := ne_of_none o3 h3
    refine ⟨_, rfl, x, _, _, _, rfl, upd_same, E.c_IdealHeap, E.n_IdealHeap_count, (by show 5 < 1000; decide), ?_⟩
    refine ⟨_, rfl, x, _, _, _, rfl, upd_same, E.c_IdealHeap, E.n_IdealHeap_going, (by show 6 < 1000; decide), ?_⟩
    rw [upd_upd, upd_upd]
    generalize eH4 : upd (upd H3 ka (.dK [])) x _ = H4
    have o4 := (congrFun eH4 x).symm.trans upd_same
    have c4 : H4 ka = some (.dK []) := by rw [← eH4, upd_ne nx3.symm]; exact upd_same
    have k34 : ∀ b o, H3 b = some o → b ≠ x → H4 b = some o := fun b o e n => by
      rw [← eH4, upd_ne n, upd_ne (ne_of_none e h3)]
      exact e
    have f4 : ∀ b, H4 b = none → H b = none := fun b e => f3 b (by
      rw [← eH4] at e
      by_cases z : b = x
      · rw [z, upd_same] at e
        cases e
      · rw [upd_ne z] at e
        by_cases z2 : b = ka
        · rw [z2, upd_same] at e
          cases e
        · rw [upd_ne z2] at e
          exact e)
    clear eH4
    -- spoken
    refine ⟨by decide, fun sa h4 => ⟨_, rfl, x, _, _, _, rfl, by rw [upd_ne (ne_of_none o4 h4)]; exact o4, E.c_IdealHeap, E.n_IdealHeap_spoken, (by show 7 < 1000; decide), ?_⟩⟩
    have nx4 : x ≠ sa := ne_of_none o4 h4
    have a4 := k34 _ _ a3 nx.symm
    have b4 := k34 _ _ b3 nx2.symm
    have k45 : ∀ b o, H4 b = some o → b ≠ x → ∀ u, (upd (upd H4 sa (.lst [])) x u) b = some o := fun b o e n u => by
      rw [upd_ne n, upd_ne (ne_of_none e h4)]
      exact e
    refine q _ ⟨dx, ha, na, ka, sa, fun _ => x, fun _ => x, fun _ => x⟩ ⟨⟨upd_same, ⟨_, k45 _ _ a4 nx.symm _, ⟨rfl, fun i v z h1 h2 => ?_⟩⟩, k45 _ _ b4 nx2.symm _, k45 _ _ c4 nx3.symm _, by rw [upd_ne nx4.symm]; exact upd_same, ⟨fun q hq => by cases hq⟩, ?_⟩, WF.begin (by omega) hl2⟩ (fun b o e n => k45 _ _ (k34 _ _ (k3 b o e n) n) n _) ?_
    · obtain rfl := List.eq_of_mem_replicate (List.mem_of_getElem? h1)
      obtain rfl := List.eq_of_mem_replicate (List.mem_of_getElem? (show (List.replicate 8 Val.non)[i]? = some z from h2))
      rfl
    · exact ⟨nhn, ne_of_none a4 h4, ne_of_none b4 h4, fun q hq => by (cases hq), fun q hq => by (cases hq), fun q hq => by (cases hq), fun q hq => by (cases hq), fun q hq => by (cases hq)⟩
    · intro b f
      rcases f with z | z | z | z | z | ⟨r, hr, _⟩
      · exact Or.inl z
      · exact Or.inr (f1 b (by rw [z]; exact h1))
      · exact Or.inr (f2 b (by rw [z]; exact h2))
      · exact Or.inr (f3 b (by rw [z]; exact h3))
      · exact Or.inr (f4 b (by rw [z]; exact h4))
      · cases hr
end
end Sh
end

section
set_option Elab.async false
set_option linter.all false
set_option maxRecDepth 100000
set_option maxHeartbeats 4000000
/-! Things go: settle. -/
namespace Sh
open PySem PySem.Spec PyProof.Rows L2
theorem Fr.less {p : Addr} {L : Lay} {k k' : List (Int × Thing)} {H : Hp} {x : Addr} {o : HO} (hx : fp p L k x) (hk : ∀ q ∈ k', q.1 ∈ keys k) : Fr p L k H L k' (L2.upd H x o) := by
  refine ⟨fun b u e n => by rw [upd_ne fun z => n (by rw [z]; exact hx)]; exact e, fun b f => Or.inl ?_⟩
  rcases f with z | z | z | z | z | ⟨q, hq, z⟩
  · exact Or.inl z
  · exact Or.inr (Or.inl z)
  · exact Or.inr (Or.inr (Or.inl z))
  · exact Or.inr (Or.inr (Or.inr (Or.inl z)))
  · exact Or.inr (Or.inr (Or.inr (Or.inr (Or.inl z))))
  · obtain ⟨r, hr, e⟩ := List.mem_map.mp (hk q hq)
    exact Or.inr (Or.inr (Or.inr (Or.inr (Or.inr ⟨r, hr, by rw [e]; exact z⟩))))
section
variable {K : PySem.W.Frag} {H : Hp} {p : Addr} {h : IH} {L : Lay}
theorem keptK_drop (L : Lay) (t : Int) : ∀ kept : List (Int × Thing), dropK (keptK L kept) (Sum.inl t) = keptK L (kept.filter fun q => !decide (q.1 = t))
  | [] => rfl
  | a :: l => by
    have ih := keptK_drop L t l
    unfold dropK keptK at ih ⊢
    rw [List.map_cons, List.filter_cons, List.filter_cons, ih]
    by_cases c : a.1 = t
    · rw [if_neg (by simp [c]), if_neg (by simp [c])]
    · rw [if_pos (by simp [c]), if_pos (by simp [c])]
      rfl
theorem AtR.pop (A : AtR K H p h L) (t : Int) : AtR K (upd H L.ka (.dK (dropK (keptK L h.kept) (Sum.inl t)))) p { h with kept := h.kept.filter fun q => !decide (q.1 = t) } L := by
  have e := A.kept
  have tt : Tups H (upd H L.ka (.dK (dropK (keptK L h.kept) (Sum.inl t)))) := Tups.upd e fun _ z => by cases z
  have nl : ∀ {b : Addr} {o : HO}, H b = some o → (∀ xs, o ≠ .dK xs) → b ≠ L.ka := fun {b o} eb no => ne_of eb e (no _)
  obtain ⟨hl, h1, h2⟩ := A.hands
  refine ⟨?_, ⟨hl, by rw [upd_ne (nl h1 fun _ z => by cases z)]; exact h1, h2.mono tt⟩, ?_, ?_, ?_, ⟨fun q hq => ?_⟩, A.sep.of_keys fun q hq => List.mem_map.mpr ⟨q, (List.mem_filter.mp hq).1, rfl⟩⟩
  · rw [upd_ne (nl A.ob fun _ z => by cases z)]
    exact A.ob
  · rw [upd_ne (nl A.names fun _ z => by cases z)]
    exact A.names
  · rw [upd_same, keptK_drop]
  · rw [upd_ne (nl A.spoken fun _ z => by cases z)]
    exact A.spoken
  · obtain ⟨o1, il, l1, vi⟩ := A.things.at_ q (List.mem_filter.mp hq).1
    exact ⟨by rw [upd_ne (nl o1 fun _ z => by cases z)]; exact o1, il, by rw [upd_ne (nl l1 fun _ z => by cases z)]; exact l1, vi.mono tt⟩
theorem AtR.new_names (A : AtR K H p h L) {D : Addr} {ns : List (Option Int)} (hD : H D = some (.lst (ns.map oV))) (nf : ¬ fp p L h.kept D) :
    AtR K (upd H p (.ins (CH K) L.dx (hf h { L with na := D }))) p { h with names := ns } { L with na := D } := by
  have e := A.ob
  have tt : Tups H (upd H p (.ins (CH K) L.dx (hf h { L with na := D }))) := Tups.upd e fun _ z => by cases z
  have nl : ∀ {b : Addr} {o : HO}, H b = some o → (∀ C d fs, o = .ins C d fs → fs.length ≠ 8) → b ≠ p := fun {b o} eb no => ne_of eb e fun z => no _ _ _ z rfl
  obtain ⟨hl, h1, h2⟩ := A.hands
  have S := A.sep
  refine ⟨upd_same, ⟨hl, by rw [upd_ne (nl h1 fun _ _ _ z => by cases z)]; exact h1, h2.mono tt⟩, ?_, ?_, ?_, ⟨fun q hq => ?_⟩, ?_⟩
  · rw [upd_ne (nl hD fun _ _ _ z => by cases z)]
    exact hD
  · rw [upd_ne (nl A.kept fun _ _ _ z => by cases z)]
    exact A.kept
  · rw [upd_ne (nl A.spoken fun _ _ _ z => by cases z)]
    exact A.spoken
  · obtain ⟨o1, il, l1, vi⟩ := A.things.at_ q hq
    refine ⟨?_, il, by rw [upd_ne (nl l1 fun _ _ _ z => by cases z)]; exact l1, vi.mono tt⟩
    rw [upd_ne (nl o1 fun C d fs z => by cases z; show ¬ 3 = 8; decide)]
    exact o1
  · exact ⟨fun z => nf (by rw [← show L.ha = D from z]; exact fp_ha), S.hs, fun z => nf (by rw [show D = L.sa from z]; exact fp_sa), S.ilh, fun q hq z => nf (by rw [← show L.il q.1 = D from z]; exact fp_il hq), S.ils, S.ad, S.il⟩
end
theorem inV_int (t : Int) : ∀ gs : List Int, inV (.int t) (gs.map V.int) = decide (t ∈ gs)
  | [] => by simp [inV]
  | a :: l => by
    have ih := inV_int t l
    show ((a == t) || inV (.int t) (l.map V.int)) = _
    rw [ih]
    by_cases c : a = t
    · subst c
      simp
    · have : ¬ t = a := fun z => c z.symm
      simp [c, this]
theorem inV_non : ∀ gs : List Int, inV .non (gs.map V.int) = false
  | [] => rfl
  | a :: l => by
    show (false || inV .non (l.map V.int)) = false
    rw [inV_non l]
    rfl
theorem flat_ints : ∀ gs : List Int, (gs.map V.int).all flatV = true
  | [] => rfl
  | a :: l => by
    show (true && (l.map V.int).all flatV) = true
    rw [flat_ints l]
    rfl
/-- sorted: the gone ones, as they were made -/
theorem gone_sorted {kept : List (Int × Thing)} (A : Asc kept) {gs ys : List Int} (nd : gs.Nodup) (sub : ∀ t ∈ gs, t ∈ keys kept) (hp : ys.Perm gs) (hs : ys.Pairwise (· ≤ ·)) :
    ys = keys (kept.filter fun q => decide (q.1 ∈ gs)) := by
  have ak : Asc (kept.filter fun q => decide (q.1 ∈ gs)) := A.sublist (List.Sublist.map _ List.filter_sublist)
  refine asc_perm ?_ hs ak
  refine (List.perm_ext_iff_of_nodup (hp.nodup_iff.mpr nd) (asc_nodup ak)).mpr fun t => ?_
  rw [hp.mem_iff]
  constructor
  · intro m
    obtain ⟨q, hq, e⟩ := List.mem_map.mp (sub t m)
    exact List.mem_map.mpr ⟨q, List.mem_filter.mpr ⟨hq, by rw [e]; simpa using m⟩, e⟩
  · intro m
    obtain ⟨q, hq, e⟩ := List.mem_map.mp m
    have := (List.mem_filter.mp hq).2
    rw [e] at this
    simpa using this
theorem word_at {kept : List (Int × Thing)} (A : Asc kept) (g : Int → Bool) : ∀ {k : List (Int × Thing)}, (∀ q ∈ k, q ∈ kept) → (keys (k.filter fun q => g q.1)).filterMap (fun t => (kget kept t).bind (·.word)) = k.filterMap fun q => if g q.1 then q.2.word else none
  | [], _ => rfl
  | a :: l, h => by
    have ih := word_at A g (k := l) fun q m => h q (List.mem_cons_of_mem _ m)
    have e : kget kept a.1 = some a.2 := mem_kget A (h a (List.mem_cons_self ..))
    rw [List.filter_cons, List.filterMap_cons]
    cases c : g a.1 with
    | false =>
      rw [if_neg (by decide)]
      exact ih
    | true =>
      rw [if_pos rfl]
      unfold keys at ih ⊢
      rw [List.map_cons, List.filterMap_cons, e, ih]
      rfl
theorem names_get {ns : List (Option Int)} {i : Nat} {v : V} (h : (ns.map oV)[i]? = some v) : ∃ n, ns[i]? = some n ∧ v = oV n := by
  rw [List.getElem?_map] at h
  cases e : ns[i]? with
  | none =>
    rw [e] at h
    cases h
  | some n =>
    rw [e] at h
    exact ⟨n, rfl, (Option.some.inj h).symm⟩
section
variable {P : Program} {w : World} {K : PySem.W.Frag} {mg : Str → Option Value} {base : Heap}
def nameLeft (gs : List Int) (n : Option Int) : Option Int := match n with
  | some t => if decide (t ∈ gs) then none else some t
  | none => none
def spSettle (K : PySem.W.Frag) : Sp := fun vs H Q _ => ∃ (p ga : Addr) (gs : List Int) (h : IH) (L : Lay), vs = [.ref p, .ref ga] ∧ AtR K H p h L ∧ Asc h.kept ∧ h.kept.length ≤ 1000 ∧ h.spoken.length ≤ 20000 ∧ h.names.length = 8 ∧
  H ga = some (.lst (gs.map V.int)) ∧ gs.Nodup ∧ (∀ t ∈ gs, t ∈ keys h.kept) ∧ ¬ fp p L h.kept ga ∧ ∀ H' L', AtR K H' p (settled h fun t => decide (t ∈ gs)) L' → Fr p L h.kept H L' (settled h fun t => decide (t ∈ gs)).kept H' → Q .non H'
theorem sc_IdealHeap_settle : FnScope ["self", "gone", "thing"] ["self", "gone"] (defScope st_IdealHeap_settle) := ⟨rfl, rfl, rfl, by decide +kernel, rfl, by decide +kernel, by decide +kernel⟩
theorem ok_IdealHeap_settle (E : Txt K mg) : FnOk P w K mg base CX0 1 (fAd at_IdealHeap_settle K) (fdOf at_IdealHeap_settle K) ["self", "gone"] (spSettle K) := by
  refine FunD.ok0 E.fd_IdealHeap_settle sc_IdealHeap_settle (fun vs H Q E0 h => ?_) (fun cdv A outer s H vs Q E0 hr h => ?_)
  · obtain ⟨p, ga, gs, h, L, rfl, _⟩ := h
    rfl
  · obtain ⟨p, ga, gs, h, L, rfl, A, as, klen, slen, nlen, hga, gnd, gsub, gfp, q⟩ := h
    refine ⟨_, (pss_cons (ps_for PassesOwn.never rfl (pi_list (pe_callB cr_sortedI (by rfl) E.f_sorted (by decide +kernel) (pa_cons (pv 1) pa_nil))) (pg_name (i := 2) sc_IdealHeap_settle.nd rfl (Or.inl rfl)) (pss_cons (ps_if (pt_cmpR op_notN (pe_fld (pe_dget (hu_of hr) (pe_fld (pv 0) rfl) (pv 2) (fun _ _ => rfl)) rfl) pe_non (nomark _)) (pss_one (ps_expr (pe_bm PySem.F.plainAttrs_list PySem.F.slot_list_append PySem.F.type_list_append mt_append (pe_fld (pv 0) rfl) (pa_cons (pe_fld (pe_dget (hu_of hr) (pe_fld (pv 0) rfl) (pv 2) (fun _ _ => rfl)) rfl) pa_nil)))) pss_nil)
      (pss_one (ps_expr (pe_dpop1 (pe_fld (pv 0) rfl) (pv 2) ⟨rfl, rfl, rfl, rfl⟩)))))
      (pss_one (ps_fld (pv 0) (pe_lc (own := [("thing", 2)]) rfl sc_IdealHeap_settle.nd (pi_list (pe_fld (pv 0) rfl)) (blkOk_by (own := [("thing", 2)]) (N := ["self", "gone", "thing"]) (sc := (defScope st_IdealHeap_settle)) (by decide +kernel)) (fun _ _ _ _ _ => (pg_name (i := 2) sc_IdealHeap_settle.nd rfl (Or.inl rfl))) (fun _ _ _ _ _ => pts_nil) (fun _ _ _ _ _ => by exact ((pe_ifExp (pt_cmpR (op_in_seqK (K := K) rfl) (pv 2) (pv 1) (by with_unfolding_all rfl)) pe_non (pv 2))))) rfl))), ?_⟩
    refine ⟨_, rfl, ga, gs, rfl, SqL.of hga, fun ys z hp hs hz => ?_⟩
    have ey := gone_sorted as gnd gsub hp hs
    have s0 : Same H (upd H z (.lst (ys.map V.int))) := upd_same_of_none hz
    have hz0 : (upd H z (.lst (ys.map V.int))) z = some (.lst (ys.map V.int)) := upd_same
    have zfp : ¬ fp p L h.kept z := fun f => A.there f hz
    generalize upd H z (.lst (ys.map V.int)) = H0 at s0 hz0 ⊢
    have A0 := A.same s0
    have hga0 := s0 _ _ hga
    have ylen : ys.length ≤ 1000 := by rw [ey]; unfold keys; rw [List.length_map]; exact Nat.le_trans (List.length_filter_le _ _) klen
    have ysub : ∀ t, t ∈ ys ↔ t ∈ gs := fun t => hp.mem_iff
    have ynd : ys.Nodup := hp.nodup_iff.mpr gnd
    refine ⟨z, rfl, ⟨_, SqL.of hz0⟩, ?_⟩
    have e0 : (ys.map V.int).length = ys.length := List.length_map _
    refine for_it (walk_list (xs := ys.map V.int)) (fun i σ H2 => ∃ u2 : Option V, σ = [some (.ref p), some (.ref ga), u2] ∧
        AtR K H2 p { h with kept := h.kept.filter (fun q => !decide (q.1 ∈ ys.take i)), spoken := h.spoken ++ (ys.take i).filterMap fun t => (kget h.kept t).bind (·.word) } L ∧
        Fr p L h.kept H0 L (h.kept.filter fun q => !decide (q.1 ∈ ys.take i)) H2 ∧ H2 z = some (.lst (ys.map V.int)) ∧ H2 ga = some (.lst (gs.map V.int)))
      ⟨none, rfl, by rw [show h.kept.filter (fun q => !decide (q.1 ∈ ys.take 0)) = h.kept from by simp, show h.spoken ++ (ys.take 0).filterMap (fun t => (kget h.kept t).bind (·.word)) = h.spoken from by simp]; exact A0, by rw [show h.kept.filter (fun q => !decide (q.1 ∈ ys.take 0)) = h.kept from by simp]; exact Fr.refl p L h.kept H0, hz0, hga0⟩ (fun i σ H2 _ ⟨_, _, _, _, h4, _⟩ => SqL.of h4) ?_ ?_
    · rintro i v σ H3 H2 hi ⟨u2, rfl, A2, F2, h4, h5⟩ ⟨rfl, hv⟩
      obtain ⟨t, ht, rfl⟩ := map_int_get hv
      have hi2 : i < ys.length := by rw [← e0]; exact hi
      have tm : t ∈ ys := List.mem_of_getElem? ht
      have tnew : ¬ t ∈ ys.take i := fun m => by
        have e1 := take_sub ht
        have n2 : (ys.take (i + 1)).Nodup := ynd.sublist (List.take_sublist _ _)
        rw [e1] at n2
        exact (List.nodup_append.mp n2).2.2 t m t (by simp) rfl
      obtain ⟨th, eg⟩ := kget_of_key (gsub t ((ysub t).mp tm))
      have m0 := kget_mem eg
      have m2 : (t, th) ∈ h.kept.filter (fun q => !decide (q.1 ∈ ys.take i)) := List.mem_filter.mpr ⟨m0, by simpa using tnew⟩
      have eg2 : kget (h.kept.filter (fun q => !decide (q.1 ∈ ys.take i))) t = some th := mem_kget (as.sublist (List.Sublist.map _ List.filter_sublist)) m2
      have dg := kept_dg A2 eg2
      obtain ⟨ob, il, li, vi⟩ := A2.things.at_ _ m2
      have popped : ∀ (H4 : Hp) (sp : List Int), AtR K H4 p { h with kept := h.kept.filter (fun q => !decide (q.1 ∈ ys.take i)), spoken := sp } L → sp = h.spoken ++ (ys.take (i + 1)).filterMap (fun t => (kget h.kept t).bind (·.word)) →
          Fr p L h.kept H0 L (h.kept.filter fun q => !decide (q.1 ∈ ys.take i)) H4 → H4 z = some (.lst (ys.map V.int)) → H4 ga = some (.lst (gs.map V.int)) →
          ∃ u2 : Option V, [some (V.ref p), some (V.ref ga), some (V.int t)] = [some (.ref p), some (.ref ga), u2] ∧
        AtR K (upd H4 L.ka (.dK (dropK (keptK L (h.kept.filter (fun q => !decide (q.1 ∈ ys.take i)))) (Sum.inl t)))) p { h with kept := h.kept.filter (fun q => !decide (q.1 ∈ ys.take (i + 1))), spoken := h.spoken ++ (ys.take (i + 1)).filterMap fun t => (kget h.kept t).bind (·.word) } L ∧
        Fr p L h.kept H0 L (h.kept.filter fun q => !decide (q.1 ∈ ys.take (i + 1))) (upd H4 L.ka (.dK (dropK (keptK L (h.kept.filter (fun q => !decide (q.1 ∈ ys.take i)))) (Sum.inl t)))) ∧ (upd H4 L.ka (.dK (dropK (keptK L (h.kept.filter (fun q => !decide (q.1 ∈ ys.take i)))) (Sum.inl t)))) z = some (.lst (ys.map V.int)) ∧ (upd H4 L.ka (.dK (dropK (keptK L (h.kept.filter (fun q => !decide (q.1 ∈ ys.take i)))) (Sum.inl t)))) ga = some (.lst (gs.map V.int)) := by
        intro H4 sp A4 es F4 z4 g4
        have A5 := A4.pop t
        have ef : (h.kept.filter (fun q => !decide (q.1 ∈ ys.take i))).filter (fun q => !decide (q.1 = t)) = h.kept.filter (fun q => !decide (q.1 ∈ ys.take (i + 1))) := by
          rw [List.filter_filter, take_sub ht]
          refine List.filter_congr fun q _ => ?_
          by_cases c1 : q.1 = t
          · simp [c1]
          · simp [c1]
        subst es
        dsimp only at A5
        rw [ef] at A5
        have nkz : z ≠ L.ka := ne_of z4 A4.kept fun y => by cases y
        have nkg : ga ≠ L.ka := ne_of g4 A4.kept fun y => by cases y
        refine ⟨_, rfl, A5, F4.trans ?_, by rw [upd_ne nkz]; exact z4, by rw [upd_ne nkg]; exact g4⟩
        refine Fr.less (Or.inr (Or.inr (Or.inr (Or.inl rfl)))) fun q hq => ?_
        rw [← ef] at hq
        exact List.mem_map.mpr ⟨q, (List.mem_filter.mp hq).1, rfl⟩
      have ew : (ys.take (i + 1)).filterMap (fun t => (kget h.kept t).bind (·.word)) = (ys.take i).filterMap (fun t => (kget h.kept t).bind (·.word)) ++ (match th.word with | none => [] | some x => [x]) := by
        rw [take_sub ht, List.filterMap_append, List.filterMap_cons, eg]
        rw [show (some th).bind (fun x => x.word) = th.word from rfl]
        cases th.word <;> rfl
      refine ⟨_, rfl, p, _, _, _, _, rfl, A2.ob, E.c_IdealHeap, E.n_IdealHeap_kept, hf_kept, _, rfl, L.ka, V.ref (L.ad t), rfl, dg, L.ad t, _, _, _, _, rfl, ob, E.c_IdealThing, E.n_IdealThing_last_word, tf_word, rfl, _, rfl, ?_⟩
      cases ewd : th.word with
      | none =>
        rw [ewd, List.append_nil] at ew
        refine iteF ⟨_, rfl, p, _, _, _, _, rfl, A2.ob, E.c_IdealHeap, E.n_IdealHeap_kept, hf_kept, L.ka, rfl, .inl ⟨_, .inl A2.kept⟩, _, rfl, _, Sum.inl t, V.ref (L.ad t), A2.kept, rfl, by rw [keptK_val, eg2]; rfl, ?_⟩
        exact popped H2 _ A2 (by rw [ew]) F2 h4 h5
      | some x =>
        rw [ewd] at ew
        rw [ewd] at ob
        refine iteT ⟨_, rfl, p, _, _, _, _, rfl, A2.ob, E.c_IdealHeap, E.n_IdealHeap_spoken, hf_spoken, Or.inl ⟨rfl, _, Or.inl (Or.inl A2.spoken)⟩, _, rfl, p, _, _, _, _, rfl, A2.ob, E.c_IdealHeap, E.n_IdealHeap_kept, hf_kept, _, rfl, L.ka, V.ref (L.ad t), rfl, dg, L.ad t, _, _, _, _, rfl, ob, E.c_IdealThing, E.n_IdealThing_last_word, tf_word, L.sa, _, _, rfl, rfl, A2.spoken, ?_, ?_⟩
        · rw [List.length_map]
          refine line1000 ?_
          have := List.length_filterMap_le (fun t => (kget h.kept t).bind (·.word)) (ys.take i)
          rw [List.length_take] at this
          show (h.spoken ++ _).length ≤ _
          rw [List.length_append]
          omega
        · have es : (h.spoken ++ (ys.take i).filterMap fun t => (kget h.kept t).bind (·.word)).map V.int ++ [oV (some x)] = (h.spoken ++ (ys.take (i + 1)).filterMap fun t => (kget h.kept t).bind (·.word)).map V.int := by
            rw [ew, ← List.append_assoc, List.map_append (l₂ := [x])]
            rfl
          show tSeq _ _ _ _ _
          rw [es]
          have A4 := A2.set_spoken (h.spoken ++ (ys.take (i + 1)).filterMap fun t => (kget h.kept t).bind (·.word))
          have F4 : Fr p L h.kept H0 L (h.kept.filter fun q => !decide (q.1 ∈ ys.take i)) (upd H2 L.sa (.lst ((h.spoken ++ (ys.take (i + 1)).filterMap fun t => (kget h.kept t).bind (·.word)).map V.int))) := F2.trans (Fr.upd (Or.inr (Or.inr (Or.inr (Or.inr (Or.inl rfl))))) rfl)
          have zs : z ≠ L.sa := fun e => zfp (by rw [e]; exact fp_sa)
          have gs' : ga ≠ L.sa := fun e => gfp (by rw [e]; exact fp_sa)
          refine ⟨_, rfl, p, _, _, _, _, rfl, A4.ob, E.c_IdealHeap, E.n_IdealHeap_kept, hf_kept, L.ka, rfl, .inl ⟨_, .inl A4.kept⟩, _, rfl, _, Sum.inl t, V.ref (L.ad t), A4.kept, rfl, by rw [keptK_val, eg2]; rfl, ?_⟩
          exact popped _ _ A4 rfl F4 (by rw [upd_ne zs]; exact h4) (by rw [upd_ne gs']; exact h5)
    · rintro σ H2 ⟨u2, rfl, A2, F2, h4, h5⟩
      rw [e0, List.take_length] at A2 F2
      refine ⟨_, rfl, p, _, _, _, _, rfl, A2.ob, E.c_IdealHeap, E.n_IdealHeap_naming, hf_naming, L.na, rfl, ⟨_, SqL.of A2.names⟩, fun D hD => ?_⟩
      have e1 : (h.names.map oV).length = h.names.length := List.length_map _
      have s2 : Same H2 (upd H2 D (.lst [])) := upd_same_of_none hD
      refine lc_it (walk_list (xs := h.names.map oV)) (fun i H1 => H1 D = some (.lst (((h.names.take i).map (nameLeft gs)).map oV)) ∧ Same H2 H1) ⟨upd_same, s2⟩ (fun i H1 _ y => SqL.of (y.2 _ _ A2.names)) ?_ ?_
      · rintro i v H3 H1 hi ⟨h1, h2⟩ ⟨rfl, hv⟩
        obtain ⟨n, hn, rfl⟩ := names_get hv
        have hi2 : i < h.names.length := by rw [← e1]; exact hi
        have put : ∀ x, x = oV (nameLeft gs n) → ∃ acc, H1 D = some (.lst acc) ∧ acc.length < sizeLine ∧ (upd H1 D (.lst (acc ++ [x]))) D = some (.lst (((h.names.take (i + 1)).map (nameLeft gs)).map oV)) ∧ Same H2 (upd H1 D (.lst (acc ++ [x]))) := by
          rintro x rfl
          refine ⟨_, h1, ?_, ?_, fun b o e => ?_⟩
          · rw [List.length_map, List.length_map, List.length_take]
            exact line1000 (by omega)
          · rw [upd_same, take_sub hn, List.map_append, List.map_append]
            rfl
          · rw [upd_ne (ne_of_none e hD)]
            exact h2 b o e
        refine ⟨rfl, _, rfl, _, rfl, ga, gs.map V.int, rfl, Or.inl (SqL.of (h2 _ _ h5)), by cases n <;> rfl, flat_ints gs, _, rfl, ?_⟩
        cases n with
        | none =>
          show if inV .non (gs.map V.int) = true then _ else _
          rw [inV_non]
          exact iteF ⟨_, rfl, put _ rfl⟩
        | some t =>
          show if inV (.int t) (gs.map V.int) = true then _ else _
          rw [inV_int]
          by_cases c : t ∈ gs
          · rw [decide_eq_true c]
            exact iteT (put _ (by show V.non = oV (if decide (t ∈ gs) = true then none else some t); rw [if_pos (decide_eq_true c)]; rfl))
          · rw [decide_eq_false c]
            exact iteF ⟨_, rfl, put _ (by show _ = oV (if decide (t ∈ gs) = true then none else some t); rw [if_neg (by simpa using c)])⟩
      · rintro H3 ⟨h1, h2⟩
        rw [e1, List.take_length] at h1
        have A3 := A2.same h2
        refine ⟨_, rfl, p, _, _, _, rfl, A3.ob, E.c_IdealHeap, E.n_IdealHeap_naming, (by show 8 < 1000; decide), ?_⟩
        rw [hf_put_naming]
        have nf : ¬ fp p L (h.kept.filter fun q => !decide (q.1 ∈ ys)) D := fun f => A2.there f hD
        have A4 := A3.new_names h1 nf
        have eyg : ∀ t, decide (t ∈ ys) = decide (t ∈ gs) := fun t => by rw [decide_eq_decide]; exact ysub t
        have ek : h.kept.filter (fun q => !decide (q.1 ∈ ys)) = (settled h fun t => decide (t ∈ gs)).kept := List.filter_congr fun q _ => by rw [eyg]
        have es : ({ h with kept := h.kept.filter (fun q => !decide (q.1 ∈ ys)), spoken := h.spoken ++ ys.filterMap fun t => (kget h.kept t).bind (·.word), names := h.names.map (nameLeft gs) } : IH) = settled h fun t => decide (t ∈ gs) := by
          unfold settled
          rw [ey, word_at as (fun t => decide (t ∈ gs)) (fun q m => m), ← ey, ek]
          congr 1
        have A5 : AtR K _ p (settled h fun t => decide (t ∈ gs)) { L with na := D } := es ▸ A4
        refine q _ _ A5 ?_
        refine (Fr.same s0).trans ((show Fr p L h.kept H0 L (settled h fun t => decide (t ∈ gs)).kept H2 from ek ▸ F2).trans ?_)
        refine ⟨fun b u e n => by rw [upd_ne fun z => n (by rw [z]; exact Or.inl rfl)]; exact h2 b u e, fun b f => ?_⟩
        rcases f with z | z | z | z | z | y
        · exact Or.inl (Or.inl z)
        · exact Or.inl (Or.inr (Or.inl z))
        · exact Or.inr (by rw [z]; exact hD)
        · exact Or.inl (Or.inr (Or.inr (Or.inr (Or.inl z))))
        · exact Or.inl (Or.inr (Or.inr (Or.inr (Or.inr (Or.inl z)))))
        · exact Or.inl (Or.inr (Or.inr (Or.inr (Or.inr (Or.inr y)))))
end
end Sh
end

section
set_option Elab.async false
set_option linter.all false
set_option maxRecDepth 100000
set_option maxHeartbeats 4000000
/-! A small round. -/
namespace Sh
open PySem PySem.Spec PyProof.Rows L2
theorem settled_congr {h : IH} {g1 g2 : Int → Bool} (hk : ∀ t ∈ keys h.kept, g1 t = g2 t) (hn : ∀ t, some t ∈ h.names → t ∈ keys h.kept) : settled h g1 = settled h g2 := by
  unfold settled
  have e1 : h.kept.filter (fun q => !g1 q.1) = h.kept.filter fun q => !g2 q.1 := List.filter_congr fun q hq => by rw [hk q.1 (List.mem_map.mpr ⟨q, hq, rfl⟩)]
  have e2 : h.kept.filterMap (fun q => if g1 q.1 then q.2.word else none) = h.kept.filterMap fun q => if g2 q.1 then q.2.word else none := filterMap_congr' fun q hq => by rw [hk q.1 (List.mem_map.mpr ⟨q, hq, rfl⟩)]
  rw [e1, e2]
  congr 1
  refine List.map_congr_left fun n m => ?_
  cases n with
  | none => rfl
  | some t =>
    show (if g1 t = true then none else some t) = if g2 t = true then none else some t
    rw [hk t (hn t m)]
where filterMap_congr' {f g : Int × Thing → Option Int} : ∀ {l : List (Int × Thing)}, (∀ q ∈ l, f q = g q) → l.filterMap f = l.filterMap g
  | [], _ => rfl
  | a :: l, e => by
    rw [List.filterMap_cons, List.filterMap_cons, e a (List.mem_cons_self ..), filterMap_congr' fun q m => e q (List.mem_cons_of_mem _ m)]
def agedIn (fs : List Int) (q : Int × Thing) : Int × Thing := if q.1 ∈ fs then aged1 q else q
theorem agedIn_key (fs : List Int) (q : Int × Thing) : (agedIn fs q).1 = q.1 := by
  unfold agedIn
  split <;> rfl
theorem aged_nil {fs : List Int} (k : List (Int × Thing)) : k.map (agedIn (fs.take 0)) = k := by
  exact (List.map_congr_left (g := id) fun q _ => (if_neg (by simp) : agedIn (fs.take 0) q = q)).trans (List.map_id k)
theorem keys_agedIn (fs : List Int) (k : List (Int × Thing)) : keys (k.map (agedIn fs)) = keys k := by
  unfold keys
  rw [List.map_map]
  exact List.map_congr_left fun q _ => agedIn_key fs q
theorem kmod_agedIn {fs : List Int} {i : Nat} {t : Int} (ht : fs[i]? = some t) (k : List (Int × Thing)) : kmod (k.map (agedIn (fs.take i))) t (fun th => { th with aged := true }) = k.map (agedIn (fs.take (i + 1))) := by
  unfold kmod
  rw [List.map_map]
  refine List.map_congr_left fun q _ => ?_
  show (if (agedIn (fs.take i) q).1 = t then ((agedIn (fs.take i) q).1, { (agedIn (fs.take i) q).2 with aged := true }) else agedIn (fs.take i) q) = _
  rw [agedIn_key]
  unfold agedIn
  rw [take_sub ht]
  by_cases c : q.1 = t
  · rw [if_pos c, if_pos (List.mem_append_right _ (by rw [c]; exact List.mem_singleton.mpr rfl))]
    split <;> rfl
  · rw [if_neg c]
    by_cases m : q.1 ∈ fs.take i
    · rw [if_pos m, if_pos (List.mem_append_left _ m)]
    · rw [if_neg m, if_neg]
      intro z
      rcases List.mem_append.mp z with z | z
      · exact m z
      · exact c (List.mem_singleton.mp z)
section
variable {P : Program} {w : World} {K : PySem.W.Frag} {mg : Str → Option Value} {base : Heap}
def spSmall (K : PySem.W.Frag) : Sp := fun vs H Q _ => ∃ (p : Addr) (h : IH) (L : Lay), vs = [.ref p] ∧ At K H p h L ∧ h.count ≤ 10000 ∧ ∀ H' L', At K H' p (small h) L' → Fr p L h.kept H L' (small h).kept H' → Q .non H'
theorem sc_IdealHeap_small : FnScope ["self", "stay", "thing"] ["self"] (defScope st_IdealHeap_small) := ⟨rfl, rfl, rfl, by decide +kernel, rfl, by decide +kernel, by decide +kernel⟩
theorem ok_IdealHeap_small (E : Txt K mg) : FnOk P w K mg base CX0 6 (fAd at_IdealHeap_small K) (fdOf at_IdealHeap_small K) ["self"] (spSmall K) := by
  refine FunD.ok0 E.fd_IdealHeap_small sc_IdealHeap_small (fun vs H Q E0 h => ?_) (fun cdv A outer s H vs Q E0 hr h => ?_)
  · obtain ⟨p, h, L, rfl, _⟩ := h
    rfl
  · obtain ⟨p, h, L, rfl, A, hc, q⟩ := h
    refine ⟨_, (pss_cons (ps_set (i := 1) sc_IdealHeap_small.nd rfl (Or.inr rfl) (pe_call (ok_young_kept E) (hr.mono (by decide)) (by rfl) E.g_young_kept E.fd_young_kept.kp E.b_young_kept .nil pass0 (pa_cons (pe_fld (pv 0) rfl) (pa_cons (pe_fld (pv 0) rfl) pa_nil))))
      (pss_cons (ps_expr (pe_meth (pv 0) E.c_IdealHeap E.m_IdealHeap_settle (ok_IdealHeap_settle E) (hr.mono (by decide)) E.b_IdealHeap_settle .nil pass0 (pa_cons (pe_lc (own := [("thing", 2)]) rfl sc_IdealHeap_small.nd (pi_keys (pe_thenLock (pe_call (ok_young_things E) (hr.mono (by decide)) (by rfl) E.g_young_things E.fd_young_things.kp E.b_young_things .nil pass0 (pa_cons (pe_fld (pv 0) rfl) pa_nil)))) (blkOk_by (own := [("thing", 2)]) (N := ["self", "stay", "thing"]) (sc := (defScope st_IdealHeap_small)) (by decide +kernel)) (fun _ _ _ _ _ => (pg_name (i := 2) sc_IdealHeap_small.nd rfl (Or.inl rfl))) (fun _ _ _ _ _ => (pts_one (pt_cmp (pc_dnotin (hu_of hr) (pv 2) (pv 1)) (by rfl)))) (fun _ _ _ _ _ => by exact ((pv 2)))) pa_nil)))
      (pss_one (ps_lock (ps_for PassesOwn.never rfl (pi_keys (pv 1)) (pg_name (i := 2) sc_IdealHeap_small.nd rfl (Or.inl rfl)) (pss_one (ps_fld (pe_dget (hu_of hr) (pe_fld (pv 0) rfl) (pv 2) (fun _ _ => rfl)) pe_bl rfl))))))), ?_⟩
    obtain ⟨hl, h1, h2⟩ := A.hands
    have klen := A.wf.klen
    refine ⟨_, rfl, p, _, _, _, _, rfl, A.ob, E.c_IdealHeap, E.n_IdealHeap_kept, hf_kept, _, rfl, p, _, _, _, _, rfl, A.ob, E.c_IdealHeap, E.n_IdealHeap_in_hands, hf_in_hands, L.ka, L.ha, L, h, hl, rfl, A.kept, A.things, h1, h2, A.wf, fun fs H1 sa s1 hsa hsa1 fnd hfs => ?_⟩
    have A1 := A.same s1
    have safp : ¬ fp p L h.kept sa := fun f => A.there f hsa
    refine ⟨_, rfl, p, _, _, rfl, A1.ob, (by kernel_rfl), _, rfl, p, _, _, _, _, rfl, A1.ob, E.c_IdealHeap, E.n_IdealHeap_kept, hf_kept, L.ka, L, h.kept, rfl, A1.kept, A1.things, A.wf.asc, by omega, fun H2 y s2 hy hy2 => ?_⟩
    refine ⟨y, _, rfl, hy2, trivial, fun od => ⟨y, od, rfl, Or.inl ⟨_, upd_same, fun D hD => ?_⟩⟩⟩
    have s13 : Same H1 (upd H2 y (.frz od (.dK (seenK (keys (young h.kept)))))) := fun b o e => by rw [upd_ne (ne_of_none e hy)]; exact s2 b o e
    have hy3 : (upd H2 y (.frz od (.dK (seenK (keys (young h.kept)))))) y = some (.frz od (.dK (seenK (keys (young h.kept))))) := upd_same
    generalize upd H2 y (.frz od (.dK (seenK (keys (young h.kept))))) = H3 at s13 hy3 hD ⊢
    have sk : (seenK (keys (young h.kept))).length = (keys (young h.kept)).length := List.length_map _
    have kyl : (keys (young h.kept)).length ≤ 400 := by
      unfold keys young
      rw [List.length_map]
      exact Nat.le_trans (List.length_filter_le _ _) klen
    refine lc_it (walk_keys (kvs := seenK (keys (young h.kept)))) (fun i H4 => H4 D = some (.lst ((((keys (young h.kept)).take i).filter fun t => !decide (t ∈ fs)).map V.int)) ∧ Same H3 H4) ⟨upd_same, upd_same_of_none hD⟩ (fun i H4 _ z => z.2 _ _ hy3) ?_ ?_
    · rintro i v H5 H4 hi ⟨g1, g2⟩ ⟨rfl, k, kv, hkv, rfl⟩
      have hk : ∃ t, (keys (young h.kept))[i]? = some t ∧ k = Sum.inl t := by
        unfold seenK at hkv
        rw [List.getElem?_map] at hkv
        cases e : (keys (young h.kept))[i]? with
        | none =>
          rw [e] at hkv
          cases hkv
        | some t =>
          rw [e] at hkv
          cases hkv
          exact ⟨t, rfl, rfl⟩
      obtain ⟨t, ht, rfl⟩ := hk
      have sa4 : H4 sa = some (.dK (seenK fs)) := g2 _ _ (s13 _ _ hsa1)
      have dg : DGet H4 sa (.int t) (valV (seenK fs) (Sum.inl t)) := DGet.k (k := Sum.inl t) sa4
      refine ⟨rfl, _, rfl, _, rfl, sa, _, rfl, dg, _, rfl, ?_⟩
      rw [seen_some]
      have ft := filter_take (p := fun t => !decide (t ∈ fs)) ht
      by_cases c : t ∈ fs
      · rw [decide_eq_true c]
        refine iteF ⟨?_, g2⟩
        rw [g1, ft, if_neg (by simp [c]), List.append_nil]
      · rw [decide_eq_false c]
        refine iteT ⟨_, rfl, _, g1, ?_, ?_, fun b o e => ?_⟩
        · rw [List.length_map]
          refine line1000 (Nat.le_trans (List.length_filter_le _ _) ?_)
          rw [List.length_take]
          omega
        · rw [upd_same, ft, if_pos (by simp [c]), List.map_append]
          rfl
        · rw [upd_ne (ne_of_none e hD)]
          exact g2 b o e
    · rintro H4 ⟨g1, g2⟩
      rw [sk, List.take_length] at g1
      have s04 := (s1.trans s13).trans g2
      have A4 := A.same s04
      have Dfp : ¬ fp p L h.kept D := fun f => by
        have z := (A.same (s1.trans s13)).there f
        exact z hD
      have ygs : ∀ t, t ∈ (keys (young h.kept)).filter (fun t => !decide (t ∈ fs)) ↔ t ∈ keys (young h.kept) ∧ ¬ t ∈ fs := fun t => by
        rw [List.mem_filter]
        simp
      refine ⟨p, D, (keys (young h.kept)).filter (fun t => !decide (t ∈ fs)), h, L, rfl, A4.toAtR, A.wf.asc, by omega, by have := A.wf.spk; omega, A.wf.nl, g1, (asc_nodup (asc_young A.wf.asc)).sublist List.filter_sublist, fun t m => keys_young_sub ((ygs t).mp m).1, Dfp, fun H' L' A' F' => ?_⟩
      have same : (settled h fun t => decide (t ∈ (keys (young h.kept)).filter (fun t => !decide (t ∈ fs)))) = settled h (goesB h) := by
        refine settled_congr (fun t m => ?_) A.wf.nin
        obtain ⟨th, eg⟩ := kget_of_key m
        have m1 : t ∈ keys (young h.kept) ↔ th.aged = false := by
          rw [mem_young A.wf.asc]
          constructor
          · rintro ⟨th2, e2, a2⟩
            rw [eg] at e2
            cases e2
            exact a2
          · exact fun a => ⟨th, eg, a⟩
        unfold goesB
        rw [eg]
        show decide _ = (!th.aged && !stayB h t)
        have m2 : (t ∈ fs) ↔ stayB h t = true := (hfs t).trans stayB_iff.symm
        rw [Bool.eq_iff_iff, decide_eq_true_iff, ygs, m1, m2]
        cases th.aged <;> simp
      rw [same] at A' F'
      have hs : (settled h (goesB h)).kept = h.kept.filter fun q => !goesB h q.1 := rfl
      have F04 : Fr p L h.kept H L' (settled h (goesB h)).kept H' := (Fr.same s04).trans F'
      have sa4 := g2 _ _ (s13 _ _ hsa1)
      have sa' : H' sa = some (.dK (seenK fs)) := F'.keep _ _ sa4 safp
      have safp' : ¬ fp p L' (settled h (goesB h)).kept sa := fun f => by
        rcases F'.new _ f with z | z
        · exact safp z
        · rw [sa4] at z
          cases z
      refine ⟨sa, .dK (seenK fs), sa', trivial, fun od2 => ⟨_, rfl, sa, od2, rfl, Or.inl ⟨_, upd_same, ?_⟩⟩⟩
      have A5 : AtR K (upd H' sa (.frz od2 (.dK (seenK fs)))) p (settled h (goesB h)) L' := A'.keep (fun b o e f => by rw [upd_ne fun z => safp' (by rw [← z]; exact f)]; exact e) (Tups.upd sa' fun _ z => by cases z)
      have sl : (seenK fs).length = fs.length := List.length_map _
      have asS : Asc (settled h (goesB h)).kept := A.wf.asc.sublist (List.Sublist.map _ List.filter_sublist)
      have inS : ∀ t ∈ fs, t ∈ keys (settled h (goesB h)).kept := fun t m => by
        have st := (hfs t).mp m
        obtain ⟨th, eg, ag⟩ := stay_young st
        exact settled_keys.mpr ⟨key_of_kget eg, (goes_false eg).mpr (Or.inr st)⟩
      generalize esS : settled h (goesB h) = S at *
      refine for_it (walk_keys (kvs := seenK fs)) (fun i σ H6 => ∃ u2 : Option V, σ = [some (.ref p), some (.ref sa), u2] ∧ AtR K H6 p { S with kept := S.kept.map (agedIn (fs.take i)) } L' ∧
          H6 sa = some (.frz od2 (.dK (seenK fs))) ∧ Fr p L' S.kept (upd H' sa (.frz od2 (.dK (seenK fs)))) L' (S.kept.map (agedIn (fs.take i))) H6)
        ⟨_, rfl, by rw [aged_nil]; exact A5, upd_same, by rw [aged_nil]; exact Fr.refl _ _ _ _⟩ (fun i σ H6 _ ⟨_, _, _, z, _⟩ => z) ?_ ?_
      · rintro i v σ H7 H6 hi ⟨u2, rfl, A6, k6, F6⟩ ⟨rfl, k, kv, hkv, rfl⟩
        have hk : ∃ t, fs[i]? = some t ∧ k = Sum.inl t := by
          unfold seenK at hkv
          rw [List.getElem?_map] at hkv
          cases e : fs[i]? with
          | none =>
            rw [e] at hkv
            cases hkv
          | some t =>
            rw [e] at hkv
            cases hkv
            exact ⟨t, rfl, rfl⟩
        obtain ⟨t, ht, rfl⟩ := hk
        obtain ⟨th, eg⟩ := kget_of_key (kept := S.kept.map (agedIn (fs.take i))) (t := t) (by rw [keys_agedIn]; exact inS t (List.mem_of_getElem? ht))
        have asM : Asc (S.kept.map (agedIn (fs.take i))) := by
          unfold Asc
          rw [keys_agedIn]
          exact asS
        have dg := kept_dg A6 eg
        obtain ⟨ob, il, li, vi⟩ := A6.things.at_ _ (kget_mem eg)
        refine ⟨_, rfl, p, _, _, _, _, rfl, A6.ob, E.c_IdealHeap, E.n_IdealHeap_kept, hf_kept, _, rfl, L'.ka, V.ref (L'.ad t), rfl, dg, L'.ad t, _, _, _, rfl, ob, E.c_IdealThing, E.n_IdealThing_aged, (by show 3 < 1000; decide), ?_⟩
        rw [tf_put_aged]
        have A7 := A6.set_thing asM eg (fun th => { th with aged := true }) fun _ => rfl
        have nad : sa ≠ L'.ad t := fun z => by
          rw [z, ob] at k6
          cases k6
        refine ⟨_, rfl, ?_, by rw [upd_ne nad]; exact k6, F6.trans ?_⟩
        · rw [← kmod_agedIn ht]
          exact A7
        · refine Fr.upd (fp_ad (h := { S with kept := S.kept.map (agedIn (fs.take i)) }) (kget_mem eg)) ?_
          rw [keys_agedIn, keys_agedIn]
      · rintro σ H6 ⟨u2, rfl, A6, k6, F6⟩
        rw [sl, List.take_length] at A6 F6
        refine ⟨k6, ?_⟩
        have em : S.kept.map (agedIn fs) = S.kept.map aged1 := List.map_congr_left fun r hr => by
          unfold agedIn
          by_cases c : r.1 ∈ fs
          · rw [if_pos c]
          · rw [if_neg c]
            subst esS
            obtain ⟨a, b⟩ := List.mem_filter.mp (show r ∈ h.kept.filter fun q => !goesB h q.1 from hr)
            have eg : kget h.kept r.1 = some r.2 := mem_kget A.wf.asc a
            have ag : r.2.aged = true := ((goes_false eg).mp (by simpa using b)).resolve_right fun st => c ((hfs _).mpr st)
            obtain ⟨n, ⟨x, y, z⟩⟩ := r
            dsimp only at ag
            subst ag
            rfl
        have eS : ({ S with kept := S.kept.map (agedIn fs) } : IH) = small h := by
          rw [em, ← esS]
          rfl
        have ekk : keys (S.kept.map (agedIn fs)) = keys S.kept := keys_agedIn _ _
        rw [eS] at A6
        have eK : S.kept.map (agedIn fs) = (small h).kept := congrArg IH.kept eS
        rw [eK] at F6 ekk
        have nfp : ∀ b, fp p L' (small h).kept b → b ≠ sa := fun b f z => by
          rw [z] at f
          have g : fp p L' S.kept sa := by
            rcases f with z | z | z | z | z | ⟨r, hr, z⟩
            · exact Or.inl z
            · exact Or.inr (Or.inl z)
            · exact Or.inr (Or.inr (Or.inl z))
            · exact Or.inr (Or.inr (Or.inr (Or.inl z)))
            · exact Or.inr (Or.inr (Or.inr (Or.inr (Or.inl z))))
            · have m : r.1 ∈ keys S.kept := by rw [← ekk]; exact List.mem_map.mpr ⟨r, hr, rfl⟩
              obtain ⟨r2, hr2, e⟩ := List.mem_map.mp m
              exact Or.inr (Or.inr (Or.inr (Or.inr (Or.inr ⟨r2, hr2, by rw [e]; exact z⟩))))
          exact safp' g
        refine q _ L' ⟨A6.keep (fun b o e f => by rw [upd_ne (nfp b f)]; exact e) (Tups.upd k6 fun _ z => by cases z), A.wf.small⟩ ⟨fun b o e n => ?_, fun b f => ?_⟩
        · have nsa : b ≠ sa := ne_of_none e hsa
          have e1 := F04.keep b o e n
          rw [upd_ne nsa]
          refine F6.keep b o (by rw [upd_ne nsa]; exact e1) fun g => ?_
          rcases F04.new b g with z | z
          · exact n z
          · rw [e] at z
            cases z
        · rcases F6.new b f with z | z
          · exact F04.new b z
          · have nsa := nfp b f
            rw [upd_ne nsa] at z
            by_cases c : fp p L h.kept b
            · exact Or.inl c
            · refine Or.inr ?_
              cases e : H b with
              | none => rfl
              | some o =>
                rw [F04.keep b o e c] at z
                cases z
end
end Sh
end

section
set_option Elab.async false
set_option linter.all false
set_option maxRecDepth 100000
set_option maxHeartbeats 4000000
/-! A thing is made. -/
namespace Sh
open PySem PySem.Spec PyProof.Rows L2
/-- where ways meet -/
theorem seq_meet {c : TT} {a b u : TS} {D : Ends} {σ : L2.St} {H : Hp} (M : L2.St → Hp → Prop) (h1 : ∀ N : L2.St → Hp → Prop, (∀ σ' H', M σ' H' → N σ' H') → tIfS c a b { D with nx := N } σ H) (h2 : ∀ σ' H', M σ' H' → u D σ' H') : tSeq (tIfS c a b) u D σ H := h1 (u D) h2
section
variable {K : PySem.W.Frag} {H : Hp} {p : Addr} {h : IH} {L : Lay}
def Lay.more (L : Lay) (t : Int) (a i d : Addr) : Lay := { L with ad := fun u => if u = t then a else L.ad u, il := fun u => if u = t then i else L.il u, td := fun u => if u = t then d else L.td u }
theorem keptK_congr {L L' : Lay} : ∀ {k : List (Int × Thing)}, (∀ q ∈ k, L.ad q.1 = L'.ad q.1) → keptK L k = keptK L' k
  | [], _ => rfl
  | a :: l, e => by
    have ih := keptK_congr (k := l) fun q m => e q (List.mem_cons_of_mem _ m)
    unfold keptK at ih ⊢
    rw [List.map_cons, List.map_cons, ih, e a (List.mem_cons_self ..)]
theorem kget_none {k : List (Int × Thing)} {t : Int} (h : ∀ q ∈ k, q.1 ≠ t) : kget k t = none := by
  cases e : kget k t with
  | none => rfl
  | some th => exact absurd rfl (h _ (kget_mem e))
theorem AtR.put (A : AtR K H p h L) {t : Int} {x i d : Addr} {old : Bool} {n : Nat} (hn : ∀ q ∈ h.kept, q.1 ≠ t) (hx : H x = some (.ins (CT K) d (tf i old none))) (hi : H i = some (.lst (List.replicate n .non))) (xfp : ¬ fp p L h.kept x) (ifp : ¬ fp p L h.kept i) :
    AtR K (upd H L.ka (.dK (putK (keptK L h.kept) (Sum.inl t) (.ref x)))) p { h with kept := h.kept ++ [(t, ⟨List.replicate n .non, old, none⟩)] } (L.more t x i d) := by
  have e := A.kept
  have tt : Tups H (upd H L.ka (.dK (putK (keptK L h.kept) (Sum.inl t) (.ref x)))) := Tups.upd e fun _ z => by cases z
  have nl : ∀ {b : Addr} {o : HO}, H b = some o → (∀ xs, o ≠ .dK xs) → b ≠ L.ka := fun {b o} eb no => ne_of eb e (no _)
  obtain ⟨hl, h1, h2⟩ := A.hands
  have old_ : ∀ q ∈ h.kept, (L.more t x i d).ad q.1 = L.ad q.1 ∧ (L.more t x i d).il q.1 = L.il q.1 ∧ (L.more t x i d).td q.1 = L.td q.1 := fun q hq => ⟨if_neg (hn q hq), if_neg (hn q hq), if_neg (hn q hq)⟩
  have new_ : (L.more t x i d).ad t = x ∧ (L.more t x i d).il t = i ∧ (L.more t x i d).td t = d := ⟨if_pos rfl, if_pos rfl, if_pos rfl⟩
  have S := A.sep
  refine ⟨?_, ⟨hl, by show _ = _; rw [show (L.more t x i d).ha = L.ha from rfl, upd_ne (nl h1 fun _ z => by cases z)]; exact h1, h2.mono tt⟩, ?_, ?_, ?_, ⟨fun q hq => ?_⟩, ?_⟩
  · rw [upd_ne (nl A.ob fun _ z => by cases z)]
    exact A.ob
  · show _ = _
    rw [show (L.more t x i d).na = L.na from rfl, upd_ne (nl A.names fun _ z => by cases z)]
    exact A.names
  · show _ = _
    rw [show (L.more t x i d).ka = L.ka from rfl, upd_same, putK_new _ (by rw [keptK_val, kget_none hn]; rfl)]
    have e1 : keptK (L.more t x i d) (h.kept ++ [(t, ⟨List.replicate n .non, old, none⟩)]) = keptK L h.kept ++ [(Sum.inl t, V.ref x)] := by
      have e2 : keptK (L.more t x i d) h.kept = keptK L h.kept := keptK_congr fun q hq => (old_ q hq).1
      have e3 : keptK (L.more t x i d) [(t, (⟨List.replicate n .non, old, none⟩ : Thing))] = [(Sum.inl t, V.ref x)] := by
        unfold keptK
        rw [List.map_cons, new_.1]
        rfl
      rw [← e2, ← e3]
      unfold keptK
      rw [List.map_append]
    rw [e1]
  · show _ = _
    rw [show (L.more t x i d).sa = L.sa from rfl, upd_ne (nl A.spoken fun _ z => by cases z)]
    exact A.spoken
  · rcases List.mem_append.mp hq with z | z
    · obtain ⟨o1, il, l1, vi⟩ := A.things.at_ q z
      obtain ⟨a1, a2, a3⟩ := old_ q z
      rw [a1, a2, a3]
      exact ⟨by rw [upd_ne (nl o1 fun _ z => by cases z)]; exact o1, il, by rw [upd_ne (nl l1 fun _ z => by cases z)]; exact l1, vi.mono tt⟩
    · obtain rfl := List.mem_singleton.mp z
      dsimp only
      rw [new_.1, new_.2.1, new_.2.2]
      refine ⟨by rw [upd_ne (nl hx fun _ z => by cases z)]; exact hx, _, by rw [upd_ne (nl hi fun _ z => by cases z)]; exact hi, ⟨by rw [List.length_replicate, List.length_replicate], fun j v z g1 g2 => ?_⟩⟩
      obtain rfl := List.eq_of_mem_replicate (List.mem_of_getElem? g1)
      obtain rfl := List.eq_of_mem_replicate (List.mem_of_getElem? g2)
      rfl
  · have mk : ∀ q ∈ h.kept ++ [(t, (⟨List.replicate n .non, old, none⟩ : Thing))], q ∈ h.kept ∨ q.1 = t := fun q hq => (List.mem_append.mp hq).imp id fun z => by rw [List.mem_singleton.mp z]
    refine ⟨S.hn, S.hs, S.ns, fun q hq => ?_, fun q hq => ?_, fun q hq => ?_, fun q hq r hr => ?_, fun q hq r hr => ?_⟩
    · rcases mk q hq with z | z
      · rw [(old_ q z).2.1]
        exact S.ilh q z
      · rw [z, new_.2.1]
        exact fun y => ifp (by rw [show i = L.ha from y]; exact fp_ha)
    · rcases mk q hq with z | z
      · rw [(old_ q z).2.1]
        exact S.iln q z
      · rw [z, new_.2.1]
        exact fun y => ifp (by rw [show i = L.na from y]; exact fp_na)
    · rcases mk q hq with z | z
      · rw [(old_ q z).2.1]
        exact S.ils q z
      · rw [z, new_.2.1]
        exact fun y => ifp (by rw [show i = L.sa from y]; exact fp_sa)
    · rcases mk q hq with z | z <;> rcases mk r hr with y | y
      · rw [(old_ q z).1, (old_ r y).1]
        exact S.ad q z r y
      · rw [(old_ q z).1, y, new_.1]
        exact fun e => absurd (by rw [← e]; exact fp_ad z) xfp
      · rw [(old_ r y).1, z, new_.1]
        exact fun e => absurd (by rw [e]; exact fp_ad y) xfp
      · exact fun _ => z.trans y.symm
    · rcases mk q hq with z | z <;> rcases mk r hr with y | y
      · rw [(old_ q z).2.1, (old_ r y).2.1]
        exact S.il q z r y
      · rw [(old_ q z).2.1, y, new_.2.1]
        exact fun e => absurd (by rw [← e]; exact fp_il z) ifp
      · rw [(old_ r y).2.1, z, new_.2.1]
        exact fun e => absurd (by rw [e]; exact fp_il y) ifp
      · exact fun _ => z.trans y.symm
theorem AtR.set_count (A : AtR K H p h L) (c : Int) : AtR K (upd H p (.ins (CH K) L.dx (hf { h with count := c } L))) p { h with count := c } L := by
  have e := A.ob
  have tt : Tups H (upd H p (.ins (CH K) L.dx (hf { h with count := c } L))) := Tups.upd e fun _ z => by cases z
  have nl : ∀ {b : Addr} {o : HO}, H b = some o → (∀ C d fs, o = .ins C d fs → fs.length ≠ 8) → b ≠ p := fun {b o} eb no => ne_of eb e fun z => no _ _ _ z rfl
  obtain ⟨hl, h1, h2⟩ := A.hands
  refine ⟨upd_same, ⟨hl, by rw [upd_ne (nl h1 fun _ _ _ z => by cases z)]; exact h1, h2.mono tt⟩, ?_, ?_, ?_, ⟨fun q hq => ?_⟩, A.sep⟩
  · rw [upd_ne (nl A.names fun _ _ _ z => by cases z)]
    exact A.names
  · rw [upd_ne (nl A.kept fun _ _ _ z => by cases z)]
    exact A.kept
  · rw [upd_ne (nl A.spoken fun _ _ _ z => by cases z)]
    exact A.spoken
  · obtain ⟨o1, il, l1, vi⟩ := A.things.at_ q hq
    refine ⟨?_, il, by rw [upd_ne (nl l1 fun _ _ _ z => by cases z)]; exact l1, vi.mono tt⟩
    rw [upd_ne (nl o1 fun C d fs z => by cases z; show ¬ 3 = 8; decide)]
    exact o1
end
section
variable {P : Program} {w : World} {K : PySem.W.Frag} {mg : Str → Option Value} {base : Heap}
def spMake (K : PySem.W.Frag) : Sp := fun vs H Q E => ∃ (p : Addr) (i n : Int) (h : IH) (L : Lay), vs = [.ref p, .int i, .int n] ∧ At K H p h L ∧ (0 ≤ i ∧ i < 8) ∧ (0 ≤ n ∧ n ≤ 6) ∧ h.count ≤ 10000 ∧ PostU K p H h L Q E (dMake h i n)
theorem sc_IdealHeap_make : FnScope ["self", "h", "n", "words"] ["self", "h", "n"] (defScope st_IdealHeap_make) := ⟨rfl, rfl, rfl, by decide +kernel, rfl, by decide +kernel, by decide +kernel⟩
theorem ok_IdealHeap_make (E : Txt K mg) : FnOk P w K mg base (L2.CX P w) 7 (fAd at_IdealHeap_make K) (fdOf at_IdealHeap_make K) ["self", "h", "n"] (spMake K) := by
  refine FunD.ok E.fd_IdealHeap_make sc_IdealHeap_make (fun vs H Q E0 h => ?_) (fun cdv A outer s H vs Q E0 hr h => ?_)
  · obtain ⟨p, i, n, h, L, rfl, _⟩ := h
    rfl
  · obtain ⟨p, i, n, h, L, rfl, A, hi, hn, hc, q⟩ := h
    refine ⟨_, (pss_cons (ps_expr (pe_call (ok_look_at_hand E) (hr.mono (by decide)) (by rfl) E.g_look_at_hand E.fd_look_at_hand.kp E.b_look_at_hand .nil (passes_call (takes_of rfl rfl rfl rfl) fun _ _ _ _ h => h) (pa_cons (pv 1) pa_nil)))
      (pss_cons (ps_set (i := 3) sc_IdealHeap_make.nd rfl (Or.inl rfl) (pe_call (ok_words_of E) (hr.mono (by decide)) (by rfl) E.g_words_of E.fd_words_of.kp E.b_words_of .nil (passes_call (takes_of rfl rfl rfl rfl) fun _ _ _ _ h => h) (pa_cons (pv 2) pa_nil)))
      (pss_cons (ps_if (PW.pt (pw_and (pt_cmpR op_gt (pe_fld (pv 0) rfl) pe_int (nomark _)) (pw_and1 (pt_cmpR op_gt (pe_op op_add (pe_call (ok_words_in E) (hr.mono (by decide)) (by rfl) E.g_words_in E.fd_words_in.kp E.b_words_in .nil pass0 (pa_cons (pe_fld (pv 0) rfl) (pa_cons (pe_call (ok_young_things E) (hr.mono (by decide)) (by rfl) E.g_young_things E.fd_young_things.kp E.b_young_things .nil pass0 (pa_cons (pe_fld (pv 0) rfl) pa_nil)) pa_nil))) (pv 3)) (pe_fld (pv 0) rfl) (nomark _))))) (pss_one (ps_expr (pe_meth0 (pv 0) E.c_IdealHeap E.m_IdealHeap_small (ok_IdealHeap_small E) (hr.mono (by decide)) E.b_IdealHeap_small .nil pass0))) pss_nil)
      (pss_cons (ps_if (pt_cmpR op_gt (pe_op op_add (pe_meth0 (pv 0) E.c_IdealHeap E.m_IdealHeap_held (ok_IdealHeap_held E) (hr.mono (by decide)) E.b_IdealHeap_held .nil pass0) (pv 3)) (pe_fld (pv 0) rfl) (nomark _)) (pss_one (ps_raise rfl (takes_of rfl rfl rfl rfl) (pmk_own PySem.F.excBase_ValueError E.x_NoRoom.1 E.g_NoRoom E.x_NoRoom.2.1 (raises_own E.x_NoRoom.2.2.1 E.x_NoRoom.2.2.2) rfl))) pss_nil)
      (pss_cons (ps_dput (hu_of hr) (pe_fld (pv 0) rfl) (pe_fld (pv 0) rfl) (pe_make E.k_IdealThing (ok_IdealThing_init E) (hr.mono (by decide)) (by rfl) E.g_IdealThing E.b_IdealThing_init .nil pass0 (pa_cons (pv 2) (pa_cons (pe_cmpR op_eq (pe_fld (pv 0) rfl) pe_int (nomark _)) pa_nil))) rfl)
      (pss_cons (ps_asg (pe_call (ok_thing_value E) (hr.mono (by decide)) (by rfl) E.g_thing_value E.fd_thing_value.kp E.b_thing_value .nil pass0 (pa_cons (pe_fld (pv 0) rfl) pa_nil)) (pg_sub (pe_fld (pv 0) rfl) (pv 1) set_list))
      (pss_one (ps_fld (pv 0) (pe_op op_add (pe_fld (pv 0) rfl) pe_int) rfl)))))))), ?_⟩
    refine ⟨_, rfl, i, rfl, fun _ => ?_, fun c => absurd hi c⟩
    refine ⟨_, rfl, n, rfl, fun _ => ?_, fun c => absurd hn c⟩
    unfold gName
    dsimp only [cxOf]
    refine seq_meet (fun σ' H1 => σ' = [some (.ref p), some (.int i), some (.int n), some (.int (n + 1))] ∧ ∃ L1, At K H1 p (roomed h n) L1 ∧ Fr p L h.kept H L1 (roomed h n).kept H1) (fun N hN => ?_) ?_
    · have klen := A.wf.klen
      have stay : ∀ H1, Same H H1 → ¬ (0 < h.room ∧ h.room < words (young h.kept) + (n + 1)) → N [some (.ref p), some (.int i), some (.int n), some (.int (n + 1))] H1 := fun H1 s c => by
        refine hN _ _ ⟨rfl, L, ?_⟩
        unfold roomed
        rw [if_neg c]
        exact ⟨A.same s, Fr.same s⟩
      refine ⟨_, rfl, p, _, _, _, _, rfl, A.ob, E.c_IdealHeap, E.n_IdealHeap_room, hf_room, _, _, rfl, rfl, _, rfl, ?_⟩
      refine ifd (fun c => ?_) fun c => ?_
      · refine ⟨_, rfl, p, _, _, _, _, rfl, A.ob, E.c_IdealHeap, E.n_IdealHeap_kept, hf_kept, _, rfl, p, _, _, _, _, rfl, A.ob, E.c_IdealHeap, E.n_IdealHeap_kept, hf_kept, L.ka, L, h.kept, rfl, A.kept, A.things, A.wf.asc, by omega, fun H1 y s1 hy hy1 => ?_⟩
        have A1 := A.same s1
        refine ⟨L.ka, y, L, h.kept, young h.kept, _, rfl, Or.inl A1.kept, A1.things, A.wf.asc, hy1, by unfold seenK keys; rw [List.map_map, List.map_map]; rfl, fun q hq => (List.mem_filter.mp hq).1, fun q hq => A.wf.few q (List.mem_filter.mp hq).1, by have := List.length_filter_le (fun q : Int × Thing => !q.2.aged) h.kept; unfold young; omega, fun H2 s2 => ?_⟩
        have A2 := A1.same s2
        refine ⟨_, rfl, _, _, rfl, rfl, _, rfl, p, _, _, _, _, rfl, A2.ob, E.c_IdealHeap, E.n_IdealHeap_room, hf_room, _, _, rfl, rfl, _, rfl, ifd (fun d => ?_) fun d => ?_⟩
        · refine ⟨_, rfl, p, _, _, rfl, A2.ob, (by kernel_rfl), p, h, L, rfl, A2, hc, fun H' L' A' F' => ?_⟩
          refine hN _ _ ⟨rfl, L', ?_⟩
          unfold roomed
          rw [if_pos ⟨c, d⟩]
          exact ⟨A', (Fr.same (s1.trans s2)).trans F'⟩
        · exact stay H2 (s1.trans s2) fun z => d z.2
      · exact stay H (fun _ _ e => e) fun z => c z.1
    · rintro _ H1 ⟨rfl, L1, A1, F1⟩
      obtain ⟨r1, r2, r3, r4⟩ := roomed_same h n
      unfold dMake at q
      generalize roomed h n = g at *
      refine ⟨_, rfl, p, _, _, rfl, A1.ob, (by kernel_rfl), p, g, L1, rfl, A1, fun H2 s2 => ?_⟩
      have A2 := A1.same s2
      have F2 := F1.trans (Fr.same s2)
      refine ⟨_, rfl, _, _, rfl, rfl, _, rfl, p, _, _, _, _, rfl, A2.ob, E.c_IdealHeap, E.n_IdealHeap_limit, hf_limit, _, _, rfl, rfl, _, rfl, ifd (fun c => ?_) fun c => ?_⟩
      · rw [if_pos (by rw [← r2]; exact c)] at q
        exact q H2 L1 A2 F2
      · rw [if_neg (by rw [← r2]; exact c)] at q
        refine ⟨_, rfl, _, rfl, p, _, _, _, _, rfl, A2.ob, E.c_IdealHeap, E.n_IdealHeap_room, hf_room, rfl, fun x dx hx hdx hne => ⟨x, dx, n, decide (g.room = 0), ?_, upd_same, hn, fun D hD => ⟨rfl, ?_⟩⟩⟩
        · show [V.ref x, V.int n, V.bl (decide (V.int g.room = V.int 0))] = _
          simp
        have nfx : ¬ fp p L1 g.kept x := fun f => A2.there f hx
        have HD2 : H2 D = none ∧ D ≠ x := by
          have e1 : D ≠ x := fun z => by
            rw [z, upd_same] at hD
            cases hD
          rw [upd_ne e1] at hD
          have e2 : D ≠ dx := fun z => by
            rw [z, upd_same] at hD
            cases hD
          rw [upd_ne e2] at hD
          exact ⟨hD, e1⟩
        have nfD : ¬ fp p L1 g.kept D := fun f => A2.there f HD2.1
        have sn : Same H2 (upd (upd (upd (upd H2 dx (.own x)) x (.ins (CT K) dx [])) D (.lst (List.replicate n.toNat .non))) x (.ins (CT K) dx (tf D (decide (g.room = 0)) none))) := fun b o e => by
          rw [upd_ne (ne_of_none e hx), upd_ne (ne_of_none e HD2.1), upd_ne (ne_of_none e hx), upd_ne (ne_of_none e hdx)]
          exact e
        have xn : (upd (upd (upd (upd H2 dx (.own x)) x (.ins (CT K) dx [])) D (.lst (List.replicate n.toNat .non))) x (.ins (CT K) dx (tf D (decide (g.room = 0)) none))) x = some (.ins (CT K) dx (tf D (decide (g.room = 0)) none)) := upd_same
        have Dn : (upd (upd (upd (upd H2 dx (.own x)) x (.ins (CT K) dx [])) D (.lst (List.replicate n.toNat .non))) x (.ins (CT K) dx (tf D (decide (g.room = 0)) none))) D = some (.lst (List.replicate n.toNat .non)) := by
          rw [upd_ne HD2.2]
          exact upd_same
        generalize upd (upd (upd (upd H2 dx (.own x)) x (.ins (CT K) dx [])) D (.lst (List.replicate n.toNat .non))) x (.ins (CT K) dx (tf D (decide (g.room = 0)) none)) = H3 at sn xn Dn ⊢
        have A3 := A2.same sn
        have nk : ∀ q ∈ g.kept, q.1 ≠ g.count := fun q hq => Int.ne_of_lt (A1.wf.below q hq)
        have A4 := A3.toAtR.put nk xn Dn nfx nfD
        have kl2 := A1.wf.klen
        have F4 : Fr p L1 g.kept H2 (L1.more g.count x D dx) (g.kept ++ [(g.count, ⟨List.replicate n.toNat .non, decide (g.room = 0), none⟩)]) (upd H3 L1.ka (.dK (putK (keptK L1 g.kept) (Sum.inl g.count) (.ref x)))) := by
          refine ⟨fun b o e nf => by rw [upd_ne fun z => nf (by rw [z]; exact fp_ka)]; exact sn b o e, fun b f => ?_⟩
          rcases f with z | z | z | z | z | ⟨r, hr, z⟩
          · exact Or.inl (Or.inl z)
          · exact Or.inl (Or.inr (Or.inl z))
          · exact Or.inl (Or.inr (Or.inr (Or.inl z)))
          · exact Or.inl (Or.inr (Or.inr (Or.inr (Or.inl z))))
          · exact Or.inl (Or.inr (Or.inr (Or.inr (Or.inr (Or.inl z)))))
          · rcases List.mem_append.mp hr with y | y
            · have e1 : (L1.more g.count x D dx).ad r.1 = L1.ad r.1 := if_neg (nk r y)
              have e2 : (L1.more g.count x D dx).il r.1 = L1.il r.1 := if_neg (nk r y)
              rw [e1, e2] at z
              exact Or.inl (Or.inr (Or.inr (Or.inr (Or.inr (Or.inr ⟨r, y, z⟩)))))
            · obtain rfl := List.mem_singleton.mp y
              have e1 : (L1.more g.count x D dx).ad g.count = x := if_pos rfl
              have e2 : (L1.more g.count x D dx).il g.count = D := if_pos rfl
              dsimp only at z
              rw [e1, e2] at z
              rcases z with z | z
              · exact Or.inr (by rw [z]; exact hx)
              · exact Or.inr (by rw [z]; exact HD2.1)
        refine ⟨_, rfl, p, _, _, _, _, rfl, A3.ob, E.c_IdealHeap, E.n_IdealHeap_kept, hf_kept, _, rfl, p, _, _, _, _, rfl, A3.ob, E.c_IdealHeap, E.n_IdealHeap_count, hf_count, L1.ka, _, rfl, DPut.k (k := Sum.inl g.count) A3.kept (by unfold keptK; rw [List.length_map]; exact line1000 (by omega)), ?_⟩
        generalize upd H3 L1.ka (.dK (putK (keptK L1 g.kept) (Sum.inl g.count) (.ref x))) = H4 at A4 F4 ⊢
        refine ⟨_, rfl, p, _, _, _, _, rfl, A4.ob, E.c_IdealHeap, E.n_IdealHeap_count, hf_count, g.count, rfl, fun a ha => ?_⟩
        have s5 : Same H4 (upd H4 a (.tup [.str "thing", .int g.count])) := upd_same_of_none ha
        have A5 := A4.same s5
        have t5 : (upd H4 a (.tup [.str "thing", .int g.count])) a = some (.tup [.str "thing", .int g.count]) := upd_same
        generalize upd H4 a (.tup [.str "thing", .int g.count]) = H5 at s5 A5 t5 ⊢
        obtain ⟨hl, g1, g2⟩ := A5.hands
        refine ⟨_, rfl, p, _, _, _, _, rfl, A5.ob, E.c_IdealHeap, E.n_IdealHeap_in_hands, hf_in_hands, _, rfl, _, hl, i, i.toNat, rfl, rfl, g1, ixN_int hi.1 (by rw [g2.len]; show i < ((g.hands.length : Nat) : Int); rw [A1.wf.hl]; exact hi.2), ?_⟩
        have A6 := A5.set_hand g1 g2 (v := .ref a) (x := .thg g.count) ⟨a, rfl, t5⟩ i.toNat
        refine ⟨_, rfl, p, _, _, _, _, rfl, A6.ob, E.c_IdealHeap, E.n_IdealHeap_count, hf_count, _, _, rfl, rfl, _, rfl, p, _, _, _, rfl, A6.ob, E.c_IdealHeap, E.n_IdealHeap_count, hf_len, ?_⟩
        rw [hf_put_count]
        have A7 := A6.set_count (g.count + 1)
        rw [← r3, ← r1] at q
        refine q _ (L1.more g.count x D dx) ⟨A7, ?_⟩ ?_
        · exact A1.wf.made hn (by omega)
        · refine F2.trans (F4.trans ((Fr.same s5).trans ((Fr.upd (Or.inr (Or.inl rfl)) rfl).trans (Fr.upd (Or.inl rfl) rfl))))
end
end Sh
end

section
set_option Elab.async false
set_option linter.all false
set_option maxRecDepth 100000
set_option maxHeartbeats 4000000
/-! Rows of programs, and what they do, as plain data. -/
namespace Sh
open PySem PySem.Spec PyProof.Rows L2
inductive Row where
  | make (a n : Int) | load (a b k : Int) | store (a k b : Int) | copy (a b : Int) | drop (a : Int) | number (a x : Int) | name (n a : Int) | read (a n : Int)
  | word (a b : Int) | take (a : Int) | held (a : Int) | add (a b : Int) | less (a b : Int)
  | say (a : Int) | go (m : Str) | same (a b : Int) (m : Str) | below (a b : Int) (m : Str) | thing (a : Int) (m : Str) | mark (m : Str)
  deriving DecidableEq
def Row.head : Row → Str
  | .make _ _ => "make" | .load _ _ _ => "load" | .store _ _ _ => "store" | .copy _ _ => "copy" | .drop _ => "drop" | .number _ _ => "number" | .name _ _ => "name" | .read _ _ => "read"
  | .word _ _ => "word" | .take _ => "take" | .held _ => "held" | .add _ _ => "add" | .less _ _ => "less"
  | .say _ => "say" | .go _ => "go" | .same _ _ _ => "same" | .below _ _ _ => "below" | .thing _ _ => "thing" | .mark _ => "mark"
def Row.rest : Row → List V
  | .make a n => [.int a, .int n] | .load a b k => [.int a, .int b, .int k] | .store a k b => [.int a, .int k, .int b] | .copy a b => [.int a, .int b] | .drop a => [.int a] | .number a x => [.int a, .int x]
  | .name n a => [.int n, .int a] | .read a n => [.int a, .int n] | .word a b => [.int a, .int b] | .take a => [.int a] | .held a => [.int a] | .add a b => [.int a, .int b] | .less a b => [.int a, .int b]
  | .say a => [.int a] | .go m => [.str m] | .same a b m => [.int a, .int b, .str m] | .below a b m => [.int a, .int b, .str m] | .thing a m => [.int a, .str m] | .mark m => [.str m]
def Row.parts (r : Row) : List V := .str r.head :: r.rest
def isH (a : Int) : Prop := 0 ≤ a ∧ a < 8
def isM (m : Str) : Prop := m = "a" ∨ m = "b" ∨ m = "c" ∨ m = "d" ∨ m = "e"
def Row.Ok : Row → Prop
  | .make a n => isH a ∧ 0 ≤ n ∧ n ≤ 6 | .load a b k => isH a ∧ isH b ∧ isH k | .store a k b => isH a ∧ isH k ∧ isH b | .copy a b => isH a ∧ isH b | .drop a => isH a | .number a x => isH a ∧ -100000 ≤ x ∧ x ≤ 100000
  | .name n a => isH n ∧ isH a | .read a n => isH a ∧ isH n | .word a b => isH a ∧ isH b | .take a => isH a | .held a => isH a | .add a b => isH a ∧ isH b | .less a b => isH a ∧ isH b
  | .say a => isH a | .go m => isM m | .same a b m => isH a ∧ isH b ∧ isM m | .below a b m => isH a ∧ isH b ∧ isM m | .thing a m => isH a ∧ isM m | .mark m => isM m
/-- what a deed among rows does -/
noncomputable def dDeed (h : IH) : Row → Res Unit
  | .make a n => dMake h a n
  | .load a b k => dLoad h a b k
  | .store a k b => dStore h a k b
  | .copy a b => dCopy h a b
  | .drop a => dDrop h a
  | .number a x => dNumber h a x
  | .name n a => dName h n a
  | .read a n => dRead h a n
  | .word a b => match dValue h b with
    | .ok x _ => dWord h a x
    | .err e _ => .err e h
  | .take a => match dTake h with
    | (none, g) => dDrop g a
    | (some x, g) => .ok () (g.setHand a (.num x))
  | .held a => dNumber h a (words h.kept)
  | .add a b => match dValue h a, dValue h b with
    | .ok x _, .ok y _ => dNumber h a (x + y)
    | _, _ => .err .badHand h
  | .less a b => match dValue h a, dValue h b with
    | .ok x _, .ok y _ => dNumber h a (x - y)
    | _, _ => .err .badHand h
  | _ => .ok () h
def Row.valued : Row → Bool
  | .word _ _ | .take _ | .held _ | .add _ _ | .less _ _ => true
  | _ => false
def Row.simple : Row → Bool
  | .make _ _ | .load _ _ _ | .store _ _ _ | .copy _ _ | .drop _ | .number _ _ | .name _ _ | .read _ _ => true
  | _ => false
def Row.jumps : Row → Bool
  | .go _ | .same _ _ _ | .below _ _ _ | .thing _ _ => true
  | _ => false
def Row.goal : Row → Str
  | .go m | .same _ _ m | .below _ _ m | .thing _ m => m
  | _ => "a"
/-- whether a row goes on at its mark; none: refused -/
def dJump (h : IH) : Row → Option Bool
  | .same a b _ => some (decide (h.hand a = h.hand b))
  | .below a b _ => match dValue h a, dValue h b with
    | .ok x _, .ok y _ => some (decide (x < y))
    | _, _ => none
  | .thing a _ => some (h.hand a).thing.isSome
  | _ => some true
def dSaid (h : IH) (i : Int) : List V := match h.hand i with
  | .non => [.str "none"]
  | .num x => [.str "number", .int x]
  | .thg t => [.str "thing", .int (match kget h.kept t with | some th => (th.inside.length : Int) | none => 0)]
structure One where
  flt : Option Err
  said : Option (List V)
  jmp : Bool
  h : IH
noncomputable def one (h : IH) (r : Row) : One :=
  if r.valued || r.simple then match dDeed h r with
    | .ok _ g => ⟨none, none, false, g⟩
    | .err e g => ⟨some e, none, false, g⟩
  else match r with
    | .say a => ⟨none, some (dSaid h a), false, h⟩
    | .mark _ => ⟨none, none, false, h⟩
    | _ => match dJump h r with
      | some b => ⟨none, none, b, h⟩
      | none => ⟨some .badHand, none, false, h⟩
theorem dNumber_count (h : IH) (a x : Int) : (match dNumber h a x with | .ok _ g => g.count | .err _ g => g.count) = h.count := by
  unfold dNumber
  split <;> rename_i e <;> split at e <;> cases e <;> rfl
/-- at most one thing is made by a row -/
theorem one_count (h : IH) (r : Row) : (one h r).h.count ≤ h.count + 1 := by
  have small_count : ∀ n, (roomed h n).count = h.count := fun n => (roomed_same h n).1
  have res : ∀ (x : Res Unit), (match x with | .ok _ g => g.count | .err _ g => g.count) ≤ h.count + 1 → (match x with | .ok _ g => (⟨none, none, false, g⟩ : One) | .err e g => ⟨some e, none, false, g⟩).h.count ≤ h.count + 1 := fun x hx => by
    cases x <;> exact hx
  have num : ∀ a x, (match dNumber h a x with | .ok _ g => g.count | .err _ g => g.count) ≤ h.count + 1 := fun a x => by
    rw [dNumber_count]
    omega
  unfold one
  cases r with
  | make a n =>
    refine res _ ?_
    show (match dMake h a n with | .ok _ g => g.count | .err _ g => g.count) ≤ _
    unfold dMake
    split <;> rename_i e <;> split at e <;> cases e
    · exact Int.le_refl _
    · rw [small_count]
      omega
  | load a b k =>
    refine res _ ?_
    show (match dLoad h a b k with | .ok _ g => g.count | .err _ g => g.count) ≤ _
    unfold dLoad
    split <;> rename_i e
    all_goals (split at e <;> try split at e <;> try split at e) <;> cases e <;> (show h.count ≤ _; omega)
  | store a k b =>
    refine res _ ?_
    show (match dStore h a k b with | .ok _ g => g.count | .err _ g => g.count) ≤ _
    unfold dStore
    split <;> rename_i e
    all_goals (split at e <;> try split at e <;> try split at e) <;> cases e <;> (show h.count ≤ _; omega)
  | copy a b => show h.count ≤ _; omega
  | drop a => show h.count ≤ _; omega
  | number a x => exact res _ (num a x)
  | name n a =>
    refine res _ ?_
    show (match dName h n a with | .ok _ g => g.count | .err _ g => g.count) ≤ _
    unfold dName
    split <;> rename_i e
    all_goals split at e <;> cases e <;> (show h.count ≤ _; omega)
  | read a n =>
    refine res _ ?_
    show (match dRead h a n with | .ok _ g => g.count | .err _ g => g.count) ≤ _
    unfold dRead
    split <;> rename_i e
    all_goals split at e <;> cases e <;> (show h.count ≤ _; omega)
  | word a b =>
    refine res _ ?_
    show (match (match dValue h b with | .ok x _ => dWord h a x | .err e _ => .err e h) with | .ok _ g => g.count | .err _ g => g.count) ≤ _
    cases dValue h b with
    | err e g => show h.count ≤ _; omega
    | ok x g =>
      show (match dWord h a x with | .ok _ g => g.count | .err _ g => g.count) ≤ _
      unfold dWord
      split <;> rename_i e
      all_goals (split at e <;> try split at e <;> try split at e <;> try split at e) <;> cases e <;> (show h.count ≤ _; omega)
  | take a =>
    refine res _ ?_
    show (match (match dTake h with | (none, g) => dDrop g a | (some x, g) => .ok () (g.setHand a (.num x))) with | .ok _ g => g.count | .err _ g => g.count) ≤ _
    unfold dTake
    cases h.spoken with
    | nil => show h.count ≤ _; omega
    | cons x r => show h.count ≤ _; omega
  | held a => exact res _ (num a _)
  | add a b =>
    refine res _ ?_
    show (match (match dValue h a, dValue h b with | .ok x _, .ok y _ => dNumber h a (x + y) | _, _ => .err .badHand h) with | .ok _ g => g.count | .err _ g => g.count) ≤ _
    cases dValue h a <;> cases dValue h b <;> first | exact num _ _ | (show h.count ≤ _; omega)
  | less a b =>
    refine res _ ?_
    show (match (match dValue h a, dValue h b with | .ok x _, .ok y _ => dNumber h a (x - y) | _, _ => .err .badHand h) with | .ok _ g => g.count | .err _ g => g.count) ≤ _
    cases dValue h a <;> cases dValue h b <;> first | exact num _ _ | (show h.count ≤ _; omega)
  | say a => show h.count ≤ _; omega
  | go m => show h.count ≤ _; omega
  | same a b m => show h.count ≤ _; omega
  | below a b m =>
    show (match dJump h (.below a b m) with | some b => (⟨none, none, b, h⟩ : One) | none => ⟨some .badHand, none, false, h⟩).h.count ≤ _
    cases dJump h (.below a b m) <;> (show h.count ≤ _; omega)
  | thing a m => show h.count ≤ _; omega
  | mark m => show h.count ≤ _; omega
end Sh
end

section
set_option Elab.async false
set_option linter.all false
set_option maxRecDepth 100000
set_option maxHeartbeats 4000000
/-! The deeds of rows, walked. -/
namespace Sh
open PySem PySem.Spec PyProof.Rows L2
def heads : List Str := ["make", "load", "store", "copy", "drop", "number", "name", "read", "word", "take", "held", "add", "less", "say", "go", "same", "below", "thing", "mark"]
def Row.tag : Row → Nat
  | .make _ _ => 0 | .load _ _ _ => 1 | .store _ _ _ => 2 | .copy _ _ => 3 | .drop _ => 4 | .number _ _ => 5 | .name _ _ => 6 | .read _ _ => 7
  | .word _ _ => 8 | .take _ => 9 | .held _ => 10 | .add _ _ => 11 | .less _ _ => 12
  | .say _ => 13 | .go _ => 14 | .same _ _ _ => 15 | .below _ _ _ => 16 | .thing _ _ => 17 | .mark _ => 18
theorem row0 {r : Row} : atI r.parts 0 = some (.str r.head) := at_int (by decide) rfl
theorem head_no (r : Row) : heads.idxOf r.head = r.tag := by
  cases r <;> kernel_rfl
theorem tag_of {r : Row} {x : Str} {n : Nat} (h : V.str r.head = V.str x) (hx : heads.idxOf x = n) : r.tag = n := by
  injection h with h
  rw [← hx, ← h, head_no]
theorem head_of {r : Row} {x : Str} {n : Nat} (ht : r.tag = n) (hx : heads[n]? = some x) : V.str r.head = V.str x := by
  have e : heads[r.tag]? = some r.head := by cases r <;> rfl
  rw [ht, hx] at e
  rw [Option.some.inj e]
theorem dValue_ok {h : IH} {b x : Int} (e : h.hand b = .num x) : dValue h b = .ok x h := by
  unfold dValue
  rw [e]
theorem dValue_err {h : IH} {b : Int} (e : ∀ x, h.hand b ≠ .num x) : dValue h b = .err .badHand h := by
  unfold dValue
  cases z : h.hand b with
  | num x => exact absurd z (e x)
  | non => rfl
  | thg t => rfl
section
variable {P : Program} {w : World} {K : PySem.W.Frag} {mg : Str → Option Value} {base : Heap}
def spDeed (K : PySem.W.Frag) (c : Row → Bool) : Sp := fun vs H Q E => ∃ (p ra : Addr) (r : Row) (h : IH) (L : Lay), vs = [.ref p, .ref ra] ∧ At K H p h L ∧ H ra = some (.tup r.parts) ∧ r.Ok ∧ c r = true ∧ h.count ≤ 10000 ∧ PostU K p H h L Q E (dDeed h r)
def spSaidOf (K : PySem.W.Frag) : Sp := fun vs H Q _ => ∃ (p : Addr) (i : Int) (h : IH) (L : Lay), vs = [.ref p, .int i] ∧ At K H p h L ∧ isH i ∧ ∀ q, H q = none → Q (.ref q) (upd H q (.tup (dSaid h i)))
def spJump (K : PySem.W.Frag) : Sp := fun vs H Q E => ∃ (p ra : Addr) (r : Row) (h : IH) (L : Lay), vs = [.ref p, .ref ra] ∧ At K H p h L ∧ H ra = some (.tup r.parts) ∧ r.Ok ∧ r.jumps = true ∧ (∀ b, dJump h r = some b → Q (.bl b) H) ∧ (dJump h r = none → E (.ref (eAd K .badHand)) none H)
theorem sc_do_value : FnScope ["hall", "row", "word"] ["hall", "row"] (defScope st_do_value) := ⟨rfl, rfl, rfl, by decide +kernel, rfl, by decide +kernel, by decide +kernel⟩
theorem ok_do_value (E : Txt K mg) : FnOk P w K mg base (L2.CX P w) 5 (fAd at_do_value K) (fdOf at_do_value K) ["hall", "row"] (spDeed K Row.valued) := by
  refine FunD.ok E.fd_do_value sc_do_value (fun vs H Q E0 h => ?_) (fun cdv A outer s H vs Q E0 hr h => ?_)
  · obtain ⟨p, ra, r, h, L, rfl, _⟩ := h
    rfl
  · obtain ⟨p, ra, r, h, L, rfl, A, hra, ok, vd, hc, q⟩ := h
    refine ⟨_, (pss_one (ps_if (pt_cmpR op_eq (pe_ix ix_tup (pv 1) pe_int (fun _ _ => rfl)) pe_str (nomark _)) (pss_one (ps_expr (pe_meth (pv 0) E.c_IdealHeap E.m_IdealHeap_word (ok_IdealHeap_word E) (hr.mono (by decide)) E.b_IdealHeap_word .nil (passes_call (takes_of rfl rfl rfl rfl) fun _ _ _ _ h => h) (pa_cons (pe_ix ix_tup (pv 1) pe_int (fun _ _ => rfl)) (pa_cons (pe_meth (pv 0) E.c_IdealHeap E.m_IdealHeap_value (ok_IdealHeap_value E) (hr.mono (by decide)) E.b_IdealHeap_value .nil (passes_call (takes_of rfl rfl rfl rfl) fun _ _ _ _ h => h) (pa_cons (pe_ix ix_tup (pv 1) pe_int (fun _ _ => rfl)) pa_nil)) pa_nil))))) (pss_one (ps_if (pt_cmpR op_eq (pe_ix ix_tup (pv 1) pe_int (fun _ _ => rfl)) pe_str (nomark _)) (pss_one (ps_expr (pe_meth (pv 0) E.c_IdealHeap E.m_IdealHeap_number (ok_IdealHeap_number E) (hr.mono (by decide)) E.b_IdealHeap_number .nil (passes_call (takes_of rfl rfl rfl rfl) fun _ _ _ _ h => h) (pa_cons (pe_ix ix_tup (pv 1) pe_int (fun _ _ => rfl)) (pa_cons (pe_meth0 (pv 0) E.c_IdealHeap E.m_IdealHeap_held (ok_IdealHeap_held E) (hr.mono (by decide)) E.b_IdealHeap_held .nil pass0) pa_nil))))) (pss_one (ps_if (pt_cmpR op_eq (pe_ix ix_tup (pv 1) pe_int (fun _ _ => rfl)) pe_str (nomark _)) (pss_one (ps_expr (pe_meth (pv 0) E.c_IdealHeap E.m_IdealHeap_number (ok_IdealHeap_number E) (hr.mono (by decide)) E.b_IdealHeap_number .nil (passes_call (takes_of rfl rfl rfl rfl) fun _ _ _ _ h => h) (pa_cons (pe_ix ix_tup (pv 1) pe_int (fun _ _ => rfl)) (pa_cons (pe_op op_add (pe_meth (pv 0) E.c_IdealHeap E.m_IdealHeap_value (ok_IdealHeap_value E) (hr.mono (by decide)) E.b_IdealHeap_value .nil (passes_call (takes_of rfl rfl rfl rfl) fun _ _ _ _ h => h) (pa_cons (pe_ix ix_tup (pv 1) pe_int (fun _ _ => rfl)) pa_nil)) (pe_meth (pv 0) E.c_IdealHeap E.m_IdealHeap_value (ok_IdealHeap_value E) (hr.mono (by decide)) E.b_IdealHeap_value .nil (passes_call (takes_of rfl rfl rfl rfl) fun _ _ _ _ h => h) (pa_cons (pe_ix ix_tup (pv 1) pe_int (fun _ _ => rfl)) pa_nil))) pa_nil))))) (pss_one (ps_if (pt_cmpR op_eq (pe_ix ix_tup (pv 1) pe_int (fun _ _ => rfl)) pe_str (nomark _)) (pss_one (ps_expr (pe_meth (pv 0) E.c_IdealHeap E.m_IdealHeap_number (ok_IdealHeap_number E) (hr.mono (by decide)) E.b_IdealHeap_number .nil (passes_call (takes_of rfl rfl rfl rfl) fun _ _ _ _ h => h) (pa_cons (pe_ix ix_tup (pv 1) pe_int (fun _ _ => rfl)) (pa_cons (pe_op op_sub (pe_meth (pv 0) E.c_IdealHeap E.m_IdealHeap_value (ok_IdealHeap_value E) (hr.mono (by decide)) E.b_IdealHeap_value .nil (passes_call (takes_of rfl rfl rfl rfl) fun _ _ _ _ h => h) (pa_cons (pe_ix ix_tup (pv 1) pe_int (fun _ _ => rfl)) pa_nil)) (pe_meth (pv 0) E.c_IdealHeap E.m_IdealHeap_value (ok_IdealHeap_value E) (hr.mono (by decide)) E.b_IdealHeap_value .nil (passes_call (takes_of rfl rfl rfl rfl) fun _ _ _ _ h => h) (pa_cons (pe_ix ix_tup (pv 1) pe_int (fun _ _ => rfl)) pa_nil))) pa_nil))))) (pss_cons (ps_expr (pe_meth (pv 0) E.c_IdealHeap E.m_IdealHeap_kind (ok_IdealHeap_kind E) (hr.mono (by decide)) E.b_IdealHeap_kind .nil (passes_call (takes_of rfl rfl rfl rfl) fun _ _ _ _ h => h) (pa_cons (pe_ix ix_tup (pv 1) pe_int (fun _ _ => rfl)) pa_nil)))
      (pss_cons (ps_set (i := 2) sc_do_value.nd rfl (Or.inl rfl) (pe_meth0 (pv 0) E.c_IdealHeap E.m_IdealHeap_take (ok_IdealHeap_take E) (hr.mono (by decide)) E.b_IdealHeap_take .nil pass0))
      (pss_one (ps_if (pt_cmpR op_isN (pv 2) pe_non (nomark _)) (pss_one (ps_expr (pe_meth (pv 0) E.c_IdealHeap E.m_IdealHeap_drop (ok_IdealHeap_drop E) (hr.mono (by decide)) E.b_IdealHeap_drop .nil (passes_call (takes_of rfl rfl rfl rfl) fun _ _ _ _ h => h) (pa_cons (pe_ix ix_tup (pv 1) pe_int (fun _ _ => rfl)) pa_nil)))) (pss_one (ps_expr (pe_meth (pv 0) E.c_IdealHeap E.m_IdealHeap_number (ok_IdealHeap_number E) (hr.mono (by decide)) E.b_IdealHeap_number .nil (passes_call (takes_of rfl rfl rfl rfl) fun _ _ _ _ h => h) (pa_cons (pe_ix ix_tup (pv 1) pe_int (fun _ _ => rfl)) (pa_cons (pv 2) pa_nil))))))))))))))))), ?_⟩
    dsimp only [cxOf]
    refine ⟨_, rfl, ra, _, 0, .str r.head, rfl, rfl, SqT.of hra, row0, rfl, _, rfl, ifd (fun c => ?_) fun c1 => ?_⟩
    · have ht := tag_of (n := 8) c (by decide +kernel)
      cases r <;> first | (simp [Row.tag] at ht; done) | skip
      rename_i a b
      have q : PostU K p H h L Q E0 (match dValue h b with | .ok x _ => dWord h a x | .err e _ => .err e h) := q
      refine ⟨_, rfl, p, _, _, rfl, A.ob, (by kernel_rfl), _, rfl, ra, _, 1, .int a, rfl, rfl, SqT.of hra, rfl, _, rfl, p, _, _, rfl, A.ob, (by kernel_rfl), _, rfl, ra, _, 2, .int b, rfl, rfl, SqT.of hra, rfl, p, b, h, L, rfl, A, ok.2, fun x hx => ?_, fun hx => ?_⟩
      · rw [dValue_ok hx] at q
        exact ⟨p, a, x, h, L, rfl, A, ok.1, q⟩
      · rw [dValue_err hx] at q
        exact q H L A (Fr.refl _ _ _ _)
    refine ⟨_, rfl, ra, _, 0, .str r.head, rfl, rfl, SqT.of hra, row0, rfl, _, rfl, ifd (fun c => ?_) fun c2 => ?_⟩
    · have ht := tag_of (n := 10) c (by decide +kernel)
      cases r <;> first | (simp [Row.tag] at ht; done) | skip
      rename_i a
      refine ⟨_, rfl, p, _, _, rfl, A.ob, (by kernel_rfl), _, rfl, ra, _, 1, .int a, rfl, rfl, SqT.of hra, rfl, _, rfl, p, _, _, rfl, A.ob, (by kernel_rfl), p, h, L, rfl, A, fun H1 s1 => ⟨p, a, _, h, L, rfl, A.same s1, ok, ?_⟩⟩
      have q : PostU K p H h L Q E0 (dNumber h a (words h.kept)) := q
      unfold dNumber at q ⊢
      split at q <;> rename_i c
      · rw [if_pos c]
        exact fun H' L' A' F' => q H' L' A' ((Fr.same s1).trans F')
      · rw [if_neg c]
        exact fun H' L' A' F' => q H' L' A' ((Fr.same s1).trans F')
    refine ⟨_, rfl, ra, _, 0, .str r.head, rfl, rfl, SqT.of hra, row0, rfl, _, rfl, ifd (fun c => ?_) fun c3 => ?_⟩
    · have ht := tag_of (n := 11) c (by decide +kernel)
      cases r <;> first | (simp [Row.tag] at ht; done) | skip
      rename_i a b
      have q : PostU K p H h L Q E0 (match dValue h a, dValue h b with | .ok x _, .ok y _ => dNumber h a (x + y) | _, _ => .err .badHand h) := q
      refine ⟨_, rfl, p, _, _, rfl, A.ob, (by kernel_rfl), _, rfl, ra, _, 1, .int a, rfl, rfl, SqT.of hra, rfl, _, rfl, p, _, _, rfl, A.ob, (by kernel_rfl), _, rfl, ra, _, 1, .int a, rfl, rfl, SqT.of hra, rfl, p, a, h, L, rfl, A, ok.1, fun x hx => ?_, fun hx => ?_⟩
      · rw [dValue_ok hx] at q
        refine ⟨_, rfl, p, _, _, rfl, A.ob, (by kernel_rfl), _, rfl, ra, _, 2, .int b, rfl, rfl, SqT.of hra, rfl, p, b, h, L, rfl, A, ok.2, fun y hy => ?_, fun hy => ?_⟩
        · rw [dValue_ok hy] at q
          exact ⟨_, _, rfl, rfl, p, a, _, h, L, rfl, A, ok.1, q⟩
        · rw [dValue_err hy] at q
          exact q H L A (Fr.refl _ _ _ _)
      · rw [dValue_err hx] at q
        exact q H L A (Fr.refl _ _ _ _)
    refine ⟨_, rfl, ra, _, 0, .str r.head, rfl, rfl, SqT.of hra, row0, rfl, _, rfl, ifd (fun c => ?_) fun c4 => ?_⟩
    · have ht := tag_of (n := 12) c (by decide +kernel)
      cases r <;> first | (simp [Row.tag] at ht; done) | skip
      rename_i a b
      have q : PostU K p H h L Q E0 (match dValue h a, dValue h b with | .ok x _, .ok y _ => dNumber h a (x - y) | _, _ => .err .badHand h) := q
      refine ⟨_, rfl, p, _, _, rfl, A.ob, (by kernel_rfl), _, rfl, ra, _, 1, .int a, rfl, rfl, SqT.of hra, rfl, _, rfl, p, _, _, rfl, A.ob, (by kernel_rfl), _, rfl, ra, _, 1, .int a, rfl, rfl, SqT.of hra, rfl, p, a, h, L, rfl, A, ok.1, fun x hx => ?_, fun hx => ?_⟩
      · rw [dValue_ok hx] at q
        refine ⟨_, rfl, p, _, _, rfl, A.ob, (by kernel_rfl), _, rfl, ra, _, 2, .int b, rfl, rfl, SqT.of hra, rfl, p, b, h, L, rfl, A, ok.2, fun y hy => ?_, fun hy => ?_⟩
        · rw [dValue_ok hy] at q
          exact ⟨_, _, rfl, rfl, p, a, _, h, L, rfl, A, ok.1, q⟩
        · rw [dValue_err hy] at q
          exact q H L A (Fr.refl _ _ _ _)
      · rw [dValue_err hx] at q
        exact q H L A (Fr.refl _ _ _ _)
    · have no : ∀ n, r.tag = n → heads[n]? ≠ some "word" ∧ heads[n]? ≠ some "held" ∧ heads[n]? ≠ some "add" ∧ heads[n]? ≠ some "less" := fun n e => ⟨fun z => c1 (head_of e z), fun z => c2 (head_of e z), fun z => c3 (head_of e z), fun z => c4 (head_of e z)⟩
      cases r <;> first | (exact absurd rfl (no 8 rfl).1) | (exact absurd rfl (no 10 rfl).2.1) | (exact absurd rfl (no 11 rfl).2.2.1) | (exact absurd rfl (no 12 rfl).2.2.2) | (cases vd; done) | skip
      rename_i a
      have W := A.wf
      have q : PostU K p H h L Q E0 (match dTake h with | (none, g) => dDrop g a | (some x, g) => .ok () (g.setHand a (.num x))) := q
      refine ⟨_, rfl, p, _, _, rfl, A.ob, (by kernel_rfl), _, rfl, ra, _, 1, .int a, rfl, rfl, SqT.of hra, rfl, p, a, h, L, rfl, A, ok, ?_⟩
      refine ⟨_, rfl, p, _, _, rfl, A.ob, (by kernel_rfl), p, h, L, rfl, A, fun H1 A1 F1 => ?_⟩
      have sk : ∀ x, (dTake h).1 = some x → numOk x = true := fun x e => by
        unfold dTake at e
        cases z : h.spoken with
        | nil =>
          rw [z] at e
          cases e
        | cons y s =>
          rw [z] at e
          cases e
          exact W.sok x (by rw [z]; exact List.mem_cons_self ..)
      have hra : H1 ra = some (.tup ((Row.take a).parts)) := (F1.tups A.toAtR) _ _ hra
      generalize dTake h = tk at *
      obtain ⟨o, g⟩ := tk
      cases o with
      | none =>
        exact ⟨_, rfl, rfl, _, rfl, _, rfl, p, _, _, rfl, A1.ob, (by kernel_rfl), _, rfl, ra, _, 1, .int a, rfl, rfl, SqT.of hra, rfl, p, a, g, L, rfl, A1, ok, fun H' L' A' F' => q H' L' A' (F1.trans F')⟩
      | some x =>
        refine ⟨_, rfl, rfl, _, rfl, _, rfl, p, _, _, rfl, A1.ob, (by kernel_rfl), _, rfl, ra, _, 1, .int a, rfl, rfl, SqT.of hra, rfl, _, rfl, p, a, x, g, L, rfl, A1, ok, ?_⟩
        unfold dNumber
        rw [if_pos (sk x rfl)]
        exact fun H' L' A' F' => q H' L' A' (F1.trans F')
end
end Sh
end

section
set_option Elab.async false
set_option linter.all false
set_option maxRecDepth 100000
set_option maxHeartbeats 4000000
/-! The rows' deeds, asks and words: the program's and the law's. -/
namespace Sh
open PySem PySem.Spec PyProof.Rows L2
section
variable {P : Program} {w : World} {K : PySem.W.Frag} {mg : Str → Option Value} {base : Heap}
theorem sc_do_plain : FnScope ["hall", "row"] ["hall", "row"] (defScope st_do_plain) := ⟨rfl, rfl, rfl, by decide +kernel, rfl, by decide +kernel, by decide +kernel⟩
theorem ok_do_plain (E : Txt K mg) : FnOk P w K mg base (L2.CX P w) 8 (fAd at_do_plain K) (fdOf at_do_plain K) ["hall", "row"] (spDeed K (fun r => r.valued || r.simple)) := by
  refine FunD.ok E.fd_do_plain sc_do_plain (fun vs H Q E0 h => ?_) (fun cdv A outer s H vs Q E0 hr h => ?_)
  · obtain ⟨p, ra, r, h, L, rfl, _⟩ := h
    rfl
  · obtain ⟨p, ra, r, h, L, rfl, A, hra, ok, vd, hc, q⟩ := h
    refine ⟨_, (pss_one (ps_if (pt_cmpR op_eq (pe_ix ix_tup (pv 1) pe_int (fun _ _ => rfl)) pe_str (nomark _)) (pss_one (ps_expr (pe_meth (pv 0) E.c_IdealHeap E.m_IdealHeap_make (ok_IdealHeap_make E) (hr.mono (by decide)) E.b_IdealHeap_make .nil (passes_call (takes_of rfl rfl rfl rfl) fun _ _ _ _ h => h) (pa_cons (pe_ix ix_tup (pv 1) pe_int (fun _ _ => rfl)) (pa_cons (pe_ix ix_tup (pv 1) pe_int (fun _ _ => rfl)) pa_nil))))) (pss_one (ps_if (pt_cmpR op_eq (pe_ix ix_tup (pv 1) pe_int (fun _ _ => rfl)) pe_str (nomark _)) (pss_one (ps_expr (pe_meth (pv 0) E.c_IdealHeap E.m_IdealHeap_load (ok_IdealHeap_load E) (hr.mono (by decide)) E.b_IdealHeap_load .nil (passes_call (takes_of rfl rfl rfl rfl) fun _ _ _ _ h => h) (pa_cons (pe_ix ix_tup (pv 1) pe_int (fun _ _ => rfl)) (pa_cons (pe_ix ix_tup (pv 1) pe_int (fun _ _ => rfl)) (pa_cons (pe_ix ix_tup (pv 1) pe_int (fun _ _ => rfl)) pa_nil)))))) (pss_one (ps_if (pt_cmpR op_eq (pe_ix ix_tup (pv 1) pe_int (fun _ _ => rfl)) pe_str (nomark _)) (pss_one (ps_expr (pe_meth (pv 0) E.c_IdealHeap E.m_IdealHeap_store (ok_IdealHeap_store E) (hr.mono (by decide)) E.b_IdealHeap_store .nil (passes_call (takes_of rfl rfl rfl rfl) fun _ _ _ _ h => h) (pa_cons (pe_ix ix_tup (pv 1) pe_int (fun _ _ => rfl)) (pa_cons (pe_ix ix_tup (pv 1) pe_int (fun _ _ => rfl)) (pa_cons (pe_ix ix_tup (pv 1) pe_int (fun _ _ => rfl)) pa_nil)))))) (pss_one (ps_if (pt_cmpR op_eq (pe_ix ix_tup (pv 1) pe_int (fun _ _ => rfl)) pe_str (nomark _)) (pss_one (ps_expr (pe_meth (pv 0) E.c_IdealHeap E.m_IdealHeap_copy (ok_IdealHeap_copy E) (hr.mono (by decide)) E.b_IdealHeap_copy .nil (passes_call (takes_of rfl rfl rfl rfl) fun _ _ _ _ h => h) (pa_cons (pe_ix ix_tup (pv 1) pe_int (fun _ _ => rfl)) (pa_cons (pe_ix ix_tup (pv 1) pe_int (fun _ _ => rfl)) pa_nil))))) (pss_one (ps_if (pt_cmpR op_eq (pe_ix ix_tup (pv 1) pe_int (fun _ _ => rfl)) pe_str (nomark _)) (pss_one (ps_expr (pe_meth (pv 0) E.c_IdealHeap E.m_IdealHeap_drop (ok_IdealHeap_drop E) (hr.mono (by decide)) E.b_IdealHeap_drop .nil (passes_call (takes_of rfl rfl rfl rfl) fun _ _ _ _ h => h) (pa_cons (pe_ix ix_tup (pv 1) pe_int (fun _ _ => rfl)) pa_nil)))) (pss_one (ps_if (pt_cmpR op_eq (pe_ix ix_tup (pv 1) pe_int (fun _ _ => rfl)) pe_str (nomark _)) (pss_one (ps_expr (pe_meth (pv 0) E.c_IdealHeap E.m_IdealHeap_number (ok_IdealHeap_number E) (hr.mono (by decide)) E.b_IdealHeap_number .nil (passes_call (takes_of rfl rfl rfl rfl) fun _ _ _ _ h => h) (pa_cons (pe_ix ix_tup (pv 1) pe_int (fun _ _ => rfl)) (pa_cons (pe_ix ix_tup (pv 1) pe_int (fun _ _ => rfl)) pa_nil))))) (pss_one (ps_if (pt_cmpR op_eq (pe_ix ix_tup (pv 1) pe_int (fun _ _ => rfl)) pe_str (nomark _)) (pss_one (ps_expr (pe_meth (pv 0) E.c_IdealHeap E.m_IdealHeap_name (ok_IdealHeap_name E) (hr.mono (by decide)) E.b_IdealHeap_name .nil (passes_call (takes_of rfl rfl rfl rfl) fun _ _ _ _ h => h) (pa_cons (pe_ix ix_tup (pv 1) pe_int (fun _ _ => rfl)) (pa_cons (pe_ix ix_tup (pv 1) pe_int (fun _ _ => rfl)) pa_nil))))) (pss_one (ps_if (pt_cmpR op_eq (pe_ix ix_tup (pv 1) pe_int (fun _ _ => rfl)) pe_str (nomark _)) (pss_one (ps_expr (pe_meth (pv 0) E.c_IdealHeap E.m_IdealHeap_read (ok_IdealHeap_read E) (hr.mono (by decide)) E.b_IdealHeap_read .nil (passes_call (takes_of rfl rfl rfl rfl) fun _ _ _ _ h => h) (pa_cons (pe_ix ix_tup (pv 1) pe_int (fun _ _ => rfl)) (pa_cons (pe_ix ix_tup (pv 1) pe_int (fun _ _ => rfl)) pa_nil))))) (pss_one (ps_expr (pe_call (ok_do_value E) (hr.mono (by decide)) (by rfl) E.g_do_value E.fd_do_value.kp E.b_do_value .nil (passes_call (takes_of rfl rfl rfl rfl) fun _ _ _ _ h => h) (pa_cons (pv 0) (pa_cons (pv 1) pa_nil))))))))))))))))))))), ?_⟩
    dsimp only [cxOf]
    refine ⟨_, rfl, ra, _, 0, .str r.head, rfl, rfl, SqT.of hra, row0, rfl, _, rfl, ifd (fun c => ?_) fun c1 => ?_⟩
    · have ht := tag_of (n := 0) c (by decide +kernel)
      cases r <;> first | (simp [Row.tag] at ht; done) | skip
      rename_i a n
      exact ⟨_, rfl, p, _, _, rfl, A.ob, (by kernel_rfl), _, rfl, ra, _, 1, .int a, rfl, rfl, SqT.of hra, rfl, _, rfl, ra, _, 2, .int n, rfl, rfl, SqT.of hra, rfl, p, a, n, h, L, rfl, A, ok.1, ok.2, hc, q⟩
    refine ⟨_, rfl, ra, _, 0, .str r.head, rfl, rfl, SqT.of hra, row0, rfl, _, rfl, ifd (fun c => ?_) fun c2 => ?_⟩
    · have ht := tag_of (n := 1) c (by decide +kernel)
      cases r <;> first | (simp [Row.tag] at ht; done) | skip
      rename_i a b k
      exact ⟨_, rfl, p, _, _, rfl, A.ob, (by kernel_rfl), _, rfl, ra, _, 1, .int a, rfl, rfl, SqT.of hra, rfl, _, rfl, ra, _, 2, .int b, rfl, rfl, SqT.of hra, rfl, _, rfl, ra, _, 3, .int k, rfl, rfl, SqT.of hra, rfl, p, a, b, k, h, L, rfl, A, ok.1, ok.2.1, q⟩
    refine ⟨_, rfl, ra, _, 0, .str r.head, rfl, rfl, SqT.of hra, row0, rfl, _, rfl, ifd (fun c => ?_) fun c3 => ?_⟩
    · have ht := tag_of (n := 2) c (by decide +kernel)
      cases r <;> first | (simp [Row.tag] at ht; done) | skip
      rename_i g k i
      exact ⟨_, rfl, p, _, _, rfl, A.ob, (by kernel_rfl), _, rfl, ra, _, 1, .int g, rfl, rfl, SqT.of hra, rfl, _, rfl, ra, _, 2, .int k, rfl, rfl, SqT.of hra, rfl, _, rfl, ra, _, 3, .int i, rfl, rfl, SqT.of hra, rfl, p, g, k, i, h, L, rfl, A, ok.1, ok.2.2, q⟩
    refine ⟨_, rfl, ra, _, 0, .str r.head, rfl, rfl, SqT.of hra, row0, rfl, _, rfl, ifd (fun c => ?_) fun c4 => ?_⟩
    · have ht := tag_of (n := 3) c (by decide +kernel)
      cases r <;> first | (simp [Row.tag] at ht; done) | skip
      rename_i a b
      exact ⟨_, rfl, p, _, _, rfl, A.ob, (by kernel_rfl), _, rfl, ra, _, 1, .int a, rfl, rfl, SqT.of hra, rfl, _, rfl, ra, _, 2, .int b, rfl, rfl, SqT.of hra, rfl, p, a, b, h, L, rfl, A, ok.1, ok.2, q⟩
    refine ⟨_, rfl, ra, _, 0, .str r.head, rfl, rfl, SqT.of hra, row0, rfl, _, rfl, ifd (fun c => ?_) fun c5 => ?_⟩
    · have ht := tag_of (n := 4) c (by decide +kernel)
      cases r <;> first | (simp [Row.tag] at ht; done) | skip
      rename_i a
      exact ⟨_, rfl, p, _, _, rfl, A.ob, (by kernel_rfl), _, rfl, ra, _, 1, .int a, rfl, rfl, SqT.of hra, rfl, p, a, h, L, rfl, A, ok, q⟩
    refine ⟨_, rfl, ra, _, 0, .str r.head, rfl, rfl, SqT.of hra, row0, rfl, _, rfl, ifd (fun c => ?_) fun c6 => ?_⟩
    · have ht := tag_of (n := 5) c (by decide +kernel)
      cases r <;> first | (simp [Row.tag] at ht; done) | skip
      rename_i a x
      exact ⟨_, rfl, p, _, _, rfl, A.ob, (by kernel_rfl), _, rfl, ra, _, 1, .int a, rfl, rfl, SqT.of hra, rfl, _, rfl, ra, _, 2, .int x, rfl, rfl, SqT.of hra, rfl, p, a, x, h, L, rfl, A, ok.1, q⟩
    refine ⟨_, rfl, ra, _, 0, .str r.head, rfl, rfl, SqT.of hra, row0, rfl, _, rfl, ifd (fun c => ?_) fun c7 => ?_⟩
    · have ht := tag_of (n := 6) c (by decide +kernel)
      cases r <;> first | (simp [Row.tag] at ht; done) | skip
      rename_i n a
      exact ⟨_, rfl, p, _, _, rfl, A.ob, (by kernel_rfl), _, rfl, ra, _, 1, .int n, rfl, rfl, SqT.of hra, rfl, _, rfl, ra, _, 2, .int a, rfl, rfl, SqT.of hra, rfl, p, n, a, h, L, rfl, A, ok.1, ok.2, q⟩
    refine ⟨_, rfl, ra, _, 0, .str r.head, rfl, rfl, SqT.of hra, row0, rfl, _, rfl, ifd (fun c => ?_) fun c8 => ?_⟩
    · have ht := tag_of (n := 7) c (by decide +kernel)
      cases r <;> first | (simp [Row.tag] at ht; done) | skip
      rename_i a n
      exact ⟨_, rfl, p, _, _, rfl, A.ob, (by kernel_rfl), _, rfl, ra, _, 1, .int a, rfl, rfl, SqT.of hra, rfl, _, rfl, ra, _, 2, .int n, rfl, rfl, SqT.of hra, rfl, p, a, n, h, L, rfl, A, ok.1, ok.2, q⟩
    have no : ∀ n, r.tag = n → heads[n]? ≠ some "make" ∧ heads[n]? ≠ some "load" ∧ heads[n]? ≠ some "store" ∧ heads[n]? ≠ some "copy" ∧ heads[n]? ≠ some "drop" ∧ heads[n]? ≠ some "number" ∧ heads[n]? ≠ some "name" ∧ heads[n]? ≠ some "read" := fun n e => ⟨fun z => c1 (head_of e z), fun z => c2 (head_of e z), fun z => c3 (head_of e z), fun z => c4 (head_of e z), fun z => c5 (head_of e z), fun z => c6 (head_of e z), fun z => c7 (head_of e z), fun z => c8 (head_of e z)⟩
    have vd : r.valued = true := by
      cases r <;> first | rfl | (exact absurd rfl (no 0 rfl).1) | (exact absurd rfl (no 1 rfl).2.1) | (exact absurd rfl (no 2 rfl).2.2.1) | (exact absurd rfl (no 3 rfl).2.2.2.1) | (exact absurd rfl (no 4 rfl).2.2.2.2.1) | (exact absurd rfl (no 5 rfl).2.2.2.2.2.1) | (exact absurd rfl (no 6 rfl).2.2.2.2.2.2.1) | (exact absurd rfl (no 7 rfl).2.2.2.2.2.2.2) | (cases vd; done)
    exact ⟨_, rfl, _, rfl, p, ra, r, h, L, rfl, A, hra, ok, vd, hc, q⟩
theorem sc_law_plain : FnScope ["hall", "deed"] ["hall", "deed"] (defScope st_law_plain) := ⟨rfl, rfl, rfl, by decide +kernel, rfl, by decide +kernel, by decide +kernel⟩
theorem ok_law_plain (E : Txt K mg) : FnOk P w K mg base (L2.CX P w) 8 (fAd at_law_plain K) (fdOf at_law_plain K) ["hall", "deed"] (spDeed K Row.simple) := by
  refine FunD.ok E.fd_law_plain sc_law_plain (fun vs H Q E0 h => ?_) (fun cdv A outer s H vs Q E0 hr h => ?_)
  · obtain ⟨p, ra, r, h, L, rfl, _⟩ := h
    rfl
  · obtain ⟨p, ra, r, h, L, rfl, A, hra, ok, vd, hc, q⟩ := h
    refine ⟨_, (pss_one (ps_if (pt_cmpR op_eq (pe_ix ix_tup (pv 1) pe_int (fun _ _ => rfl)) pe_str (nomark _)) (pss_one (ps_expr (pe_meth (pv 0) E.c_IdealHeap E.m_IdealHeap_make (ok_IdealHeap_make E) (hr.mono (by decide)) E.b_IdealHeap_make .nil (passes_call (takes_of rfl rfl rfl rfl) fun _ _ _ _ h => h) (pa_cons (pe_ix ix_tup (pv 1) pe_int (fun _ _ => rfl)) (pa_cons (pe_ix ix_tup (pv 1) pe_int (fun _ _ => rfl)) pa_nil))))) (pss_one (ps_if (pt_cmpR op_eq (pe_ix ix_tup (pv 1) pe_int (fun _ _ => rfl)) pe_str (nomark _)) (pss_one (ps_expr (pe_meth (pv 0) E.c_IdealHeap E.m_IdealHeap_store (ok_IdealHeap_store E) (hr.mono (by decide)) E.b_IdealHeap_store .nil (passes_call (takes_of rfl rfl rfl rfl) fun _ _ _ _ h => h) (pa_cons (pe_ix ix_tup (pv 1) pe_int (fun _ _ => rfl)) (pa_cons (pe_ix ix_tup (pv 1) pe_int (fun _ _ => rfl)) (pa_cons (pe_ix ix_tup (pv 1) pe_int (fun _ _ => rfl)) pa_nil)))))) (pss_one (ps_if (pt_cmpR op_eq (pe_ix ix_tup (pv 1) pe_int (fun _ _ => rfl)) pe_str (nomark _)) (pss_one (ps_expr (pe_meth (pv 0) E.c_IdealHeap E.m_IdealHeap_load (ok_IdealHeap_load E) (hr.mono (by decide)) E.b_IdealHeap_load .nil (passes_call (takes_of rfl rfl rfl rfl) fun _ _ _ _ h => h) (pa_cons (pe_ix ix_tup (pv 1) pe_int (fun _ _ => rfl)) (pa_cons (pe_ix ix_tup (pv 1) pe_int (fun _ _ => rfl)) (pa_cons (pe_ix ix_tup (pv 1) pe_int (fun _ _ => rfl)) pa_nil)))))) (pss_one (ps_if (pt_cmpR op_eq (pe_ix ix_tup (pv 1) pe_int (fun _ _ => rfl)) pe_str (nomark _)) (pss_one (ps_expr (pe_meth (pv 0) E.c_IdealHeap E.m_IdealHeap_copy (ok_IdealHeap_copy E) (hr.mono (by decide)) E.b_IdealHeap_copy .nil (passes_call (takes_of rfl rfl rfl rfl) fun _ _ _ _ h => h) (pa_cons (pe_ix ix_tup (pv 1) pe_int (fun _ _ => rfl)) (pa_cons (pe_ix ix_tup (pv 1) pe_int (fun _ _ => rfl)) pa_nil))))) (pss_one (ps_if (pt_cmpR op_eq (pe_ix ix_tup (pv 1) pe_int (fun _ _ => rfl)) pe_str (nomark _)) (pss_one (ps_expr (pe_meth (pv 0) E.c_IdealHeap E.m_IdealHeap_drop (ok_IdealHeap_drop E) (hr.mono (by decide)) E.b_IdealHeap_drop .nil (passes_call (takes_of rfl rfl rfl rfl) fun _ _ _ _ h => h) (pa_cons (pe_ix ix_tup (pv 1) pe_int (fun _ _ => rfl)) pa_nil)))) (pss_one (ps_if (pt_cmpR op_eq (pe_ix ix_tup (pv 1) pe_int (fun _ _ => rfl)) pe_str (nomark _)) (pss_one (ps_expr (pe_meth (pv 0) E.c_IdealHeap E.m_IdealHeap_number (ok_IdealHeap_number E) (hr.mono (by decide)) E.b_IdealHeap_number .nil (passes_call (takes_of rfl rfl rfl rfl) fun _ _ _ _ h => h) (pa_cons (pe_ix ix_tup (pv 1) pe_int (fun _ _ => rfl)) (pa_cons (pe_ix ix_tup (pv 1) pe_int (fun _ _ => rfl)) pa_nil))))) (pss_one (ps_if (pt_cmpR op_eq (pe_ix ix_tup (pv 1) pe_int (fun _ _ => rfl)) pe_str (nomark _)) (pss_one (ps_expr (pe_meth (pv 0) E.c_IdealHeap E.m_IdealHeap_name (ok_IdealHeap_name E) (hr.mono (by decide)) E.b_IdealHeap_name .nil (passes_call (takes_of rfl rfl rfl rfl) fun _ _ _ _ h => h) (pa_cons (pe_ix ix_tup (pv 1) pe_int (fun _ _ => rfl)) (pa_cons (pe_ix ix_tup (pv 1) pe_int (fun _ _ => rfl)) pa_nil))))) (pss_one (ps_if (pt_cmpR op_eq (pe_ix ix_tup (pv 1) pe_int (fun _ _ => rfl)) pe_str (nomark _)) (pss_one (ps_expr (pe_meth (pv 0) E.c_IdealHeap E.m_IdealHeap_read (ok_IdealHeap_read E) (hr.mono (by decide)) E.b_IdealHeap_read .nil (passes_call (takes_of rfl rfl rfl rfl) fun _ _ _ _ h => h) (pa_cons (pe_ix ix_tup (pv 1) pe_int (fun _ _ => rfl)) (pa_cons (pe_ix ix_tup (pv 1) pe_int (fun _ _ => rfl)) pa_nil))))) pss_nil)))))))))))))))), ?_⟩
    dsimp only [cxOf]
    refine ⟨_, rfl, ra, _, 0, .str r.head, rfl, rfl, SqT.of hra, row0, rfl, _, rfl, ifd (fun c => ?_) fun c1 => ?_⟩
    · have ht := tag_of (n := 0) c (by decide +kernel)
      cases r <;> first | (simp [Row.tag] at ht; done) | skip
      rename_i a n
      exact ⟨_, rfl, p, _, _, rfl, A.ob, (by kernel_rfl), _, rfl, ra, _, 1, .int a, rfl, rfl, SqT.of hra, rfl, _, rfl, ra, _, 2, .int n, rfl, rfl, SqT.of hra, rfl, p, a, n, h, L, rfl, A, ok.1, ok.2, hc, q⟩
    refine ⟨_, rfl, ra, _, 0, .str r.head, rfl, rfl, SqT.of hra, row0, rfl, _, rfl, ifd (fun c => ?_) fun c2 => ?_⟩
    · have ht := tag_of (n := 2) c (by decide +kernel)
      cases r <;> first | (simp [Row.tag] at ht; done) | skip
      rename_i g k i
      exact ⟨_, rfl, p, _, _, rfl, A.ob, (by kernel_rfl), _, rfl, ra, _, 1, .int g, rfl, rfl, SqT.of hra, rfl, _, rfl, ra, _, 2, .int k, rfl, rfl, SqT.of hra, rfl, _, rfl, ra, _, 3, .int i, rfl, rfl, SqT.of hra, rfl, p, g, k, i, h, L, rfl, A, ok.1, ok.2.2, q⟩
    refine ⟨_, rfl, ra, _, 0, .str r.head, rfl, rfl, SqT.of hra, row0, rfl, _, rfl, ifd (fun c => ?_) fun c3 => ?_⟩
    · have ht := tag_of (n := 1) c (by decide +kernel)
      cases r <;> first | (simp [Row.tag] at ht; done) | skip
      rename_i a b k
      exact ⟨_, rfl, p, _, _, rfl, A.ob, (by kernel_rfl), _, rfl, ra, _, 1, .int a, rfl, rfl, SqT.of hra, rfl, _, rfl, ra, _, 2, .int b, rfl, rfl, SqT.of hra, rfl, _, rfl, ra, _, 3, .int k, rfl, rfl, SqT.of hra, rfl, p, a, b, k, h, L, rfl, A, ok.1, ok.2.1, q⟩
    refine ⟨_, rfl, ra, _, 0, .str r.head, rfl, rfl, SqT.of hra, row0, rfl, _, rfl, ifd (fun c => ?_) fun c4 => ?_⟩
    · have ht := tag_of (n := 3) c (by decide +kernel)
      cases r <;> first | (simp [Row.tag] at ht; done) | skip
      rename_i a b
      exact ⟨_, rfl, p, _, _, rfl, A.ob, (by kernel_rfl), _, rfl, ra, _, 1, .int a, rfl, rfl, SqT.of hra, rfl, _, rfl, ra, _, 2, .int b, rfl, rfl, SqT.of hra, rfl, p, a, b, h, L, rfl, A, ok.1, ok.2, q⟩
    refine ⟨_, rfl, ra, _, 0, .str r.head, rfl, rfl, SqT.of hra, row0, rfl, _, rfl, ifd (fun c => ?_) fun c5 => ?_⟩
    · have ht := tag_of (n := 4) c (by decide +kernel)
      cases r <;> first | (simp [Row.tag] at ht; done) | skip
      rename_i a
      exact ⟨_, rfl, p, _, _, rfl, A.ob, (by kernel_rfl), _, rfl, ra, _, 1, .int a, rfl, rfl, SqT.of hra, rfl, p, a, h, L, rfl, A, ok, q⟩
    refine ⟨_, rfl, ra, _, 0, .str r.head, rfl, rfl, SqT.of hra, row0, rfl, _, rfl, ifd (fun c => ?_) fun c6 => ?_⟩
    · have ht := tag_of (n := 5) c (by decide +kernel)
      cases r <;> first | (simp [Row.tag] at ht; done) | skip
      rename_i a x
      exact ⟨_, rfl, p, _, _, rfl, A.ob, (by kernel_rfl), _, rfl, ra, _, 1, .int a, rfl, rfl, SqT.of hra, rfl, _, rfl, ra, _, 2, .int x, rfl, rfl, SqT.of hra, rfl, p, a, x, h, L, rfl, A, ok.1, q⟩
    refine ⟨_, rfl, ra, _, 0, .str r.head, rfl, rfl, SqT.of hra, row0, rfl, _, rfl, ifd (fun c => ?_) fun c7 => ?_⟩
    · have ht := tag_of (n := 6) c (by decide +kernel)
      cases r <;> first | (simp [Row.tag] at ht; done) | skip
      rename_i n a
      exact ⟨_, rfl, p, _, _, rfl, A.ob, (by kernel_rfl), _, rfl, ra, _, 1, .int n, rfl, rfl, SqT.of hra, rfl, _, rfl, ra, _, 2, .int a, rfl, rfl, SqT.of hra, rfl, p, n, a, h, L, rfl, A, ok.1, ok.2, q⟩
    refine ⟨_, rfl, ra, _, 0, .str r.head, rfl, rfl, SqT.of hra, row0, rfl, _, rfl, ifd (fun c => ?_) fun c8 => ?_⟩
    · have ht := tag_of (n := 7) c (by decide +kernel)
      cases r <;> first | (simp [Row.tag] at ht; done) | skip
      rename_i a n
      exact ⟨_, rfl, p, _, _, rfl, A.ob, (by kernel_rfl), _, rfl, ra, _, 1, .int a, rfl, rfl, SqT.of hra, rfl, _, rfl, ra, _, 2, .int n, rfl, rfl, SqT.of hra, rfl, p, a, n, h, L, rfl, A, ok.1, ok.2, q⟩
    have no : ∀ n, r.tag = n → heads[n]? ≠ some "make" ∧ heads[n]? ≠ some "store" ∧ heads[n]? ≠ some "load" ∧ heads[n]? ≠ some "copy" ∧ heads[n]? ≠ some "drop" ∧ heads[n]? ≠ some "number" ∧ heads[n]? ≠ some "name" ∧ heads[n]? ≠ some "read" := fun n e => ⟨fun z => c1 (head_of e z), fun z => c2 (head_of e z), fun z => c3 (head_of e z), fun z => c4 (head_of e z), fun z => c5 (head_of e z), fun z => c6 (head_of e z), fun z => c7 (head_of e z), fun z => c8 (head_of e z)⟩
    cases r <;> first | (exact absurd rfl (no 0 rfl).1) | (exact absurd rfl (no 2 rfl).2.1) | (exact absurd rfl (no 1 rfl).2.2.1) | (exact absurd rfl (no 3 rfl).2.2.2.1) | (exact absurd rfl (no 4 rfl).2.2.2.2.1) | (exact absurd rfl (no 5 rfl).2.2.2.2.2.1) | (exact absurd rfl (no 6 rfl).2.2.2.2.2.2.1) | (exact absurd rfl (no 7 rfl).2.2.2.2.2.2.2) | (cases vd; done)
theorem sc_law_reckoned : FnScope ["hall", "row", "word"] ["hall", "row"] (defScope st_law_reckoned) := ⟨rfl, rfl, rfl, by decide +kernel, rfl, by decide +kernel, by decide +kernel⟩
theorem ok_law_reckoned (E : Txt K mg) : FnOk P w K mg base (L2.CX P w) 5 (fAd at_law_reckoned K) (fdOf at_law_reckoned K) ["hall", "row"] (spDeed K Row.valued) := by
  refine FunD.ok E.fd_law_reckoned sc_law_reckoned (fun vs H Q E0 h => ?_) (fun cdv A outer s H vs Q E0 hr h => ?_)
  · obtain ⟨p, ra, r, h, L, rfl, _⟩ := h
    rfl
  · obtain ⟨p, ra, r, h, L, rfl, A, hra, ok, vd, hc, q⟩ := h
    refine ⟨_, (pss_one (ps_if (pt_cmpR op_eq (pe_ix ix_tup (pv 1) pe_int (fun _ _ => rfl)) pe_str (nomark _)) (pss_one (ps_expr (pe_meth (pv 0) E.c_IdealHeap E.m_IdealHeap_word (ok_IdealHeap_word E) (hr.mono (by decide)) E.b_IdealHeap_word .nil (passes_call (takes_of rfl rfl rfl rfl) fun _ _ _ _ h => h) (pa_cons (pe_ix ix_tup (pv 1) pe_int (fun _ _ => rfl)) (pa_cons (pe_meth (pv 0) E.c_IdealHeap E.m_IdealHeap_value (ok_IdealHeap_value E) (hr.mono (by decide)) E.b_IdealHeap_value .nil (passes_call (takes_of rfl rfl rfl rfl) fun _ _ _ _ h => h) (pa_cons (pe_ix ix_tup (pv 1) pe_int (fun _ _ => rfl)) pa_nil)) pa_nil))))) (pss_one (ps_if (pt_cmpR op_eq (pe_ix ix_tup (pv 1) pe_int (fun _ _ => rfl)) pe_str (nomark _)) (pss_one (ps_expr (pe_meth (pv 0) E.c_IdealHeap E.m_IdealHeap_number (ok_IdealHeap_number E) (hr.mono (by decide)) E.b_IdealHeap_number .nil (passes_call (takes_of rfl rfl rfl rfl) fun _ _ _ _ h => h) (pa_cons (pe_ix ix_tup (pv 1) pe_int (fun _ _ => rfl)) (pa_cons (pe_meth0 (pv 0) E.c_IdealHeap E.m_IdealHeap_held (ok_IdealHeap_held E) (hr.mono (by decide)) E.b_IdealHeap_held .nil pass0) pa_nil))))) (pss_one (ps_if (pt_cmpR op_eq (pe_ix ix_tup (pv 1) pe_int (fun _ _ => rfl)) pe_str (nomark _)) (pss_one (ps_expr (pe_meth (pv 0) E.c_IdealHeap E.m_IdealHeap_number (ok_IdealHeap_number E) (hr.mono (by decide)) E.b_IdealHeap_number .nil (passes_call (takes_of rfl rfl rfl rfl) fun _ _ _ _ h => h) (pa_cons (pe_ix ix_tup (pv 1) pe_int (fun _ _ => rfl)) (pa_cons (pe_op op_add (pe_meth (pv 0) E.c_IdealHeap E.m_IdealHeap_value (ok_IdealHeap_value E) (hr.mono (by decide)) E.b_IdealHeap_value .nil (passes_call (takes_of rfl rfl rfl rfl) fun _ _ _ _ h => h) (pa_cons (pe_ix ix_tup (pv 1) pe_int (fun _ _ => rfl)) pa_nil)) (pe_meth (pv 0) E.c_IdealHeap E.m_IdealHeap_value (ok_IdealHeap_value E) (hr.mono (by decide)) E.b_IdealHeap_value .nil (passes_call (takes_of rfl rfl rfl rfl) fun _ _ _ _ h => h) (pa_cons (pe_ix ix_tup (pv 1) pe_int (fun _ _ => rfl)) pa_nil))) pa_nil))))) (pss_one (ps_if (pt_cmpR op_eq (pe_ix ix_tup (pv 1) pe_int (fun _ _ => rfl)) pe_str (nomark _)) (pss_one (ps_expr (pe_meth (pv 0) E.c_IdealHeap E.m_IdealHeap_number (ok_IdealHeap_number E) (hr.mono (by decide)) E.b_IdealHeap_number .nil (passes_call (takes_of rfl rfl rfl rfl) fun _ _ _ _ h => h) (pa_cons (pe_ix ix_tup (pv 1) pe_int (fun _ _ => rfl)) (pa_cons (pe_op op_sub (pe_meth (pv 0) E.c_IdealHeap E.m_IdealHeap_value (ok_IdealHeap_value E) (hr.mono (by decide)) E.b_IdealHeap_value .nil (passes_call (takes_of rfl rfl rfl rfl) fun _ _ _ _ h => h) (pa_cons (pe_ix ix_tup (pv 1) pe_int (fun _ _ => rfl)) pa_nil)) (pe_meth (pv 0) E.c_IdealHeap E.m_IdealHeap_value (ok_IdealHeap_value E) (hr.mono (by decide)) E.b_IdealHeap_value .nil (passes_call (takes_of rfl rfl rfl rfl) fun _ _ _ _ h => h) (pa_cons (pe_ix ix_tup (pv 1) pe_int (fun _ _ => rfl)) pa_nil))) pa_nil))))) (pss_one (ps_if (pt_cmpR op_eq (pe_ix ix_tup (pv 1) pe_int (fun _ _ => rfl)) pe_str (nomark _)) (pss_cons (ps_set (i := 2) sc_law_reckoned.nd rfl (Or.inl rfl) (pe_meth0 (pv 0) E.c_IdealHeap E.m_IdealHeap_take (ok_IdealHeap_take E) (hr.mono (by decide)) E.b_IdealHeap_take .nil pass0))
      (pss_cons (ps_expr (pe_meth (pv 0) E.c_IdealHeap E.m_IdealHeap_drop (ok_IdealHeap_drop E) (hr.mono (by decide)) E.b_IdealHeap_drop .nil (passes_call (takes_of rfl rfl rfl rfl) fun _ _ _ _ h => h) (pa_cons (pe_ix ix_tup (pv 1) pe_int (fun _ _ => rfl)) pa_nil)))
      (pss_one (ps_if (pt_cmpR op_notN (pv 2) pe_non (nomark _)) (pss_one (ps_expr (pe_meth (pv 0) E.c_IdealHeap E.m_IdealHeap_number (ok_IdealHeap_number E) (hr.mono (by decide)) E.b_IdealHeap_number .nil (passes_call (takes_of rfl rfl rfl rfl) fun _ _ _ _ h => h) (pa_cons (pe_ix ix_tup (pv 1) pe_int (fun _ _ => rfl)) (pa_cons (pv 2) pa_nil))))) pss_nil)))) pss_nil)))))))))), ?_⟩
    dsimp only [cxOf]
    refine ⟨_, rfl, ra, _, 0, .str r.head, rfl, rfl, SqT.of hra, row0, rfl, _, rfl, ifd (fun c => ?_) fun c1 => ?_⟩
    · have ht := tag_of (n := 8) c (by decide +kernel)
      cases r <;> first | (simp [Row.tag] at ht; done) | skip
      rename_i a b
      have q : PostU K p H h L Q E0 (match dValue h b with | .ok x _ => dWord h a x | .err e _ => .err e h) := q
      refine ⟨_, rfl, p, _, _, rfl, A.ob, (by kernel_rfl), _, rfl, ra, _, 1, .int a, rfl, rfl, SqT.of hra, rfl, _, rfl, p, _, _, rfl, A.ob, (by kernel_rfl), _, rfl, ra, _, 2, .int b, rfl, rfl, SqT.of hra, rfl, p, b, h, L, rfl, A, ok.2, fun x hx => ?_, fun hx => ?_⟩
      · rw [dValue_ok hx] at q
        exact ⟨p, a, x, h, L, rfl, A, ok.1, q⟩
      · rw [dValue_err hx] at q
        exact q H L A (Fr.refl _ _ _ _)
    refine ⟨_, rfl, ra, _, 0, .str r.head, rfl, rfl, SqT.of hra, row0, rfl, _, rfl, ifd (fun c => ?_) fun c2 => ?_⟩
    · have ht := tag_of (n := 10) c (by decide +kernel)
      cases r <;> first | (simp [Row.tag] at ht; done) | skip
      rename_i a
      refine ⟨_, rfl, p, _, _, rfl, A.ob, (by kernel_rfl), _, rfl, ra, _, 1, .int a, rfl, rfl, SqT.of hra, rfl, _, rfl, p, _, _, rfl, A.ob, (by kernel_rfl), p, h, L, rfl, A, fun H1 s1 => ⟨p, a, _, h, L, rfl, A.same s1, ok, ?_⟩⟩
      have q : PostU K p H h L Q E0 (dNumber h a (words h.kept)) := q
      unfold dNumber at q ⊢
      split at q <;> rename_i c
      · rw [if_pos c]
        exact fun H' L' A' F' => q H' L' A' ((Fr.same s1).trans F')
      · rw [if_neg c]
        exact fun H' L' A' F' => q H' L' A' ((Fr.same s1).trans F')
    refine ⟨_, rfl, ra, _, 0, .str r.head, rfl, rfl, SqT.of hra, row0, rfl, _, rfl, ifd (fun c => ?_) fun c3 => ?_⟩
    · have ht := tag_of (n := 11) c (by decide +kernel)
      cases r <;> first | (simp [Row.tag] at ht; done) | skip
      rename_i a b
      have q : PostU K p H h L Q E0 (match dValue h a, dValue h b with | .ok x _, .ok y _ => dNumber h a (x + y) | _, _ => .err .badHand h) := q
      refine ⟨_, rfl, p, _, _, rfl, A.ob, (by kernel_rfl), _, rfl, ra, _, 1, .int a, rfl, rfl, SqT.of hra, rfl, _, rfl, p, _, _, rfl, A.ob, (by kernel_rfl), _, rfl, ra, _, 1, .int a, rfl, rfl, SqT.of hra, rfl, p, a, h, L, rfl, A, ok.1, fun x hx => ?_, fun hx => ?_⟩
      · rw [dValue_ok hx] at q
        refine ⟨_, rfl, p, _, _, rfl, A.ob, (by kernel_rfl), _, rfl, ra, _, 2, .int b, rfl, rfl, SqT.of hra, rfl, p, b, h, L, rfl, A, ok.2, fun y hy => ?_, fun hy => ?_⟩
        · rw [dValue_ok hy] at q
          exact ⟨_, _, rfl, rfl, p, a, _, h, L, rfl, A, ok.1, q⟩
        · rw [dValue_err hy] at q
          exact q H L A (Fr.refl _ _ _ _)
      · rw [dValue_err hx] at q
        exact q H L A (Fr.refl _ _ _ _)
    refine ⟨_, rfl, ra, _, 0, .str r.head, rfl, rfl, SqT.of hra, row0, rfl, _, rfl, ifd (fun c => ?_) fun c4 => ?_⟩
    · have ht := tag_of (n := 12) c (by decide +kernel)
      cases r <;> first | (simp [Row.tag] at ht; done) | skip
      rename_i a b
      have q : PostU K p H h L Q E0 (match dValue h a, dValue h b with | .ok x _, .ok y _ => dNumber h a (x - y) | _, _ => .err .badHand h) := q
      refine ⟨_, rfl, p, _, _, rfl, A.ob, (by kernel_rfl), _, rfl, ra, _, 1, .int a, rfl, rfl, SqT.of hra, rfl, _, rfl, p, _, _, rfl, A.ob, (by kernel_rfl), _, rfl, ra, _, 1, .int a, rfl, rfl, SqT.of hra, rfl, p, a, h, L, rfl, A, ok.1, fun x hx => ?_, fun hx => ?_⟩
      · rw [dValue_ok hx] at q
        refine ⟨_, rfl, p, _, _, rfl, A.ob, (by kernel_rfl), _, rfl, ra, _, 2, .int b, rfl, rfl, SqT.of hra, rfl, p, b, h, L, rfl, A, ok.2, fun y hy => ?_, fun hy => ?_⟩
        · rw [dValue_ok hy] at q
          exact ⟨_, _, rfl, rfl, p, a, _, h, L, rfl, A, ok.1, q⟩
        · rw [dValue_err hy] at q
          exact q H L A (Fr.refl _ _ _ _)
      · rw [dValue_err hx] at q
        exact q H L A (Fr.refl _ _ _ _)
    refine ⟨_, rfl, ra, _, 0, .str r.head, rfl, rfl, SqT.of hra, row0, rfl, _, rfl, ifd (fun c => ?_) fun c5 => ?_⟩
    · have ht := tag_of (n := 9) c (by decide +kernel)
      cases r <;> first | (simp [Row.tag] at ht; done) | skip
      rename_i a
      have W := A.wf
      have q : PostU K p H h L Q E0 (match dTake h with | (none, g) => dDrop g a | (some x, g) => .ok () (g.setHand a (.num x))) := q
      refine ⟨_, rfl, p, _, _, rfl, A.ob, (by kernel_rfl), p, h, L, rfl, A, fun H1 A1 F1 => ?_⟩
      have sk : ∀ x, (dTake h).1 = some x → numOk x = true := fun x e => by
        unfold dTake at e
        cases z : h.spoken with
        | nil =>
          rw [z] at e
          cases e
        | cons y s =>
          rw [z] at e
          cases e
          exact W.sok x (by rw [z]; exact List.mem_cons_self ..)
      have hra : H1 ra = some (.tup ((Row.take a).parts)) := (F1.tups A.toAtR) _ _ hra
      generalize dTake h = tk at *
      obtain ⟨o, g⟩ := tk
      refine ⟨_, rfl, p, _, _, rfl, A1.ob, (by kernel_rfl), _, rfl, ra, _, 1, .int a, rfl, rfl, SqT.of hra, rfl, p, a, g, L, rfl, A1, ok, fun H2 L2 A2 F2 => ?_⟩
      have hra : H2 ra = some (.tup ((Row.take a).parts)) := (F2.tups A1.toAtR) _ _ hra
      cases o with
      | none => exact ⟨_, rfl, rfl, _, rfl, q H2 L2 A2 (F1.trans F2)⟩
      | some x =>
        refine ⟨_, rfl, rfl, _, rfl, _, rfl, p, _, _, rfl, A2.ob, (by kernel_rfl), _, rfl, ra, _, 1, .int a, rfl, rfl, SqT.of hra, rfl, _, rfl, p, a, x, _, L2, rfl, A2, ok, ?_⟩
        unfold dNumber
        rw [if_pos (sk x rfl)]
        have e : ((g.setHand a .non).setHand a (.num x)) = g.setHand a (.num x) := by
          unfold IH.setHand
          simp only [List.set_set]
        rw [e]
        exact fun H' L' A' F' => q H' L' A' (F1.trans (F2.trans F'))
    · have no : ∀ n, r.tag = n → heads[n]? ≠ some "word" ∧ heads[n]? ≠ some "held" ∧ heads[n]? ≠ some "add" ∧ heads[n]? ≠ some "less" ∧ heads[n]? ≠ some "take" := fun n e => ⟨fun z => c1 (head_of e z), fun z => c2 (head_of e z), fun z => c3 (head_of e z), fun z => c4 (head_of e z), fun z => c5 (head_of e z)⟩
      cases r <;> first | (exact absurd rfl (no 8 rfl).1) | (exact absurd rfl (no 10 rfl).2.1) | (exact absurd rfl (no 11 rfl).2.2.1) | (exact absurd rfl (no 12 rfl).2.2.2.1) | (exact absurd rfl (no 9 rfl).2.2.2.2) | (cases vd; done)
theorem sc_goes_on : FnScope ["hall", "row"] ["hall", "row"] (defScope st_goes_on) := ⟨rfl, rfl, rfl, by decide +kernel, rfl, by decide +kernel, by decide +kernel⟩
theorem ok_goes_on (E : Txt K mg) : FnOk P w K mg base (L2.CX P w) 3 (fAd at_goes_on K) (fdOf at_goes_on K) ["hall", "row"] (spJump K) := by
  refine FunD.ok E.fd_goes_on sc_goes_on (fun vs H Q E0 h => ?_) (fun cdv A outer s H vs Q E0 hr h => ?_)
  · obtain ⟨p, ra, r, h, L, rfl, _⟩ := h
    rfl
  · obtain ⟨p, ra, r, h, L, rfl, A, hra, ok, vd, q1, q2⟩ := h
    refine ⟨_, (pss_cons (ps_if (pt_cmpR op_eq (pe_ix ix_tup (pv 1) pe_int (fun _ _ => rfl)) pe_str (nomark _)) (pss_one (ps_ret (pe_meth (pv 0) E.c_IdealHeap E.m_IdealHeap_same (ok_IdealHeap_same E) (hr.mono (by decide)) E.b_IdealHeap_same .nil (passes_call (takes_of rfl rfl rfl rfl) fun _ _ _ _ h => h) (pa_cons (pe_ix ix_tup (pv 1) pe_int (fun _ _ => rfl)) (pa_cons (pe_ix ix_tup (pv 1) pe_int (fun _ _ => rfl)) pa_nil))))) pss_nil)
      (pss_cons (ps_if (pt_cmpR op_eq (pe_ix ix_tup (pv 1) pe_int (fun _ _ => rfl)) pe_str (nomark _)) (pss_one (ps_ret (pe_cmpR op_lt (pe_meth (pv 0) E.c_IdealHeap E.m_IdealHeap_value (ok_IdealHeap_value E) (hr.mono (by decide)) E.b_IdealHeap_value .nil (passes_call (takes_of rfl rfl rfl rfl) fun _ _ _ _ h => h) (pa_cons (pe_ix ix_tup (pv 1) pe_int (fun _ _ => rfl)) pa_nil)) (pe_meth (pv 0) E.c_IdealHeap E.m_IdealHeap_value (ok_IdealHeap_value E) (hr.mono (by decide)) E.b_IdealHeap_value .nil (passes_call (takes_of rfl rfl rfl rfl) fun _ _ _ _ h => h) (pa_cons (pe_ix ix_tup (pv 1) pe_int (fun _ _ => rfl)) pa_nil)) (nomark _)))) pss_nil)
      (pss_cons (ps_if (pt_cmpR op_eq (pe_ix ix_tup (pv 1) pe_int (fun _ _ => rfl)) pe_str (nomark _)) (pss_one (ps_ret (pe_cmpR op_eq (pe_meth (pv 0) E.c_IdealHeap E.m_IdealHeap_kind (ok_IdealHeap_kind E) (hr.mono (by decide)) E.b_IdealHeap_kind .nil (passes_call (takes_of rfl rfl rfl rfl) fun _ _ _ _ h => h) (pa_cons (pe_ix ix_tup (pv 1) pe_int (fun _ _ => rfl)) pa_nil)) pe_str (nomark _)))) pss_nil)
      (pss_one (ps_ret pe_bl))))), ?_⟩
    dsimp only [cxOf]
    refine ⟨_, rfl, ra, _, 0, .str r.head, rfl, rfl, SqT.of hra, row0, rfl, _, rfl, ifd (fun c => ?_) fun c1 => ?_⟩
    · have ht := tag_of (n := 15) c (by decide +kernel)
      cases r <;> first | (simp [Row.tag] at ht; done) | skip
      rename_i a b m
      exact ⟨_, rfl, p, _, _, rfl, A.ob, (by kernel_rfl), _, rfl, ra, _, 1, .int a, rfl, rfl, SqT.of hra, rfl, _, rfl, ra, _, 2, .int b, rfl, rfl, SqT.of hra, rfl, p, a, b, h, L, rfl, A, ok.1, ok.2.1, q1 _ rfl⟩
    refine ⟨_, rfl, ra, _, 0, .str r.head, rfl, rfl, SqT.of hra, row0, rfl, _, rfl, ifd (fun c => ?_) fun c2 => ?_⟩
    · have ht := tag_of (n := 16) c (by decide +kernel)
      cases r <;> first | (simp [Row.tag] at ht; done) | skip
      rename_i a b m
      have ej : dJump h (.below a b m) = match dValue h a, dValue h b with | .ok x _, .ok y _ => some (decide (x < y)) | _, _ => none := rfl
      refine ⟨_, rfl, p, _, _, rfl, A.ob, (by kernel_rfl), _, rfl, ra, _, 1, .int a, rfl, rfl, SqT.of hra, rfl, p, a, h, L, rfl, A, ok.1, fun x hx => ?_, fun hx => ?_⟩
      · rw [dValue_ok hx] at ej
        refine ⟨_, rfl, p, _, _, rfl, A.ob, (by kernel_rfl), _, rfl, ra, _, 2, .int b, rfl, rfl, SqT.of hra, rfl, p, b, h, L, rfl, A, ok.2.1, fun y hy => ?_, fun hy => ?_⟩
        · rw [dValue_ok hy] at ej
          exact ⟨_, _, rfl, rfl, q1 _ ej⟩
        · rw [dValue_err hy] at ej
          exact q2 ej
      · rw [dValue_err hx] at ej
        exact q2 ej
    refine ⟨_, rfl, ra, _, 0, .str r.head, rfl, rfl, SqT.of hra, row0, rfl, _, rfl, ifd (fun c => ?_) fun c3 => ?_⟩
    · have ht := tag_of (n := 17) c (by decide +kernel)
      cases r <;> first | (simp [Row.tag] at ht; done) | skip
      rename_i a m
      refine ⟨_, rfl, p, _, _, rfl, A.ob, (by kernel_rfl), _, rfl, ra, _, 1, .int a, rfl, rfl, SqT.of hra, rfl, p, a, h, L, rfl, A, ok.1, rfl, ?_⟩
      have e : decide (V.str (h.hand a).kind = V.str "thing") = (h.hand a).thing.isSome := by
        cases h.hand a <;> kernel_rfl
      rw [e]
      exact q1 _ rfl
    · have no : ∀ n, r.tag = n → heads[n]? ≠ some "same" ∧ heads[n]? ≠ some "below" ∧ heads[n]? ≠ some "thing" := fun n e => ⟨fun z => c1 (head_of e z), fun z => c2 (head_of e z), fun z => c3 (head_of e z)⟩
      cases r <;> first | (exact absurd rfl (no 15 rfl).1) | (exact absurd rfl (no 16 rfl).2.1) | (exact absurd rfl (no 17 rfl).2.2) | (cases vd; done) | skip
      rename_i m
      exact q1 true rfl
theorem sc_law_jumps : FnScope ["hall", "row"] ["hall", "row"] (defScope st_law_jumps) := ⟨rfl, rfl, rfl, by decide +kernel, rfl, by decide +kernel, by decide +kernel⟩
theorem ok_law_jumps (E : Txt K mg) : FnOk P w K mg base (L2.CX P w) 3 (fAd at_law_jumps K) (fdOf at_law_jumps K) ["hall", "row"] (spJump K) := by
  refine FunD.ok E.fd_law_jumps sc_law_jumps (fun vs H Q E0 h => ?_) (fun cdv A outer s H vs Q E0 hr h => ?_)
  · obtain ⟨p, ra, r, h, L, rfl, _⟩ := h
    rfl
  · obtain ⟨p, ra, r, h, L, rfl, A, hra, ok, vd, q1, q2⟩ := h
    refine ⟨_, (pss_cons (ps_if (pt_cmpR op_eq (pe_ix ix_tup (pv 1) pe_int (fun _ _ => rfl)) pe_str (nomark _)) (pss_one (ps_ret (pe_meth (pv 0) E.c_IdealHeap E.m_IdealHeap_same (ok_IdealHeap_same E) (hr.mono (by decide)) E.b_IdealHeap_same .nil (passes_call (takes_of rfl rfl rfl rfl) fun _ _ _ _ h => h) (pa_cons (pe_ix ix_tup (pv 1) pe_int (fun _ _ => rfl)) (pa_cons (pe_ix ix_tup (pv 1) pe_int (fun _ _ => rfl)) pa_nil))))) pss_nil)
      (pss_cons (ps_if (pt_cmpR op_eq (pe_ix ix_tup (pv 1) pe_int (fun _ _ => rfl)) pe_str (nomark _)) (pss_one (ps_ret (pe_cmpR op_lt (pe_meth (pv 0) E.c_IdealHeap E.m_IdealHeap_value (ok_IdealHeap_value E) (hr.mono (by decide)) E.b_IdealHeap_value .nil (passes_call (takes_of rfl rfl rfl rfl) fun _ _ _ _ h => h) (pa_cons (pe_ix ix_tup (pv 1) pe_int (fun _ _ => rfl)) pa_nil)) (pe_meth (pv 0) E.c_IdealHeap E.m_IdealHeap_value (ok_IdealHeap_value E) (hr.mono (by decide)) E.b_IdealHeap_value .nil (passes_call (takes_of rfl rfl rfl rfl) fun _ _ _ _ h => h) (pa_cons (pe_ix ix_tup (pv 1) pe_int (fun _ _ => rfl)) pa_nil)) (nomark _)))) pss_nil)
      (pss_cons (ps_if (pt_cmpR op_eq (pe_ix ix_tup (pv 1) pe_int (fun _ _ => rfl)) pe_str (nomark _)) (pss_one (ps_ret (pe_cmpR op_eq (pe_meth (pv 0) E.c_IdealHeap E.m_IdealHeap_kind (ok_IdealHeap_kind E) (hr.mono (by decide)) E.b_IdealHeap_kind .nil (passes_call (takes_of rfl rfl rfl rfl) fun _ _ _ _ h => h) (pa_cons (pe_ix ix_tup (pv 1) pe_int (fun _ _ => rfl)) pa_nil)) pe_str (nomark _)))) pss_nil)
      (pss_one (ps_ret (pe_cmpR op_eq (pe_ix ix_tup (pv 1) pe_int (fun _ _ => rfl)) pe_str (nomark _))))))), ?_⟩
    dsimp only [cxOf]
    refine ⟨_, rfl, ra, _, 0, .str r.head, rfl, rfl, SqT.of hra, row0, rfl, _, rfl, ifd (fun c => ?_) fun c1 => ?_⟩
    · have ht := tag_of (n := 15) c (by decide +kernel)
      cases r <;> first | (simp [Row.tag] at ht; done) | skip
      rename_i a b m
      exact ⟨_, rfl, p, _, _, rfl, A.ob, (by kernel_rfl), _, rfl, ra, _, 1, .int a, rfl, rfl, SqT.of hra, rfl, _, rfl, ra, _, 2, .int b, rfl, rfl, SqT.of hra, rfl, p, a, b, h, L, rfl, A, ok.1, ok.2.1, q1 _ rfl⟩
    refine ⟨_, rfl, ra, _, 0, .str r.head, rfl, rfl, SqT.of hra, row0, rfl, _, rfl, ifd (fun c => ?_) fun c2 => ?_⟩
    · have ht := tag_of (n := 16) c (by decide +kernel)
      cases r <;> first | (simp [Row.tag] at ht; done) | skip
      rename_i a b m
      have ej : dJump h (.below a b m) = match dValue h a, dValue h b with | .ok x _, .ok y _ => some (decide (x < y)) | _, _ => none := rfl
      refine ⟨_, rfl, p, _, _, rfl, A.ob, (by kernel_rfl), _, rfl, ra, _, 1, .int a, rfl, rfl, SqT.of hra, rfl, p, a, h, L, rfl, A, ok.1, fun x hx => ?_, fun hx => ?_⟩
      · rw [dValue_ok hx] at ej
        refine ⟨_, rfl, p, _, _, rfl, A.ob, (by kernel_rfl), _, rfl, ra, _, 2, .int b, rfl, rfl, SqT.of hra, rfl, p, b, h, L, rfl, A, ok.2.1, fun y hy => ?_, fun hy => ?_⟩
        · rw [dValue_ok hy] at ej
          exact ⟨_, _, rfl, rfl, q1 _ ej⟩
        · rw [dValue_err hy] at ej
          exact q2 ej
      · rw [dValue_err hx] at ej
        exact q2 ej
    refine ⟨_, rfl, ra, _, 0, .str r.head, rfl, rfl, SqT.of hra, row0, rfl, _, rfl, ifd (fun c => ?_) fun c3 => ?_⟩
    · have ht := tag_of (n := 17) c (by decide +kernel)
      cases r <;> first | (simp [Row.tag] at ht; done) | skip
      rename_i a m
      refine ⟨_, rfl, p, _, _, rfl, A.ob, (by kernel_rfl), _, rfl, ra, _, 1, .int a, rfl, rfl, SqT.of hra, rfl, p, a, h, L, rfl, A, ok.1, rfl, ?_⟩
      have e : decide (V.str (h.hand a).kind = V.str "thing") = (h.hand a).thing.isSome := by
        cases h.hand a <;> kernel_rfl
      rw [e]
      exact q1 _ rfl
    · have no : ∀ n, r.tag = n → heads[n]? ≠ some "same" ∧ heads[n]? ≠ some "below" ∧ heads[n]? ≠ some "thing" := fun n e => ⟨fun z => c1 (head_of e z), fun z => c2 (head_of e z), fun z => c3 (head_of e z)⟩
      cases r <;> first | (exact absurd rfl (no 15 rfl).1) | (exact absurd rfl (no 16 rfl).2.1) | (exact absurd rfl (no 17 rfl).2.2) | (cases vd; done) | skip
      rename_i m
      refine ⟨_, rfl, ra, _, 0, .str (Row.go m).head, rfl, rfl, SqT.of hra, row0, rfl, ?_⟩
      have e : decide (V.str (Row.go m).head = V.str "go") = true := by kernel_rfl
      rw [e]
      exact q1 true rfl
theorem sc_said_of : FnScope ["hall", "h", "kind"] ["hall", "h"] (defScope st_said_of) := ⟨rfl, rfl, rfl, by decide +kernel, rfl, by decide +kernel, by decide +kernel⟩
theorem ok_said_of (E : Txt K mg) : FnOk P w K mg base (L2.CX P w) 5 (fAd at_said_of K) (fdOf at_said_of K) ["hall", "h"] (spSaidOf K) := by
  refine FunD.ok E.fd_said_of sc_said_of (fun vs H Q E0 h => ?_) (fun cdv A outer s H vs Q E0 hr h => ?_)
  · obtain ⟨p, i, h, L, rfl, _⟩ := h
    rfl
  · obtain ⟨p, i, h, L, rfl, A, hi, q⟩ := h
    refine ⟨_, (pss_cons (ps_set (i := 2) sc_said_of.nd rfl (Or.inl rfl) (pe_meth (pv 0) E.c_IdealHeap E.m_IdealHeap_kind (ok_IdealHeap_kind E) (hr.mono (by decide)) E.b_IdealHeap_kind .nil (passes_call (takes_of rfl rfl rfl rfl) fun _ _ _ _ h => h) (pa_cons (pv 1) pa_nil)))
      (pss_cons (ps_if (pt_cmpR op_eq (pv 2) pe_str (nomark _)) (pss_one (ps_ret (pe_tup (pa_cons pe_str (pa_cons (pe_meth (pv 0) E.c_IdealHeap E.m_IdealHeap_value (ok_IdealHeap_value E) (hr.mono (by decide)) E.b_IdealHeap_value .nil (passes_call (takes_of rfl rfl rfl rfl) fun _ _ _ _ h => h) (pa_cons (pv 1) pa_nil)) pa_nil))))) pss_nil)
      (pss_cons (ps_if (pt_cmpR op_eq (pv 2) pe_str (nomark _)) (pss_one (ps_ret (pe_tup (pa_cons pe_str (pa_cons (pe_meth (pv 0) E.c_IdealHeap E.m_IdealHeap_fields (ok_IdealHeap_fields E) (hr.mono (by decide)) E.b_IdealHeap_fields .nil (passes_call (takes_of rfl rfl rfl rfl) fun _ _ _ _ h => h) (pa_cons (pv 1) pa_nil)) pa_nil))))) pss_nil)
      (pss_one (ps_ret (pe_tup (pa_cons pe_str pa_nil))))))), ?_⟩
    dsimp only [cxOf]
    refine ⟨_, rfl, p, _, _, rfl, A.ob, (by kernel_rfl), _, rfl, p, i, h, L, rfl, A, hi, ?_⟩
    cases e : h.hand i with
    | non =>
      refine ⟨_, rfl, rfl, _, rfl, iteF ?_⟩
      refine ⟨_, rfl, rfl, _, rfl, iteF ?_⟩
      refine ⟨(Nat.le_of_lt (line1000 (by show _ ≤ _; simp))), fun z hz => ?_⟩
      have q := q z hz
      unfold dSaid at q
      rw [e] at q
      exact q
    | num x =>
      refine ⟨_, rfl, rfl, _, rfl, iteT ?_⟩
      refine ⟨_, rfl, p, _, _, rfl, A.ob, (by kernel_rfl), _, rfl, p, i, h, L, rfl, A, hi, fun y hy => ?_, fun hy => absurd e (hy x)⟩
      rw [e] at hy
      cases hy
      refine ⟨(Nat.le_of_lt (line1000 (by show _ ≤ _; simp))), fun z hz => ?_⟩
      have q := q z hz
      unfold dSaid at q
      rw [e] at q
      exact q
    | thg t =>
      refine ⟨_, rfl, rfl, _, rfl, iteF ?_⟩
      refine ⟨_, rfl, rfl, _, rfl, iteT ?_⟩
      refine ⟨_, rfl, p, _, _, rfl, A.ob, (by kernel_rfl), _, rfl, p, i, h, L, rfl, A, hi, fun t2 th et eg => ?_, fun hn => by rw [e] at hn; cases hn⟩
      rw [e] at et
      cases et
      refine ⟨(Nat.le_of_lt (line1000 (by show _ ≤ _; simp))), fun z hz => ?_⟩
      have q := q z hz
      unfold dSaid at q
      rw [e] at q
      dsimp only at q
      rw [eg] at q
      exact q
theorem sc_law_said : FnScope ["hall", "h", "kind"] ["hall", "h"] (defScope st_law_said) := ⟨rfl, rfl, rfl, by decide +kernel, rfl, by decide +kernel, by decide +kernel⟩
theorem ok_law_said (E : Txt K mg) : FnOk P w K mg base (L2.CX P w) 5 (fAd at_law_said K) (fdOf at_law_said K) ["hall", "h"] (spSaidOf K) := by
  refine FunD.ok E.fd_law_said sc_law_said (fun vs H Q E0 h => ?_) (fun cdv A outer s H vs Q E0 hr h => ?_)
  · obtain ⟨p, i, h, L, rfl, _⟩ := h
    rfl
  · obtain ⟨p, i, h, L, rfl, A, hi, q⟩ := h
    refine ⟨_, (pss_cons (ps_set (i := 2) sc_law_said.nd rfl (Or.inl rfl) (pe_meth (pv 0) E.c_IdealHeap E.m_IdealHeap_kind (ok_IdealHeap_kind E) (hr.mono (by decide)) E.b_IdealHeap_kind .nil (passes_call (takes_of rfl rfl rfl rfl) fun _ _ _ _ h => h) (pa_cons (pv 1) pa_nil)))
      (pss_cons (ps_if (pt_cmpR op_eq (pv 2) pe_str (nomark _)) (pss_one (ps_ret (pe_tup (pa_cons pe_str (pa_cons (pe_meth (pv 0) E.c_IdealHeap E.m_IdealHeap_value (ok_IdealHeap_value E) (hr.mono (by decide)) E.b_IdealHeap_value .nil (passes_call (takes_of rfl rfl rfl rfl) fun _ _ _ _ h => h) (pa_cons (pv 1) pa_nil)) pa_nil))))) pss_nil)
      (pss_cons (ps_if (pt_cmpR op_eq (pv 2) pe_str (nomark _)) (pss_one (ps_ret (pe_tup (pa_cons pe_str (pa_cons (pe_meth (pv 0) E.c_IdealHeap E.m_IdealHeap_fields (ok_IdealHeap_fields E) (hr.mono (by decide)) E.b_IdealHeap_fields .nil (passes_call (takes_of rfl rfl rfl rfl) fun _ _ _ _ h => h) (pa_cons (pv 1) pa_nil)) pa_nil))))) pss_nil)
      (pss_one (ps_ret (pe_tup (pa_cons pe_str pa_nil))))))), ?_⟩
    dsimp only [cxOf]
    refine ⟨_, rfl, p, _, _, rfl, A.ob, (by kernel_rfl), _, rfl, p, i, h, L, rfl, A, hi, ?_⟩
    cases e : h.hand i with
    | non =>
      refine ⟨_, rfl, rfl, _, rfl, iteF ?_⟩
      refine ⟨_, rfl, rfl, _, rfl, iteF ?_⟩
      refine ⟨(Nat.le_of_lt (line1000 (by show _ ≤ _; simp))), fun z hz => ?_⟩
      have q := q z hz
      unfold dSaid at q
      rw [e] at q
      exact q
    | num x =>
      refine ⟨_, rfl, rfl, _, rfl, iteT ?_⟩
      refine ⟨_, rfl, p, _, _, rfl, A.ob, (by kernel_rfl), _, rfl, p, i, h, L, rfl, A, hi, fun y hy => ?_, fun hy => absurd e (hy x)⟩
      rw [e] at hy
      cases hy
      refine ⟨(Nat.le_of_lt (line1000 (by show _ ≤ _; simp))), fun z hz => ?_⟩
      have q := q z hz
      unfold dSaid at q
      rw [e] at q
      exact q
    | thg t =>
      refine ⟨_, rfl, rfl, _, rfl, iteF ?_⟩
      refine ⟨_, rfl, rfl, _, rfl, iteT ?_⟩
      refine ⟨_, rfl, p, _, _, rfl, A.ob, (by kernel_rfl), _, rfl, p, i, h, L, rfl, A, hi, fun t2 th et eg => ?_, fun hn => by rw [e] at hn; cases hn⟩
      rw [e] at et
      cases et
      refine ⟨(Nat.le_of_lt (line1000 (by show _ ≤ _; simp))), fun z hz => ?_⟩
      have q := q z hz
      unfold dSaid at q
      rw [e] at q
      dsimp only at q
      rw [eg] at q
      exact q
end
end Sh
end

section
set_option Elab.async false
set_option linter.all false
set_option maxRecDepth 100000
set_option maxHeartbeats 4000000
/-! A program that runs: what stands in the heap. -/
namespace Sh
open PySem PySem.Spec PyProof.Rows L2
/-- a list of tuples of flat parts -/
structure Tps (H : Hp) (l : List V) (xs : List (List V)) : Prop where
  len : l.length = xs.length
  at_ : ∀ (i : Nat) (v : V) (x : List V), l[i]? = some v → xs[i]? = some x → ∃ a, v = .ref a ∧ H a = some (.tup x)
theorem Tps.mono {H H' : Hp} (k : Tups H H') {l : List V} {xs : List (List V)} (h : Tps H l xs) : Tps H' l xs := ⟨h.len, fun i v x a b => by
  obtain ⟨c, e, d⟩ := h.at_ i v x a b
  exact ⟨c, e, k _ _ d⟩⟩
theorem Tps.get {H : Hp} {l : List V} {xs : List (List V)} (h : Tps H l xs) {i : Nat} {x : List V} (hx : xs[i]? = some x) : ∃ a, l[i]? = some (.ref a) ∧ H a = some (.tup x) := by
  have hi : i < l.length := by rw [h.len]; exact (List.getElem?_eq_some_iff.mp hx).1
  obtain ⟨a, e, d⟩ := h.at_ i _ x (List.getElem?_eq_getElem hi) hx
  exact ⟨a, by rw [List.getElem?_eq_getElem hi, e], d⟩
theorem Tps.snoc {H : Hp} {l : List V} {xs : List (List V)} (h : Tps H l xs) {a : Addr} {x : List V} (ha : H a = some (.tup x)) : Tps H (l ++ [.ref a]) (xs ++ [x]) := by
  refine ⟨by rw [List.length_append, List.length_append, h.len]; rfl, fun i v y h1 h2 => ?_⟩
  by_cases c : i < l.length
  · rw [List.getElem?_append_left c] at h1
    rw [List.getElem?_append_left (by rw [← h.len]; exact c)] at h2
    exact h.at_ i v y h1 h2
  · rw [List.getElem?_append_right (by omega)] at h1
    rw [List.getElem?_append_right (by rw [← h.len]; omega), ← h.len] at h2
    cases e : i - l.length with
    | zero =>
      rw [e] at h1 h2
      cases h1
      cases h2
      exact ⟨a, rfl, ha⟩
    | succ n =>
      rw [e] at h1
      cases h1
structure RS where
  prog : List Row
  spot : Nat
  done : Int
  lines : List (List V)
  broken : Option Err
  h : IH
structure RL where
  p : Addr
  pa : Addr
  pl : Addr
  la : Addr
  dx : Addr
  L : Lay
  kvs : List (Key × V)
  rl : List V
def RS.brV (R : RS) : V := match R.broken with
  | none => .non
  | some e => .str e.nm
def rf (R : RS) (M : RL) : List (Str × V) := [("program", .ref M.pa), ("hall", .ref M.p), ("places", .ref M.pl), ("spot", .int R.spot), ("rows_done", .int R.done), ("lines", .ref M.la), ("broken", R.brV)]
section
variable {R : RS} {M : RL}
theorem rf_program : (rf R M).lookup ("program" : Str) = some (.ref M.pa) := by kernel_rfl
theorem rf_hall : (rf R M).lookup ("hall" : Str) = some (.ref M.p) := by kernel_rfl
theorem rf_places : (rf R M).lookup ("places" : Str) = some (.ref M.pl) := by kernel_rfl
theorem rf_spot : (rf R M).lookup ("spot" : Str) = some (.int R.spot) := by kernel_rfl
theorem rf_rows_done : (rf R M).lookup ("rows_done" : Str) = some (.int R.done) := by kernel_rfl
theorem rf_lines : (rf R M).lookup ("lines" : Str) = some (.ref M.la) := by kernel_rfl
theorem rf_broken : (rf R M).lookup ("broken" : Str) = some R.brV := by kernel_rfl
theorem rf_put_spot {c : Nat} : putF "spot" (.int c) (rf R M) = rf { R with spot := c } M := by kernel_rfl
theorem rf_put_done {c : Int} : putF "rows_done" (.int c) (rf R M) = rf { R with done := c } M := by kernel_rfl
theorem rf_put_broken {e : Err} : putF "broken" (.str e.nm) (rf R M) = rf { R with broken := some e } M := by kernel_rfl
theorem rf_len : (rf R M).length < 1000 := by show 7 < 1000; decide
end
def CR (K : PySem.W.Frag) : Addr := He.ga K "Running"
/-- the place of a mark -/
def markAt (prog : List Row) (m : Str) : Option Nat := prog.findIdx? fun r => decide (r = .mark m)
structure Rows (prog : List Row) : Prop where
  ok : ∀ r ∈ prog, r.Ok
  goal : ∀ r ∈ prog, r.jumps = true → Row.mark r.goal ∈ prog
  len : prog.length ≤ 200
structure RunAt (K : PySem.W.Frag) (H : Hp) (rr : Addr) (R : RS) (M : RL) : Prop where
  ob : H rr = some (.ins (CR K) M.dx (rf R M))
  pr : H M.pa = some (.tup M.rl)
  rs : Tps H M.rl (R.prog.map Row.parts)
  pl : H M.pl = some (.dK M.kvs)
  pk : ∀ m, valV M.kvs (Sum.inr m) = (markAt R.prog m).map fun (i : Nat) => V.int i
  li : ∃ ll, H M.la = some (.lst ll) ∧ Tps H ll R.lines
  hall : At K H M.p R.h M.L
  n1 : ¬ fp M.p M.L R.h.kept rr
  n2 : ¬ fp M.p M.L R.h.kept M.la
  n3 : ¬ fp M.p M.L R.h.kept M.pl
  rows : Rows R.prog
def rfp (rr : Addr) (M : RL) (kept : List (Int × Thing)) (b : Addr) : Prop := b = rr ∨ b = M.la ∨ fp M.p M.L kept b
structure RFr (rr : Addr) (M : RL) (kept : List (Int × Thing)) (H : Hp) (M' : RL) (kept' : List (Int × Thing)) (H' : Hp) : Prop where
  keep : ∀ b o, H b = some o → ¬ rfp rr M kept b → H' b = some o
  new : ∀ b, rfp rr M' kept' b → rfp rr M kept b ∨ H b = none
theorem RFr.trans {rr : Addr} {M M1 M2 : RL} {k k1 k2 : List (Int × Thing)} {H H1 H2 : Hp} (a : RFr rr M k H M1 k1 H1) (b : RFr rr M1 k1 H1 M2 k2 H2) : RFr rr M k H M2 k2 H2 := by
  refine ⟨fun x o e n => b.keep x o (a.keep x o e n) fun f => ?_, fun x f => ?_⟩
  · rcases a.new x f with z | z
    · exact n z
    · rw [e] at z
      cases z
  · rcases b.new x f with z | z
    · exact a.new x z
    · by_cases c : rfp rr M k x
      · exact Or.inl c
      · cases e : H x with
        | none => exact Or.inr rfl
        | some o =>
          rw [a.keep x o e c] at z
          cases z
theorem RFr.same {rr : Addr} {M : RL} {k : List (Int × Thing)} {H H' : Hp} (s : Same H H') : RFr rr M k H M k H' := ⟨fun b o e _ => s b o e, fun _ h => Or.inl h⟩
section
variable {K : PySem.W.Frag} {H H' : Hp} {rr : Addr} {R : RS} {M : RL}
theorem RunAt.keep (A : RunAt K H rr R M) (k : ∀ b o, H b = some o → rfp rr M R.h.kept b ∨ b = M.pl → H' b = some o) (t : Tups H H') : RunAt K H' rr R M := by
  obtain ⟨ll, l1, l2⟩ := A.li
  exact ⟨k _ _ A.ob (Or.inl (Or.inl rfl)), t _ _ A.pr, A.rs.mono t, k _ _ A.pl (Or.inr rfl), A.pk, ⟨ll, k _ _ l1 (Or.inl (Or.inr (Or.inl rfl))), l2.mono t⟩, ⟨A.hall.toAtR.keep (fun b o e f => k b o e (Or.inl (Or.inr (Or.inr f)))) t, A.hall.wf⟩, A.n1, A.n2, A.n3, A.rows⟩
theorem RunAt.same (A : RunAt K H rr R M) (s : Same H H') : RunAt K H' rr R M := A.keep (fun b o e _ => s b o e) (Tups.of s)
theorem RunAt.notup (A : RunAt K H rr R M) {b : Addr} (f : rfp rr M R.h.kept b) (xs : List V) : H b ≠ some (.tup xs) := by
  rcases f with z | z | z
  · rw [z, A.ob]
    intro e
    cases e
  · obtain ⟨ll, l1, _⟩ := A.li
    rw [z, l1]
    intro e
    cases e
  · exact A.hall.toAtR.notup z xs
theorem RunAt.there (A : RunAt K H rr R M) {b : Addr} (f : rfp rr M R.h.kept b) : H b ≠ none := by
  rcases f with z | z | z
  · rw [z, A.ob]
    intro e
    cases e
  · obtain ⟨ll, l1, _⟩ := A.li
    rw [z, l1]
    intro e
    cases e
  · exact A.hall.toAtR.there z
theorem RFr.tups {M' : RL} {k' : List (Int × Thing)} (F : RFr rr M R.h.kept H M' k' H') (A : RunAt K H rr R M) : Tups H H' := fun b xs e => F.keep b _ e fun f => A.notup f xs e
/-- the hall did a deed -/
theorem RunAt.deed (A : RunAt K H rr R M) {h' : IH} {L' : Lay} (B : At K H' M.p h' L') (F : Fr M.p M.L R.h.kept H L' h'.kept H') : RunAt K H' rr { R with h := h' } { M with L := L' } ∧ RFr rr M R.h.kept H { M with L := L' } h'.kept H' := by
  have t := F.tups A.hall.toAtR
  have nw : ∀ b, H b ≠ none → ¬ fp M.p M.L R.h.kept b → ¬ fp M.p L' h'.kept b := fun b e n f => (F.new b f).elim n e
  obtain ⟨ll, l1, l2⟩ := A.li
  refine ⟨⟨F.keep _ _ A.ob A.n1, t _ _ A.pr, A.rs.mono t, F.keep _ _ A.pl A.n3, A.pk, ⟨ll, F.keep _ _ l1 A.n2, l2.mono t⟩, B, ?_, ?_, ?_, A.rows⟩, ⟨fun b o e n => F.keep b o e fun f => n (Or.inr (Or.inr f)), fun b f => ?_⟩⟩
  · exact nw _ (by rw [A.ob]; intro z; cases z) A.n1
  · exact nw _ (by rw [l1]; intro z; cases z) A.n2
  · exact nw _ (by rw [A.pl]; intro z; cases z) A.n3
  · rcases f with z | z | z
    · exact Or.inl (Or.inl z)
    · exact Or.inl (Or.inr (Or.inl z))
    · exact (F.new b z).imp (fun y => Or.inr (Or.inr y)) id
/-- the running's own fields change -/
theorem RunAt.set (A : RunAt K H rr R M) (R' : RS) (e1 : R'.prog = R.prog) (e2 : R'.lines = R.lines) (e3 : R'.h = R.h) : RunAt K (upd H rr (.ins (CR K) M.dx (rf R' M))) rr R' M ∧ RFr rr M R.h.kept H M R'.h.kept (upd H rr (.ins (CR K) M.dx (rf R' M))) := by
  have t : Tups H (upd H rr (.ins (CR K) M.dx (rf R' M))) := Tups.upd A.ob fun _ z => by cases z
  obtain ⟨ll, l1, l2⟩ := A.li
  refine ⟨⟨upd_same, t _ _ A.pr, by rw [e1]; exact A.rs.mono t, ?_, by rw [e1]; exact A.pk, ⟨ll, ?_, by rw [e2]; exact l2.mono t⟩, ?_, by rw [e3]; exact A.n1, by rw [e3]; exact A.n2, by rw [e3]; exact A.n3, by rw [e1]; exact A.rows⟩, ⟨fun b o e n => ?_, fun b f => Or.inl (by rw [← e3]; exact f)⟩⟩
  · rw [upd_ne (ne_of A.pl A.ob fun z => by cases z)]
    exact A.pl
  · rw [upd_ne (ne_of l1 A.ob fun z => by cases z)]
    exact l1
  · rw [e3]
    exact ⟨A.hall.toAtR.keep (fun b o e f => by rw [upd_ne fun z => A.n1 (by rw [← z]; exact f)]; exact e) t, A.hall.wf⟩
  · rw [upd_ne fun z => n (Or.inl z)]
    exact e
/-- a line is said -/
theorem RunAt.line (A : RunAt K H rr R M) {ll : List V} (l1 : H M.la = some (.lst ll)) (l2 : Tps H ll R.lines) {a : Addr} {x : List V} (ha : H a = some (.tup x)) :
    RunAt K (upd H M.la (.lst (ll ++ [.ref a]))) rr { R with lines := R.lines ++ [x] } M ∧ RFr rr M R.h.kept H M R.h.kept (upd H M.la (.lst (ll ++ [.ref a]))) := by
  have t : Tups H (upd H M.la (.lst (ll ++ [.ref a]))) := Tups.upd l1 fun _ z => by cases z
  refine ⟨⟨?_, t _ _ A.pr, A.rs.mono t, ?_, A.pk, ⟨_, upd_same, (l2.snoc ha).mono t⟩, ?_, A.n1, A.n2, A.n3, A.rows⟩, ⟨fun b o e n => ?_, fun b f => Or.inl f⟩⟩
  · rw [upd_ne (ne_of A.ob l1 fun z => by cases z)]
    exact A.ob
  · rw [upd_ne (ne_of A.pl l1 fun z => by cases z)]
    exact A.pl
  · exact ⟨A.hall.toAtR.keep (fun b o e f => by rw [upd_ne fun z => A.n2 (by rw [← z]; exact f)]; exact e) t, A.hall.wf⟩
  · rw [upd_ne fun z => n (Or.inr (Or.inl z))]
    exact e
end
def RS.at (R : RS) : Option Int := if R.broken = none ∧ R.spot < R.prog.length then some (R.spot : Int) else none
section
variable {P : Program} {w : World} {K : PySem.W.Frag} {mg : Str → Option Value} {base : Heap}
def spAt (K : PySem.W.Frag) : Sp := fun vs H Q _ => ∃ (rr : Addr) (R : RS) (M : RL), vs = [.ref rr] ∧ RunAt K H rr R M ∧ Q (oV R.at) H
theorem sc_Running_at : FnScope ["self"] ["self"] (defScope st_Running_at) := ⟨rfl, rfl, rfl, by decide +kernel, rfl, by decide +kernel, by decide +kernel⟩
theorem ok_Running_at (E : Txt K mg) : FnOk P w K mg base CX0 1 (fAd at_Running_at K) (fdOf at_Running_at K) ["self"] (spAt K) := by
  refine FunD.ok0 E.fd_Running_at sc_Running_at (fun vs H Q E0 h => ?_) (fun cdv A outer s H vs Q E0 hr h => ?_)
  · obtain ⟨rr, R, M, rfl, _⟩ := h
    rfl
  · obtain ⟨rr, R, M, rfl, A, q⟩ := h
    refine ⟨_, (pss_cons (ps_if (PW.pt (pw_or (pt_cmpR op_notN (pe_fld (pv 0) rfl) pe_non (nomark _)) (pw_or1 (pt_cmpR op_ge (pe_fld (pv 0) rfl) (pe_callB call_len (by rfl) E.f_len PySem.boot_len (pa_cons (pe_fld (pv 0) rfl) pa_nil)) (nomark _))))) (pss_one (ps_ret pe_non)) pss_nil)
      (pss_one (ps_ret (pe_fld (pv 0) rfl)))), ?_⟩
    dsimp only [cxOf]
    have pl : M.rl.length = R.prog.length := by rw [A.rs.len, List.length_map]
    refine ⟨_, rfl, rr, _, _, _, _, rfl, A.ob, E.c_Running, E.n_Running_broken, rf_broken, rfl, _, rfl, ?_⟩
    unfold RS.at at q
    unfold RS.brV
    cases e : R.broken with
    | some x =>
      rw [if_neg (fun z => by rw [e] at z; cases z.1)] at q
      exact iteT (iteT q)
    | none =>
      refine iteF ⟨_, rfl, rr, _, _, _, _, rfl, A.ob, E.c_Running, E.n_Running_spot, rf_spot, _, rfl, rr, _, _, _, _, rfl, A.ob, E.c_Running, E.n_Running_program, rf_program, _, _, rfl, Or.inr ⟨_, SqT.of A.pr, rfl⟩, _, _, rfl, rfl, _, rfl, ifd (fun c => ?_) fun c => ?_⟩
      · rw [if_neg (fun z => by have := z.2; omega)] at q
        exact q
      · rw [if_pos ⟨e, by omega⟩] at q
        exact ⟨_, rfl, rr, _, _, _, _, rfl, A.ob, E.c_Running, E.n_Running_spot, rf_spot, q⟩
def spTold (K : PySem.W.Frag) : Sp := fun vs H Q _ => ∃ (rr : Addr) (R : RS) (M : RL), vs = [.ref rr] ∧ RunAt K H rr R M ∧ ∀ ll q, Tps H ll R.lines → H q = none → Q (.ref q) (upd H q (.lst ll))
theorem sc_Running_told : FnScope ["self"] ["self"] (defScope st_Running_told) := ⟨rfl, rfl, rfl, by decide +kernel, rfl, by decide +kernel, by decide +kernel⟩
theorem ok_Running_told (E : Txt K mg) : FnOk P w K mg base CX0 1 (fAd at_Running_told K) (fdOf at_Running_told K) ["self"] (spTold K) := by
  refine FunD.ok0 E.fd_Running_told sc_Running_told (fun vs H Q E0 h => ?_) (fun cdv A outer s H vs Q E0 hr h => ?_)
  · obtain ⟨rr, R, M, rfl, _⟩ := h
    rfl
  · obtain ⟨rr, R, M, rfl, A, q⟩ := h
    refine ⟨_, (pss_one (ps_ret (pe_callTy call_list_of (by rfl) E.f_list (by decide +kernel) (pa_cons (pe_fld (pv 0) rfl) pa_nil)))), ?_⟩
    obtain ⟨ll, l1, l2⟩ := A.li
    exact ⟨_, rfl, rr, _, _, _, _, rfl, A.ob, E.c_Running, E.n_Running_lines, rf_lines, M.la, ll, rfl, Or.inl (SqL.of l1), fun l hl => q ll l l2 hl⟩
def spFault (K : PySem.W.Frag) : Sp := fun vs H Q _ => ∃ (rr : Addr) (R : RS) (M : RL), vs = [.ref rr] ∧ RunAt K H rr R M ∧ Q R.brV H
theorem sc_Running_fault : FnScope ["self"] ["self"] (defScope st_Running_fault) := ⟨rfl, rfl, rfl, by decide +kernel, rfl, by decide +kernel, by decide +kernel⟩
theorem ok_Running_fault (E : Txt K mg) : FnOk P w K mg base CX0 1 (fAd at_Running_fault K) (fdOf at_Running_fault K) ["self"] (spFault K) := by
  refine FunD.ok0 E.fd_Running_fault sc_Running_fault (fun vs H Q E0 h => ?_) (fun cdv A outer s H vs Q E0 hr h => ?_)
  · obtain ⟨rr, R, M, rfl, _⟩ := h
    rfl
  · obtain ⟨rr, R, M, rfl, A, q⟩ := h
    refine ⟨_, (pss_one (ps_ret (pe_fld (pv 0) rfl))), ?_⟩
    exact ⟨_, rfl, rr, _, _, _, _, rfl, A.ob, E.c_Running, E.n_Running_broken, rf_broken, q⟩
def spSteps (K : PySem.W.Frag) : Sp := fun vs H Q _ => ∃ (rr : Addr) (R : RS) (M : RL), vs = [.ref rr] ∧ RunAt K H rr R M ∧ Q (.int R.done) H
theorem sc_Running_steps : FnScope ["self"] ["self"] (defScope st_Running_steps) := ⟨rfl, rfl, rfl, by decide +kernel, rfl, by decide +kernel, by decide +kernel⟩
theorem ok_Running_steps (E : Txt K mg) : FnOk P w K mg base CX0 1 (fAd at_Running_steps K) (fdOf at_Running_steps K) ["self"] (spSteps K) := by
  refine FunD.ok0 E.fd_Running_steps sc_Running_steps (fun vs H Q E0 h => ?_) (fun cdv A outer s H vs Q E0 hr h => ?_)
  · obtain ⟨rr, R, M, rfl, _⟩ := h
    rfl
  · obtain ⟨rr, R, M, rfl, A, q⟩ := h
    refine ⟨_, (pss_one (ps_ret (pe_fld (pv 0) rfl))), ?_⟩
    exact ⟨_, rfl, rr, _, _, _, _, rfl, A.ob, E.c_Running, E.n_Running_rows_done, rf_rows_done, q⟩
end
end Sh
end

section
set_option Elab.async false
set_option linter.all false
set_option maxRecDepth 100000
set_option maxHeartbeats 4000000
/-! A row is done; a step. -/
namespace Sh
open PySem PySem.Spec PyProof.Rows L2
noncomputable def RS.next (R : RS) (r : Row) : Nat := if (one R.h r).jmp then (markAt R.prog r.goal).getD 0 else R.spot + 1
noncomputable def RS.rowDone (R : RS) (r : Row) : RS := { R with spot := R.next r, lines := R.lines ++ (one R.h r).said.toList, h := (one R.h r).h }
theorem no_stop {r : Row} : ¬ V.str r.head = V.str "stop" := fun c => by
  have ht := tag_of (n := 19) c (by decide +kernel)
  cases r <;> (simp [Row.tag] at ht)
theorem in_jumps (r : Row) : inV (.str r.head) [.str "go", .str "same", .str "below", .str "thing"] = r.jumps := by
  cases r <;> kernel_rfl
theorem markAt_some {prog : List Row} {m : Str} (h : Row.mark m ∈ prog) : ∃ i, markAt prog m = some i ∧ i < prog.length := by
  unfold markAt
  cases e : prog.findIdx? fun r => decide (r = .mark m) with
  | none =>
    have := List.findIdx?_eq_none_iff.mp e _ h
    simp at this
  | some i => exact ⟨i, rfl, (List.findIdx?_eq_some_iff_getElem.mp e).1⟩
theorem last_goal {r : Row} (h : r.jumps = true) : atI r.parts (-1) = some (.str r.goal) := by
  cases r <;> first | (cases h; done) | rfl
section
variable {P : Program} {w : World} {K : PySem.W.Frag} {mg : Str → Option Value} {base : Heap}
def spDoRow (K : PySem.W.Frag) : Sp := fun vs H Q E => ∃ (rr ra : Addr) (r : Row) (R : RS) (M : RL), vs = [.ref rr, .ref ra] ∧ RunAt K H rr R M ∧ H ra = some (.tup r.parts) ∧ r ∈ R.prog ∧ R.h.count ≤ 10000 ∧ R.lines.length ≤ 10000 ∧
  ((one R.h r).flt = none → ∀ H' L', RunAt K H' rr (R.rowDone r) { M with L := L' } → RFr rr M R.h.kept H { M with L := L' } (R.rowDone r).h.kept H' → Q .non H') ∧
  (∀ e, (one R.h r).flt = some e → ∀ H' L', RunAt K H' rr { R with h := (one R.h r).h } { M with L := L' } → RFr rr M R.h.kept H { M with L := L' } (one R.h r).h.kept H' → E (.ref (eAd K e)) none H')
theorem sc_Running_do_row : FnScope ["self", "row", "behind"] ["self", "row"] (defScope st_Running_do_row) := ⟨rfl, rfl, rfl, by decide +kernel, rfl, by decide +kernel, by decide +kernel⟩
theorem ok_Running_do_row (E : Txt K mg) : FnOk P w K mg base (L2.CX P w) 9 (fAd at_Running_do_row K) (fdOf at_Running_do_row K) ["self", "row"] (spDoRow K) := by
  refine FunD.ok E.fd_Running_do_row sc_Running_do_row (fun vs H Q E0 h => ?_) (fun cdv A outer s H vs Q E0 hr h => ?_)
  · obtain ⟨rr, ra, r, R, M, rfl, _⟩ := h
    rfl
  · obtain ⟨rr, ra, r, R, M, rfl, A, hra, rm, hc, hl, q1, q2⟩ := h
    refine ⟨_, (pss_cons (ps_set (i := 2) sc_Running_do_row.nd rfl (Or.inl rfl) (pe_op op_add (pe_fld (pv 0) rfl) pe_int))
      (pss_cons (ps_if (pt_cmpR op_eq (pe_ix ix_tup (pv 1) pe_int (fun _ _ => rfl)) pe_str (nomark _)) (pss_one (ps_expr (pe_bm PySem.F.plainAttrs_list PySem.F.slot_list_append PySem.F.type_list_append mt_append (pe_fld (pv 0) rfl) (pa_cons (pe_call (ok_said_of E) (hr.mono (by decide)) (by rfl) E.g_said_of E.fd_said_of.kp E.b_said_of .nil (passes_call (takes_of rfl rfl rfl rfl) fun _ _ _ _ h => h) (pa_cons (pe_fld (pv 0) rfl) (pa_cons (pe_ix ix_tup (pv 1) pe_int (fun _ _ => rfl)) pa_nil))) pa_nil)))) (pss_one (ps_if (pt_cmpR op_eq (pe_ix ix_tup (pv 1) pe_int (fun _ _ => rfl)) pe_str (nomark _)) (pss_one (ps_set (i := 2) sc_Running_do_row.nd rfl (Or.inl rfl) (pe_callB call_len (by rfl) E.f_len PySem.boot_len (pa_cons (pe_fld (pv 0) rfl) pa_nil)))) (pss_one (ps_if (pt_cmpR op_in_seq (pe_ix ix_tup (pv 1) pe_int (fun _ _ => rfl)) (pe_tup (pa_cons pe_str (pa_cons pe_str (pa_cons pe_str (pa_cons pe_str pa_nil))))) (by with_unfolding_all rfl)) (pss_one (ps_if (pt_val (pe_call (ok_goes_on E) (hr.mono (by decide)) (by rfl) E.g_goes_on E.fd_goes_on.kp E.b_goes_on .nil (passes_call (takes_of rfl rfl rfl rfl) fun _ _ _ _ h => h) (pa_cons (pe_fld (pv 0) rfl) (pa_cons (pv 1) pa_nil)))) (pss_one (ps_set (i := 2) sc_Running_do_row.nd rfl (Or.inl rfl) (pe_dget (hu_of hr) (pe_fld (pv 0) rfl) (pe_ix ix_tup (pv 1) (pe_un un_neg pe_int) (fun _ _ => rfl)) (fun _ _ => rfl)))) pss_nil)) (pss_one (ps_if (pt_cmpR op_ne (pe_ix ix_tup (pv 1) pe_int (fun _ _ => rfl)) pe_str (nomark _)) (pss_one (ps_expr (pe_call (ok_do_plain E) (hr.mono (by decide)) (by rfl) E.g_do_plain E.fd_do_plain.kp E.b_do_plain .nil (passes_call (takes_of rfl rfl rfl rfl) fun _ _ _ _ h => h) (pa_cons (pe_fld (pv 0) rfl) (pa_cons (pv 1) pa_nil))))) pss_nil)))))))
      (pss_one (ps_fld (pv 0) (pv 2) rfl)))), ?_⟩
    dsimp only [cxOf]
    have rok := A.rows.ok r rm
    refine ⟨_, rfl, rr, _, _, _, _, rfl, A.ob, E.c_Running, E.n_Running_spot, rf_spot, _, _, rfl, rfl, ?_⟩
    refine ⟨_, rfl, ra, _, 0, .str r.head, rfl, rfl, SqT.of hra, row0, rfl, _, rfl, ifd (fun c => ?_) fun c1 => ?_⟩
    · have ht := tag_of (n := 13) c (by decide +kernel)
      cases r <;> first | (simp [Row.tag] at ht; done) | skip
      rename_i a
      have q1 := q1 rfl
      obtain ⟨l0, l01, _⟩ := A.li
      refine ⟨_, rfl, rr, _, _, _, _, rfl, A.ob, E.c_Running, E.n_Running_lines, rf_lines, Or.inl ⟨rfl, _, Or.inl (Or.inl l01)⟩, _, rfl, rr, _, _, _, _, rfl, A.ob, E.c_Running, E.n_Running_hall, rf_hall, _, rfl, ra, _, 1, .int a, rfl, rfl, SqT.of hra, rfl, M.p, a, R.h, M.L, rfl, A.hall, rok, fun z hz => ?_⟩
      have s1 : Same H (upd H z (.tup (dSaid R.h a))) := upd_same_of_none hz
      have A1 := A.same s1
      have hz1 : (upd H z (.tup (dSaid R.h a))) z = some (.tup (dSaid R.h a)) := upd_same
      generalize upd H z (.tup (dSaid R.h a)) = H1 at s1 A1 hz1 ⊢
      obtain ⟨ll, l1, l2⟩ := A1.li
      obtain ⟨A2, F2⟩ := A1.line l1 l2 hz1
      refine ⟨M.la, ll, _, rfl, rfl, l1, line1000 (by rw [l2.len]; omega), ?_⟩
      refine ⟨_, rfl, _, rfl, rr, _, _, _, rfl, A2.ob, E.c_Running, E.n_Running_spot, rf_len, ?_⟩
      have es : ((R.spot : Int) + 1) = ((R.spot + 1 : Nat) : Int) := by omega
      dsimp only
      rw [es, rf_put_spot]
      obtain ⟨A3, F3⟩ := A2.set { R with lines := R.lines ++ [dSaid R.h a], spot := R.spot + 1 } rfl rfl rfl
      exact q1 _ M.L A3 ((RFr.same s1).trans (F2.trans F3))
    refine ⟨_, rfl, ra, _, 0, .str r.head, rfl, rfl, SqT.of hra, row0, rfl, _, rfl, ifd (fun c => absurd c no_stop) fun c2 => ?_⟩
    refine ⟨_, rfl, ra, _, 0, .str r.head, rfl, rfl, SqT.of hra, row0, ⟨by decide, fun z hz => ?_⟩⟩
    have s1 : Same H (upd H z (.tup [.str "go", .str "same", .str "below", .str "thing"])) := upd_same_of_none hz
    refine ⟨z, _, rfl, Or.inr (SqT.of upd_same), rfl, rfl, _, rfl, ?_⟩
    show if inV (.str r.head) [.str "go", .str "same", .str "below", .str "thing"] = true then _ else _
    rw [in_jumps]
    generalize upd H z (.tup [.str "go", .str "same", .str "below", .str "thing"]) = H1 at s1 ⊢
    have A1 := A.same s1
    have hra1 := s1 _ _ hra
    have vs' : r.jumps = true → (r.valued || r.simple) = false := fun j => by cases r <;> first | rfl | (cases j; done)
    cases ej : r.jumps with
    | true =>
      have eone : one R.h r = match dJump R.h r with | some b => ⟨none, none, b, R.h⟩ | none => ⟨some .badHand, none, false, R.h⟩ := by
        cases r <;> first | (cases ej; done) | rfl
      refine iteT ⟨_, rfl, rr, _, _, _, _, rfl, A1.ob, E.c_Running, E.n_Running_hall, rf_hall, _, rfl, M.p, ra, r, R.h, M.L, rfl, A1.hall, hra1, rok, ej, fun b hb => ?_, fun hb => ?_⟩
      · rw [hb] at eone
        dsimp only at eone
        have e1 : (R.rowDone r).h = R.h := by unfold RS.rowDone; rw [eone]
        have e2 : (R.rowDone r).lines = R.lines := by unfold RS.rowDone; rw [eone]; simp
        have q1 := q1 (by rw [eone])
        cases b with
        | true =>
          obtain ⟨i, hi, _⟩ := markAt_some (A.rows.goal r rm ej)
          have dg : DGet H1 M.pl (.str r.goal) (some (V.int i)) := by
            have := DGet.k (k := Sum.inr r.goal) A1.pl
            rw [A1.pk, hi] at this
            exact this
          refine ⟨_, rfl, iteT ⟨_, rfl, rr, _, _, _, _, rfl, A1.ob, E.c_Running, E.n_Running_places, rf_places, _, rfl, 1, rfl, ra, _, _, _, rfl, rfl, SqT.of hra1, last_goal ej, M.pl, _, rfl, dg, ?_⟩⟩
          refine ⟨_, rfl, _, rfl, rr, _, _, _, rfl, A1.ob, E.c_Running, E.n_Running_spot, rf_len, ?_⟩
          rw [rf_put_spot]
          have e3 : (R.rowDone r).spot = i := by
            show R.next r = i
            unfold RS.next
            rw [eone, hi]
            rfl
          have e4 : ({ R with spot := i } : RS) = R.rowDone r := by
            rw [← e3]
            unfold RS.rowDone
            rw [eone]
            simp
          obtain ⟨A3, F3⟩ := A1.set (R.rowDone r) rfl e2 e1
          rw [e4]
          exact q1 _ M.L A3 ((RFr.same s1).trans F3)
        | false =>
          refine ⟨_, rfl, iteF ⟨_, rfl, _, rfl, rr, _, _, _, rfl, A1.ob, E.c_Running, E.n_Running_spot, rf_len, ?_⟩⟩
          have es : ((R.spot : Int) + 1) = ((R.spot + 1 : Nat) : Int) := by omega
          dsimp only
          rw [es, rf_put_spot]
          have e3 : (R.rowDone r).spot = R.spot + 1 := by
            show R.next r = _
            unfold RS.next
            rw [eone]
            rfl
          have e4 : ({ R with spot := R.spot + 1 } : RS) = R.rowDone r := by
            rw [← e3]
            unfold RS.rowDone
            rw [eone]
            simp
          obtain ⟨A3, F3⟩ := A1.set (R.rowDone r) rfl e2 e1
          rw [e4]
          exact q1 _ M.L A3 ((RFr.same s1).trans F3)
      · rw [hb] at eone
        dsimp only at eone
        have q2 := q2 .badHand (by rw [eone]) H1 M.L
        rw [eone] at q2
        exact q2 A1 (RFr.same s1)
    | false =>
      refine iteF ⟨_, rfl, ra, _, 0, .str r.head, rfl, rfl, SqT.of hra1, row0, rfl, _, rfl, ifnd (fun c => ?_) fun c => ?_⟩
      · have dd : (r.valued || r.simple) = true := by
          have no : ∀ n, r.tag = n → heads[n]? ≠ some "mark" ∧ heads[n]? ≠ some "say" := fun n e => ⟨fun z => c (head_of e z), fun z => c1 (head_of e z)⟩
          cases r <;> first | rfl | (cases ej; done) | (exact absurd rfl (no 18 rfl).1) | (exact absurd rfl (no 13 rfl).2)
        have eone : one R.h r = match dDeed R.h r with | .ok _ g => ⟨none, none, false, g⟩ | .err e g => ⟨some e, none, false, g⟩ := if_pos dd
        refine ⟨_, rfl, rr, _, _, _, _, rfl, A1.ob, E.c_Running, E.n_Running_hall, rf_hall, _, rfl, M.p, ra, r, R.h, M.L, rfl, A1.hall, hra1, rok, dd, hc, ?_⟩
        cases ed : dDeed R.h r with
        | ok u g =>
          rw [ed] at eone
          dsimp only at eone
          have q1 := q1 (by rw [eone])
          intro H' L' A' F'
          obtain ⟨A2, F2⟩ := A1.deed A' F'
          refine ⟨_, rfl, _, rfl, rr, _, _, _, rfl, A2.ob, E.c_Running, E.n_Running_spot, rf_len, ?_⟩
          have es : ((R.spot : Int) + 1) = ((R.spot + 1 : Nat) : Int) := by omega
          dsimp only
          rw [es, rf_put_spot]
          have e4 : ({ R with h := g, spot := R.spot + 1 } : RS) = R.rowDone r := by
            unfold RS.rowDone RS.next
            rw [eone]
            simp
          obtain ⟨A3, F3⟩ := A2.set (R.rowDone r) rfl (by rw [← e4]) (by rw [← e4])
          rw [← e4] at A3 F3
          rw [← e4] at q1
          exact q1 _ L' A3 ((RFr.same s1).trans (F2.trans F3))
        | err e g =>
          rw [ed] at eone
          dsimp only at eone
          have q2 := q2 e (by rw [eone])
          rw [eone] at q2
          intro H' L' A' F'
          obtain ⟨A2, F2⟩ := A1.deed A' F'
          exact q2 _ L' A2 ((RFr.same s1).trans F2)
      · have ht := tag_of (n := 18) c (by decide +kernel)
        cases r <;> first | (simp [Row.tag] at ht; done) | skip
        rename_i m
        have q1 := q1 rfl
        refine ⟨_, rfl, _, rfl, rr, _, _, _, rfl, A1.ob, E.c_Running, E.n_Running_spot, rf_len, ?_⟩
        have es : ((R.spot : Int) + 1) = ((R.spot + 1 : Nat) : Int) := by omega
        dsimp only
        rw [es, rf_put_spot]
        have e4 : ({ R with spot := R.spot + 1 } : RS) = R.rowDone (.mark m) := by
          show _ = ({ R with spot := R.spot + 1, lines := R.lines ++ [], h := R.h } : RS)
          rw [List.append_nil]
        obtain ⟨A3, F3⟩ := A1.set (R.rowDone (.mark m)) rfl (by rw [← e4]) (by rw [← e4])
        rw [e4]
        exact q1 _ M.L A3 ((RFr.same s1).trans F3)
end
end Sh
end

section
set_option Elab.async false
set_option linter.all false
set_option maxRecDepth 100000
set_option maxHeartbeats 4000000
/-! A step, and the law's own doing of a row. -/
namespace Sh
open PySem PySem.Spec PyProof.Rows L2
theorem ps_fldK {X : Cx} {K : PySem.W.Frag} {o value : Expr} {f : Str} {ta tv : TE} {pos pos' : Pos} (hK : X.K = K) (ha : PE X o ta) (hv : PE X value tv) (hs : swapsWith value (some (.Attribute o f pos')) pos.line X.env = pure false) : PS X (.Assign [.Attribute o f pos'] value pos) (sFld K ta tv f) := by
  subst hK
  exact ps_fld ha hv hs
noncomputable def RS.stepped (R : RS) (r : Row) : RS := match (one R.h r).flt with
  | none => { R.rowDone r with done := R.done + 1 }
  | some e => { R with h := (one R.h r).h, done := R.done + 1, broken := some e }
section
variable {P : Program} {w : World} {K : PySem.W.Frag} {mg : Str → Option Value} {base : Heap}
theorem exmErr (E : Txt K mg) : ∀ e : Err, PySem.W.exmOne K (.ref (eAd K e)) (.ref (He.ga K "HeapError")) = some true
  | .badHand => E.e_BadHand
  | .badName => E.e_BadName
  | .badField => E.e_BadField
  | .badCount => E.e_BadCount
  | .noRoom => E.e_NoRoom
  | .tooMany => E.e_TooManyWords
def spStep (K : PySem.W.Frag) : Sp := fun vs H Q _ => ∃ (rr : Addr) (R : RS) (M : RL), vs = [.ref rr] ∧ RunAt K H rr R M ∧ R.h.count ≤ 10000 ∧ R.lines.length ≤ 10000 ∧ (R.at = none → Q (.bl false) H) ∧
  (∀ r, R.broken = none → R.prog[R.spot]? = some r → ∀ H' L', RunAt K H' rr (R.stepped r) { M with L := L' } → RFr rr M R.h.kept H { M with L := L' } (R.stepped r).h.kept H' → Q (.bl (R.stepped r).at.isSome) H')
theorem at_V (o : Option Int) : (!decide (oV o = V.non)) = o.isSome := by
  cases o <;> rfl
theorem sc_Running_step : FnScope ["self", "e"] ["self"] (defScope st_Running_step) := ⟨rfl, rfl, rfl, by decide +kernel, rfl, by decide +kernel, by decide +kernel⟩
theorem ok_Running_step (E : Txt K mg) : FnOk P w K mg base CX0 10 (fAd at_Running_step K) (fdOf at_Running_step K) ["self"] (spStep K) := by
  refine FunD.ok0 E.fd_Running_step sc_Running_step (fun vs H Q E0 h => ?_) (fun cdv A outer s H vs Q E0 hr h => ?_)
  · obtain ⟨rr, R, M, rfl, _⟩ := h
    rfl
  · obtain ⟨rr, R, M, rfl, A, hc, hl, q1, q2⟩ := h
    refine ⟨_, (pss_cons (ps_if (pt_cmpR op_isN (pe_meth0 (pv 0) E.c_Running E.m_Running_at (ok_Running_at E) (hr.mono (by decide)) E.b_Running_at .nil pass0) pe_non (nomark _)) (pss_one (ps_ret pe_bl)) pss_nil)
      (pss_cons (ps_fld (pv 0) (pe_op op_add (pe_fld (pv 0) rfl) pe_int) rfl)
      (pss_cons (ps_try_as (i := 1) (Wout := (fun _ _ _ _ => False)) rfl rfl sc_Running_step.nd rfl rfl ⟨rfl, by decide, Or.inl E.g_HeapError⟩ takes0
      (fun W pn xe tk _ => by exact ((pss_one (ps_expr (pe_methT (pv 0) E.c_Running E.m_Running_do_row (ok_Running_do_row E) (hr.mono (by decide)) E.b_Running_do_row (fun σ => passAt tk σ) (pa_cons (pe_ix (ix_tupK (K := K) rfl) (pe_fldK (K := K) rfl (pv 0) rfl) (pe_fldK (K := K) rfl (pv 0) rfl) (fun _ _ => rfl)) pa_nil))))))
      (fun a oe cls d pn hz hf => by exact ((pss_one (ps_fldK (K := K) rfl (pv 0) (pe_called E (hr.mono (by decide)) hz hf (pv 1)) rfl)))))
      (pss_one (ps_ret (pe_cmpR op_notN (pe_meth0 (pv 0) E.c_Running E.m_Running_at (ok_Running_at E) (hr.mono (by decide)) E.b_Running_at .nil pass0) pe_non (nomark _))))))), ?_⟩
    dsimp only [cxOf]
    refine ⟨_, rfl, rr, _, _, rfl, A.ob, (by kernel_rfl), rr, R, M, rfl, A, rfl, _, rfl, ?_⟩
    cases ea : R.at with
    | none => exact iteT (q1 ea)
    | some x =>
      have eb : R.broken = none ∧ R.spot < R.prog.length := by
        unfold RS.at at ea
        by_cases c : R.broken = none ∧ R.spot < R.prog.length
        · exact c
        · rw [if_neg c] at ea
          cases ea
      have er := List.getElem?_eq_getElem eb.2
      generalize R.prog[R.spot] = r at er
      have q2 := q2 r eb.1 er
      have rm : r ∈ R.prog := List.mem_of_getElem? er
      refine iteF ⟨_, rfl, rr, _, _, _, _, rfl, A.ob, E.c_Running, E.n_Running_rows_done, rf_rows_done, _, _, rfl, rfl, _, rfl, rr, _, _, _, rfl, A.ob, E.c_Running, E.n_Running_rows_done, rf_len, ?_⟩
      dsimp only
      rw [rf_put_done]
      obtain ⟨A1, F1⟩ := A.set { R with done := R.done + 1 } rfl rfl rfl
      generalize upd H rr (.ins (CR K) M.dx (rf { R with done := R.done + 1 } M)) = H1 at A1 F1 ⊢
      obtain ⟨ra, g1, g2⟩ := A1.rs.get (i := R.spot) (x := r.parts) (by show (R.prog.map Row.parts)[R.spot]? = _; rw [List.getElem?_map, er]; rfl)
      refine ⟨_, rfl, rr, _, _, rfl, A1.ob, (by kernel_rfl), _, rfl, rr, _, _, _, _, rfl, A1.ob, E.c_Running, E.n_Running_program, rf_program, _, rfl, rr, _, _, _, _, rfl, A1.ob, E.c_Running, E.n_Running_spot, rf_spot, M.pa, M.rl, _, .ref ra, rfl, rfl, SqT.of A1.pr, atI_nat g1, rr, ra, r, _, M, rfl, A1, g2, rm, hc, hl, fun ef H' L' A' F' => ?_, fun e ee H' L' A' F' => ⟨true, exmErr E e, fun _ a ha => ?_, fun c => by cases c⟩⟩
      · have es : R.stepped r = { R with done := R.done + 1 }.rowDone r := by
          unfold RS.stepped
          rw [show (one R.h r).flt = none from ef]
          rfl
        refine ⟨_, rfl, rr, _, _, rfl, A'.ob, (by kernel_rfl), rr, _, _, rfl, A', rfl, ?_⟩
        rw [at_V, ← es]
        rw [← es] at A' F'
        exact q2 H' L' A' (F1.trans F')
      · have es : R.stepped r = { R with h := (one R.h r).h, done := R.done + 1, broken := some e } := by
          unfold RS.stepped
          rw [show (one R.h r).flt = some e from ee]
        refine ⟨_, rfl, rfl, rfl, e, rfl, _, rfl, rr, _, _, _, rfl, A'.ob, E.c_Running, E.n_Running_broken, rf_len, ?_⟩
        rw [rf_put_broken]
        obtain ⟨A2, F2⟩ := A'.set (R.stepped r) (by rw [es]) (by rw [es]) (by rw [es])
        rw [← es]
        refine ⟨_, rfl, rr, _, _, rfl, A2.ob, (by kernel_rfl), rr, _, _, rfl, A2, rfl, ?_⟩
        rw [at_V]
        exact q2 _ L' A2 (F1.trans (F'.trans F2))
def One.fV (o : One) : V := match o.flt with
  | none => .non
  | some e => .str e.nm
def SaidAt (H : Hp) (s : V) : Option (List V) → Prop
  | none => s = .non
  | some x => ∃ a, s = .ref a ∧ H a = some (.tup x)
theorem in_valued (r : Row) : inV (.str r.head) [.str "word", .str "held", .str "add", .str "less", .str "take"] = r.valued := by
  cases r <;> kernel_rfl
theorem notin_marks (r : Row) : inV (.str r.head) [.str "mark", .str "stop"] = decide (r.tag = 18) := by
  cases r <;> kernel_rfl
def spOne (K : PySem.W.Frag) : Sp := fun vs H Q _ => ∃ (p ra : Addr) (r : Row) (h : IH) (L : Lay), vs = [.ref p, .ref ra] ∧ At K H p h L ∧ H ra = some (.tup r.parts) ∧ r.Ok ∧ h.count ≤ 10000 ∧
  ∀ H' L' z s, At K H' p (one h r).h L' → Fr p L h.kept H L' (one h r).h.kept H' → H z = none → H' z = some (.lst [(one h r).fV, s, .bl (one h r).jmp]) → SaidAt H' s (one h r).said → Q (.ref z) H'
theorem sc_law_one : FnScope ["hall", "row", "told", "e"] ["hall", "row"] (defScope st_law_one) := ⟨rfl, rfl, rfl, by decide +kernel, rfl, by decide +kernel, by decide +kernel⟩
theorem ok_law_one (E : Txt K mg) : FnOk P w K mg base CX0 9 (fAd at_law_one K) (fdOf at_law_one K) ["hall", "row"] (spOne K) := by
  refine FunD.ok0 E.fd_law_one sc_law_one (fun vs H Q E0 h => ?_) (fun cdv A outer s H vs Q E0 hr h => ?_)
  · obtain ⟨p, ra, r, h, L, rfl, _⟩ := h
    rfl
  · obtain ⟨p, ra, r, h, L, rfl, A0, hra0, rok, hc, q⟩ := h
    refine ⟨_, (pss_cons (ps_set (i := 2) sc_law_one.nd rfl (Or.inl rfl) (pe_lst (pa_cons pe_non (pa_cons pe_non (pa_cons pe_bl pa_nil)))))
      (pss_cons (ps_try_as (i := 3) (Wout := (fun _ _ _ _ => False)) rfl rfl sc_law_one.nd rfl rfl ⟨rfl, by decide, Or.inl E.g_HeapError⟩ takes0
      (fun W pn xe tk _ => by exact ((pss_one (ps_if (pt_cmpR (op_in_seqK (K := K) rfl) (pe_ix (ix_tupK (K := K) rfl) (pv 1) pe_int (fun _ _ => rfl)) (pe_tup (pa_cons pe_str (pa_cons pe_str (pa_cons pe_str (pa_cons pe_str (pa_cons pe_str pa_nil)))))) (by with_unfolding_all rfl)) (pss_one (ps_expr (pe_callS (ok_law_reckoned E) (hr.mono (by decide)) (by rfl) E.g_law_reckoned E.fd_law_reckoned.kp E.b_law_reckoned (fun σ => passAt tk σ) (pa_cons (pv 0) (pa_cons (pv 1) pa_nil))))) (pss_one (ps_if (pt_cmpR op_eq (pe_ix (ix_tupK (K := K) rfl) (pv 1) pe_int (fun _ _ => rfl)) pe_str (nomark _)) (pss_one (ps_asg (pe_callS (ok_law_said E) (hr.mono (by decide)) (by rfl) E.g_law_said E.fd_law_said.kp E.b_law_said (fun σ => passAt tk σ) (pa_cons (pv 0) (pa_cons (pe_ix (ix_tupK (K := K) rfl) (pv 1) pe_int (fun _ _ => rfl)) pa_nil))) (pg_sub (pv 2) pe_int set_list))) (pss_one (ps_if (pt_cmpR (op_in_seqK (K := K) rfl) (pe_ix (ix_tupK (K := K) rfl) (pv 1) pe_int (fun _ _ => rfl)) (pe_tup (pa_cons pe_str (pa_cons pe_str (pa_cons pe_str (pa_cons pe_str pa_nil))))) (by with_unfolding_all rfl)) (pss_one (ps_asg (pe_callS (ok_law_jumps E) (hr.mono (by decide)) (by rfl) E.g_law_jumps E.fd_law_jumps.kp E.b_law_jumps (fun σ => passAt tk σ) (pa_cons (pv 0) (pa_cons (pv 1) pa_nil))) (pg_sub (pv 2) pe_int set_list))) (pss_one (ps_if (pt_cmpR (op_notIn_seqK (K := K) rfl) (pe_ix (ix_tupK (K := K) rfl) (pv 1) pe_int (fun _ _ => rfl)) (pe_tup (pa_cons pe_str (pa_cons pe_str pa_nil))) (by with_unfolding_all rfl)) (pss_one (ps_expr (pe_callS (ok_law_plain E) (hr.mono (by decide)) (by rfl) E.g_law_plain E.fd_law_plain.kp E.b_law_plain (fun σ => passAt tk σ) (pa_cons (pv 0) (pa_cons (pv 1) pa_nil))))) pss_nil))))))))))
      (fun a oe cls d pn hz hf => by exact ((pss_one (ps_asg (pe_called E (hr.mono (by decide)) hz hf (pv 3)) (pg_sub (pv 2) pe_int set_list))))))
      (pss_one (ps_ret (pv 2))))), ?_⟩
    dsimp only [cxOf]
    refine ⟨(Nat.le_of_lt (line1000 (by show _ ≤ _; simp))), fun z hz => ?_⟩
    have s0 : Same H (upd H z (.lst [.non, .non, .bl false])) := upd_same_of_none hz
    have hzl : (upd H z (.lst [.non, .non, .bl false])) z = some (.lst [.non, .non, .bl false]) := upd_same
    have zfp : ¬ fp p L h.kept z := fun f => A0.there f hz
    generalize upd H z (.lst [.non, .non, .bl false]) = H0 at s0 hzl ⊢
    have hra1 := s0 _ _ hra0
    -- how it ends
    have fin : ∀ (H' : Hp) (L' : Lay) (o : One) (s : V) (old : List V), one h r = o → At K H' p o.h L' → Fr p L h.kept H0 L' o.h.kept H' → H' z = some (.lst old) → SaidAt (upd H' z (.lst [o.fV, s, .bl o.jmp])) s o.said → Q (.ref z) (upd H' z (.lst [o.fV, s, .bl o.jmp])) := by
      rintro H' L' o s old rfl A' F' hz' hs
      have zfp' : ¬ fp p L' (one h r).h.kept z := fun f => (F'.new z f).elim zfp fun y => by
        rw [hzl] at y
        cases y
      refine q _ L' z s ⟨A'.toAtR.keep (fun b o e f => by rw [upd_ne fun x => zfp' (by rw [← x]; exact f)]; exact e) (Tups.upd hz' fun _ x => by cases x), A'.wf⟩ ?_ hz upd_same hs
      have F2 := (Fr.same s0).trans F'
      exact ⟨fun b o e n => by rw [upd_ne (ne_of_none e hz)]; exact F2.keep b o e n, F2.new⟩
    have fin0 : ∀ (H' : Hp) (L' : Lay) (g : IH), one h r = ⟨none, none, false, g⟩ → At K H' p g L' → Fr p L h.kept H0 L' g.kept H' → H' z = some (.lst [.non, .non, .bl false]) → Q (.ref z) H' := by
      intro H' L' g eo A' F' hz'
      have e : upd H' z (.lst [(⟨none, none, false, g⟩ : One).fV, .non, .bl false]) = H' := by
        funext b
        unfold upd
        split
        · rename_i c
          rw [c, hz']
          rfl
        · rfl
      have := fin H' L' ⟨none, none, false, g⟩ .non _ eo A' F' hz' rfl
      dsimp only at this
      rw [e] at this
      exact this
    have zl : ∀ (H1 : Hp) (L1 : Lay) (k : List (Int × Thing)), Fr p L h.kept H0 L1 k H1 → H1 z = some (.lst [.non, .non, .bl false]) := fun H1 L1 k F => F.keep _ _ hzl zfp
    have s01 := s0
    have A1 := A0.same s0
    refine ⟨_, rfl, ra, _, 0, .str r.head, rfl, rfl, SqT.of hra1, row0, ⟨by decide, fun t ht => ?_⟩⟩
    refine ⟨t, _, rfl, Or.inr (SqT.of upd_same), rfl, rfl, _, rfl, ?_⟩
    show if inV (.str r.head) [.str "word", .str "held", .str "add", .str "less", .str "take"] = true then _ else _
    rw [in_valued]
    have s2 : Same H0 (upd H0 t (.tup [.str "word", .str "held", .str "add", .str "less", .str "take"])) := upd_same_of_none ht
    generalize upd H0 t (.tup [.str "word", .str "held", .str "add", .str "less", .str "take"]) = H2 at s2 ⊢
    have A2 := A1.same s2
    have F2 : Fr p L h.kept H0 L h.kept H2 := Fr.same s2
    have hra2 := s2 _ _ hra1
    cases ev : r.valued with
    | true =>
      have eone : one h r = match dDeed h r with | .ok _ g => ⟨none, none, false, g⟩ | .err e g => ⟨some e, none, false, g⟩ := if_pos (by rw [ev]; rfl)
      refine iteT ⟨_, rfl, _, rfl, p, ra, r, h, L, rfl, A2, hra2, rok, ev, hc, ?_⟩
      cases ed : dDeed h r with
      | ok u g =>
        rw [ed] at eone
        exact fun H' L' A' F' => ⟨_, rfl, fin0 H' L' g eone A' (F2.trans F') (zl _ _ _ (F2.trans F'))⟩
      | err e g =>
        rw [ed] at eone
        refine fun H' L' A' F' => ⟨true, exmErr E e, fun _ a ha => ⟨_, rfl, rfl, rfl, e, rfl, _, rfl, z, _, 0, 0, rfl, rfl, zl _ _ _ (F2.trans F'), rfl, _, rfl, ?_⟩, fun c => by cases c⟩
        exact fin H' L' ⟨some e, none, false, g⟩ .non _ eone A' (F2.trans F') (zl _ _ _ (F2.trans F')) rfl
    | false =>
      refine iteF ⟨_, rfl, ra, _, 0, .str r.head, rfl, rfl, SqT.of hra2, row0, rfl, _, rfl, ifd (fun c => ?_) fun c1 => ?_⟩
      · have ht := tag_of (n := 13) c (by decide +kernel)
        cases r <;> first | (simp [Row.tag] at ht; done) | skip
        rename_i a
        refine ⟨_, rfl, _, rfl, ra, _, 1, .int a, rfl, rfl, SqT.of hra2, rfl, p, a, h, L, rfl, A2, rok, fun y hy => ⟨_, rfl, z, _, 1, 1, rfl, rfl, zl _ _ _ (F2.trans (Fr.same (upd_same_of_none hy))), rfl, _, rfl, ?_⟩⟩
        have s3 : Same H2 (upd H2 y (.tup (dSaid h a))) := upd_same_of_none hy
        have hz3 := zl _ _ _ (F2.trans (Fr.same s3))
        have nyz : y ≠ z := fun e => by
          rw [e, s2 _ _ hzl] at hy
          cases hy
        exact fin _ L ⟨none, some (dSaid h a), false, h⟩ (.ref y) _ rfl (A2.same s3) (F2.trans (Fr.same s3)) hz3 ⟨y, rfl, by rw [upd_ne nyz]; exact upd_same⟩
      refine ⟨_, rfl, ra, _, 0, .str r.head, rfl, rfl, SqT.of hra2, row0, ⟨by decide, fun t2 ht2 => ?_⟩⟩
      refine ⟨t2, _, rfl, Or.inr (SqT.of upd_same), rfl, rfl, _, rfl, ?_⟩
      show if inV (.str r.head) [.str "go", .str "same", .str "below", .str "thing"] = true then _ else _
      rw [in_jumps]
      have s3 : Same H2 (upd H2 t2 (.tup [.str "go", .str "same", .str "below", .str "thing"])) := upd_same_of_none ht2
      generalize upd H2 t2 (.tup [.str "go", .str "same", .str "below", .str "thing"]) = H3 at s3 ⊢
      have A3 := A2.same s3
      have F3 : Fr p L h.kept H0 L h.kept H3 := F2.trans (Fr.same s3)
      have hra3 := s3 _ _ hra2
      cases ej : r.jumps with
      | true =>
        have eone : one h r = match dJump h r with | some b => ⟨none, none, b, h⟩ | none => ⟨some .badHand, none, false, h⟩ := by
          cases r <;> first | (cases ej; done) | rfl
        refine iteT ⟨_, rfl, _, rfl, p, ra, r, h, L, rfl, A3, hra3, rok, ej, fun b hb => ⟨_, rfl, z, _, 2, 2, rfl, rfl, zl _ _ _ F3, rfl, _, rfl, ?_⟩, fun hb => ⟨true, exmErr E .badHand, fun _ a ha => ⟨_, rfl, rfl, rfl, .badHand, rfl, _, rfl, z, _, 0, 0, rfl, rfl, zl _ _ _ F3, rfl, _, rfl, ?_⟩, fun c => by cases c⟩⟩
        · rw [hb] at eone
          exact fin _ L ⟨none, none, b, h⟩ .non _ eone A3 F3 (zl _ _ _ F3) rfl
        · rw [hb] at eone
          exact fin _ L ⟨some .badHand, none, false, h⟩ .non _ eone A3 F3 (zl _ _ _ F3) rfl
      | false =>
        refine iteF ⟨_, rfl, ra, _, 0, .str r.head, rfl, rfl, SqT.of hra3, row0, ⟨by decide, fun t4 ht4 => ?_⟩⟩
        refine ⟨t4, _, rfl, Or.inr (SqT.of upd_same), rfl, rfl, _, rfl, ?_⟩
        show if (!inV (.str r.head) [.str "mark", .str "stop"]) = true then _ else _
        rw [notin_marks]
        have s4 : Same H3 (upd H3 t4 (.tup [.str "mark", .str "stop"])) := upd_same_of_none ht4
        generalize upd H3 t4 (.tup [.str "mark", .str "stop"]) = H4 at s4 ⊢
        have A4 := A3.same s4
        have F4 : Fr p L h.kept H0 L h.kept H4 := F3.trans (Fr.same s4)
        have hra4 := s4 _ _ hra3
        refine ifnd (fun c => ?_) fun c => ?_
        · have sm : r.simple = true := by
            cases r <;> first | rfl | (cases ev; done) | (cases ej; done) | (exact absurd rfl c) | (exact absurd rfl c1)
          have eone : one h r = match dDeed h r with | .ok _ g => ⟨none, none, false, g⟩ | .err e g => ⟨some e, none, false, g⟩ := if_pos (by rw [sm, Bool.or_true])
          refine ⟨_, rfl, _, rfl, p, ra, r, h, L, rfl, A4, hra4, rok, sm, hc, ?_⟩
          cases ed : dDeed h r with
          | ok u g =>
            rw [ed] at eone
            exact fun H' L' A' F' => ⟨_, rfl, fin0 H' L' g eone A' (F4.trans F') (zl _ _ _ (F4.trans F'))⟩
          | err e g =>
            rw [ed] at eone
            refine fun H' L' A' F' => ⟨true, exmErr E e, fun _ a ha => ⟨_, rfl, rfl, rfl, e, rfl, _, rfl, z, _, 0, 0, rfl, rfl, zl _ _ _ (F4.trans F'), rfl, _, rfl, ?_⟩, fun c => by cases c⟩
            exact fin H' L' ⟨some e, none, false, g⟩ .non _ eone A' (F4.trans F') (zl _ _ _ (F4.trans F')) rfl
        · cases r <;> first | (simp [Row.tag] at c; done) | skip
          exact ⟨_, rfl, fin0 H4 L h rfl A4 F4 (zl _ _ _ F4)⟩
end
end Sh
end

section
set_option Elab.async false
set_option linter.all false
set_option maxRecDepth 100000
set_option maxHeartbeats 4000000
/-! Rows as texts. -/
namespace Sh
open PySem PySem.Spec PyProof.Rows L2
open TL (tl numL tl_num tl_ofString numL_lt numL_step numL_len numL_free numL_val numL_digits numL_ne joinL join_eq tl_join len_tl split_join tl_append ext_tl)
def nt (i : Int) : Str := Str.ofString (toString i)
def pt : V → Str
  | .str s => s
  | .int i => nt i
  | _ => Str.empty
theorem nt_pos {i : Int} (h : 0 ≤ i) : tl (nt i) = numL i.toNat := by
  obtain ⟨n, rfl⟩ := Int.eq_ofNat_of_zero_le h
  exact tl_num n
theorem nt_neg {i : Int} (h : i < 0) : tl (nt i) = 45 :: numL (-i).toNat := by
  cases i with
  | ofNat n => exact absurd h (Int.not_lt.mpr (Int.natCast_nonneg n))
  | negSucc n =>
    have e1 : toString (Int.negSucc n) = "-" ++ toString (((n + 1 : Nat)) : Int) := rfl
    have e2 : (-(Int.negSucc n)).toNat = n + 1 := rfl
    unfold nt
    rw [e1, e2, tl_ofString, String.toList_append, List.map_append, ← tl_ofString, ← tl_ofString, tl_num]
    rfl
theorem numL_head {n : Nat} (h : 0 < n) : ∃ c l, numL n = c :: l ∧ c ≠ 48 := by
  induction n using Nat.strongRecOn with
  | _ n ih =>
    by_cases c : n < 10
    · rw [numL_lt c]
      exact ⟨_, _, rfl, by omega⟩
    · obtain ⟨d, l, e, hd⟩ := ih (n / 10) (by omega) (by omega)
      rw [numL_step (by omega), e]
      exact ⟨d, _, rfl, hd⟩
theorem numL_zero : numL 0 = [48] := numL_lt (by decide)
theorem numL_len6 {n : Nat} (h : n ≤ 100000) : (numL n).length ≤ 6 := numL_len (by decide) (by omega)
/-- what every part's text is like -/
def Fine (s : Str) : Prop := (tl s).length ≤ 8 ∧ 32 ∉ tl s ∧ 10 ∉ tl s
theorem fine_int {i : Int} (h : -100000 ≤ i ∧ i ≤ 100000) : Fine (nt i) := by
  by_cases c : 0 ≤ i
  · unfold Fine
    rw [nt_pos c]
    exact ⟨Nat.le_trans (numL_len6 (by omega)) (by decide), numL_free (by omega), numL_free (by omega)⟩
  · unfold Fine
    rw [nt_neg (by omega)]
    have l6 := numL_len6 (n := (-i).toNat) (by omega)
    refine ⟨by rw [List.length_cons]; omega, fun m => ?_, fun m => ?_⟩
    · rcases List.mem_cons.mp m with z | z
      · exact absurd z (by decide)
      · exact numL_free (by omega) z
    · rcases List.mem_cons.mp m with z | z
      · exact absurd z (by decide)
      · exact numL_free (by omega) z
theorem fine_mark {m : Str} (h : isM m) : Fine m := by
  rcases h with rfl | rfl | rfl | rfl | rfl <;> (unfold Fine; decide +kernel)
theorem fine_head (r : Row) : Fine r.head := by
  have hs : ∀ x ∈ heads, Fine x := by unfold Fine; decide +kernel
  have e : heads[r.tag]? = some r.head := by cases r <;> rfl
  exact hs _ (List.mem_of_getElem? e)
/-- the kinds of a row's parts -/
def Row.kinds : Row → Str
  | .make _ _ | .copy _ _ | .name _ _ | .read _ _ | .word _ _ | .add _ _ | .less _ _ => "nn"
  | .load _ _ _ | .store _ _ _ => "nnn"
  | .drop _ | .take _ | .held _ | .say _ => "n"
  | .number _ _ => "nx"
  | .mark _ | .go _ => "m"
  | .same _ _ _ | .below _ _ _ => "nnm"
  | .thing _ _ => "nm"
def PartOk (k : Nat) (v : V) : Prop := (k = 109 ∧ ∃ m, v = .str m ∧ isM m) ∨ (k = 110 ∧ ∃ i, v = .int i ∧ 0 ≤ i ∧ i ≤ 100000) ∨ (k = 120 ∧ ∃ i, v = .int i ∧ -100000 ≤ i ∧ i ≤ 100000)
inductive PartsOk : List Nat → List V → Prop
  | nil : PartsOk [] []
  | cons {k : Nat} {v : V} {ks : List Nat} {vs : List V} : PartOk k v → PartsOk ks vs → PartsOk (k :: ks) (v :: vs)
theorem PartsOk.len : ∀ {ks : List Nat} {vs : List V}, PartsOk ks vs → ks.length = vs.length
  | [], [], _ => rfl
  | _ :: _, _ :: _, .cons _ h => by rw [List.length_cons, List.length_cons, h.len]
theorem PartsOk.at_ : ∀ {ks : List Nat} {vs : List V}, PartsOk ks vs → ∀ {i : Nat} {k : Nat}, ks[i]? = some k → ∃ v, vs[i]? = some v ∧ PartOk k v
  | _ :: _, _ :: _, .cons h _, 0, _, e => ⟨_, rfl, by cases e; exact h⟩
  | _ :: _, _ :: _, .cons _ h, i + 1, _, e => h.at_ (i := i) e
theorem part_h {a : Int} (h : isH a) : PartOk 110 (.int a) := Or.inr (Or.inl ⟨rfl, a, rfl, h.1, by have := h.2; omega⟩)
theorem part_m {m : Str} (h : isM m) : PartOk 109 (.str m) := Or.inl ⟨rfl, m, rfl, h⟩
theorem rest_ok {r : Row} (h : r.Ok) : PartsOk (tl r.kinds) r.rest := by
  have n1 : tl ("n" : Str) = [110] := by decide +kernel
  have n2 : tl ("nn" : Str) = [110, 110] := by decide +kernel
  have n3 : tl ("nnn" : Str) = [110, 110, 110] := by decide +kernel
  have nx : tl ("nx" : Str) = [110, 120] := by decide +kernel
  have m1 : tl ("m" : Str) = [109] := by decide +kernel
  have nnm : tl ("nnm" : Str) = [110, 110, 109] := by decide +kernel
  have nm : tl ("nm" : Str) = [110, 109] := by decide +kernel
  cases r with
  | make a n => exact n2 ▸ .cons (part_h h.1) (.cons (Or.inr (Or.inl ⟨rfl, n, rfl, h.2.1, by have := h.2.2; omega⟩)) .nil)
  | load a b k => exact n3 ▸ .cons (part_h h.1) (.cons (part_h h.2.1) (.cons (part_h h.2.2) .nil))
  | store a k b => exact n3 ▸ .cons (part_h h.1) (.cons (part_h h.2.1) (.cons (part_h h.2.2) .nil))
  | copy a b => exact n2 ▸ .cons (part_h h.1) (.cons (part_h h.2) .nil)
  | drop a => exact n1 ▸ .cons (part_h h) .nil
  | number a x => exact nx ▸ .cons (part_h h.1) (.cons (Or.inr (Or.inr ⟨rfl, x, rfl, h.2⟩)) .nil)
  | name n a => exact n2 ▸ .cons (part_h h.1) (.cons (part_h h.2) .nil)
  | read a n => exact n2 ▸ .cons (part_h h.1) (.cons (part_h h.2) .nil)
  | word a b => exact n2 ▸ .cons (part_h h.1) (.cons (part_h h.2) .nil)
  | take a => exact n1 ▸ .cons (part_h h) .nil
  | held a => exact n1 ▸ .cons (part_h h) .nil
  | add a b => exact n2 ▸ .cons (part_h h.1) (.cons (part_h h.2) .nil)
  | less a b => exact n2 ▸ .cons (part_h h.1) (.cons (part_h h.2) .nil)
  | say a => exact n1 ▸ .cons (part_h h) .nil
  | go m => exact m1 ▸ .cons (part_m h) .nil
  | same a b m => exact nnm ▸ .cons (part_h h.1) (.cons (part_h h.2.1) (.cons (part_m h.2.2) .nil))
  | below a b m => exact nnm ▸ .cons (part_h h.1) (.cons (part_h h.2.1) (.cons (part_m h.2.2) .nil))
  | thing a m => exact nm ▸ .cons (part_h h.1) (.cons (part_m h.2) .nil)
  | mark m => exact m1 ▸ .cons (part_m h) .nil
theorem part_fine {k : Nat} {v : V} (h : PartOk k v) : Fine (pt v) := by
  rcases h with ⟨_, m, rfl, h⟩ | ⟨_, i, rfl, h⟩ | ⟨_, i, rfl, h⟩
  · exact fine_mark h
  · exact fine_int ⟨by omega, h.2⟩
  · exact fine_int h
theorem PartsOk.mem : ∀ {ks : List Nat} {vs : List V}, PartsOk ks vs → ∀ v ∈ vs, ∃ k, PartOk k v
  | [], [], _, _, m => by cases m
  | _ :: _, _ :: _, .cons h t, v, m => by
    rcases List.mem_cons.mp m with z | z
    · exact ⟨_, z ▸ h⟩
    · exact t.mem v z
theorem parts_fine {r : Row} (h : r.Ok) : ∀ v ∈ r.parts, Fine (pt v) := fun v m => by
  rcases List.mem_cons.mp m with z | z
  · rw [z]
    exact fine_head r
  · obtain ⟨k, hk⟩ := (rest_ok h).mem v z
    exact part_fine hk
theorem parts_len (r : Row) : r.parts.length ≤ 4 ∧ 1 ≤ r.parts.length := by
  cases r <;> exact ⟨by (show (_ : Nat) ≤ 4); simp [Row.parts, Row.rest], by simp [Row.parts]⟩
theorem mem_joinL {S : List Nat} {c : Nat} : ∀ {ps : List (List Nat)}, c ∈ joinL S ps → c ∈ S ∨ ∃ p ∈ ps, c ∈ p
  | [], h => by cases h
  | [p], h => Or.inr ⟨p, List.mem_singleton.mpr rfl, h⟩
  | p :: q :: r, h => by
    rcases List.mem_append.mp (show c ∈ p ++ (S ++ joinL S (q :: r)) from h) with z | z
    · exact Or.inr ⟨p, List.mem_cons_self .., z⟩
    · rcases List.mem_append.mp z with y | y
      · exact Or.inl y
      · rcases mem_joinL y with x | ⟨t, ht, x⟩
        · exact Or.inl x
        · exact Or.inr ⟨t, List.mem_cons_of_mem _ ht, x⟩
theorem joinL_len {S : List Nat} {k : Nat} : ∀ {ps : List (List Nat)}, (∀ p ∈ ps, p.length ≤ k) → (joinL S ps).length ≤ ps.length * (k + S.length)
  | [], h => by simp [joinL]
  | [p], h => by
    have := h p (List.mem_singleton.mpr rfl)
    show p.length ≤ _
    simp
    omega
  | p :: q :: r, h => by
    have h1 := h p (List.mem_cons_self ..)
    have ih := joinL_len (S := S) (ps := q :: r) fun t m => h t (List.mem_cons_of_mem _ m)
    show (p ++ (S ++ joinL S (q :: r))).length ≤ ((q :: r).length + 1) * (k + S.length)
    rw [List.length_append, List.length_append, Nat.add_mul]
    omega
def rowText (r : Row) : Str := Txt.join " " (r.parts.map pt)
def progText (rs : List Row) : Str := Txt.join "\n" (rs.map rowText)
theorem tl_sp : tl (" " : Str) = [32] := by decide +kernel
theorem tl_nl : tl ("\n" : Str) = [10] := by decide +kernel
theorem tl_rowText (r : Row) : tl (rowText r) = joinL [32] ((r.parts.map pt).map tl) := by
  unfold rowText
  rw [join_eq, tl_join, tl_sp]
theorem rowText_len {r : Row} (h : r.Ok) : (rowText r).length ≤ 36 := by
  rw [len_tl, tl_rowText]
  refine Nat.le_trans (joinL_len (k := 8) fun p m => ?_) ?_
  · obtain ⟨s, hs, rfl⟩ := List.mem_map.mp m
    obtain ⟨v, hv, rfl⟩ := List.mem_map.mp hs
    exact (parts_fine h v hv).1
  · rw [List.length_map, List.length_map]
    have := (parts_len r).1
    show r.parts.length * 9 ≤ 36
    omega
theorem row_split {r : Row} (h : r.Ok) : Txt.split (rowText r) " " = r.parts.map pt := by
  refine split_join tl_sp (by decide +kernel) (fun e => ?_) fun p m => ?_
  · have e2 := congrArg List.length e
    rw [List.length_map] at e2
    have := (parts_len r).2
    rw [e2] at this
    exact absurd this (by decide)
  · obtain ⟨v, hv, rfl⟩ := List.mem_map.mp m
    exact (parts_fine h v hv).2.1
theorem prog_split {rs : List Row} (h : ∀ r ∈ rs, r.Ok) (hne : rs ≠ []) : Txt.split (progText rs) "\n" = rs.map rowText := by
  refine split_join tl_nl (by decide +kernel) (fun e => hne (List.map_eq_nil_iff.mp e)) fun p m => ?_
  obtain ⟨r, hr, rfl⟩ := List.mem_map.mp m
  rw [tl_rowText]
  intro z
  rcases mem_joinL z with y | ⟨t, ht, y⟩
  · exact absurd y (by decide)
  · obtain ⟨s, hs, rfl⟩ := List.mem_map.mp ht
    obtain ⟨v, hv, rfl⟩ := List.mem_map.mp hs
    exact (parts_fine (h r hr) v hv).2.2 y
theorem progText_len {rs : List Row} (h : ∀ r ∈ rs, r.Ok) (hl : rs.length ≤ 200) : (progText rs).length ≤ 7400 := by
  unfold progText
  rw [len_tl, join_eq, tl_join, tl_nl]
  refine Nat.le_trans (joinL_len (k := 36) fun p m => ?_) ?_
  · obtain ⟨s, hs, rfl⟩ := List.mem_map.mp m
    obtain ⟨r, hr, rfl⟩ := List.mem_map.mp hs
    rw [← len_tl]
    exact rowText_len (h r hr)
  · rw [List.length_map, List.length_map]
    show rs.length * 37 ≤ 7400
    omega
end Sh
end

section
set_option Elab.async false
set_option linter.all false
set_option maxRecDepth 100000
set_option maxHeartbeats 4000000
/-! A row's text, read. -/
namespace Sh
open PySem PySem.Spec PyProof.Rows L2
open TL (tl numL tl_num tl_ofString numL_lt numL_step numL_len numL_free numL_val numL_digits numL_ne joinL join_eq tl_join len_tl split_join tl_append ext_tl)
section
variable {P : Program} {w : World} {K : PySem.W.Frag} {mg : Str → Option Value} {base : Heap}
theorem all_take {l : List Nat} {p : Nat → Bool} {i : Nat} {c : Nat} (h : l[i]? = some c) : (l.take (i + 1)).all p = ((l.take i).all p && p c) := by
  rw [take_sub h, List.all_append]
  simp
def spAllIn : Sp := fun vs H Q _ => ∃ t z : Str, vs = [.str t, .str z] ∧ Q (.bl ((tl t).all fun c => decide (c ∈ tl z))) H
theorem sc_are_all_in : FnScope ["text", "signs", "sign"] ["text", "signs"] (defScope st_are_all_in) := ⟨rfl, rfl, rfl, by decide +kernel, rfl, by decide +kernel, by decide +kernel⟩
theorem ok_are_all_in (E : Txt K mg) : FnOk P w K mg base CX0 1 (fAd at_are_all_in K) (fdOf at_are_all_in K) ["text", "signs"] (spAllIn) := by
  refine FunD.ok0 E.fd_are_all_in sc_are_all_in (fun vs H Q E0 h => ?_) (fun cdv A outer s H vs Q E0 hr h => ?_)
  · obtain ⟨t, z, rfl, _⟩ := h
    rfl
  · obtain ⟨t, z, rfl, q⟩ := h
    refine ⟨_, (pss_cons (ps_for PassesOwn.never rfl (pi_str (pv 0)) (pg_name (i := 2) sc_are_all_in.nd rfl (Or.inl rfl)) (pss_one (ps_if (pt_cmpR op_notIn_sign (pv 2) (pv 1) (by rfl)) (pss_one (ps_ret pe_bl)) pss_nil)))
      (pss_one (ps_ret pe_bl))), ?_⟩
    refine ⟨_, rfl, t, rfl, ?_⟩
    have e0 : t.cps.size = (tl t).length := by rw [← len_tl]; rfl
    refine for_it (walk_str (z := t)) (fun i σ H2 => H2 = H ∧ ((tl t).take i).all (fun c => decide (c ∈ tl z)) = true ∧ ∃ u, σ = [some (.str t), some (.str z), u]) ⟨rfl, by simp, none, rfl⟩ (fun _ _ _ _ _ => trivial) ?_ ?_
    · rintro i v σ H3 H2 hi ⟨e1, e2, u, rfl⟩ ⟨rfl, c, hc, rfl⟩
      subst e1
      have hc2 : (tl t)[i]? = some c := by rw [← hc]; exact Array.getElem?_toList
      refine ⟨_, rfl, _, rfl, c, z, rfl, rfl, _, rfl, ifnd (fun d => ?_) fun d => ?_⟩
      · have e3 : (tl t).all (fun c => decide (c ∈ tl z)) = false := by
          rw [Bool.eq_false_iff]
          intro e
          exact d (of_decide_eq_true (List.all_eq_true.mp e c (List.mem_of_getElem? hc2)))
        rw [e3] at q
        exact q
      · refine ⟨rfl, ?_, _, rfl⟩
        rw [all_take hc2, e2]
        exact decide_eq_true d
    · rintro σ H2 ⟨rfl, e2, u, rfl⟩
      rw [e0, List.take_length] at e2
      rw [e2] at q
      exact q
def spPlain : Sp := fun vs H Q _ => ∃ t : Str, vs = [.str t] ∧ ((∃ n, n ≤ 100000 ∧ tl t = numL n ∧ Q (.bl true) H) ∨ ((tl t).length ≤ 10 ∧ 45 ∈ tl t ∧ Q (.bl false) H))
theorem tl_figures : tl ("0123456789" : Str) = [48, 49, 50, 51, 52, 53, 54, 55, 56, 57] := by decide +kernel
theorem digits_in {l : List Nat} (h : ∀ c ∈ l, 48 ≤ c ∧ c ≤ 57) : (l.all fun c => decide (c ∈ tl ("0123456789" : Str))) = true := List.all_eq_true.mpr fun c m => by
  have := h c m
  rw [tl_figures]
  refine decide_eq_true ?_
  have : c = 48 ∨ c = 49 ∨ c = 50 ∨ c = 51 ∨ c = 52 ∨ c = 53 ∨ c = 54 ∨ c = 55 ∨ c = 56 ∨ c = 57 := by omega
  simpa using this
theorem str_eq {x y : Str} : (V.str x = V.str y) ↔ tl x = tl y := ⟨fun h => by cases h; rfl, fun h => by rw [ext_tl h]⟩
theorem sc_is_plain : FnScope ["text"] ["text"] (defScope st_is_plain) := ⟨rfl, rfl, rfl, by decide +kernel, rfl, by decide +kernel, by decide +kernel⟩
theorem ok_is_plain (E : Txt K mg) : FnOk P w K mg base CX0 2 (fAd at_is_plain K) (fdOf at_is_plain K) ["text"] (spPlain) := by
  refine FunD.ok0 E.fd_is_plain sc_is_plain (fun vs H Q E0 h => ?_) (fun cdv A outer s H vs Q E0 hr h => ?_)
  · obtain ⟨t, rfl, _⟩ := h
    rfl
  · obtain ⟨t, rfl, h⟩ := h
    refine ⟨_, (pss_cons (ps_if (PW.pt (pw_or (pt_cmpR op_lt (pe_callB call_len (by rfl) E.f_len PySem.boot_len (pa_cons (pv 0) pa_nil)) pe_int (nomark _)) (pw_or (pt_cmpR op_gt (pe_callB call_len (by rfl) E.f_len PySem.boot_len (pa_cons (pv 0) pa_nil)) (pe_gi E.i_MOST_FIGURES) (nomark _)) (pw_or1 (pt_not (pt_val (pe_call (ok_are_all_in E) (hr.mono (by decide)) (by rfl) E.g_are_all_in E.fd_are_all_in.kp E.b_are_all_in .nil pass0 (pa_cons (pv 0) (pa_cons (pe_gs E.s_FIGURES) pa_nil))))))))) (pss_one (ps_ret pe_bl)) pss_nil)
      (pss_one (ps_ret (pe_or (pe_cmpR op_eq (pv 0) pe_str (nomark _)) (pe_one (pe_cmpR op_ne (pe_ix ix_str (pv 0) pe_int (fun _ _ => rfl)) pe_str (nomark _))))))), ?_⟩
    have hl : 1 ≤ (tl t).length ∧ (tl t).length ≤ 10 := by
      rcases h with ⟨n, hn, e, _⟩ | ⟨e1, e2, _⟩
      · rw [e]
        have := numL_len6 hn
        have := List.length_pos_iff.mpr (numL_ne n)
        omega
      · exact ⟨List.length_pos_of_mem e2, e1⟩
    have hs : t.length ≤ sizeLine := Nat.le_of_lt (line1000 (by rw [len_tl]; omega))
    have el := len_tl t
    refine ⟨_, rfl, _, _, rfl, ⟨hs, rfl⟩, _, _, rfl, rfl, _, rfl, ifd (fun c => absurd c (by omega)) fun _ => ?_⟩
    refine ⟨_, rfl, _, _, rfl, ⟨hs, rfl⟩, _, _, rfl, rfl, _, rfl, ifd (fun c => absurd c (by omega)) fun _ => ?_⟩
    refine ⟨_, rfl, t, _, rfl, _, rfl, ?_⟩
    rcases h with ⟨n, hn, e, q⟩ | ⟨e1, e2, q⟩
    · have ea : ((tl t).all fun c => decide (c ∈ tl ("0123456789" : Str))) = true := digits_in (by rw [e]; exact numL_digits n)
      rw [ea]
      refine iteF ?_
      refine ⟨_, rfl, rfl, _, rfl, ?_⟩
      by_cases c : n = 0
      · rw [decide_eq_true (str_eq.mpr (by rw [e, c, numL_zero]; decide +kernel))]
        exact iteT q
      · obtain ⟨d, l, e3, hd⟩ := numL_head (n := n) (by omega)
        have ne : ¬ (V.str t = V.str "0") := fun z => by
          have := str_eq.mp z
          rw [e, e3, show tl ("0" : Str) = [48] from by decide +kernel] at this
          cases this
          exact hd rfl
        rw [decide_eq_false ne]
        refine iteF ⟨_, rfl, t, 0, d, rfl, rfl, hs, ?_, rfl, ?_⟩
        · refine at_int (by decide) ?_
          show (tl t)[0]? = some d
          rw [e, e3]
          rfl
        · have ne2 : ¬ (V.str ⟨#[d]⟩ = V.str "0") := fun z => by
            have := str_eq.mp z
            rw [show tl ("0" : Str) = [48] from by decide +kernel] at this
            exact hd (by simpa [tl] using this)
          rw [decide_eq_false ne2]
          exact q
    · have ea : ((tl t).all fun c => decide (c ∈ tl ("0123456789" : Str))) = false := by
        rw [Bool.eq_false_iff]
        intro z
        have := of_decide_eq_true (List.all_eq_true.mp z 45 e2)
        rw [tl_figures] at this
        simp at this
      rw [ea]
      exact iteT q
def spMark : Sp := fun vs H Q _ => ∃ t : Str, vs = [.str t] ∧ isM t ∧ Q (.bl true) H
theorem sc_is_mark : FnScope ["text"] ["text"] (defScope st_is_mark) := ⟨rfl, rfl, rfl, by decide +kernel, rfl, by decide +kernel, by decide +kernel⟩
theorem ok_is_mark (E : Txt K mg) : FnOk P w K mg base CX0 2 (fAd at_is_mark K) (fdOf at_is_mark K) ["text"] (spMark) := by
  refine FunD.ok0 E.fd_is_mark sc_is_mark (fun vs H Q E0 h => ?_) (fun cdv A outer s H vs Q E0 hr h => ?_)
  · obtain ⟨t, rfl, _⟩ := h
    rfl
  · obtain ⟨t, rfl, hm, q⟩ := h
    refine ⟨_, (pss_one (ps_ret (pe_and (pe_chain op_le op_le pe_int (pe_callB call_len (by rfl) E.f_len PySem.boot_len (pa_cons (pv 0) pa_nil)) (pe_gi E.i_MOST_LETTERS)) (pe_one (pe_call (ok_are_all_in E) (hr.mono (by decide)) (by rfl) E.g_are_all_in E.fd_are_all_in.kp E.b_are_all_in .nil pass0 (pa_cons (pv 0) (pa_cons (pe_gs E.s_LETTERS) pa_nil))))))), ?_⟩
    have hs : t.length ≤ sizeLine ∧ t.length = 1 ∧ ((tl t).all fun c => decide (c ∈ tl ("abcdefghijklmnopqrstuvwxyz" : Str))) = true := by
      rcases hm with rfl | rfl | rfl | rfl | rfl <;> exact ⟨Nat.le_of_lt (line1000 (by decide +kernel)), by decide +kernel, by decide +kernel⟩
    obtain ⟨h1, h2, h3⟩ := hs
    refine ⟨_, rfl, _, _, rfl, ⟨h1, rfl⟩, _, _, rfl, rfl, _, rfl, ifd (fun _ => ?_) fun c => absurd c (by omega)⟩
    refine ⟨_, _, rfl, rfl, _, rfl, ifd (fun _ => ?_) fun c => absurd c (by omega)⟩
    refine ⟨_, rfl, t, _, rfl, ?_⟩
    rw [h3]
    exact q
theorem tl_cut_to1 (z : Str) : tl (cutS z none (some 1)) = (tl z).take 1 := by
  show (((tl z).drop 0).take (min 1 z.length - 0)) = _
  rw [List.drop_zero, Nat.sub_zero, len_tl]
  by_cases c : 1 ≤ (tl z).length
  · rw [Nat.min_eq_left c]
  · have : tl z = [] := List.length_eq_zero_iff.mp (by omega)
    rw [this]
    rfl
theorem tl_cut_from1 (z : Str) : tl (cutS z (some 1) none) = (tl z).drop 1 := by
  show (((tl z).drop (min 1 z.length)).take (z.length - min 1 z.length)) = _
  rw [len_tl]
  by_cases c : 1 ≤ (tl z).length
  · rw [Nat.min_eq_left c]
    exact List.take_of_length_le (by rw [List.length_drop]; omega)
  · have : tl z = [] := List.length_eq_zero_iff.mp (by omega)
    rw [this]
    rfl
def spPart : Sp := fun vs H Q _ => ∃ (v : V) (k : Nat), vs = [.str (pt v), .str ⟨#[k]⟩] ∧ PartOk k v ∧ Q v H
theorem num_plain {t : Str} {n : Nat} (hn : n ≤ 100000) (e : tl t = numL n) : intText? t = some (n : Int) ∧ t.length ≤ 640 := by
  have l6 := numL_len6 hn
  have hl : t.length ≤ 6 := by rw [len_tl, e]; exact l6
  refine ⟨?_, by omega⟩
  have := PySem.intText_digits (x := t) (by show NumText.AllDigits (tl t); rw [e]; exact numL_digits n) (by show tl t ≠ []; rw [e]; exact numL_ne n) (by omega)
  rw [this]
  show some ((NumText.digitsVal (tl t) : Nat) : Int) = _
  rw [e, numL_val]
theorem sc_part_in : FnScope ["text", "kind"] ["text", "kind"] (defScope st_part_in) := ⟨rfl, rfl, rfl, by decide +kernel, rfl, by decide +kernel, by decide +kernel⟩
theorem ok_part_in (E : Txt K mg) : FnOk P w K mg base CX0 3 (fAd at_part_in K) (fdOf at_part_in K) ["text", "kind"] (spPart) := by
  refine FunD.ok0 E.fd_part_in sc_part_in (fun vs H Q E0 h => ?_) (fun cdv A outer s H vs Q E0 hr h => ?_)
  · obtain ⟨v, k, rfl, _⟩ := h
    rfl
  · obtain ⟨v, k, rfl, h, q⟩ := h
    refine ⟨_, (pss_cons (ps_if (pt_cmpR op_eq (pv 1) pe_str (nomark _)) (pss_cons (ps_if (pt_val (pe_call (ok_is_mark E) (hr.mono (by decide)) (by rfl) E.g_is_mark E.fd_is_mark.kp E.b_is_mark .nil pass0 (pa_cons (pv 0) pa_nil))) (pss_one (ps_ret (pv 0))) pss_nil)
      (pss_one (ps_ret pe_non))) pss_nil)
      (pss_cons (ps_if (pt_val (pe_call (ok_is_plain E) (hr.mono (by decide)) (by rfl) E.g_is_plain E.fd_is_plain.kp E.b_is_plain .nil pass0 (pa_cons (pv 0) pa_nil))) (pss_one (ps_ret (pe_callTy call_int_str (by rfl) E.f_int (by decide +kernel) (pa_cons (pv 0) pa_nil)))) pss_nil)
      (pss_cons (ps_if (PW.pt (pw_and (pt_cmpR op_eq (pv 1) pe_str (nomark _)) (pw_and (pt_cmpR op_eq (pe_slice sl_str (pv 0) po_none (po_some pe_int)) pe_str (nomark _)) (pw_and (pt_cmpR op_ne (pv 0) pe_str (nomark _)) (pw_and1 (pt_val (pe_call (ok_is_plain E) (hr.mono (by decide)) (by rfl) E.g_is_plain E.fd_is_plain.kp E.b_is_plain .nil pass0 (pa_cons (pe_slice sl_str (pv 0) (po_some pe_int) po_none) pa_nil)))))))) (pss_one (ps_ret (pe_un un_neg (pe_callTy call_int_str (by rfl) E.f_int (by decide +kernel) (pa_cons (pe_slice sl_str (pv 0) (po_some pe_int) po_none) pa_nil))))) pss_nil)
      (pss_one (ps_ret pe_non))))), ?_⟩
    rcases h with ⟨rfl, m, rfl, h⟩ | ⟨rfl, i, rfl, h⟩ | ⟨rfl, i, rfl, h⟩
    · refine ⟨_, rfl, rfl, _, rfl, ?_⟩
      rw [show decide (V.str ⟨#[109]⟩ = V.str "m") = true from by decide +kernel]
      exact iteT ⟨_, rfl, m, rfl, h, _, rfl, iteT ⟨_, rfl, q⟩⟩
    · refine ⟨_, rfl, rfl, _, rfl, ?_⟩
      rw [show decide (V.str ⟨#[110]⟩ = V.str "m") = false from by decide +kernel]
      have np := num_plain (t := nt i) (n := i.toNat) (by omega) (nt_pos h.1)
      refine iteF ⟨_, rfl, nt i, rfl, Or.inl ⟨i.toNat, by omega, nt_pos h.1, _, rfl, iteT ⟨_, rfl, nt i, _, rfl, np.1, np.2, ?_⟩⟩⟩
      rw [show ((i.toNat : Nat) : Int) = i from by omega]
      exact q
    · refine ⟨_, rfl, rfl, _, rfl, ?_⟩
      rw [show decide (V.str ⟨#[120]⟩ = V.str "m") = false from by decide +kernel]
      by_cases c : 0 ≤ i
      · have np := num_plain (t := nt i) (n := i.toNat) (by omega) (nt_pos c)
        refine iteF ⟨_, rfl, nt i, rfl, Or.inl ⟨i.toNat, by omega, nt_pos c, _, rfl, iteT ⟨_, rfl, nt i, _, rfl, np.1, np.2, ?_⟩⟩⟩
        rw [show ((i.toNat : Nat) : Int) = i from by omega]
        exact q
      · have en := nt_neg (i := i) (by omega)
        have l6 := numL_len6 (n := (-i).toNat) (by omega)
        have hs : (nt i).length ≤ sizeLine := Nat.le_of_lt (line1000 (by rw [len_tl, en, List.length_cons]; omega))
        have e1 : tl (cutS (nt i) (some 1) none) = numL (-i).toNat := by rw [tl_cut_from1, en]; rfl
        have np := num_plain (n := (-i).toNat) (by omega) e1
        refine iteF ⟨_, rfl, nt i, rfl, Or.inr ⟨by rw [en, List.length_cons]; omega, by rw [en]; exact List.mem_cons_self .., _, rfl, iteF ?_⟩⟩
        refine ⟨_, rfl, rfl, _, rfl, ?_⟩
        rw [show decide (V.str ⟨#[120]⟩ = V.str "x") = true from by decide +kernel]
        refine iteT ⟨_, rfl, 1, rfl, nt i, rfl, hs, rfl, _, rfl, ?_⟩
        rw [decide_eq_true (str_eq.mpr (by rw [tl_cut_to1, en, show tl ("-" : Str) = [45] from by decide +kernel]; rfl))]
        refine iteT ⟨_, rfl, rfl, _, rfl, ?_⟩
        have ne0 : ¬ (V.str (nt i) = V.str "-0") := fun z => by
          have := str_eq.mp z
          rw [en, show tl ("-0" : Str) = 45 :: numL 0 from by rw [numL_zero]; decide +kernel] at this
          injection this with _ this
          have := TL.numL_inj this
          omega
        refine ifnd (fun _ => ?_) fun z => absurd z ne0
        refine ⟨_, rfl, 1, rfl, nt i, rfl, hs, _, rfl, Or.inl ⟨(-i).toNat, by omega, e1, _, rfl, iteT ?_⟩⟩
        refine ⟨_, rfl, 1, rfl, nt i, rfl, hs, _, _, rfl, np.1, np.2, _, rfl, ?_⟩
        have ei : -(((-i).toNat : Nat) : Int) = i := by omega
        dsimp only
        rw [ei]
        exact q
end
end Sh
end

section
set_option Elab.async false
set_option linter.all false
set_option maxRecDepth 100000
set_option maxHeartbeats 4000000
/-! A row, read. -/
namespace Sh
open PySem PySem.Spec PyProof.Rows L2
open TL (tl numL tl_num tl_ofString numL_lt numL_step numL_len numL_free numL_val numL_digits numL_ne joinL join_eq tl_join len_tl split_join tl_append ext_tl)
section
variable {P : Program} {w : World} {K : PySem.W.Frag} {mg : Str → Option Value} {base : Heap}
theorem pg_tupK {X : Cx} {K : PySem.W.Frag} {pos : Pos} {es : List Expr} {k : Nat} {t : TGs} {n : Nat} (hK : X.K = K) (hc : X.calm = true) (h : PGs X es t)
    (hn : (assignEach es X.env).length = n := by rfl) (hst : (assignEach es X.env).findIdx? (·.1) = none := by rfl) : PG X (.Tuple es k pos) (gTup K n t) := by
  subst hK
  exact pg_tup hc h hn hst
def spDue2 : Sp := fun vs H Q _ => ∃ r : Row, vs = [.str r.head] ∧ ∀ H' : Hp, Same H H' → Q (.str r.kinds) H'
theorem sc_parts_due : FnScope ["word"] ["word"] (defScope st_parts_due) := ⟨rfl, rfl, rfl, by decide +kernel, rfl, by decide +kernel, by decide +kernel⟩
theorem ok_parts_due (E : Txt K mg) : FnOk P w K mg base CX0 1 (fAd at_parts_due K) (fdOf at_parts_due K) ["word"] (spDue2) := by
  refine FunD.ok0 E.fd_parts_due sc_parts_due (fun vs H Q E0 h => ?_) (fun cdv A outer s H vs Q E0 hr h => ?_)
  · obtain ⟨r, rfl, _⟩ := h
    rfl
  · obtain ⟨r, rfl, q⟩ := h
    refine ⟨_, (pss_cons (ps_if (pt_cmpR op_in_seq (pv 0) (pe_tup (pa_cons pe_str (pa_cons pe_str (pa_cons pe_str (pa_cons pe_str (pa_cons pe_str (pa_cons pe_str (pa_cons pe_str pa_nil)))))))) (by with_unfolding_all rfl)) (pss_one (ps_ret pe_str)) pss_nil)
      (pss_cons (ps_if (pt_cmpR op_in_seq (pv 0) (pe_tup (pa_cons pe_str (pa_cons pe_str pa_nil))) (by with_unfolding_all rfl)) (pss_one (ps_ret pe_str)) pss_nil)
      (pss_cons (ps_if (pt_cmpR op_in_seq (pv 0) (pe_tup (pa_cons pe_str (pa_cons pe_str (pa_cons pe_str (pa_cons pe_str pa_nil))))) (by with_unfolding_all rfl)) (pss_one (ps_ret pe_str)) pss_nil)
      (pss_cons (ps_if (pt_cmpR op_eq (pv 0) pe_str (nomark _)) (pss_one (ps_ret pe_str)) pss_nil)
      (pss_cons (ps_if (pt_cmpR op_in_seq (pv 0) (pe_tup (pa_cons pe_str (pa_cons pe_str pa_nil))) (by with_unfolding_all rfl)) (pss_one (ps_ret pe_str)) pss_nil)
      (pss_cons (ps_if (pt_cmpR op_in_seq (pv 0) (pe_tup (pa_cons pe_str (pa_cons pe_str pa_nil))) (by with_unfolding_all rfl)) (pss_one (ps_ret pe_str)) pss_nil)
      (pss_cons (ps_if (pt_cmpR op_eq (pv 0) pe_str (nomark _)) (pss_one (ps_ret pe_str)) pss_nil)
      (pss_cons (ps_if (pt_cmpR op_eq (pv 0) pe_str (nomark _)) (pss_one (ps_ret pe_str)) pss_nil)
      (pss_one (ps_ret pe_non)))))))))), ?_⟩
    have s0 : Same H H := fun _ _ e => e
    refine ⟨_, rfl, ⟨by decide, fun t0 ht0 => ?_⟩⟩
    refine ⟨t0, _, rfl, Or.inr (SqT.of upd_same), rfl, rfl, _, rfl, ?_⟩
    show if inV (.str r.head) [.str "make", .str "copy", .str "name", .str "read", .str "word", .str "add", .str "less"] = true then _ else _
    rw [show inV (.str r.head) [.str "make", .str "copy", .str "name", .str "read", .str "word", .str "add", .str "less"] = decide (r.tag ∈ [0, 3, 6, 7, 8, 11, 12]) from by cases r <;> kernel_rfl]
    replace s0 := s0.trans (upd_same_of_none (o := .tup [.str "make", .str "copy", .str "name", .str "read", .str "word", .str "add", .str "less"]) ht0)
    generalize upd H t0 (.tup [.str "make", .str "copy", .str "name", .str "read", .str "word", .str "add", .str "less"]) = H1 at s0 ⊢
    refine ifd (fun c => ?_) fun c0 => ?_
    · have e : r.kinds = "nn" := by cases r <;> first | rfl | (simp [Row.tag] at c; done)
      have q := q _ s0
      rw [e] at q
      exact q
    refine ⟨_, rfl, ⟨by decide, fun t1 ht1 => ?_⟩⟩
    refine ⟨t1, _, rfl, Or.inr (SqT.of upd_same), rfl, rfl, _, rfl, ?_⟩
    show if inV (.str r.head) [.str "load", .str "store"] = true then _ else _
    rw [show inV (.str r.head) [.str "load", .str "store"] = decide (r.tag ∈ [1, 2]) from by cases r <;> kernel_rfl]
    replace s0 := s0.trans (upd_same_of_none (o := .tup [.str "load", .str "store"]) ht1)
    generalize upd H1 t1 (.tup [.str "load", .str "store"]) = H2 at s0 ⊢
    refine ifd (fun c => ?_) fun c1 => ?_
    · have e : r.kinds = "nnn" := by cases r <;> first | rfl | (simp [Row.tag] at c; done)
      have q := q _ s0
      rw [e] at q
      exact q
    refine ⟨_, rfl, ⟨by decide, fun t2 ht2 => ?_⟩⟩
    refine ⟨t2, _, rfl, Or.inr (SqT.of upd_same), rfl, rfl, _, rfl, ?_⟩
    show if inV (.str r.head) [.str "drop", .str "take", .str "held", .str "say"] = true then _ else _
    rw [show inV (.str r.head) [.str "drop", .str "take", .str "held", .str "say"] = decide (r.tag ∈ [4, 9, 10, 13]) from by cases r <;> kernel_rfl]
    replace s0 := s0.trans (upd_same_of_none (o := .tup [.str "drop", .str "take", .str "held", .str "say"]) ht2)
    generalize upd H2 t2 (.tup [.str "drop", .str "take", .str "held", .str "say"]) = H3 at s0 ⊢
    refine ifd (fun c => ?_) fun c2 => ?_
    · have e : r.kinds = "n" := by cases r <;> first | rfl | (simp [Row.tag] at c; done)
      have q := q _ s0
      rw [e] at q
      exact q
    refine ⟨_, rfl, rfl, _, rfl, ifd (fun c => ?_) fun c3 => ?_⟩
    · have ht := tag_of (n := 5) c (by decide +kernel)
      have e : r.kinds = "nx" := by cases r <;> first | rfl | (simp [Row.tag] at ht; done)
      have q := q _ s0
      rw [e] at q
      exact q
    refine ⟨_, rfl, ⟨by decide, fun t4 ht4 => ?_⟩⟩
    refine ⟨t4, _, rfl, Or.inr (SqT.of upd_same), rfl, rfl, _, rfl, ?_⟩
    show if inV (.str r.head) [.str "mark", .str "go"] = true then _ else _
    rw [show inV (.str r.head) [.str "mark", .str "go"] = decide (r.tag ∈ [18, 14]) from by cases r <;> kernel_rfl]
    replace s0 := s0.trans (upd_same_of_none (o := .tup [.str "mark", .str "go"]) ht4)
    generalize upd H3 t4 (.tup [.str "mark", .str "go"]) = H5 at s0 ⊢
    refine ifd (fun c => ?_) fun c4 => ?_
    · have e : r.kinds = "m" := by cases r <;> first | rfl | (simp [Row.tag] at c; done)
      have q := q _ s0
      rw [e] at q
      exact q
    refine ⟨_, rfl, ⟨by decide, fun t5 ht5 => ?_⟩⟩
    refine ⟨t5, _, rfl, Or.inr (SqT.of upd_same), rfl, rfl, _, rfl, ?_⟩
    show if inV (.str r.head) [.str "same", .str "below"] = true then _ else _
    rw [show inV (.str r.head) [.str "same", .str "below"] = decide (r.tag ∈ [15, 16]) from by cases r <;> kernel_rfl]
    replace s0 := s0.trans (upd_same_of_none (o := .tup [.str "same", .str "below"]) ht5)
    generalize upd H5 t5 (.tup [.str "same", .str "below"]) = H6 at s0 ⊢
    refine ifd (fun c => ?_) fun c5 => ?_
    · have e : r.kinds = "nnm" := by cases r <;> first | rfl | (simp [Row.tag] at c; done)
      have q := q _ s0
      rw [e] at q
      exact q
    refine ⟨_, rfl, rfl, _, rfl, ifd (fun c => ?_) fun c6 => ?_⟩
    · have ht := tag_of (n := 17) c (by decide +kernel)
      have e : r.kinds = "nm" := by cases r <;> first | rfl | (simp [Row.tag] at ht; done)
      have q := q _ s0
      rw [e] at q
      exact q
    exfalso
    have n3 : r.tag ≠ 5 := fun e => c3 (head_of e rfl)
    have n6 : r.tag ≠ 17 := fun e => c6 (head_of e rfl)
    cases r <;> first | (refine c0 ?_; simp [Row.tag]; done) | (refine c1 ?_; simp [Row.tag]; done) | (refine c2 ?_; simp [Row.tag]; done) | (refine c4 ?_; simp [Row.tag]; done) | (refine c5 ?_; simp [Row.tag]; done) | (exact n3 rfl) | (exact n6 rfl)
theorem rest_flat (r : Row) : r.rest.all flatV = true ∧ inV .non r.rest = false := by
  cases r <;> exact ⟨rfl, rfl⟩
theorem kinds_len {r : Row} (h : r.Ok) : (tl r.kinds).length = r.rest.length := (rest_ok h).len
def spRowIn : Sp := fun vs H Q _ => ∃ r : Row, vs = [.str (rowText r)] ∧ r.Ok ∧ ∀ H' z, Same H H' → H z = none → H' z = some (.tup r.parts) → Q (.ref z) H'
theorem sc_row_in : FnScope ["text", "words", "kinds", "parts", "place", "kind"] ["text"] (defScope st_row_in) := ⟨rfl, rfl, rfl, by decide +kernel, rfl, by decide +kernel, by decide +kernel⟩
theorem ok_row_in (E : Txt K mg) : FnOk P w K mg base CX0 4 (fAd at_row_in K) (fdOf at_row_in K) ["text"] (spRowIn) := by
  refine FunD.ok0 E.fd_row_in sc_row_in (fun vs H Q E0 h => ?_) (fun cdv A outer s H vs Q E0 hr h => ?_)
  · obtain ⟨r, rfl, _⟩ := h
    rfl
  · obtain ⟨r, rfl, rok, q⟩ := h
    refine ⟨_, (pss_cons (ps_set (i := 1) sc_row_in.nd rfl (Or.inr rfl) (pe_split (pv 0) pe_str))
      (pss_cons (ps_set (i := 2) sc_row_in.nd rfl (Or.inl rfl) (pe_call (ok_parts_due E) (hr.mono (by decide)) (by rfl) E.g_parts_due E.fd_parts_due.kp E.b_parts_due .nil pass0 (pa_cons (pe_ix ix_list (pv 1) pe_int (fun _ _ => rfl)) pa_nil)))
      (pss_cons (ps_if (PW.pt (pw_or (pt_cmpR op_isN (pv 2) pe_non (nomark _)) (pw_or1 (pt_cmpR op_ne (pe_callB call_len (by rfl) E.f_len PySem.boot_len (pa_cons (pv 1) pa_nil)) (pe_op op_add (pe_callB call_len (by rfl) E.f_len PySem.boot_len (pa_cons (pv 2) pa_nil)) pe_int) (nomark _))))) (pss_one (ps_ret pe_non)) pss_nil)
      (pss_cons (ps_setLc (i := 3) (own := [("place", 4), ("kind", 5)]) rfl sc_row_in.nd rfl rfl (sw_true rfl rfl rfl (by decide +kernel)) (pi_enumS (by rfl) E.f_enumerate (pa_cons (pv 2) pa_nil)) (blkOk_by (own := [("place", 4), ("kind", 5)]) (N := ["text", "words", "kinds", "parts", "place", "kind"]) (sc := (defScope st_row_in)) (by decide +kernel)) (fun _ _ _ _ _ => (pg_tupK (K := K) (n := 2) rfl rfl (pgs_cons (pg_name (i := 4) sc_row_in.nd rfl (Or.inl rfl)) (pgs_cons (pg_name (i := 5) sc_row_in.nd rfl (Or.inl rfl)) pgs_nil)))) (fun _ _ _ _ _ => pts_nil) (fun _ _ _ _ _ => by exact ((pe_call (ok_part_in E) (hr.mono (by decide)) (by rfl) E.g_part_in E.fd_part_in.kp E.b_part_in .nil pass0 (pa_cons (pe_ix (ix_listK (K := K) rfl) (pv 1) (pe_op op_add (pv 4) pe_int) (fun _ _ => rfl)) (pa_cons (pv 5) pa_nil))))))
      (pss_cons (ps_if (pt_cmpR op_in_seq pe_non (pv 3) (by with_unfolding_all rfl)) (pss_one (ps_ret pe_non)) pss_nil)
      (pss_one (ps_ret (pe_callTy call_tuple_of (by rfl) E.f_tuple (by decide +kernel) (pa_cons (pe_op op_cat (pe_lst (pa_cons (pe_ix ix_list (pv 1) pe_int (fun _ _ => rfl)) pa_nil)) (pv 3)) pa_nil))))))))), ?_⟩
    have rl := rowText_len rok
    have pl := parts_len r
    have kl := kinds_len rok
    have pr : r.parts.length = r.rest.length + 1 := rfl
    refine ⟨_, rfl, ⟨_, rfl⟩, _, _, rfl, rfl, by decide +kernel, Nat.le_of_lt (line1000 (show (rowText r).length + 2 ≤ 100000 by omega)), fun a ha => ?_⟩
    rw [row_split rok]
    have s0 : Same H (upd H a (.lst ((r.parts.map pt).map V.str))) := upd_same_of_none ha
    have wl : (upd H a (.lst ((r.parts.map pt).map V.str))) a = some (.lst ((r.parts.map pt).map V.str)) := upd_same
    generalize upd H a (.lst ((r.parts.map pt).map V.str)) = H0 at s0 wl ⊢
    have w0 : atI ((r.parts.map pt).map V.str) 0 = some (.str r.head) := at_int (by decide) rfl
    have wlen : ((r.parts.map pt).map V.str).length = r.rest.length + 1 := by rw [List.length_map, List.length_map]; exact pr
    refine ⟨_, rfl, a, _, 0, .str r.head, rfl, rfl, SqL.of wl, w0, r, rfl, fun H1 s1 => ?_⟩
    have wl1 := s1 _ _ wl
    have ks : r.kinds.length ≤ sizeLine := Nat.le_of_lt (line1000 (by rw [len_tl]; omega))
    refine ⟨_, rfl, rfl, _, rfl, iteF ?_⟩
    refine ⟨_, rfl, _, _, rfl, Or.inl ⟨_, SqL.of wl1, rfl⟩, _, rfl, _, _, rfl, ⟨ks, rfl⟩, _, _, rfl, rfl, rfl, _, rfl, ifnd (fun c => ?_) fun c => ?_⟩
    · refine absurd ?_ c
      rw [wlen, len_tl, kl]
      rfl
    refine ⟨_, rfl, r.kinds, rfl, fun D hD => ?_⟩
    have ksz : r.kinds.cps.size = r.rest.length := by rw [← kl, ← len_tl]; rfl
    refine lc_it (walk_enumS (z := r.kinds)) (fun i H2 => H2 D = some (.lst (r.rest.take i)) ∧ Same H1 H2) ⟨upd_same, upd_same_of_none hD⟩ (fun _ _ _ _ => trivial) ?_ ?_
    · rintro i v H3 H2 hi ⟨g1, g2⟩ ⟨T, x, y, rfl, hT, rfl, hx, hy⟩
      cases hx
      have hk : ∃ k, (tl r.kinds)[i]? = some k ∧ y = .str ⟨#[k]⟩ := by
        dsimp only at hy
        cases e : r.kinds.cps[i]? with
        | none =>
          rw [e] at hy
          cases hy
        | some k =>
          rw [e] at hy
          exact ⟨k, by rw [← e]; exact Array.getElem?_toList, (Option.some.inj hy).symm⟩
      obtain ⟨k, hk, rfl⟩ := hk
      obtain ⟨u, hu, po⟩ := (rest_ok rok).at_ hk
      have s2 : Same H3 (upd H3 T (.tup [.int i, .str ⟨#[k]⟩])) := upd_same_of_none hT
      refine ⟨T, _, rfl, SqT.of upd_same, rfl, _, _, rfl, _, _, rfl, rfl, rfl, ?_⟩
      have wi : atI ((r.parts.map pt).map V.str) ((i : Int) + 1) = some (.str (pt u)) := by
        refine at_int (by omega) ?_
        rw [show ((i : Int) + 1).toNat = i + 1 from by omega, List.getElem?_map, List.getElem?_map]
        show Option.map V.str (Option.map pt (r.rest[i]?)) = _
        rw [hu]
        rfl
      refine ⟨_, rfl, _, rfl, _, _, rfl, rfl, a, _, _, _, rfl, rfl, SqL.of (s2 _ _ (g2 _ _ wl1)), wi, _, rfl, u, k, rfl, po, r.rest.take i, ?_, ?_, ?_, ?_⟩
      · exact s2 _ _ g1
      · rw [List.length_take]
        exact line1000 (by omega)
      · rw [upd_same, take_sub hu]
      · intro b o e
        rw [upd_ne (ne_of_none e hD)]
        exact s2 _ _ (g2 b o e)
    · rintro H2 ⟨g1, g2⟩
      rw [ksz, List.take_length] at g1
      have rf := rest_flat r
      refine ⟨_, rfl, D, r.rest, rfl, Or.inl (SqL.of g1), rfl, rf.1, _, rfl, ?_⟩
      show if inV .non r.rest = true then _ else _
      rw [rf.2]
      have wl2 := g2 _ _ wl1
      refine iteF ⟨_, rfl, a, _, 0, .str r.head, rfl, rfl, SqL.of wl2, w0, Nat.le_of_lt (line1000 (by simp)), fun p1 hp1 => ?_⟩
      have s3 : Same H2 (upd H2 p1 (.lst [.str r.head])) := upd_same_of_none hp1
      refine ⟨_, rfl, p1, D, _, r.rest, rfl, rfl, upd_same, s3 _ _ g1, Nat.le_of_lt (line1000 (by show 1 + r.rest.length ≤ _; omega)), fun p2 hp2 => ⟨p2, _, rfl, Or.inl ⟨SqL.of upd_same, fun z hz => ?_⟩⟩⟩
      have s4 := (((s0.trans s1).trans g2).trans s3).trans (upd_same_of_none (o := .lst ([.str r.head] ++ r.rest)) hp2)
      exact q _ z (s4.trans (upd_same_of_none hz)) (s4.free hz) upd_same
end
end Sh
end

section
set_option Elab.async false
set_option linter.all false
set_option maxRecDepth 100000
set_option maxHeartbeats 4000000
/-! A program, read. -/
namespace Sh
open PySem PySem.Spec PyProof.Rows L2
open TL (tl numL tl_num tl_ofString numL_lt numL_step numL_len numL_free numL_val numL_digits numL_ne joinL join_eq tl_join len_tl split_join tl_append ext_tl)
section
variable {P : Program} {w : World} {K : PySem.W.Frag} {mg : Str → Option Value} {base : Heap}
def Row.goalV (r : Row) : V := if r.jumps then .str r.goal else .non
def spMarkOf : Sp := fun vs H Q _ => ∃ (ra : Addr) (r : Row), vs = [.ref ra] ∧ H ra = some (.tup r.parts) ∧ ∀ H' : Hp, Same H H' → Q r.goalV H'
theorem sc_mark_of : FnScope ["row"] ["row"] (defScope st_mark_of) := ⟨rfl, rfl, rfl, by decide +kernel, rfl, by decide +kernel, by decide +kernel⟩
theorem ok_mark_of (E : Txt K mg) : FnOk P w K mg base CX0 1 (fAd at_mark_of K) (fdOf at_mark_of K) ["row"] (spMarkOf) := by
  refine FunD.ok0 E.fd_mark_of sc_mark_of (fun vs H Q E0 h => ?_) (fun cdv A outer s H vs Q E0 hr h => ?_)
  · obtain ⟨ra, r, rfl, _⟩ := h
    rfl
  · obtain ⟨ra, r, rfl, hra, q⟩ := h
    refine ⟨_, (pss_cons (ps_if (pt_cmpR op_in_seq (pe_ix ix_tup (pv 0) pe_int (fun _ _ => rfl)) (pe_tup (pa_cons pe_str (pa_cons pe_str (pa_cons pe_str (pa_cons pe_str pa_nil))))) (by with_unfolding_all rfl)) (pss_one (ps_ret (pe_ix ix_tup (pv 0) (pe_un un_neg pe_int) (fun _ _ => rfl)))) pss_nil)
      (pss_one (ps_ret pe_non))), ?_⟩
    refine ⟨_, rfl, ra, _, 0, .str r.head, rfl, rfl, SqT.of hra, row0, ⟨by decide, fun z hz => ?_⟩⟩
    have s1 : Same H (upd H z (.tup [.str "go", .str "same", .str "below", .str "thing"])) := upd_same_of_none hz
    refine ⟨z, _, rfl, Or.inr (SqT.of upd_same), rfl, rfl, _, rfl, ?_⟩
    show if inV (.str r.head) [.str "go", .str "same", .str "below", .str "thing"] = true then _ else _
    rw [in_jumps]
    have q := q _ s1
    unfold Row.goalV at q
    cases ej : r.jumps with
    | true =>
      rw [ej, if_pos rfl] at q
      exact iteT ⟨_, rfl, 1, rfl, ra, _, _, _, rfl, rfl, SqT.of (s1 _ _ hra), last_goal ej, q⟩
    | false =>
      rw [ej, if_neg (by decide)] at q
      exact iteF q
theorem markAt_take {rows : List Row} {i : Nat} {r : Row} (h : rows[i]? = some r) (m : Str) : markAt (rows.take (i + 1)) m = (markAt (rows.take i) m).or (if r = .mark m then some i else none) := by
  have hi : (rows.take i).length = i := by rw [List.length_take]; have := (List.getElem?_eq_some_iff.mp h).1; omega
  unfold markAt
  rw [take_sub h, List.findIdx?_append]
  congr 1
  by_cases c : r = .mark m
  · rw [if_pos c, List.findIdx?_cons, decide_eq_true c, hi]
    simp
  · rw [if_neg c, List.findIdx?_cons, decide_eq_false c]
    simp
def MarksK (kvs : List (Key × V)) (rows : List Row) : Prop := ∀ m, valV kvs (Sum.inr m) = (markAt rows m).map fun (i : Nat) => V.int i
theorem marks_skip {kvs : List (Key × V)} {rows : List Row} {i : Nat} {r : Row} (h : rows[i]? = some r) (hk : MarksK kvs (rows.take i)) (n : ∀ m, r = .mark m → (markAt (rows.take i) m).isSome = true) : MarksK kvs (rows.take (i + 1)) := fun m => by
  rw [hk m, markAt_take h]
  by_cases c : r = .mark m
  · have := n m c
    cases e : markAt (rows.take i) m with
    | none =>
      rw [e] at this
      cases this
    | some j => rfl
  · rw [if_neg c]
    cases markAt (rows.take i) m <;> rfl
theorem marks_put {kvs : List (Key × V)} {rows : List Row} {i : Nat} {m : Str} (h : rows[i]? = some (.mark m)) (hk : MarksK kvs (rows.take i)) (n : markAt (rows.take i) m = none) : MarksK (putK kvs (Sum.inr m) (.int i)) (rows.take (i + 1)) := fun x => by
  rw [valV_put, markAt_take h]
  by_cases c : m = x
  · subst c
    rw [if_pos rfl, n, if_pos rfl]
    rfl
  · rw [if_neg (fun z => c (by cases z; rfl)), hk x, if_neg (fun z => c (by cases z; rfl))]
    cases markAt (rows.take i) x <;> rfl
def spMarksIn (S : Hp → Addr → List V → Prop) : Sp := fun vs H Q _ => ∃ (a : Addr) (l : List V) (rows : List Row), vs = [.ref a] ∧ S H a l ∧ Tps H l (rows.map Row.parts) ∧ rows.length ≤ 200 ∧
  ∀ H' z kvs, Same H H' → H z = none → H' z = some (.dK kvs) → MarksK kvs rows → Q (.ref z) H'
theorem sc_marks_in : FnScope ["rows", "places", "place", "row"] ["rows"] (defScope st_marks_in) := ⟨rfl, rfl, rfl, by decide +kernel, rfl, by decide +kernel, by decide +kernel⟩
theorem ok_marks_in (E : Txt K mg) : FnOk P w K mg base CX0 1 (fAd at_marks_in K) (fdOf at_marks_in K) ["rows"] (spMarksIn fun H a l => H a = some (.lst l)) := by
  refine FunD.ok0 E.fd_marks_in sc_marks_in (fun vs H Q E0 h => ?_) (fun cdv A outer s H vs Q E0 hr h => ?_)
  · obtain ⟨a, l, rows, rfl, _⟩ := h
    rfl
  · obtain ⟨a, l, rows, rfl, hS, hT, hl, q⟩ := h
    refine ⟨_, (pss_cons (ps_set (i := 1) sc_marks_in.nd rfl (Or.inl rfl) pe_dnewK)
      (pss_cons (ps_for PassesOwn.never rfl (pi_enum (by rfl) E.f_enumerate (pa_cons (pv 0) pa_nil)) (pg_tup rfl (pgs_cons (pg_name (i := 2) sc_marks_in.nd rfl (Or.inl rfl)) (pgs_cons (pg_name (i := 3) sc_marks_in.nd rfl (Or.inl rfl)) pgs_nil))) (pss_one (ps_if (PW.pt (pw_and (pt_cmpR op_notN (pv 3) pe_non (nomark _)) (pw_and (pt_cmpR op_eq (pe_ix ix_tup (pv 3) pe_int (fun _ _ => rfl)) pe_str (nomark _)) (pw_and1 (pt_cmp (pc_dnotin (hu_of hr) (pe_ix ix_tup (pv 3) pe_int (fun _ _ => rfl)) (pv 1)) (by rfl)))))) (pss_one (ps_dput (hu_of hr) (pv 1) (pe_ix ix_tup (pv 3) pe_int (fun _ _ => rfl)) (pv 2) rfl)) pss_nil)))
      (pss_one (ps_ret (pv 1))))), ?_⟩
    refine fun z hz => ?_
    have s0 : Same H (upd H z (.dK [])) := upd_same_of_none hz
    have ll : l.length = rows.length := by rw [hT.len, List.length_map]
    refine ⟨_, rfl, a, l, rfl, SqL.of (s0 _ _ hS), ?_⟩
    refine for_it (walk_enum (xs := l)) (fun i σ H2 => ∃ (u2 u3 : Option V) (kvs : List (Key × V)), σ = [some (.ref a), some (.ref z), u2, u3] ∧ H2 z = some (.dK kvs) ∧ kvs.length ≤ i ∧ MarksK kvs (rows.take i) ∧ Same H H2)
      ⟨none, none, [], rfl, upd_same, Nat.le_refl _, fun m => rfl, s0⟩ (fun i σ H2 _ ⟨_, _, _, _, _, _, _, s⟩ => SqL.of (s _ _ hS)) ?_ ?_
    · rintro i v σ H3 H2 hi ⟨u2, u3, kvs, rfl, g1, g2, g3, g4⟩ ⟨T, x, y, rfl, hT', rfl, hx, hy⟩
      cases hx
      have hi2 : i < rows.length := by omega
      have er := List.getElem?_eq_getElem hi2
      generalize rows[i] = r at er
      obtain ⟨ra, e1, e2⟩ := hT.get (i := i) (x := r.parts) (by rw [List.getElem?_map, er]; rfl)
      dsimp only at hy
      rw [e1] at hy
      cases hy
      have s2 : Same H3 (upd H3 T (.tup [.int i, .ref ra])) := upd_same_of_none hT'
      have hra : (upd H3 T (.tup [.int i, .ref ra])) ra = some (.tup r.parts) := s2 _ _ (g4 _ _ e2)
      have g1' := s2 _ _ g1
      refine ⟨T, _, rfl, SqT.of upd_same, rfl, _, _, rfl, _, _, rfl, rfl, ?_⟩
      refine ⟨_, rfl, rfl, _, rfl, iteT ?_⟩
      refine ⟨_, rfl, ra, _, 0, .str r.head, rfl, rfl, SqT.of hra, row0, rfl, _, rfl, ifd (fun c => ?_) fun c => ?_⟩
      · have ht := tag_of (n := 18) c (by decide +kernel)
        cases r <;> first | (simp [Row.tag] at ht; done) | skip
        rename_i m
        have dg : DGet (upd H3 T (.tup [.int i, .ref ra])) z (.str m) (valV kvs (Sum.inr m)) := DGet.k (k := Sum.inr m) g1'
        refine ⟨_, rfl, ra, _, 1, .str m, rfl, rfl, SqT.of hra, rfl, _, rfl, z, _, rfl, dg, _, rfl, ?_⟩
        rw [g3 m]
        cases em : markAt (rows.take i) m with
        | some j => exact iteF ⟨_, _, kvs, rfl, g1', by omega, marks_skip er g3 fun x ex => by cases ex; rw [em]; rfl, g4.trans s2⟩
        | none =>
          refine iteT ⟨_, rfl, _, rfl, _, rfl, ra, _, 1, .str m, rfl, rfl, SqT.of hra, rfl, z, _, rfl, DPut.k (k := Sum.inr m) g1' (line1000 (by omega)), ?_⟩
          refine ⟨_, _, _, rfl, upd_same, ?_, marks_put er g3 em, fun b o e => ?_⟩
          · rw [putK_new _ (by rw [g3 m, em]; rfl), List.length_append]
            show kvs.length + 1 ≤ i + 1
            omega
          · rw [upd_ne (ne_of_none e hz)]
            exact s2 _ _ (g4 b o e)
      · refine ⟨_, _, kvs, rfl, g1', by omega, marks_skip er g3 fun x ex => absurd (by rw [ex]; rfl) c, g4.trans s2⟩
    · rintro σ H2 ⟨u2, u3, kvs, rfl, g1, g2, g3, g4⟩
      rw [ll, List.take_length] at g3
      exact ⟨_, rfl, q H2 z kvs g4 hz g1 g3⟩
namespace T
theorem ok_marks_in (E : Txt K mg) : FnOk P w K mg base CX0 1 (fAd at_marks_in K) (fdOf at_marks_in K) ["rows"] (spMarksIn fun H a l => H a = some (.tup l)) := by
  refine FunD.ok0 E.fd_marks_in sc_marks_in (fun vs H Q E0 h => ?_) (fun cdv A outer s H vs Q E0 hr h => ?_)
  · obtain ⟨a, l, rows, rfl, _⟩ := h
    rfl
  · obtain ⟨a, l, rows, rfl, hS, hT, hl, q⟩ := h
    refine ⟨_, (pss_cons (ps_set (i := 1) sc_marks_in.nd rfl (Or.inl rfl) pe_dnewK)
      (pss_cons (ps_for PassesOwn.never rfl (pi_enumT (by rfl) E.f_enumerate (pa_cons (pv 0) pa_nil)) (pg_tup rfl (pgs_cons (pg_name (i := 2) sc_marks_in.nd rfl (Or.inl rfl)) (pgs_cons (pg_name (i := 3) sc_marks_in.nd rfl (Or.inl rfl)) pgs_nil))) (pss_one (ps_if (PW.pt (pw_and (pt_cmpR op_notN (pv 3) pe_non (nomark _)) (pw_and (pt_cmpR op_eq (pe_ix ix_tup (pv 3) pe_int (fun _ _ => rfl)) pe_str (nomark _)) (pw_and1 (pt_cmp (pc_dnotin (hu_of hr) (pe_ix ix_tup (pv 3) pe_int (fun _ _ => rfl)) (pv 1)) (by rfl)))))) (pss_one (ps_dput (hu_of hr) (pv 1) (pe_ix ix_tup (pv 3) pe_int (fun _ _ => rfl)) (pv 2) rfl)) pss_nil)))
      (pss_one (ps_ret (pv 1))))), ?_⟩
    refine fun z hz => ?_
    have s0 : Same H (upd H z (.dK [])) := upd_same_of_none hz
    have ll : l.length = rows.length := by rw [hT.len, List.length_map]
    refine ⟨_, rfl, a, l, rfl, SqT.of (s0 _ _ hS), ?_⟩
    refine for_it (walk_enumT (xs := l)) (fun i σ H2 => ∃ (u2 u3 : Option V) (kvs : List (Key × V)), σ = [some (.ref a), some (.ref z), u2, u3] ∧ H2 z = some (.dK kvs) ∧ kvs.length ≤ i ∧ MarksK kvs (rows.take i) ∧ Same H H2)
      ⟨none, none, [], rfl, upd_same, Nat.le_refl _, fun m => rfl, s0⟩ (fun i σ H2 _ ⟨_, _, _, _, _, _, _, s⟩ => SqT.of (s _ _ hS)) ?_ ?_
    · rintro i v σ H3 H2 hi ⟨u2, u3, kvs, rfl, g1, g2, g3, g4⟩ ⟨T, x, y, rfl, hT', rfl, hx, hy⟩
      cases hx
      have hi2 : i < rows.length := by omega
      have er := List.getElem?_eq_getElem hi2
      generalize rows[i] = r at er
      obtain ⟨ra, e1, e2⟩ := hT.get (i := i) (x := r.parts) (by rw [List.getElem?_map, er]; rfl)
      dsimp only at hy
      rw [e1] at hy
      cases hy
      have s2 : Same H3 (upd H3 T (.tup [.int i, .ref ra])) := upd_same_of_none hT'
      have hra : (upd H3 T (.tup [.int i, .ref ra])) ra = some (.tup r.parts) := s2 _ _ (g4 _ _ e2)
      have g1' := s2 _ _ g1
      refine ⟨T, _, rfl, SqT.of upd_same, rfl, _, _, rfl, _, _, rfl, rfl, ?_⟩
      refine ⟨_, rfl, rfl, _, rfl, iteT ?_⟩
      refine ⟨_, rfl, ra, _, 0, .str r.head, rfl, rfl, SqT.of hra, row0, rfl, _, rfl, ifd (fun c => ?_) fun c => ?_⟩
      · have ht := tag_of (n := 18) c (by decide +kernel)
        cases r <;> first | (simp [Row.tag] at ht; done) | skip
        rename_i m
        have dg : DGet (upd H3 T (.tup [.int i, .ref ra])) z (.str m) (valV kvs (Sum.inr m)) := DGet.k (k := Sum.inr m) g1'
        refine ⟨_, rfl, ra, _, 1, .str m, rfl, rfl, SqT.of hra, rfl, _, rfl, z, _, rfl, dg, _, rfl, ?_⟩
        rw [g3 m]
        cases em : markAt (rows.take i) m with
        | some j => exact iteF ⟨_, _, kvs, rfl, g1', by omega, marks_skip er g3 fun x ex => by cases ex; rw [em]; rfl, g4.trans s2⟩
        | none =>
          refine iteT ⟨_, rfl, _, rfl, _, rfl, ra, _, 1, .str m, rfl, rfl, SqT.of hra, rfl, z, _, rfl, DPut.k (k := Sum.inr m) g1' (line1000 (by omega)), ?_⟩
          refine ⟨_, _, _, rfl, upd_same, ?_, marks_put er g3 em, fun b o e => ?_⟩
          · rw [putK_new _ (by rw [g3 m, em]; rfl), List.length_append]
            show kvs.length + 1 ≤ i + 1
            omega
          · rw [upd_ne (ne_of_none e hz)]
            exact s2 _ _ (g4 b o e)
      · refine ⟨_, _, kvs, rfl, g1', by omega, marks_skip er g3 fun x ex => absurd (by rw [ex]; rfl) c, g4.trans s2⟩
    · rintro σ H2 ⟨u2, u3, kvs, rfl, g1, g2, g3, g4⟩
      rw [ll, List.take_length] at g3
      exact ⟨_, rfl, q H2 z kvs g4 hz g1 g3⟩
end T

structure Uniq (rows : List Row) : Prop where
  at_ : ∀ i m, rows[i]? = some (.mark m) → markAt rows m = some i
def spReadProg (K : PySem.W.Frag) : Sp := fun vs H Q _ => ∃ rows : List Row, vs = [.str (progText rows)] ∧ Rows rows ∧ Uniq rows ∧ rows ≠ [] ∧ ∀ H' z l, Same H H' → H z = none → H' z = some (.tup l) → Tps H' l (rows.map Row.parts) → Q (.ref z) H'
theorem sc_read_program : FnScope ["text", "texts", "rows", "one", "places", "place", "row"] ["text"] (defScope st_read_program) := ⟨rfl, rfl, rfl, by decide +kernel, rfl, by decide +kernel, by decide +kernel⟩
theorem ok_read_program (E : Txt K mg) : FnOk P w K mg base CX0 5 (fAd at_read_program K) (fdOf at_read_program K) ["text"] (spReadProg K) := by
  refine FunD.ok0 E.fd_read_program sc_read_program (fun vs H Q E0 h => ?_) (fun cdv A outer s H vs Q E0 hr h => ?_)
  · obtain ⟨rows, rfl, _⟩ := h
    rfl
  · obtain ⟨rows, rfl, R, U, ne, q⟩ := h
    refine ⟨_, (pss_cons (ps_set (i := 1) sc_read_program.nd rfl (Or.inl rfl) (pe_split (pv 0) pe_str))
      (pss_cons (ps_setLc (i := 2) (own := [("one", 3)]) rfl sc_read_program.nd rfl rfl (sw_true rfl rfl rfl (by decide +kernel)) (pi_list (pv 1)) (blkOk_by (own := [("one", 3)]) (N := ["text", "texts", "rows", "one", "places", "place", "row"]) (sc := (defScope st_read_program)) (by decide +kernel)) (fun _ _ _ _ _ => (pg_name (i := 3) sc_read_program.nd rfl (Or.inl rfl))) (fun _ _ _ _ _ => pts_nil) (fun _ _ _ _ _ => by exact ((pe_call (ok_row_in E) (hr.mono (by decide)) (by rfl) E.g_row_in E.fd_row_in.kp E.b_row_in .nil pass0 (pa_cons (pv 3) pa_nil)))))
      (pss_cons (ps_set (i := 4) sc_read_program.nd rfl (Or.inl rfl) (pe_call (ok_marks_in E) (hr.mono (by decide)) (by rfl) E.g_marks_in E.fd_marks_in.kp E.b_marks_in .nil pass0 (pa_cons (pv 2) pa_nil)))
      (pss_cons (ps_for PassesOwn.never rfl (pi_enum (by rfl) E.f_enumerate (pa_cons (pv 2) pa_nil)) (pg_tup rfl (pgs_cons (pg_name (i := 5) sc_read_program.nd rfl (Or.inl rfl)) (pgs_cons (pg_name (i := 6) sc_read_program.nd rfl (Or.inl rfl)) pgs_nil))) (pss_cons (ps_if (PW.pt (pw_or (pt_cmpR op_isN (pv 6) pe_non (nomark _)) (pw_or1 (pt_cmpR op_ge (pv 5) (pe_gi E.i_MOST_ROWS) (nomark _))))) (pss_one ps_never) pss_nil)
      (pss_cons (ps_if (PW.pt (pw_and (pt_cmpR op_eq (pe_ix ix_tup (pv 6) pe_int (fun _ _ => rfl)) pe_str (nomark _)) (pw_and1 (pt_cmpR op_ne (pe_dget (hu_of hr) (pv 4) (pe_ix ix_tup (pv 6) pe_int (fun _ _ => rfl)) (fun _ _ => rfl)) (pv 5) (nomark _))))) (pss_one ps_never) pss_nil)
      (pss_one (ps_if (PW.pt (pw_and (pt_cmpR op_notN (pe_call (ok_mark_of E) (hr.mono (by decide)) (by rfl) E.g_mark_of E.fd_mark_of.kp E.b_mark_of .nil pass0 (pa_cons (pv 6) pa_nil)) pe_non (nomark _)) (pw_and1 (pt_cmp (pc_dnotin (hu_of hr) (pe_call (ok_mark_of E) (hr.mono (by decide)) (by rfl) E.g_mark_of E.fd_mark_of.kp E.b_mark_of .nil pass0 (pa_cons (pv 6) pa_nil)) (pv 4)) (by rfl))))) (pss_one ps_never) pss_nil)))))
      (pss_one (ps_ret (pe_callTy call_tuple_of (by rfl) E.f_tuple (by decide +kernel) (pa_cons (pv 2) pa_nil)))))))), ?_⟩
    have tlen := progText_len R.ok R.len
    refine ⟨_, rfl, ⟨_, rfl⟩, _, _, rfl, rfl, by decide +kernel, Nat.le_of_lt (line1000 (show (progText rows).length + 2 ≤ 100000 by omega)), fun a ha => ?_⟩
    rw [prog_split R.ok ne]
    have s0 : Same H (upd H a (.lst ((rows.map rowText).map V.str))) := upd_same_of_none ha
    have wl : (upd H a (.lst ((rows.map rowText).map V.str))) a = some (.lst ((rows.map rowText).map V.str)) := upd_same
    generalize upd H a (.lst ((rows.map rowText).map V.str)) = H0 at s0 wl ⊢
    have el : ((rows.map rowText).map V.str).length = rows.length := by rw [List.length_map, List.length_map]
    have rlen := R.len
    refine ⟨_, rfl, a, rfl, ⟨_, SqL.of wl⟩, fun D hD => ?_⟩
    refine lc_it (walk_list (xs := (rows.map rowText).map V.str)) (fun i H2 => (∃ acc, H2 D = some (.lst acc) ∧ Tps H2 acc ((rows.take i).map Row.parts)) ∧ Same H0 H2) ⟨⟨[], upd_same, ⟨rfl, fun i v x e => by cases e⟩⟩, upd_same_of_none hD⟩ (fun i H2 _ z => SqL.of (z.2 _ _ wl)) ?_ ?_
    · rintro i v H3 H2 hi ⟨⟨acc, g1, g2⟩, g3⟩ ⟨rfl, hv⟩
      have hi2 : i < rows.length := by omega
      have er := List.getElem?_eq_getElem hi2
      have rm : rows[i] ∈ rows := List.getElem_mem hi2
      generalize rows[i] = r at er rm
      rw [List.getElem?_map, List.getElem?_map, er] at hv
      cases hv
      refine ⟨rfl, _, rfl, r, rfl, R.ok r rm, fun H4 z s4 hz hz4 => ?_⟩
      refine ⟨acc, s4 _ _ g1, ?_, ⟨_, upd_same, ?_⟩, fun b o e => ?_⟩
      · rw [g2.len, List.length_map, List.length_take]
        exact line1000 (by omega)
      · rw [take_sub er, List.map_append]
        have nzD : z ≠ D := fun e => by
          rw [e, g1] at hz
          cases hz
        exact ((g2.mono (Tups.of s4)).mono (Tups.upd (s4 _ _ g1) fun _ x => by cases x)).snoc (by rw [upd_ne nzD]; exact hz4)
      · rw [upd_ne (ne_of_none e hD)]
        exact s4 _ _ (g3 b o e)
    · rintro H2 ⟨⟨acc, g1, g2⟩, g3⟩
      rw [el, List.take_length] at g2
      refine ⟨_, rfl, D, acc, rows, rfl, g1, g2, R.len, fun H3 z kvs s3 hz hz3 mk => ?_⟩
      have g1' := s3 _ _ g1
      have T2 := g2.mono (Tups.of s3)
      refine ⟨_, rfl, D, acc, rfl, SqL.of g1', ?_⟩
      have al : acc.length = rows.length := by rw [g2.len, List.length_map]
      refine for_it (walk_enum (xs := acc)) (fun i σ H4 => ∃ (u3 u5 u6 : Option V), σ = [some (.str (progText rows)), some (.ref a), some (.ref D), u3, some (.ref z), u5, u6] ∧ Same H3 H4) ⟨none, none, none, rfl, fun _ _ e => e⟩ (fun i σ H4 _ ⟨_, _, _, _, s⟩ => SqL.of (s _ _ g1')) ?_ ?_
      · rintro i v σ H5 H4 hi ⟨u3, u5, u6, rfl, g4⟩ ⟨T, x, y, rfl, hT', rfl, hx, hy⟩
        cases hx
        have hi2 : i < rows.length := by omega
        have er := List.getElem?_eq_getElem hi2
        have rm : rows[i] ∈ rows := List.getElem_mem hi2
        generalize rows[i] = r at er rm
        obtain ⟨ra, e1, e2⟩ := T2.get (i := i) (x := r.parts) (by rw [List.getElem?_map, er]; rfl)
        dsimp only at hy
        rw [e1] at hy
        cases hy
        have s5 : Same H5 (upd H5 T (.tup [.int i, .ref ra])) := upd_same_of_none hT'
        have hra : (upd H5 T (.tup [.int i, .ref ra])) ra = some (.tup r.parts) := s5 _ _ (g4 _ _ e2)
        have hz5 := s5 _ _ (g4 _ _ hz3)
        refine ⟨T, _, rfl, SqT.of upd_same, rfl, _, _, rfl, _, _, rfl, rfl, ?_⟩
        replace g4 := g4.trans s5
        generalize upd H5 T (.tup [.int i, .ref ra]) = H6 at g4 hra hz5 ⊢
        refine ⟨_, rfl, rfl, _, rfl, iteF ⟨_, rfl, _, _, rfl, rfl, _, rfl, ifd (fun c => absurd c (by omega)) fun _ => ?_⟩⟩
        unfold tNext
        dsimp only
        refine seq_meet (fun σ' H' => σ' = [some (.str (progText rows)), some (.ref a), some (.ref D), u3, some (.ref z), some (.int i), some (.ref ra)] ∧ H' = H6) (fun N hN => ?_) ?_
        · refine ⟨_, rfl, ra, _, 0, .str r.head, rfl, rfl, SqT.of hra, row0, rfl, _, rfl, ifd (fun c => ?_) fun c => hN _ _ ⟨rfl, rfl⟩⟩
          have ht := tag_of (n := 18) c (by decide +kernel)
          cases r <;> first | (simp [Row.tag] at ht; done) | skip
          rename_i m
          have em := U.at_ i m er
          have dg : DGet H6 z (.str m) (valV kvs (Sum.inr m)) := DGet.k (k := Sum.inr m) hz5
          rw [mk m, em] at dg
          exact ⟨_, rfl, _, rfl, ra, _, 1, .str m, rfl, rfl, SqT.of hra, rfl, z, _, rfl, dg, _, rfl, rfl, _, rfl, ifnd (fun c => absurd rfl c) fun _ => hN _ _ ⟨rfl, rfl⟩⟩
        · rintro _ _ ⟨rfl, rfl⟩
          refine ⟨_, rfl, ra, r, rfl, hra, fun H7 s7 => ?_⟩
          refine ⟨rfl, _, rfl, ?_⟩
          unfold Row.goalV
          cases ej : r.jumps with
          | false => exact iteF ⟨_, _, _, rfl, g4.trans s7⟩
          | true =>
            refine iteT ⟨_, rfl, ra, r, rfl, s7 _ _ hra, fun H8 s8 => ?_⟩
            unfold Row.goalV
            rw [ej, if_pos rfl]
            obtain ⟨j, hj, _⟩ := markAt_some (R.goal r rm ej)
            have dg : DGet H8 z (.str r.goal) (valV kvs (Sum.inr r.goal)) := DGet.k (k := Sum.inr r.goal) (s8 _ _ (s7 _ _ hz5))
            rw [mk, hj] at dg
            exact ⟨_, rfl, z, _, rfl, dg, _, rfl, iteF ⟨_, _, _, rfl, (g4.trans s7).trans s8⟩⟩
      · rintro σ H4 ⟨u3, u5, u6, rfl, g4⟩
        refine ⟨_, rfl, D, acc, rfl, Or.inl ⟨SqL.of (g4 _ _ g1'), fun t ht => ?_⟩⟩
        have s9 := ((s0.trans g3).trans s3).trans g4
        refine q _ t acc (s9.trans (upd_same_of_none ht)) (s9.free ht) upd_same ?_
        exact (T2.mono (Tups.of g4)).mono (Tups.of (upd_same_of_none ht))
end
end Sh
end

section
set_option Elab.async false
set_option linter.all false
set_option maxRecDepth 100000
set_option maxHeartbeats 4000000
/-! The law's numbers and rows. -/
namespace Sh
open PySem PySem.Spec PyProof.Rows L2
open TL (tl numL tl_num tl_ofString numL_lt numL_step numL_len numL_free numL_val numL_digits numL_ne joinL join_eq tl_join len_tl split_join tl_append ext_tl)
theorem sqL_same {K : PySem.W.Frag} {H H' : Hp} {a : Addr} {xs : List V} (h : SqL K H a xs) (s : Same H H') : SqL K H' a xs := h.imp (fun r => Rd.same r s) id
theorem gN {i : Nat} {v : V} {σ : L2.St} {H : Hp} {Q : L2.St → Hp → Prop} (h : Q (σ.set i (some v)) H) : gName i v σ H Q := h
theorem ifI {c : Bool} {A B : Prop} (h1 : c = true → A) (h2 : c = false → B) : if c = true then A else B := by
  cases c with
  | true => exact h1 rfl
  | false => exact h2 rfl
theorem Tps.nil {H : Hp} : Tps H [] [] := ⟨rfl, fun i v x e => by cases e⟩
theorem Tps.cons {H : Hp} {l : List V} {xs : List (List V)} {a : Addr} {x : List V} (ha : H a = some (.tup x)) (h : Tps H l xs) : Tps H (.ref a :: l) (x :: xs) := by
  refine ⟨by rw [List.length_cons, List.length_cons, h.len], fun i v y h1 h2 => ?_⟩
  cases i with
  | zero =>
    cases h1
    cases h2
    exact ⟨a, rfl, ha⟩
  | succ n => exact h.at_ n v y h1 h2
section
variable {P : Program} {w : World} {K : PySem.W.Frag} {mg : Str → Option Value} {base : Heap}
def Small (ms : List Int) : Prop := ∀ m ∈ ms, 0 ≤ m ∧ m < 65536
def spNumbers (K : PySem.W.Frag) : Sp := fun vs H Q _ => ∃ (a : Addr) (ns : List Int), vs = [.ref a, .int 90] ∧ SqL K H a (ns.map V.int) ∧ ns.length ≤ 63 ∧ ∀ H' z ms, Same H H' → H z = none → H' z = some (.lst (ms.map V.int)) → Small ms → ms.length ≤ 90 → Q (.ref z) H'
theorem sc_law_numbers : FnScope ["script", "most", "found", "k", "near", "turn"] ["script", "most"] (defScope st_law_numbers) := ⟨rfl, rfl, rfl, by decide +kernel, rfl, by decide +kernel, by decide +kernel⟩
theorem ok_law_numbers (E : Txt K mg) : FnOk P w K mg base CX0 1 (fAd at_law_numbers K) (fdOf at_law_numbers K) ["script", "most"] (spNumbers K) := by
  refine FunD.ok0 E.fd_law_numbers sc_law_numbers (fun vs H Q E0 h => ?_) (fun cdv A outer s H vs Q E0 hr h => ?_)
  · obtain ⟨a, ns, rfl, _⟩ := h
    rfl
  · obtain ⟨a, ns, rfl, hS, hl, q⟩ := h
    refine ⟨_, (pss_cons (ps_set (i := 2) sc_law_numbers.nd rfl (Or.inl rfl) (pe_lst pa_nil))
      (pss_cons (ps_for PassesOwn.never rfl (pi_range1 (by rfl) E.f_range (pa_cons (pe_callB call_len (by rfl) E.f_len PySem.boot_len (pa_cons (pv 0) pa_nil)) pa_nil)) (pg_name (i := 3) sc_law_numbers.nd rfl (Or.inl rfl)) (pss_cons (ps_set (i := 4) sc_law_numbers.nd rfl (Or.inl rfl) (pe_op op_mod (pe_ix ix_list (pv 0) (pv 3) (fun _ _ => rfl)) pe_int))
      (pss_cons (ps_if (pt_cmpR op_eq (pe_op op_mod (pe_ix ix_list (pv 0) pe_int (fun _ _ => rfl)) pe_int) pe_int (nomark _)) (pss_cons (ps_set (i := 4) sc_law_numbers.nd rfl (Or.inl rfl) (pe_op op_mod (pe_op op_mul (pe_op op_add (pe_op op_add (pv 4) (pe_op op_mul pe_int (pv 3))) pe_int) pe_int) pe_int))
      (pss_one (ps_set (i := 4) sc_law_numbers.nd rfl (Or.inl rfl) (pe_op op_mod (pe_op op_mul (pv 4) (pv 4)) pe_int)))) pss_nil)
      (pss_one (ps_for PassesOwn.never rfl (pi_range1 (by rfl) E.f_range (pa_cons pe_int pa_nil)) (pg_name (i := 5) sc_law_numbers.nd rfl (Or.inl rfl)) (pss_cons (ps_if (PW.pt (pw_or (pt_cmpR op_eq (pv 5) pe_int (nomark _)) (pw_or1 (pt_cmpR op_gt (pv 4) pe_int (nomark _))))) (pss_one (ps_expr (pe_bm PySem.F.plainAttrs_list PySem.F.slot_list_append PySem.F.type_list_append mt_append (pv 2) (pa_cons (pe_op op_mod (pv 4) pe_int) pa_nil)))) pss_nil)
      (pss_one (ps_set (i := 4) sc_law_numbers.nd rfl (Or.inl rfl) (pe_op op_fdiv (pv 4) pe_int)))))))))
      (pss_one (ps_ret (pe_slice sl_list (pv 2) po_none (po_some (pv 1))))))), ?_⟩
    dsimp only [cxOf]
    refine ⟨by decide, fun f hf => ?_⟩
    have s0 : Same H (upd H f (.lst [])) := upd_same_of_none hf
    have el : (ns.map V.int).length = ns.length := List.length_map _
    have sq : ∀ {H2 : Hp}, Same H H2 → SqL K H2 a (ns.map V.int) := fun s => sqL_same hS s
    refine ⟨_, rfl, _, _, rfl, Or.inl ⟨_, sq s0, rfl⟩, ((ns.map V.int).length : Int), rfl, by omega, by omega, ?_⟩
    rw [Int.toNat_natCast, el]
    refine for_it (walk_range (lo := 0) (n := ns.length)) (fun i σ H2 => ∃ (u3 u4 u5 : Option V) (ms : List Int), σ = [some (.ref a), some (.int 90), some (.ref f), u3, u4, u5] ∧ H2 f = some (.lst (ms.map V.int)) ∧ Small ms ∧ ms.length ≤ 3 * i ∧ Same H H2)
      ⟨none, none, none, [], rfl, upd_same, fun m hm => by (cases hm), Nat.le_refl _, s0⟩ (fun _ _ _ _ _ => trivial) ?_ ?_
    · rintro i v σ H3 H2 hi ⟨u3, u4, u5, ms, rfl, g1, g2, g3, g4⟩ ⟨rfl, rfl⟩
      have hn0 : ns[0]? = some (ns[0]'(by omega)) := List.getElem?_eq_getElem (by omega)
      generalize ns[0]'(by omega) = n0 at hn0
      have hni := List.getElem?_eq_getElem hi
      generalize ns[i] = ni at hni
      have a0 : atI (ns.map V.int) 0 = some (.int n0) := at_int (by decide) (by rw [List.getElem?_map]; show Option.map V.int ns[0]? = _; rw [hn0]; rfl)
      have ai : atI (ns.map V.int) (0 + (i : Int)) = some (.int ni) := at_int (by omega) (by rw [show (0 + (i : Int)).toNat = i from by omega, List.getElem?_map, hni]; rfl)
      refine ⟨_, rfl, _, rfl, a, _, _, _, rfl, rfl, sq g4, ai, _, _, rfl, rfl, (by show (0 : Int) < _; decide), ?_⟩
      refine gN ?_
      dsimp only
      refine seq_meet (fun σ' H' => H' = H2 ∧ ∃ near, σ' = [some (.ref a), some (.int 90), some (.ref f), some (.int (0 + (i : Int))), some (.int near), u5]) (fun N hN => ?_) ?_
      · refine ⟨_, rfl, a, _, 0, .int n0, rfl, rfl, sq g4, a0, _, _, rfl, rfl, (by show (0 : Int) < _; decide), rfl, _, rfl, ?_⟩
        refine ifI (fun _ => ?_) fun _ => hN _ _ ⟨rfl, _, rfl⟩
        refine ⟨_, rfl, _, rfl, _, _, rfl, rfl, Or.inl (by decide), _, _, rfl, rfl, _, _, rfl, rfl, _, _, rfl, rfl, Or.inr (by decide), _, _, rfl, rfl, (by show (0 : Int) < _; decide), ?_⟩
        refine ⟨_, rfl, _, rfl, _, _, rfl, rfl, Or.inl (by omega), _, _, rfl, rfl, (by show (0 : Int) < _; decide), hN _ _ ⟨rfl, _, rfl⟩⟩
      · rintro _ _ ⟨rfl, near, rfl⟩
        refine ⟨3, rfl, by decide, by decide, ?_⟩
        refine for_it (walk_range (lo := 0) (n := 3)) (fun j σ H2 => ∃ (u5 : Option V) (near : Int) (ms : List Int), σ = [some (.ref a), some (.int 90), some (.ref f), some (.int (0 + (i : Int))), some (.int near), u5] ∧ H2 f = some (.lst (ms.map V.int)) ∧ Small ms ∧ ms.length ≤ 3 * i + j ∧ Same H H2)
          ⟨_, near, ms, rfl, g1, g2, g3, g4⟩ (fun _ _ _ _ _ => trivial) ?_ ?_
        · rintro j v σ H5 H4 hj ⟨u5, near, ms, rfl, k1, k2, k3, k4⟩ ⟨rfl, rfl⟩
          refine gN ?_
          dsimp only
          refine seq_meet (fun σ' H' => ∃ (ms : List Int), σ' = [some (.ref a), some (.int 90), some (.ref f), some (.int (0 + (i : Int))), some (.int near), some (.int (0 + (j : Int)))] ∧ H' f = some (.lst (ms.map V.int)) ∧ Small ms ∧ ms.length ≤ 3 * i + (j + 1) ∧ Same H H') (fun N hN => ?_) ?_
          · refine ⟨_, rfl, rfl, _, rfl, ifI (fun _ => ?_) fun _ => ⟨_, rfl, _, _, rfl, rfl, _, rfl, ifd (fun c => ?_) fun _ => hN _ _ ⟨ms, rfl, k1, k2, by omega, k4⟩⟩⟩
            · refine ⟨_, rfl, Or.inl ⟨rfl, _, Or.inl (Or.inl k1)⟩, _, rfl, _, _, rfl, rfl, (by show (0 : Int) < _; decide), f, _, _, rfl, rfl, k1, line1000 (by rw [List.length_map]; omega), hN _ _ ⟨ms ++ [near % 65536], rfl, ?_, ?_, ?_, fun b o e => ?_⟩⟩
              · rw [upd_same, List.map_append]
                rfl
              · intro m hm
                rcases List.mem_append.mp hm with z | z
                · exact k2 m z
                · rw [List.mem_singleton.mp z]
                  omega
              · rw [List.length_append]
                show ms.length + 1 ≤ _
                omega
              · rw [upd_ne (ne_of_none e hf)]
                exact k4 b o e
            · refine ⟨_, rfl, Or.inl ⟨rfl, _, Or.inl (Or.inl k1)⟩, _, rfl, _, _, rfl, rfl, (by show (0 : Int) < _; decide), f, _, _, rfl, rfl, k1, line1000 (by rw [List.length_map]; omega), hN _ _ ⟨ms ++ [near % 65536], rfl, ?_, ?_, ?_, fun b o e => ?_⟩⟩
              · rw [upd_same, List.map_append]
                rfl
              · intro m hm
                rcases List.mem_append.mp hm with z | z
                · exact k2 m z
                · rw [List.mem_singleton.mp z]
                  omega
              · rw [List.length_append]
                show ms.length + 1 ≤ _
                omega
              · rw [upd_ne (ne_of_none e hf)]
                exact k4 b o e
          · rintro _ H6 ⟨ms2, rfl, m1, m2, m3, m4⟩
            exact ⟨_, rfl, _, _, rfl, rfl, ⟨by decide, by decide⟩, _, _, ms2, rfl, m1, m2, m3, m4⟩
        · rintro σ H4 ⟨u5, near, ms, rfl, k1, k2, k3, k4⟩
          exact ⟨_, _, _, ms, rfl, k1, k2, by omega, k4⟩
    · rintro σ H2 ⟨u3, u4, u5, ms, rfl, g1, g2, g3, g4⟩
      refine ⟨_, rfl, _, rfl, 90, rfl, f, _, rfl, SqL.of g1, fun z hz => ?_⟩
      have ec : cutV (ms.map V.int) none (some 90) = (ms.take 90).map V.int := by
        show ((ms.map V.int).drop 0).take (min 90 (ms.map V.int).length - 0) = _
        rw [List.drop_zero, Nat.sub_zero, List.length_map, ← List.map_take]
        congr 1
        by_cases c : ms.length ≤ 90
        · rw [Nat.min_eq_right c, List.take_length, List.take_of_length_le c]
        · rw [Nat.min_eq_left (by omega)]
      rw [ec]
      refine q _ z (ms.take 90) (g4.trans (upd_same_of_none hz)) (g4.free hz) upd_same (fun m hm => g2 m (List.mem_of_mem_take hm)) (by rw [List.length_take]; omega)
end
end Sh
end

section
set_option Elab.async false
set_option linter.all false
set_option maxRecDepth 100000
set_option maxHeartbeats 4000000
/-! The law's row. -/
namespace Sh
open PySem PySem.Spec PyProof.Rows L2
section
variable {P : Program} {w : World} {K : PySem.W.Frag} {mg : Str → Option Value} {base : Heap}
theorem eight {c : Int} (h : 0 ≤ c ∧ c < 8) : ∃ v, atI [V.int 2, V.int 3, V.int 1, V.int 4, V.int 2, V.int 0, V.int 6, V.int 3] c = some (.int v) ∧ 0 ≤ v ∧ v ≤ 6 := by
  rcases (show c = 0 ∨ c = 1 ∨ c = 2 ∨ c = 3 ∨ c = 4 ∨ c = 5 ∨ c = 6 ∨ c = 7 by omega) with rfl | rfl | rfl | rfl | rfl | rfl | rfl | rfl <;> exact ⟨_, rfl, by decide, by decide⟩
theorem five {c : Int} (h : 0 ≤ c ∧ c < 5) : ∃ x, atI ("abcde" : Str).cps.toList c = some x ∧ isM ⟨#[x]⟩ := by
  have e : ("abcde" : Str).cps.toList = [97, 98, 99, 100, 101] := by decide +kernel
  have ea : (⟨#[97]⟩ : Str) = "a" := by decide +kernel
  have eb : (⟨#[98]⟩ : Str) = "b" := by decide +kernel
  have ec : (⟨#[99]⟩ : Str) = "c" := by decide +kernel
  have ed : (⟨#[100]⟩ : Str) = "d" := by decide +kernel
  have ee : (⟨#[101]⟩ : Str) = "e" := by decide +kernel
  rw [e]
  rcases (show c = 0 ∨ c = 1 ∨ c = 2 ∨ c = 3 ∨ c = 4 by omega) with rfl | rfl | rfl | rfl | rfl
  · exact ⟨_, rfl, Or.inl ea⟩
  · exact ⟨_, rfl, Or.inr (Or.inl eb)⟩
  · exact ⟨_, rfl, Or.inr (Or.inr (Or.inl ec))⟩
  · exact ⟨_, rfl, Or.inr (Or.inr (Or.inr (Or.inl ed)))⟩
  · exact ⟨_, rfl, Or.inr (Or.inr (Or.inr (Or.inr ee)))⟩
def NoMark (r : Row) : Prop := ∀ m, r ≠ .mark m
def spRow : Sp := fun vs H Q _ => ∃ n : Int, vs = [.int n] ∧ (0 ≤ n ∧ n < 65536) ∧ ∀ H' z r, Same H H' → H' z = some (.tup r.parts) → r.Ok → NoMark r → Q (.ref z) H'
theorem sc_law_row : FnScope ["number", "a", "b", "c", "kind", "mark", "some"] ["number"] (defScope st_law_row) := ⟨rfl, rfl, rfl, by decide +kernel, rfl, by decide +kernel, by decide +kernel⟩
theorem ok_law_row (E : Txt K mg) : FnOk P w K mg base CX0 1 (fAd at_law_row K) (fdOf at_law_row K) ["number"] (spRow) := by
  refine FunD.ok0 E.fd_law_row sc_law_row (fun vs H Q E0 h => ?_) (fun cdv A outer s H vs Q E0 hr h => ?_)
  · obtain ⟨n, rfl, _⟩ := h
    rfl
  · obtain ⟨n, rfl, hn, q⟩ := h
    refine ⟨_, (pss_cons (ps_set (i := 1) sc_law_row.nd rfl (Or.inl rfl) (pe_op op_mod (pe_op op_fdiv (pv 0) pe_int) pe_int))
      (pss_cons (ps_set (i := 2) sc_law_row.nd rfl (Or.inl rfl) (pe_op op_mod (pe_op op_fdiv (pv 0) pe_int) pe_int))
      (pss_cons (ps_set (i := 3) sc_law_row.nd rfl (Or.inl rfl) (pe_op op_mod (pe_op op_fdiv (pv 0) pe_int) pe_int))
      (pss_cons (ps_set (i := 4) sc_law_row.nd rfl (Or.inl rfl) (pe_op op_mod (pv 0) pe_int))
      (pss_cons (ps_set (i := 5) sc_law_row.nd rfl (Or.inl rfl) (pe_ix ix_str pe_str (pe_op op_mod (pe_op op_fdiv (pv 0) pe_int) pe_int) (fun _ _ => rfl)))
      (pss_cons (ps_if (pt_cmpR op_lt (pv 4) pe_int (nomark _)) (pss_one (ps_ret (pe_tup (pa_cons pe_str (pa_cons (pv 1) (pa_cons (pe_ix ix_list (pe_lst (pa_cons pe_int (pa_cons pe_int (pa_cons pe_int (pa_cons pe_int (pa_cons pe_int (pa_cons pe_int (pa_cons pe_int (pa_cons pe_int pa_nil))))))))) (pv 3) (fun _ _ => rfl)) pa_nil)))))) pss_nil)
      (pss_cons (ps_if (pt_cmpR op_lt (pv 4) pe_int (nomark _)) (pss_one (ps_ret (pe_tup (pa_cons pe_str (pa_cons (pv 1) (pa_cons (pe_op op_mod (pv 3) pe_int) (pa_cons (pv 2) pa_nil))))))) pss_nil)
      (pss_cons (ps_if (pt_cmpR op_eq (pv 4) pe_int (nomark _)) (pss_one (ps_ret (pe_tup (pa_cons pe_str (pa_cons (pv 1) (pa_cons (pv 2) (pa_cons (pe_op op_mod (pv 3) pe_int) pa_nil))))))) pss_nil)
      (pss_cons (ps_set (i := 6) sc_law_row.nd rfl (Or.inl rfl) (pe_lst (pa_cons (pe_tup (pa_cons pe_str (pa_cons (pv 1) (pa_cons (pv 2) pa_nil)))) (pa_cons (pe_tup (pa_cons pe_str (pa_cons (pv 1) pa_nil))) (pa_cons (pe_tup (pa_cons pe_str (pa_cons (pv 1) (pa_cons (pe_op op_sub (pe_op op_mul (pv 2) pe_int) (pe_op op_mul (pv 3) (pv 3))) pa_nil)))) (pa_cons (pe_tup (pa_cons pe_str (pa_cons (pv 2) (pa_cons (pv 1) pa_nil)))) (pa_cons (pe_tup (pa_cons pe_str (pa_cons (pv 1) (pa_cons (pv 2) pa_nil)))) pa_nil)))))))
      (pss_cons (ps_set (i := 6) sc_law_row.nd rfl (Or.inl rfl) (pe_op op_cat (pv 6) (pe_lst (pa_cons (pe_tup (pa_cons pe_str (pa_cons (pv 1) (pa_cons (pv 2) pa_nil)))) (pa_cons (pe_tup (pa_cons pe_str (pa_cons (pv 1) pa_nil))) (pa_cons (pe_tup (pa_cons pe_str (pa_cons (pv 1) pa_nil))) (pa_cons (pe_tup (pa_cons pe_str (pa_cons (pv 1) (pa_cons (pv 2) pa_nil)))) (pa_cons (pe_tup (pa_cons pe_str (pa_cons (pv 1) (pa_cons (pv 2) pa_nil)))) (pa_cons (pe_tup (pa_cons pe_str (pa_cons (pv 1) pa_nil))) pa_nil)))))))))
      (pss_cons (ps_set (i := 6) sc_law_row.nd rfl (Or.inl rfl) (pe_op op_cat (pv 6) (pe_lst (pa_cons (pe_ix ix_list (pe_lst (pa_cons (pe_tup (pa_cons pe_str (pa_cons (pv 5) pa_nil))) (pa_cons (pe_tup (pa_cons pe_str (pa_cons (pv 1) (pa_cons (pv 2) (pa_cons (pv 5) pa_nil))))) (pa_cons (pe_tup (pa_cons pe_str (pa_cons (pv 1) (pa_cons (pv 2) (pa_cons (pv 5) pa_nil))))) (pa_cons (pe_tup (pa_cons pe_str (pa_cons (pv 1) (pa_cons (pv 5) pa_nil)))) pa_nil))))) (pe_op op_mod (pv 3) pe_int) (fun _ _ => rfl)) pa_nil))))
      (pss_one (ps_ret (pe_ix ix_list (pe_op op_cat (pv 6) (pe_lst (pa_cons (pe_tup (pa_cons pe_str (pa_cons (pv 2) pa_nil))) (pa_cons (pe_tup (pa_cons pe_str (pa_cons (pv 1) (pa_cons (pe_op op_sub (pv 0) pe_int) pa_nil)))) pa_nil)))) (pe_op op_sub (pv 4) pe_int) (fun _ _ => rfl))))))))))))))), ?_⟩
    dsimp only [cxOf]
    have hA : 0 ≤ n / 20 % 8 ∧ n / 20 % 8 < 8 := by omega
    have hB : 0 ≤ n / 160 % 8 ∧ n / 160 % 8 < 8 := by omega
    have hC : 0 ≤ n / 1280 % 8 ∧ n / 1280 % 8 < 8 := by omega
    have hD : 0 ≤ n % 20 ∧ n % 20 < 20 := by omega
    have hM : 0 ≤ n / 10240 % 5 ∧ n / 10240 % 5 < 5 := by omega
    refine ⟨_, rfl, _, _, rfl, rfl, ⟨by decide, by decide⟩, _, _, rfl, rfl, (by show (0 : Int) < _; decide), ?_⟩
    refine ⟨_, rfl, _, _, rfl, rfl, ⟨by decide, by decide⟩, _, _, rfl, rfl, (by show (0 : Int) < _; decide), ?_⟩
    refine ⟨_, rfl, _, _, rfl, rfl, ⟨by decide, by decide⟩, _, _, rfl, rfl, (by show (0 : Int) < _; decide), ?_⟩
    refine ⟨_, rfl, _, _, rfl, rfl, (by show (0 : Int) < _; decide), ?_⟩
    obtain ⟨x, hx, xm⟩ := five hM
    refine ⟨_, rfl, _, _, rfl, rfl, ⟨by decide, by decide⟩, _, _, rfl, rfl, (by show (0 : Int) < _; decide), _, _, x, rfl, rfl, (Nat.le_of_lt (line1000 (by decide +kernel))), hx, ?_⟩
    have hm : isM ⟨#[x]⟩ := xm
    dsimp only
    generalize (⟨#[x]⟩ : Str) = m at hm ⊢
    generalize n / 20 % 8 = A at hA ⊢
    generalize n / 160 % 8 = B at hB ⊢
    generalize n / 1280 % 8 = C at hC ⊢
    generalize n % 20 = D at hD ⊢
    have h3 : 0 ≤ C % 3 ∧ C % 3 < 3 := by omega
    have h4 : 0 ≤ C % 4 ∧ C % 4 < 4 := by omega
    have bc : -1000 ≤ B * 7 - C * C ∧ B * 7 - C * C ≤ 1000 := by
      have c0 : 0 ≤ C * C := Int.mul_nonneg hC.1 hC.1
      have c1 : C * C ≤ 8 * 8 := Int.mul_le_mul (by omega) (by omega) hC.1 (by decide)
      omega
    refine ⟨_, rfl, _, _, rfl, rfl, _, rfl, ifd (fun c => ?_) fun c => ?_⟩
    · obtain ⟨v, hv, v1, v2⟩ := eight hC
      refine ⟨_, rfl, (show 8 ≤ sizeLine by decide), fun l hl => ⟨_, rfl, l, _, C, .int v, rfl, rfl, SqL.of upd_same, hv, (show 3 ≤ sizeLine by decide), fun z hz => ?_⟩⟩
      have s1 := upd_same_of_none (o := .lst [V.int 2, V.int 3, V.int 1, V.int 4, V.int 2, V.int 0, V.int 6, V.int 3]) hl
      exact q _ z (.make A v) (s1.trans (upd_same_of_none hz)) upd_same ⟨hA, v1, v2⟩ (fun m e => by cases e)
    refine ⟨_, rfl, _, _, rfl, rfl, _, rfl, ifd (fun c => ?_) fun c => ?_⟩
    · refine ⟨_, rfl, _, rfl, _, _, rfl, rfl, (by show (0 : Int) < _; decide), _, rfl, (show 4 ≤ sizeLine by decide), fun z hz => ?_⟩
      exact q _ z (.store A (C % 3) B) (upd_same_of_none hz) upd_same ⟨hA, ⟨h3.1, by omega⟩, hB⟩ (fun m e => by cases e)
    refine ⟨_, rfl, rfl, _, rfl, ifd (fun c => ?_) fun c => ?_⟩
    · refine ⟨_, rfl, _, rfl, _, rfl, _, _, rfl, rfl, (by show (0 : Int) < _; decide), (show 4 ≤ sizeLine by decide), fun z hz => ?_⟩
      exact q _ z (.load A B (C % 3)) (upd_same_of_none hz) upd_same ⟨hA, hB, ⟨h3.1, by omega⟩⟩ (fun m e => by cases e)
    have h6 : 6 ≤ D := by
      have : D ≠ 5 := fun z => c (by rw [z])
      omega
    have S : Same H H := fun _ _ e => e
    have T : Tps H [] [] := Tps.nil
    refine ⟨_, rfl, _, rfl, (show 3 ≤ sizeLine by decide), fun p1 hp1 => ?_⟩
    have s1 : Same H (upd H p1 (.tup [.str "copy", .int A, .int B])) := upd_same_of_none hp1
    have fp1 : (upd H p1 (.tup [.str "copy", .int A, .int B])) p1 = some (.tup [.str "copy", .int A, .int B]) := upd_same
    generalize upd H p1 (.tup [.str "copy", .int A, .int B]) = H1 at s1 fp1 ⊢
    replace T := T.mono (Tups.of s1)
    replace S := S.trans s1
    replace T := T.snoc fp1
    refine ⟨_, rfl, (show 2 ≤ sizeLine by decide), fun p2 hp2 => ?_⟩
    have s2 : Same H1 (upd H1 p2 (.tup [.str "drop", .int A])) := upd_same_of_none hp2
    have fp2 : (upd H1 p2 (.tup [.str "drop", .int A])) p2 = some (.tup [.str "drop", .int A]) := upd_same
    generalize upd H1 p2 (.tup [.str "drop", .int A]) = H2 at s2 fp2 ⊢
    replace T := T.mono (Tups.of s2)
    replace S := S.trans s2
    replace T := T.snoc fp2
    refine ⟨_, rfl, _, rfl, _, _, rfl, rfl, (Or.inl ⟨by omega, by omega⟩), _, rfl, _, rfl, _, _, rfl, rfl, (Or.inl ⟨by omega, by omega⟩), _, _, rfl, rfl, (show 3 ≤ sizeLine by decide), fun p3 hp3 => ?_⟩
    have s3 : Same H2 (upd H2 p3 (.tup [.str "number", .int A, .int (B * 7 - C * C)])) := upd_same_of_none hp3
    have fp3 : (upd H2 p3 (.tup [.str "number", .int A, .int (B * 7 - C * C)])) p3 = some (.tup [.str "number", .int A, .int (B * 7 - C * C)]) := upd_same
    generalize upd H2 p3 (.tup [.str "number", .int A, .int (B * 7 - C * C)]) = H3 at s3 fp3 ⊢
    replace T := T.mono (Tups.of s3)
    replace S := S.trans s3
    replace T := T.snoc fp3
    refine ⟨_, rfl, _, rfl, (show 3 ≤ sizeLine by decide), fun p4 hp4 => ?_⟩
    have s4 : Same H3 (upd H3 p4 (.tup [.str "name", .int B, .int A])) := upd_same_of_none hp4
    have fp4 : (upd H3 p4 (.tup [.str "name", .int B, .int A])) p4 = some (.tup [.str "name", .int B, .int A]) := upd_same
    generalize upd H3 p4 (.tup [.str "name", .int B, .int A]) = H4 at s4 fp4 ⊢
    replace T := T.mono (Tups.of s4)
    replace S := S.trans s4
    replace T := T.snoc fp4
    refine ⟨_, rfl, _, rfl, (show 3 ≤ sizeLine by decide), fun p5 hp5 => ?_⟩
    have s5 : Same H4 (upd H4 p5 (.tup [.str "read", .int A, .int B])) := upd_same_of_none hp5
    have fp5 : (upd H4 p5 (.tup [.str "read", .int A, .int B])) p5 = some (.tup [.str "read", .int A, .int B]) := upd_same
    generalize upd H4 p5 (.tup [.str "read", .int A, .int B]) = H5 at s5 fp5 ⊢
    replace T := T.mono (Tups.of s5)
    replace S := S.trans s5
    replace T := T.snoc fp5
    refine ⟨(show 5 ≤ sizeLine by decide), fun l1 hl1 => ?_⟩
    have s6 : Same H5 (upd H5 l1 (.lst [.ref p1, .ref p2, .ref p3, .ref p4, .ref p5])) := upd_same_of_none hl1
    have fl1 : (upd H5 l1 (.lst [.ref p1, .ref p2, .ref p3, .ref p4, .ref p5])) l1 = some (.lst [.ref p1, .ref p2, .ref p3, .ref p4, .ref p5]) := upd_same
    generalize upd H5 l1 (.lst [.ref p1, .ref p2, .ref p3, .ref p4, .ref p5]) = H6 at s6 fl1 ⊢
    replace T := T.mono (Tups.of s6)
    replace S := S.trans s6
    refine ⟨_, rfl, _, rfl, _, rfl, (show 3 ≤ sizeLine by decide), fun p6 hp6 => ?_⟩
    have s7 : Same H6 (upd H6 p6 (.tup [.str "word", .int A, .int B])) := upd_same_of_none hp6
    have fp6 : (upd H6 p6 (.tup [.str "word", .int A, .int B])) p6 = some (.tup [.str "word", .int A, .int B]) := upd_same
    generalize upd H6 p6 (.tup [.str "word", .int A, .int B]) = H7 at s7 fp6 ⊢
    replace T := T.mono (Tups.of s7)
    replace fl1 := s7 _ _ fl1
    replace S := S.trans s7
    replace T := T.snoc fp6
    refine ⟨_, rfl, (show 2 ≤ sizeLine by decide), fun p7 hp7 => ?_⟩
    have s8 : Same H7 (upd H7 p7 (.tup [.str "take", .int A])) := upd_same_of_none hp7
    have fp7 : (upd H7 p7 (.tup [.str "take", .int A])) p7 = some (.tup [.str "take", .int A]) := upd_same
    generalize upd H7 p7 (.tup [.str "take", .int A]) = H8 at s8 fp7 ⊢
    replace T := T.mono (Tups.of s8)
    replace fl1 := s8 _ _ fl1
    replace S := S.trans s8
    replace T := T.snoc fp7
    refine ⟨_, rfl, (show 2 ≤ sizeLine by decide), fun p8 hp8 => ?_⟩
    have s9 : Same H8 (upd H8 p8 (.tup [.str "held", .int A])) := upd_same_of_none hp8
    have fp8 : (upd H8 p8 (.tup [.str "held", .int A])) p8 = some (.tup [.str "held", .int A]) := upd_same
    generalize upd H8 p8 (.tup [.str "held", .int A]) = H9 at s9 fp8 ⊢
    replace T := T.mono (Tups.of s9)
    replace fl1 := s9 _ _ fl1
    replace S := S.trans s9
    replace T := T.snoc fp8
    refine ⟨_, rfl, _, rfl, (show 3 ≤ sizeLine by decide), fun p9 hp9 => ?_⟩
    have s10 : Same H9 (upd H9 p9 (.tup [.str "add", .int A, .int B])) := upd_same_of_none hp9
    have fp9 : (upd H9 p9 (.tup [.str "add", .int A, .int B])) p9 = some (.tup [.str "add", .int A, .int B]) := upd_same
    generalize upd H9 p9 (.tup [.str "add", .int A, .int B]) = H10 at s10 fp9 ⊢
    replace T := T.mono (Tups.of s10)
    replace fl1 := s10 _ _ fl1
    replace S := S.trans s10
    replace T := T.snoc fp9
    refine ⟨_, rfl, _, rfl, (show 3 ≤ sizeLine by decide), fun p10 hp10 => ?_⟩
    have s11 : Same H10 (upd H10 p10 (.tup [.str "less", .int A, .int B])) := upd_same_of_none hp10
    have fp10 : (upd H10 p10 (.tup [.str "less", .int A, .int B])) p10 = some (.tup [.str "less", .int A, .int B]) := upd_same
    generalize upd H10 p10 (.tup [.str "less", .int A, .int B]) = H11 at s11 fp10 ⊢
    replace T := T.mono (Tups.of s11)
    replace fl1 := s11 _ _ fl1
    replace S := S.trans s11
    replace T := T.snoc fp10
    refine ⟨_, rfl, (show 2 ≤ sizeLine by decide), fun p11 hp11 => ?_⟩
    have s12 : Same H11 (upd H11 p11 (.tup [.str "say", .int A])) := upd_same_of_none hp11
    have fp11 : (upd H11 p11 (.tup [.str "say", .int A])) p11 = some (.tup [.str "say", .int A]) := upd_same
    generalize upd H11 p11 (.tup [.str "say", .int A]) = H12 at s12 fp11 ⊢
    replace T := T.mono (Tups.of s12)
    replace fl1 := s12 _ _ fl1
    replace S := S.trans s12
    replace T := T.snoc fp11
    refine ⟨(show 6 ≤ sizeLine by decide), fun l2 hl2 => ?_⟩
    have s13 : Same H12 (upd H12 l2 (.lst [.ref p6, .ref p7, .ref p8, .ref p9, .ref p10, .ref p11])) := upd_same_of_none hl2
    have fl2 : (upd H12 l2 (.lst [.ref p6, .ref p7, .ref p8, .ref p9, .ref p10, .ref p11])) l2 = some (.lst [.ref p6, .ref p7, .ref p8, .ref p9, .ref p10, .ref p11]) := upd_same
    generalize upd H12 l2 (.lst [.ref p6, .ref p7, .ref p8, .ref p9, .ref p10, .ref p11]) = H13 at s13 fl2 ⊢
    replace T := T.mono (Tups.of s13)
    replace fl1 := s13 _ _ fl1
    replace S := S.trans s13
    refine ⟨l1, l2, _, _, rfl, rfl, fl1, fl2, (show 11 ≤ sizeLine by decide), fun l3 hl3 => ?_⟩
    have s14 : Same H13 (upd H13 l3 (.lst ([.ref p1, .ref p2, .ref p3, .ref p4, .ref p5] ++ [.ref p6, .ref p7, .ref p8, .ref p9, .ref p10, .ref p11]))) := upd_same_of_none hl3
    have fl3 : (upd H13 l3 (.lst ([.ref p1, .ref p2, .ref p3, .ref p4, .ref p5] ++ [.ref p6, .ref p7, .ref p8, .ref p9, .ref p10, .ref p11]))) l3 = some (.lst ([.ref p1, .ref p2, .ref p3, .ref p4, .ref p5] ++ [.ref p6, .ref p7, .ref p8, .ref p9, .ref p10, .ref p11])) := upd_same
    generalize upd H13 l3 (.lst ([.ref p1, .ref p2, .ref p3, .ref p4, .ref p5] ++ [.ref p6, .ref p7, .ref p8, .ref p9, .ref p10, .ref p11])) = H14 at s14 fl3 ⊢
    replace T := T.mono (Tups.of s14)
    replace S := S.trans s14
    have T3 : Tps H14 [] [] := Tps.nil
    refine ⟨_, rfl, _, rfl, (show 2 ≤ sizeLine by decide), fun p12 hp12 => ?_⟩
    have s15 : Same H14 (upd H14 p12 (.tup [.str "go", .str m])) := upd_same_of_none hp12
    have fp12 : (upd H14 p12 (.tup [.str "go", .str m])) p12 = some (.tup [.str "go", .str m]) := upd_same
    generalize upd H14 p12 (.tup [.str "go", .str m]) = H15 at s15 fp12 ⊢
    replace T := T.mono (Tups.of s15)
    replace fl3 := s15 _ _ fl3
    replace T3 := T3.mono (Tups.of s15)
    replace S := S.trans s15
    replace T3 := T3.snoc fp12
    refine ⟨_, rfl, _, rfl, _, rfl, (show 4 ≤ sizeLine by decide), fun p13 hp13 => ?_⟩
    have s16 : Same H15 (upd H15 p13 (.tup [.str "same", .int A, .int B, .str m])) := upd_same_of_none hp13
    have fp13 : (upd H15 p13 (.tup [.str "same", .int A, .int B, .str m])) p13 = some (.tup [.str "same", .int A, .int B, .str m]) := upd_same
    generalize upd H15 p13 (.tup [.str "same", .int A, .int B, .str m]) = H16 at s16 fp13 ⊢
    replace T := T.mono (Tups.of s16)
    replace fl3 := s16 _ _ fl3
    replace T3 := T3.mono (Tups.of s16)
    replace S := S.trans s16
    replace T3 := T3.snoc fp13
    refine ⟨_, rfl, _, rfl, _, rfl, (show 4 ≤ sizeLine by decide), fun p14 hp14 => ?_⟩
    have s17 : Same H16 (upd H16 p14 (.tup [.str "below", .int A, .int B, .str m])) := upd_same_of_none hp14
    have fp14 : (upd H16 p14 (.tup [.str "below", .int A, .int B, .str m])) p14 = some (.tup [.str "below", .int A, .int B, .str m]) := upd_same
    generalize upd H16 p14 (.tup [.str "below", .int A, .int B, .str m]) = H17 at s17 fp14 ⊢
    replace T := T.mono (Tups.of s17)
    replace fl3 := s17 _ _ fl3
    replace T3 := T3.mono (Tups.of s17)
    replace S := S.trans s17
    replace T3 := T3.snoc fp14
    refine ⟨_, rfl, _, rfl, (show 3 ≤ sizeLine by decide), fun p15 hp15 => ?_⟩
    have s18 : Same H17 (upd H17 p15 (.tup [.str "thing", .int A, .str m])) := upd_same_of_none hp15
    have fp15 : (upd H17 p15 (.tup [.str "thing", .int A, .str m])) p15 = some (.tup [.str "thing", .int A, .str m]) := upd_same
    generalize upd H17 p15 (.tup [.str "thing", .int A, .str m]) = H18 at s18 fp15 ⊢
    replace T := T.mono (Tups.of s18)
    replace fl3 := s18 _ _ fl3
    replace T3 := T3.mono (Tups.of s18)
    replace S := S.trans s18
    replace T3 := T3.snoc fp15
    refine ⟨(show 4 ≤ sizeLine by decide), fun l4 hl4 => ?_⟩
    have s19 : Same H18 (upd H18 l4 (.lst [.ref p12, .ref p13, .ref p14, .ref p15])) := upd_same_of_none hl4
    have fl4 : (upd H18 l4 (.lst [.ref p12, .ref p13, .ref p14, .ref p15])) l4 = some (.lst [.ref p12, .ref p13, .ref p14, .ref p15]) := upd_same
    generalize upd H18 l4 (.lst [.ref p12, .ref p13, .ref p14, .ref p15]) = H19 at s19 fl4 ⊢
    replace T := T.mono (Tups.of s19)
    replace fl3 := s19 _ _ fl3
    replace T3 := T3.mono (Tups.of s19)
    replace S := S.trans s19
    have ok3 : ∀ r ∈ [Row.go m, .same A B m, .below A B m, .thing A m], r.Ok ∧ NoMark r := by
      simp only [List.mem_cons, List.not_mem_nil, or_false, forall_eq_or_imp, forall_eq]
      exact ⟨⟨hm, fun m e => by cases e⟩, ⟨⟨hA, hB, hm⟩, fun m e => by cases e⟩, ⟨⟨hA, hB, hm⟩, fun m e => by cases e⟩, ⟨⟨hA, hm⟩, fun m e => by cases e⟩⟩
    have k3 : (C % 4).toNat < [Row.go m, .same A B m, .below A B m, .thing A m].length := by show (C % 4).toNat < 4; omega
    have g3 := List.getElem?_eq_getElem k3
    have o3 := ok3 _ (List.getElem_mem k3)
    generalize [Row.go m, .same A B m, .below A B m, .thing A m][(C % 4).toNat] = r3 at g3 o3
    obtain ⟨a3, e3, d3⟩ := T3.get (i := (C % 4).toNat) (x := r3.parts) (by show ([Row.go m, .same A B m, .below A B m, .thing A m].map Row.parts)[(C % 4).toNat]? = _; rw [List.getElem?_map, g3]; rfl)
    refine ⟨_, rfl, _, _, rfl, rfl, (by show (0 : Int) < _; decide), l4, _, _, .ref a3, rfl, rfl, SqL.of fl4, at_int h4.1 e3, (show 1 ≤ sizeLine by decide), fun l5 hl5 => ?_⟩
    replace T := T.snoc d3
    have s20 : Same H19 (upd H19 l5 (.lst [.ref a3])) := upd_same_of_none hl5
    have fl5 : (upd H19 l5 (.lst [.ref a3])) l5 = some (.lst [.ref a3]) := upd_same
    generalize upd H19 l5 (.lst [.ref a3]) = H20 at s20 fl5 ⊢
    replace T := T.mono (Tups.of s20)
    replace fl3 := s20 _ _ fl3
    replace S := S.trans s20
    refine ⟨l3, l5, _, _, rfl, rfl, fl3, fl5, (show 12 ≤ sizeLine by decide), fun l6 hl6 => ?_⟩
    have s21 : Same H20 (upd H20 l6 (.lst (([.ref p1, .ref p2, .ref p3, .ref p4, .ref p5] ++ [.ref p6, .ref p7, .ref p8, .ref p9, .ref p10, .ref p11]) ++ [.ref a3]))) := upd_same_of_none hl6
    have fl6 : (upd H20 l6 (.lst (([.ref p1, .ref p2, .ref p3, .ref p4, .ref p5] ++ [.ref p6, .ref p7, .ref p8, .ref p9, .ref p10, .ref p11]) ++ [.ref a3]))) l6 = some (.lst (([.ref p1, .ref p2, .ref p3, .ref p4, .ref p5] ++ [.ref p6, .ref p7, .ref p8, .ref p9, .ref p10, .ref p11]) ++ [.ref a3])) := upd_same
    generalize upd H20 l6 (.lst (([.ref p1, .ref p2, .ref p3, .ref p4, .ref p5] ++ [.ref p6, .ref p7, .ref p8, .ref p9, .ref p10, .ref p11]) ++ [.ref a3])) = H21 at s21 fl6 ⊢
    replace T := T.mono (Tups.of s21)
    replace S := S.trans s21
    refine ⟨_, rfl, _, rfl, (show 2 ≤ sizeLine by decide), fun p16 hp16 => ?_⟩
    have s22 : Same H21 (upd H21 p16 (.tup [.str "say", .int B])) := upd_same_of_none hp16
    have fp16 : (upd H21 p16 (.tup [.str "say", .int B])) p16 = some (.tup [.str "say", .int B]) := upd_same
    generalize upd H21 p16 (.tup [.str "say", .int B]) = H22 at s22 fp16 ⊢
    replace T := T.mono (Tups.of s22)
    replace fl6 := s22 _ _ fl6
    replace S := S.trans s22
    replace T := T.snoc fp16
    refine ⟨_, rfl, _, rfl, _, _, rfl, rfl, (show 3 ≤ sizeLine by decide), fun p17 hp17 => ?_⟩
    have s23 : Same H22 (upd H22 p17 (.tup [.str "number", .int A, .int (n - 30000)])) := upd_same_of_none hp17
    have fp17 : (upd H22 p17 (.tup [.str "number", .int A, .int (n - 30000)])) p17 = some (.tup [.str "number", .int A, .int (n - 30000)]) := upd_same
    generalize upd H22 p17 (.tup [.str "number", .int A, .int (n - 30000)]) = H23 at s23 fp17 ⊢
    replace T := T.mono (Tups.of s23)
    replace fl6 := s23 _ _ fl6
    replace S := S.trans s23
    replace T := T.snoc fp17
    refine ⟨(show 2 ≤ sizeLine by decide), fun l7 hl7 => ?_⟩
    have s24 : Same H23 (upd H23 l7 (.lst [.ref p16, .ref p17])) := upd_same_of_none hl7
    have fl7 : (upd H23 l7 (.lst [.ref p16, .ref p17])) l7 = some (.lst [.ref p16, .ref p17]) := upd_same
    generalize upd H23 l7 (.lst [.ref p16, .ref p17]) = H24 at s24 fl7 ⊢
    replace T := T.mono (Tups.of s24)
    replace fl6 := s24 _ _ fl6
    replace S := S.trans s24
    refine ⟨l6, l7, _, _, rfl, rfl, fl6, fl7, (show 14 ≤ sizeLine by decide), fun l8 hl8 => ?_⟩
    have s25 : Same H24 (upd H24 l8 (.lst ((([.ref p1, .ref p2, .ref p3, .ref p4, .ref p5] ++ [.ref p6, .ref p7, .ref p8, .ref p9, .ref p10, .ref p11]) ++ [.ref a3]) ++ [.ref p16, .ref p17]))) := upd_same_of_none hl8
    have fl8 : (upd H24 l8 (.lst ((([.ref p1, .ref p2, .ref p3, .ref p4, .ref p5] ++ [.ref p6, .ref p7, .ref p8, .ref p9, .ref p10, .ref p11]) ++ [.ref a3]) ++ [.ref p16, .ref p17]))) l8 = some (.lst ((([.ref p1, .ref p2, .ref p3, .ref p4, .ref p5] ++ [.ref p6, .ref p7, .ref p8, .ref p9, .ref p10, .ref p11]) ++ [.ref a3]) ++ [.ref p16, .ref p17])) := upd_same
    generalize upd H24 l8 (.lst ((([.ref p1, .ref p2, .ref p3, .ref p4, .ref p5] ++ [.ref p6, .ref p7, .ref p8, .ref p9, .ref p10, .ref p11]) ++ [.ref a3]) ++ [.ref p16, .ref p17])) = H25 at s25 fl8 ⊢
    replace T := T.mono (Tups.of s25)
    replace S := S.trans s25
    have ok : ∀ r ∈ [Row.copy A B, .drop A, .number A (B * 7 - C * C), .name B A, .read A B, .word A B, .take A, .held A, .add A B, .less A B, .say A, r3, .say B, .number A (n - 30000)], r.Ok ∧ NoMark r := by
      simp only [List.mem_cons, List.not_mem_nil, or_false, forall_eq_or_imp, forall_eq]
      exact ⟨⟨⟨hA, hB⟩, fun m e => by cases e⟩, ⟨hA, fun m e => by cases e⟩, ⟨⟨hA, by omega, by omega⟩, fun m e => by cases e⟩, ⟨⟨hB, hA⟩, fun m e => by cases e⟩, ⟨⟨hA, hB⟩, fun m e => by cases e⟩, ⟨⟨hA, hB⟩, fun m e => by cases e⟩, ⟨hA, fun m e => by cases e⟩, ⟨hA, fun m e => by cases e⟩, ⟨⟨hA, hB⟩, fun m e => by cases e⟩, ⟨⟨hA, hB⟩, fun m e => by cases e⟩, ⟨hA, fun m e => by cases e⟩, o3, ⟨hB, fun m e => by cases e⟩, ⟨⟨hA, by omega, by omega⟩, fun m e => by cases e⟩⟩
    have k8 : (D - 6).toNat < [Row.copy A B, .drop A, .number A (B * 7 - C * C), .name B A, .read A B, .word A B, .take A, .held A, .add A B, .less A B, .say A, r3, .say B, .number A (n - 30000)].length := by show (D - 6).toNat < 14; omega
    have g8 := List.getElem?_eq_getElem k8
    have o8 := ok _ (List.getElem_mem k8)
    generalize [Row.copy A B, .drop A, .number A (B * 7 - C * C), .name B A, .read A B, .word A B, .take A, .held A, .add A B, .less A B, .say A, r3, .say B, .number A (n - 30000)][(D - 6).toNat] = r8 at g8 o8
    obtain ⟨a8, e8, d8⟩ := T.get (i := (D - 6).toNat) (x := r8.parts) (by show ([Row.copy A B, .drop A, .number A (B * 7 - C * C), .name B A, .read A B, .word A B, .take A, .held A, .add A B, .less A B, .say A, r3, .say B, .number A (n - 30000)].map Row.parts)[(D - 6).toNat]? = _; rw [List.getElem?_map, g8]; rfl)
    refine ⟨_, rfl, _, _, rfl, rfl, l8, _, _, .ref a8, rfl, rfl, SqL.of fl8, at_int (by omega) e8, ?_⟩
    exact q _ a8 r8 S d8 o8.1 o8.2
end
end Sh
end

section
set_option Elab.async false
set_option linter.all false
set_option maxRecDepth 100000
set_option maxHeartbeats 4000000
/-! Rows as data; the law's program. -/
namespace Sh
open PySem PySem.Spec PyProof.Rows L2
def vD : V → PyData
  | .bl b => .bool b
  | .int i => .int i
  | .str s => .str s
  | _ => .none
def okV : V → Bool
  | .non => true
  | .bl _ => true
  | .int _ => true
  | .str x => PyData.strOk x
  | _ => false
def tupD (p : List V) : PyData := .tuple (p.map vD)
theorem dp_flat {K : PySem.W.Frag} {H : Hp} : ∀ {v : V}, okV v = true → Dp K H v (vD v)
  | .non, _ => .non
  | .bl b, _ => .bl b
  | .int i, _ => .int i
  | .str x, _ => .str x
theorem dp_flats {K : PySem.W.Frag} {H : Hp} : ∀ {p : List V}, p.all okV = true → DpAll K H p (p.map vD)
  | [], _ => .nil
  | v :: p, h => by
    rw [List.all_cons, Bool.and_eq_true] at h
    exact .cons (dp_flat h.1) (dp_flats h.2)
theorem dp_tup {K : PySem.W.Frag} {H : Hp} {a : Addr} {p : List V} (ha : H a = some (.tup p)) (h : p.all okV = true) : Dp K H (.ref a) (tupD p) := .tup (SqT.of ha) (dp_flats h)
theorem dp_tps {K : PySem.W.Frag} {H : Hp} {l : List V} {xs : List (List V)} (T : Tps H l xs) (h : ∀ p ∈ xs, p.all okV = true) : DpAll K H l (xs.map tupD) := dp_all K H l _ (by rw [List.length_map, T.len]) fun i v d h1 h2 => by
  rw [List.getElem?_map] at h2
  cases e : xs[i]? with
  | none =>
    rw [e] at h2
    cases h2
  | some p =>
    rw [e] at h2
    cases h2
    obtain ⟨a, rfl, ha⟩ := T.at_ i v p h1 e
    exact dp_tup ha (h p (List.mem_of_getElem? e))
theorem flat_lay : ∀ {p : List V}, p.all okV = true → PyData.canLayAll0 (p.map vD) = true ∧ PyData.depthAll (p.map vD) = 0
  | [], _ => ⟨rfl, rfl⟩
  | v :: p, h => by
    rw [List.all_cons, Bool.and_eq_true] at h
    obtain ⟨h1, h2⟩ := flat_lay h.2
    have hv : PyData.canLay0 (vD v) = true ∧ PyData.depth (vD v) = 0 := by
      cases v with
      | str x => exact ⟨h.1, rfl⟩
      | _ => exact ⟨rfl, rfl⟩
    refine ⟨?_, ?_⟩
    · show (PyData.canLay0 (vD v) && PyData.canLayAll0 (p.map vD)) = true
      rw [hv.1, h1]
      rfl
    · show max (PyData.depth (vD v)) (PyData.depthAll (p.map vD)) = 0
      rw [hv.2, h2]
      rfl
theorem tup_lay {p : List V} (h : p.all okV = true) : PyData.canLay0 (tupD p) = true ∧ PyData.depth (tupD p) = 1 := by
  obtain ⟨h1, h2⟩ := flat_lay h
  refine ⟨h1, ?_⟩
  show PyData.depthAll (p.map vD) + 1 = 1
  rw [h2]
theorem tups_lay : ∀ {xs : List (List V)}, (∀ p ∈ xs, p.all okV = true) → PyData.canLayAll0 (xs.map tupD) = true ∧ PyData.depthAll (xs.map tupD) ≤ 1
  | [], _ => ⟨rfl, by show 0 ≤ 1; decide⟩
  | p :: xs, h => by
    obtain ⟨h1, h2⟩ := tup_lay (h p (List.mem_cons_self ..))
    obtain ⟨h3, h4⟩ := tups_lay (xs := xs) fun q m => h q (List.mem_cons_of_mem _ m)
    refine ⟨?_, ?_⟩
    · show (PyData.canLay0 (tupD p) && PyData.canLayAll0 (xs.map tupD)) = true
      rw [h1, h3]
      rfl
    · show max (PyData.depth (tupD p)) (PyData.depthAll (xs.map tupD)) ≤ 1
      rw [h2]
      omega
theorem tup_shaped {p : List V} (h : p.all okV = true) : SeqAt.shaped (tupD p) = true := by
  obtain ⟨h1, h2⟩ := tup_lay h
  unfold SeqAt.shaped
  rw [h1, h2]
  rfl
theorem tups_shaped {xs : List (List V)} (h : ∀ p ∈ xs, p.all okV = true) : SeqAt.shaped (.list (xs.map tupD)) = true := by
  obtain ⟨h1, h2⟩ := tups_lay h
  show (PyData.canLayAll0 (xs.map tupD) && decide (PyData.depthAll (xs.map tupD) + 1 ≤ 64)) = true
  rw [h1, decide_eq_true (by omega)]
  rfl
theorem head_ok (r : Row) : PyData.strOk r.head = true := by
  have hs : heads.all PyData.strOk = true := by decide +kernel
  have e : heads[r.tag]? = some r.head := by cases r <;> rfl
  exact List.all_eq_true.mp hs _ (List.mem_of_getElem? e)
theorem mark_ok {m : Str} (h : isM m) : PyData.strOk m = true := by
  rcases h with rfl | rfl | rfl | rfl | rfl <;> decide +kernel
theorem parts_okV {r : Row} (h : r.Ok) : r.parts.all okV = true := by
  show (PyData.strOk r.head && r.rest.all okV) = true
  rw [head_ok, Bool.true_and]
  refine List.all_eq_true.mpr fun v m => ?_
  obtain ⟨k, hk⟩ := (rest_ok h).mem v m
  rcases hk with ⟨_, x, rfl, hx⟩ | ⟨_, i, rfl, _⟩ | ⟨_, i, rfl, _⟩
  · exact mark_ok hx
  · rfl
  · rfl
/-! ### marks -/
def Row.markName : Row → Option Str
  | .mark m => some m
  | _ => none
def marksOf (rows : List Row) : List Str := rows.filterMap Row.markName
theorem mem_marksOf {rows : List Row} {m : Str} : m ∈ marksOf rows ↔ Row.mark m ∈ rows := by
  unfold marksOf
  rw [List.mem_filterMap]
  constructor
  · rintro ⟨r, hr, e⟩
    cases r <;> first | (cases e; done) | skip
    cases e
    exact hr
  · exact fun h => ⟨_, h, rfl⟩
theorem uniq_of : ∀ (rows : List Row), (marksOf rows).Nodup → ∀ i m, rows[i]? = some (.mark m) → markAt rows m = some i
  | [], _, i, m, e => by cases e
  | r :: l, nd, 0, m, e => by
    cases e
    unfold markAt
    rw [List.findIdx?_cons, decide_eq_true rfl]
    rfl
  | r :: l, nd, i + 1, m, e => by
    have e : l[i]? = some (.mark m) := e
    have ih := uniq_of l
    unfold markAt at ih ⊢
    rw [List.findIdx?_cons]
    by_cases c : r = .mark m
    · subst c
      have nd : (m :: marksOf l).Nodup := nd
      exact absurd (mem_marksOf (rows := l).mpr (List.mem_of_getElem? e)) (List.nodup_cons.mp nd).1
    · rw [decide_eq_false c]
      have nd2 : (marksOf l).Nodup := by
        have h : marksOf (r :: l) = marksOf l ∨ ∃ x, marksOf (r :: l) = x :: marksOf l := by
          unfold marksOf
          rw [List.filterMap_cons]
          cases r.markName with
          | none => exact Or.inl rfl
          | some x => exact Or.inr ⟨x, rfl⟩
        rcases h with h | ⟨x, h⟩
        · rw [← h]
          exact nd
        · rw [h] at nd
          exact (List.nodup_cons.mp nd).2
      rw [ih nd2 i m e]
      rfl
theorem goal_M {r : Row} (h : r.Ok) (j : r.jumps = true) : isM r.goal := by
  cases r <;> first | (cases j; done) | skip
  · exact h
  · exact h.2.2
  · exact h.2.2
  · exact h.2
theorem rows_of {rows : List Row} (h : ∀ r ∈ rows, r.Ok) (l : rows.length ≤ 200) (m : ∀ x, isM x → x ∈ marksOf rows) : Rows rows := ⟨h, fun r hr j => mem_marksOf.mp (m _ (goal_M (h r hr) j)), l⟩
theorem mark_parts {r : Row} {m : Str} (h : r.parts = (Row.mark m).parts) : r = .mark m := by
  have e1 : V.str r.head = V.str "mark" := (List.cons.inj h).1
  have ht := tag_of (n := 18) e1 (by decide +kernel)
  cases r <;> first | (simp [Row.tag] at ht; done) | skip
  cases h
  rfl
/-- a row among data: alike or not -/
theorem eqv_flat : ∀ {v u : V}, (∃ x, v = .str x) ∨ (∃ i, v = .int i) → (∃ x, u = .str x) ∨ (∃ i, u = .int i) → PyData.eqv (vD v) (vD u) = decide (v = u) := by
  intro v u hv hu
  rcases hv with ⟨x, rfl⟩ | ⟨i, rfl⟩ <;> rcases hu with ⟨y, rfl⟩ | ⟨j, rfl⟩
  · show (x == y) = _
    by_cases c : x = y
    · subst c
      simp
    · rw [decide_eq_false (fun z => c (by cases z; rfl))]
      simp [c]
  · exact (decide_eq_false (fun z => by cases z)).symm
  · exact (decide_eq_false (fun z => by cases z)).symm
  · show (i == j) = _
    by_cases c : i = j
    · subst c
      simp
    · rw [decide_eq_false (fun z => c (by cases z; rfl))]
      simp [c]
def strInt (v : V) : Prop := (∃ x, v = .str x) ∨ (∃ i, v = .int i)
theorem eqv_flats : ∀ {p q : List V}, (∀ v ∈ p, strInt v) → (∀ v ∈ q, strInt v) → PyData.eqvAll (p.map vD) (q.map vD) = decide (p = q)
  | [], [], _, _ => rfl
  | [], _ :: _, _, _ => (decide_eq_false (fun z => by cases z)).symm
  | _ :: _, [], _, _ => (decide_eq_false (fun z => by cases z)).symm
  | v :: p, u :: q, hp, hq => by
    show (PyData.eqv (vD v) (vD u) && PyData.eqvAll (p.map vD) (q.map vD)) = _
    rw [eqv_flat (hp v (List.mem_cons_self ..)) (hq u (List.mem_cons_self ..)), eqv_flats (fun v m => hp v (List.mem_cons_of_mem _ m)) (fun v m => hq v (List.mem_cons_of_mem _ m))]
    by_cases c : v = u
    · by_cases d : p = q
      · subst c d
        simp
      · rw [decide_eq_false d, decide_eq_false (fun z => d (List.cons.inj z).2)]
        simp
    · rw [decide_eq_false c, decide_eq_false (fun z => c (List.cons.inj z).1)]
      simp
theorem parts_SI (r : Row) : ∀ v ∈ r.parts, strInt v := by
  cases r <;> (intro v m; simp [Row.parts, Row.rest] at m; unfold strInt; rcases m with rfl | m <;> first | exact Or.inl ⟨_, rfl⟩ | skip)
  all_goals (try (rcases m with rfl | m)) <;> (try (rcases m with rfl | rfl)) <;> (try subst m) <;> first | exact Or.inl ⟨_, rfl⟩ | exact Or.inr ⟨_, rfl⟩
theorem eqv_mark (r : Row) (m : Str) : PyData.eqv (tupD r.parts) (tupD (Row.mark m).parts) = decide (r = .mark m) := by
  show PyData.eqvAll (r.parts.map vD) ((Row.mark m).parts.map vD) = _
  rw [eqv_flats (parts_SI r) (parts_SI _), decide_eq_decide]
  exact ⟨mark_parts, fun h => by rw [h]⟩
end Sh
end

section
set_option Elab.async false
set_option linter.all false
set_option maxRecDepth 100000
set_option maxHeartbeats 4000000
/-! The law's program, as rows and as a text; how it begins to run. -/
namespace Sh
open PySem PySem.Spec PyProof.Rows L2
open TL (tl len_tl)
section
variable {P : Program} {w : World} {K : PySem.W.Frag} {mg : Str → Option Value} {base : Heap}
def spProgram (K : PySem.W.Frag) : Sp := fun vs H Q _ => ∃ (a : Addr) (ns : List Int), vs = [.ref a, .int 90] ∧ SqL K H a (ns.map V.int) ∧ ns.length ≤ 63 ∧
  ∀ H' z l rows, Same H H' → H z = none → H' z = some (.lst l) → Tps H' l (rows.map Row.parts) → Rows rows → Uniq rows → rows ≠ [] → Q (.ref z) H'
def bcde : List Str := ["b", "c", "d", "e"]
theorem marksOf_snoc (rows : List Row) (r : Row) : marksOf (rows ++ [r]) = marksOf rows ++ (match r.markName with | some m => [m] | none => []) := by
  unfold marksOf
  rw [List.filterMap_append, List.filterMap_cons]
  cases r.markName <;> rfl
theorem sign_at {j : Nat} {x : Nat} (h : ("bcde" : Str).cps.toList[j]? = some x) : bcde[j]? = some ⟨#[x]⟩ := by
  have e : ("bcde" : Str).cps.toList = [98, 99, 100, 101] := by decide +kernel
  have eb : (⟨#[98]⟩ : Str) = "b" := by decide +kernel
  have ec : (⟨#[99]⟩ : Str) = "c" := by decide +kernel
  have ed : (⟨#[100]⟩ : Str) = "d" := by decide +kernel
  have ee : (⟨#[101]⟩ : Str) = "e" := by decide +kernel
  rw [e] at h
  match j, h with
  | 0, h => cases h; rw [eb]; rfl
  | 1, h => cases h; rw [ec]; rfl
  | 2, h => cases h; rw [ed]; rfl
  | 3, h => cases h; rw [ee]; rfl
  | j + 4, h => cases h
theorem bcde_M {j : Nat} {m : Str} (h : bcde[j]? = some m) : isM m := by
  match j, h with
  | 0, h => cases h; exact Or.inr (Or.inl rfl)
  | 1, h => cases h; exact Or.inr (Or.inr (Or.inl rfl))
  | 2, h => cases h; exact Or.inr (Or.inr (Or.inr (Or.inl rfl)))
  | 3, h => cases h; exact Or.inr (Or.inr (Or.inr (Or.inr rfl)))
  | j + 4, h => cases h
theorem bcde_nodup (k : Nat) : (("a" : Str) :: bcde.take k).Nodup := by
  have h : (("a" : Str) :: bcde).Nodup := by decide +kernel
  exact h.sublist ((List.take_sublist _ _).cons_cons _)
theorem sc_law_program : FnScope ["script", "most", "rows", "place", "number", "mark"] ["script", "most"] (defScope st_law_program) := ⟨rfl, rfl, rfl, by decide +kernel, rfl, by decide +kernel, by decide +kernel⟩
theorem ok_law_program (E : Txt K mg) : FnOk P w K mg base CX0 2 (fAd at_law_program K) (fdOf at_law_program K) ["script", "most"] (spProgram K) := by
  refine FunD.ok0 E.fd_law_program sc_law_program (fun vs H Q E0 h => ?_) (fun cdv A outer s H vs Q E0 hr h => ?_)
  · obtain ⟨a, ns, rfl, _⟩ := h
    rfl
  · obtain ⟨a, ns, rfl, hS, hl, q⟩ := h
    refine ⟨_, (pss_cons (ps_set (i := 2) sc_law_program.nd rfl (Or.inl rfl) (pe_lst (pa_cons (pe_tup (pa_cons pe_str (pa_cons pe_int (pa_cons pe_int pa_nil)))) (pa_cons (pe_tup (pa_cons pe_str (pa_cons pe_int (pa_cons pe_int pa_nil)))) (pa_cons (pe_tup (pa_cons pe_str (pa_cons pe_str pa_nil))) (pa_cons (pe_tup (pa_cons pe_str (pa_cons pe_int (pa_cons pe_int pa_nil)))) (pa_cons (pe_tup (pa_cons pe_str (pa_cons pe_int (pa_cons (pe_un un_neg pe_int) pa_nil)))) pa_nil)))))))
      (pss_cons (ps_for PassesOwn.never rfl (pi_enum (by rfl) E.f_enumerate (pa_cons (pe_call (ok_law_numbers E) (hr.mono (by decide)) (by rfl) E.g_law_numbers E.fd_law_numbers.kp E.b_law_numbers .nil pass0 (pa_cons (pv 0) (pa_cons (pv 1) pa_nil))) pa_nil)) (pg_tup rfl (pgs_cons (pg_name (i := 3) sc_law_program.nd rfl (Or.inl rfl)) (pgs_cons (pg_name (i := 4) sc_law_program.nd rfl (Or.inl rfl)) pgs_nil))) (pss_cons (ps_expr (pe_bm PySem.F.plainAttrs_list PySem.F.slot_list_append PySem.F.type_list_append mt_append (pv 2) (pa_cons (pe_call (ok_law_row E) (hr.mono (by decide)) (by rfl) E.g_law_row E.fd_law_row.kp E.b_law_row .nil pass0 (pa_cons (pv 4) pa_nil)) pa_nil)))
      (pss_one (ps_if (PW.pt (pw_and (pt_cmpR op_lt (pv 3) pe_int (nomark _)) (pw_and1 (pt_cmpR op_eq (pe_op op_mod (pv 3) pe_int) pe_int (nomark _))))) (pss_one (ps_expr (pe_bm PySem.F.plainAttrs_list PySem.F.slot_list_append PySem.F.type_list_append mt_append (pv 2) (pa_cons (pe_tup (pa_cons pe_str (pa_cons (pe_ix ix_str pe_str (pe_op op_fdiv (pv 3) pe_int) (fun _ _ => rfl)) pa_nil))) pa_nil)))) pss_nil))))
      (pss_cons (ps_for PassesOwn.never rfl (pi_str pe_str) (pg_name (i := 5) sc_law_program.nd rfl (Or.inl rfl)) (pss_one (ps_if (pt_cmpR (op_notInD (ud hr)) (pe_tup (pa_cons pe_str (pa_cons (pv 5) pa_nil))) (pv 2) (by rfl)) (pss_one (ps_expr (pe_bm PySem.F.plainAttrs_list PySem.F.slot_list_append PySem.F.type_list_append mt_append (pv 2) (pa_cons (pe_tup (pa_cons pe_str (pa_cons (pv 5) pa_nil))) pa_nil)))) pss_nil)))
      (pss_one (ps_ret (pv 2)))))), ?_⟩
    dsimp only [cxOf]
    have S : Same H H := fun _ _ e => e
    have T : Tps H [] [] := Tps.nil
    refine ⟨(show 3 ≤ sizeLine by decide), fun p1 hp1 => ?_⟩
    have s1 : Same H (upd H p1 (.tup [.str "make", .int 0, .int 3])) := upd_same_of_none hp1
    have f1 : (upd H p1 (.tup [.str "make", .int 0, .int 3])) p1 = some (.tup [.str "make", .int 0, .int 3]) := upd_same
    generalize upd H p1 (.tup [.str "make", .int 0, .int 3]) = H1 at s1 f1 ⊢
    replace T := (T.mono (Tups.of s1)).snoc f1
    replace S := S.trans s1
    refine ⟨(show 3 ≤ sizeLine by decide), fun p2 hp2 => ?_⟩
    have s2 : Same H1 (upd H1 p2 (.tup [.str "number", .int 2, .int 5])) := upd_same_of_none hp2
    have f2 : (upd H1 p2 (.tup [.str "number", .int 2, .int 5])) p2 = some (.tup [.str "number", .int 2, .int 5]) := upd_same
    generalize upd H1 p2 (.tup [.str "number", .int 2, .int 5]) = H2 at s2 f2 ⊢
    replace T := (T.mono (Tups.of s2)).snoc f2
    replace S := S.trans s2
    refine ⟨(show 2 ≤ sizeLine by decide), fun p3 hp3 => ?_⟩
    have s3 : Same H2 (upd H2 p3 (.tup [.str "mark", .str "a"])) := upd_same_of_none hp3
    have f3 : (upd H2 p3 (.tup [.str "mark", .str "a"])) p3 = some (.tup [.str "mark", .str "a"]) := upd_same
    generalize upd H2 p3 (.tup [.str "mark", .str "a"]) = H3 at s3 f3 ⊢
    replace T := (T.mono (Tups.of s3)).snoc f3
    replace S := S.trans s3
    refine ⟨(show 3 ≤ sizeLine by decide), fun p4 hp4 => ?_⟩
    have s4 : Same H3 (upd H3 p4 (.tup [.str "make", .int 1, .int 2])) := upd_same_of_none hp4
    have f4 : (upd H3 p4 (.tup [.str "make", .int 1, .int 2])) p4 = some (.tup [.str "make", .int 1, .int 2]) := upd_same
    generalize upd H3 p4 (.tup [.str "make", .int 1, .int 2]) = H4 at s4 f4 ⊢
    replace T := (T.mono (Tups.of s4)).snoc f4
    replace S := S.trans s4
    refine ⟨4, rfl, (show 3 ≤ sizeLine by decide), fun p5 hp5 => ?_⟩
    have s5 : Same H4 (upd H4 p5 (.tup [.str "number", .int 3, .int (-4)])) := upd_same_of_none hp5
    have f5 : (upd H4 p5 (.tup [.str "number", .int 3, .int (-4)])) p5 = some (.tup [.str "number", .int 3, .int (-4)]) := upd_same
    generalize upd H4 p5 (.tup [.str "number", .int 3, .int (-4)]) = H5 at s5 f5 ⊢
    replace T := (T.mono (Tups.of s5)).snoc f5
    replace S := S.trans s5
    refine ⟨(show 5 ≤ sizeLine by decide), fun z hz => ?_⟩
    have hz0 := S.free hz
    replace T := T.mono (Tups.of (upd_same_of_none (o := .lst [.ref p1, .ref p2, .ref p3, .ref p4, .ref p5]) hz))
    have hzl : (upd H5 z (.lst [.ref p1, .ref p2, .ref p3, .ref p4, .ref p5])) z = some (.lst [.ref p1, .ref p2, .ref p3, .ref p4, .ref p5]) := upd_same
    replace S := S.trans (upd_same_of_none (o := .lst [.ref p1, .ref p2, .ref p3, .ref p4, .ref p5]) hz)
    generalize upd H5 z (.lst [.ref p1, .ref p2, .ref p3, .ref p4, .ref p5]) = H6 at S T hzl ⊢
    have T : Tps H6 [.ref p1, .ref p2, .ref p3, .ref p4, .ref p5] ([Row.make 0 3, .number 2 5, .mark "a", .make 1 2, .number 3 (-4)].map Row.parts) := T
    have ok0 : ∀ r ∈ [Row.make 0 3, .number 2 5, .mark "a", .make 1 2, .number 3 (-4)], r.Ok := by
      simp only [List.mem_cons, List.not_mem_nil, or_false, forall_eq_or_imp, forall_eq]
      exact ⟨⟨⟨by decide, by decide⟩, by decide, by decide⟩, ⟨⟨by decide, by decide⟩, by decide, by decide⟩, Or.inl rfl, ⟨⟨by decide, by decide⟩, by decide, by decide⟩, ⟨⟨by decide, by decide⟩, by decide, by decide⟩⟩
    refine ⟨_, rfl, _, rfl, a, ns, rfl, sqL_same hS S, hl, fun H7 y ms s7 hy hy7 sm ml => ?_⟩
    have e0 : (ms.map V.int).length = ms.length := List.length_map _
    refine ⟨y, _, rfl, SqL.of hy7, ?_⟩
    have yz : y ≠ z := fun e => by
      rw [e, hzl] at hy
      cases hy
    refine for_it (walk_enum (xs := ms.map V.int)) (fun i σ H2 => ∃ (u3 u4 u5 : Option V) (l : List V) (rows : List Row), σ = [some (.ref a), some (.int 90), some (.ref z), u3, u4, u5] ∧ H2 z = some (.lst l) ∧ Tps H2 l (rows.map Row.parts) ∧ (∀ r ∈ rows, r.Ok) ∧
        marksOf rows = ("a" : Str) :: bcde.take (min 4 (i / 6)) ∧ rows.length ≤ 5 + i + min 4 (i / 6) ∧ Same H H2 ∧ H2 y = some (.lst (ms.map V.int)))
      ⟨none, none, none, _, _, rfl, s7 _ _ hzl, T.mono (Tups.of s7), ok0, rfl, Nat.le_refl _, S.trans s7, hy7⟩ (fun i σ H2 _ ⟨_, _, _, _, _, _, _, _, _, _, _, _, g⟩ => SqL.of g) ?_ ?_
    · rintro i v σ H8 H2 hi ⟨u3, u4, u5, l, rows, rfl, g1, g2, g3, g4, g5, g6, g7⟩ ⟨T', x, v', rfl, hT, rfl, hx, hv⟩
      cases hx
      have hi2 : i < ms.length := by omega
      have em := List.getElem?_eq_getElem hi2
      have mm : ms[i] ∈ ms := List.getElem_mem hi2
      generalize ms[i] = n at em mm
      dsimp only at hv
      rw [List.getElem?_map, em] at hv
      cases hv
      have sT : Same H8 (upd H8 T' (.tup [.int i, .int n])) := upd_same_of_none hT
      refine ⟨T', _, rfl, SqT.of upd_same, rfl, _, _, rfl, _, _, rfl, rfl, ?_⟩
      replace g1 := sT _ _ g1
      replace g2 := g2.mono (Tups.of sT)
      replace g6 := g6.trans sT
      replace g7 := sT _ _ g7
      generalize upd H8 T' (.tup [.int i, .int n]) = H9 at g1 g2 g6 g7 ⊢
      refine ⟨_, rfl, Or.inl ⟨rfl, _, Or.inl (Or.inl g1)⟩, _, rfl, n, rfl, sm n mm, fun H10 t r s10 ht rok nm => ?_⟩
      have ll : l.length = rows.length := by rw [g2.len, List.length_map]
      refine ⟨z, l, _, rfl, rfl, s10 _ _ g1, line1000 (by omega), ?_⟩
      have t11 : Tups H10 (upd H10 z (.lst (l ++ [.ref t]))) := Tups.upd (s10 _ _ g1) fun _ e => by cases e
      have k2 : Tps (upd H10 z (.lst (l ++ [.ref t]))) (l ++ [.ref t]) ((rows ++ [r]).map Row.parts) := by
        rw [List.map_append]
        exact ((g2.mono (Tups.of s10)).mono t11).snoc (t11 _ _ ht)
      have k1 : (upd H10 z (.lst (l ++ [.ref t]))) z = some (.lst (l ++ [.ref t])) := upd_same
      have k6 : Same H (upd H10 z (.lst (l ++ [.ref t]))) := fun b o e => by
        rw [upd_ne (ne_of_none e hz0)]
        exact s10 _ _ (g6 b o e)
      have k7 : (upd H10 z (.lst (l ++ [.ref t]))) y = some (.lst (ms.map V.int)) := by
        rw [upd_ne yz]
        exact s10 _ _ g7
      have k3 : ∀ r' ∈ rows ++ [r], r'.Ok := fun r' m => (List.mem_append.mp m).elim (g3 r') fun e => by rw [List.mem_singleton.mp e]; exact rok
      have k4 : marksOf (rows ++ [r]) = ("a" : Str) :: bcde.take (min 4 (i / 6)) := by
        rw [marksOf_snoc, g4]
        cases er : r.markName with
        | none => exact List.append_nil _
        | some m => exact absurd (by cases r <;> first | (cases er; done) | (cases er; rfl)) (nm m)
      have k5 : (rows ++ [r]).length = rows.length + 1 := by rw [List.length_append]; rfl
      generalize upd H10 z (.lst (l ++ [.ref t])) = H11 at k1 k2 k6 k7 ⊢
      have skip : ¬ (i < 24 ∧ i % 6 = 5) → _ := fun c => (⟨_, _, _, _, _, rfl, k1, k2, k3, by rw [k4]; congr 2; omega, by rw [k5]; omega, k6, k7⟩ : ∃ (u3 u4 u5' : Option V) (l : List V) (rows : List Row), [some (V.ref a), some (.int 90), some (.ref z), some (.int i), some (.int n), u5] = [some (.ref a), some (.int 90), some (.ref z), u3, u4, u5'] ∧ H11 z = some (.lst l) ∧ Tps H11 l (rows.map Row.parts) ∧ (∀ r ∈ rows, r.Ok) ∧
        marksOf rows = ("a" : Str) :: bcde.take (min 4 ((i + 1) / 6)) ∧ rows.length ≤ 5 + (i + 1) + min 4 ((i + 1) / 6) ∧ Same H H11 ∧ H11 y = some (.lst (ms.map V.int)))
      refine ⟨_, rfl, _, _, rfl, rfl, _, rfl, ifd (fun c => ?_) fun c => skip fun z => c (by omega)⟩
      refine ⟨_, rfl, _, _, rfl, rfl, (by show (0 : Int) < _; decide), rfl, _, rfl, ifd (fun d => ?_) fun d => skip fun z => d (by show V.int ((i : Int) % 6) = V.int 5; rw [show (i : Int) % 6 = 5 by omega])⟩
      have d : V.int ((i : Int) % 6) = V.int 5 := d
      injection d with d2
      clear skip
      have hj : i / 6 < 4 := by omega
      have ej : ("bcde" : Str).cps.toList[i / 6]? = some (("bcde" : Str).cps.toList[i / 6]'(by rw [show ("bcde" : Str).cps.toList.length = 4 from by decide +kernel]; exact hj)) := List.getElem?_eq_getElem _
      generalize ("bcde" : Str).cps.toList[i / 6]'(by rw [show ("bcde" : Str).cps.toList.length = 4 from by decide +kernel]; exact hj) = x at ej
      have eb := sign_at ej
      have ax : atI ("bcde" : Str).cps.toList ((i : Int) / 6) = some x := at_int (by omega) (by rw [show ((i : Int) / 6).toNat = i / 6 by omega]; exact ej)
      refine ⟨_, rfl, Or.inl ⟨rfl, _, Or.inl (Or.inl k1)⟩, _, rfl, _, _, rfl, rfl, ⟨by decide, by decide⟩, _, _, x, rfl, rfl, (Nat.le_of_lt (line1000 (by decide +kernel))), ax, (show 2 ≤ sizeLine by decide), fun t2 ht2 => ?_⟩
      have s12 : Same H11 (upd H11 t2 (.tup [.str "mark", .str ⟨#[x]⟩])) := upd_same_of_none ht2
      have f12 : (upd H11 t2 (.tup [.str "mark", .str ⟨#[x]⟩])) t2 = some (.tup (Row.mark ⟨#[x]⟩).parts) := upd_same
      have ll2 : (l ++ [V.ref t]).length = (rows ++ [r]).length := by rw [k2.len, List.length_map]
      refine ⟨z, _, _, rfl, rfl, s12 _ _ k1, line1000 (by omega), ?_⟩
      have t13 : Tups (upd H11 t2 (.tup [.str "mark", .str ⟨#[x]⟩])) (upd (upd H11 t2 (.tup [.str "mark", .str ⟨#[x]⟩])) z (.lst ((l ++ [.ref t]) ++ [.ref t2]))) := Tups.upd (s12 _ _ k1) fun _ e => by cases e
      refine ⟨_, _, _, _, (rows ++ [r]) ++ [.mark ⟨#[x]⟩], rfl, upd_same, ?_, ?_, ?_, ?_, ?_, ?_⟩
      · rw [List.map_append (l₁ := rows ++ [r])]
        exact ((k2.mono (Tups.of s12)).mono t13).snoc (t13 _ _ f12)
      · exact fun r' m => (List.mem_append.mp m).elim (k3 r') fun e => by rw [List.mem_singleton.mp e]; exact bcde_M eb
      · rw [marksOf_snoc, k4]
        show ("a" : Str) :: bcde.take (min 4 (i / 6)) ++ [⟨#[x]⟩] = _
        rw [show min 4 ((i + 1) / 6) = i / 6 + 1 by omega, take_sub eb, show min 4 (i / 6) = i / 6 by omega]
        rfl
      · rw [List.length_append, k5]
        show rows.length + 1 + 1 ≤ _
        omega
      · intro b o e
        rw [upd_ne (ne_of_none e hz0)]
        exact s12 _ _ (k6 b o e)
      · rw [upd_ne yz]
        exact s12 _ _ k7
    · rintro σ H2 ⟨u3, u4, u5, l, rows, rfl, g1, g2, g3, g4, g5, g6, g7⟩
      rw [e0] at g4 g5
      refine ⟨_, rfl, ?_⟩
      refine for_it (walk_str (z := "bcde")) (fun j σ H2 => ∃ (u3 u4 u5 : Option V) (l : List V) (rows : List Row), σ = [some (.ref a), some (.int 90), some (.ref z), u3, u4, u5] ∧ H2 z = some (.lst l) ∧ Tps H2 l (rows.map Row.parts) ∧ (∀ r ∈ rows, r.Ok) ∧
        (marksOf rows).Nodup ∧ ("a" : Str) ∈ marksOf rows ∧ (∀ m ∈ bcde.take j, m ∈ marksOf rows) ∧ rows.length ≤ 99 + j ∧ Same H H2)
        ⟨u3, u4, u5, l, rows, rfl, g1, g2, g3, by rw [g4]; exact bcde_nodup _, by rw [g4]; exact List.mem_cons_self .., fun m h => by (cases h), by omega, g6⟩ (fun _ _ _ _ _ => trivial) ?_ ?_
      · rintro j v σ H8 H3 hj ⟨u3, u4, u5, l, rows, rfl, k1, k2, k3, k4, k5, k6, k7, k8⟩ ⟨rfl, x, hx, rfl⟩
        have eb := sign_at (by rw [← hx]; exact Array.getElem?_toList : ("bcde" : Str).cps.toList[j]? = some x)
        have xm := bcde_M eb
        generalize (⟨#[x]⟩ : Str) = m at eb xm ⊢
        have hj4 : j < 4 := hj
        refine ⟨_, rfl, (show 2 ≤ sizeLine by decide), fun t ht => ?_⟩
        have s9 : Same H3 (upd H3 t (.tup [.str "mark", .str m])) := upd_same_of_none ht
        have f9 : (upd H3 t (.tup [.str "mark", .str m])) t = some (.tup (Row.mark m).parts) := upd_same
        generalize upd H3 t (.tup [.str "mark", .str m]) = H4 at s9 f9 ⊢
        have rp : ∀ p ∈ rows.map Row.parts, p.all okV = true := fun p mp => by
          obtain ⟨r, hr, rfl⟩ := List.mem_map.mp mp
          exact parts_okV (k3 r hr)
        have mo : ((Row.mark m).parts).all okV = true := parts_okV (r := .mark m) xm
        have k1' := s9 _ _ k1
        have k2' := k2.mono (Tups.of s9)
        refine ⟨_, rfl, tupD (Row.mark m).parts, (rows.map Row.parts).map tupD, dp_tup f9 mo, .lst (SqL.of k1') (dp_tps k2' rp), tup_shaped mo, tups_shaped rp, _, rfl, ?_⟩
        have ea : (((rows.map Row.parts).map tupD).any fun d => PyData.eqv d (tupD (Row.mark m).parts)) = decide (Row.mark m ∈ rows) := by
          rw [List.map_map, List.any_map, Bool.eq_iff_iff, List.any_eq_true, decide_eq_true_iff]
          constructor
          · rintro ⟨r, hr, e⟩
            have e2 : PyData.eqv (tupD r.parts) (tupD (Row.mark m).parts) = true := e
            rw [eqv_mark] at e2
            rw [← of_decide_eq_true e2]
            exact hr
          · exact fun h => ⟨_, h, by show PyData.eqv (tupD (Row.mark m).parts) (tupD (Row.mark m).parts) = true; rw [eqv_mark]; exact decide_eq_true rfl⟩
        rw [ea]
        refine ifnd (fun c => ?_) fun c => ?_
        · refine ⟨_, rfl, Or.inl ⟨rfl, _, Or.inl (Or.inl k1')⟩, _, rfl, (show 2 ≤ sizeLine by decide), fun t2 ht2 => ?_⟩
          have s10 : Same H4 (upd H4 t2 (.tup [.str "mark", .str m])) := upd_same_of_none ht2
          have f10 : (upd H4 t2 (.tup [.str "mark", .str m])) t2 = some (.tup (Row.mark m).parts) := upd_same
          have ll : l.length = rows.length := by rw [k2.len, List.length_map]
          refine ⟨z, l, _, rfl, rfl, s10 _ _ k1', line1000 (by omega), ?_⟩
          have t11 : Tups (upd H4 t2 (.tup [.str "mark", .str m])) (upd (upd H4 t2 (.tup [.str "mark", .str m])) z (.lst (l ++ [.ref t2]))) := Tups.upd (s10 _ _ k1') fun _ e => by cases e
          have em : marksOf (rows ++ [.mark m]) = marksOf rows ++ [m] := marksOf_snoc rows (.mark m)
          refine ⟨_, _, _, _, rows ++ [.mark m], rfl, upd_same, ?_, ?_, ?_, ?_, ?_, ?_, ?_⟩
          · rw [List.map_append]
            exact ((k2'.mono (Tups.of s10)).mono t11).snoc (t11 _ _ f10)
          · exact fun r' mr => (List.mem_append.mp mr).elim (k3 r') fun e => by rw [List.mem_singleton.mp e]; exact xm
          · rw [em]
            refine List.nodup_append.mpr ⟨k4, List.nodup_cons.mpr ⟨fun h => by (cases h), List.nodup_nil⟩, fun u hu v hv e => ?_⟩
            rw [List.mem_singleton.mp hv] at e
            rw [e] at hu
            exact c (mem_marksOf.mp hu)
          · rw [em]
            exact List.mem_append_left _ k5
          · intro u hu
            rw [em]
            rw [take_sub eb] at hu
            exact List.mem_append.mpr ((List.mem_append.mp hu).imp (k6 u) id)
          · rw [List.length_append]
            show rows.length + 1 ≤ _
            omega
          · intro b o e
            rw [upd_ne (ne_of_none e hz0)]
            exact s10 _ _ (s9 _ _ (k8 b o e))
        · refine ⟨_, _, _, l, rows, rfl, k1', k2', k3, k4, k5, fun u hu => ?_, by omega, k8.trans s9⟩
          rw [take_sub eb] at hu
          rcases List.mem_append.mp hu with h | h
          · exact k6 u h
          · rw [List.mem_singleton.mp h]
            exact mem_marksOf.mpr c
      · rintro σ H3 ⟨u3, u4, u5, l, rows, rfl, k1, k2, k3, k4, k5, k6, k7, k8⟩
        have e4 : ("bcde" : Str).cps.size = 4 := by decide +kernel
        rw [e4] at k6 k7
        refine ⟨_, rfl, q H3 z l rows k8 hz0 k1 k2 (rows_of k3 (by omega) fun x hx => ?_) ⟨uniq_of rows k4⟩ fun e => ?_⟩
        · rcases hx with rfl | h
          · exact k5
          · refine k6 x ?_
            show x ∈ bcde
            unfold bcde
            rcases h with rfl | rfl | rfl | rfl <;> simp
        · rw [e] at k5
          cases k5
end
end Sh
end

section
set_option Elab.async false
set_option linter.all false
set_option maxRecDepth 100000
set_option maxHeartbeats 4000000
/-! The law's text; how it begins to run. -/
namespace Sh
open PySem PySem.Spec PyProof.Rows L2
open TL (tl len_tl)
section
variable {P : Program} {w : World} {K : PySem.W.Frag} {mg : Str → Option Value} {base : Heap}
def spText (K : PySem.W.Frag) : Sp := fun vs H Q _ => ∃ (a : Addr) (l : List V) (rows : List Row), vs = [.ref a] ∧ H a = some (.lst l) ∧ Tps H l (rows.map Row.parts) ∧ (∀ r ∈ rows, r.Ok) ∧ rows.length ≤ 200 ∧ ∀ H' : Hp, Same H H' → Q (.str (progText rows)) H'
theorem sum_le {k : Nat} : ∀ {l : List Str}, (∀ s ∈ l, s.length ≤ k) → (l.map (·.length)).sum ≤ l.length * k
  | [], _ => by simp
  | a :: l, h => by
    have h1 := h a (List.mem_cons_self ..)
    have ih := sum_le (l := l) fun s m => h s (List.mem_cons_of_mem _ m)
    rw [List.map_cons, List.sum_cons, List.length_cons, Nat.add_mul]
    omega
theorem sc_law_text : FnScope ["rows", "part", "row"] ["rows"] (defScope st_law_text) := ⟨rfl, rfl, rfl, by decide +kernel, rfl, by decide +kernel, by decide +kernel⟩
theorem ok_law_text (E : Txt K mg) : FnOk P w K mg base CX0 1 (fAd at_law_text K) (fdOf at_law_text K) ["rows"] (spText K) := by
  refine FunD.ok0 E.fd_law_text sc_law_text (fun vs H Q E0 h => ?_) (fun cdv A outer s H vs Q E0 hr h => ?_)
  · obtain ⟨a, l, rows, rfl, _⟩ := h
    rfl
  · obtain ⟨a, l, rows, rfl, ha, T, rok, hl, q⟩ := h
    refine ⟨_, (pss_one (ps_ret (pe_join pe_str (pe_lc (own := [("row", 2)]) rfl sc_law_text.nd (pi_list (pv 0)) (blkOk_by (own := [("row", 2)]) (N := ["rows", "part", "row"]) (sc := (defScope st_law_text)) (by decide +kernel)) (fun _ _ _ _ _ => (pg_name (i := 2) sc_law_text.nd rfl (Or.inl rfl))) (fun _ _ _ _ _ => pts_nil) (fun _ _ _ _ _ => by exact ((pe_joinK (K := K) rfl pe_str (pe_lc (own := [("part", 1)]) rfl sc_law_text.nd (pi_tupK (K := K) rfl (pv 2)) (blkOk_by (own := [("part", 1)]) (N := ["rows", "part", "row"]) (sc := (relS _ (defScope st_law_text))) (by decide +kernel)) (fun _ _ _ _ _ => (pg_name (i := 1) sc_law_text.nd rfl (Or.inl rfl))) (fun _ _ _ _ _ => pts_nil) (fun _ _ _ _ _ => by exact ((pe_callTy call_strX (by rfl) E.f_str (by decide +kernel) (pa_cons (pv 1) pa_nil)))))))))))), ?_⟩
    have ll : l.length = rows.length := by rw [T.len, List.length_map]
    refine ⟨⟨_, rfl⟩, _, rfl, a, rfl, ⟨_, SqL.of ha⟩, fun D hD => ?_⟩
    refine lc_it (walk_list (xs := l)) (fun i H2 => H2 D = some (.lst (((rows.take i).map rowText).map V.str)) ∧ Same H H2) ⟨upd_same, upd_same_of_none hD⟩ (fun i H2 _ z => SqL.of (z.2 _ _ ha)) ?_ ?_
    · rintro i v H3 H2 hi ⟨g1, g2⟩ ⟨rfl, hv⟩
      have hi2 : i < rows.length := by omega
      have er := List.getElem?_eq_getElem hi2
      have rm : rows[i] ∈ rows := List.getElem_mem hi2
      generalize rows[i] = r at er rm
      obtain ⟨ra, e1, e2⟩ := T.get (i := i) (x := r.parts) (by rw [List.getElem?_map, er]; rfl)
      rw [e1] at hv
      cases hv
      have hra := g2 _ _ e2
      have pl := parts_len r
      refine ⟨rfl, ⟨_, rfl⟩, _, rfl, ra, rfl, ⟨_, SqT.of hra⟩, fun D2 hD2 => ?_⟩
      refine lc_it (walk_tup (xs := r.parts)) (fun j H4 => H4 D2 = some (.lst (((r.parts.take j).map pt).map V.str)) ∧ Same H2 H4) ⟨upd_same, upd_same_of_none hD2⟩ (fun j H4 _ z => SqT.of (z.2 _ _ hra)) ?_ ?_
      · rintro j u H5 H4 hj ⟨k1, k2⟩ ⟨rfl, hu⟩
        have um : u ∈ r.parts := List.mem_of_getElem? hu
        have put : ∃ acc, H4 D2 = some (.lst acc) ∧ acc.length < sizeLine ∧ (upd H4 D2 (.lst (acc ++ [V.str (pt u)]))) D2 = some (.lst (((r.parts.take (j + 1)).map pt).map V.str)) ∧ Same H2 (upd H4 D2 (.lst (acc ++ [V.str (pt u)]))) := by
          refine ⟨_, k1, ?_, ?_, fun b o e => ?_⟩
          · rw [List.length_map, List.length_map, List.length_take]
            exact line1000 (by omega)
          · rw [upd_same, take_sub hu, List.map_append, List.map_append]
            rfl
          · rw [upd_ne (ne_of_none e hD2)]
            exact k2 b o e
        rcases parts_SI r u um with ⟨x, rfl⟩ | ⟨n, rfl⟩
        · exact ⟨rfl, _, rfl, Or.inr ⟨x, rfl, put⟩⟩
        · refine ⟨rfl, _, rfl, Or.inl ⟨n, rfl, ?_, put⟩⟩
          have nb : -100000 ≤ n ∧ n ≤ 100000 := by
            rcases List.mem_cons.mp um with z | z
            · cases z
            · obtain ⟨k, hk⟩ := (rest_ok (rok r rm)).mem _ z
              rcases hk with ⟨_, m, e, _⟩ | ⟨_, m, e, h1, h2⟩ | ⟨_, m, e, h1, h2⟩
              · cases e
              · cases e
                omega
              · cases e
                exact ⟨h1, h2⟩
          by_cases c : n.natAbs = 0
          · rw [c]
            decide
          · refine Nat.lt_trans (Nat.log2_lt (k := 20) c |>.mpr (by omega)) (by decide)
      · rintro H4 ⟨k1, k2⟩
        rw [List.take_length] at k1
        have b1 : ((r.parts.map pt).map (·.length)).sum ≤ 4 * 8 := Nat.le_trans (sum_le (k := 8) fun s m => by
          obtain ⟨v, hv, rfl⟩ := List.mem_map.mp m
          rw [len_tl]
          exact (parts_fine (rok r rm) v hv).1) (by rw [List.length_map]; omega)
        refine ⟨_, D2, r.parts.map pt, rfl, rfl, Or.inl (SqL.of k1), ?_, _, k2 _ _ g1, ?_, ?_, fun b o e => ?_⟩
        · have : (" " : Str).length = 1 := by decide +kernel
          rw [this, List.length_map]
          omega
        · rw [List.length_map, List.length_map, List.length_take]
          exact line1000 (by omega)
        · rw [upd_same, take_sub er, List.map_append, List.map_append]
          rfl
        · rw [upd_ne (ne_of_none e hD)]
          exact k2 _ _ (g2 b o e)
    · rintro H2 ⟨g1, g2⟩
      rw [ll, List.take_length] at g1
      have b1 : ((rows.map rowText).map (·.length)).sum ≤ 200 * 36 := Nat.le_trans (sum_le (k := 36) fun s m => by
        obtain ⟨r, hr, rfl⟩ := List.mem_map.mp m
        exact rowText_len (rok r hr)) (by rw [List.length_map]; omega)
      refine ⟨_, D, rows.map rowText, rfl, rfl, Or.inl (SqL.of g1), ?_, q H2 g2⟩
      have : ("\n" : Str).length = 1 := by decide +kernel
      rw [this, List.length_map]
      omega
def startR (rows : List Row) (h : IH) : RS := ⟨rows, 0, 0, [], none, h⟩
def spRInit (K : PySem.W.Frag) : Sp := fun vs H Q _ => ∃ (x dx pa p : Addr) (l : List V) (rows : List Row) (h : IH) (L : Lay), vs = [.ref x, .ref pa, .ref p] ∧ H x = some (.ins (CR K) dx []) ∧ H pa = some (.tup l) ∧ Tps H l (rows.map Row.parts) ∧ Rows rows ∧
  At K H p h L ∧ ¬ fp p L h.kept x ∧ ∀ H' M, RunAt K H' x (startR rows h) M → M.p = p → M.L = L → (∀ b o, H b = some o → b ≠ x → H' b = some o) → (M.la = x ∨ H M.la = none) → H M.pl = none → Q .non H'
theorem sc_Running_init : FnScope ["self", "program", "hall"] ["self", "program", "hall"] (defScope st_Running_init) := ⟨rfl, rfl, rfl, by decide +kernel, rfl, by decide +kernel, by decide +kernel⟩
theorem ok_Running_init (E : Txt K mg) : FnOk P w K mg base CX0 2 (fAd at_Running_init K) (fdOf at_Running_init K) ["self", "program", "hall"] (spRInit K) := by
  refine FunD.ok0 E.fd_Running_init sc_Running_init (fun vs H Q E0 h => ?_) (fun cdv A outer s H vs Q E0 hr h => ?_)
  · obtain ⟨x, dx, pa, p, l, rows, h, L, rfl, _⟩ := h
    rfl
  · obtain ⟨x, dx, pa, p, l, rows, h, L, rfl, ob, hpa, T, R, A, nx, q⟩ := h
    refine ⟨_, (pss_cons (ps_fld (pv 0) (pe_callTy call_tupleT (by rfl) E.f_tuple (by decide +kernel) (pa_cons (pv 1) pa_nil)) rfl)
      (pss_cons (ps_fld (pv 0) (pv 2) rfl)
      (pss_cons (ps_fld (pv 0) (pe_call (Sh.T.ok_marks_in E) (hr.mono (by decide)) (by rfl) E.g_marks_in E.fd_marks_in.kp E.b_marks_in .nil pass0 (pa_cons (pe_fld (pv 0) rfl) pa_nil)) rfl)
      (pss_cons (ps_fld (pv 0) pe_int rfl)
      (pss_cons (ps_fld (pv 0) pe_int rfl)
      (pss_cons (ps_fld (pv 0) (pe_lst pa_nil) rfl)
      (pss_one (ps_fld (pv 0) pe_non rfl)))))))), ?_⟩
    dsimp only [cxOf]
    refine ⟨_, rfl, pa, l, rfl, SqT.of hpa, _, rfl, x, _, _, _, rfl, ob, E.c_Running, E.n_Running_program, (by decide), ?_⟩
    refine ⟨_, rfl, _, rfl, x, _, _, _, rfl, upd_same, E.c_Running, E.n_Running_hall, (by show 1 < 1000; decide), ?_⟩
    rw [upd_upd]
    have k1 : ∀ b o, H b = some o → b ≠ x → (upd H x (.ins (CR K) dx (putF "hall" (.ref p) (putF "program" (.ref pa) [])))) b = some o := fun b o e n => by rw [upd_ne n]; exact e
    have o1 : (upd H x (.ins (CR K) dx (putF "hall" (.ref p) (putF "program" (.ref pa) [])))) x = some (.ins (CR K) dx (putF "hall" (.ref p) (putF "program" (.ref pa) []))) := upd_same
    have t1 : Tups H (upd H x (.ins (CR K) dx (putF "hall" (.ref p) (putF "program" (.ref pa) [])))) := Tups.upd ob fun _ z => by cases z
    show tSeq _ _ _ _ (upd H x (.ins (CR K) dx (putF "hall" (.ref p) (putF "program" (.ref pa) []))))
    generalize upd H x (.ins (CR K) dx (putF "hall" (.ref p) (putF "program" (.ref pa) []))) = H1 at k1 o1 t1 ⊢
    refine ⟨_, rfl, x, _, _, _, _, rfl, o1, E.c_Running, E.n_Running_program, (by kernel_rfl), pa, l, rows, rfl, t1 _ _ hpa, T.mono t1, R.len, fun H2 z kvs s2 hz hz2 mk => ?_⟩
    refine ⟨_, rfl, x, _, _, _, rfl, s2 _ _ o1, E.c_Running, E.n_Running_places, (by show 2 < 1000; decide), ?_⟩
    refine ⟨_, rfl, x, _, _, _, rfl, upd_same, E.c_Running, E.n_Running_spot, (by show 3 < 1000; decide), ?_⟩
    refine ⟨_, rfl, x, _, _, _, rfl, upd_same, E.c_Running, E.n_Running_rows_done, (by show 4 < 1000; decide), ?_⟩
    rw [upd_upd, upd_upd]
    generalize eF : putF "rows_done" _ _ = fs
    have nxz : z ≠ x := fun e => by
      rw [e, o1] at hz
      cases hz
    have o3 : (upd H2 x (.ins (CR K) dx fs)) x = some (.ins (CR K) dx fs) := upd_same
    have k3 : ∀ b o, H b = some o → b ≠ x → (upd H2 x (.ins (CR K) dx fs)) b = some o := fun b o e n => by
      rw [upd_ne n]
      exact s2 _ _ (k1 b o e n)
    have z3 : (upd H2 x (.ins (CR K) dx fs)) z = some (.dK kvs) := by
      rw [upd_ne nxz]
      exact hz2
    have f3 : ∀ b, (upd H2 x (.ins (CR K) dx fs)) b = none → H b = none := fun b e => by
      by_cases c : b = x
      · rw [c, upd_same] at e
        cases e
      · rw [upd_ne c] at e
        cases g : H b with
        | none => rfl
        | some o =>
          rw [s2 _ _ (k1 b o g c)] at e
          cases e
    show tSeq _ _ _ _ (upd H2 x (.ins (CR K) dx fs))
    generalize upd H2 x (.ins (CR K) dx fs) = H3 at o3 k3 z3 f3 ⊢
    refine ⟨by decide, fun la h4 => ⟨_, rfl, x, _, _, _, rfl, by rw [upd_ne (ne_of_none o3 h4)]; exact o3, E.c_Running, E.n_Running_lines, (by rw [← eF]; show 5 < 1000; decide), ?_⟩⟩
    have nxl : x ≠ la := ne_of_none o3 h4
    refine ⟨_, rfl, x, _, _, _, rfl, upd_same, E.c_Running, E.n_Running_broken, (by rw [← eF]; show 6 < 1000; decide), ?_⟩
    rw [upd_upd]
    have k5 : ∀ b o, H b = some o → b ≠ x → ∀ u, (upd (upd H3 la (.lst [])) x u) b = some o := fun b o e n u => by
      rw [upd_ne n, upd_ne (ne_of_none (k3 b o e n) h4)]
      exact k3 b o e n
    have t5 : ∀ u, Tups H (upd (upd H3 la (.lst [])) x u) := fun u b xs e => k5 b _ e (ne_of e ob fun y => by cases y) u
    have hzH : H z = none := by
      cases g : H z with
      | none => rfl
      | some o =>
        rw [k1 z o g nxz] at hz
        cases hz
    refine q _ ⟨p, pa, z, la, dx, L, kvs, l⟩ ⟨?_, t5 _ _ _ hpa, T.mono (t5 _), ?_, mk, ⟨[], ?_, Tps.nil⟩, ⟨A.toAtR.keep (fun b o e f => k5 b o e (fun y => nx (by rw [← y]; exact f)) _) (t5 _), A.wf⟩, nx, fun f => A.there f (f3 _ h4), fun f => ?_, R⟩ rfl rfl (fun b o e n => k5 b o e n _) (Or.inr (f3 _ h4)) hzH
    · rw [upd_same, ← eF]
      rfl
    · rw [upd_ne nxz, upd_ne (ne_of_none z3 h4)]
      exact z3
    · rw [upd_ne nxl.symm]
      exact upd_same
    · exact A.there f hzH
end
end Sh
end

section
set_option Elab.async false
set_option linter.all false
set_option maxRecDepth 100000
set_option maxHeartbeats 4000000
/-! The law's heap, and what the law is told of one. -/
namespace Sh
open PySem PySem.Spec PyProof.Rows L2
mutual
theorem dp_same {K : PySem.W.Frag} {H H' : Hp} (s : Same H H') : ∀ {v : V} {d : PyData}, Dp K H v d → Dp K H' v d
  | _, _, .non => .non
  | _, _, .bl b => .bl b
  | _, _, .int i => .int i
  | _, _, .str x => .str x
  | _, _, .lst hs ha => .lst (sqL_same hs s) (dpall_same s ha)
  | _, _, .tup hs ha => .tup (hs.imp (fun r => Rd.same r s) id) (dpall_same s ha)
theorem dpall_same {K : PySem.W.Frag} {H H' : Hp} (s : Same H H') : ∀ {l : List V} {ds : List PyData}, DpAll K H l ds → DpAll K H' l ds
  | _, _, .nil => .nil
  | _, _, .cons h t => .cons (dp_same s h) (dpall_same s t)
end
def hide (H : Hp) (D : Addr) : Hp := fun b => if b = D then none else H b
theorem hide_upd {H : Hp} {D : Addr} {o : HO} : hide (upd H D o) D = hide H D := by
  funext b
  unfold hide
  by_cases c : b = D
  · rw [if_pos c, if_pos c]
  · rw [if_neg c, if_neg c, upd_ne c]
theorem hide_same {H H' : Hp} {D : Addr} (s : Same H H') : Same (hide H D) (hide H' D) := fun b o e => by
  unfold hide at e ⊢
  by_cases c : b = D
  · rw [if_pos c] at e
    cases e
  · rw [if_neg c] at e ⊢
    exact s b o e
theorem hide_le {H : Hp} {D : Addr} : Same (hide H D) H := fun b o e => by
  unfold hide at e
  by_cases c : b = D
  · rw [if_pos c] at e
    cases e
  · rw [if_neg c] at e
    exact e
theorem hide_at {H : Hp} {D b : Addr} (n : b ≠ D) : hide H D b = H b := if_neg n
def thD (q : Int × Thing) : PyData := .tuple [.int q.1, .list (q.2.inside.map Val.data), .bool q.2.aged, oData q.2.word]
def toldD (h : IH) : PyData := .list [.list (h.hands.map Val.data), .list (h.names.map oData), .list (h.kept.map thD), .list [], .list (h.spoken.map PyData.int), .int h.count, .bool false]
theorem val_lay (x : Val) : PyData.canLay0 x.data = true ∧ PyData.depth x.data ≤ 1 := by
  have h := val_shaped x
  refine ⟨SeqAt.canLay_of_shaped h, ?_⟩
  cases x with
  | non => show 0 ≤ 1; decide
  | num i => show max 0 (max 0 0) + 1 ≤ 1; decide
  | thg i => show max 0 (max 0 0) + 1 ≤ 1; decide
theorem all_lay {k : Nat} : ∀ {ds : List PyData}, (∀ d ∈ ds, PyData.canLay0 d = true ∧ PyData.depth d ≤ k) → PyData.canLayAll0 ds = true ∧ PyData.depthAll ds ≤ k
  | [], _ => ⟨rfl, Nat.zero_le _⟩
  | d :: ds, h => by
    obtain ⟨h1, h2⟩ := h d (List.mem_cons_self ..)
    obtain ⟨h3, h4⟩ := all_lay (ds := ds) fun q m => h q (List.mem_cons_of_mem _ m)
    refine ⟨?_, ?_⟩
    · show (PyData.canLay0 d && PyData.canLayAll0 ds) = true
      rw [h1, h3]
      rfl
    · show max (PyData.depth d) (PyData.depthAll ds) ≤ k
      omega
theorem list_lay {k : Nat} {ds : List PyData} (h : ∀ d ∈ ds, PyData.canLay0 d = true ∧ PyData.depth d ≤ k) : PyData.canLay0 (.list ds) = true ∧ PyData.depth (.list ds) ≤ k + 1 := by
  obtain ⟨h1, h2⟩ := all_lay h
  exact ⟨h1, by show PyData.depthAll ds + 1 ≤ k + 1; omega⟩
theorem tuple_lay {k : Nat} {ds : List PyData} (h : ∀ d ∈ ds, PyData.canLay0 d = true ∧ PyData.depth d ≤ k) : PyData.canLay0 (.tuple ds) = true ∧ PyData.depth (.tuple ds) ≤ k + 1 := by
  obtain ⟨h1, h2⟩ := all_lay h
  exact ⟨h1, by show PyData.depthAll ds + 1 ≤ k + 1; omega⟩
theorem vals_lay (xs : List Val) : PyData.canLay0 (.list (xs.map Val.data)) = true ∧ PyData.depth (.list (xs.map Val.data)) ≤ 2 := list_lay fun d m => by
  obtain ⟨x, _, rfl⟩ := List.mem_map.mp m
  exact val_lay x
theorem o_lay (x : Option Int) : PyData.canLay0 (oData x) = true ∧ PyData.depth (oData x) ≤ 0 := by
  cases x <;> exact ⟨rfl, Nat.le_refl _⟩
theorem th_lay (q : Int × Thing) : PyData.canLay0 (thD q) = true ∧ PyData.depth (thD q) ≤ 3 := tuple_lay (k := 2) fun d m => by
  have ho := o_lay q.2.word
  have hv := vals_lay q.2.inside
  rcases List.mem_cons.mp m with rfl | m
  · exact ⟨rfl, Nat.zero_le _⟩
  rcases List.mem_cons.mp m with rfl | m
  · exact hv
  rcases List.mem_cons.mp m with rfl | m
  · exact ⟨rfl, Nat.zero_le _⟩
  rcases List.mem_cons.mp m with rfl | m
  · exact ⟨ho.1, by omega⟩
  · cases m
theorem told_shaped (h : IH) : SeqAt.shaped (toldD h) = true := by
  have r : PyData.canLay0 (toldD h) = true ∧ PyData.depth (toldD h) ≤ 5 := list_lay (k := 4) fun d m => by
    rcases List.mem_cons.mp m with rfl | m
    · exact ⟨(vals_lay h.hands).1, Nat.le_trans (vals_lay h.hands).2 (by decide)⟩
    rcases List.mem_cons.mp m with rfl | m
    · refine ((list_lay (k := 0) fun d m => ?_) : _ ∧ _).imp id fun z => Nat.le_trans z (by decide)
      obtain ⟨x, _, rfl⟩ := List.mem_map.mp m
      exact o_lay x
    rcases List.mem_cons.mp m with rfl | m
    · refine list_lay (k := 3) fun d m => ?_
      obtain ⟨x, _, rfl⟩ := List.mem_map.mp m
      exact th_lay x
    rcases List.mem_cons.mp m with rfl | m
    · exact ⟨rfl, by show 0 + 1 ≤ 4; decide⟩
    rcases List.mem_cons.mp m with rfl | m
    · refine ((list_lay (k := 0) fun d m => ?_) : _ ∧ _).imp id fun z => Nat.le_trans z (by decide)
      obtain ⟨x, _, rfl⟩ := List.mem_map.mp m
      exact ⟨rfl, Nat.le_refl _⟩
    rcases List.mem_cons.mp m with rfl | m
    · exact ⟨rfl, Nat.zero_le _⟩
    rcases List.mem_cons.mp m with rfl | m
    · exact ⟨rfl, Nat.zero_le _⟩
    · cases m
  show (PyData.canLay0 (toldD h) && decide (PyData.depth (toldD h) ≤ 64)) = true
  rw [r.1, decide_eq_true (Nat.le_trans r.2 (by decide))]
  rfl
theorem dp_ints {K : PySem.W.Frag} {H : Hp} : ∀ xs : List Int, DpAll K H (xs.map V.int) (xs.map PyData.int)
  | [] => .nil
  | x :: xs => .cons (.int x) (dp_ints xs)
theorem dp_os {K : PySem.W.Frag} {H : Hp} : ∀ xs : List (Option Int), DpAll K H (xs.map oV) (xs.map oData)
  | [] => .nil
  | x :: xs => .cons (dp_o x) (dp_os xs)
theorem dpall_snoc {K : PySem.W.Frag} {H : Hp} : ∀ {l : List V} {ds : List PyData} {v : V} {d : PyData}, DpAll K H l ds → Dp K H v d → DpAll K H (l ++ [v]) (ds ++ [d])
  | [], [], _, _, _, h => .cons h .nil
  | _ :: _, _ :: _, _, _, .cons a t, h => .cons a (dpall_snoc t h)
section
variable {P : Program} {w : World} {K : PySem.W.Frag} {mg : Str → Option Value} {base : Heap}
def hdOf : List Int → Int
  | [] => 0
  | n :: _ => n / 2 % 1000003
def yOf (ns : List Int) : Int := [14, 0, 7, 9, 30, 64].getD (hdOf ns % 6).toNat 0
def lOf (ns : List Int) : Int := [400, 60, 120].getD (hdOf ns / 6 % 3).toNat 0
theorem six {c : Int} (h : 0 ≤ c ∧ c < 6) : atI [V.int 14, V.int 0, V.int 7, V.int 9, V.int 30, V.int 64] c = some (.int ([14, 0, 7, 9, 30, 64].getD c.toNat 0)) ∧ (([14, 0, 7, 9, 30, 64] : List Int).getD c.toNat 0 = 0 ∨ (7 ≤ ([14, 0, 7, 9, 30, 64] : List Int).getD c.toNat 0 ∧ ([14, 0, 7, 9, 30, 64] : List Int).getD c.toNat 0 ≤ 64)) := by
  rcases (show c = 0 ∨ c = 1 ∨ c = 2 ∨ c = 3 ∨ c = 4 ∨ c = 5 by omega) with rfl | rfl | rfl | rfl | rfl | rfl <;> exact ⟨rfl, by decide⟩
theorem three {c : Int} (h : 0 ≤ c ∧ c < 3) : atI [V.int 400, V.int 60, V.int 120] c = some (.int ([400, 60, 120].getD c.toNat 0)) ∧ 7 ≤ ([400, 60, 120] : List Int).getD c.toNat 0 ∧ ([400, 60, 120] : List Int).getD c.toNat 0 ≤ 400 := by
  rcases (show c = 0 ∨ c = 1 ∨ c = 2 by omega) with rfl | rfl | rfl <;> exact ⟨rfl, by decide, by decide⟩
def spLHeap (K : PySem.W.Frag) : Sp := fun vs H Q _ => ∃ (a : Addr) (ns : List Int), vs = [.ref a] ∧ SqL K H a (ns.map V.int) ∧ ns.length ≤ 63 ∧ ∀ H' p L, At K H' p (ih0 (yOf ns) (lOf ns)) L → Same H H' → (∀ b, fp p L [] b → H b = none) → Q (.ref p) H'
theorem sc_law_heap : FnScope ["script", "head"] ["script"] (defScope st_law_heap) := ⟨rfl, rfl, rfl, by decide +kernel, rfl, by decide +kernel, by decide +kernel⟩
theorem ok_law_heap (E : Txt K mg) : FnOk P w K mg base CX0 4 (fAd at_law_heap K) (fdOf at_law_heap K) ["script"] (spLHeap K) := by
  refine FunD.ok0 E.fd_law_heap sc_law_heap (fun vs H Q E0 h => ?_) (fun cdv A outer s H vs Q E0 hr h => ?_)
  · obtain ⟨a, ns, rfl, _⟩ := h
    rfl
  · obtain ⟨a, ns, rfl, hS, hl, q⟩ := h
    refine ⟨_, (pss_cons (ps_set (i := 1) sc_law_heap.nd rfl (Or.inl rfl) pe_int)
      (pss_cons (ps_if (pt_cmpR op_gt (pe_callB call_len (by rfl) E.f_len PySem.boot_len (pa_cons (pv 0) pa_nil)) pe_int (nomark _)) (pss_one (ps_set (i := 1) sc_law_heap.nd rfl (Or.inl rfl) (pe_op op_mod (pe_op op_fdiv (pe_ix ix_list (pv 0) pe_int (fun _ _ => rfl)) pe_int) pe_int))) pss_nil)
      (pss_one (ps_ret (pe_make E.k_IdealHeap (ok_IdealHeap_init E) (hr.mono (by decide)) (by rfl) E.g_IdealHeap E.b_IdealHeap_init .nil passL (pa_cons (pe_ix ix_list (pe_lst (pa_cons pe_int (pa_cons pe_int (pa_cons pe_int (pa_cons pe_int (pa_cons pe_int (pa_cons pe_int pa_nil))))))) (pe_op op_mod (pv 1) pe_int) (fun _ _ => rfl)) (pa_cons (pe_ix ix_list (pe_lst (pa_cons pe_int (pa_cons pe_int (pa_cons pe_int pa_nil)))) (pe_op op_mod (pe_op op_fdiv (pv 1) pe_int) pe_int) (fun _ _ => rfl)) pa_nil))))))), ?_⟩
    dsimp only [cxOf]
    refine gN ?_
    dsimp only
    refine seq_meet (fun σ' H' => H = H' ∧ σ' = [some (.ref a), some (.int (hdOf ns))]) (fun N hN => ?_) ?_
    · have el : (ns.map V.int).length = ns.length := List.length_map _
      refine ⟨_, rfl, _, _, rfl, Or.inl ⟨_, hS, rfl⟩, _, _, rfl, rfl, _, rfl, ifd (fun c => ?_) fun c => ?_⟩
      · cases ns with
        | nil => exact absurd c (by simp)
        | cons n ns => exact ⟨_, rfl, a, _, 0, .int n, rfl, rfl, hS, at_int (by decide) rfl, _, _, rfl, rfl, ⟨by decide, by decide⟩, _, _, rfl, rfl, (by show (0 : Int) < _; decide), hN _ _ ⟨rfl, rfl⟩⟩
      · cases ns with
        | nil => exact hN _ _ ⟨rfl, rfl⟩
        | cons n ns => exact absurd (by rw [el, List.length_cons]; omega) c
    · rintro _ _ ⟨rfl, rfl⟩
      obtain ⟨a6, b6⟩ := six (c := hdOf ns % 6) (by omega)
      obtain ⟨a3, b3, c3⟩ := three (c := hdOf ns / 6 % 3) (by omega)
      refine ⟨(show 6 ≤ sizeLine by decide), fun l1 h1 => ⟨_, rfl, _, _, rfl, rfl, (by show (0 : Int) < _; decide), l1, _, _, _, rfl, rfl, SqL.of upd_same, a6, (show 3 ≤ sizeLine by decide), fun l2 h2 => ?_⟩⟩
      have s1 := (upd_same_of_none (o := .lst [V.int 14, V.int 0, V.int 7, V.int 9, V.int 30, V.int 64]) h1).trans (upd_same_of_none (o := .lst [V.int 400, V.int 60, V.int 120]) h2)
      refine ⟨_, rfl, _, _, rfl, rfl, ⟨by decide, by decide⟩, _, _, rfl, rfl, (by show (0 : Int) < _; decide), l2, _, _, _, rfl, rfl, SqL.of upd_same, a3, fun x dx hx hdx hne => ?_⟩
      generalize upd (upd H l1 _) l2 _ = H2 at s1 hx hdx ⊢
      refine ⟨x, dx, yOf ns, lOf ns, rfl, upd_same, b6, b3, c3, fun H' L A k f => ⟨rfl, q H' x L A (fun b o e => ?_) fun b fb => ?_⟩⟩
      · have e2 := s1 b o e
        refine k b o ?_ (ne_of_none e2 hx)
        rw [upd_ne (ne_of_none e2 hx), upd_ne (ne_of_none e2 hdx)]
        exact e2
      · cases e : H b with
        | none => rfl
        | some o =>
          have e2 := s1 b o e
          rcases f b fb with z | z
          · exact absurd z (ne_of_none e2 hx)
          · rw [upd_ne (ne_of_none e2 hx), upd_ne (ne_of_none e2 hdx), e2] at z
            cases z
end
end Sh
end

section
set_option Elab.async false
set_option linter.all false
set_option maxRecDepth 100000
set_option maxHeartbeats 4000000
/-! What the law is told of a heap. -/
namespace Sh
open PySem PySem.Spec PyProof.Rows L2
section
variable {P : Program} {w : World} {K : PySem.W.Frag} {mg : Str → Option Value} {base : Heap}
def spLTold (K : PySem.W.Frag) : Sp := fun vs H Q _ => ∃ (p : Addr) (h : IH) (L : Lay), vs = [.ref p] ∧ At K H p h L ∧ ∀ H' z, Same H H' → Dp K H' (.ref z) (toldD h) → Q (.ref z) H'
theorem sc_law_told : FnScope ["heap", "things", "rows", "t"] ["heap"] (defScope st_law_told) := ⟨rfl, rfl, rfl, by decide +kernel, rfl, by decide +kernel, by decide +kernel⟩
theorem ok_law_told (E : Txt K mg) : FnOk P w K mg base CX0 3 (fAd at_law_told K) (fdOf at_law_told K) ["heap"] (spLTold K) := by
  refine FunD.ok0 E.fd_law_told sc_law_told (fun vs H Q E0 h => ?_) (fun cdv A outer s H vs Q E0 hr h => ?_)
  · obtain ⟨p, h, L, rfl, _⟩ := h
    rfl
  · obtain ⟨p, h, L, rfl, A, q⟩ := h
    refine ⟨_, (pss_cons (ps_set (i := 1) sc_law_told.nd rfl (Or.inl rfl) (pe_meth0 (pv 0) E.c_IdealHeap E.m_IdealHeap_things (ok_IdealHeap_things E) (hr.mono (by decide)) E.b_IdealHeap_things .nil pass0))
      (pss_cons (ps_setLc (i := 2) (own := [("t", 3)]) rfl sc_law_told.nd rfl rfl (sw_true rfl rfl rfl (by decide +kernel)) (pi_list (pv 1)) (blkOk_by (own := [("t", 3)]) (N := ["heap", "things", "rows", "t"]) (sc := (defScope st_law_told)) (by decide +kernel)) (fun _ _ _ _ _ => (pg_name (i := 3) sc_law_told.nd rfl (Or.inl rfl))) (fun _ _ _ _ _ => pts_nil) (fun _ _ _ _ _ => by exact ((pe_tup (pa_cons (pv 3) (pa_cons (pe_meth (pv 0) E.c_IdealHeap E.m_IdealHeap_fields_of (ok_IdealHeap_fields_of E) (hr.mono (by decide)) E.b_IdealHeap_fields_of .nil pass0 (pa_cons (pv 3) pa_nil)) (pa_cons (pe_meth (pv 0) E.c_IdealHeap E.m_IdealHeap_is_old (ok_IdealHeap_is_old E) (hr.mono (by decide)) E.b_IdealHeap_is_old .nil pass0 (pa_cons (pv 3) pa_nil)) (pa_cons (pe_meth (pv 0) E.c_IdealHeap E.m_IdealHeap_word_of (ok_IdealHeap_word_of E) (hr.mono (by decide)) E.b_IdealHeap_word_of .nil pass0 (pa_cons (pv 3) pa_nil)) pa_nil))))))))
      (pss_one (ps_ret (pe_lst (pa_cons (pe_meth0 (pv 0) E.c_IdealHeap E.m_IdealHeap_hands (ok_IdealHeap_hands E) (hr.mono (by decide)) E.b_IdealHeap_hands .nil pass0) (pa_cons (pe_meth0 (pv 0) E.c_IdealHeap E.m_IdealHeap_names (ok_IdealHeap_names E) (hr.mono (by decide)) E.b_IdealHeap_names .nil pass0) (pa_cons (pv 2) (pa_cons (pe_meth0 (pv 0) E.c_IdealHeap E.m_IdealHeap_doomed (ok_IdealHeap_doomed E) (hr.mono (by decide)) E.b_IdealHeap_doomed .nil pass0) (pa_cons (pe_meth0 (pv 0) E.c_IdealHeap E.m_IdealHeap_said (ok_IdealHeap_said E) (hr.mono (by decide)) E.b_IdealHeap_said .nil pass0) (pa_cons (pe_meth0 (pv 0) E.c_IdealHeap E.m_IdealHeap_made (ok_IdealHeap_made E) (hr.mono (by decide)) E.b_IdealHeap_made .nil pass0) (pa_cons (pe_meth0 (pv 0) E.c_IdealHeap E.m_IdealHeap_round_on (ok_IdealHeap_round_on E) (hr.mono (by decide)) E.b_IdealHeap_round_on .nil pass0) pa_nil)))))))))))), ?_⟩
    dsimp only [cxOf]
    have klen := A.wf.klen
    refine ⟨_, rfl, p, _, _, rfl, A.ob, (by kernel_rfl), p, h, L, rfl, A, fun y hy => ?_⟩
    have s1 : Same H (upd H y (.lst ((keys h.kept).map V.int))) := upd_same_of_none hy
    have y1 : (upd H y (.lst ((keys h.kept).map V.int))) y = some (.lst ((keys h.kept).map V.int)) := upd_same
    generalize upd H y (.lst ((keys h.kept).map V.int)) = H1 at s1 y1 ⊢
    have A1 := A.same s1
    refine ⟨_, rfl, y, rfl, ⟨_, SqL.of y1⟩, fun D hD => ?_⟩
    have kl : ((keys h.kept).map V.int).length = h.kept.length := by unfold keys; rw [List.length_map, List.length_map]
    refine lc_it (walk_list (xs := (keys h.kept).map V.int)) (fun i H2 => (∃ acc, H2 D = some (.lst acc) ∧ acc.length = i ∧ DpAll K (hide H2 D) acc ((h.kept.take i).map thD)) ∧ Same H1 H2) ⟨⟨[], upd_same, rfl, .nil⟩, upd_same_of_none hD⟩ (fun i H2 _ z => SqL.of (z.2 _ _ y1)) ?_ ?_
    · rintro i v H3 H2 hi ⟨⟨acc, g1, g2, g3⟩, g4⟩ ⟨rfl, hv⟩
      have hi2 : i < h.kept.length := by omega
      have er := List.getElem?_eq_getElem hi2
      generalize h.kept[i] = r at er
      have rm := List.mem_of_getElem? er
      have ev : v = .int r.1 := by
        unfold keys at hv
        rw [List.getElem?_map, List.getElem?_map, er] at hv
        exact (Option.some.inj hv).symm
      subst ev
      have eg : kget h.kept r.1 = some r.2 := mem_kget A.wf.asc rm
      have A2 := A1.same g4
      refine ⟨rfl, _, rfl, _, rfl, p, _, _, rfl, A2.ob, (by kernel_rfl), _, rfl, p, r.1, h, L, r.2, rfl, A2, eg, fun il f va hf => ?_⟩
      have s3 : Same H2 (upd H2 f (.lst il)) := upd_same_of_none hf
      have f3 : (upd H2 f (.lst il)) f = some (.lst il) := upd_same
      have va3 : VAs (upd H2 f (.lst il)) il r.2.inside := va.mono (Tups.of s3)
      have nfD : f ≠ D := fun e => by
        rw [e, g1] at hf
        cases hf
      have hva : VAs (hide H2 D) il r.2.inside := ⟨va.len, fun j u x a b => by
        have := va.at_ j u x a b
        cases x with
        | non => exact this
        | num n =>
          obtain ⟨c, e, hc⟩ := this
          exact ⟨c, e, by rw [hide_at fun z => by rw [z, g1] at hc; cases hc]; exact hc⟩
        | thg n =>
          obtain ⟨c, e, hc⟩ := this
          exact ⟨c, e, by rw [hide_at fun z => by rw [z, g1] at hc; cases hc]; exact hc⟩⟩
      replace hva := hva.mono (Tups.of (hide_same (D := D) s3))
      generalize upd H2 f (.lst il) = H4 at s3 f3 va3 hva ⊢
      have A4 := A2.same s3
      refine ⟨_, rfl, p, _, _, rfl, A4.ob, (by kernel_rfl), _, rfl, p, r.1, h, L, r.2, rfl, A4, eg, ?_⟩
      refine ⟨_, rfl, p, _, _, rfl, A4.ob, (by kernel_rfl), _, rfl, p, r.1, h, L, r.2, rfl, A4, eg, (show 4 ≤ sizeLine by decide), fun t ht => ?_⟩
      have s5 : Same H4 (upd H4 t (.tup [.int r.1, .ref f, .bl r.2.aged, oV r.2.word])) := upd_same_of_none ht
      have t5 : (upd H4 t (.tup [.int r.1, .ref f, .bl r.2.aged, oV r.2.word])) t = some (.tup [.int r.1, .ref f, .bl r.2.aged, oV r.2.word]) := upd_same
      have ntD : t ≠ D := fun e => by
        rw [e, s3 _ _ g1] at ht
        cases ht
      generalize upd H4 t (.tup [.int r.1, .ref f, .bl r.2.aged, oV r.2.word]) = H5 at s5 t5 ⊢
      refine ⟨acc, s5 _ _ (s3 _ _ g1), line1000 (by omega), ⟨_, upd_same, by rw [List.length_append, g2]; rfl, ?_⟩, fun b o e => ?_⟩
      · rw [hide_upd, take_sub er, List.map_append]
        refine dpall_snoc (dpall_same ((hide_same s3).trans (hide_same s5)) g3) ?_
        refine .tup (SqT.of (show hide H5 D t = _ by rw [hide_at ntD]; exact t5)) (.cons (.int _) (.cons (.lst (SqL.of (show hide H5 D f = _ by rw [hide_at nfD]; exact s5 _ _ f3)) ?_) (.cons (.bl _) (.cons (dp_o _) .nil))))
        exact dp_vals (hva.mono (Tups.of (hide_same s5)))
      · rw [upd_ne (ne_of_none e hD)]
        exact s5 _ _ (s3 _ _ (g4 b o e))
    · rintro H2 ⟨⟨acc, g1, g2, g3⟩, g4⟩
      rw [kl, List.take_length] at g3
      have d2 : Dp K H2 (.ref D) (.list (h.kept.map thD)) := .lst (SqL.of g1) (dpall_same hide_le g3)
      have A2 := A1.same g4
      refine ⟨_, rfl, p, _, _, rfl, A2.ob, (by kernel_rfl), p, h, L, rfl, A2, fun hl b3 va h3 => ?_⟩
      have s3 := upd_same_of_none (o := .lst hl) h3
      have d3 : Dp K (upd H2 b3 (.lst hl)) (.ref b3) (.list (h.hands.map Val.data)) := .lst (SqL.of upd_same) (dp_vals (va.mono (Tups.of s3)))
      generalize upd H2 b3 (.lst hl) = H3 at s3 d3 ⊢
      have A3 := A2.same s3
      refine ⟨_, rfl, p, _, _, rfl, A3.ob, (by kernel_rfl), p, h, L, rfl, A3, fun b4 h4 => ?_⟩
      have s4 := upd_same_of_none (o := .lst (h.names.map oV)) h4
      have d4 : Dp K (upd H3 b4 (.lst (h.names.map oV))) (.ref b4) (.list (h.names.map oData)) := .lst (SqL.of upd_same) (dp_os _)
      generalize upd H3 b4 (.lst (h.names.map oV)) = H4 at s4 d4 ⊢
      have A4 := A3.same s4
      refine ⟨_, rfl, _, rfl, p, _, _, rfl, A4.ob, (by kernel_rfl), p, h, L, rfl, A4, fun b5 h5 => ?_⟩
      have s5 := upd_same_of_none (o := .lst []) h5
      have d5 : Dp K (upd H4 b5 (.lst [])) (.ref b5) (.list []) := .lst (SqL.of upd_same) .nil
      generalize upd H4 b5 (.lst []) = H5 at s5 d5 ⊢
      have A5 := A4.same s5
      refine ⟨_, rfl, p, _, _, rfl, A5.ob, (by kernel_rfl), p, h, L, rfl, A5, fun b6 h6 => ?_⟩
      have s6 := upd_same_of_none (o := .lst (h.spoken.map V.int)) h6
      have d6 : Dp K (upd H5 b6 (.lst (h.spoken.map V.int))) (.ref b6) (.list (h.spoken.map PyData.int)) := .lst (SqL.of upd_same) (dp_ints _)
      generalize upd H5 b6 (.lst (h.spoken.map V.int)) = H6 at s6 d6 ⊢
      have A6 := A5.same s6
      refine ⟨_, rfl, p, _, _, rfl, A6.ob, (by kernel_rfl), p, h, L, rfl, A6, _, rfl, p, _, _, rfl, A6.ob, (by kernel_rfl), p, h, L, rfl, A6, (show 7 ≤ sizeLine by decide), fun z hz => ?_⟩
      have s7 := upd_same_of_none (o := .lst [.ref b3, .ref b4, .ref D, .ref b5, .ref b6, .int h.count, .bl false]) hz
      refine q _ z ((((((s1.trans g4).trans s3).trans s4).trans s5).trans s6).trans s7) (.lst (SqL.of upd_same) ?_)
      exact .cons (dp_same (((s4.trans s5).trans s6).trans s7) d3) (.cons (dp_same ((s5.trans s6).trans s7) d4) (.cons (dp_same ((((s3.trans s4).trans s5).trans s6).trans s7) d2) (.cons (dp_same (s6.trans s7) d5) (.cons (dp_same s7 d6) (.cons (.int _) (.cons (.bl _) .nil))))))
end
end Sh
end

section
set_option Elab.async false
set_option linter.all false
set_option maxRecDepth 100000
set_option maxHeartbeats 4000000
/-! A step is right. -/
namespace Sh
open PySem PySem.Spec PyProof.Rows L2
structure Pair (K : PySem.W.Frag) (H : Hp) (rr p2 ra : Addr) (R : RS) (M : RL) (L2 : Lay) (l2 : List V) : Prop where
  run : RunAt K H rr R M
  tw : At K H p2 R.h L2
  rl : H ra = some (.lst l2)
  T : Tps H l2 (R.prog.map Row.parts)
  d1 : ∀ b, rfp rr M R.h.kept b → ¬ fp p2 L2 R.h.kept b
  d2 : ¬ fp p2 L2 R.h.kept M.pl
  d3 : ¬ rfp rr M R.h.kept ra
  d4 : ¬ fp p2 L2 R.h.kept ra
section
variable {K : PySem.W.Frag} {H H' : Hp} {rr p2 ra : Addr} {R : RS} {M : RL} {L2 L2' : Lay} {l2 : List V}
theorem Pair.same (A : Pair K H rr p2 ra R M L2 l2) (s : Same H H') : Pair K H' rr p2 ra R M L2 l2 := ⟨A.run.same s, A.tw.same s, s _ _ A.rl, A.T.mono (Tups.of s), A.d1, A.d2, A.d3, A.d4⟩
/-- the twin did a deed -/
structure Mid (K : PySem.W.Frag) (H : Hp) (rr p2 ra : Addr) (R : RS) (h : IH) (M : RL) (L2 : Lay) (l2 : List V) : Prop where
  run : RunAt K H rr R M
  tw : At K H p2 h L2
  rl : H ra = some (.lst l2)
  T : Tps H l2 (R.prog.map Row.parts)
  d1 : ∀ b, rfp rr M R.h.kept b → ¬ fp p2 L2 h.kept b
  d2 : ¬ fp p2 L2 h.kept M.pl
  d3 : ¬ rfp rr M R.h.kept ra
  d4 : ¬ fp p2 L2 h.kept ra
theorem Pair.one (A : Pair K H rr p2 ra R M L2 l2) {h' : IH} (B : At K H' p2 h' L2') (F : Fr p2 L2 R.h.kept H L2' h'.kept H') : Mid K H' rr p2 ra R h' M L2' l2 := by
  have t := F.tups A.tw.toAtR
  have nw : ∀ b, H b ≠ none → ¬ fp p2 L2 R.h.kept b → ¬ fp p2 L2' h'.kept b := fun b e n f => (F.new b f).elim n e
  refine ⟨A.run.keep (fun b o e f => F.keep b o e ?_) t, B, F.keep _ _ A.rl A.d4, A.T.mono t, fun b f => nw b (A.run.there f) (A.d1 b f), nw _ (by rw [A.run.pl]; intro z; cases z) A.d2, A.d3, nw _ (by rw [A.rl]; intro z; cases z) A.d4⟩
  rcases f with f | rfl
  · exact A.d1 b f
  · exact A.d2
theorem Mid.same {h : IH} (A : Mid K H rr p2 ra R h M L2 l2) (s : Same H H') : Mid K H' rr p2 ra R h M L2 l2 := ⟨A.run.same s, A.tw.same s, s _ _ A.rl, A.T.mono (Tups.of s), A.d1, A.d2, A.d3, A.d4⟩
theorem Mid.step {R' : RS} {M' : RL} (A : Mid K H rr p2 ra R R'.h M L2 l2) (ep : R'.prog = R.prog) (epl : M'.pl = M.pl) (B : RunAt K H' rr R' M') (F : RFr rr M R.h.kept H M' R'.h.kept H') : Pair K H' rr p2 ra R' M' L2 l2 := by
  have t := F.tups A.run
  refine ⟨B, ⟨A.tw.toAtR.keep (fun b o e f => F.keep b o e fun g => A.d1 b g f) t, A.tw.wf⟩, F.keep _ _ A.rl A.d3, by rw [ep]; exact A.T.mono t, fun b f g => ?_, by rw [epl]; exact A.d2, fun f => ?_, A.d4⟩
  · rcases F.new b f with z | z
    · exact A.d1 b z g
    · exact A.tw.toAtR.there g z
  · rcases F.new _ f with z | z
    · exact A.d3 z
    · rw [A.rl] at z
      cases z
end
theorem one_flt (h : IH) (r : Row) (n : (one h r).flt ≠ none) : (one h r).said = none ∧ (one h r).jmp = false := by
  have res : ∀ (x : Res Unit), (match x with | .ok _ g => (⟨none, none, false, g⟩ : One) | .err e g => ⟨some e, none, false, g⟩).said = none ∧ (match x with | .ok _ g => (⟨none, none, false, g⟩ : One) | .err e g => ⟨some e, none, false, g⟩).jmp = false := fun x => by cases x <;> exact ⟨rfl, rfl⟩
  have jm : ∀ x : Option Bool, (match x with | some b => (⟨none, none, b, h⟩ : One) | none => ⟨some .badHand, none, false, h⟩).flt ≠ none → (match x with | some b => (⟨none, none, b, h⟩ : One) | none => ⟨some .badHand, none, false, h⟩).said = none ∧ (match x with | some b => (⟨none, none, b, h⟩ : One) | none => ⟨some .badHand, none, false, h⟩).jmp = false := fun x z => by
    cases x with
    | none => exact ⟨rfl, rfl⟩
    | some b => exact absurd rfl z
  unfold one at n ⊢
  split
  · exact res _
  · rename_i c
    rw [if_neg c] at n
    cases r <;> first | exact absurd rfl n | exact jm _ n
theorem one_jmp (h : IH) (r : Row) (j : (one h r).jmp = true) : r.jumps = true := by
  have res : ∀ (x : Res Unit), (match x with | .ok _ g => (⟨none, none, false, g⟩ : One) | .err e g => ⟨some e, none, false, g⟩).jmp = false := fun x => by cases x <;> rfl
  unfold one at j
  split at j
  · exact absurd ((res _).symm.trans j) (by decide)
  · cases r <;> first | rfl | (cases j; done) | (rename_i c; exact absurd rfl c)
theorem dSaid_ok (h : IH) (i : Int) : (dSaid h i).all okV = true := by
  have e1 : PyData.strOk ("none" : Str) = true := by decide +kernel
  have e2 : PyData.strOk ("number" : Str) = true := by decide +kernel
  have e3 : PyData.strOk ("thing" : Str) = true := by decide +kernel
  unfold dSaid
  split
  · show (PyData.strOk ("none" : Str) && true) = true
    rw [e1]
    rfl
  · show (PyData.strOk ("number" : Str) && (true && true)) = true
    rw [e2]
    rfl
  · show (PyData.strOk ("thing" : Str) && (true && true)) = true
    rw [e3]
    rfl
theorem one_said (h : IH) (r : Row) : ∀ x, (one h r).said = some x → x.all okV = true := fun x e => by
  have res : ∀ (x : Res Unit), (match x with | .ok _ g => (⟨none, none, false, g⟩ : One) | .err e g => ⟨some e, none, false, g⟩).said = none := fun x => by cases x <;> rfl
  have jm : ∀ x : Option Bool, (match x with | some b => (⟨none, none, b, h⟩ : One) | none => ⟨some .badHand, none, false, h⟩).said = none := fun x => by cases x <;> rfl
  unfold one at e
  split at e
  · exact absurd ((res _).symm.trans e) (fun z => by cases z)
  · cases r with
    | say a =>
      cases e
      exact dSaid_ok h a
    | mark m => cases e
    | _ =>
      dsimp only at e
      split at e <;> cases e
section
variable (R : RS) (r : Row)
theorem stepped_h : (R.stepped r).h = (one R.h r).h := by
  unfold RS.stepped
  split <;> rfl
theorem stepped_prog : (R.stepped r).prog = R.prog := by
  unfold RS.stepped
  split <;> rfl
theorem stepped_done : (R.stepped r).done = R.done + 1 := by
  unfold RS.stepped
  split <;> rfl
theorem stepped_lines : (R.stepped r).lines = R.lines ++ (one R.h r).said.toList := by
  unfold RS.stepped
  split
  · rfl
  · rename_i e he
    have := (one_flt R.h r (by rw [he]; intro z; cases z)).1
    rw [this]
    exact (List.append_nil _).symm
theorem stepped_broken (hb : R.broken = none) : (R.stepped r).broken = (one R.h r).flt := by
  unfold RS.stepped
  split
  · rename_i he
    rw [he]
    exact hb
  · rename_i e he
    rw [he]
theorem stepped_at (hb : R.broken = none) : (R.stepped r).at = if (one R.h r).flt = none ∧ R.next r < R.prog.length then some (R.next r : Int) else none := by
  unfold RS.at
  rw [stepped_broken R r hb, stepped_prog]
  by_cases c : (one R.h r).flt = none
  · have : (R.stepped r).spot = R.next r := by
      unfold RS.stepped
      rw [c]
      rfl
    rw [this]
  · rw [if_neg (fun z => c z.1), if_neg (fun z => c z.1)]
end
def LinesOk (R : RS) : Prop := ∀ x ∈ R.lines, x.all okV = true
theorem LinesOk.step {R : RS} (h : LinesOk R) (r : Row) : LinesOk (R.stepped r) := fun x m => by
  rw [stepped_lines] at m
  rcases List.mem_append.mp m with z | z
  · exact h x z
  · cases e : (one R.h r).said with
    | none =>
      rw [e] at z
      cases z
    | some y =>
      rw [e] at z
      rw [List.mem_singleton.mp z]
      exact one_said R.h r y e
structure Bnd (R : RS) : Prop where
  lines : (R.lines.length : Int) ≤ R.done
  count : R.h.count ≤ R.done
theorem Bnd.step {R : RS} (h : Bnd R) (r : Row) : Bnd (R.stepped r) := by
  refine ⟨?_, ?_⟩
  · rw [stepped_lines, stepped_done, List.length_append]
    have := h.lines
    have : (one R.h r).said.toList.length ≤ 1 := by cases (one R.h r).said <;> simp
    omega
  · rw [stepped_h, stepped_done]
    have := one_count R.h r
    have := h.count
    omega
theorem stepped_fV {R : RS} {r : Row} (hb : R.broken = none) : (R.stepped r).brV = (one R.h r).fV := by
  have e := stepped_broken R r hb
  unfold RS.brV One.fV
  generalize (R.stepped r).broken = a at e ⊢
  subst e
  cases (one R.h r).flt <;> rfl
end Sh
end

section
set_option Elab.async false
set_option linter.all false
set_option maxRecDepth 100000
set_option maxHeartbeats 4000000
/-! A step is right, walked. -/
namespace Sh
open PySem PySem.Spec PyProof.Rows L2
theorem markAt_spec {prog : List Row} {m : Str} {j : Nat} (h : markAt prog m = some j) : prog[j]? = some (.mark m) ∧ ∀ (i : Nat) (r : Row), i < j → prog[i]? = some r → r ≠ .mark m := by
  unfold markAt at h
  obtain ⟨h1, h2, h3⟩ := List.findIdx?_eq_some_iff_getElem.mp h
  refine ⟨by rw [List.getElem?_eq_getElem h1, of_decide_eq_true h2], fun i r hi e z => ?_⟩
  have := h3 i hi
  rw [(List.getElem?_eq_some_iff.mp e).2, z] at this
  simp at this
theorem scal_o (a b : Option Int) : scal (oV a) (oV b) = true := by
  cases a <;> cases b <;> rfl
section
variable {P : Program} {w : World} {K : PySem.W.Frag} {mg : Str → Option Value} {base : Heap}
def spStepR (K : PySem.W.Frag) : Sp := fun vs H Q _ => ∃ (rr p2 ra : Addr) (R : RS) (M : RL) (L2 : Lay) (l2 : List V), vs = [.ref rr, .ref M.p, .ref p2, .ref ra] ∧ Pair K H rr p2 ra R M L2 l2 ∧ R.broken = none ∧ R.spot < R.prog.length ∧ Bnd R ∧ R.done ≤ 1000 ∧ LinesOk R ∧
  ∀ r H' M' L2', R.prog[R.spot]? = some r → M'.p = M.p → Pair K H' rr p2 ra (R.stepped r) M' L2' l2 → Q (.bl true) H'
theorem sc_law_step_right : FnScope ["running", "heap", "twin", "rows", "place", "before", "row", "fault", "said", "jump", "goes", "behind", "due"] ["running", "heap", "twin", "rows"] (defScope st_law_step_right) := ⟨rfl, rfl, rfl, by decide +kernel, rfl, by decide +kernel, by decide +kernel⟩
theorem ok_law_step_right (E : Txt K mg) : FnOk P w K mg base CX0 11 (fAd at_law_step_right K) (fdOf at_law_step_right K) ["running", "heap", "twin", "rows"] (spStepR K) := by
  refine FunD.ok0 E.fd_law_step_right sc_law_step_right (fun vs H Q E0 h => ?_) (fun cdv A outer s H vs Q E0 hr h => ?_)
  · obtain ⟨rr, p2, ra, R, M, L2, l2, rfl, _⟩ := h
    rfl
  · obtain ⟨rr, p2, ra, R, M, L2, l2, rfl, A, hb, hs, B, hd, lo, q⟩ := h
    refine ⟨_, (pss_cons (ps_set (i := 4) sc_law_step_right.nd rfl (Or.inl rfl) (pe_meth0 (pv 0) E.c_Running E.m_Running_at (ok_Running_at E) (hr.mono (by decide)) E.b_Running_at .nil pass0))
      (pss_cons (ps_set (i := 5) sc_law_step_right.nd rfl (Or.inl rfl) (pe_lst (pa_cons (pe_meth0 (pv 0) E.c_Running E.m_Running_told (ok_Running_told E) (hr.mono (by decide)) E.b_Running_told .nil pass0) (pa_cons (pe_meth0 (pv 0) E.c_Running E.m_Running_steps (ok_Running_steps E) (hr.mono (by decide)) E.b_Running_steps .nil pass0) pa_nil))))
      (pss_cons (ps_set (i := 6) sc_law_step_right.nd rfl (Or.inl rfl) (pe_ix ix_list (pv 3) (pv 4) (fun _ _ => rfl)))
      (pss_cons (ps_asg (pe_call (ok_law_one E) (hr.mono (by decide)) (by rfl) E.g_law_one E.fd_law_one.kp E.b_law_one .nil pass0 (pa_cons (pv 2) (pa_cons (pv 6) pa_nil))) (pg_unl rfl (pgs_cons (pg_name (i := 7) sc_law_step_right.nd rfl (Or.inl rfl)) (pgs_cons (pg_name (i := 8) sc_law_step_right.nd rfl (Or.inl rfl)) (pgs_cons (pg_name (i := 9) sc_law_step_right.nd rfl (Or.inl rfl)) pgs_nil)))))
      (pss_cons (ps_set (i := 10) sc_law_step_right.nd rfl (Or.inl rfl) (pe_meth0 (pv 0) E.c_Running E.m_Running_step (ok_Running_step E) (hr.mono (by decide)) E.b_Running_step .nil pass0))
      (pss_cons (ps_set (i := 11) sc_law_step_right.nd rfl (Or.inl rfl) (pe_op op_add (pv 4) pe_int))
      (pss_cons (ps_if (pt_val (pv 9)) (pss_one (ps_set (i := 11) sc_law_step_right.nd rfl (Or.inl rfl) (pe_bm PySem.F.plainAttrs_list PySem.F.slot_list_index PySem.F.type_list_index (mt_indexD (ud hr)) (pv 3) (pa_cons (pe_tup (pa_cons pe_str (pa_cons (pe_ix ix_tup (pv 6) (pe_un un_neg pe_int) (fun _ _ => rfl)) pa_nil))) pa_nil)))) pss_nil)
      (pss_cons (ps_set (i := 12) sc_law_step_right.nd rfl (Or.inl rfl) (pe_ix ix_list (pv 5) pe_int (fun _ _ => rfl)))
      (pss_cons (ps_if (pt_cmpR op_notN (pv 8) pe_non (nomark _)) (pss_one (ps_set (i := 12) sc_law_step_right.nd rfl (Or.inl rfl) (pe_op op_cat (pv 12) (pe_lst (pa_cons (pv 8) pa_nil))))) pss_nil)
      (pss_cons (ps_if (PW.pt (pw_or (pt_cmpR op_notN (pv 7) pe_non (nomark _)) (pw_or (pt_cmpR op_eq (pe_ix ix_tup (pv 6) pe_int (fun _ _ => rfl)) pe_str (nomark _)) (pw_or1 (pt_cmpR op_ge (pv 11) (pe_callB call_len (by rfl) E.f_len PySem.boot_len (pa_cons (pv 3) pa_nil)) (nomark _)))))) (pss_one (ps_set (i := 11) sc_law_step_right.nd rfl (Or.inl rfl) pe_non)) pss_nil)
      (pss_cons (ps_if (PW.pt (pw_or (pt_cmpR op_ne (pe_meth0 (pv 0) E.c_Running E.m_Running_at (ok_Running_at E) (hr.mono (by decide)) E.b_Running_at .nil pass0) (pv 11) (nomark _)) (pw_or (pt_cmpR op_ne (pv 10) (pe_cmpR op_notN (pv 11) pe_non (nomark _)) (nomark _)) (pw_or1 (pt_cmpR op_ne (pe_meth0 (pv 0) E.c_Running E.m_Running_fault (ok_Running_fault E) (hr.mono (by decide)) E.b_Running_fault .nil pass0) (pv 7) (nomark _)))))) (pss_one (ps_ret pe_bl)) pss_nil)
      (pss_cons (ps_if (PW.pt (pw_or (pt_cmpR (op_neD (hr.units)) (pe_meth0 (pv 0) E.c_Running E.m_Running_told (ok_Running_told E) (hr.mono (by decide)) E.b_Running_told .nil pass0) (pv 12) (nomark _)) (pw_or1 (pt_cmpR op_ne (pe_meth0 (pv 0) E.c_Running E.m_Running_steps (ok_Running_steps E) (hr.mono (by decide)) E.b_Running_steps .nil pass0) (pe_op op_add (pe_ix ix_list (pv 5) pe_int (fun _ _ => rfl)) pe_int) (nomark _))))) (pss_one (ps_ret pe_bl)) pss_nil)
      (pss_one (ps_ret (pe_cmpR (op_eqD (hr.units)) (pe_call (ok_law_told E) (hr.mono (by decide)) (by rfl) E.g_law_told E.fd_law_told.kp E.b_law_told .nil pass0 (pa_cons (pv 1) pa_nil)) (pe_call (ok_law_told E) (hr.mono (by decide)) (by rfl) E.g_law_told E.fd_law_told.kp E.b_law_told .nil pass0 (pa_cons (pv 2) pa_nil)) (nomark _)))))))))))))))), ?_⟩
    dsimp only [cxOf]
    have er := List.getElem?_eq_getElem hs
    generalize R.prog[R.spot] = r at er
    have rm := List.mem_of_getElem? er
    have rok := A.run.rows.ok r rm
    have q := q r
    have ea : R.at = some (R.spot : Int) := if_pos ⟨hb, hs⟩
    have b1 := B.lines
    have b2 := B.count
    refine ⟨_, rfl, rr, _, _, rfl, A.run.ob, (by kernel_rfl), rr, R, M, rfl, A.run, ?_⟩
    rw [ea]
    -- before
    refine ⟨_, rfl, rr, _, _, rfl, A.run.ob, (by kernel_rfl), rr, R, M, rfl, A.run, fun ll tl hll htl => ?_⟩
    have s1 := upd_same_of_none (o := .lst ll) htl
    have t1 : (upd H tl (.lst ll)) tl = some (.lst ll) := upd_same
    have T1 := hll.mono (Tups.of s1)
    generalize upd H tl (.lst ll) = H1 at s1 t1 T1 ⊢
    have A1 := A.same s1
    refine ⟨_, rfl, rr, _, _, rfl, A1.run.ob, (by kernel_rfl), rr, R, M, rfl, A1.run, (show 2 ≤ sizeLine by decide), fun bf hbf => ?_⟩
    have s2 := upd_same_of_none (o := .lst [.ref tl, .int R.done]) hbf
    have f2 : (upd H1 bf (.lst [.ref tl, .int R.done])) bf = some (.lst [.ref tl, .int R.done]) := upd_same
    have t2 := s2 _ _ t1
    have T2 := T1.mono (Tups.of s2)
    generalize upd H1 bf (.lst [.ref tl, .int R.done]) = H2 at s2 f2 t2 T2 ⊢
    have A2 := A1.same s2
    have tfp : ¬ fp p2 L2 R.h.kept tl ∧ ¬ rfp rr M R.h.kept tl := ⟨fun f => A.tw.toAtR.there f htl, fun f => A.run.there f htl⟩
    have bfp : ¬ fp p2 L2 R.h.kept bf ∧ ¬ rfp rr M R.h.kept bf := ⟨fun f => A1.tw.toAtR.there f hbf, fun f => A1.run.there f hbf⟩
    -- row
    obtain ⟨a, e1, e2⟩ := A2.T.get (i := R.spot) (x := r.parts) (by rw [List.getElem?_map, er]; rfl)
    refine ⟨_, rfl, _, rfl, ra, l2, _, .ref a, rfl, rfl, SqL.of A2.rl, atI_nat e1, ?_⟩
    refine ⟨_, rfl, _, rfl, p2, a, r, R.h, L2, rfl, A2.tw, e2, rok, by omega, fun H3 L3 z sv B3 F3 hz hz3 hsv => ?_⟩
    have A3 := A2.one B3 F3
    have t3 := F3.keep _ _ t2 tfp.1
    have f3 := F3.keep _ _ f2 bfp.1
    have T3 := T2.mono (F3.tups A2.tw.toAtR)
    have e3 := (F3.tups A2.tw.toAtR) _ _ e2
    refine ⟨z, _, rfl, SqL.of hz3, rfl, _, _, rfl, _, _, rfl, _, _, rfl, rfl, ?_⟩
    -- step
    refine ⟨_, rfl, rr, _, _, rfl, A3.run.ob, (by kernel_rfl), rr, R, M, rfl, A3.run, by omega, by omega, fun n => by (rw [ea] at n; cases n), fun r' hb' er' H4 L4 B4 F4 => ?_⟩
    rw [er] at er'
    cases er'
    rw [← stepped_h R r] at A3
    have A4 := A3.step (M' := { M with L := L4 }) (stepped_prog R r) rfl B4 F4
    have t4 := F4.keep _ _ t3 tfp.2
    have f4 := F4.keep _ _ f3 bfp.2
    have T4 := T3.mono (F4.tups A3.run)
    have e4 := (F4.tups A3.run) _ _ e3
    have sv4 : SaidAt H4 sv (one R.h r).said := by
      cases es : (one R.h r).said with
      | none =>
        rw [es] at hsv
        exact hsv
      | some x =>
        rw [es] at hsv
        obtain ⟨c, e, hc⟩ := hsv
        exact ⟨c, e, (F4.tups A3.run) _ _ hc⟩
    have q := fun H' => q H' { M with L := L4 } L3 er rfl
    have hall : ∀ {H' : Hp}, Pair K H' rr p2 ra (R.stepped r) { M with L := L4 } L3 l2 → At K H' M.p (R.stepped r).h L4 := fun X => X.run.hall
    generalize ({ M with L := L4 } : RL) = M4 at A4 q hall
    clear B4 F4 F3 B3
    refine ⟨_, rfl, _, _, rfl, rfl, ?_⟩
    refine gN ?_
    dsimp only
    refine seq_meet (fun σ' H' => Same H4 H' ∧ σ' = [some (.ref rr), some (.ref M.p), some (.ref p2), some (.ref ra), some (.int R.spot), some (.ref bf), some (.ref a), some (one R.h r).fV, some sv, some (.bl (one R.h r).jmp), some (.bl (R.stepped r).at.isSome), some (.int (R.next r)), none]) (fun N hN => ?_) ?_
    · refine ⟨_, rfl, _, rfl, ?_⟩
      cases ej : (one R.h r).jmp with
      | true =>
        have jr := one_jmp R.h r ej
        obtain ⟨j, hj, hjl⟩ := markAt_some (A.run.rows.goal r rm jr)
        obtain ⟨m1, m2⟩ := markAt_spec hj
        have gm := goal_M rok jr
        have en : R.next r = j := by
          unfold RS.next
          rw [ej, hj]
          rfl
        have rp : ∀ p ∈ R.prog.map Row.parts, p.all okV = true := fun p mp => by
          obtain ⟨x, hx, rfl⟩ := List.mem_map.mp mp
          exact parts_okV (A.run.rows.ok x hx)
        have mo : ((Row.mark r.goal).parts).all okV = true := parts_okV (r := .mark r.goal) gm
        refine iteT ⟨_, rfl, Or.inl ⟨rfl, _, Or.inl (Or.inl A4.rl)⟩, _, rfl, 1, rfl, a, _, _, _, rfl, rfl, SqT.of e4, last_goal jr, (show 2 ≤ sizeLine by decide), fun t ht => ?_⟩
        have s5 := upd_same_of_none (o := .tup [.str "mark", .str r.goal]) ht
        have tt := A4.T.mono (Tups.of s5)
        rw [stepped_prog] at tt
        refine ⟨ra, .ref t, tupD (Row.mark r.goal).parts, (R.prog.map Row.parts).map tupD, j, tupD (Row.mark r.goal).parts, rfl, rfl, .lst (SqL.of (s5 _ _ A4.rl)) (dp_tps tt rp), dp_tup upd_same mo, tups_shaped rp, tup_shaped mo, ?_, ?_, ?_, ?_⟩
        · rw [List.getElem?_map, List.getElem?_map, m1]
          rfl
        · rw [eqv_mark]
          exact decide_eq_true rfl
        · intro i z' hi hz'
          rw [List.getElem?_map, List.getElem?_map] at hz'
          cases e : R.prog[i]? with
          | none =>
            rw [e] at hz'
            cases hz'
          | some x =>
            rw [e] at hz'
            cases hz'
            show PyData.eqv (tupD x.parts) _ = false
            rw [eqv_mark]
            exact decide_eq_false (m2 i x hi e)
        · exact hN _ _ ⟨s5, by rw [en, ej]; rfl⟩
      | false =>
        have en : ((R.next r : Nat) : Int) = R.spot + 1 := by
          unfold RS.next
          rw [ej]
          rfl
        exact iteF (hN _ _ ⟨fun _ _ e => e, by rw [en, ej]; rfl⟩)
    rintro _ H5 ⟨s5, rfl⟩
    have A5 := A4.same s5
    have t5 := s5 _ _ t4
    have f5 := s5 _ _ f4
    have T5 := T4.mono (Tups.of s5)
    have e5 := s5 _ _ e4
    have sv5 : SaidAt H5 sv (one R.h r).said := by
      cases es : (one R.h r).said with
      | none =>
        rw [es] at sv4
        exact sv4
      | some x =>
        rw [es] at sv4
        obtain ⟨c, e, hc⟩ := sv4
        exact ⟨c, e, s5 _ _ hc⟩
    refine ⟨_, rfl, bf, _, 0, .ref tl, rfl, rfl, SqL.of f5, at_int (by decide) rfl, ?_⟩
    refine gN ?_
    dsimp only
    refine seq_meet (fun σ' H' => ∃ (dl : Addr) (dls : List V), Same H5 H' ∧ H' dl = some (.lst dls) ∧ Tps H' dls (R.stepped r).lines ∧ σ' = [some (.ref rr), some (.ref M.p), some (.ref p2), some (.ref ra), some (.int R.spot), some (.ref bf), some (.ref a), some (one R.h r).fV, some sv, some (.bl (one R.h r).jmp), some (.bl (R.stepped r).at.isSome), some (.int (R.next r)), some (.ref dl)]) (fun N hN => ?_) ?_
    · refine ⟨_, rfl, rfl, _, rfl, ?_⟩
      cases es : (one R.h r).said with
      | none =>
        rw [es] at sv5
        have sv5 : sv = .non := sv5
        subst sv5
        exact iteF (hN _ _ ⟨tl, ll, fun _ _ e => e, t5, by rw [stepped_lines, es]; simpa using T5, rfl⟩)
      | some x =>
        rw [es] at sv5
        obtain ⟨c, rfl, hc⟩ := sv5
        have lll : ll.length = R.lines.length := T5.len
        refine iteT ⟨_, rfl, _, rfl, (show 1 ≤ sizeLine by decide), fun n1 h1 => ⟨tl, n1, ll, [.ref c], rfl, rfl, (upd_same_of_none (o := .lst [.ref c]) h1) _ _ t5, upd_same, ?_, fun dl hdl => hN _ _ ⟨dl, _, ?_, upd_same, ?_, rfl⟩⟩⟩
        · exact Nat.le_of_lt (line1000 (by show ll.length + 1 ≤ _; omega))
        · exact (upd_same_of_none h1).trans (upd_same_of_none hdl)
        · rw [stepped_lines, es]
          exact (T5.snoc hc).mono (Tups.of ((upd_same_of_none h1).trans (upd_same_of_none hdl)))
    rintro _ H6 ⟨dl, dls, s6, d6, D6, rfl⟩
    have A6 := A5.same s6
    have f6 := s6 _ _ f5
    have e6 := s6 _ _ e5
    have pl : l2.length = R.prog.length := by rw [A.T.len, List.length_map]
    have sa := stepped_at R r hb
    refine seq_meet (fun σ' H' => H6 = H' ∧ σ' = [some (.ref rr), some (.ref M.p), some (.ref p2), some (.ref ra), some (.int R.spot), some (.ref bf), some (.ref a), some (one R.h r).fV, some sv, some (.bl (one R.h r).jmp), some (.bl (R.stepped r).at.isSome), some (oV (R.stepped r).at), some (.ref dl)]) (fun N hN => ?_) ?_
    · refine ⟨_, rfl, rfl, _, rfl, ?_⟩
      cases ef : (one R.h r).flt with
      | some e =>
        have e0 : (one R.h r).fV = .str e.nm := by unfold One.fV; rw [ef]
        rw [ef, if_neg (fun z => by cases z.1)] at sa
        rw [e0] at hN ⊢
        rw [sa] at hN ⊢
        exact iteT (iteT (hN _ _ ⟨rfl, rfl⟩))
      | none =>
        have e0 : (one R.h r).fV = .non := by unfold One.fV; rw [ef]
        rw [e0] at hN ⊢
        refine iteF ⟨_, rfl, a, _, 0, .str r.head, rfl, rfl, SqT.of e6, row0, rfl, _, rfl, ifd (fun c => absurd c no_stop) fun _ => ?_⟩
        refine ⟨_, rfl, _, rfl, _, _, rfl, Or.inl ⟨_, SqL.of A6.rl, rfl⟩, _, _, rfl, rfl, _, rfl, ifd (fun c => ?_) fun c => ?_⟩
        · rw [if_neg (fun z => by have := z.2; omega)] at sa
          rw [sa] at hN ⊢
          exact hN _ _ ⟨rfl, rfl⟩
        · rw [if_pos ⟨ef, by omega⟩] at sa
          rw [sa] at hN ⊢
          exact hN _ _ ⟨rfl, rfl⟩
    rintro _ _ ⟨rfl, rfl⟩
    have fs : scal (one R.h r).fV (one R.h r).fV = true := by
      unfold One.fV
      cases (one R.h r).flt <;> rfl
    refine ⟨_, rfl, rr, _, _, rfl, A6.run.ob, (by kernel_rfl), rr, _, _, rfl, A6.run, _, rfl, scal_o _ _, _, rfl, ifnd (fun c => absurd rfl c) fun _ => ?_⟩
    refine ⟨_, rfl, _, rfl, rfl, ?_⟩
    rw [at_V]
    refine ⟨rfl, _, rfl, ifnd (fun c => absurd rfl c) fun _ => ?_⟩
    refine ⟨_, rfl, rr, _, _, rfl, A6.run.ob, (by kernel_rfl), rr, _, _, rfl, A6.run, ?_⟩
    rw [stepped_fV hb]
    refine ⟨_, rfl, fs, _, rfl, ifnd (fun c => absurd rfl c) fun _ => ?_⟩
    have lo' := lo.step r
    have eq0 : PyData.eqv (.list ((R.stepped r).lines.map tupD)) (.list ((R.stepped r).lines.map tupD)) = true := PySem.SeqAt.eqv_refl _ (SeqAt.canLay_of_shaped (tups_shaped lo'))
    refine ⟨_, rfl, rr, _, _, rfl, A6.run.ob, (by kernel_rfl), rr, _, _, rfl, A6.run, fun l7 q7 hl7 hq7 => ?_⟩
    have s7 := upd_same_of_none (o := .lst l7) hq7
    refine ⟨_, rfl, .list ((R.stepped r).lines.map tupD), .list ((R.stepped r).lines.map tupD), .lst (SqL.of upd_same) (dp_tps (hl7.mono (Tups.of s7)) lo'), .lst (SqL.of (s7 _ _ d6)) (dp_tps (D6.mono (Tups.of s7)) lo'), tups_shaped lo', tups_shaped lo', _, rfl, ?_⟩
    rw [eq0]
    generalize upd H6 q7 (.lst l7) = H7 at s7 ⊢
    have A7 := A6.same s7
    have f7 := s7 _ _ f6
    refine iteF ⟨_, rfl, rr, _, _, rfl, A7.run.ob, (by kernel_rfl), rr, _, _, rfl, A7.run, _, rfl, bf, _, 1, .int R.done, rfl, rfl, SqL.of f7, at_int (by decide) rfl, _, _, rfl, rfl, rfl, _, rfl, ifnd (fun c => absurd (by rw [stepped_done]) c) fun _ => ?_⟩
    refine ⟨_, rfl, M.p, (R.stepped r).h, _, rfl, hall A7, fun H8 z1 s8 d8 => ?_⟩
    have A8 := A7.same s8
    refine ⟨_, rfl, p2, (R.stepped r).h, _, rfl, A8.tw, fun H9 z2 s9 d9 => ?_⟩
    refine ⟨_, _, dp_same s9 d8, d9, told_shaped _, told_shaped _, ?_⟩
    rw [PySem.SeqAt.eqv_refl _ (SeqAt.canLay_of_shaped (told_shaped _))]
    exact q H9 (A8.same s9)
end
end Sh
end

section
set_option Elab.async false
set_option linter.all false
set_option maxRecDepth 100000
set_option maxHeartbeats 4000000
/-! The law. -/
namespace Sh
open PySem PySem.Spec PyProof.Rows L2
theorem seq_meetW {c : TT} {b u : TS} {D : Ends} {σ : L2.St} {H : Hp} (M : L2.St → Hp → Prop) (h1 : ∀ N : L2.St → Hp → Prop, (∀ σ' H', M σ' H' → N σ' H') → tWhile c b { D with nx := N } σ H) (h2 : ∀ σ' H', M σ' H' → u D σ' H') : tSeq (tWhile c b) u D σ H := h1 (u D) h2
theorem stop_shaped (R : RS) (lo : LinesOk R) (d : PyData) (hd : SeqAt.shaped d = true) (hb : R.brV = .non ∨ ∃ e : Err, R.brV = .str e.nm) (h5 : PyData.depth d ≤ 60) :
    SeqAt.shaped (.list [.list (R.lines.map tupD), vD R.brV, .int R.done, d]) = true := by
  have he : ∀ e : Err, PyData.strOk e.nm = true := fun e => by cases e <;> decide +kernel
  obtain ⟨l1, l2⟩ := tups_lay lo
  have r : PyData.canLay0 (.list [.list (R.lines.map tupD), vD R.brV, .int R.done, d]) = true ∧ PyData.depth (.list [.list (R.lines.map tupD), vD R.brV, .int R.done, d]) ≤ 61 := list_lay (k := 60) fun x m => by
    rcases List.mem_cons.mp m with rfl | m
    · exact ⟨l1, by show PyData.depthAll _ + 1 ≤ 60; omega⟩
    rcases List.mem_cons.mp m with rfl | m
    · rcases hb with e | ⟨e, e2⟩
      · rw [e]
        exact ⟨rfl, Nat.zero_le _⟩
      · rw [e2]
        exact ⟨he e, Nat.zero_le _⟩
    rcases List.mem_cons.mp m with rfl | m
    · exact ⟨rfl, Nat.zero_le _⟩
    rcases List.mem_cons.mp m with rfl | m
    · exact ⟨SeqAt.canLay_of_shaped hd, h5⟩
    · cases m
  show (PyData.canLay0 _ && decide (PyData.depth _ ≤ 64)) = true
  rw [r.1, decide_eq_true (Nat.le_trans r.2 (by decide))]
  rfl
theorem told_depth (h : IH) : PyData.depth (toldD h) ≤ 60 := by
  have hs := told_shaped h
  have r : PyData.depth (toldD h) ≤ 5 := by
    refine (list_lay (k := 4) fun d m => ?_).2
    rcases List.mem_cons.mp m with rfl | m
    · exact ⟨(vals_lay h.hands).1, Nat.le_trans (vals_lay h.hands).2 (by decide)⟩
    rcases List.mem_cons.mp m with rfl | m
    · refine ((list_lay (k := 0) fun d m => ?_) : _ ∧ _).imp id fun z => Nat.le_trans z (by decide)
      obtain ⟨x, _, rfl⟩ := List.mem_map.mp m
      exact o_lay x
    rcases List.mem_cons.mp m with rfl | m
    · refine list_lay (k := 3) fun d m => ?_
      obtain ⟨x, _, rfl⟩ := List.mem_map.mp m
      exact th_lay x
    rcases List.mem_cons.mp m with rfl | m
    · exact ⟨rfl, by show 0 + 1 ≤ 4; decide⟩
    rcases List.mem_cons.mp m with rfl | m
    · refine ((list_lay (k := 0) fun d m => ?_) : _ ∧ _).imp id fun z => Nat.le_trans z (by decide)
      obtain ⟨x, _, rfl⟩ := List.mem_map.mp m
      exact ⟨rfl, Nat.le_refl _⟩
    rcases List.mem_cons.mp m with rfl | m
    · exact ⟨rfl, Nat.zero_le _⟩
    rcases List.mem_cons.mp m with rfl | m
    · exact ⟨rfl, Nat.zero_le _⟩
    · cases m
  omega
section
variable {P : Program} {w : World} {K : PySem.W.Frag} {mg : Str → Option Value} {base : Heap}
def spLaw (K : PySem.W.Frag) : Sp := fun vs H Q _ => ∃ (a : Addr) (ns : List Int), vs = [.ref a] ∧ SqL K H a (ns.map V.int) ∧ ns.length ≤ 63 ∧ ∀ H', Q (.bl true) H'
theorem sc_law : FnScope ["script", "heap", "twin", "rows", "running", "turn", "before"] ["script"] (defScope st_law) := ⟨rfl, rfl, rfl, by decide +kernel, rfl, by decide +kernel, by decide +kernel⟩
theorem ok_law (E : Txt K mg) : FnOk P w K mg base CX0 12 (fAd at_law K) (fdOf at_law K) ["script"] (spLaw K) := by
  refine FunD.ok0 E.fd_law sc_law (fun vs H Q E0 h => ?_) (fun cdv A outer s H vs Q E0 hr h => ?_)
  · obtain ⟨a, ns, rfl, _⟩ := h
    rfl
  · obtain ⟨a, ns, rfl, hS, hl, q⟩ := h
    refine ⟨_, (pss_cons (ps_set (i := 1) sc_law.nd rfl (Or.inl rfl) (pe_call (ok_law_heap E) (hr.mono (by decide)) (by rfl) E.g_law_heap E.fd_law_heap.kp E.b_law_heap .nil pass0 (pa_cons (pv 0) pa_nil)))
      (pss_cons (ps_set (i := 2) sc_law.nd rfl (Or.inl rfl) (pe_call (ok_law_heap E) (hr.mono (by decide)) (by rfl) E.g_law_heap E.fd_law_heap.kp E.b_law_heap .nil pass0 (pa_cons (pv 0) pa_nil)))
      (pss_cons (ps_set (i := 3) sc_law.nd rfl (Or.inl rfl) (pe_call (ok_law_program E) (hr.mono (by decide)) (by rfl) E.g_law_program E.fd_law_program.kp E.b_law_program .nil pass0 (pa_cons (pv 0) (pa_cons pe_int pa_nil))))
      (pss_cons (ps_set (i := 4) sc_law.nd rfl (Or.inl rfl) (pe_make E.k_Running (ok_Running_init E) (hr.mono (by decide)) (by rfl) E.g_Running E.b_Running_init .nil pass0 (pa_cons (pe_call (ok_read_program E) (hr.mono (by decide)) (by rfl) E.g_read_program E.fd_read_program.kp E.b_read_program .nil pass0 (pa_cons (pe_call (ok_law_text E) (hr.mono (by decide)) (by rfl) E.g_law_text E.fd_law_text.kp E.b_law_text .nil pass0 (pa_cons (pv 3) pa_nil)) pa_nil)) (pa_cons (pv 1) pa_nil))))
      (pss_cons (ps_if (PW.pt (pw_or (pt_cmpR op_ne (pe_meth0 (pv 4) E.c_Running E.m_Running_at (ok_Running_at E) (hr.mono (by decide)) E.b_Running_at .nil pass0) pe_int (nomark _)) (pw_or (pt_cmpR (op_neD (hr.units)) (pe_meth0 (pv 4) E.c_Running E.m_Running_told (ok_Running_told E) (hr.mono (by decide)) E.b_Running_told .nil pass0) (pe_lst pa_nil) (nomark _)) (pw_or (pt_cmpR op_notN (pe_meth0 (pv 4) E.c_Running E.m_Running_fault (ok_Running_fault E) (hr.mono (by decide)) E.b_Running_fault .nil pass0) pe_non (nomark _)) (pw_or1 (pt_cmpR op_ne (pe_meth0 (pv 4) E.c_Running E.m_Running_steps (ok_Running_steps E) (hr.mono (by decide)) E.b_Running_steps .nil pass0) pe_int (nomark _))))))) (pss_one (ps_ret pe_bl)) pss_nil)
      (pss_cons (ps_set (i := 5) sc_law.nd rfl (Or.inl rfl) pe_int)
      (pss_cons (ps_while PassesOwn.never (PW.pt (pw_and (pt_cmpR op_lt (pv 5) pe_int (nomark _)) (pw_and1 (pt_cmpR op_notN (pe_meth0 (pv 4) E.c_Running E.m_Running_at (ok_Running_at E) (hr.mono (by decide)) E.b_Running_at .nil pass0) pe_non (nomark _))))) (pss_cons (ps_set (i := 5) sc_law.nd rfl (Or.inl rfl) (pe_op op_add (pv 5) pe_int))
      (pss_one (ps_if (pt_not (pt_val (pe_call (ok_law_step_right E) (hr.mono (by decide)) (by rfl) E.g_law_step_right E.fd_law_step_right.kp E.b_law_step_right .nil pass0 (pa_cons (pv 4) (pa_cons (pv 1) (pa_cons (pv 2) (pa_cons (pv 3) pa_nil))))))) (pss_one (ps_ret pe_bl)) pss_nil))))
      (pss_cons (ps_expr (pe_bm PySem.F.plainAttrs_list PySem.F.slot_list_append PySem.F.type_list_append mt_append (pe_meth0 (pv 4) E.c_Running E.m_Running_told (ok_Running_told E) (hr.mono (by decide)) E.b_Running_told .nil pass0) (pa_cons (pe_tup (pa_cons pe_str pa_nil)) pa_nil)))
      (pss_cons (ps_if (pt_cmpR op_notN (pe_meth0 (pv 4) E.c_Running E.m_Running_at (ok_Running_at E) (hr.mono (by decide)) E.b_Running_at .nil pass0) pe_non (nomark _)) (pss_one (ps_ret pe_bl)) pss_nil)
      (pss_cons (ps_set (i := 6) sc_law.nd rfl (Or.inl rfl) (pe_lst (pa_cons (pe_meth0 (pv 4) E.c_Running E.m_Running_told (ok_Running_told E) (hr.mono (by decide)) E.b_Running_told .nil pass0) (pa_cons (pe_meth0 (pv 4) E.c_Running E.m_Running_fault (ok_Running_fault E) (hr.mono (by decide)) E.b_Running_fault .nil pass0) (pa_cons (pe_meth0 (pv 4) E.c_Running E.m_Running_steps (ok_Running_steps E) (hr.mono (by decide)) E.b_Running_steps .nil pass0) (pa_cons (pe_call (ok_law_told E) (hr.mono (by decide)) (by rfl) E.g_law_told E.fd_law_told.kp E.b_law_told .nil pass0 (pa_cons (pv 1) pa_nil)) pa_nil))))))
      (pss_cons (ps_if (pt_cmpR op_notBl (pe_meth0 (pv 4) E.c_Running E.m_Running_step (ok_Running_step E) (hr.mono (by decide)) E.b_Running_step .nil pass0) pe_bl (nomark _)) (pss_one (ps_ret pe_bl)) pss_nil)
      (pss_one (ps_ret (pe_cmpR (op_eqD (hr.units)) (pe_lst (pa_cons (pe_meth0 (pv 4) E.c_Running E.m_Running_told (ok_Running_told E) (hr.mono (by decide)) E.b_Running_told .nil pass0) (pa_cons (pe_meth0 (pv 4) E.c_Running E.m_Running_fault (ok_Running_fault E) (hr.mono (by decide)) E.b_Running_fault .nil pass0) (pa_cons (pe_meth0 (pv 4) E.c_Running E.m_Running_steps (ok_Running_steps E) (hr.mono (by decide)) E.b_Running_steps .nil pass0) (pa_cons (pe_call (ok_law_told E) (hr.mono (by decide)) (by rfl) E.g_law_told E.fd_law_told.kp E.b_law_told .nil pass0 (pa_cons (pv 1) pa_nil)) pa_nil))))) (pv 6) (nomark _))))))))))))))), ?_⟩
    dsimp only [cxOf]
    refine ⟨_, rfl, a, ns, rfl, hS, hl, fun H1 p1 L1 A1 s1 n1 => ?_⟩
    refine ⟨_, rfl, a, ns, rfl, sqL_same hS s1, hl, fun H2 p2 L2 A2 s2 n2 => ?_⟩
    refine ⟨_, rfl, a, ns, rfl, sqL_same hS (s1.trans s2), hl, fun H3 z l rows s3 hz hz3 T3 R3 U3 ne => ?_⟩
    refine ⟨_, rfl, z, l, rows, rfl, hz3, T3, R3.ok, R3.len, fun H4 s4 => ?_⟩
    refine ⟨rows, rfl, R3, U3, ne, fun H5 pa lt s5 hpa hpa5 T5 => ?_⟩
    refine ⟨_, rfl, fun x dx hx hdx hne => ?_⟩
    have s25 := (s3.trans s4).trans s5
    have A1' := A1.same (s2.trans s25)
    have A2' := A2.same s25
    have sb : Same H5 (upd (upd H5 dx (.own x)) x (.ins (He.ga K "Running") dx [])) := fun b o e => by
      rw [upd_ne (ne_of_none e hx), upd_ne (ne_of_none e hdx)]
      exact e
    have nx1 : ¬ fp p1 L1 [] x := fun f => A1'.there f hx
    have nx2 : ¬ fp p2 L2 [] x := fun f => A2'.there f hx
    refine ⟨x, dx, pa, p1, lt, rows, _, L1, rfl, upd_same, sb _ _ hpa5, T5.mono (Tups.of sb), R3, A1'.same sb, nx1, fun H6 M hr eM eL k6 kl kpl => ⟨rfl, ?_⟩⟩
    have zx : z ≠ x := fun e => by
      have := (s4.trans s5) _ _ hz3
      rw [e, hx] at this
      cases this
    have k56 : ∀ b o, H5 b = some o → H6 b = some o := fun b o e => k6 b o (sb b o e) (ne_of_none e hx)
    have sx : ∀ {b : Addr} {o : HO}, H5 b = some o → (upd (upd H5 dx (.own x)) x (.ins (He.ga K "Running") dx [])) b ≠ none := fun {b o} e n => by
      rw [sb b o e] at n
      cases n
    have nla : ∀ b o, H5 b = some o → M.la ≠ b := fun b o e n => by
      rcases kl with c | c
      · rw [← n, c, hx] at e
        cases e
      · exact sx e (by rw [← n]; exact c)
    have some2 : ∀ b, fp p2 L2 [] b → ∃ o, H5 b = some o := fun b f => by
      cases e : H5 b with
      | none => exact absurd e (A2'.there f)
      | some o => exact ⟨o, rfl⟩
    have pair : Pair K H6 x p2 z (startR rows (ih0 (yOf ns) (lOf ns))) M L2 l := by
      refine ⟨hr, A2'.same k56, k56 _ _ ((s4.trans s5) _ _ hz3), T3.mono (Tups.of ((s4.trans s5).trans k56)), fun b f g => ?_, fun g => ?_, fun f => ?_, fun f => A2.there f hz⟩
      · rcases f with rfl | rfl | f
        · exact nx2 g
        · obtain ⟨o, e⟩ := some2 _ g
          exact nla _ o e rfl
        · have f : fp M.p M.L [] b := f
          rw [eM, eL] at f
          exact A1.there f (n2 b g)
      · obtain ⟨o, e⟩ := some2 _ g
        exact sx e kpl
      · rcases f with e | e | f
        · exact zx e
        · exact nla _ _ ((s4.trans s5) _ _ hz3) e.symm
        · have f : fp M.p M.L [] z := f
          rw [eM, eL] at f
          exact (A1.same s2).there f hz
    clear nla sx kl kpl
    -- how it begins
    have rl : rows.length ≠ 0 := fun e => ne (List.length_eq_zero_iff.mp e)
    have ra : (startR rows (ih0 (yOf ns) (lOf ns))).at = some 0 := if_pos ⟨rfl, Nat.pos_of_ne_zero rl⟩
    have A6 := pair.run
    refine ⟨_, rfl, x, _, _, rfl, A6.ob, (by kernel_rfl), x, _, _, rfl, A6, ?_⟩
    rw [ra]
    refine ⟨rfl, _, rfl, ifnd (fun c => absurd rfl c) fun _ => ?_⟩
    refine ⟨_, rfl, x, _, _, rfl, A6.ob, (by kernel_rfl), x, _, _, rfl, A6, fun l7 q7 hl7 hq7 => ?_⟩
    have e7 : l7 = [] := List.length_eq_zero_iff.mp hl7.len
    subst e7
    have s7 := upd_same_of_none (o := .lst []) hq7
    have f7 : (upd H6 q7 (.lst [])) q7 = some (.lst []) := upd_same
    generalize upd H6 q7 (.lst []) = H7 at s7 f7 ⊢
    refine ⟨by decide, fun q8 hq8 => ?_⟩
    have s8 := upd_same_of_none (o := .lst []) hq8
    have f8 : (upd H7 q8 (.lst [])) q8 = some (.lst []) := upd_same
    generalize upd H7 q8 (.lst []) = H8 at s8 f8 ⊢
    refine ⟨.list [], .list [], .lst (SqL.of (s8 _ _ f7)) .nil, .lst (SqL.of f8) .nil, rfl, rfl, _, rfl, iteF ?_⟩
    have pair8 := pair.same (s7.trans s8)
    have A8 := pair8.run
    refine ⟨_, rfl, x, _, _, rfl, A8.ob, (by kernel_rfl), x, _, _, rfl, A8, rfl, _, rfl, iteF ?_⟩
    refine ⟨_, rfl, x, _, _, rfl, A8.ob, (by kernel_rfl), x, _, _, rfl, A8, rfl, _, rfl, iteF ?_⟩
    -- the turns
    refine gN ?_
    dsimp only
    refine seq_meetW (fun σ' H' => ∃ (t : Nat) (R : RS) (M' : RL) (L2' : Lay), σ' = [some (.ref a), some (.ref p1), some (.ref p2), some (.ref z), some (.ref x), some (.int t), none] ∧ t ≤ 120 ∧ Pair K H' x p2 z R M' L2' l ∧ M'.p = p1 ∧ Bnd R ∧ R.done = t ∧ LinesOk R) (fun N hN => ?_) ?_
    · refine ⟨fun m σ' H' => ∃ (t : Nat) (R : RS) (M' : RL) (L2' : Lay), σ' = [some (.ref a), some (.ref p1), some (.ref p2), some (.ref z), some (.ref x), some (.int t), none] ∧ t ≤ 120 ∧ Pair K H' x p2 z R M' L2' l ∧ M'.p = p1 ∧ Bnd R ∧ R.done = t ∧ LinesOk R ∧ m = 120 - t,
        ⟨120, 0, _, M, L2, rfl, by decide, pair8, eM, ⟨Int.le_refl _, Int.le_refl _⟩, rfl, fun x m => (by cases m), rfl⟩, ?_⟩
      rintro m σ' H' ⟨t, R, M', L2', rfl, ht, pr, ep, B, ed, lo, rfl⟩
      have stay : N [some (.ref a), some (.ref p1), some (.ref p2), some (.ref z), some (.ref x), some (.int t), none] H' := hN _ _ ⟨t, R, M', L2', rfl, ht, pr, ep, B, ed, lo⟩
      refine ⟨_, rfl, _, _, rfl, rfl, _, rfl, ifd (fun c => ?_) fun c => stay⟩
      refine ⟨_, rfl, x, _, _, rfl, pr.run.ob, (by kernel_rfl), x, _, _, rfl, pr.run, rfl, _, rfl, ?_⟩
      rw [at_V]
      cases ea : R.at with
      | none => exact iteF stay
      | some i =>
        have hb : R.broken = none ∧ R.spot < R.prog.length := by
          unfold RS.at at ea
          by_cases c : R.broken = none ∧ R.spot < R.prog.length
          · exact c
          · rw [if_neg c] at ea
            cases ea
        refine iteT ⟨_, fun σ2 H2 h => ⟨120 - (t + 1), by omega, h⟩, ?_⟩
        refine ⟨_, rfl, _, _, rfl, rfl, ?_⟩
        refine ⟨_, rfl, _, rfl, _, rfl, _, rfl, x, p2, z, R, M', L2', l, by rw [ep]; rfl, pr, hb.1, hb.2, B, by omega, lo, fun r H9 M9 L9 er e9 p9 => ?_⟩
        refine ⟨_, rfl, iteF ?_⟩
        exact ⟨t + 1, R.stepped r, M9, L9, rfl, by omega, p9, e9.trans ep, B.step r, by rw [stepped_done]; omega, lo.step r, rfl⟩
    -- behind the turns
    rintro _ H9 ⟨t, R, M9, L9, rfl, ht, pr, ep, B, ed, lo⟩
    have b1 := B.lines
    have b2 := B.count
    have hall : At K H9 p1 R.h M9.L := by
      rw [← ep]
      exact pr.run.hall
    refine ⟨_, rfl, x, _, _, rfl, pr.run.ob, (by kernel_rfl), x, _, _, rfl, pr.run, fun ll u hll hu => ?_⟩
    have s10 := upd_same_of_none (o := .lst ll) hu
    have f10 : (upd H9 u (.lst ll)) u = some (.lst ll) := upd_same
    generalize upd H9 u (.lst ll) = H10 at s10 f10 ⊢
    refine ⟨Or.inl ⟨rfl, _, Or.inl (Or.inl f10)⟩, (show 1 ≤ sizeLine by decide), fun t2 ht2 => ?_⟩
    have s11 := upd_same_of_none (o := .tup [.str "none"]) ht2
    have f11 := s11 _ _ f10
    generalize upd H10 t2 (.tup [.str "none"]) = H11 at s11 f11 ⊢
    refine ⟨u, ll, _, rfl, rfl, f11, line1000 (by rw [hll.len]; omega), ?_⟩
    have s12 : Same H9 (upd H11 u (.lst (ll ++ [.ref t2]))) := fun b o e => by
      rw [upd_ne (ne_of_none e hu)]
      exact s11 _ _ (s10 _ _ e)
    generalize upd H11 u (.lst (ll ++ [.ref t2])) = H12 at s12 ⊢
    have p12 := pr.same s12
    have h12 := hall.same s12
    refine ⟨_, rfl, x, _, _, rfl, p12.run.ob, (by kernel_rfl), x, _, _, rfl, p12.run, rfl, _, rfl, ?_⟩
    rw [at_V]
    cases ea : R.at with
    | some i => exact iteT (q _)
    | none =>
      have hbr : okV R.brV = true ∧ (R.brV = .non ∨ ∃ e : Err, R.brV = .str e.nm) := by
        have he : ∀ e : Err, PyData.strOk e.nm = true := fun e => by cases e <;> decide +kernel
        unfold RS.brV
        cases R.broken with
        | none => exact ⟨rfl, Or.inl rfl⟩
        | some e => exact ⟨he e, Or.inr ⟨e, rfl⟩⟩
      have sh := stop_shaped R lo (toldD R.h) (told_shaped _) hbr.2 (told_depth _)
      -- before
      refine iteF ⟨_, rfl, x, _, _, rfl, p12.run.ob, (by kernel_rfl), x, _, _, rfl, p12.run, fun l3 u3 hl3 hu3 => ?_⟩
      have s13 := upd_same_of_none (o := .lst l3) hu3
      have d13 : Dp K (upd H12 u3 (.lst l3)) (.ref u3) (.list (R.lines.map tupD)) := .lst (SqL.of upd_same) (dp_tps (hl3.mono (Tups.of s13)) lo)
      generalize upd H12 u3 (.lst l3) = H13 at s13 d13 ⊢
      have p13 := p12.same s13
      refine ⟨_, rfl, x, _, _, rfl, p13.run.ob, (by kernel_rfl), x, _, _, rfl, p13.run, ?_⟩
      refine ⟨_, rfl, x, _, _, rfl, p13.run.ob, (by kernel_rfl), x, _, _, rfl, p13.run, ?_⟩
      refine ⟨_, rfl, p1, R.h, _, rfl, h12.same s13, fun H14 z4 s14 d14 => ?_⟩
      refine ⟨(show 4 ≤ sizeLine by decide), fun bf hbf => ?_⟩
      have s15 := upd_same_of_none (o := .lst [.ref u3, R.brV, .int R.done, .ref z4]) hbf
      have d15 : Dp K (upd H14 bf (.lst [.ref u3, R.brV, .int R.done, .ref z4])) (.ref bf) (.list [.list (R.lines.map tupD), vD R.brV, .int R.done, toldD R.h]) :=
        .lst (SqL.of upd_same) (.cons (dp_same (s14.trans s15) d13) (.cons (dp_flat hbr.1) (.cons (.int _) (.cons (dp_same s15 d14) .nil))))
      generalize upd H14 bf (.lst [.ref u3, R.brV, .int R.done, .ref z4]) = H15 at s15 d15 ⊢
      have p15 := p13.same (s14.trans s15)
      have h15 := (h12.same s13).same (s14.trans s15)
      refine ⟨_, rfl, x, _, _, rfl, p15.run.ob, (by kernel_rfl), x, R, M9, rfl, p15.run, by omega, by omega, fun _ => ?_, fun r hb er => ?_⟩
      · refine ⟨false, false, rfl, rfl, _, rfl, iteF ?_⟩
        refine ⟨_, rfl, x, _, _, rfl, p15.run.ob, (by kernel_rfl), x, _, _, rfl, p15.run, fun l6 u6 hl6 hu6 => ?_⟩
        have s16 := upd_same_of_none (o := .lst l6) hu6
        have d16 : Dp K (upd H15 u6 (.lst l6)) (.ref u6) (.list (R.lines.map tupD)) := .lst (SqL.of upd_same) (dp_tps (hl6.mono (Tups.of s16)) lo)
        generalize upd H15 u6 (.lst l6) = H16 at s16 d16 ⊢
        have p16 := p15.same s16
        refine ⟨_, rfl, x, _, _, rfl, p16.run.ob, (by kernel_rfl), x, _, _, rfl, p16.run, ?_⟩
        refine ⟨_, rfl, x, _, _, rfl, p16.run.ob, (by kernel_rfl), x, _, _, rfl, p16.run, ?_⟩
        refine ⟨_, rfl, p1, R.h, _, rfl, h15.same s16, fun H17 z7 s17 d17 => ?_⟩
        refine ⟨(show 4 ≤ sizeLine by decide), fun b2 hb2 => ?_⟩
        have s18 := upd_same_of_none (o := .lst [.ref u6, R.brV, .int R.done, .ref z7]) hb2
        have d18 : Dp K (upd H17 b2 (.lst [.ref u6, R.brV, .int R.done, .ref z7])) (.ref b2) (.list [.list (R.lines.map tupD), vD R.brV, .int R.done, toldD R.h]) :=
          .lst (SqL.of upd_same) (.cons (dp_same (s17.trans s18) d16) (.cons (dp_flat hbr.1) (.cons (.int _) (.cons (dp_same s18 d17) .nil))))
        refine ⟨_, rfl, _, _, d18, dp_same ((s16.trans s17).trans s18) d15, sh, sh, ?_⟩
        rw [PySem.SeqAt.eqv_refl _ (SeqAt.canLay_of_shaped sh)]
        exact q _
      · unfold RS.at at ea
        rw [if_pos ⟨hb, (List.getElem?_eq_some_iff.mp er).1⟩] at ea
        cases ea
end
end Sh
end

section
set_option Elab.async false
set_option linter.all false
set_option maxRecDepth 100000
set_option maxHeartbeats 4000000
open PySem PySem.W PySem.Calls PyProof.Rows
set_option maxHeartbeats 0 in
theorem PySem.Challenge.cw_stillheap_k24_whole_rows_and_jumps_holds : PySem.Challenge.rw_stillheap_k24_whole_rows_and_jumps.Holds := by
  w_on; o_law
  refine HandSHeadRun.head_any (r := OpenLaw.row PySem.Challenge.rw_stillheap_k24_whole_rows_and_jumps) (q := view (OpenLaw.row PySem.Challenge.rw_stillheap_k24_whole_rows_and_jumps).prog [71]) (H := Sh.hookM) (ob := Sh.ob) (M := 12000) (loose := Sh.names) (d := HandSHeadRun.topDef (OpenLaw.row PySem.Challenge.rw_stillheap_k24_whole_rows_and_jumps).prog 71) (kwd := []) Sh.ob_eq
    (by kernel_rfl) (fun s => by kernel_rfl) Sh.run (by kernel_rfl) (by kernel_rfl) (by kernel_rfl) (by rfl) (by first | assumption | decide +kernel) (by decide +kernel) ⟨rfl, rfl, rfl, rfl, rfl, by decide +kernel⟩ ?hw ?hc
  case hw => w_witness2
  case hc =>
    refine L2.walk_ofE (l := PySem.Challenge.rw_stillheap_k24_whole_rows_and_jumps) (n := 63) (k := 40) (x := "script") (CX := L2.CX0) rfl (by decide) (by kernel_rfl) ⟨rfl, by decide, by decide⟩ ?F (fun _ _ _ _ z => z)
    intro w mg fa h Y G hmg0
    obtain ⟨K, KX, c, cx⟩ := Y
    have E : Sh.Txt K mg := ⟨c, cx, h, KX, G⟩
    have hmg : mg ("law" : PySem.Str) = some (.ref fa) := by
      have e : (HandSHeadRun.topDef (OpenLaw.row PySem.Challenge.rw_stillheap_k24_whole_rows_and_jumps).prog 71).name = ("law" : PySem.Str) := by kernel_rfl
      rw [← e]
      exact hmg0
    have e3 : fa = Sh.fAd Sh.at_law K := Sh.Txt.fa_law E hmg
    rw [e3]
    exact ⟨K, Sh.fdOf Sh.at_law K, Sh.spLaw K, KX, fun s v => Sh.Txt.bA_law E s [v] rfl, fun H a ns hl _ hS => ⟨a, ns, rfl, hS, hl, fun _ => rfl⟩, fun base _ _ => (Sh.ok_law E).mono (by decide)⟩
end
