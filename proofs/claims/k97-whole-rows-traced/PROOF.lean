import PyProof.Rows.All
import Wide.All
import OpenK.AllK
import Wide.FinOn
import KE.KStateDown
import HandS.ForMost
import HandS.ForExc
import HandS.Defaults
import HandS.Codes
import HandS.IsInst
import HandS.Style
import HandS.FStr
import HandS.TupAny
import HandS.More
import HandS.Conv
import HandS.Strs
import HandS.WideBits
import HandS.WrittenGet
import HandS.TryMany
import HandS.CallSlots
import HandS.Head0
import HandS.Head1
import HandS.Head2
import HandS.HeadHook1
import HandS.HeadHook2
import HandS.HeadHook3
import HandS.HeadHook4
import HandS.HeadWalk
import HandS.Lambda
import HandS.EndTab
import HandS.ExcInit
import HandS.ExcField
import HandS.ExcIs
import HandS.RaiseMore
import HandS.TryOnly
import HandS.Zip
import HandS.Text
import KE.GoesEnum
import KE.KExcIs
import PySem.Challenge.RW_orderlycore_k97_whole_rows_traced
set_option Elab.async false
set_option linter.all false
set_option maxRecDepth 100000
set_option maxHeartbeats 4000000
/-! The program's defs as data, and what is asked of the head (printed by genhead.py). -/
namespace K97
open PySem PySem.Spec PyProof.Rows L2
def top (i : Nat) : Stmt := PySem.Challenge.pw_orderlycore_k97_whole_rows_traced.main.body.getD i (.Pass ⟨0, 0, 0, 0⟩)
abbrev s_is_integer : Stmt := top 19
def d_is_integer : He.DefD := ⟨("is_integer", none), "is_integer", "is_integer", defArgs s_is_integer, defBody s_is_integer, defScope s_is_integer, [], []⟩
abbrev s_is_count : Stmt := top 20
def d_is_count : He.DefD := ⟨("is_count", none), "is_count", "is_count", defArgs s_is_count, defBody s_is_count, defScope s_is_count, [], []⟩
abbrev s_is_list : Stmt := top 21
def d_is_list : He.DefD := ⟨("is_list", none), "is_list", "is_list", defArgs s_is_list, defBody s_is_list, defScope s_is_list, [], []⟩
abbrev s_want_many : Stmt := top 22
def d_want_many : He.DefD := ⟨("want_many", none), "want_many", "want_many", defArgs s_want_many, defBody s_want_many, defScope s_want_many, [], []⟩
abbrev s_is_word : Stmt := top 31
def d_is_word : He.DefD := ⟨("is_word", none), "is_word", "is_word", defArgs s_is_word, defBody s_is_word, defScope s_is_word, [], []⟩
abbrev s_is_address : Stmt := top 32
def d_is_address : He.DefD := ⟨("is_address", none), "is_address", "is_address", defArgs s_is_address, defBody s_is_address, defScope s_is_address, [], []⟩
abbrev s_is_place : Stmt := top 33
def d_is_place : He.DefD := ⟨("is_place", none), "is_place", "is_place", defArgs s_is_place, defBody s_is_place, defScope s_is_place, [], []⟩
abbrev s_is_register : Stmt := top 34
def d_is_register : He.DefD := ⟨("is_register", none), "is_register", "is_register", defArgs s_is_register, defBody s_is_register, defScope s_is_register, [], []⟩
abbrev s_want_word : Stmt := top 35
def d_want_word : He.DefD := ⟨("want_word", none), "want_word", "want_word", defArgs s_want_word, defBody s_want_word, defScope s_want_word, [], []⟩
abbrev s_want_line : Stmt := top 36
def d_want_line : He.DefD := ⟨("want_line", none), "want_line", "want_line", defArgs s_want_line, defBody s_want_line, defScope s_want_line, [], []⟩
abbrev s_two_words : Stmt := top 37
def d_two_words : He.DefD := ⟨("two_words", none), "two_words", "two_words", defArgs s_two_words, defBody s_two_words, defScope s_two_words, [], []⟩
abbrev s_plus : Stmt := top 38
def d_plus : He.DefD := ⟨("plus", none), "plus", "plus", defArgs s_plus, defBody s_plus, defScope s_plus, [], []⟩
abbrev s_minus : Stmt := top 39
def d_minus : He.DefD := ⟨("minus", none), "minus", "minus", defArgs s_minus, defBody s_minus, defScope s_minus, [], []⟩
abbrev s_times : Stmt := top 40
def d_times : He.DefD := ⟨("times", none), "times", "times", defArgs s_times, defBody s_times, defScope s_times, [], []⟩
abbrev s_over : Stmt := top 41
def d_over : He.DefD := ⟨("over", none), "over", "over", defArgs s_over, defBody s_over, defScope s_over, [], []⟩
abbrev s_both : Stmt := top 42
def d_both : He.DefD := ⟨("both", none), "both", "both", defArgs s_both, defBody s_both, defScope s_both, [], []⟩
abbrev s_either : Stmt := top 43
def d_either : He.DefD := ⟨("either", none), "either", "either", defArgs s_either, defBody s_either, defScope s_either, [], []⟩
abbrev s_unlike : Stmt := top 44
def d_unlike : He.DefD := ⟨("unlike", none), "unlike", "unlike", defArgs s_unlike, defBody s_unlike, defScope s_unlike, [], []⟩
abbrev s_shifted_up : Stmt := top 45
def d_shifted_up : He.DefD := ⟨("shifted_up", none), "shifted_up", "shifted_up", defArgs s_shifted_up, defBody s_shifted_up, defScope s_shifted_up, [], []⟩
abbrev s_shifted_down : Stmt := top 46
def d_shifted_down : He.DefD := ⟨("shifted_down", none), "shifted_down", "shifted_down", defArgs s_shifted_down, defBody s_shifted_down, defScope s_shifted_down, [], []⟩
abbrev s_sort_by_name : Stmt := top 56
def d_sort_by_name : He.DefD := ⟨("sort_by_name", none), "sort_by_name", "sort_by_name", defArgs s_sort_by_name, defBody s_sort_by_name, defScope s_sort_by_name, [], []⟩
abbrev s_number_by_name : Stmt := top 57
def d_number_by_name : He.DefD := ⟨("number_by_name", none), "number_by_name", "number_by_name", defArgs s_number_by_name, defBody s_number_by_name, defScope s_number_by_name, [], []⟩
abbrev s_is_instruction_value : Stmt := top 58
def d_is_instruction_value : He.DefD := ⟨("is_instruction_value", none), "is_instruction_value", "is_instruction_value", defArgs s_is_instruction_value, defBody s_is_instruction_value, defScope s_is_instruction_value, [], []⟩
abbrev s_want_instruction : Stmt := top 59
def d_want_instruction : He.DefD := ⟨("want_instruction", none), "want_instruction", "want_instruction", defArgs s_want_instruction, defBody s_want_instruction, defScope s_want_instruction, [], []⟩
abbrev s_instruction_as_word : Stmt := top 60
def d_instruction_as_word : He.DefD := ⟨("instruction_as_word", none), "instruction_as_word", "instruction_as_word", defArgs s_instruction_as_word, defBody s_instruction_as_word, defScope s_instruction_as_word, [], []⟩
abbrev s_word_as_instruction : Stmt := top 61
def d_word_as_instruction : He.DefD := ⟨("word_as_instruction", none), "word_as_instruction", "word_as_instruction", defArgs s_word_as_instruction, defBody s_word_as_instruction, defScope s_word_as_instruction, [], []⟩
abbrev s_reads_by_form : Stmt := top 62
def d_reads_by_form : He.DefD := ⟨("reads_by_form", none), "reads_by_form", "reads_by_form", defArgs s_reads_by_form, defBody s_reads_by_form, defScope s_reads_by_form, [], []⟩
abbrev s_register_written : Stmt := top 63
def d_register_written : He.DefD := ⟨("register_written", none), "register_written", "register_written", defArgs s_register_written, defBody s_register_written, defScope s_register_written, [], []⟩
abbrev s_number_as_word : Stmt := top 64
def d_number_as_word : He.DefD := ⟨("number_as_word", none), "number_as_word", "number_as_word", defArgs s_number_as_word, defBody s_number_as_word, defScope s_number_as_word, [], []⟩
abbrev s_worth_by_name : Stmt := top 65
def d_worth_by_name : He.DefD := ⟨("worth_by_name", none), "worth_by_name", "worth_by_name", defArgs s_worth_by_name, defBody s_worth_by_name, defScope s_worth_by_name, [], []⟩
abbrev s_writes_of : Stmt := top 66
def d_writes_of : He.DefD := ⟨("writes_of", none), "writes_of", "writes_of", defArgs s_writes_of, defBody s_writes_of, defScope s_writes_of, [], []⟩
abbrev s_sort_of : Stmt := top 67
def d_sort_of : He.DefD := ⟨("sort_of", none), "sort_of", "sort_of", defArgs s_sort_of, defBody s_sort_of, defScope s_sort_of, [], []⟩
abbrev s_listing_text : Stmt := top 69
def d_listing_text : He.DefD := ⟨("listing_text", none), "listing_text", "listing_text", defArgs s_listing_text, defBody s_listing_text, defScope s_listing_text, [], []⟩
abbrev s_controls_at_first : Stmt := top 85
def d_controls_at_first : He.DefD := ⟨("controls_at_first", none), "controls_at_first", "controls_at_first", defArgs s_controls_at_first, defBody s_controls_at_first, defScope s_controls_at_first, [], []⟩
abbrev s_has_bit : Stmt := top 86
def d_has_bit : He.DefD := ⟨("has_bit", none), "has_bit", "has_bit", defArgs s_has_bit, defBody s_has_bit, defScope s_has_bit, [], []⟩
abbrev s_status_with : Stmt := top 87
def d_status_with : He.DefD := ⟨("status_with", none), "status_with", "status_with", defArgs s_status_with, defBody s_status_with, defScope s_status_with, [], []⟩
abbrev s_controls_trapped : Stmt := top 88
def d_controls_trapped : He.DefD := ⟨("controls_trapped", none), "controls_trapped", "controls_trapped", defArgs s_controls_trapped, defBody s_controls_trapped, defScope s_controls_trapped, [], []⟩
abbrev s_controls_returned : Stmt := top 89
def d_controls_returned : He.DefD := ⟨("controls_returned", none), "controls_returned", "controls_returned", defArgs s_controls_returned, defBody s_controls_returned, defScope s_controls_returned, [], []⟩
abbrev s_is_memory_place : Stmt := top 91
def d_is_memory_place : He.DefD := ⟨("is_memory_place", none), "is_memory_place", "is_memory_place", defArgs s_is_memory_place, defBody s_is_memory_place, defScope s_is_memory_place, [], []⟩
abbrev s_want_memory_place : Stmt := top 92
def d_want_memory_place : He.DefD := ⟨("want_memory_place", none), "want_memory_place", "want_memory_place", defArgs s_want_memory_place, defBody s_want_memory_place, defScope s_want_memory_place, [], []⟩
abbrev s_is_memory_part : Stmt := top 93
def d_is_memory_part : He.DefD := ⟨("is_memory_part", none), "is_memory_part", "is_memory_part", defArgs s_is_memory_part, defBody s_is_memory_part, defScope s_is_memory_part, [], []⟩
abbrev s_are_parts : Stmt := top 94
def d_are_parts : He.DefD := ⟨("are_parts", none), "are_parts", "are_parts", defArgs s_are_parts, defBody s_are_parts, defScope s_are_parts, [], []⟩
abbrev s_memory_of : Stmt := top 96
def d_memory_of : He.DefD := ⟨("memory_of", none), "memory_of", "memory_of", defArgs s_memory_of, defBody s_memory_of, defScope s_memory_of, [], []⟩
abbrev s_is_there : Stmt := top 105
def d_is_there : He.DefD := ⟨("is_there", none), "is_there", "is_there", defArgs s_is_there, defBody s_is_there, defScope s_is_there, [], []⟩
abbrev s_flags_of : Stmt := top 106
def d_flags_of : He.DefD := ⟨("flags_of", none), "flags_of", "flags_of", defArgs s_flags_of, defBody s_flags_of, defScope s_flags_of, [], []⟩
abbrev s_frame_of : Stmt := top 107
def d_frame_of : He.DefD := ⟨("frame_of", none), "frame_of", "frame_of", defArgs s_frame_of, defBody s_frame_of, defScope s_frame_of, [], []⟩
abbrev s_by_word : Stmt := top 108
def d_by_word : He.DefD := ⟨("by_word", none), "by_word", "by_word", defArgs s_by_word, defBody s_by_word, defScope s_by_word, [], []⟩
abbrev s_first_place : Stmt := top 109
def d_first_place : He.DefD := ⟨("first_place", none), "first_place", "first_place", defArgs s_first_place, defBody s_first_place, defScope s_first_place, [], []⟩
abbrev s_second_place : Stmt := top 110
def d_second_place : He.DefD := ⟨("second_place", none), "second_place", "second_place", defArgs s_second_place, defBody s_second_place, defScope s_second_place, [], []⟩
abbrev s_translated_by : Stmt := top 111
def d_translated_by : He.DefD := ⟨("translated_by", none), "translated_by", "translated_by", defArgs s_translated_by, defBody s_translated_by, defScope s_translated_by, [], []⟩
abbrev s_straight_by : Stmt := top 112
def d_straight_by : He.DefD := ⟨("straight_by", none), "straight_by", "straight_by", defArgs s_straight_by, defBody s_straight_by, defScope s_straight_by, [], []⟩
abbrev s_is_device_there : Stmt := top 119
def d_is_device_there : He.DefD := ⟨("is_device_there", none), "is_device_there", "is_device_there", defArgs s_is_device_there, defBody s_is_device_there, defScope s_is_device_there, [], []⟩
abbrev s_want_inputs : Stmt := top 121
def d_want_inputs : He.DefD := ⟨("want_inputs", none), "want_inputs", "want_inputs", defArgs s_want_inputs, defBody s_want_inputs, defScope s_want_inputs, [], []⟩
abbrev s_want_state : Stmt := top 127
def d_want_state : He.DefD := ⟨("want_state", none), "want_state", "want_state", defArgs s_want_state, defBody s_want_state, defScope s_want_state, [], []⟩
abbrev s_next_address : Stmt := top 139
def d_next_address : He.DefD := ⟨("next_address", none), "next_address", "next_address", defArgs s_next_address, defBody s_next_address, defScope s_next_address, [], []⟩
abbrev s_reached_address : Stmt := top 140
def d_reached_address : He.DefD := ⟨("reached_address", none), "reached_address", "reached_address", defArgs s_reached_address, defBody s_reached_address, defScope s_reached_address, [], []⟩
abbrev s_sum_worth : Stmt := top 141
def d_sum_worth : He.DefD := ⟨("sum_worth", none), "sum_worth", "sum_worth", defArgs s_sum_worth, defBody s_sum_worth, defScope s_sum_worth, [], []⟩
abbrev s_worked_out : Stmt := top 142
def d_worked_out : He.DefD := ⟨("worked_out", none), "worked_out", "worked_out", defArgs s_worked_out, defBody s_worked_out, defScope s_worked_out, [], []⟩
abbrev s_trap_on : Stmt := top 143
def d_trap_on : He.DefD := ⟨("trap_on", none), "trap_on", "trap_on", defArgs s_trap_on, defBody s_trap_on, defScope s_trap_on, [], []⟩
abbrev s_lone_on : Stmt := top 144
def d_lone_on : He.DefD := ⟨("lone_on", none), "lone_on", "lone_on", defArgs s_lone_on, defBody s_lone_on, defScope s_lone_on, [], []⟩
abbrev s_looked_up : Stmt := top 145
def d_looked_up : He.DefD := ⟨("looked_up", none), "looked_up", "looked_up", defArgs s_looked_up, defBody s_looked_up, defScope s_looked_up, [], []⟩
abbrev s_data_place : Stmt := top 146
def d_data_place : He.DefD := ⟨("data_place", none), "data_place", "data_place", defArgs s_data_place, defBody s_data_place, defScope s_data_place, [], []⟩
abbrev s_trap_row : Stmt := top 147
def d_trap_row : He.DefD := ⟨("trap_row", none), "trap_row", "trap_row", defArgs s_trap_row, defBody s_trap_row, defScope s_trap_row, [], []⟩
abbrev s_interrupt_row : Stmt := top 148
def d_interrupt_row : He.DefD := ⟨("interrupt_row", none), "interrupt_row", "interrupt_row", defArgs s_interrupt_row, defBody s_interrupt_row, defScope s_interrupt_row, [], []⟩
abbrev s_load_row : Stmt := top 149
def d_load_row : He.DefD := ⟨("load_row", none), "load_row", "load_row", defArgs s_load_row, defBody s_load_row, defScope s_load_row, [], []⟩
abbrev s_store_row : Stmt := top 150
def d_store_row : He.DefD := ⟨("store_row", none), "store_row", "store_row", defArgs s_store_row, defBody s_store_row, defScope s_store_row, [], []⟩
abbrev s_lone_row : Stmt := top 151
def d_lone_row : He.DefD := ⟨("lone_row", none), "lone_row", "lone_row", defArgs s_lone_row, defBody s_lone_row, defScope s_lone_row, [], []⟩
abbrev s_plain_row : Stmt := top 152
def d_plain_row : He.DefD := ⟨("plain_row", none), "plain_row", "plain_row", defArgs s_plain_row, defBody s_plain_row, defScope s_plain_row, [], []⟩
abbrev s_fetched_row : Stmt := top 153
def d_fetched_row : He.DefD := ⟨("fetched_row", none), "fetched_row", "fetched_row", defArgs s_fetched_row, defBody s_fetched_row, defScope s_fetched_row, [], []⟩
abbrev s_done_step : Stmt := top 154
def d_done_step : He.DefD := ⟨("done_step", none), "done_step", "done_step", defArgs s_done_step, defBody s_done_step, defScope s_done_step, [], []⟩
abbrev s_is_raise : Stmt := top 155
def d_is_raise : He.DefD := ⟨("is_raise", none), "is_raise", "is_raise", defArgs s_is_raise, defBody s_is_raise, defScope s_is_raise, [], []⟩
abbrev s_want_raised : Stmt := top 156
def d_want_raised : He.DefD := ⟨("want_raised", none), "want_raised", "want_raised", defArgs s_want_raised, defBody s_want_raised, defScope s_want_raised, [], []⟩
abbrev s_steps : Stmt := top 157
def d_steps : He.DefD := ⟨("steps", none), "steps", "steps", defArgs s_steps, defBody s_steps, defScope s_steps, [], []⟩
abbrev s_is_pair : Stmt := top 161
def d_is_pair : He.DefD := ⟨("is_pair", none), "is_pair", "is_pair", defArgs s_is_pair, defBody s_is_pair, defScope s_is_pair, [], []⟩
abbrev s_is_row_value : Stmt := top 162
def d_is_row_value : He.DefD := ⟨("is_row_value", none), "is_row_value", "is_row_value", defArgs s_is_row_value, defBody s_is_row_value, defScope s_is_row_value, [], []⟩
abbrev s_is_row : Stmt := top 163
def d_is_row : He.DefD := ⟨("is_row", none), "is_row", "is_row", defArgs s_is_row, defBody s_is_row, defScope s_is_row, [], []⟩
abbrev s_traced_word : Stmt := top 166
def d_traced_word : He.DefD := ⟨("traced_word", none), "traced_word", "traced_word", defArgs s_traced_word, defBody s_traced_word, defScope s_traced_word, [], []⟩
abbrev s_traced_row : Stmt := top 167
def d_traced_row : He.DefD := ⟨("traced_row", none), "traced_row", "traced_row", defArgs s_traced_row, defBody s_traced_row, defScope s_traced_row, [], []⟩
abbrev s_traced : Stmt := top 168
def d_traced : He.DefD := ⟨("traced", none), "traced", "traced", defArgs s_traced, defBody s_traced, defScope s_traced, [], []⟩
abbrev s_trace : Stmt := top 169
def d_trace : He.DefD := ⟨("trace", none), "trace", "trace", defArgs s_trace, defBody s_trace, defScope s_trace, [], []⟩
abbrev s_law_pot : Stmt := top 171
def d_law_pot : He.DefD := ⟨("_law_pot", none), "_law_pot", "_law_pot", defArgs s_law_pot, defBody s_law_pot, defScope s_law_pot, [], []⟩
abbrev s_law_draw : Stmt := top 172
def d_law_draw : He.DefD := ⟨("_law_draw", none), "_law_draw", "_law_draw", defArgs s_law_draw, defBody s_law_draw, defScope s_law_draw, [], []⟩
abbrev s_law_pick : Stmt := top 173
def d_law_pick : He.DefD := ⟨("_law_pick", none), "_law_pick", "_law_pick", defArgs s_law_pick, defBody s_law_pick, defScope s_law_pick, [], []⟩
abbrev s_law_names : Stmt := top 174
def d_law_names : He.DefD := ⟨("_law_names", none), "_law_names", "_law_names", defArgs s_law_names, defBody s_law_names, defScope s_law_names, [], []⟩
abbrev s_law_instruction : Stmt := top 175
def d_law_instruction : He.DefD := ⟨("_law_instruction", none), "_law_instruction", "_law_instruction", defArgs s_law_instruction, defBody s_law_instruction, defScope s_law_instruction, [], []⟩
abbrev s_law_word : Stmt := top 176
def d_law_word : He.DefD := ⟨("_law_word", none), "_law_word", "_law_word", defArgs s_law_word, defBody s_law_word, defScope s_law_word, [], []⟩
abbrev s_law_said : Stmt := top 177
def d_law_said : He.DefD := ⟨("_law_said", none), "_law_said", "_law_said", defArgs s_law_said, defBody s_law_said, defScope s_law_said, [], []⟩
abbrev s_law_listed : Stmt := top 178
def d_law_listed : He.DefD := ⟨("_law_listed", none), "_law_listed", "_law_listed", defArgs s_law_listed, defBody s_law_listed, defScope s_law_listed, [], []⟩
abbrev s_law_row : Stmt := top 179
def d_law_row : He.DefD := ⟨("_law_row", none), "_law_row", "_law_row", defArgs s_law_row, defBody s_law_row, defScope s_law_row, [], []⟩
abbrev s_law_due : Stmt := top 180
def d_law_due : He.DefD := ⟨("_law_due", none), "_law_due", "_law_due", defArgs s_law_due, defBody s_law_due, defScope s_law_due, [], []⟩
abbrev s_law_is_below : Stmt := top 181
def d_law_is_below : He.DefD := ⟨("_law_is_below", none), "_law_is_below", "_law_is_below", defArgs s_law_is_below, defBody s_law_is_below, defScope s_law_is_below, [], []⟩
abbrev s_law_is_row : Stmt := top 182
def d_law_is_row : He.DefD := ⟨("_law_is_row", none), "_law_is_row", "_law_is_row", defArgs s_law_is_row, defBody s_law_is_row, defScope s_law_is_row, [], []⟩
abbrev s_law_bent : Stmt := top 183
def d_law_bent : He.DefD := ⟨("_law_bent", none), "_law_bent", "_law_bent", defArgs s_law_bent, defBody s_law_bent, defScope s_law_bent, [], []⟩
abbrev s_law_heard : Stmt := top 184
def d_law_heard : He.DefD := ⟨("_law_heard", none), "_law_heard", "_law_heard", defArgs s_law_heard, defBody s_law_heard, defScope s_law_heard, [], []⟩
abbrev s_law_ran : Stmt := top 185
def d_law_ran : He.DefD := ⟨("_law_ran", none), "_law_ran", "_law_ran", defArgs s_law_ran, defBody s_law_ran, defScope s_law_ran, [], []⟩
abbrev s_law_right : Stmt := top 186
def d_law_right : He.DefD := ⟨("_law_right", none), "_law_right", "_law_right", defArgs s_law_right, defBody s_law_right, defScope s_law_right, [], []⟩
abbrev s_law : Stmt := top 187
def d_law : He.DefD := ⟨("law", none), "law", "law", defArgs s_law, defBody s_law, defScope s_law, [], []⟩
abbrev s_CoreError_init : Stmt := inClass (top 2) 0
def d_CoreError_init : He.DefD := ⟨("CoreError", some "__init__"), "__init__", "CoreError.__init__", defArgs s_CoreError_init, defBody s_CoreError_init, defScope s_CoreError_init, [], []⟩
abbrev s_DividedByNought_init : Stmt := inClass (top 12) 0
def d_DividedByNought_init : He.DefD := ⟨("DividedByNought", some "__init__"), "__init__", "DividedByNought.__init__", defArgs s_DividedByNought_init, defBody s_DividedByNought_init, defScope s_DividedByNought_init, [], []⟩
abbrev s_Memory_init : Stmt := inClass (top 95) 0
def d_Memory_init : He.DefD := ⟨("Memory", some "__init__"), "__init__", "Memory.__init__", defArgs s_Memory_init, defBody s_Memory_init, defScope s_Memory_init, [], []⟩
abbrev s_Memory_word : Stmt := inClass (top 95) 1
def d_Memory_word : He.DefD := ⟨("Memory", some "word"), "word", "Memory.word", defArgs s_Memory_word, defBody s_Memory_word, defScope s_Memory_word, [], []⟩
abbrev s_Memory_copy : Stmt := inClass (top 95) 4
def d_Memory_copy : He.DefD := ⟨("Memory", some "copy"), "copy", "Memory.copy", defArgs s_Memory_copy, defBody s_Memory_copy, defScope s_Memory_copy, [], []⟩
abbrev s_Devices_init : Stmt := inClass (top 122) 0
def d_Devices_init : He.DefD := ⟨("Devices", some "__init__"), "__init__", "Devices.__init__", defArgs s_Devices_init, defBody s_Devices_init, defScope s_Devices_init, [], []⟩
abbrev s_Devices_can : Stmt := inClass (top 122) 1
def d_Devices_can : He.DefD := ⟨("Devices", some "can"), "can", "Devices.can", defArgs s_Devices_can, defBody s_Devices_can, defScope s_Devices_can, [], []⟩
abbrev s_Devices_device_read : Stmt := inClass (top 122) 2
def d_Devices_device_read : He.DefD := ⟨("Devices", some "device_read"), "device_read", "Devices.device_read", defArgs s_Devices_device_read, defBody s_Devices_device_read, defScope s_Devices_device_read, [], []⟩
abbrev s_Devices_device_write : Stmt := inClass (top 122) 3
def d_Devices_device_write : He.DefD := ⟨("Devices", some "device_write"), "device_write", "Devices.device_write", defArgs s_Devices_device_write, defBody s_Devices_device_write, defScope s_Devices_device_write, [], []⟩
abbrev s_Devices_raised : Stmt := inClass (top 122) 6
def d_Devices_raised : He.DefD := ⟨("Devices", some "raised"), "raised", "Devices.raised", defArgs s_Devices_raised, defBody s_Devices_raised, defScope s_Devices_raised, [], []⟩
abbrev s_Devices_counted : Stmt := inClass (top 122) 7
def d_Devices_counted : He.DefD := ⟨("Devices", some "counted"), "counted", "Devices.counted", defArgs s_Devices_counted, defBody s_Devices_counted, defScope s_Devices_counted, [], []⟩
abbrev s_Devices_due : Stmt := inClass (top 122) 8
def d_Devices_due : He.DefD := ⟨("Devices", some "due"), "due", "Devices.due", defArgs s_Devices_due, defBody s_Devices_due, defScope s_Devices_due, [], []⟩
abbrev s_Devices_lowered : Stmt := inClass (top 122) 9
def d_Devices_lowered : He.DefD := ⟨("Devices", some "lowered"), "lowered", "Devices.lowered", defArgs s_Devices_lowered, defBody s_Devices_lowered, defScope s_Devices_lowered, [], []⟩
abbrev s_State_init : Stmt := inClass (top 125) 0
def d_State_init : He.DefD := ⟨("State", some "__init__"), "__init__", "State.__init__", defArgs s_State_init, defBody s_State_init, defScope s_State_init, [], []⟩
def fn : List He.DefD := [d_is_integer, d_is_count, d_is_list, d_want_many, d_is_word, d_is_address, d_is_place, d_is_register, d_want_word, d_want_line, d_two_words, d_plus, d_minus, d_times, d_over, d_both, d_either, d_unlike, d_shifted_up, d_shifted_down, d_sort_by_name, d_number_by_name, d_is_instruction_value, d_want_instruction, d_instruction_as_word, d_word_as_instruction, d_reads_by_form, d_register_written, d_number_as_word, d_worth_by_name, d_writes_of, d_sort_of, d_listing_text, d_controls_at_first, d_has_bit, d_status_with, d_controls_trapped, d_controls_returned, d_is_memory_place, d_want_memory_place, d_is_memory_part, d_are_parts, d_memory_of, d_is_there, d_flags_of, d_frame_of, d_by_word, d_first_place, d_second_place, d_translated_by, d_straight_by, d_is_device_there, d_want_inputs, d_want_state, d_next_address, d_reached_address, d_sum_worth, d_worked_out, d_trap_on, d_lone_on, d_looked_up, d_data_place, d_trap_row, d_interrupt_row, d_load_row, d_store_row, d_lone_row, d_plain_row, d_fetched_row, d_done_step, d_is_raise, d_want_raised, d_steps, d_is_pair, d_is_row_value, d_is_row, d_traced_word, d_traced_row, d_traced, d_trace, d_law_pot, d_law_draw, d_law_pick, d_law_names, d_law_instruction, d_law_word, d_law_said, d_law_listed, d_law_row, d_law_due, d_law_is_below, d_law_is_row, d_law_bent, d_law_heard, d_law_ran, d_law_right, d_law, d_CoreError_init, d_DividedByNought_init, d_Memory_init, d_Memory_word, d_Memory_copy, d_Devices_init, d_Devices_can, d_Devices_device_read, d_Devices_device_write, d_Devices_raised, d_Devices_counted, d_Devices_due, d_Devices_lowered, d_State_init]
def fa : List He.Fa := [.glo "is_integer", .glo "is_count", .glo "is_list", .glo "want_many", .glo "is_word", .glo "is_address", .glo "is_place", .glo "is_register", .glo "want_word", .glo "want_line", .glo "two_words", .glo "plus", .glo "minus", .glo "times", .glo "over", .glo "both", .glo "either", .glo "unlike", .glo "shifted_up", .glo "shifted_down", .glo "sort_by_name", .glo "number_by_name", .glo "is_instruction_value", .glo "want_instruction", .glo "instruction_as_word", .glo "word_as_instruction", .glo "reads_by_form", .glo "register_written", .glo "number_as_word", .glo "worth_by_name", .glo "writes_of", .glo "sort_of", .glo "listing_text", .glo "controls_at_first", .glo "has_bit", .glo "status_with", .glo "controls_trapped", .glo "controls_returned", .glo "is_memory_place", .glo "want_memory_place", .glo "is_memory_part", .glo "are_parts", .glo "memory_of", .glo "is_there", .glo "flags_of", .glo "frame_of", .glo "by_word", .glo "first_place", .glo "second_place", .glo "translated_by", .glo "straight_by", .glo "is_device_there", .glo "want_inputs", .glo "want_state", .glo "next_address", .glo "reached_address", .glo "sum_worth", .glo "worked_out", .glo "trap_on", .glo "lone_on", .glo "looked_up", .glo "data_place", .glo "trap_row", .glo "interrupt_row", .glo "load_row", .glo "store_row", .glo "lone_row", .glo "plain_row", .glo "fetched_row", .glo "done_step", .glo "is_raise", .glo "want_raised", .glo "steps", .glo "is_pair", .glo "is_row_value", .glo "is_row", .glo "traced_word", .glo "traced_row", .glo "traced", .glo "trace", .glo "_law_pot", .glo "_law_draw", .glo "_law_pick", .glo "_law_names", .glo "_law_instruction", .glo "_law_word", .glo "_law_said", .glo "_law_listed", .glo "_law_row", .glo "_law_due", .glo "_law_is_below", .glo "_law_is_row", .glo "_law_bent", .glo "_law_heard", .glo "_law_ran", .glo "_law_right", .glo "law", .glo "CoreError", .glo "StateError", .glo "InvalidWord", .glo "InvalidPlace", .glo "InvalidLine", .glo "InvalidInstruction", .glo "InvalidMemory", .glo "InvalidInputs", .glo "InvalidState", .glo "InvalidMany", .glo "DividedByNought", .glo "InvalidParts", .glo "InvalidRaised", .glo "InvalidRow", .glo "InvalidRowList", .glo "NotRaised", .glo "Memory", .glo "Devices", .glo "State", .glo "FORMS", .glo "SHAPES", .glo "SORTS", .glo "WORTHS", .glo "WAY_CAUSES", .glo "UNWRITTEN", .glo "PLACES", .glo "NUMBERED", .free "RuntimeError", .free "ValueError", .free "abs", .free "all", .free "bool", .free "divmod", .free "enumerate", .free "int", .free "isinstance", .free "len", .free "list", .free "max", .free "property", .free "range", .free "repr", .free "str", .free "sum", .free "tuple", .free "zip", .int "MOST_WORD" (65536), .int "MOST_ADDRESS" (4096), .int "MOST_PLACE" (1024), .int "MEMORY_END" (960), .int "REGISTERS" (8), .int "LINES" (4), .int "BITS" (16), .int "OPERATION_BIT" (11), .int "MOST_REGISTER" (7), .int "CONTROL_STATUS" (0), .int "CONTROL_CAUSE" (1), .int "CONTROL_HOME" (2), .int "CONTROL_BAD" (3), .int "CONTROL_ENTRY" (4), .int "CONTROL_ROOT" (5), .int "CONTROL_MASK" (6), .int "MANY_CONTROLS" (8), .int "BIT_SUPERVISOR" (1), .int "BIT_ON" (2), .int "BIT_OLD_SUPERVISOR" (4), .int "BIT_OLD_ON" (8), .int "BIT_PAGED" (16), .int "MANY_FRAMES" (64), .int "PAGE_SIZE" (16), .int "MOST_FRAME" (64), .int "THERE" (32768), .int "WRITTEN" (16384), .int "USERS" (8192), .int "NO_PLACE" (7), .int "MOST_INPUTS" (40), .int "DEVICE_INPUT" (960), .int "DEVICE_LEFT" (961), .int "DEVICE_STEPS" (976), .int "DEVICE_TIMER" (977), .int "MANY_REGISTERS" (8), .int "MOST_STEPS" (100000), .int "MOST_RAISED" (60), .int "MANY_LINES" (4), .int "CAUSE_BAD_WORD" (1), .int "CAUSE_NOT_LET" (2), .int "CAUSE_OVER" (3), .int "CAUSE_NO_PLACE" (7), .int "CAUSE_SYSTEM" (8), .int "CAUSE_LINE" (16), .int "ROW_PARTS" (7), .int "CAUSES" (32), .int "FIRST_INTERRUPT" (16), .cls "Memory", .mkr "Memory", .noat "Memory" "own_words", .cls "Devices", .mkr "Devices", .noat "Devices" "own_inputs", .noat "Devices" "own_taken", .noat "Devices" "own_outputs", .noat "Devices" "own_steps", .noat "Devices" "own_timer", .noat "Devices" "own_lines", .cls "State", .mkr "State", .noat "State" "own_devices", .noat "State" "own_memory", .noat "State" "own_registers", .noat "State" "own_controls", .noat "State" "own_address", .noat "State" "own_halted", .noat "State" "own_done", .meth "Memory" "word", .meth "Memory" "copy", .meth "Devices" "can", .meth "Devices" "device_read", .meth "Devices" "device_write", .meth "Devices" "raised", .meth "Devices" "counted", .meth "Devices" "due", .meth "Devices" "lowered"]
def ts : List He.Tab := [(fun K => He.ga K "FORMS", ["add", "sub", "mul", "div", "and", "or", "xor", "shl", "shr", "low", "eq", "addi", "ld", "st", "jr", "lim", "lhi", "bz", "bnz", "jal", "sys", "rdc", "wrc", "ret", "halt", "nop"]), (fun K => He.ga K "SHAPES", ["three", "near", "byte", "far", "call", "control", "bare"]), (fun K => He.ga K "SORTS", ["mul", "div", "ld", "st", "bz", "bnz", "jr", "jal", "sys", "rdc", "wrc", "ret", "halt"]), (fun K => He.ga K "WORTHS", ["add", "addi", "sub", "mul", "div", "and", "or", "xor", "shl", "shr"]), (fun K => He.ga K "WAY_CAUSES", ["fetch", "load", "store"])]
/-- the object that the table x has at the key z -/
def tabAt (x z : Str) (K : PySem.W.Frag) : Addr := match PySem.W.nsIn K (He.ga K x) z with
  | some (some (.ref a)) => a
  | _ => 0
def tupAtB (K : PySem.W.Frag) (a : Addr) (vs : List V) : Bool := match K.lookup a with
  | some ⟨.type c, _, .seq its _, _⟩ => decide (c = "tuple") && (decide (its.size ≤ sizeLine) && He.relAll vs its.toList)
  | _ => false
theorem tupAtB_ok {K : PySem.W.Frag} {a : Addr} {vs : List V} (h : tupAtB K a vs = true) (H : Hp) : SqT K H a vs := by
  unfold tupAtB at h
  split at h
  · rename_i c d its n sl hk
    simp only [Bool.and_eq_true, decide_eq_true_eq] at h
    exact .inr ⟨_, its, n, hk, congrArg Value.type h.1, rfl, h.2.1, He.relAll_ok h.2.2⟩
  · cases h
/-- an exception class of one's own over ValueError, with a field -/
def oexB (K : PySem.W.Frag) (C : Addr) : Bool := match K.lookup C with
  | some ⟨.type t, _, .cls cd, sl⟩ => decide (t = "type") && (match cd.mro, sl.toList with
      | .ref C' :: bm, [_, _, _, _, some (.builtin n), _] => decide (C' = C) && (decide (n = "ValueError.__new__") && (HandSPX.refsVE bm && (cd.hasDict && !cd.hasDel)))
      | _, _ => false)
  | _ => false
def kv_FORMS : List (Str × He.Dv) := [("add", .str "three"), ("sub", .str "three"), ("mul", .str "three"), ("div", .str "three"), ("and", .str "three"), ("or", .str "three"), ("xor", .str "three"), ("shl", .str "three"), ("shr", .str "three"), ("low", .str "three"), ("eq", .str "three"), ("addi", .str "near"), ("ld", .str "near"), ("st", .str "near"), ("jr", .str "near"), ("lim", .str "byte"), ("lhi", .str "byte"), ("bz", .str "far"), ("bnz", .str "far"), ("jal", .str "far"), ("sys", .str "call"), ("rdc", .str "control"), ("wrc", .str "control"), ("ret", .str "bare"), ("halt", .str "bare"), ("nop", .str "bare")]
def kv_SHAPES : List (Str × He.Dv) := [("three", .adr (tabAt "SHAPES" "three")), ("near", .adr (tabAt "SHAPES" "near")), ("byte", .adr (tabAt "SHAPES" "byte")), ("far", .adr (tabAt "SHAPES" "far")), ("call", .adr (tabAt "SHAPES" "call")), ("control", .adr (tabAt "SHAPES" "control")), ("bare", .adr (tabAt "SHAPES" "bare"))]
def kv_SORTS : List (Str × He.Dv) := [("mul", .str "times"), ("div", .str "over"), ("ld", .str "load"), ("st", .str "store"), ("bz", .str "branch"), ("bnz", .str "branch"), ("jr", .str "jump"), ("jal", .str "jump"), ("sys", .str "lone"), ("rdc", .str "lone"), ("wrc", .str "lone"), ("ret", .str "lone"), ("halt", .str "lone")]
def kv_WORTHS : List (Str × He.Dv) := [("add", .glo "plus"), ("addi", .glo "plus"), ("sub", .glo "minus"), ("mul", .glo "times"), ("div", .glo "over"), ("and", .glo "both"), ("or", .glo "either"), ("xor", .glo "unlike"), ("shl", .glo "shifted_up"), ("shr", .glo "shifted_down")]
def kv_WAY_CAUSES : List (Str × He.Dv) := [("fetch", .int (4)), ("load", .int (5)), ("store", .int (6))]
def x_vals_FORMS (K : PySem.W.Frag) : Bool := He.valsB K (He.ga K "FORMS") kv_FORMS
def x_vals_SHAPES (K : PySem.W.Frag) : Bool := He.valsB K (He.ga K "SHAPES") kv_SHAPES
def x_vals_SORTS (K : PySem.W.Frag) : Bool := He.valsB K (He.ga K "SORTS") kv_SORTS
def x_vals_WORTHS (K : PySem.W.Frag) : Bool := He.valsB K (He.ga K "WORTHS") kv_WORTHS
def x_vals_WAY_CAUSES (K : PySem.W.Frag) : Bool := He.valsB K (He.ga K "WAY_CAUSES") kv_WAY_CAUSES
def x_shape_three (K : PySem.W.Frag) : Bool := tupAtB K (tabAt "SHAPES" "three" K) [.int (3), .int (0), .int (0), .int (0)]
def x_shape_near (K : PySem.W.Frag) : Bool := tupAtB K (tabAt "SHAPES" "near" K) [.int (2), .int (5), .int (-16), .int (15)]
def x_shape_byte (K : PySem.W.Frag) : Bool := tupAtB K (tabAt "SHAPES" "byte" K) [.int (1), .int (8), .int (0), .int (255)]
def x_shape_far (K : PySem.W.Frag) : Bool := tupAtB K (tabAt "SHAPES" "far" K) [.int (1), .int (8), .int (-128), .int (127)]
def x_shape_call (K : PySem.W.Frag) : Bool := tupAtB K (tabAt "SHAPES" "call" K) [.int (0), .int (8), .int (0), .int (255)]
def x_shape_control (K : PySem.W.Frag) : Bool := tupAtB K (tabAt "SHAPES" "control" K) [.int (1), .int (8), .int (0), .int (7)]
def x_shape_bare (K : PySem.W.Frag) : Bool := tupAtB K (tabAt "SHAPES" "bare" K) [.int (0), .int (0), .int (0), .int (0)]
def x_tup_UNWRITTEN (K : PySem.W.Frag) : Bool := tupAtB K (He.ga K "UNWRITTEN") [.str "st", .str "bz", .str "bnz", .str "sys", .str "wrc", .str "ret", .str "halt", .str "nop"]
def x_tup_PLACES (K : PySem.W.Frag) : Bool := tupAtB K (He.ga K "PLACES") [.int (8), .int (5), .int (0)]
def x_tup_NUMBERED (K : PySem.W.Frag) : Bool := tupAtB K (He.ga K "NUMBERED") [.str "addi", .str "lhi", .str "lim"]
def x_oex_InvalidRow (K : PySem.W.Frag) : Bool := oexB K (He.ga K "InvalidRow")
def x_sa_InvalidRow (K : PySem.W.Frag) : Bool := He.eqO (PySem.W.findIn K (.ref (He.ga K "InvalidRow")) "__setattr__") (some (some (.builtin "object.__setattr__")))
def x_xf_InvalidRow (K : PySem.W.Frag) : Bool := xfB K (He.ga K "InvalidRow")
def x_ty_InvalidRow (K : PySem.W.Frag) : Bool := decide (PySem.W.typeIn K (.ref (He.ga K "InvalidRow")) = some (.type "type"))
def x_kc_InvalidRow (K : PySem.W.Frag) : Bool := PySem.W.keepIn K (.ref (He.ga K "InvalidRow"))
def x_in_InvalidRow (K : PySem.W.Frag) : Bool := He.eqO (PySem.W.findIn K (.ref (He.ga K "InvalidRow")) "__init__") (some (some (.ref (He.ma K (He.ga K "CoreError") "__init__"))))
def x_ti_InvalidRow (K : PySem.W.Frag) : Bool := decide (PySem.W.typeIn K (.ref (He.ma K (He.ga K "CoreError") "__init__")) = some (.type "function"))
def x_nv_InvalidRow (K : PySem.W.Frag) : Bool := He.eqO (PySem.W.findIn K (.ref (He.ga K "InvalidRow")) "value") (some none)
def x_cl_InvalidRow (K : PySem.W.Frag) : Bool := He.eqO (PySem.W.findIn K (.ref (He.ga K "InvalidRow")) "__class__") (some (some (.builtin "object.__class__")))
def x_mo_InvalidRow (K : PySem.W.Frag) : Bool := decide (PySem.W.mroIn K (He.ga K "InvalidRow") (.type "object") = some true)
def x_oex_InvalidRowList (K : PySem.W.Frag) : Bool := oexB K (He.ga K "InvalidRowList")
def x_sa_InvalidRowList (K : PySem.W.Frag) : Bool := He.eqO (PySem.W.findIn K (.ref (He.ga K "InvalidRowList")) "__setattr__") (some (some (.builtin "object.__setattr__")))
def x_xf_InvalidRowList (K : PySem.W.Frag) : Bool := xfB K (He.ga K "InvalidRowList")
def x_ty_InvalidRowList (K : PySem.W.Frag) : Bool := decide (PySem.W.typeIn K (.ref (He.ga K "InvalidRowList")) = some (.type "type"))
def x_kc_InvalidRowList (K : PySem.W.Frag) : Bool := PySem.W.keepIn K (.ref (He.ga K "InvalidRowList"))
def x_in_InvalidRowList (K : PySem.W.Frag) : Bool := He.eqO (PySem.W.findIn K (.ref (He.ga K "InvalidRowList")) "__init__") (some (some (.ref (He.ma K (He.ga K "CoreError") "__init__"))))
def x_ti_InvalidRowList (K : PySem.W.Frag) : Bool := decide (PySem.W.typeIn K (.ref (He.ma K (He.ga K "CoreError") "__init__")) = some (.type "function"))
def x_nv_InvalidRowList (K : PySem.W.Frag) : Bool := He.eqO (PySem.W.findIn K (.ref (He.ga K "InvalidRowList")) "value") (some none)
def x_cl_InvalidRowList (K : PySem.W.Frag) : Bool := He.eqO (PySem.W.findIn K (.ref (He.ga K "InvalidRowList")) "__class__") (some (some (.builtin "object.__class__")))
def x_mo_InvalidRowList (K : PySem.W.Frag) : Bool := decide (PySem.W.mroIn K (He.ga K "InvalidRowList") (.type "object") = some true)
def x_oex_DividedByNought (K : PySem.W.Frag) : Bool := oexB K (He.ga K "DividedByNought")
def x_sa_DividedByNought (K : PySem.W.Frag) : Bool := He.eqO (PySem.W.findIn K (.ref (He.ga K "DividedByNought")) "__setattr__") (some (some (.builtin "object.__setattr__")))
def x_xf_DividedByNought (K : PySem.W.Frag) : Bool := xfB K (He.ga K "DividedByNought")
def x_ty_DividedByNought (K : PySem.W.Frag) : Bool := decide (PySem.W.typeIn K (.ref (He.ga K "DividedByNought")) = some (.type "type"))
def x_kc_DividedByNought (K : PySem.W.Frag) : Bool := PySem.W.keepIn K (.ref (He.ga K "DividedByNought"))
def x_in_DividedByNought (K : PySem.W.Frag) : Bool := He.eqO (PySem.W.findIn K (.ref (He.ga K "DividedByNought")) "__init__") (some (some (.ref (He.ma K (He.ga K "DividedByNought") "__init__"))))
def x_ti_DividedByNought (K : PySem.W.Frag) : Bool := decide (PySem.W.typeIn K (.ref (He.ma K (He.ga K "DividedByNought") "__init__")) = some (.type "function"))
def x_nv_DividedByNought (K : PySem.W.Frag) : Bool := He.eqO (PySem.W.findIn K (.ref (He.ga K "DividedByNought")) "value") (some none)
def x_cl_DividedByNought (K : PySem.W.Frag) : Bool := He.eqO (PySem.W.findIn K (.ref (He.ga K "DividedByNought")) "__class__") (some (some (.builtin "object.__class__")))
def x_mo_DividedByNought (K : PySem.W.Frag) : Bool := decide (PySem.W.mroIn K (He.ga K "DividedByNought") (.type "object") = some true)
def x_exm_InvalidRow_InvalidRow (K : PySem.W.Frag) : Bool := decide (PySem.W.exmOne K (.ref (He.ga K "InvalidRow")) (.ref (He.ga K "InvalidRow")) = some true)
def x_exm_InvalidRowList_InvalidRow (K : PySem.W.Frag) : Bool := decide (PySem.W.exmOne K (.ref (He.ga K "InvalidRowList")) (.ref (He.ga K "InvalidRow")) = some false)
def x_exm_InvalidRowList_InvalidRowList (K : PySem.W.Frag) : Bool := decide (PySem.W.exmOne K (.ref (He.ga K "InvalidRowList")) (.ref (He.ga K "InvalidRowList")) = some true)
def x_exm_DividedByNought_DividedByNought (K : PySem.W.Frag) : Bool := decide (PySem.W.exmOne K (.ref (He.ga K "DividedByNought")) (.ref (He.ga K "DividedByNought")) = some true)
def x_kit_InvalidRow (K : PySem.W.Frag) : Bool := decide (PySem.W.kitOne K (.ref (He.ga K "InvalidRow")) (.ref (He.ga K "CoreError")) = some true)
def x_kit_InvalidRowList (K : PySem.W.Frag) : Bool := decide (PySem.W.kitOne K (.ref (He.ga K "InvalidRowList")) (.ref (He.ga K "CoreError")) = some true)
def x_icl_Memory (K : PySem.W.Frag) : Bool := He.eqO (PySem.W.findIn K (.ref (He.ga K "Memory")) "__class__") (some (some (.builtin "object.__class__")))
def x_imo_Memory (K : PySem.W.Frag) : Bool := decide (PySem.W.mroIn K (He.ga K "Memory") (.type "object") = some true)
def x_iki_Memory (K : PySem.W.Frag) : Bool := decide (PySem.W.kitOne K (.ref (He.ga K "Memory")) (.ref (He.ga K "Memory")) = some true)
def x_icl_State (K : PySem.W.Frag) : Bool := He.eqO (PySem.W.findIn K (.ref (He.ga K "State")) "__class__") (some (some (.builtin "object.__class__")))
def x_imo_State (K : PySem.W.Frag) : Bool := decide (PySem.W.mroIn K (He.ga K "State") (.type "object") = some true)
def x_iki_State (K : PySem.W.Frag) : Bool := decide (PySem.W.kitOne K (.ref (He.ga K "State")) (.ref (He.ga K "State")) = some true)
def x_sget (K : PySem.W.Frag) : Bool := decide (PySem.W.specialIn K (.builtin "object.__class__") "__get__" = some (some (.builtin "getset_descriptor.__get__")))
def x_stak (K : PySem.W.Frag) : Bool := decide (PySem.W.takesIn K (.builtin "object.__class__") = some true)
def exs : List (PySem.W.Frag → Bool) := [x_vals_FORMS, x_vals_SHAPES, x_vals_SORTS, x_vals_WORTHS, x_vals_WAY_CAUSES, x_shape_three, x_shape_near, x_shape_byte, x_shape_far, x_shape_call, x_shape_control, x_shape_bare, x_tup_UNWRITTEN, x_tup_PLACES, x_tup_NUMBERED, x_oex_InvalidRow, x_sa_InvalidRow, x_xf_InvalidRow, x_ty_InvalidRow, x_kc_InvalidRow, x_in_InvalidRow, x_ti_InvalidRow, x_nv_InvalidRow, x_cl_InvalidRow, x_mo_InvalidRow, x_oex_InvalidRowList, x_sa_InvalidRowList, x_xf_InvalidRowList, x_ty_InvalidRowList, x_kc_InvalidRowList, x_in_InvalidRowList, x_ti_InvalidRowList, x_nv_InvalidRowList, x_cl_InvalidRowList, x_mo_InvalidRowList, x_oex_DividedByNought, x_sa_DividedByNought, x_xf_DividedByNought, x_ty_DividedByNought, x_kc_DividedByNought, x_in_DividedByNought, x_ti_DividedByNought, x_nv_DividedByNought, x_cl_DividedByNought, x_mo_DividedByNought, x_exm_InvalidRow_InvalidRow, x_exm_InvalidRowList_InvalidRow, x_exm_InvalidRowList_InvalidRowList, x_exm_DividedByNought_DividedByNought, x_kit_InvalidRow, x_kit_InvalidRowList, x_icl_Memory, x_imo_Memory, x_iki_Memory, x_icl_State, x_imo_State, x_iki_State, x_sget, x_stak]
def ex (K : PySem.W.Frag) : Bool := exs.all fun b => b K
def tf : List He.Defn := [("_law_right", none)]
/-- what the head tells of the written part K and the module's names mg -/
structure Hd (K : PySem.W.Frag) (w : World) (mg : Str → Option Value) : Prop where
  fact : ∀ (i : Nat) (f : He.Fa), fa[i]? = some f → f.ok K = true
  defs : ∀ (i : Nat) (d : He.DefD), fn[i]? = some d → ∃ fd, FunD K d.name d.qual d.params d.body d.scope (d.dvs K) (d.kws K) (He.fAd K d.at_) fd
  tab : ∀ (i : Nat) (t : He.Tab), ts[i]? = some t → He.dicW K (t.1 K) = some (He.keysIn w.params t.2)
  more : ∀ (i : Nat) (b : PySem.W.Frag → Bool), exs[i]? = some b → b K = true
  glo : ∀ x : Str, (He.Fa.glo x).ok K = true → mg x = some (.ref (He.ga K x))
  free : ∀ x : Str, (He.Fa.free x).ok K = true → mg x = none
  int : ∀ (x : Str) (i : Int), (He.Fa.int x i).ok K = true → ∃ t, mg x = some (.int i t)
namespace Hd
section
variable {K : PySem.W.Frag} {w : World} {mg : Str → Option Value}
theorem g_is_integer (T : Hd K w mg) : mg "is_integer" = some (.ref (He.ga K "is_integer")) := T.glo _ (T.fact 0 _ rfl)
theorem g_is_count (T : Hd K w mg) : mg "is_count" = some (.ref (He.ga K "is_count")) := T.glo _ (T.fact 1 _ rfl)
theorem g_is_list (T : Hd K w mg) : mg "is_list" = some (.ref (He.ga K "is_list")) := T.glo _ (T.fact 2 _ rfl)
theorem g_want_many (T : Hd K w mg) : mg "want_many" = some (.ref (He.ga K "want_many")) := T.glo _ (T.fact 3 _ rfl)
theorem g_is_word (T : Hd K w mg) : mg "is_word" = some (.ref (He.ga K "is_word")) := T.glo _ (T.fact 4 _ rfl)
theorem g_is_address (T : Hd K w mg) : mg "is_address" = some (.ref (He.ga K "is_address")) := T.glo _ (T.fact 5 _ rfl)
theorem g_is_place (T : Hd K w mg) : mg "is_place" = some (.ref (He.ga K "is_place")) := T.glo _ (T.fact 6 _ rfl)
theorem g_is_register (T : Hd K w mg) : mg "is_register" = some (.ref (He.ga K "is_register")) := T.glo _ (T.fact 7 _ rfl)
theorem g_want_word (T : Hd K w mg) : mg "want_word" = some (.ref (He.ga K "want_word")) := T.glo _ (T.fact 8 _ rfl)
theorem g_want_line (T : Hd K w mg) : mg "want_line" = some (.ref (He.ga K "want_line")) := T.glo _ (T.fact 9 _ rfl)
theorem g_two_words (T : Hd K w mg) : mg "two_words" = some (.ref (He.ga K "two_words")) := T.glo _ (T.fact 10 _ rfl)
theorem g_plus (T : Hd K w mg) : mg "plus" = some (.ref (He.ga K "plus")) := T.glo _ (T.fact 11 _ rfl)
theorem g_minus (T : Hd K w mg) : mg "minus" = some (.ref (He.ga K "minus")) := T.glo _ (T.fact 12 _ rfl)
theorem g_times (T : Hd K w mg) : mg "times" = some (.ref (He.ga K "times")) := T.glo _ (T.fact 13 _ rfl)
theorem g_over (T : Hd K w mg) : mg "over" = some (.ref (He.ga K "over")) := T.glo _ (T.fact 14 _ rfl)
theorem g_both (T : Hd K w mg) : mg "both" = some (.ref (He.ga K "both")) := T.glo _ (T.fact 15 _ rfl)
theorem g_either (T : Hd K w mg) : mg "either" = some (.ref (He.ga K "either")) := T.glo _ (T.fact 16 _ rfl)
theorem g_unlike (T : Hd K w mg) : mg "unlike" = some (.ref (He.ga K "unlike")) := T.glo _ (T.fact 17 _ rfl)
theorem g_shifted_up (T : Hd K w mg) : mg "shifted_up" = some (.ref (He.ga K "shifted_up")) := T.glo _ (T.fact 18 _ rfl)
theorem g_shifted_down (T : Hd K w mg) : mg "shifted_down" = some (.ref (He.ga K "shifted_down")) := T.glo _ (T.fact 19 _ rfl)
theorem g_sort_by_name (T : Hd K w mg) : mg "sort_by_name" = some (.ref (He.ga K "sort_by_name")) := T.glo _ (T.fact 20 _ rfl)
theorem g_number_by_name (T : Hd K w mg) : mg "number_by_name" = some (.ref (He.ga K "number_by_name")) := T.glo _ (T.fact 21 _ rfl)
theorem g_is_instruction_value (T : Hd K w mg) : mg "is_instruction_value" = some (.ref (He.ga K "is_instruction_value")) := T.glo _ (T.fact 22 _ rfl)
theorem g_want_instruction (T : Hd K w mg) : mg "want_instruction" = some (.ref (He.ga K "want_instruction")) := T.glo _ (T.fact 23 _ rfl)
theorem g_instruction_as_word (T : Hd K w mg) : mg "instruction_as_word" = some (.ref (He.ga K "instruction_as_word")) := T.glo _ (T.fact 24 _ rfl)
theorem g_word_as_instruction (T : Hd K w mg) : mg "word_as_instruction" = some (.ref (He.ga K "word_as_instruction")) := T.glo _ (T.fact 25 _ rfl)
theorem g_reads_by_form (T : Hd K w mg) : mg "reads_by_form" = some (.ref (He.ga K "reads_by_form")) := T.glo _ (T.fact 26 _ rfl)
theorem g_register_written (T : Hd K w mg) : mg "register_written" = some (.ref (He.ga K "register_written")) := T.glo _ (T.fact 27 _ rfl)
theorem g_number_as_word (T : Hd K w mg) : mg "number_as_word" = some (.ref (He.ga K "number_as_word")) := T.glo _ (T.fact 28 _ rfl)
theorem g_worth_by_name (T : Hd K w mg) : mg "worth_by_name" = some (.ref (He.ga K "worth_by_name")) := T.glo _ (T.fact 29 _ rfl)
theorem g_writes_of (T : Hd K w mg) : mg "writes_of" = some (.ref (He.ga K "writes_of")) := T.glo _ (T.fact 30 _ rfl)
theorem g_sort_of (T : Hd K w mg) : mg "sort_of" = some (.ref (He.ga K "sort_of")) := T.glo _ (T.fact 31 _ rfl)
theorem g_listing_text (T : Hd K w mg) : mg "listing_text" = some (.ref (He.ga K "listing_text")) := T.glo _ (T.fact 32 _ rfl)
theorem g_controls_at_first (T : Hd K w mg) : mg "controls_at_first" = some (.ref (He.ga K "controls_at_first")) := T.glo _ (T.fact 33 _ rfl)
theorem g_has_bit (T : Hd K w mg) : mg "has_bit" = some (.ref (He.ga K "has_bit")) := T.glo _ (T.fact 34 _ rfl)
theorem g_status_with (T : Hd K w mg) : mg "status_with" = some (.ref (He.ga K "status_with")) := T.glo _ (T.fact 35 _ rfl)
theorem g_controls_trapped (T : Hd K w mg) : mg "controls_trapped" = some (.ref (He.ga K "controls_trapped")) := T.glo _ (T.fact 36 _ rfl)
theorem g_controls_returned (T : Hd K w mg) : mg "controls_returned" = some (.ref (He.ga K "controls_returned")) := T.glo _ (T.fact 37 _ rfl)
theorem g_is_memory_place (T : Hd K w mg) : mg "is_memory_place" = some (.ref (He.ga K "is_memory_place")) := T.glo _ (T.fact 38 _ rfl)
theorem g_want_memory_place (T : Hd K w mg) : mg "want_memory_place" = some (.ref (He.ga K "want_memory_place")) := T.glo _ (T.fact 39 _ rfl)
theorem g_is_memory_part (T : Hd K w mg) : mg "is_memory_part" = some (.ref (He.ga K "is_memory_part")) := T.glo _ (T.fact 40 _ rfl)
theorem g_are_parts (T : Hd K w mg) : mg "are_parts" = some (.ref (He.ga K "are_parts")) := T.glo _ (T.fact 41 _ rfl)
theorem g_memory_of (T : Hd K w mg) : mg "memory_of" = some (.ref (He.ga K "memory_of")) := T.glo _ (T.fact 42 _ rfl)
theorem g_is_there (T : Hd K w mg) : mg "is_there" = some (.ref (He.ga K "is_there")) := T.glo _ (T.fact 43 _ rfl)
theorem g_flags_of (T : Hd K w mg) : mg "flags_of" = some (.ref (He.ga K "flags_of")) := T.glo _ (T.fact 44 _ rfl)
theorem g_frame_of (T : Hd K w mg) : mg "frame_of" = some (.ref (He.ga K "frame_of")) := T.glo _ (T.fact 45 _ rfl)
theorem g_by_word (T : Hd K w mg) : mg "by_word" = some (.ref (He.ga K "by_word")) := T.glo _ (T.fact 46 _ rfl)
theorem g_first_place (T : Hd K w mg) : mg "first_place" = some (.ref (He.ga K "first_place")) := T.glo _ (T.fact 47 _ rfl)
theorem g_second_place (T : Hd K w mg) : mg "second_place" = some (.ref (He.ga K "second_place")) := T.glo _ (T.fact 48 _ rfl)
theorem g_translated_by (T : Hd K w mg) : mg "translated_by" = some (.ref (He.ga K "translated_by")) := T.glo _ (T.fact 49 _ rfl)
theorem g_straight_by (T : Hd K w mg) : mg "straight_by" = some (.ref (He.ga K "straight_by")) := T.glo _ (T.fact 50 _ rfl)
theorem g_is_device_there (T : Hd K w mg) : mg "is_device_there" = some (.ref (He.ga K "is_device_there")) := T.glo _ (T.fact 51 _ rfl)
theorem g_want_inputs (T : Hd K w mg) : mg "want_inputs" = some (.ref (He.ga K "want_inputs")) := T.glo _ (T.fact 52 _ rfl)
theorem g_want_state (T : Hd K w mg) : mg "want_state" = some (.ref (He.ga K "want_state")) := T.glo _ (T.fact 53 _ rfl)
theorem g_next_address (T : Hd K w mg) : mg "next_address" = some (.ref (He.ga K "next_address")) := T.glo _ (T.fact 54 _ rfl)
theorem g_reached_address (T : Hd K w mg) : mg "reached_address" = some (.ref (He.ga K "reached_address")) := T.glo _ (T.fact 55 _ rfl)
theorem g_sum_worth (T : Hd K w mg) : mg "sum_worth" = some (.ref (He.ga K "sum_worth")) := T.glo _ (T.fact 56 _ rfl)
theorem g_worked_out (T : Hd K w mg) : mg "worked_out" = some (.ref (He.ga K "worked_out")) := T.glo _ (T.fact 57 _ rfl)
theorem g_trap_on (T : Hd K w mg) : mg "trap_on" = some (.ref (He.ga K "trap_on")) := T.glo _ (T.fact 58 _ rfl)
theorem g_lone_on (T : Hd K w mg) : mg "lone_on" = some (.ref (He.ga K "lone_on")) := T.glo _ (T.fact 59 _ rfl)
theorem g_looked_up (T : Hd K w mg) : mg "looked_up" = some (.ref (He.ga K "looked_up")) := T.glo _ (T.fact 60 _ rfl)
theorem g_data_place (T : Hd K w mg) : mg "data_place" = some (.ref (He.ga K "data_place")) := T.glo _ (T.fact 61 _ rfl)
theorem g_trap_row (T : Hd K w mg) : mg "trap_row" = some (.ref (He.ga K "trap_row")) := T.glo _ (T.fact 62 _ rfl)
theorem g_interrupt_row (T : Hd K w mg) : mg "interrupt_row" = some (.ref (He.ga K "interrupt_row")) := T.glo _ (T.fact 63 _ rfl)
theorem g_load_row (T : Hd K w mg) : mg "load_row" = some (.ref (He.ga K "load_row")) := T.glo _ (T.fact 64 _ rfl)
theorem g_store_row (T : Hd K w mg) : mg "store_row" = some (.ref (He.ga K "store_row")) := T.glo _ (T.fact 65 _ rfl)
theorem g_lone_row (T : Hd K w mg) : mg "lone_row" = some (.ref (He.ga K "lone_row")) := T.glo _ (T.fact 66 _ rfl)
theorem g_plain_row (T : Hd K w mg) : mg "plain_row" = some (.ref (He.ga K "plain_row")) := T.glo _ (T.fact 67 _ rfl)
theorem g_fetched_row (T : Hd K w mg) : mg "fetched_row" = some (.ref (He.ga K "fetched_row")) := T.glo _ (T.fact 68 _ rfl)
theorem g_done_step (T : Hd K w mg) : mg "done_step" = some (.ref (He.ga K "done_step")) := T.glo _ (T.fact 69 _ rfl)
theorem g_is_raise (T : Hd K w mg) : mg "is_raise" = some (.ref (He.ga K "is_raise")) := T.glo _ (T.fact 70 _ rfl)
theorem g_want_raised (T : Hd K w mg) : mg "want_raised" = some (.ref (He.ga K "want_raised")) := T.glo _ (T.fact 71 _ rfl)
theorem g_steps (T : Hd K w mg) : mg "steps" = some (.ref (He.ga K "steps")) := T.glo _ (T.fact 72 _ rfl)
theorem g_is_pair (T : Hd K w mg) : mg "is_pair" = some (.ref (He.ga K "is_pair")) := T.glo _ (T.fact 73 _ rfl)
theorem g_is_row_value (T : Hd K w mg) : mg "is_row_value" = some (.ref (He.ga K "is_row_value")) := T.glo _ (T.fact 74 _ rfl)
theorem g_is_row (T : Hd K w mg) : mg "is_row" = some (.ref (He.ga K "is_row")) := T.glo _ (T.fact 75 _ rfl)
theorem g_traced_word (T : Hd K w mg) : mg "traced_word" = some (.ref (He.ga K "traced_word")) := T.glo _ (T.fact 76 _ rfl)
theorem g_traced_row (T : Hd K w mg) : mg "traced_row" = some (.ref (He.ga K "traced_row")) := T.glo _ (T.fact 77 _ rfl)
theorem g_traced (T : Hd K w mg) : mg "traced" = some (.ref (He.ga K "traced")) := T.glo _ (T.fact 78 _ rfl)
theorem g_trace (T : Hd K w mg) : mg "trace" = some (.ref (He.ga K "trace")) := T.glo _ (T.fact 79 _ rfl)
theorem g_law_pot (T : Hd K w mg) : mg "_law_pot" = some (.ref (He.ga K "_law_pot")) := T.glo _ (T.fact 80 _ rfl)
theorem g_law_draw (T : Hd K w mg) : mg "_law_draw" = some (.ref (He.ga K "_law_draw")) := T.glo _ (T.fact 81 _ rfl)
theorem g_law_pick (T : Hd K w mg) : mg "_law_pick" = some (.ref (He.ga K "_law_pick")) := T.glo _ (T.fact 82 _ rfl)
theorem g_law_names (T : Hd K w mg) : mg "_law_names" = some (.ref (He.ga K "_law_names")) := T.glo _ (T.fact 83 _ rfl)
theorem g_law_instruction (T : Hd K w mg) : mg "_law_instruction" = some (.ref (He.ga K "_law_instruction")) := T.glo _ (T.fact 84 _ rfl)
theorem g_law_word (T : Hd K w mg) : mg "_law_word" = some (.ref (He.ga K "_law_word")) := T.glo _ (T.fact 85 _ rfl)
theorem g_law_said (T : Hd K w mg) : mg "_law_said" = some (.ref (He.ga K "_law_said")) := T.glo _ (T.fact 86 _ rfl)
theorem g_law_listed (T : Hd K w mg) : mg "_law_listed" = some (.ref (He.ga K "_law_listed")) := T.glo _ (T.fact 87 _ rfl)
theorem g_law_row (T : Hd K w mg) : mg "_law_row" = some (.ref (He.ga K "_law_row")) := T.glo _ (T.fact 88 _ rfl)
theorem g_law_due (T : Hd K w mg) : mg "_law_due" = some (.ref (He.ga K "_law_due")) := T.glo _ (T.fact 89 _ rfl)
theorem g_law_is_below (T : Hd K w mg) : mg "_law_is_below" = some (.ref (He.ga K "_law_is_below")) := T.glo _ (T.fact 90 _ rfl)
theorem g_law_is_row (T : Hd K w mg) : mg "_law_is_row" = some (.ref (He.ga K "_law_is_row")) := T.glo _ (T.fact 91 _ rfl)
theorem g_law_bent (T : Hd K w mg) : mg "_law_bent" = some (.ref (He.ga K "_law_bent")) := T.glo _ (T.fact 92 _ rfl)
theorem g_law_heard (T : Hd K w mg) : mg "_law_heard" = some (.ref (He.ga K "_law_heard")) := T.glo _ (T.fact 93 _ rfl)
theorem g_law_ran (T : Hd K w mg) : mg "_law_ran" = some (.ref (He.ga K "_law_ran")) := T.glo _ (T.fact 94 _ rfl)
theorem g_law_right (T : Hd K w mg) : mg "_law_right" = some (.ref (He.ga K "_law_right")) := T.glo _ (T.fact 95 _ rfl)
theorem g_law (T : Hd K w mg) : mg "law" = some (.ref (He.ga K "law")) := T.glo _ (T.fact 96 _ rfl)
theorem g_CoreError (T : Hd K w mg) : mg "CoreError" = some (.ref (He.ga K "CoreError")) := T.glo _ (T.fact 97 _ rfl)
theorem g_StateError (T : Hd K w mg) : mg "StateError" = some (.ref (He.ga K "StateError")) := T.glo _ (T.fact 98 _ rfl)
theorem g_InvalidWord (T : Hd K w mg) : mg "InvalidWord" = some (.ref (He.ga K "InvalidWord")) := T.glo _ (T.fact 99 _ rfl)
theorem g_InvalidPlace (T : Hd K w mg) : mg "InvalidPlace" = some (.ref (He.ga K "InvalidPlace")) := T.glo _ (T.fact 100 _ rfl)
theorem g_InvalidLine (T : Hd K w mg) : mg "InvalidLine" = some (.ref (He.ga K "InvalidLine")) := T.glo _ (T.fact 101 _ rfl)
theorem g_InvalidInstruction (T : Hd K w mg) : mg "InvalidInstruction" = some (.ref (He.ga K "InvalidInstruction")) := T.glo _ (T.fact 102 _ rfl)
theorem g_InvalidMemory (T : Hd K w mg) : mg "InvalidMemory" = some (.ref (He.ga K "InvalidMemory")) := T.glo _ (T.fact 103 _ rfl)
theorem g_InvalidInputs (T : Hd K w mg) : mg "InvalidInputs" = some (.ref (He.ga K "InvalidInputs")) := T.glo _ (T.fact 104 _ rfl)
theorem g_InvalidState (T : Hd K w mg) : mg "InvalidState" = some (.ref (He.ga K "InvalidState")) := T.glo _ (T.fact 105 _ rfl)
theorem g_InvalidMany (T : Hd K w mg) : mg "InvalidMany" = some (.ref (He.ga K "InvalidMany")) := T.glo _ (T.fact 106 _ rfl)
theorem g_DividedByNought (T : Hd K w mg) : mg "DividedByNought" = some (.ref (He.ga K "DividedByNought")) := T.glo _ (T.fact 107 _ rfl)
theorem g_InvalidParts (T : Hd K w mg) : mg "InvalidParts" = some (.ref (He.ga K "InvalidParts")) := T.glo _ (T.fact 108 _ rfl)
theorem g_InvalidRaised (T : Hd K w mg) : mg "InvalidRaised" = some (.ref (He.ga K "InvalidRaised")) := T.glo _ (T.fact 109 _ rfl)
theorem g_InvalidRow (T : Hd K w mg) : mg "InvalidRow" = some (.ref (He.ga K "InvalidRow")) := T.glo _ (T.fact 110 _ rfl)
theorem g_InvalidRowList (T : Hd K w mg) : mg "InvalidRowList" = some (.ref (He.ga K "InvalidRowList")) := T.glo _ (T.fact 111 _ rfl)
theorem g_NotRaised (T : Hd K w mg) : mg "NotRaised" = some (.ref (He.ga K "NotRaised")) := T.glo _ (T.fact 112 _ rfl)
theorem g_Memory (T : Hd K w mg) : mg "Memory" = some (.ref (He.ga K "Memory")) := T.glo _ (T.fact 113 _ rfl)
theorem g_Devices (T : Hd K w mg) : mg "Devices" = some (.ref (He.ga K "Devices")) := T.glo _ (T.fact 114 _ rfl)
theorem g_State (T : Hd K w mg) : mg "State" = some (.ref (He.ga K "State")) := T.glo _ (T.fact 115 _ rfl)
theorem g_FORMS (T : Hd K w mg) : mg "FORMS" = some (.ref (He.ga K "FORMS")) := T.glo _ (T.fact 116 _ rfl)
theorem g_SHAPES (T : Hd K w mg) : mg "SHAPES" = some (.ref (He.ga K "SHAPES")) := T.glo _ (T.fact 117 _ rfl)
theorem g_SORTS (T : Hd K w mg) : mg "SORTS" = some (.ref (He.ga K "SORTS")) := T.glo _ (T.fact 118 _ rfl)
theorem g_WORTHS (T : Hd K w mg) : mg "WORTHS" = some (.ref (He.ga K "WORTHS")) := T.glo _ (T.fact 119 _ rfl)
theorem g_WAY_CAUSES (T : Hd K w mg) : mg "WAY_CAUSES" = some (.ref (He.ga K "WAY_CAUSES")) := T.glo _ (T.fact 120 _ rfl)
theorem g_UNWRITTEN (T : Hd K w mg) : mg "UNWRITTEN" = some (.ref (He.ga K "UNWRITTEN")) := T.glo _ (T.fact 121 _ rfl)
theorem g_PLACES (T : Hd K w mg) : mg "PLACES" = some (.ref (He.ga K "PLACES")) := T.glo _ (T.fact 122 _ rfl)
theorem g_NUMBERED (T : Hd K w mg) : mg "NUMBERED" = some (.ref (He.ga K "NUMBERED")) := T.glo _ (T.fact 123 _ rfl)
theorem b_RuntimeError (T : Hd K w mg) : mg "RuntimeError" = none := T.free _ (T.fact 124 _ rfl)
theorem b_ValueError (T : Hd K w mg) : mg "ValueError" = none := T.free _ (T.fact 125 _ rfl)
theorem b_abs (T : Hd K w mg) : mg "abs" = none := T.free _ (T.fact 126 _ rfl)
theorem b_all (T : Hd K w mg) : mg "all" = none := T.free _ (T.fact 127 _ rfl)
theorem b_bool (T : Hd K w mg) : mg "bool" = none := T.free _ (T.fact 128 _ rfl)
theorem b_divmod (T : Hd K w mg) : mg "divmod" = none := T.free _ (T.fact 129 _ rfl)
theorem b_enumerate (T : Hd K w mg) : mg "enumerate" = none := T.free _ (T.fact 130 _ rfl)
theorem b_int (T : Hd K w mg) : mg "int" = none := T.free _ (T.fact 131 _ rfl)
theorem b_isinstance (T : Hd K w mg) : mg "isinstance" = none := T.free _ (T.fact 132 _ rfl)
theorem b_len (T : Hd K w mg) : mg "len" = none := T.free _ (T.fact 133 _ rfl)
theorem b_list (T : Hd K w mg) : mg "list" = none := T.free _ (T.fact 134 _ rfl)
theorem b_max (T : Hd K w mg) : mg "max" = none := T.free _ (T.fact 135 _ rfl)
theorem b_property (T : Hd K w mg) : mg "property" = none := T.free _ (T.fact 136 _ rfl)
theorem b_range (T : Hd K w mg) : mg "range" = none := T.free _ (T.fact 137 _ rfl)
theorem b_repr (T : Hd K w mg) : mg "repr" = none := T.free _ (T.fact 138 _ rfl)
theorem b_str (T : Hd K w mg) : mg "str" = none := T.free _ (T.fact 139 _ rfl)
theorem b_sum (T : Hd K w mg) : mg "sum" = none := T.free _ (T.fact 140 _ rfl)
theorem b_tuple (T : Hd K w mg) : mg "tuple" = none := T.free _ (T.fact 141 _ rfl)
theorem b_zip (T : Hd K w mg) : mg "zip" = none := T.free _ (T.fact 142 _ rfl)
theorem n_MOST_WORD (T : Hd K w mg) : ∃ t, mg "MOST_WORD" = some (.int (65536) t) := T.int _ _ (T.fact 143 _ rfl)
theorem n_MOST_ADDRESS (T : Hd K w mg) : ∃ t, mg "MOST_ADDRESS" = some (.int (4096) t) := T.int _ _ (T.fact 144 _ rfl)
theorem n_MOST_PLACE (T : Hd K w mg) : ∃ t, mg "MOST_PLACE" = some (.int (1024) t) := T.int _ _ (T.fact 145 _ rfl)
theorem n_MEMORY_END (T : Hd K w mg) : ∃ t, mg "MEMORY_END" = some (.int (960) t) := T.int _ _ (T.fact 146 _ rfl)
theorem n_REGISTERS (T : Hd K w mg) : ∃ t, mg "REGISTERS" = some (.int (8) t) := T.int _ _ (T.fact 147 _ rfl)
theorem n_LINES (T : Hd K w mg) : ∃ t, mg "LINES" = some (.int (4) t) := T.int _ _ (T.fact 148 _ rfl)
theorem n_BITS (T : Hd K w mg) : ∃ t, mg "BITS" = some (.int (16) t) := T.int _ _ (T.fact 149 _ rfl)
theorem n_OPERATION_BIT (T : Hd K w mg) : ∃ t, mg "OPERATION_BIT" = some (.int (11) t) := T.int _ _ (T.fact 150 _ rfl)
theorem n_MOST_REGISTER (T : Hd K w mg) : ∃ t, mg "MOST_REGISTER" = some (.int (7) t) := T.int _ _ (T.fact 151 _ rfl)
theorem n_CONTROL_STATUS (T : Hd K w mg) : ∃ t, mg "CONTROL_STATUS" = some (.int (0) t) := T.int _ _ (T.fact 152 _ rfl)
theorem n_CONTROL_CAUSE (T : Hd K w mg) : ∃ t, mg "CONTROL_CAUSE" = some (.int (1) t) := T.int _ _ (T.fact 153 _ rfl)
theorem n_CONTROL_HOME (T : Hd K w mg) : ∃ t, mg "CONTROL_HOME" = some (.int (2) t) := T.int _ _ (T.fact 154 _ rfl)
theorem n_CONTROL_BAD (T : Hd K w mg) : ∃ t, mg "CONTROL_BAD" = some (.int (3) t) := T.int _ _ (T.fact 155 _ rfl)
theorem n_CONTROL_ENTRY (T : Hd K w mg) : ∃ t, mg "CONTROL_ENTRY" = some (.int (4) t) := T.int _ _ (T.fact 156 _ rfl)
theorem n_CONTROL_ROOT (T : Hd K w mg) : ∃ t, mg "CONTROL_ROOT" = some (.int (5) t) := T.int _ _ (T.fact 157 _ rfl)
theorem n_CONTROL_MASK (T : Hd K w mg) : ∃ t, mg "CONTROL_MASK" = some (.int (6) t) := T.int _ _ (T.fact 158 _ rfl)
theorem n_MANY_CONTROLS (T : Hd K w mg) : ∃ t, mg "MANY_CONTROLS" = some (.int (8) t) := T.int _ _ (T.fact 159 _ rfl)
theorem n_BIT_SUPERVISOR (T : Hd K w mg) : ∃ t, mg "BIT_SUPERVISOR" = some (.int (1) t) := T.int _ _ (T.fact 160 _ rfl)
theorem n_BIT_ON (T : Hd K w mg) : ∃ t, mg "BIT_ON" = some (.int (2) t) := T.int _ _ (T.fact 161 _ rfl)
theorem n_BIT_OLD_SUPERVISOR (T : Hd K w mg) : ∃ t, mg "BIT_OLD_SUPERVISOR" = some (.int (4) t) := T.int _ _ (T.fact 162 _ rfl)
theorem n_BIT_OLD_ON (T : Hd K w mg) : ∃ t, mg "BIT_OLD_ON" = some (.int (8) t) := T.int _ _ (T.fact 163 _ rfl)
theorem n_BIT_PAGED (T : Hd K w mg) : ∃ t, mg "BIT_PAGED" = some (.int (16) t) := T.int _ _ (T.fact 164 _ rfl)
theorem n_MANY_FRAMES (T : Hd K w mg) : ∃ t, mg "MANY_FRAMES" = some (.int (64) t) := T.int _ _ (T.fact 165 _ rfl)
theorem n_PAGE_SIZE (T : Hd K w mg) : ∃ t, mg "PAGE_SIZE" = some (.int (16) t) := T.int _ _ (T.fact 166 _ rfl)
theorem n_MOST_FRAME (T : Hd K w mg) : ∃ t, mg "MOST_FRAME" = some (.int (64) t) := T.int _ _ (T.fact 167 _ rfl)
theorem n_THERE (T : Hd K w mg) : ∃ t, mg "THERE" = some (.int (32768) t) := T.int _ _ (T.fact 168 _ rfl)
theorem n_WRITTEN (T : Hd K w mg) : ∃ t, mg "WRITTEN" = some (.int (16384) t) := T.int _ _ (T.fact 169 _ rfl)
theorem n_USERS (T : Hd K w mg) : ∃ t, mg "USERS" = some (.int (8192) t) := T.int _ _ (T.fact 170 _ rfl)
theorem n_NO_PLACE (T : Hd K w mg) : ∃ t, mg "NO_PLACE" = some (.int (7) t) := T.int _ _ (T.fact 171 _ rfl)
theorem n_MOST_INPUTS (T : Hd K w mg) : ∃ t, mg "MOST_INPUTS" = some (.int (40) t) := T.int _ _ (T.fact 172 _ rfl)
theorem n_DEVICE_INPUT (T : Hd K w mg) : ∃ t, mg "DEVICE_INPUT" = some (.int (960) t) := T.int _ _ (T.fact 173 _ rfl)
theorem n_DEVICE_LEFT (T : Hd K w mg) : ∃ t, mg "DEVICE_LEFT" = some (.int (961) t) := T.int _ _ (T.fact 174 _ rfl)
theorem n_DEVICE_STEPS (T : Hd K w mg) : ∃ t, mg "DEVICE_STEPS" = some (.int (976) t) := T.int _ _ (T.fact 175 _ rfl)
theorem n_DEVICE_TIMER (T : Hd K w mg) : ∃ t, mg "DEVICE_TIMER" = some (.int (977) t) := T.int _ _ (T.fact 176 _ rfl)
theorem n_MANY_REGISTERS (T : Hd K w mg) : ∃ t, mg "MANY_REGISTERS" = some (.int (8) t) := T.int _ _ (T.fact 177 _ rfl)
theorem n_MOST_STEPS (T : Hd K w mg) : ∃ t, mg "MOST_STEPS" = some (.int (100000) t) := T.int _ _ (T.fact 178 _ rfl)
theorem n_MOST_RAISED (T : Hd K w mg) : ∃ t, mg "MOST_RAISED" = some (.int (60) t) := T.int _ _ (T.fact 179 _ rfl)
theorem n_MANY_LINES (T : Hd K w mg) : ∃ t, mg "MANY_LINES" = some (.int (4) t) := T.int _ _ (T.fact 180 _ rfl)
theorem n_CAUSE_BAD_WORD (T : Hd K w mg) : ∃ t, mg "CAUSE_BAD_WORD" = some (.int (1) t) := T.int _ _ (T.fact 181 _ rfl)
theorem n_CAUSE_NOT_LET (T : Hd K w mg) : ∃ t, mg "CAUSE_NOT_LET" = some (.int (2) t) := T.int _ _ (T.fact 182 _ rfl)
theorem n_CAUSE_OVER (T : Hd K w mg) : ∃ t, mg "CAUSE_OVER" = some (.int (3) t) := T.int _ _ (T.fact 183 _ rfl)
theorem n_CAUSE_NO_PLACE (T : Hd K w mg) : ∃ t, mg "CAUSE_NO_PLACE" = some (.int (7) t) := T.int _ _ (T.fact 184 _ rfl)
theorem n_CAUSE_SYSTEM (T : Hd K w mg) : ∃ t, mg "CAUSE_SYSTEM" = some (.int (8) t) := T.int _ _ (T.fact 185 _ rfl)
theorem n_CAUSE_LINE (T : Hd K w mg) : ∃ t, mg "CAUSE_LINE" = some (.int (16) t) := T.int _ _ (T.fact 186 _ rfl)
theorem n_ROW_PARTS (T : Hd K w mg) : ∃ t, mg "ROW_PARTS" = some (.int (7) t) := T.int _ _ (T.fact 187 _ rfl)
theorem n_CAUSES (T : Hd K w mg) : ∃ t, mg "CAUSES" = some (.int (32) t) := T.int _ _ (T.fact 188 _ rfl)
theorem n_FIRST_INTERRUPT (T : Hd K w mg) : ∃ t, mg "FIRST_INTERRUPT" = some (.int (16) t) := T.int _ _ (T.fact 189 _ rfl)
theorem c_Memory (T : Hd K w mg) : Cls K (He.ga K "Memory") := He.cls_ok (T.fact 190 _ rfl)
theorem k_Memory (T : Hd K w mg) : Mk K (He.ga K "Memory") (He.ma K (He.ga K "Memory") "__init__") := He.mkr_ok (T.fact 191 _ rfl)
theorem a_Memory_own_words (T : Hd K w mg) : NoAttr K (He.ga K "Memory") "own_words" := He.noat_ok (T.fact 192 _ rfl)
theorem c_Devices (T : Hd K w mg) : Cls K (He.ga K "Devices") := He.cls_ok (T.fact 193 _ rfl)
theorem k_Devices (T : Hd K w mg) : Mk K (He.ga K "Devices") (He.ma K (He.ga K "Devices") "__init__") := He.mkr_ok (T.fact 194 _ rfl)
theorem a_Devices_own_inputs (T : Hd K w mg) : NoAttr K (He.ga K "Devices") "own_inputs" := He.noat_ok (T.fact 195 _ rfl)
theorem a_Devices_own_taken (T : Hd K w mg) : NoAttr K (He.ga K "Devices") "own_taken" := He.noat_ok (T.fact 196 _ rfl)
theorem a_Devices_own_outputs (T : Hd K w mg) : NoAttr K (He.ga K "Devices") "own_outputs" := He.noat_ok (T.fact 197 _ rfl)
theorem a_Devices_own_steps (T : Hd K w mg) : NoAttr K (He.ga K "Devices") "own_steps" := He.noat_ok (T.fact 198 _ rfl)
theorem a_Devices_own_timer (T : Hd K w mg) : NoAttr K (He.ga K "Devices") "own_timer" := He.noat_ok (T.fact 199 _ rfl)
theorem a_Devices_own_lines (T : Hd K w mg) : NoAttr K (He.ga K "Devices") "own_lines" := He.noat_ok (T.fact 200 _ rfl)
theorem c_State (T : Hd K w mg) : Cls K (He.ga K "State") := He.cls_ok (T.fact 201 _ rfl)
theorem k_State (T : Hd K w mg) : Mk K (He.ga K "State") (He.ma K (He.ga K "State") "__init__") := He.mkr_ok (T.fact 202 _ rfl)
theorem a_State_own_devices (T : Hd K w mg) : NoAttr K (He.ga K "State") "own_devices" := He.noat_ok (T.fact 203 _ rfl)
theorem a_State_own_memory (T : Hd K w mg) : NoAttr K (He.ga K "State") "own_memory" := He.noat_ok (T.fact 204 _ rfl)
theorem a_State_own_registers (T : Hd K w mg) : NoAttr K (He.ga K "State") "own_registers" := He.noat_ok (T.fact 205 _ rfl)
theorem a_State_own_controls (T : Hd K w mg) : NoAttr K (He.ga K "State") "own_controls" := He.noat_ok (T.fact 206 _ rfl)
theorem a_State_own_address (T : Hd K w mg) : NoAttr K (He.ga K "State") "own_address" := He.noat_ok (T.fact 207 _ rfl)
theorem a_State_own_halted (T : Hd K w mg) : NoAttr K (He.ga K "State") "own_halted" := He.noat_ok (T.fact 208 _ rfl)
theorem a_State_own_done (T : Hd K w mg) : NoAttr K (He.ga K "State") "own_done" := He.noat_ok (T.fact 209 _ rfl)
theorem m_Memory_word (T : Hd K w mg) : Meth K (He.ga K "Memory") "word" (He.ma K (He.ga K "Memory") "word") := He.meth_ok (T.fact 210 _ rfl)
theorem m_Memory_copy (T : Hd K w mg) : Meth K (He.ga K "Memory") "copy" (He.ma K (He.ga K "Memory") "copy") := He.meth_ok (T.fact 211 _ rfl)
theorem m_Devices_can (T : Hd K w mg) : Meth K (He.ga K "Devices") "can" (He.ma K (He.ga K "Devices") "can") := He.meth_ok (T.fact 212 _ rfl)
theorem m_Devices_device_read (T : Hd K w mg) : Meth K (He.ga K "Devices") "device_read" (He.ma K (He.ga K "Devices") "device_read") := He.meth_ok (T.fact 213 _ rfl)
theorem m_Devices_device_write (T : Hd K w mg) : Meth K (He.ga K "Devices") "device_write" (He.ma K (He.ga K "Devices") "device_write") := He.meth_ok (T.fact 214 _ rfl)
theorem m_Devices_raised (T : Hd K w mg) : Meth K (He.ga K "Devices") "raised" (He.ma K (He.ga K "Devices") "raised") := He.meth_ok (T.fact 215 _ rfl)
theorem m_Devices_counted (T : Hd K w mg) : Meth K (He.ga K "Devices") "counted" (He.ma K (He.ga K "Devices") "counted") := He.meth_ok (T.fact 216 _ rfl)
theorem m_Devices_due (T : Hd K w mg) : Meth K (He.ga K "Devices") "due" (He.ma K (He.ga K "Devices") "due") := He.meth_ok (T.fact 217 _ rfl)
theorem m_Devices_lowered (T : Hd K w mg) : Meth K (He.ga K "Devices") "lowered" (He.ma K (He.ga K "Devices") "lowered") := He.meth_ok (T.fact 218 _ rfl)
theorem f_is_integer (T : Hd K w mg) : ∃ fd, FunD K "is_integer" "is_integer" (defArgs s_is_integer) (defBody s_is_integer) (defScope s_is_integer) [] [] (He.ga K "is_integer") fd := T.defs 0 d_is_integer rfl
theorem f_is_count (T : Hd K w mg) : ∃ fd, FunD K "is_count" "is_count" (defArgs s_is_count) (defBody s_is_count) (defScope s_is_count) [] [] (He.ga K "is_count") fd := T.defs 1 d_is_count rfl
theorem f_is_list (T : Hd K w mg) : ∃ fd, FunD K "is_list" "is_list" (defArgs s_is_list) (defBody s_is_list) (defScope s_is_list) [] [] (He.ga K "is_list") fd := T.defs 2 d_is_list rfl
theorem f_want_many (T : Hd K w mg) : ∃ fd, FunD K "want_many" "want_many" (defArgs s_want_many) (defBody s_want_many) (defScope s_want_many) [] [] (He.ga K "want_many") fd := T.defs 3 d_want_many rfl
theorem f_is_word (T : Hd K w mg) : ∃ fd, FunD K "is_word" "is_word" (defArgs s_is_word) (defBody s_is_word) (defScope s_is_word) [] [] (He.ga K "is_word") fd := T.defs 4 d_is_word rfl
theorem f_is_address (T : Hd K w mg) : ∃ fd, FunD K "is_address" "is_address" (defArgs s_is_address) (defBody s_is_address) (defScope s_is_address) [] [] (He.ga K "is_address") fd := T.defs 5 d_is_address rfl
theorem f_is_place (T : Hd K w mg) : ∃ fd, FunD K "is_place" "is_place" (defArgs s_is_place) (defBody s_is_place) (defScope s_is_place) [] [] (He.ga K "is_place") fd := T.defs 6 d_is_place rfl
theorem f_is_register (T : Hd K w mg) : ∃ fd, FunD K "is_register" "is_register" (defArgs s_is_register) (defBody s_is_register) (defScope s_is_register) [] [] (He.ga K "is_register") fd := T.defs 7 d_is_register rfl
theorem f_want_word (T : Hd K w mg) : ∃ fd, FunD K "want_word" "want_word" (defArgs s_want_word) (defBody s_want_word) (defScope s_want_word) [] [] (He.ga K "want_word") fd := T.defs 8 d_want_word rfl
theorem f_want_line (T : Hd K w mg) : ∃ fd, FunD K "want_line" "want_line" (defArgs s_want_line) (defBody s_want_line) (defScope s_want_line) [] [] (He.ga K "want_line") fd := T.defs 9 d_want_line rfl
theorem f_two_words (T : Hd K w mg) : ∃ fd, FunD K "two_words" "two_words" (defArgs s_two_words) (defBody s_two_words) (defScope s_two_words) [] [] (He.ga K "two_words") fd := T.defs 10 d_two_words rfl
theorem f_plus (T : Hd K w mg) : ∃ fd, FunD K "plus" "plus" (defArgs s_plus) (defBody s_plus) (defScope s_plus) [] [] (He.ga K "plus") fd := T.defs 11 d_plus rfl
theorem f_minus (T : Hd K w mg) : ∃ fd, FunD K "minus" "minus" (defArgs s_minus) (defBody s_minus) (defScope s_minus) [] [] (He.ga K "minus") fd := T.defs 12 d_minus rfl
theorem f_times (T : Hd K w mg) : ∃ fd, FunD K "times" "times" (defArgs s_times) (defBody s_times) (defScope s_times) [] [] (He.ga K "times") fd := T.defs 13 d_times rfl
theorem f_over (T : Hd K w mg) : ∃ fd, FunD K "over" "over" (defArgs s_over) (defBody s_over) (defScope s_over) [] [] (He.ga K "over") fd := T.defs 14 d_over rfl
theorem f_both (T : Hd K w mg) : ∃ fd, FunD K "both" "both" (defArgs s_both) (defBody s_both) (defScope s_both) [] [] (He.ga K "both") fd := T.defs 15 d_both rfl
theorem f_either (T : Hd K w mg) : ∃ fd, FunD K "either" "either" (defArgs s_either) (defBody s_either) (defScope s_either) [] [] (He.ga K "either") fd := T.defs 16 d_either rfl
theorem f_unlike (T : Hd K w mg) : ∃ fd, FunD K "unlike" "unlike" (defArgs s_unlike) (defBody s_unlike) (defScope s_unlike) [] [] (He.ga K "unlike") fd := T.defs 17 d_unlike rfl
theorem f_shifted_up (T : Hd K w mg) : ∃ fd, FunD K "shifted_up" "shifted_up" (defArgs s_shifted_up) (defBody s_shifted_up) (defScope s_shifted_up) [] [] (He.ga K "shifted_up") fd := T.defs 18 d_shifted_up rfl
theorem f_shifted_down (T : Hd K w mg) : ∃ fd, FunD K "shifted_down" "shifted_down" (defArgs s_shifted_down) (defBody s_shifted_down) (defScope s_shifted_down) [] [] (He.ga K "shifted_down") fd := T.defs 19 d_shifted_down rfl
theorem f_sort_by_name (T : Hd K w mg) : ∃ fd, FunD K "sort_by_name" "sort_by_name" (defArgs s_sort_by_name) (defBody s_sort_by_name) (defScope s_sort_by_name) [] [] (He.ga K "sort_by_name") fd := T.defs 20 d_sort_by_name rfl
theorem f_number_by_name (T : Hd K w mg) : ∃ fd, FunD K "number_by_name" "number_by_name" (defArgs s_number_by_name) (defBody s_number_by_name) (defScope s_number_by_name) [] [] (He.ga K "number_by_name") fd := T.defs 21 d_number_by_name rfl
theorem f_is_instruction_value (T : Hd K w mg) : ∃ fd, FunD K "is_instruction_value" "is_instruction_value" (defArgs s_is_instruction_value) (defBody s_is_instruction_value) (defScope s_is_instruction_value) [] [] (He.ga K "is_instruction_value") fd := T.defs 22 d_is_instruction_value rfl
theorem f_want_instruction (T : Hd K w mg) : ∃ fd, FunD K "want_instruction" "want_instruction" (defArgs s_want_instruction) (defBody s_want_instruction) (defScope s_want_instruction) [] [] (He.ga K "want_instruction") fd := T.defs 23 d_want_instruction rfl
theorem f_instruction_as_word (T : Hd K w mg) : ∃ fd, FunD K "instruction_as_word" "instruction_as_word" (defArgs s_instruction_as_word) (defBody s_instruction_as_word) (defScope s_instruction_as_word) [] [] (He.ga K "instruction_as_word") fd := T.defs 24 d_instruction_as_word rfl
theorem f_word_as_instruction (T : Hd K w mg) : ∃ fd, FunD K "word_as_instruction" "word_as_instruction" (defArgs s_word_as_instruction) (defBody s_word_as_instruction) (defScope s_word_as_instruction) [] [] (He.ga K "word_as_instruction") fd := T.defs 25 d_word_as_instruction rfl
theorem f_reads_by_form (T : Hd K w mg) : ∃ fd, FunD K "reads_by_form" "reads_by_form" (defArgs s_reads_by_form) (defBody s_reads_by_form) (defScope s_reads_by_form) [] [] (He.ga K "reads_by_form") fd := T.defs 26 d_reads_by_form rfl
theorem f_register_written (T : Hd K w mg) : ∃ fd, FunD K "register_written" "register_written" (defArgs s_register_written) (defBody s_register_written) (defScope s_register_written) [] [] (He.ga K "register_written") fd := T.defs 27 d_register_written rfl
theorem f_number_as_word (T : Hd K w mg) : ∃ fd, FunD K "number_as_word" "number_as_word" (defArgs s_number_as_word) (defBody s_number_as_word) (defScope s_number_as_word) [] [] (He.ga K "number_as_word") fd := T.defs 28 d_number_as_word rfl
theorem f_worth_by_name (T : Hd K w mg) : ∃ fd, FunD K "worth_by_name" "worth_by_name" (defArgs s_worth_by_name) (defBody s_worth_by_name) (defScope s_worth_by_name) [] [] (He.ga K "worth_by_name") fd := T.defs 29 d_worth_by_name rfl
theorem f_writes_of (T : Hd K w mg) : ∃ fd, FunD K "writes_of" "writes_of" (defArgs s_writes_of) (defBody s_writes_of) (defScope s_writes_of) [] [] (He.ga K "writes_of") fd := T.defs 30 d_writes_of rfl
theorem f_sort_of (T : Hd K w mg) : ∃ fd, FunD K "sort_of" "sort_of" (defArgs s_sort_of) (defBody s_sort_of) (defScope s_sort_of) [] [] (He.ga K "sort_of") fd := T.defs 31 d_sort_of rfl
theorem f_listing_text (T : Hd K w mg) : ∃ fd, FunD K "listing_text" "listing_text" (defArgs s_listing_text) (defBody s_listing_text) (defScope s_listing_text) [] [] (He.ga K "listing_text") fd := T.defs 32 d_listing_text rfl
theorem f_controls_at_first (T : Hd K w mg) : ∃ fd, FunD K "controls_at_first" "controls_at_first" (defArgs s_controls_at_first) (defBody s_controls_at_first) (defScope s_controls_at_first) [] [] (He.ga K "controls_at_first") fd := T.defs 33 d_controls_at_first rfl
theorem f_has_bit (T : Hd K w mg) : ∃ fd, FunD K "has_bit" "has_bit" (defArgs s_has_bit) (defBody s_has_bit) (defScope s_has_bit) [] [] (He.ga K "has_bit") fd := T.defs 34 d_has_bit rfl
theorem f_status_with (T : Hd K w mg) : ∃ fd, FunD K "status_with" "status_with" (defArgs s_status_with) (defBody s_status_with) (defScope s_status_with) [] [] (He.ga K "status_with") fd := T.defs 35 d_status_with rfl
theorem f_controls_trapped (T : Hd K w mg) : ∃ fd, FunD K "controls_trapped" "controls_trapped" (defArgs s_controls_trapped) (defBody s_controls_trapped) (defScope s_controls_trapped) [] [] (He.ga K "controls_trapped") fd := T.defs 36 d_controls_trapped rfl
theorem f_controls_returned (T : Hd K w mg) : ∃ fd, FunD K "controls_returned" "controls_returned" (defArgs s_controls_returned) (defBody s_controls_returned) (defScope s_controls_returned) [] [] (He.ga K "controls_returned") fd := T.defs 37 d_controls_returned rfl
theorem f_is_memory_place (T : Hd K w mg) : ∃ fd, FunD K "is_memory_place" "is_memory_place" (defArgs s_is_memory_place) (defBody s_is_memory_place) (defScope s_is_memory_place) [] [] (He.ga K "is_memory_place") fd := T.defs 38 d_is_memory_place rfl
theorem f_want_memory_place (T : Hd K w mg) : ∃ fd, FunD K "want_memory_place" "want_memory_place" (defArgs s_want_memory_place) (defBody s_want_memory_place) (defScope s_want_memory_place) [] [] (He.ga K "want_memory_place") fd := T.defs 39 d_want_memory_place rfl
theorem f_is_memory_part (T : Hd K w mg) : ∃ fd, FunD K "is_memory_part" "is_memory_part" (defArgs s_is_memory_part) (defBody s_is_memory_part) (defScope s_is_memory_part) [] [] (He.ga K "is_memory_part") fd := T.defs 40 d_is_memory_part rfl
theorem f_are_parts (T : Hd K w mg) : ∃ fd, FunD K "are_parts" "are_parts" (defArgs s_are_parts) (defBody s_are_parts) (defScope s_are_parts) [] [] (He.ga K "are_parts") fd := T.defs 41 d_are_parts rfl
theorem f_memory_of (T : Hd K w mg) : ∃ fd, FunD K "memory_of" "memory_of" (defArgs s_memory_of) (defBody s_memory_of) (defScope s_memory_of) [] [] (He.ga K "memory_of") fd := T.defs 42 d_memory_of rfl
theorem f_is_there (T : Hd K w mg) : ∃ fd, FunD K "is_there" "is_there" (defArgs s_is_there) (defBody s_is_there) (defScope s_is_there) [] [] (He.ga K "is_there") fd := T.defs 43 d_is_there rfl
theorem f_flags_of (T : Hd K w mg) : ∃ fd, FunD K "flags_of" "flags_of" (defArgs s_flags_of) (defBody s_flags_of) (defScope s_flags_of) [] [] (He.ga K "flags_of") fd := T.defs 44 d_flags_of rfl
theorem f_frame_of (T : Hd K w mg) : ∃ fd, FunD K "frame_of" "frame_of" (defArgs s_frame_of) (defBody s_frame_of) (defScope s_frame_of) [] [] (He.ga K "frame_of") fd := T.defs 45 d_frame_of rfl
theorem f_by_word (T : Hd K w mg) : ∃ fd, FunD K "by_word" "by_word" (defArgs s_by_word) (defBody s_by_word) (defScope s_by_word) [] [] (He.ga K "by_word") fd := T.defs 46 d_by_word rfl
theorem f_first_place (T : Hd K w mg) : ∃ fd, FunD K "first_place" "first_place" (defArgs s_first_place) (defBody s_first_place) (defScope s_first_place) [] [] (He.ga K "first_place") fd := T.defs 47 d_first_place rfl
theorem f_second_place (T : Hd K w mg) : ∃ fd, FunD K "second_place" "second_place" (defArgs s_second_place) (defBody s_second_place) (defScope s_second_place) [] [] (He.ga K "second_place") fd := T.defs 48 d_second_place rfl
theorem f_translated_by (T : Hd K w mg) : ∃ fd, FunD K "translated_by" "translated_by" (defArgs s_translated_by) (defBody s_translated_by) (defScope s_translated_by) [] [] (He.ga K "translated_by") fd := T.defs 49 d_translated_by rfl
theorem f_straight_by (T : Hd K w mg) : ∃ fd, FunD K "straight_by" "straight_by" (defArgs s_straight_by) (defBody s_straight_by) (defScope s_straight_by) [] [] (He.ga K "straight_by") fd := T.defs 50 d_straight_by rfl
theorem f_is_device_there (T : Hd K w mg) : ∃ fd, FunD K "is_device_there" "is_device_there" (defArgs s_is_device_there) (defBody s_is_device_there) (defScope s_is_device_there) [] [] (He.ga K "is_device_there") fd := T.defs 51 d_is_device_there rfl
theorem f_want_inputs (T : Hd K w mg) : ∃ fd, FunD K "want_inputs" "want_inputs" (defArgs s_want_inputs) (defBody s_want_inputs) (defScope s_want_inputs) [] [] (He.ga K "want_inputs") fd := T.defs 52 d_want_inputs rfl
theorem f_want_state (T : Hd K w mg) : ∃ fd, FunD K "want_state" "want_state" (defArgs s_want_state) (defBody s_want_state) (defScope s_want_state) [] [] (He.ga K "want_state") fd := T.defs 53 d_want_state rfl
theorem f_next_address (T : Hd K w mg) : ∃ fd, FunD K "next_address" "next_address" (defArgs s_next_address) (defBody s_next_address) (defScope s_next_address) [] [] (He.ga K "next_address") fd := T.defs 54 d_next_address rfl
theorem f_reached_address (T : Hd K w mg) : ∃ fd, FunD K "reached_address" "reached_address" (defArgs s_reached_address) (defBody s_reached_address) (defScope s_reached_address) [] [] (He.ga K "reached_address") fd := T.defs 55 d_reached_address rfl
theorem f_sum_worth (T : Hd K w mg) : ∃ fd, FunD K "sum_worth" "sum_worth" (defArgs s_sum_worth) (defBody s_sum_worth) (defScope s_sum_worth) [] [] (He.ga K "sum_worth") fd := T.defs 56 d_sum_worth rfl
theorem f_worked_out (T : Hd K w mg) : ∃ fd, FunD K "worked_out" "worked_out" (defArgs s_worked_out) (defBody s_worked_out) (defScope s_worked_out) [] [] (He.ga K "worked_out") fd := T.defs 57 d_worked_out rfl
theorem f_trap_on (T : Hd K w mg) : ∃ fd, FunD K "trap_on" "trap_on" (defArgs s_trap_on) (defBody s_trap_on) (defScope s_trap_on) [] [] (He.ga K "trap_on") fd := T.defs 58 d_trap_on rfl
theorem f_lone_on (T : Hd K w mg) : ∃ fd, FunD K "lone_on" "lone_on" (defArgs s_lone_on) (defBody s_lone_on) (defScope s_lone_on) [] [] (He.ga K "lone_on") fd := T.defs 59 d_lone_on rfl
theorem f_looked_up (T : Hd K w mg) : ∃ fd, FunD K "looked_up" "looked_up" (defArgs s_looked_up) (defBody s_looked_up) (defScope s_looked_up) [] [] (He.ga K "looked_up") fd := T.defs 60 d_looked_up rfl
theorem f_data_place (T : Hd K w mg) : ∃ fd, FunD K "data_place" "data_place" (defArgs s_data_place) (defBody s_data_place) (defScope s_data_place) [] [] (He.ga K "data_place") fd := T.defs 61 d_data_place rfl
theorem f_trap_row (T : Hd K w mg) : ∃ fd, FunD K "trap_row" "trap_row" (defArgs s_trap_row) (defBody s_trap_row) (defScope s_trap_row) [] [] (He.ga K "trap_row") fd := T.defs 62 d_trap_row rfl
theorem f_interrupt_row (T : Hd K w mg) : ∃ fd, FunD K "interrupt_row" "interrupt_row" (defArgs s_interrupt_row) (defBody s_interrupt_row) (defScope s_interrupt_row) [] [] (He.ga K "interrupt_row") fd := T.defs 63 d_interrupt_row rfl
theorem f_load_row (T : Hd K w mg) : ∃ fd, FunD K "load_row" "load_row" (defArgs s_load_row) (defBody s_load_row) (defScope s_load_row) [] [] (He.ga K "load_row") fd := T.defs 64 d_load_row rfl
theorem f_store_row (T : Hd K w mg) : ∃ fd, FunD K "store_row" "store_row" (defArgs s_store_row) (defBody s_store_row) (defScope s_store_row) [] [] (He.ga K "store_row") fd := T.defs 65 d_store_row rfl
theorem f_lone_row (T : Hd K w mg) : ∃ fd, FunD K "lone_row" "lone_row" (defArgs s_lone_row) (defBody s_lone_row) (defScope s_lone_row) [] [] (He.ga K "lone_row") fd := T.defs 66 d_lone_row rfl
theorem f_plain_row (T : Hd K w mg) : ∃ fd, FunD K "plain_row" "plain_row" (defArgs s_plain_row) (defBody s_plain_row) (defScope s_plain_row) [] [] (He.ga K "plain_row") fd := T.defs 67 d_plain_row rfl
theorem f_fetched_row (T : Hd K w mg) : ∃ fd, FunD K "fetched_row" "fetched_row" (defArgs s_fetched_row) (defBody s_fetched_row) (defScope s_fetched_row) [] [] (He.ga K "fetched_row") fd := T.defs 68 d_fetched_row rfl
theorem f_done_step (T : Hd K w mg) : ∃ fd, FunD K "done_step" "done_step" (defArgs s_done_step) (defBody s_done_step) (defScope s_done_step) [] [] (He.ga K "done_step") fd := T.defs 69 d_done_step rfl
theorem f_is_raise (T : Hd K w mg) : ∃ fd, FunD K "is_raise" "is_raise" (defArgs s_is_raise) (defBody s_is_raise) (defScope s_is_raise) [] [] (He.ga K "is_raise") fd := T.defs 70 d_is_raise rfl
theorem f_want_raised (T : Hd K w mg) : ∃ fd, FunD K "want_raised" "want_raised" (defArgs s_want_raised) (defBody s_want_raised) (defScope s_want_raised) [] [] (He.ga K "want_raised") fd := T.defs 71 d_want_raised rfl
theorem f_steps (T : Hd K w mg) : ∃ fd, FunD K "steps" "steps" (defArgs s_steps) (defBody s_steps) (defScope s_steps) [] [] (He.ga K "steps") fd := T.defs 72 d_steps rfl
theorem f_is_pair (T : Hd K w mg) : ∃ fd, FunD K "is_pair" "is_pair" (defArgs s_is_pair) (defBody s_is_pair) (defScope s_is_pair) [] [] (He.ga K "is_pair") fd := T.defs 73 d_is_pair rfl
theorem f_is_row_value (T : Hd K w mg) : ∃ fd, FunD K "is_row_value" "is_row_value" (defArgs s_is_row_value) (defBody s_is_row_value) (defScope s_is_row_value) [] [] (He.ga K "is_row_value") fd := T.defs 74 d_is_row_value rfl
theorem f_is_row (T : Hd K w mg) : ∃ fd, FunD K "is_row" "is_row" (defArgs s_is_row) (defBody s_is_row) (defScope s_is_row) [] [] (He.ga K "is_row") fd := T.defs 75 d_is_row rfl
theorem f_traced_word (T : Hd K w mg) : ∃ fd, FunD K "traced_word" "traced_word" (defArgs s_traced_word) (defBody s_traced_word) (defScope s_traced_word) [] [] (He.ga K "traced_word") fd := T.defs 76 d_traced_word rfl
theorem f_traced_row (T : Hd K w mg) : ∃ fd, FunD K "traced_row" "traced_row" (defArgs s_traced_row) (defBody s_traced_row) (defScope s_traced_row) [] [] (He.ga K "traced_row") fd := T.defs 77 d_traced_row rfl
theorem f_traced (T : Hd K w mg) : ∃ fd, FunD K "traced" "traced" (defArgs s_traced) (defBody s_traced) (defScope s_traced) [] [] (He.ga K "traced") fd := T.defs 78 d_traced rfl
theorem f_trace (T : Hd K w mg) : ∃ fd, FunD K "trace" "trace" (defArgs s_trace) (defBody s_trace) (defScope s_trace) [] [] (He.ga K "trace") fd := T.defs 79 d_trace rfl
theorem f_law_pot (T : Hd K w mg) : ∃ fd, FunD K "_law_pot" "_law_pot" (defArgs s_law_pot) (defBody s_law_pot) (defScope s_law_pot) [] [] (He.ga K "_law_pot") fd := T.defs 80 d_law_pot rfl
theorem f_law_draw (T : Hd K w mg) : ∃ fd, FunD K "_law_draw" "_law_draw" (defArgs s_law_draw) (defBody s_law_draw) (defScope s_law_draw) [] [] (He.ga K "_law_draw") fd := T.defs 81 d_law_draw rfl
theorem f_law_pick (T : Hd K w mg) : ∃ fd, FunD K "_law_pick" "_law_pick" (defArgs s_law_pick) (defBody s_law_pick) (defScope s_law_pick) [] [] (He.ga K "_law_pick") fd := T.defs 82 d_law_pick rfl
theorem f_law_names (T : Hd K w mg) : ∃ fd, FunD K "_law_names" "_law_names" (defArgs s_law_names) (defBody s_law_names) (defScope s_law_names) [] [] (He.ga K "_law_names") fd := T.defs 83 d_law_names rfl
theorem f_law_instruction (T : Hd K w mg) : ∃ fd, FunD K "_law_instruction" "_law_instruction" (defArgs s_law_instruction) (defBody s_law_instruction) (defScope s_law_instruction) [] [] (He.ga K "_law_instruction") fd := T.defs 84 d_law_instruction rfl
theorem f_law_word (T : Hd K w mg) : ∃ fd, FunD K "_law_word" "_law_word" (defArgs s_law_word) (defBody s_law_word) (defScope s_law_word) [] [] (He.ga K "_law_word") fd := T.defs 85 d_law_word rfl
theorem f_law_said (T : Hd K w mg) : ∃ fd, FunD K "_law_said" "_law_said" (defArgs s_law_said) (defBody s_law_said) (defScope s_law_said) [] [] (He.ga K "_law_said") fd := T.defs 86 d_law_said rfl
theorem f_law_listed (T : Hd K w mg) : ∃ fd, FunD K "_law_listed" "_law_listed" (defArgs s_law_listed) (defBody s_law_listed) (defScope s_law_listed) [] [] (He.ga K "_law_listed") fd := T.defs 87 d_law_listed rfl
theorem f_law_row (T : Hd K w mg) : ∃ fd, FunD K "_law_row" "_law_row" (defArgs s_law_row) (defBody s_law_row) (defScope s_law_row) [] [] (He.ga K "_law_row") fd := T.defs 88 d_law_row rfl
theorem f_law_due (T : Hd K w mg) : ∃ fd, FunD K "_law_due" "_law_due" (defArgs s_law_due) (defBody s_law_due) (defScope s_law_due) [] [] (He.ga K "_law_due") fd := T.defs 89 d_law_due rfl
theorem f_law_is_below (T : Hd K w mg) : ∃ fd, FunD K "_law_is_below" "_law_is_below" (defArgs s_law_is_below) (defBody s_law_is_below) (defScope s_law_is_below) [] [] (He.ga K "_law_is_below") fd := T.defs 90 d_law_is_below rfl
theorem f_law_is_row (T : Hd K w mg) : ∃ fd, FunD K "_law_is_row" "_law_is_row" (defArgs s_law_is_row) (defBody s_law_is_row) (defScope s_law_is_row) [] [] (He.ga K "_law_is_row") fd := T.defs 91 d_law_is_row rfl
theorem f_law_bent (T : Hd K w mg) : ∃ fd, FunD K "_law_bent" "_law_bent" (defArgs s_law_bent) (defBody s_law_bent) (defScope s_law_bent) [] [] (He.ga K "_law_bent") fd := T.defs 92 d_law_bent rfl
theorem f_law_heard (T : Hd K w mg) : ∃ fd, FunD K "_law_heard" "_law_heard" (defArgs s_law_heard) (defBody s_law_heard) (defScope s_law_heard) [] [] (He.ga K "_law_heard") fd := T.defs 93 d_law_heard rfl
theorem f_law_ran (T : Hd K w mg) : ∃ fd, FunD K "_law_ran" "_law_ran" (defArgs s_law_ran) (defBody s_law_ran) (defScope s_law_ran) [] [] (He.ga K "_law_ran") fd := T.defs 94 d_law_ran rfl
theorem f_law_right (T : Hd K w mg) : ∃ fd, FunD K "_law_right" "_law_right" (defArgs s_law_right) (defBody s_law_right) (defScope s_law_right) [] [] (He.ga K "_law_right") fd := T.defs 95 d_law_right rfl
theorem f_law (T : Hd K w mg) : ∃ fd, FunD K "law" "law" (defArgs s_law) (defBody s_law) (defScope s_law) [] [] (He.ga K "law") fd := T.defs 96 d_law rfl
theorem f_CoreError_init (T : Hd K w mg) : ∃ fd, FunD K "__init__" "CoreError.__init__" (defArgs s_CoreError_init) (defBody s_CoreError_init) (defScope s_CoreError_init) [] [] (He.ma K (He.ga K "CoreError") "__init__") fd := T.defs 97 d_CoreError_init rfl
theorem f_DividedByNought_init (T : Hd K w mg) : ∃ fd, FunD K "__init__" "DividedByNought.__init__" (defArgs s_DividedByNought_init) (defBody s_DividedByNought_init) (defScope s_DividedByNought_init) [] [] (He.ma K (He.ga K "DividedByNought") "__init__") fd := T.defs 98 d_DividedByNought_init rfl
theorem f_Memory_init (T : Hd K w mg) : ∃ fd, FunD K "__init__" "Memory.__init__" (defArgs s_Memory_init) (defBody s_Memory_init) (defScope s_Memory_init) [] [] (He.ma K (He.ga K "Memory") "__init__") fd := T.defs 99 d_Memory_init rfl
theorem f_Memory_word (T : Hd K w mg) : ∃ fd, FunD K "word" "Memory.word" (defArgs s_Memory_word) (defBody s_Memory_word) (defScope s_Memory_word) [] [] (He.ma K (He.ga K "Memory") "word") fd := T.defs 100 d_Memory_word rfl
theorem f_Memory_copy (T : Hd K w mg) : ∃ fd, FunD K "copy" "Memory.copy" (defArgs s_Memory_copy) (defBody s_Memory_copy) (defScope s_Memory_copy) [] [] (He.ma K (He.ga K "Memory") "copy") fd := T.defs 101 d_Memory_copy rfl
theorem f_Devices_init (T : Hd K w mg) : ∃ fd, FunD K "__init__" "Devices.__init__" (defArgs s_Devices_init) (defBody s_Devices_init) (defScope s_Devices_init) [] [] (He.ma K (He.ga K "Devices") "__init__") fd := T.defs 102 d_Devices_init rfl
theorem f_Devices_can (T : Hd K w mg) : ∃ fd, FunD K "can" "Devices.can" (defArgs s_Devices_can) (defBody s_Devices_can) (defScope s_Devices_can) [] [] (He.ma K (He.ga K "Devices") "can") fd := T.defs 103 d_Devices_can rfl
theorem f_Devices_device_read (T : Hd K w mg) : ∃ fd, FunD K "device_read" "Devices.device_read" (defArgs s_Devices_device_read) (defBody s_Devices_device_read) (defScope s_Devices_device_read) [] [] (He.ma K (He.ga K "Devices") "device_read") fd := T.defs 104 d_Devices_device_read rfl
theorem f_Devices_device_write (T : Hd K w mg) : ∃ fd, FunD K "device_write" "Devices.device_write" (defArgs s_Devices_device_write) (defBody s_Devices_device_write) (defScope s_Devices_device_write) [] [] (He.ma K (He.ga K "Devices") "device_write") fd := T.defs 105 d_Devices_device_write rfl
theorem f_Devices_raised (T : Hd K w mg) : ∃ fd, FunD K "raised" "Devices.raised" (defArgs s_Devices_raised) (defBody s_Devices_raised) (defScope s_Devices_raised) [] [] (He.ma K (He.ga K "Devices") "raised") fd := T.defs 106 d_Devices_raised rfl
theorem f_Devices_counted (T : Hd K w mg) : ∃ fd, FunD K "counted" "Devices.counted" (defArgs s_Devices_counted) (defBody s_Devices_counted) (defScope s_Devices_counted) [] [] (He.ma K (He.ga K "Devices") "counted") fd := T.defs 107 d_Devices_counted rfl
theorem f_Devices_due (T : Hd K w mg) : ∃ fd, FunD K "due" "Devices.due" (defArgs s_Devices_due) (defBody s_Devices_due) (defScope s_Devices_due) [] [] (He.ma K (He.ga K "Devices") "due") fd := T.defs 108 d_Devices_due rfl
theorem f_Devices_lowered (T : Hd K w mg) : ∃ fd, FunD K "lowered" "Devices.lowered" (defArgs s_Devices_lowered) (defBody s_Devices_lowered) (defScope s_Devices_lowered) [] [] (He.ma K (He.ga K "Devices") "lowered") fd := T.defs 109 d_Devices_lowered rfl
theorem f_State_init (T : Hd K w mg) : ∃ fd, FunD K "__init__" "State.__init__" (defArgs s_State_init) (defBody s_State_init) (defScope s_State_init) [] [] (He.ma K (He.ga K "State") "__init__") fd := T.defs 110 d_State_init rfl
theorem w_FORMS (T : Hd K w mg) : He.dicW K (He.ga K "FORMS") = some (He.keysIn w.params ["add", "sub", "mul", "div", "and", "or", "xor", "shl", "shr", "low", "eq", "addi", "ld", "st", "jr", "lim", "lhi", "bz", "bnz", "jal", "sys", "rdc", "wrc", "ret", "halt", "nop"]) := T.tab 0 _ rfl
theorem t_FORMS (T : Hd K w mg) : ∃ es n, KDict K w (He.ga K "FORMS") es n := He.dicW_ok T.w_FORMS
theorem w_SHAPES (T : Hd K w mg) : He.dicW K (He.ga K "SHAPES") = some (He.keysIn w.params ["three", "near", "byte", "far", "call", "control", "bare"]) := T.tab 1 _ rfl
theorem t_SHAPES (T : Hd K w mg) : ∃ es n, KDict K w (He.ga K "SHAPES") es n := He.dicW_ok T.w_SHAPES
theorem w_SORTS (T : Hd K w mg) : He.dicW K (He.ga K "SORTS") = some (He.keysIn w.params ["mul", "div", "ld", "st", "bz", "bnz", "jr", "jal", "sys", "rdc", "wrc", "ret", "halt"]) := T.tab 2 _ rfl
theorem t_SORTS (T : Hd K w mg) : ∃ es n, KDict K w (He.ga K "SORTS") es n := He.dicW_ok T.w_SORTS
theorem w_WORTHS (T : Hd K w mg) : He.dicW K (He.ga K "WORTHS") = some (He.keysIn w.params ["add", "addi", "sub", "mul", "div", "and", "or", "xor", "shl", "shr"]) := T.tab 3 _ rfl
theorem t_WORTHS (T : Hd K w mg) : ∃ es n, KDict K w (He.ga K "WORTHS") es n := He.dicW_ok T.w_WORTHS
theorem w_WAY_CAUSES (T : Hd K w mg) : He.dicW K (He.ga K "WAY_CAUSES") = some (He.keysIn w.params ["fetch", "load", "store"]) := T.tab 4 _ rfl
theorem t_WAY_CAUSES (T : Hd K w mg) : ∃ es n, KDict K w (He.ga K "WAY_CAUSES") es n := He.dicW_ok T.w_WAY_CAUSES
theorem x_vals_FORMS (T : Hd K w mg) : K97.x_vals_FORMS K = true := T.more 0 _ rfl
theorem x_vals_SHAPES (T : Hd K w mg) : K97.x_vals_SHAPES K = true := T.more 1 _ rfl
theorem x_vals_SORTS (T : Hd K w mg) : K97.x_vals_SORTS K = true := T.more 2 _ rfl
theorem x_vals_WORTHS (T : Hd K w mg) : K97.x_vals_WORTHS K = true := T.more 3 _ rfl
theorem x_vals_WAY_CAUSES (T : Hd K w mg) : K97.x_vals_WAY_CAUSES K = true := T.more 4 _ rfl
theorem x_shape_three (T : Hd K w mg) : K97.x_shape_three K = true := T.more 5 _ rfl
theorem x_shape_near (T : Hd K w mg) : K97.x_shape_near K = true := T.more 6 _ rfl
theorem x_shape_byte (T : Hd K w mg) : K97.x_shape_byte K = true := T.more 7 _ rfl
theorem x_shape_far (T : Hd K w mg) : K97.x_shape_far K = true := T.more 8 _ rfl
theorem x_shape_call (T : Hd K w mg) : K97.x_shape_call K = true := T.more 9 _ rfl
theorem x_shape_control (T : Hd K w mg) : K97.x_shape_control K = true := T.more 10 _ rfl
theorem x_shape_bare (T : Hd K w mg) : K97.x_shape_bare K = true := T.more 11 _ rfl
theorem x_tup_UNWRITTEN (T : Hd K w mg) : K97.x_tup_UNWRITTEN K = true := T.more 12 _ rfl
theorem x_tup_PLACES (T : Hd K w mg) : K97.x_tup_PLACES K = true := T.more 13 _ rfl
theorem x_tup_NUMBERED (T : Hd K w mg) : K97.x_tup_NUMBERED K = true := T.more 14 _ rfl
theorem x_oex_InvalidRow (T : Hd K w mg) : K97.x_oex_InvalidRow K = true := T.more 15 _ rfl
theorem x_sa_InvalidRow (T : Hd K w mg) : K97.x_sa_InvalidRow K = true := T.more 16 _ rfl
theorem x_xf_InvalidRow (T : Hd K w mg) : K97.x_xf_InvalidRow K = true := T.more 17 _ rfl
theorem x_ty_InvalidRow (T : Hd K w mg) : K97.x_ty_InvalidRow K = true := T.more 18 _ rfl
theorem x_kc_InvalidRow (T : Hd K w mg) : K97.x_kc_InvalidRow K = true := T.more 19 _ rfl
theorem x_in_InvalidRow (T : Hd K w mg) : K97.x_in_InvalidRow K = true := T.more 20 _ rfl
theorem x_ti_InvalidRow (T : Hd K w mg) : K97.x_ti_InvalidRow K = true := T.more 21 _ rfl
theorem x_nv_InvalidRow (T : Hd K w mg) : K97.x_nv_InvalidRow K = true := T.more 22 _ rfl
theorem x_cl_InvalidRow (T : Hd K w mg) : K97.x_cl_InvalidRow K = true := T.more 23 _ rfl
theorem x_mo_InvalidRow (T : Hd K w mg) : K97.x_mo_InvalidRow K = true := T.more 24 _ rfl
theorem x_oex_InvalidRowList (T : Hd K w mg) : K97.x_oex_InvalidRowList K = true := T.more 25 _ rfl
theorem x_sa_InvalidRowList (T : Hd K w mg) : K97.x_sa_InvalidRowList K = true := T.more 26 _ rfl
theorem x_xf_InvalidRowList (T : Hd K w mg) : K97.x_xf_InvalidRowList K = true := T.more 27 _ rfl
theorem x_ty_InvalidRowList (T : Hd K w mg) : K97.x_ty_InvalidRowList K = true := T.more 28 _ rfl
theorem x_kc_InvalidRowList (T : Hd K w mg) : K97.x_kc_InvalidRowList K = true := T.more 29 _ rfl
theorem x_in_InvalidRowList (T : Hd K w mg) : K97.x_in_InvalidRowList K = true := T.more 30 _ rfl
theorem x_ti_InvalidRowList (T : Hd K w mg) : K97.x_ti_InvalidRowList K = true := T.more 31 _ rfl
theorem x_nv_InvalidRowList (T : Hd K w mg) : K97.x_nv_InvalidRowList K = true := T.more 32 _ rfl
theorem x_cl_InvalidRowList (T : Hd K w mg) : K97.x_cl_InvalidRowList K = true := T.more 33 _ rfl
theorem x_mo_InvalidRowList (T : Hd K w mg) : K97.x_mo_InvalidRowList K = true := T.more 34 _ rfl
theorem x_oex_DividedByNought (T : Hd K w mg) : K97.x_oex_DividedByNought K = true := T.more 35 _ rfl
theorem x_sa_DividedByNought (T : Hd K w mg) : K97.x_sa_DividedByNought K = true := T.more 36 _ rfl
theorem x_xf_DividedByNought (T : Hd K w mg) : K97.x_xf_DividedByNought K = true := T.more 37 _ rfl
theorem x_ty_DividedByNought (T : Hd K w mg) : K97.x_ty_DividedByNought K = true := T.more 38 _ rfl
theorem x_kc_DividedByNought (T : Hd K w mg) : K97.x_kc_DividedByNought K = true := T.more 39 _ rfl
theorem x_in_DividedByNought (T : Hd K w mg) : K97.x_in_DividedByNought K = true := T.more 40 _ rfl
theorem x_ti_DividedByNought (T : Hd K w mg) : K97.x_ti_DividedByNought K = true := T.more 41 _ rfl
theorem x_nv_DividedByNought (T : Hd K w mg) : K97.x_nv_DividedByNought K = true := T.more 42 _ rfl
theorem x_cl_DividedByNought (T : Hd K w mg) : K97.x_cl_DividedByNought K = true := T.more 43 _ rfl
theorem x_mo_DividedByNought (T : Hd K w mg) : K97.x_mo_DividedByNought K = true := T.more 44 _ rfl
theorem x_exm_InvalidRow_InvalidRow (T : Hd K w mg) : K97.x_exm_InvalidRow_InvalidRow K = true := T.more 45 _ rfl
theorem x_exm_InvalidRowList_InvalidRow (T : Hd K w mg) : K97.x_exm_InvalidRowList_InvalidRow K = true := T.more 46 _ rfl
theorem x_exm_InvalidRowList_InvalidRowList (T : Hd K w mg) : K97.x_exm_InvalidRowList_InvalidRowList K = true := T.more 47 _ rfl
theorem x_exm_DividedByNought_DividedByNought (T : Hd K w mg) : K97.x_exm_DividedByNought_DividedByNought K = true := T.more 48 _ rfl
theorem x_kit_InvalidRow (T : Hd K w mg) : K97.x_kit_InvalidRow K = true := T.more 49 _ rfl
theorem x_kit_InvalidRowList (T : Hd K w mg) : K97.x_kit_InvalidRowList K = true := T.more 50 _ rfl
theorem x_icl_Memory (T : Hd K w mg) : K97.x_icl_Memory K = true := T.more 51 _ rfl
theorem x_imo_Memory (T : Hd K w mg) : K97.x_imo_Memory K = true := T.more 52 _ rfl
theorem x_iki_Memory (T : Hd K w mg) : K97.x_iki_Memory K = true := T.more 53 _ rfl
theorem x_icl_State (T : Hd K w mg) : K97.x_icl_State K = true := T.more 54 _ rfl
theorem x_imo_State (T : Hd K w mg) : K97.x_imo_State K = true := T.more 55 _ rfl
theorem x_iki_State (T : Hd K w mg) : K97.x_iki_State K = true := T.more 56 _ rfl
theorem x_sget (T : Hd K w mg) : K97.x_sget K = true := T.more 57 _ rfl
theorem x_stak (T : Hd K w mg) : K97.x_stak K = true := T.more 58 _ rfl
end
end Hd
end K97
set_option maxHeartbeats 4000000
/-! The head: what is looked at behind the module's top, and what it tells. -/
namespace K97
open PySem PySem.Spec PyProof.Rows L2
/-- the law's row -/
abbrev R : PySem.W.OpenRow := PySem.W.OpenLaw.row PySem.Challenge.rw_orderlycore_k97_whole_rows_traced
abbrev qv : Program := PySem.W.view R.prog [187]
def nam0 : List Str := ["_wall", "CoreError", "StateError", "InvalidWord", "InvalidPlace", "InvalidLine", "InvalidInstruction", "InvalidMemory", "InvalidInputs", "InvalidState", "InvalidMany", "DividedByNought", "InvalidParts", "InvalidRaised", "InvalidRow", "InvalidRowList", "NotRaised", "is_integer", "is_count", "is_list", "want_many", "MOST_WORD", "MOST_ADDRESS", "MOST_PLACE", "MEMORY_END", "REGISTERS", "LINES", "BITS", "is_word", "is_address"]
def nam1 : List Str := ["is_place", "is_register", "want_word", "want_line", "two_words", "plus", "minus", "times", "over", "both", "either", "unlike", "shifted_up", "shifted_down", "FORMS", "SHAPES", "SORTS", "WORTHS", "UNWRITTEN", "PLACES", "OPERATION_BIT", "MOST_REGISTER", "sort_by_name", "number_by_name", "is_instruction_value", "want_instruction", "instruction_as_word", "word_as_instruction", "reads_by_form", "register_written"]
def nam2 : List Str := ["number_as_word", "worth_by_name", "writes_of", "sort_of", "listing_text", "CONTROL_STATUS", "CONTROL_CAUSE", "CONTROL_HOME", "CONTROL_BAD", "CONTROL_ENTRY", "CONTROL_ROOT", "CONTROL_MASK", "MANY_CONTROLS", "BIT_SUPERVISOR", "BIT_ON", "BIT_OLD_SUPERVISOR", "BIT_OLD_ON", "BIT_PAGED", "MANY_FRAMES", "controls_at_first", "has_bit", "status_with", "controls_trapped", "controls_returned", "is_memory_place", "want_memory_place", "is_memory_part", "are_parts", "Memory", "memory_of"]
def nam3 : List Str := ["PAGE_SIZE", "MOST_FRAME", "THERE", "WRITTEN", "USERS", "WAY_CAUSES", "NO_PLACE", "is_there", "flags_of", "frame_of", "by_word", "first_place", "second_place", "translated_by", "straight_by", "MOST_INPUTS", "DEVICE_INPUT", "DEVICE_LEFT", "DEVICE_STEPS", "DEVICE_TIMER", "is_device_there", "want_device_place", "want_inputs", "Devices", "MANY_REGISTERS", "State", "state_of", "want_state", "MOST_STEPS", "MOST_RAISED"]
def nam4 : List Str := ["MANY_LINES", "CAUSE_BAD_WORD", "CAUSE_NOT_LET", "CAUSE_OVER", "CAUSE_NO_PLACE", "CAUSE_SYSTEM", "CAUSE_LINE", "NUMBERED", "next_address", "reached_address", "sum_worth", "worked_out", "trap_on", "lone_on", "looked_up", "data_place", "trap_row", "interrupt_row", "load_row", "store_row", "lone_row", "plain_row", "fetched_row", "done_step", "is_raise", "want_raised", "steps", "ROW_PARTS", "CAUSES", "is_pair"]
def nam5 : List Str := ["is_row_value", "is_row", "FIRST_INTERRUPT", "traced_word", "traced_row", "traced", "trace", "_law_pot", "_law_draw", "_law_pick", "_law_names", "_law_instruction", "_law_word", "_law_said", "_law_listed", "_law_row", "_law_due", "_law_is_below", "_law_is_row", "_law_bent", "_law_heard", "_law_ran", "_law_right"]
def names : List Str := nam0 ++ (nam1 ++ (nam2 ++ (nam3 ++ (nam4 ++ (nam5)))))
/-- the objects that the module's names reach, step by step -/
def refsL (o : Obj) : List Addr := match o.data with
  | .seq its _ => its.toList.flatMap He.refV
  | .dict es _ => es.toList.flatMap fun e => He.refV e.val
  | .func fd => He.refV fd.code ++ He.refV fd.defaults
  | .cls cd => [cd.ns]
  | _ => []
def lev (g : Addr → Option Obj) : Nat → List Addr → List Addr
  | 0, as => as
  | n + 1, as => as ++ lev g n (as.flatMap fun a => match g a with
    | some o => refsL o
    | none => [])
def asL (g : Addr → Option Obj) : List Addr := lev g 4 [mainGlobals]
def KL (g : Addr → Option Obj) : PySem.W.Frag := He.frT g (asL g)
/-! what is looked at, in two parts by the names, and one more -/
abbrev FnWs : Type := List He.FnW
abbrev TsW : Type := List (Option (List (Option (Str × Int))))
def p1 (g : Addr → Option Obj) : Bool × FnWs := (((fa.take 80).all fun f => f.ok (KL g)) && (fn.take 80).all fun d => d.ok (KL g), (fn.take 80).map fun d => He.fnW (KL g) d.at_)
def p2 (g : Addr → Option Obj) : Bool × FnWs := (((fa.drop 80).all fun f => f.ok (KL g)) && (fn.drop 80).all fun d => d.ok (KL g), (fn.drop 80).map fun d => He.fnW (KL g) d.at_)
def p3 (g : Addr → Option Obj) : TsW × Bool := (ts.map fun t => He.dicW (KL g) (t.1 (KL g)), ex (KL g) && He.tabsB g tf (KL g))
def v1 : Bool × FnWs := (true, (fn.take 80).map He.DefD.val)
def v2 : Bool × FnWs := (true, (fn.drop 80).map He.DefD.val)
def v3 (w : World) : TsW × Bool := (ts.map fun t => some (He.keysIn w.params t.2), true)
abbrev ObT : Type := (Bool × FnWs) × (Bool × FnWs) × TsW × Bool
def oAll (g : Addr → Option Obj) : ObT := (p1 g, p2 g, p3 g)
def vAll (w : World) : ObT := (v1, v2, v3 w)
/-- what that tells of a part K of the heap h -/
structure Told2 (w : World) (h : Heap) (K : PySem.W.Frag) : Prop where
  f : (fa.all fun f => f.ok K) = true
  d : (fn.all fun d => d.ok K) = true
  v : (fn.map fun d => He.fnW K d.at_) = fn.map He.DefD.val
  t : (ts.map fun t => He.dicW K (t.1 K)) = ts.map fun t => some (He.keysIn w.params t.2)
  x : ex K = true
  code : PySem.W.codeHdIn K (He.cT K ("_law_right", none)).1 (He.cT K ("_law_right", none)).2 = true
  out : K.lookup (He.cT K ("_law_right", none)).2 = none
  emp : h.get? (He.cT K ("_law_right", none)).2 = some { cls := .none, data := .fields #[] }
theorem told2_of {w : World} {h : Heap} (e : oAll h.get? = vAll w) : Told2 w h (KL h.get?) := by
  have e1 : p1 h.get? = v1 := congrArg (fun z : ObT => z.1) e
  have e2 : p2 h.get? = v2 := congrArg (fun z : ObT => z.2.1) e
  have e3 : p3 h.get? = v3 w := congrArg (fun z : ObT => z.2.2) e
  obtain ⟨f1, d1⟩ := He.ba (show (((fa.take 80).all fun f => f.ok (KL h.get?)) && (fn.take 80).all fun d => d.ok (KL h.get?)) = true from congrArg (fun z : Bool × FnWs => z.1) e1)
  obtain ⟨f2, d2⟩ := He.ba (show (((fa.drop 80).all fun f => f.ok (KL h.get?)) && (fn.drop 80).all fun d => d.ok (KL h.get?)) = true from congrArg (fun z : Bool × FnWs => z.1) e2)
  have w1 : ((fn.take 80).map fun d => He.fnW (KL h.get?) d.at_) = (fn.take 80).map He.DefD.val := congrArg (fun z : Bool × FnWs => z.2) e1
  have w2 : ((fn.drop 80).map fun d => He.fnW (KL h.get?) d.at_) = (fn.drop 80).map He.DefD.val := congrArg (fun z : Bool × FnWs => z.2) e2
  have f12 : (fa.all fun f => f.ok (KL h.get?)) = true := by rw [← List.take_append_drop 80 fa, List.all_append, f1, f2]; rfl
  have d12 : (fn.all fun d => d.ok (KL h.get?)) = true := by rw [← List.take_append_drop 80 fn, List.all_append, d1, d2]; rfl
  have w12 : (fn.map fun d => He.fnW (KL h.get?) d.at_) = fn.map He.DefD.val := by
    have z : ((fn.take 80 ++ fn.drop 80).map fun d => He.fnW (KL h.get?) d.at_) = (fn.take 80 ++ fn.drop 80).map He.DefD.val := by rw [List.map_append, List.map_append, w1, w2]
    rw [List.take_append_drop] at z
    exact z
  have e4 : (ts.map fun t => He.dicW (KL h.get?) (t.1 (KL h.get?))) = ts.map fun t => some (He.keysIn w.params t.2) := congrArg (fun z : TsW × Bool => z.1) e3
  have e5 : (ex (KL h.get?) && He.tabsB h.get? tf (KL h.get?)) = true := congrArg (fun z : TsW × Bool => z.2) e3
  obtain ⟨h1, h2⟩ := He.ba e5
  obtain ⟨h3, h4⟩ := He.ba (List.all_eq_true.mp h2 (("_law_right" : Str), (none : Option Str)) (List.mem_singleton.mpr rfl))
  cases q : h.get? (He.cT (KL h.get?) (("_law_right" : Str), (none : Option Str))).2 with
  | none => rw [q] at h4; cases h4
  | some o =>
    rw [q] at h4
    have h4 : He.emptyTab o = true := h4
    exact ⟨f12, d12, w12, e4, h1, h3, He.frT_none q h4, by rw [q, He.emptyTab_eq h4]⟩
def hk : PySem.W.Hook where
  α := ObT
  obs := fun s => oAll s.heap.get?
  val := vAll
  says := fun w h => ∃ K : PySem.W.Frag, K.In h ∧ Told2 w h K
  of := fun _ _ e => ⟨_, He.frT_in, told2_of e⟩
  keeps := fun _ _ _ z k => by
    obtain ⟨K, hK, c⟩ := z
    exact ⟨K, hK.keeps k, ⟨c.f, c.d, c.v, c.t, c.x, c.code, c.out, k _ _ c.emp⟩⟩
def ob (s : PySem.W.SharedT) : ObT := oAll (HandSHeadRun.getT s)
theorem ob_eq (s : PySem.W.SharedT) : ob s = hk.obs s.abs := by
  have e : HandSHeadRun.getT s = s.abs.heap.get? := funext fun a => HandSHeadRun.getT_eq s a
  unfold ob
  rw [e] <;> rfl
end K97
set_option maxHeartbeats 0
/-! The module's top, run in the kernel. -/
namespace K97
open PySem PySem.W PySem.Calls PyProof.Rows HandSHeadRun
abbrev gN : String := "special-get-raises"
noncomputable abbrev st0 (w : World) (os : OsState) : Option SharedT := endF (stepQ (denQ tabQ) R.prog w) 12000 R.prog w os
abbrev mods : List Str := importedModules R.prog.main.body
theorem ra_false (w : World) (os : OsState) : (st0 (w.withFollow gN false) os).map (fun s => looksF R.prog (boot_heap (w.withFollow gN false).params) s.abs) = some true := by
  kernel_rfl
theorem ra_true (w : World) (os : OsState) : (st0 (w.withFollow gN true) os).map (fun s => looksF R.prog (boot_heap (w.withFollow gN true).params) s.abs) = some true := by
  kernel_rfl
theorem ra (w : World) : ∀ os : OsState, (st0 w os).map (fun s => looksF R.prog (boot_heap w.params) s.abs) = some true :=
  byRow2 gN (P := fun w => ∀ os : OsState, (st0 w os).map (fun s => looksF R.prog (boot_heap w.params) s.abs) = some true) (fun w os => ra_false w os) (fun w os => ra_true w os) w
theorem rs_false (w : World) (os : OsState) : (st0 (w.withFollow gN false) os).map (fun s => (seenQ qv names mods (fun s => xlAt qv [] s && recOk R.toRowW.records s) s.abs, p3 (getT s))) = some (openGood qv names, v3 (w.withFollow gN false)) := by
  kernel_rfl
theorem rs_true (w : World) (os : OsState) : (st0 (w.withFollow gN true) os).map (fun s => (seenQ qv names mods (fun s => xlAt qv [] s && recOk R.toRowW.records s) s.abs, p3 (getT s))) = some (openGood qv names, v3 (w.withFollow gN true)) := by
  kernel_rfl
theorem rs (w : World) : ∀ os : OsState, (st0 w os).map (fun s => (seenQ qv names mods (fun s => xlAt qv [] s && recOk R.toRowW.records s) s.abs, p3 (getT s))) = some (openGood qv names, v3 w) :=
  byRow2 gN (P := fun w => ∀ os : OsState, (st0 w os).map (fun s => (seenQ qv names mods (fun s => xlAt qv [] s && recOk R.toRowW.records s) s.abs, p3 (getT s))) = some (openGood qv names, v3 w)) (fun w os => rs_false w os) (fun w os => rs_true w os) w
theorem rp_false (w : World) (os : OsState) : (st0 (w.withFollow gN false) os).map (fun s => p1 (getT s)) = some v1 := by
  kernel_rfl
theorem rp_true (w : World) (os : OsState) : (st0 (w.withFollow gN true) os).map (fun s => p1 (getT s)) = some v1 := by
  kernel_rfl
theorem rp (w : World) : ∀ os : OsState, (st0 w os).map (fun s => p1 (getT s)) = some v1 :=
  byRow2 gN (P := fun w => ∀ os : OsState, (st0 w os).map (fun s => p1 (getT s)) = some v1) (fun w os => rp_false w os) (fun w os => rp_true w os) w
theorem rq_false (w : World) (os : OsState) : (st0 (w.withFollow gN false) os).map (fun s => p2 (getT s)) = some v2 := by
  kernel_rfl
theorem rq_true (w : World) (os : OsState) : (st0 (w.withFollow gN true) os).map (fun s => p2 (getT s)) = some v2 := by
  kernel_rfl
theorem rq (w : World) : ∀ os : OsState, (st0 w os).map (fun s => p2 (getT s)) = some v2 :=
  byRow2 gN (P := fun w => ∀ os : OsState, (st0 w os).map (fun s => p2 (getT s)) = some v2) (fun w os => rq_false w os) (fun w os => rq_true w os) w
theorem run_all (w : World) : RunEq R qv hk ob 12000 names w := by
  intro os
  have ea := ra w os
  have es := rs w os
  have ep := rp w os
  have eq := rq w os
  show (st0 w os).map _ = _
  generalize st0 w os = z at ea es ep eq ⊢
  cases z with
  | none => cases ea
  | some s =>
    have ea := Option.some.inj ea
    have es := Option.some.inj es
    have ep := Option.some.inj ep
    have eq := Option.some.inj eq
    have e1 := congrArg (fun z : _ × _ => z.1) es
    have e2 := congrArg (fun z : _ × _ => z.2) es
    have eo : ob s = vAll w := by
      show (p1 (getT s), p2 (getT s), p3 (getT s)) = (v1, v2, v3 w)
      rw [show p1 (getT s) = v1 from ep, show p2 (getT s) = v2 from eq, show p3 (getT s) = v3 w from e2]
    show some (_, _, _) = some (_, _, _)
    rw [show looksF R.prog (boot_heap w.params) s.abs = true from ea, eo]
    exact congrArg (fun z => some (true, z, vAll w)) e1
end K97
set_option maxHeartbeats 4000000
/-! Words and rules of this proof's own. -/
namespace K97
open PySem PySem.Spec PyProof.Rows L2

/-! ### promises by the number of arguments -/
def sp0 (f : Hp → VK → Prop) : Sp := fun vs H Q _ => vs = [] ∧ f H Q
def sp1 (f : V → Hp → VK → Prop) : Sp := fun vs H Q _ => ∃ x, vs = [x] ∧ f x H Q
def sp2 (f : V → V → Hp → VK → Prop) : Sp := fun vs H Q _ => ∃ x y, vs = [x, y] ∧ f x y H Q
def sp3 (f : V → V → V → Hp → VK → Prop) : Sp := fun vs H Q _ => ∃ x y z, vs = [x, y, z] ∧ f x y z H Q
def sp4 (f : V → V → V → V → Hp → VK → Prop) : Sp := fun vs H Q _ => ∃ x y z u, vs = [x, y, z, u] ∧ f x y z u H Q
def sp5 (f : V → V → V → V → V → Hp → VK → Prop) : Sp := fun vs H Q _ => ∃ x y z u v, vs = [x, y, z, u, v] ∧ f x y z u v H Q
theorem len0 {f} : ∀ vs H Q E, sp0 f vs H Q E → vs.length = 0 := by rintro _ _ _ _ ⟨rfl, _⟩; rfl
theorem len1 {f} : ∀ vs H Q E, sp1 f vs H Q E → vs.length = 1 := by rintro _ _ _ _ ⟨_, rfl, _⟩; rfl
theorem len2 {f} : ∀ vs H Q E, sp2 f vs H Q E → vs.length = 2 := by rintro _ _ _ _ ⟨_, _, rfl, _⟩; rfl
theorem len3 {f} : ∀ vs H Q E, sp3 f vs H Q E → vs.length = 3 := by rintro _ _ _ _ ⟨_, _, _, rfl, _⟩; rfl
theorem len4 {f} : ∀ vs H Q E, sp4 f vs H Q E → vs.length = 4 := by rintro _ _ _ _ ⟨_, _, _, _, rfl, _⟩; rfl
theorem len5 {f} : ∀ vs H Q E, sp5 f vs H Q E → vs.length = 5 := by rintro _ _ _ _ ⟨_, _, _, _, _, rfl, _⟩; rfl

/-! ### a def of the module, by its body -/
section
variable {P : Program} {w : World} {K : PySem.W.Frag} {mg : Str → Option Value} {base : Heap}
theorem cal_of {x : Str} {pa : Arguments} {bd : List Stmt} {sc : Scope} {fd : FuncData} {f : Addr} {N ps : List Str} {k : Nat} {sp : Sp} (F : FunD K x x pa bd sc [] [] f fd) (g : mg x = some (.ref f)) (S : FnScope N ps sc)
    (hb : ∀ (kV doc pm : Value) (an : Option Addr) (cdv ct : Value) (us : List Value), us.length = ps.length → bindArgs (PySem.W.fnOf x x pa bd sc .none kV doc pm an cdv ct) ⟨us, []⟩ = pure (ps.zip us))
    (len : ∀ vs H Q E, sp vs H Q E → vs.length = ps.length)
    (body : ∀ (cdv : Value) (A : Around) (outer : List Env) (s : Shared) (H : Hp) (vs : List V) (Q : VK) (E : XK), Room k (A.deeper (envOfC x sc s.heap.objs.size f cdv)) → sp vs H Q E →
      ∃ t, PSs (cxOf C8.CX0 P w K mg base N x sc f cdv A outer s H E).nox bd t ∧ t { nx := fun _ H' => Q .non H', rt := Q } (start N vs) H) : C8.Cal P w K mg base (k + 1) x sp [] :=
  ⟨f, fd, ps, [], F.ok S len fun cdv A outer s H vs Q E hr hsp => let ⟨t, h, q⟩ := body cdv A outer s H vs Q E hr hsp; ⟨t, h.nox, q⟩, g, F.kp, F.bindsN hb, .nil⟩
/-- one parameter, given by its name or by its place -/
def one1 {α : Type} (us ws : List α) : List α := us ++ ws
structure CalK (P : Program) (w : World) (K : PySem.W.Frag) (mg : Str → Option Value) (base : Heap) (k : Nat) (x n : Str) (sp : Sp) : Prop where
  ex : ∃ (f : Addr) (fd : FuncData), FnOk P w K mg base C8.CX0 k f fd [n] sp ∧ mg x = some (.ref f) ∧ PySem.W.keepIn K (.ref f) = true ∧ Binds K fd [n] [] ∧ KBinds K fd [n] [n] one1 one1
theorem CalK.c {k : Nat} {x n : Str} {sp : Sp} (c : CalK P w K mg base k x n sp) : C8.Cal P w K mg base k x sp [] := by
  obtain ⟨f, fd, F, g, kp, b, _⟩ := c.ex
  exact ⟨f, fd, [n], [], F, g, kp, b, .nil⟩
theorem kb_of {x n : Str} {pa : Arguments} {bd : List Stmt} {sc : Scope} {fd : FuncData} {f : Addr} (F : FunD K x x pa bd sc [] [] f fd)
    (hb : ∀ (kV doc pm : Value) (an : Option Addr) (cdv ct : Value) (us : List Value), us.length = 1 → bindArgs (PySem.W.fnOf x x pa bd sc .none kV doc pm an cdv ct) ⟨us, []⟩ = pure ([n].zip us))
    (hk : ∀ (kV doc pm : Value) (an : Option Addr) (cdv ct v : Value), bindArgs (PySem.W.fnOf x x pa bd sc .none kV doc pm an cdv ct) ⟨[], [(n, v)]⟩ = pure [(n, v)]) : KBinds K fd [n] [n] one1 one1 := by
  obtain ⟨oc, od, dV, kV, doc, pm, an, cdv, ct, osl, rfl, lk, hcd, hD, hK⟩ := F.ex
  rcases hD with ⟨_, rfl⟩ | ⟨e, _⟩
  · refine ⟨fun s us ws _ hl => ?_, fun r z => r.append z⟩
    match us, ws, hl with
    | [], [v], _ => exact .of_eq (hk kV doc pm an cdv ct v)
    | [u], [], _ => exact .of_eq (hb kV doc pm an cdv ct [u] rfl)
    | [], _ :: _ :: _, h => exact absurd (Nat.succ.inj h) (Nat.succ_ne_zero _)
    | [], [], h => exact absurd (show 0 = 1 from h) (by decide)
    | _ :: _ :: _, _, h => exact absurd (Nat.succ.inj h) (Nat.succ_ne_zero _)
    | [_], _ :: _, h => exact absurd (Nat.succ.inj h) (Nat.succ_ne_zero _)
  · exact absurd rfl e
theorem calK_of {x n : Str} {pa : Arguments} {bd : List Stmt} {sc : Scope} {fd : FuncData} {f : Addr} {N : List Str} {k : Nat} {sp : Sp} (F : FunD K x x pa bd sc [] [] f fd) (g : mg x = some (.ref f)) (S : FnScope N [n] sc)
    (hb : ∀ (kV doc pm : Value) (an : Option Addr) (cdv ct : Value) (us : List Value), us.length = 1 → bindArgs (PySem.W.fnOf x x pa bd sc .none kV doc pm an cdv ct) ⟨us, []⟩ = pure ([n].zip us))
    (len : ∀ vs H Q E, sp vs H Q E → vs.length = 1)
    (body : ∀ (cdv : Value) (A : Around) (outer : List Env) (s : Shared) (H : Hp) (vs : List V) (Q : VK) (E : XK), Room k (A.deeper (envOfC x sc s.heap.objs.size f cdv)) → sp vs H Q E →
      ∃ t, PSs (cxOf C8.CX0 P w K mg base N x sc f cdv A outer s H E).nox bd t ∧ t { nx := fun _ H' => Q .non H', rt := Q } (start N vs) H)
    (hk : ∀ (kV doc pm : Value) (an : Option Addr) (cdv ct v : Value), bindArgs (PySem.W.fnOf x x pa bd sc .none kV doc pm an cdv ct) ⟨[], [(n, v)]⟩ = pure [(n, v)] := by intros; rfl) : CalK P w K mg base (k + 1) x n sp :=
  ⟨f, fd, F.ok S len fun cdv A outer s H vs Q E hr hsp => let ⟨t, h, q⟩ := body cdv A outer s H vs Q E hr hsp; ⟨t, h.nox, q⟩, g, F.kp, F.bindsN hb, kb_of F hb hk⟩
end
section
variable {X : Cx} {k j : Nat} {x : Str} {sp : Sp} {p pos : Pos}
/-- f() -/
theorem pe_c0 (c : C8.Cal X.prog X.w X.K X.mg X.base k x sp []) (hr : Room j X.A) (hk : k ≤ j) (hg : Gl X x) (hdb : (x == ("__debug__" : Str)) = false := by decide) : PE X (.Call (.Name x p) [] [] pos) (tCall sp [] E0 tNil) := by
  obtain ⟨f, fd, ps, ds, F, hm, kp, b, d⟩ := c.ex
  exact pe_call0 F (hr.mono hk) hg hm kp b d C8.pass0 hdb
/-- f(n = e) -/
theorem pe_kw0 {CX : CXT} {f : Addr} {fd : FuncData} {ps ks : List Str} {g : List Value → List Value → List Value} {gV : List V → List V → List V} {E : XK} {kws : List Keyword} {tk : TA} (F : FnOk X.prog X.w X.K X.mg X.base CX k f fd ps sp) (hr : Room k X.A) (hg : Gl X x) (hm : X.mg x = some (.ref f)) (hk : PySem.W.keepIn X.K (.ref f) = true) (hb : KBinds X.K fd ps ks g gV) (hx : Passes CX X E)
    (hkw : PK X kws tk) (hdb : (x == ("__debug__" : Str)) = false := by decide) (hall : (backToKw pos (keywordEach kws X.env)).all (·.1.isSome) = true := by rfl) (hks : (backToKw pos (keywordEach kws X.env)).filterMap (·.1) = ks := by rfl)
    (hpl : ((backTo pos (starEach [] X.env)).any (·.1) || (backToKw pos (keywordEach kws X.env)).any (·.1.isNone)) = false := by rfl) :
    PE X (.Call (.Name x p) [] kws pos) (tCallK sp gV E tNil tk) := by
  refine ⟨fun pins s σ H Q I h => ?_⟩
  refine wpAny_Call_Name_kw (ld_glob I hg hm ?_ hdb)
  refine PySem.W.callWith_KW0 (h₀ := X.base) I.ok.mod.kin hk hall (thn (hkw.run pos pins s σ H _ I h) fun us s1 ⟨zs, H1, I1, rz, q1⟩ => ⟨I1.kIn, ?_⟩) hpl
  rw [hks]
  exact run_fnk (us := []) (vs := []) F hr hb hx I1 .nil rz q1
theorem pe_ck {n : Str} {kp : Pos} {e : Expr} {te : TE} (c : CalK X.prog X.w X.K X.mg X.base k x n sp) (hr : Room j X.A) (hk : k ≤ j) (hg : Gl X x) (he : PE X e te) (hdb : (x == ("__debug__" : Str)) = false := by decide) : PE X (.Call (.Name x p) [] [⟨some n, e, kp⟩] pos) (tCallK sp one1 E0 tNil (tCons te tNil)) := by
  obtain ⟨f, fd, F, hm, kp, b, kb⟩ := c.ex
  exact pe_kw0 F (hr.mono hk) hg hm kp kb C8.pass0 (pk_cons he pk_nil) hdb
/-- a whole number of the module -/
theorem pe_n {i : Int} (h : ∃ t, X.mg x = some (.int i t)) (hg : Gl X x) (hd : (x == ("__debug__" : Str)) = false := by decide) : PE X (.Name x pos) (tC (.int i)) := by
  obtain ⟨t, h⟩ := h
  exact pe_glob hg h ⟨t, rfl⟩ hd
/-- an object of the module -/
theorem pe_g {a : Addr} (h : X.mg x = some (.ref a)) (hg : Gl X x) (hd : (x == ("__debug__" : Str)) = false := by decide) : PE X (.Name x pos) (tC (.ref a)) := pe_glob hg h rfl hd
/-- a built-in class as a value -/
theorem pe_ty {n : String} (h : X.mg x = none) (hg : Gl X x) (hv : bootBuiltins x = some (.type n)) (hn : x ≠ "__name__" := by decide) (hd : (x == ("__debug__" : Str)) = false := by decide) : PE X (.Name x pos) (tC (.ty n)) := pe_bltn hg h hv rfl hn hd
end
/-- a value's class stays seen -/
theorem tyof_up {K : PySem.W.Frag} {H H' : Hp} {x : V} {t : Value} (h : TyOf K H x t) (e : ∀ b o, H b = some o → H' b = some o) : TyOf K H' x t := by
  cases h with
  | non => exact .non
  | bl b => exact .bl b
  | int i => exact .int i
  | str z => exact .str z
  | flt z => exact .flt z
  | lst h => exact .lst (e _ _ h)
  | frz h => exact .frz (e _ _ h)
  | tup h => exact .tup (e _ _ h)
  | dK h => exact .dK (e _ _ h)
  | dT h => exact .dT (e _ _ h)
  | ins h a b c d f => exact .ins (e _ _ h) a b c d f
theorem tyx_up {K : PySem.W.Frag} {H H' : Hp} {x : V} {t : Value} (h : TyX K H x t) (e : ∀ b o, H b = some o → H' b = some o) : TyX K H' x t := by
  cases h with
  | base h => exact .base (tyof_up h e)
  | byt b => exact .byt b
  | set h => exact .set (e _ _ h)
  | kList h c => exact .kList h c
  | kTuple h c => exact .kTuple h c
  | kDict h c => exact .kDict h c
  | fTuple h => exact .fTuple (e _ _ h)
  | fDict h => exact .fDict (e _ _ h)
section
variable {P : Program} {w : World} {K : PySem.W.Frag} {mg : Str → Option Value} {base : Heap}
/-- a method -/
theorem met_of {m qual : Str} {C : Addr} {pa : Arguments} {bd : List Stmt} {sc : Scope} {fd : FuncData} {f : Addr} {N ps : List Str} {k : Nat} {sp : Sp} (cl : Cls K C) (me : Meth K C m f) (F : FunD K m qual pa bd sc [] [] f fd) (S : FnScope N ps sc)
    (hb : ∀ (kV doc pm : Value) (an : Option Addr) (cdv ct : Value) (us : List Value), us.length = ps.length → bindArgs (PySem.W.fnOf m qual pa bd sc .none kV doc pm an cdv ct) ⟨us, []⟩ = pure (ps.zip us))
    (len : ∀ vs H Q E, sp vs H Q E → vs.length = ps.length)
    (body : ∀ (cdv : Value) (A : Around) (outer : List Env) (s : Shared) (H : Hp) (vs : List V) (Q : VK) (E : XK), Room k (A.deeper (envOfC qual sc s.heap.objs.size f cdv)) → sp vs H Q E →
      ∃ t, PSs (cxOf C8.CX0 P w K mg base N qual sc f cdv A outer s H E).nox bd t ∧ t { nx := fun _ H' => Q .non H', rt := Q } (start N vs) H) : C8.Met P w K mg base (k + 1) C m sp [] :=
  ⟨f, fd, ps, [], cl, me, F.ok S len fun cdv A outer s H vs Q E hr hsp => let ⟨t, h, q⟩ := body cdv A outer s H vs Q E hr hsp; ⟨t, h.nox, q⟩, F.bindsN hb, .nil⟩
/-- an __init__ -/
theorem mak_of {x qual : Str} {C : Addr} {pa : Arguments} {bd : List Stmt} {sc : Scope} {fd : FuncData} {f : Addr} {N ps : List Str} {k : Nat} {sp : Sp} (M : Mk K C f) (g : mg x = some (.ref C)) (F : FunD K "__init__" qual pa bd sc [] [] f fd) (S : FnScope N ps sc)
    (hb : ∀ (kV doc pm : Value) (an : Option Addr) (cdv ct : Value) (us : List Value), us.length = ps.length → bindArgs (PySem.W.fnOf "__init__" qual pa bd sc .none kV doc pm an cdv ct) ⟨us, []⟩ = pure (ps.zip us))
    (len : ∀ vs H Q E, sp vs H Q E → vs.length = ps.length)
    (body : ∀ (cdv : Value) (A : Around) (outer : List Env) (s : Shared) (H : Hp) (vs : List V) (Q : VK) (E : XK), Room k (A.deeper (envOfC qual sc s.heap.objs.size f cdv)) → sp vs H Q E →
      ∃ t, PSs (cxOf C8.CX0 P w K mg base N qual sc f cdv A outer s H E).nox bd t ∧ t { nx := fun _ H' => Q .non H', rt := Q } (start N vs) H) : C8.Mak P w K mg base (k + 1) x C sp [] :=
  ⟨f, fd, ps, [], M, F.ok S len fun cdv A outer s H vs Q E hr hsp => let ⟨t, h, q⟩ := body cdv A outer s H vs Q E hr hsp; ⟨t, h.nox, q⟩, g, F.bindsN hb, .nil⟩
end
/-- C() -/
theorem pe_mk0 {X : Cx} {k j : Nat} {C : Addr} {x : Str} {sp : Sp} {p pos : Pos} (c : C8.Mak X.prog X.w X.K X.mg X.base k x C sp []) (hr : Room j X.A) (hk : k + 1 ≤ j) (hg : Gl X x) (hdb : (x == ("__debug__" : Str)) = false := by decide) : PE X (.Call (.Name x p) [] [] pos) (tMake C sp [] E0 tNil) := by
  obtain ⟨f, fd, ps, ds, M, F, hm, b, d⟩ := c.ex
  exact pe_make0 M F (hr.mono hk) hg hm b d C8.pass0 hdb
/-! ### heaps, lists of words -/
theorem same_new {H : Hp} {p : Addr} {o : HO} (h : H p = none) : Same H (upd H p o) := fun a u e => by rw [upd_ne (ne_of_none e h)]; exact e
/-- an object that H does not know may change -/
theorem same_mut {H H' : Hp} {p : Addr} {o : HO} (e : Same H H') (h : H p = none) : Same H (upd H' p o) := fun a u ha => by rw [upd_ne (ne_of_none ha h)]; exact e a u ha
theorem same_free {H H' : Hp} (e : Same H H') {l : Addr} (h : H' l = none) : H l = none := e.free h
theorem same_sqt {K : PySem.W.Frag} {H H' : Hp} {a : Addr} {xs : List V} (e : Same H H') (h : SqT K H a xs) : SqT K H' a xs := by
  rcases h with (h | ⟨o, h⟩) | h
  · exact .inl (.inl (e _ _ h))
  · exact .inl (.inr ⟨o, e _ _ h⟩)
  · exact .inr h
def Wd (i : Int) : Prop := 0 ≤ i ∧ i < 65536
theorem pos_w : (0 : Int) < 65536 := by decide
theorem wd_mod (a : Int) : Wd (a % 65536) := ⟨Int.emod_nonneg _ (by decide), Int.emod_lt_of_pos _ (by decide)⟩
/-- n words -/
structure Wds (n : Nat) (xs : List V) : Prop where
  len : xs.length = n
  all : ∀ x ∈ xs, ∃ i, x = .int i ∧ Wd i
theorem ixn_nat {n j : Nat} (h : j < n) : ixN n (j : Int) = some j := by
  unfold ixN
  rw [if_pos (by omega), if_pos (by omega)]
  rfl
theorem ixn_of {n j : Nat} {z : Int} (e : z = (j : Int)) (h : j < n) : ixN n z = some j := by rw [e]; exact ixn_nat h
theorem Wds.at {n : Nat} {xs : List V} (h : Wds n xs) {z : Int} (h0 : 0 ≤ z) (h1 : z < n) : ∃ i, atI xs z = some (.int i) ∧ Wd i := by
  have hl : z.toNat < xs.length := by rw [h.len]; omega
  obtain ⟨i, e, hi⟩ := h.all xs[z.toNat] (List.getElem_mem hl)
  exact ⟨i, at_of (j := z.toNat) (by omega) (by rw [List.getElem?_eq_getElem hl, e]), hi⟩
theorem Wds.set {n : Nat} {xs : List V} (h : Wds n xs) {j : Nat} {i : Int} (hi : Wd i) : Wds n (xs.set j (.int i)) :=
  ⟨by rw [List.length_set]; exact h.len, fun x hx => by
    rcases List.mem_or_eq_of_mem_set hx with hx | hx
    · exact h.all x hx
    · exact ⟨i, hx, hi⟩⟩
theorem Wds.ix {n : Nat} {xs : List V} (h : Wds n xs) {z : Int} (h0 : 0 ≤ z) (h1 : z < n) : ixN xs.length z = some z.toNat := ixn_of (by omega) (by rw [h.len]; omega)
/-- a new list -/
def RetNew (Φ : List V → Prop) (H : Hp) (Q : VK) : Prop := ∀ p H' xs, H p = none → Same H H' → H' p = some (.lst xs) → Φ xs → Q (.ref p) H'
/-- a new tuple -/
def RetTup (Φ : List V → Prop) (H : Hp) (Q : VK) : Prop := ∀ p H' xs, H p = none → Same H H' → H' p = some (.tup xs) → Φ xs → Q (.ref p) H'
theorem sz0 : 0 ≤ sizeLine := by decide
theorem sz1 : 1 ≤ sizeLine := by decide
theorem sz2 : 2 ≤ sizeLine := by decide
theorem sz3 : 3 ≤ sizeLine := by decide
theorem sz4 : 4 ≤ sizeLine := by decide
theorem sz6 : 6 ≤ sizeLine := by decide
theorem sz7 : 7 ≤ sizeLine := by decide
theorem sz8 : 8 ≤ sizeLine := by decide
theorem sz {n : Nat} (h : n ≤ 100000) : n ≤ sizeLine := Nat.le_trans h (by decide)
theorem szl {n : Nat} (h : n < 100000) : n < sizeLine := Nat.lt_of_lt_of_le h (by decide)
/-! ### comprehensions that take each item by itself; enumerate -/
theorem take_map_succ {α β : Type} (f : α → β) {xs : List α} {i : Nat} {x : α} (h : xs[i]? = some x) : (xs.take (i + 1)).map f = (xs.take i).map f ++ [f x] := by
  obtain ⟨hi, e⟩ := List.getElem?_eq_some_iff.mp h
  rw [List.take_succ_eq_append_getElem hi, List.map_append, e]
  rfl
theorem lc_mapL {K : PySem.W.Frag} {a : Addr} {xs : List V} {j : Nat} {te : TE} {vs : List Nat} {σ : L2.St} {H1 : Hp} {D : Addr} {Qd : Hp → Prop} (f : V → V) (hl : SqL K H1 a xs) (hD : H1 D = none) (hz : xs.length ≤ 100000) (hw : ∀ x, wipe ((wipe σ vs).set j (some x)) vs = wipe σ vs)
    (he : ∀ (i : Nat) x H, xs[i]? = some x → Same H1 H → ∀ Q : VK, (∀ H', Same H H' → Q (f x) H') → te ((wipe σ vs).set j (some x)) H Q) (hq : ∀ H', Same H1 H' → H' D = some (.lst (xs.map f)) → Qd H') :
    ∃ W : Nat → Nat → Hp → Prop, (∃ m, W 0 m (upd H1 D (.lst []))) ∧ ∀ i m H, W i m H →
      ((Itl K a).stop i H ∧ Qd H) ∨ ((Itl K a).go i H ∧ ∃ Nx : Hp → Prop, (∀ H', Nx H' → ∃ m', m' < m ∧ W (i + 1) m' H') ∧ ∀ x H', (Itl K a).yld i H x H' → gName j x (wipe σ vs) H' fun σ2 H2 => wipe σ2 vs = wipe σ vs ∧ tYes σ2 H2 fun b H3 =>
        if b = true then te σ2 H3 fun y H4 => ∃ acc, H4 D = some (.lst acc) ∧ acc.length < sizeLine ∧ Nx (upd H4 D (.lst (acc ++ [y]))) else Nx H3) := by
  have step : ∀ (i : Nat) x H H', xs[i]? = some x → (Same H1 H ∧ H D = some (.lst ((xs.take i).map f))) → Same H H' → ∃ acc, H' D = some (.lst acc) ∧ acc.length < sizeLine ∧ Same H1 (upd H' D (.lst (acc ++ [f x]))) ∧ upd H' D (.lst (acc ++ [f x])) D = some (.lst ((xs.take (i + 1)).map f)) := fun i x H H' hx p e => by
    refine ⟨_, e _ _ p.2, ?_, same_mut (p.1.trans e) hD, by rw [upd_same, take_map_succ f hx]⟩
    have h1 := (List.getElem?_eq_some_iff.mp hx).1
    rw [List.length_map, List.length_take]
    exact szl (by omega)
  refine lc_list (xs := xs) (fun i H => Same H1 H ∧ H D = some (.lst ((xs.take i).map f))) ⟨same_new hD, upd_same⟩ (fun i H _ p => p.1.seq hl) (fun i x H hx p => ⟨hw x, he i x H hx p.1 _ fun H' e => step i x H H' hx p e⟩) fun H p => ?_
  exact hq H p.1 (by rw [p.2, List.take_length])
theorem lc_mapT {K : PySem.W.Frag} {a : Addr} {xs : List V} {j : Nat} {te : TE} {vs : List Nat} {σ : L2.St} {H1 : Hp} {D : Addr} {Qd : Hp → Prop} (f : V → V) (hl : SqT K H1 a xs) (hD : H1 D = none) (hz : xs.length ≤ 100000) (hw : ∀ x, wipe ((wipe σ vs).set j (some x)) vs = wipe σ vs)
    (he : ∀ (i : Nat) x H, xs[i]? = some x → Same H1 H → ∀ Q : VK, (∀ H', Same H H' → Q (f x) H') → te ((wipe σ vs).set j (some x)) H Q) (hq : ∀ H', Same H1 H' → H' D = some (.lst (xs.map f)) → Qd H') :
    ∃ W : Nat → Nat → Hp → Prop, (∃ m, W 0 m (upd H1 D (.lst []))) ∧ ∀ i m H, W i m H →
      ((Itt K a).stop i H ∧ Qd H) ∨ ((Itt K a).go i H ∧ ∃ Nx : Hp → Prop, (∀ H', Nx H' → ∃ m', m' < m ∧ W (i + 1) m' H') ∧ ∀ x H', (Itt K a).yld i H x H' → gName j x (wipe σ vs) H' fun σ2 H2 => wipe σ2 vs = wipe σ vs ∧ tYes σ2 H2 fun b H3 =>
        if b = true then te σ2 H3 fun y H4 => ∃ acc, H4 D = some (.lst acc) ∧ acc.length < sizeLine ∧ Nx (upd H4 D (.lst (acc ++ [y]))) else Nx H3) := by
  have step : ∀ (i : Nat) x H H', xs[i]? = some x → (Same H1 H ∧ H D = some (.lst ((xs.take i).map f))) → Same H H' → ∃ acc, H' D = some (.lst acc) ∧ acc.length < sizeLine ∧ Same H1 (upd H' D (.lst (acc ++ [f x]))) ∧ upd H' D (.lst (acc ++ [f x])) D = some (.lst ((xs.take (i + 1)).map f)) := fun i x H H' hx p e => by
    refine ⟨_, e _ _ p.2, ?_, same_mut (p.1.trans e) hD, by rw [upd_same, take_map_succ f hx]⟩
    have h1 := (List.getElem?_eq_some_iff.mp hx).1
    rw [List.length_map, List.length_take]
    exact szl (by omega)
  refine lc_tup (xs := xs) (fun i H => Same H1 H ∧ H D = some (.lst ((xs.take i).map f))) ⟨same_new hD, upd_same⟩ (fun i H _ p => same_sqt p.1 hl) (fun i x H hx p => ⟨hw x, he i x H hx p.1 _ fun H' e => step i x H H' hx p e⟩) fun H p => ?_
  exact hq H p.1 (by rw [p.2, List.take_length])
/-- for i, x in enumerate(a list): the body leaves the list as it is -/
theorem for_enum {K : PySem.W.Frag} {a : Addr} {xs : List V} {g : TG} {tb : TS} {D : Ends} {σ : L2.St} {H : Hp} (Pv : Nat → L2.St → Hp → Prop) (h0 : Pv 0 σ H) (hl : ∀ i σ H, i ≤ xs.length → Pv i σ H → SqL K H a xs)
    (hs : ∀ (i : Nat) x σ H t, xs[i]? = some x → Pv i σ H → H t = none → g (.ref t) σ (upd H t (.tup [.int (i : Nat), x])) fun σ2 H2 => tb { D with nx := Pv (i + 1), ct := Pv (i + 1), bk := D.nx } σ2 H2) (hd : ∀ σ H, Pv xs.length σ H → D.nx σ H) :
    ∃ W : Nat → Nat → L2.St → Hp → Prop, (∃ m, W 0 m σ H) ∧ ∀ i m σ H, W i m σ H →
      ((Ite K a).stop i H ∧ D.nx σ H) ∨ ((Ite K a).go i H ∧ ∃ N : L2.St → Hp → Prop, (∀ σ' H', N σ' H' → ∃ m', m' < m ∧ W (i + 1) m' σ' H') ∧ ∀ x H', (Ite K a).yld i H x H' → g x σ H' fun σ2 H2 => tb { D with nx := N, ct := N, bk := D.nx } σ2 H2) := by
  refine ⟨fun i m σ H => m = xs.length - i ∧ i ≤ xs.length ∧ Pv i σ H, ⟨xs.length, by simp, Nat.zero_le _, h0⟩, ?_⟩
  rintro i m σ H ⟨rfl, hi, pv⟩
  have ql := hl i σ H hi pv
  by_cases lt : i < xs.length
  · refine .inr ⟨⟨xs, xs[i], ql, List.getElem?_eq_getElem lt⟩, Pv (i + 1), fun σ' H' pv' => ⟨xs.length - (i + 1), by omega, rfl, lt, pv'⟩, ?_⟩
    rintro _ _ ⟨t, x, rfl, ht, rfl, hx⟩
    exact hs i x σ H t (hx xs ql) pv ht
  · obtain rfl : i = xs.length := by omega
    exact .inl ⟨⟨xs, ql, Nat.le_refl _⟩, hd σ H pv⟩
/-! ### ways -/
theorem iteD {p A B : Prop} [Decidable p] (h1 : p → A) (h2 : ¬ p → B) : if decide p = true then A else B := by
  by_cases h : p
  · rw [decide_eq_true h]; exact iteT (h1 h)
  · rw [decide_eq_false h]; exact iteF (h2 h)
theorem iteN {p A B : Prop} [Decidable p] (h1 : ¬ p → A) (h2 : p → B) : if (!decide p) = true then A else B := by
  by_cases h : p
  · rw [decide_eq_true h]; exact iteF (h2 h)
  · rw [decide_eq_false h]; exact iteT (h1 h)
theorem iteB {b : Bool} {A B : Prop} (h1 : b = true → A) (h2 : b = false → B) : if b = true then A else B := by
  cases b with
  | true => exact iteT (h1 rfl)
  | false => exact iteF (h2 rfl)
theorem iteBN {b : Bool} {A B : Prop} (h1 : b = false → A) (h2 : b = true → B) : if (!b) = true then A else B := by
  cases b with
  | true => exact iteF (h2 rfl)
  | false => exact iteT (h1 rfl)
theorem q_int {Q : VK} {H : Hp} {a b : Int} (h : Q (.int b) H) (e : a = b) : Q (.int a) H := e ▸ h
theorem q_bl {Q : VK} {H : Hp} {a b : Bool} (h : Q (.bl b) H) (e : a = b) : Q (.bl a) H := e ▸ h
end K97
set_option maxHeartbeats 4000000
/-! Rules for the module's own tables: len, list, get. -/
namespace K97
open PySem PySem.Spec PyProof.Rows L2
/-- a table of the module, its keys in order -/
structure KTab (K : PySem.W.Frag) (w : World) (a : Addr) (ks : List Str) (es : Array DictEntry) (n : Nat) : Prop where
  d : KDict K w a es n
  keys : es.toList.map He.keyOf = He.keysIn w.params ks
theorem ktab_of {K : PySem.W.Frag} {w : World} {a : Addr} {ks : List Str} (h : He.dicW K a = some (He.keysIn w.params ks)) : ∃ es n, KTab K w a ks es n := by
  obtain ⟨es, n, D⟩ := He.dicW_ok h
  refine ⟨es, n, D, ?_⟩
  unfold He.dicW at h
  rw [D.at_] at h
  have h1 : (match decide (("dict" : String) = "dict") && ((#[] : Array (Option Value)).isEmpty && !(a == sysModules)) with
    | true => some (es.toList.map He.keyOf)
    | false => none) = some (He.keysIn w.params ks) := h
  rw [D.low] at h1
  exact Option.some.inj h1
theorem KTab.size {K : PySem.W.Frag} {w : World} {a : Addr} {ks : List Str} {es : Array DictEntry} {n : Nat} (t : KTab K w a ks es n) : es.size = ks.length := by
  have h := congrArg List.length t.keys
  rw [List.length_map, He.keysIn, List.length_map, Array.length_toList] at h
  exact h
theorem KTab.key {K : PySem.W.Frag} {w : World} {a : Addr} {ks : List Str} {es : Array DictEntry} {n : Nat} (t : KTab K w a ks es n) {j : Nat} {en : DictEntry} (h : es[j]? = some en) : ∃ x tk, ks[j]? = some x ∧ en.key = .str x tk := by
  have h1 : (es.toList.map He.keyOf)[j]? = (He.keysIn w.params ks)[j]? := by rw [t.keys]
  rw [List.getElem?_map, Array.getElem?_toList, h, He.keysIn, List.getElem?_map] at h1
  cases hk : ks[j]? with
  | none => rw [hk] at h1; cases h1
  | some x =>
    rw [hk] at h1
    have h2 : He.keyOf en = some (x, PyData.keyHash w.params x) := Option.some.inj h1
    unfold He.keyOf at h2
    split at h2
    · rename_i y tk e
      have h3 := Option.some.inj h2
      have h4 : y = x := (Prod.mk.inj h3).1
      exact ⟨x, tk, rfl, by rw [e, h4]⟩
    · cases h2
section
variable {X : Cx}
/-- list(a table): its keys -/
theorem call_listK (hc : X.calm = true) : CallR X (.type "list") (fun xs H Q => ∃ a ks es n, xs = [.ref a] ∧ KTab X.K X.w a ks es n ∧ ks.length ≤ 1000 ∧ ∀ p, H p = none → Q (.ref p) (upd H p (.lst (ks.map V.str)))) := by
  intro pins s σ H xs us Q I r h
  obtain ⟨a, ks, es, n, rfl, D, hz, q⟩ := h
  obtain ⟨u, rfl, rx⟩ := vals1 r
  cases rx
  have hs := D.size
  have ho : s.heap.get? a = some ⟨.type "dict", none, .dict es n, #[]⟩ := I.kIn _ _ D.d.at_
  refine PySem.W.kdl_call (kdl_raw D.d.low ⟨rfl, rfl, rfl⟩ rfl) (I.ok.hd hc) ho (by rw [hs]; exact sz (by omega)) fun h' tk acc c kp e it => ?_
  have rv : Vals (ks.map V.str) acc.toList := by
    have hlen : (ks.map V.str).length = acc.toList.length := by
      have h1 := it.1
      have h2 : acc.toList.length = acc.size := by simp
      rw [List.length_map]
      omega
    refine vals_of_at hlen fun j x u hx hu => ?_
    rw [Array.getElem?_toList] at hu
    obtain ⟨en, he, rfl⟩ := it.2 j u hu
    obtain ⟨y, tk2, h1, h2⟩ := D.key he
    rw [List.getElem?_map, h1] at hx
    cases hx
    exact ⟨tk2, h2⟩
  refine ⟨.ref s.heap.objs.size, _, I.laid (t' := tk) (o := .lst (ks.map V.str)) kp (Nat.le_refl _) ?_, rfl, q _ (I.hok.fresh (Nat.le_refl _))⟩
  exact ⟨by rw [List.length_map]; exact sz (by omega), acc.toList, c, rv, by rw [Array.toArray_toList]; exact e⟩
theorem pairs_of {P : Program} {w : World} : ∀ {l : List DictEntry} {ks : List Str}, l.map He.keyOf = He.keysIn w.params ks → ∃ kvs : List (Str × Value), Pairs (strKind P w) l kvs ∧ kvs.map (·.1) = ks
  | [], [], _ => ⟨[], .nil, rfl⟩
  | [], _ :: _, h => by cases h
  | _ :: _, [], h => by cases h
  | e :: r, k :: ks, h => by
    have h1 : He.keyOf e :: r.map He.keyOf = some (k, PyData.keyHash w.params k) :: He.keysIn w.params ks := h
    injection h1 with h2 h3
    obtain ⟨kvs, p, q⟩ := pairs_of (P := P) h3
    unfold He.keyOf at h2
    split at h2
    · rename_i y tk ey
      have h4 : y = k := (Prod.mk.inj (Option.some.inj h2)).1
      exact ⟨(k, e.val) :: kvs, .cons (by rw [ey, h4]; exact strKind_is P w k tk) rfl p, by rw [List.map_cons, q]⟩
    · cases h2
theorem KTab.dictOf {P : Program} {K : PySem.W.Frag} {w : World} {a : Addr} {ks : List Str} {es : Array DictEntry} {n : Nat} {h : Heap} (t : KTab K w a ks es n) (X : K.In h) (nd : ks.Nodup) : ∃ kvs : List (Str × Value), h.DictOf (strKind P w) a kvs ∧ kvs.length = ks.length := by
  obtain ⟨kvs, p, q⟩ := pairs_of (P := P) t.keys
  obtain ⟨o, es', ep, h1, h2, h3, h4, _⟩ := PySem.W.mapOf_K (prog := P) (w := w) X t.d.at_ t.d.lit
  have e1 := X _ _ t.d.at_
  rw [h1] at e1
  cases e1
  injection h3 with h3 _
  subst h3
  exact ⟨kvs, ⟨_, _, _, h1, h2, rfl, h4, p, by rw [q]; exact nd⟩, by rw [← q, List.length_map]⟩
/-- len(a table) -/
theorem call_lenK : CallR X (.builtin "len") (fun xs H Q => ∃ a ks es n, xs = [.ref a] ∧ KTab X.K X.w a ks es n ∧ ks.Nodup ∧ ks.length ≤ 1000 ∧ Q (.int ks.length) H) := by
  intro pins s σ H xs us Q I r h
  obtain ⟨a, ks, es, n, rfl, D, nd, hz, q⟩ := h
  obtain ⟨u, rfl, rx⟩ := vals1 r
  cases rx
  obtain ⟨kvs, d, hl⟩ := D.dictOf (P := X.prog) I.kIn nd
  refine call_len_dict D.d.low d (by rw [hl]; omega) ?_
  rw [hl]
  exact ⟨.int ks.length, H, I.tok _, ⟨_, rfl⟩, q⟩
/-- d.get(e, f), d a table: the value there, or f's -/
def tKGet (K : PySem.W.Frag) (w : World) (td ty tx : TE) : TE := fun σ H Q => td σ H fun x H1 => ty σ H1 fun y H2 => tx σ H2 fun z H3 => ∃ a es n k, x = .ref a ∧ y = .str k ∧ KDict K w a es n ∧
  ((∃ u v, PySem.W.nsIn K a k = some (some u) ∧ RelV v u ∧ Q v H3) ∨ (PySem.W.nsIn K a k = some none ∧ Q z H3))
theorem pe_kget {o e f : Expr} {apos cpos : Pos} {a : Addr} {es : Array DictEntry} {n : Nat} {ty tx : TE} (D : KDict X.K X.w a es n) (ho : PE X o (tC (.ref a))) (he : PE X e ty) (hf : PE X f tx) (m : M2 X o "get" apos e f cpos) :
    PE X (.Call (.Attribute o "get" apos) [e, f] [] cpos) (tKGet X.K X.w (tC (.ref a)) ty tx) := by
  refine ⟨fun pins s σ H Q I h => ?_⟩
  refine wpAny_Call_method m.base m.few m.line PySem.F.plainAttrs_dict PySem.F.slot_dict_get PySem.F.type_dict_get (thn (ho.run pins s σ H (fun x H1 => x = .ref a ∧ H1 = H) I ⟨rfl, rfl⟩) fun u s1 ⟨x, H1, I1, rx, ex, eH⟩ => ?_)
  subst ex eH
  obtain rfl : u = Value.ref a := rx
  have dm := PySem.W.mapOf_K (prog := X.prog) (w := X.w) I1.kIn D.at_ D.lit
  refine ⟨dm.typeIs, fun b q => ?_, ?_⟩
  · cases q
    exact ⟨_, I1.kIn _ _ D.at_, rfl⟩
  rw [m.trees]
  refine Calls.callWith_builtin rfl (Calls.evalArgs_plain (Calls.spliced_cons (thn (he.run pins s1 σ H1 _ I1 h) fun iv s2 ⟨y, H2, I2, ry, q2⟩ =>
    Calls.spliced_cons (thn (hf.run pins s2 σ H2 _ I2 q2) fun fv s3 ⟨z, H3, I3, rz, a', es', n', k, e1, e2, D', q3⟩ => Calls.spliced_nil ?_))))
  cases e1
  subst e2
  obtain ⟨t, rfl⟩ := ry
  have dm3 := PySem.W.mapOf_K (prog := X.prog) (w := X.w) I3.kIn D.at_ D.lit
  refine call_meetsIn PySem.F.slot_dict_get dm3.typeIs PySem.F.entry_dict_get (PySem.F.args_dict_get_3 _ _ _) (meets_dict_get_default (strKind X.prog X.w) a (strKind_is X.prog X.w k t) D.low fv) ⟨_, dm3, ?_⟩
  rcases q3 with ⟨u, v, hn, rv, q⟩ | ⟨hn, q⟩
  · rw [PySem.W.find_K D.at_ hn]
    exact ⟨v, H3, I3.tok _, rv, q⟩
  · rw [PySem.W.find_K D.at_ hn]
    exact ⟨z, H3, I3.tok _, rz, q⟩
end
end K97
set_option maxHeartbeats 4000000
/-! Defs that errors leave; a value that is called; an own error without arguments. -/
namespace K97
open PySem PySem.Spec PyProof.Rows L2
/-- a def of the module that errors may leave -/
structure CalX (P : Program) (w : World) (K : PySem.W.Frag) (mg : Str → Option Value) (base : Heap) (k : Nat) (x : Str) (sp : Sp) : Prop where
  ex : ∃ (f : Addr) (fd : FuncData) (ps : List Str), FnOk P w K mg base (L2.CX P w) k f fd ps sp ∧ mg x = some (.ref f) ∧ PySem.W.keepIn K (.ref f) = true ∧ Binds K fd ps []
/-- a function at f -/
structure FunX (P : Program) (w : World) (K : PySem.W.Frag) (mg : Str → Option Value) (base : Heap) (k : Nat) (f : Addr) (sp : Sp) : Prop where
  ex : ∃ (fd : FuncData) (ps : List Str), FnOk P w K mg base (L2.CX P w) k f fd ps sp ∧ PySem.W.keepIn K (.ref f) = true ∧ Binds K fd ps []
section
variable {P : Program} {w : World} {K : PySem.W.Frag} {mg : Str → Option Value} {base : Heap}
theorem calX_of {x : Str} {pa : Arguments} {bd : List Stmt} {sc : Scope} {fd : FuncData} {f : Addr} {N ps : List Str} {k : Nat} {sp : Sp} (F : FunD K x x pa bd sc [] [] f fd) (g : mg x = some (.ref f)) (S : FnScope N ps sc)
    (hb : ∀ (kV doc pm : Value) (an : Option Addr) (cdv ct : Value) (us : List Value), us.length = ps.length → bindArgs (PySem.W.fnOf x x pa bd sc .none kV doc pm an cdv ct) ⟨us, []⟩ = pure (ps.zip us))
    (len : ∀ vs H Q E, sp vs H Q E → vs.length = ps.length)
    (body : ∀ (cdv : Value) (A : Around) (outer : List Env) (s : Shared) (H : Hp) (vs : List V) (Q : VK) (E : XK), Room k (A.deeper (envOfC x sc s.heap.objs.size f cdv)) → sp vs H Q E →
      ∃ t, PSs (cxOf (L2.CX P w) P w K mg base N x sc f cdv A outer s H E) bd t ∧ t { nx := fun _ H' => Q .non H', rt := Q } (start N vs) H) : CalX P w K mg base (k + 1) x sp :=
  ⟨f, fd, ps, F.ok S len fun cdv A outer s H vs Q E hr hsp => body cdv A outer s H vs Q E hr hsp, g, F.kp, F.bindsN hb⟩
/-- one parameter, by its name or by its place -/
structure CalXK (P : Program) (w : World) (K : PySem.W.Frag) (mg : Str → Option Value) (base : Heap) (k : Nat) (x n : Str) (sp : Sp) : Prop where
  ex : ∃ (f : Addr) (fd : FuncData), FnOk P w K mg base (L2.CX P w) k f fd [n] sp ∧ mg x = some (.ref f) ∧ PySem.W.keepIn K (.ref f) = true ∧ Binds K fd [n] [] ∧ KBinds K fd [n] [n] one1 one1
theorem CalXK.c {k : Nat} {x n : Str} {sp : Sp} (c : CalXK P w K mg base k x n sp) : CalX P w K mg base k x sp := by
  obtain ⟨f, fd, F, g, kp, b, _⟩ := c.ex
  exact ⟨f, fd, [n], F, g, kp, b⟩
theorem calXK_of {x n : Str} {pa : Arguments} {bd : List Stmt} {sc : Scope} {fd : FuncData} {f : Addr} {N : List Str} {k : Nat} {sp : Sp} (F : FunD K x x pa bd sc [] [] f fd) (g : mg x = some (.ref f)) (S : FnScope N [n] sc)
    (hb : ∀ (kV doc pm : Value) (an : Option Addr) (cdv ct : Value) (us : List Value), us.length = 1 → bindArgs (PySem.W.fnOf x x pa bd sc .none kV doc pm an cdv ct) ⟨us, []⟩ = pure ([n].zip us))
    (len : ∀ vs H Q E, sp vs H Q E → vs.length = 1)
    (body : ∀ (cdv : Value) (A : Around) (outer : List Env) (s : Shared) (H : Hp) (vs : List V) (Q : VK) (E : XK), Room k (A.deeper (envOfC x sc s.heap.objs.size f cdv)) → sp vs H Q E →
      ∃ t, PSs (cxOf (L2.CX P w) P w K mg base N x sc f cdv A outer s H E) bd t ∧ t { nx := fun _ H' => Q .non H', rt := Q } (start N vs) H)
    (hk : ∀ (kV doc pm : Value) (an : Option Addr) (cdv ct v : Value), bindArgs (PySem.W.fnOf x x pa bd sc .none kV doc pm an cdv ct) ⟨[], [(n, v)]⟩ = pure [(n, v)] := by intros; rfl) : CalXK P w K mg base (k + 1) x n sp :=
  ⟨f, fd, F.ok S len fun cdv A outer s H vs Q E hr hsp => body cdv A outer s H vs Q E hr hsp, g, F.kp, F.bindsN hb, kb_of F hb hk⟩
theorem CalX.at_ {k : Nat} {x : Str} {sp : Sp} (c : CalX P w K mg base k x sp) {f : Addr} (g : mg x = some (.ref f)) : FunX P w K mg base k f sp := by
  obtain ⟨f', fd, ps, F, hm, kp, b⟩ := c.ex
  rw [g] at hm
  cases hm
  exact ⟨fd, ps, F, kp, b⟩
/-- a def that no error leaves -/
theorem FunX.of0 {k : Nat} {x : Str} {sp : Sp} (c : C8.Cal P w K mg base k x sp []) {f : Addr} (g : mg x = some (.ref f)) : ∃ (fd : FuncData) (ps : List Str), FnOk P w K mg base C8.CX0 k f fd ps sp ∧ PySem.W.keepIn K (.ref f) = true ∧ Binds K fd ps [] := by
  obtain ⟨f', fd, ps, ds, F, hm, kp, b, d⟩ := c.ex
  rw [g] at hm
  cases hm
  cases d
  exact ⟨fd, ps, F, kp, b⟩
end
section
variable {X : Cx} {k j : Nat} {x : Str} {sp : Sp} {p pos : Pos} {e : Expr} {es : List Expr} {t : TA} {W : WX}
/-- f(e, ..), errors may leave f -/
theorem pe_cX (c : CalX X.prog X.w X.K X.mg X.base k x sp) (tk : Takes X W) (hr : Room j X.A) (hk : k ≤ j) (hg : Gl X x) (ha : PA X (e :: es) t) (hdb : (x == ("__debug__" : Str)) = false := by decide)
    (he : starEach (e :: es) X.env = (false, eval e X.env) :: starEach es X.env := by rfl) (hpl : (backTo pos (starEach es X.env)).any (·.1) = false := by rfl) : PE X (.Call (.Name x p) (e :: es) [] pos) (tCallS sp (WE W) t) := by
  obtain ⟨f, fd, ps, F, hm, kp, b⟩ := c.ex
  exact pe_callS F (hr.mono hk) hg hm kp b (fun σ => passAt tk σ) ha hdb he hpl
/-- f(n = e), errors may leave f -/
theorem pe_ckX {n : Str} {kp : Pos} {te : TE} (c : CalXK X.prog X.w X.K X.mg X.base k x n sp) (tk : Takes X W) (hr : Room j X.A) (hk : k ≤ j) (hg : Gl X x) (he : PE X e te) {E : XK} (hE : ∀ cls d σ H, E cls d H → W cls d σ H) (hdb : (x == ("__debug__" : Str)) = false := by decide) :
    PE X (.Call (.Name x p) [] [⟨some n, e, kp⟩] pos) (tCallK sp one1 E tNil (tCons te tNil)) := by
  obtain ⟨f, fd, F, hm, kp, b, kb⟩ := c.ex
  exact pe_kw0 F (hr.mono hk) hg hm kp kb (passes_call tk hE) (pk_cons he pk_nil) hdb
/-- what may be called in the name of a value: the function at f keeps sp, errors leave it or not -/
def Callee (P : Program) (w : World) (K : PySem.W.Frag) (mg : Str → Option Value) (base : Heap) (j : Nat) (f : Addr) (sp : Sp) : Prop :=
  (∃ k, k ≤ j ∧ FunX P w K mg base k f sp) ∨ ∃ k, k ≤ j ∧ ∃ (fd : FuncData) (ps : List Str), FnOk P w K mg base C8.CX0 k f fd ps sp ∧ PySem.W.keepIn K (.ref f) = true ∧ Binds K fd ps []
/-- e(e1, ..), e any expression that gives a function -/
def tCallE (P : Program) (w : World) (K : PySem.W.Frag) (mg : Str → Option Value) (base : Heap) (j : Nat) (W : WX) (tf : TE) (t : TA) : TE := fun σ H Q => tf σ H fun v H1 => ∃ f sp, v = .ref f ∧ Callee P w K mg base j f sp ∧ t σ H1 fun vs H2 => sp vs H2 Q (WE W σ)
theorem callee_run {f : Addr} {pins : List (Addr × Obj)} {σ : L2.St} {H : Hp} {s : Shared} {Q : VK} {us : List Value} {vs : List V} (c : Callee X.prog X.w X.K X.mg X.base j f sp) (tk : Takes X W) (hr : Room j X.A)
    (I : Inv X pins σ H s) (r : Vals vs us) (h : sp vs H Q (WE W σ)) : wpAny (model X.prog X.w) X.A (call (.ref f) us) (EP X pins σ Q) X.xe s := by
  rcases c with ⟨k, hk, ⟨fd, ps, F, kp, b⟩⟩ | ⟨k, hk, fd, ps, F, kp, b⟩
  · exact run_fnS (E := WE W) F (hr.mono hk) b (passAt tk σ) I r h
  · exact run_fnS (E := WE W) F (hr.mono hk) b (fun _ _ _ _ _ _ z => z.elim) I r h
theorem Callee.kp {P : Program} {w : World} {K : PySem.W.Frag} {mg : Str → Option Value} {base : Heap} {f : Addr} (c : Callee P w K mg base j f sp) : PySem.W.keepIn K (.ref f) = true := by
  rcases c with ⟨k, hk, ⟨fd, ps, F, kp, b⟩⟩ | ⟨k, hk, fd, ps, F, kp, b⟩ <;> exact kp
/-- x(e, ..), x a local -/
theorem pe_cvX {fe : Expr} {tf : TE} (hf : PE X fe tf) (tk : Takes X W) (hr : Room j X.A) (ha : PA X (e :: es) t)
    (he : starEach (e :: es) X.env = (false, eval e X.env) :: starEach es X.env := by rfl) (hpl : (backTo pos (starEach es X.env)).any (·.1) = false := by rfl)
    (hev : eval (.Call fe (e :: es) [] pos) X.env = (do callWith pos (← eval fe X.env) [] (backTo pos (starEach (e :: es) X.env)) (backToKw pos (keywordEach [] X.env))) := by rfl) :
    PE X (.Call fe (e :: es) [] pos) (tCallE X.prog X.w X.K X.mg X.base j W tf t) := by
  refine ⟨fun pins s σ H Q I h => ?_⟩
  refine Call_ (thn (hf.run pins s σ H _ I h) fun u s1 ⟨v, H1, I1, r1, f, sp, ev, c, q⟩ => ?_) hev
  subst ev
  obtain rfl : u = Value.ref f := r1
  refine PySem.W.callWith_K (h₀ := X.base) I1.ok.mod.kin c.kp (thn (ha.run pos pins s1 σ H1 _ I1 q) fun us s2 ⟨vs, H2, I2, r2, q2⟩ => ⟨I2.kIn, ?_⟩) he hpl
  exact callee_run c tk hr I2 r2 q2
/-! ### X(), X an own error with an __init__ of its own -/
theorem pmk_oex0 {CX : CXT} {C fI : Addr} {fd : FuncData} {ps : List Str} (T : OexC X.K C) (iC : PySem.W.findIn X.K (.ref C) "__init__" = some (some (.ref fI))) (tI : PySem.W.typeIn X.K (.ref fI) = some (.type "function"))
    (F1 : FnOk X.prog X.w X.K X.mg X.base CX k fI fd ps sp) (hr : Room (k + 1) X.A) (hb : Binds X.K fd ps []) (hx : Passes CX X (fun _ _ _ => False)) (hg : Gl X x) (hm : X.mg x = some (.ref C)) (hdb : (x == ("__debug__" : Str)) = false := by decide) :
    PMk X (.Call (.Name x p) [] [] pos) (tMkO C sp [] tNil) := by
  intro pins s σ H Q I h
  obtain ⟨c1, c2, c3, c4, bm, c6, c7, c8, c9, c10, c11, c12, c13, c14, c15, hC, hbm⟩ := T.cls
  refine wpAny_Call_Name_kw (ld_glob I hg hm ?_ hdb)
  refine PySem.W.callWith_K0 I.kIn T.kC ?_
  obtain ⟨hp, g, dr, tk, os⟩ := s
  obtain ⟨n, hn⟩ : ∃ n, n = hp.objs.size := ⟨_, rfl⟩
  have free : H (n + 1) = none := I.hok.fresh (by rw [hn]; exact Nat.le_succ _)
  have told := h.2 (n + 1) free
  have grow : ∀ b o, hp.get? b = some o → ((hp.push (PySem.W.kdv_tup [])).push (PySem.HandSPX.excO C n)).get? b = some o := fun b o z => Heap.get?_push_of_some _ (Heap.get?_push_of_some _ z)
  have there : ((hp.push (PySem.W.kdv_tup [])).push (PySem.HandSPX.excO C n)).get? (n + 1) = some (PySem.HandSPX.excO C n) := by rw [hn]; heap_get
  have J : Inv X pins σ (upd H (n + 1) (exo (n + 1) C none)) ⟨(hp.push (PySem.W.kdv_tup [])).push (PySem.HandSPX.excO C n), g, dr, tk, os⟩ :=
    I.laid (t' := tk) (a := n + 1) (o := exo (n + 1) C none) (h' := (hp.push (PySem.W.kdv_tup [])).push (PySem.HandSPX.excO C n)) grow (by rw [hn]; exact Nat.le_succ _) (exo_ok there)
  have rel : Vals [V.ref (n + 1)] [Value.ref (n + 1)] := .cons rfl .nil
  have lens : [Value.ref (n + 1)].length = ps.length := (F1.len _ _ _ _ told)
  subst hn
  refine wpAny_call (PySem.HandSPX.call_own F.excBase_ValueError (fun Y => PySem.HandSPX.refsVE_contains Y bm hbm) (rest := []) (I.kIn _ _ hC) (PySem.W.looks_findIn I.kIn iC) (fun self => PySem.W.bind_fn I.kIn self tI) (Nat.zero_le _)
    (codeAny_mono (F1.run _ X.stack _ _ ⟨[Value.ref (hp.objs.size + 1)], []⟩ [Value.ref (hp.objs.size + 1)] _ _ (fun _ _ _ => False) (hr.make C [] []) (J.env0.make C [] []) (hb _ [Value.ref (hp.objs.size + 1)] J.kIn lens) rel told) fun r s' done => ?_))
  cases r with
  | error er => exact hx pins σ _ _ er s' J done
  | ok fl =>
    cases fl with
    | ret u =>
      obtain ⟨v, H2, oo, bare, un, hok2, rv, ev, d, fs, ea, ed, hd, q⟩ := done
      subst ev
      obtain ⟨h2, g2, d2, t2, os2⟩ := s'
      exact ⟨rv, mk_end (raises_own T.exC T.tyC) I (Nat.le_succ _) grow un hok2 oo bare ea ed hd q⟩
    | next => exact False.elim done
    | brk => exact False.elim done
    | cont => exact False.elim done
end
/-! ### the classes of errors that are raised -/
theorem oex_of {K : PySem.W.Frag} {C : Addr} (h : oexB K C = true) (sa : PySem.W.findIn K (.ref C) "__setattr__" = some (some (.builtin "object.__setattr__"))) (xf : XfC K C) (ty : PySem.W.typeIn K (.ref C) = some (.type "type")) (kc : PySem.W.keepIn K (.ref C) = true) : OexC K C := by
  refine ⟨?_, sa, xf.exC, ty, kc⟩
  unfold oexB at h
  split at h
  · rename_i t dd cd sl hl
    rw [Bool.and_eq_true, decide_eq_true_eq] at h
    obtain ⟨rfl, h⟩ := h
    split at h
    · rename_i C' bm k0 k1 k2 k3 n k5 hm hs
      simp only [Bool.and_eq_true, decide_eq_true_eq, Bool.not_eq_true'] at h
      obtain ⟨rfl, rfl, hb, hd, hdel⟩ := h
      obtain ⟨nm, bs, mro, ns, qn, hdct, sn, sub, ab, col, del⟩ := cd
      dsimp only at hm hd hdel
      subst hm hd hdel
      refine ⟨nm, qn, ns, bs, bm, sn, sub, ab, col, dd, k0, k1, k2, k3, k5, ?_, hb⟩
      rw [hl]
      have : sl = #[k0, k1, k2, k3, some (.builtin "ValueError.__new__"), k5] := by
        rw [← Array.toList_inj, hs]
      rw [this]
    · cases h
  · cases h
section
variable {K : PySem.W.Frag} {w : World} {mg : Str → Option Value}
theorem Hd.e_InvalidRow (T : Hd K w mg) : OexC K (He.ga K "InvalidRow") := oex_of T.x_oex_InvalidRow (He.eqO_ok T.x_sa_InvalidRow) (xfB_ok T.x_xf_InvalidRow) (of_decide_eq_true T.x_ty_InvalidRow) T.x_kc_InvalidRow
theorem Hd.e_InvalidRowList (T : Hd K w mg) : OexC K (He.ga K "InvalidRowList") := oex_of T.x_oex_InvalidRowList (He.eqO_ok T.x_sa_InvalidRowList) (xfB_ok T.x_xf_InvalidRowList) (of_decide_eq_true T.x_ty_InvalidRowList) T.x_kc_InvalidRowList
theorem Hd.e_DividedByNought (T : Hd K w mg) : OexC K (He.ga K "DividedByNought") := oex_of T.x_oex_DividedByNought (He.eqO_ok T.x_sa_DividedByNought) (xfB_ok T.x_xf_DividedByNought) (of_decide_eq_true T.x_ty_DividedByNought) T.x_kc_DividedByNought
end
end K97
set_option maxHeartbeats 4000000
/-! What values are; words of sixteen bits. -/
namespace K97
open PySem PySem.Spec PyProof.Rows L2
local macro_rules | `(tactic| walk_at "v") => `(tactic| refine ⟨_, rfl, ?_⟩)
local macro_rules | `(tactic| walk_at "ii") => `(tactic| refine ⟨_, _, rfl, rfl, ?_⟩)
/-- one step of a reading: a name, two whole numbers, a scalar comparison, a truth value -/
local macro_rules | `(tactic| walk_at "s") => `(tactic| first | refine ⟨_, rfl, ?_⟩ | refine ⟨_, _, rfl, rfl, ?_⟩ | refine ⟨rfl, ?_⟩ | exact iteT (by walk_at "s") | exact iteF (by walk_at "s"))
local macro_rules | `(tactic| walk_at "r") => `(tactic| (repeat (first | refine ⟨_, rfl, ?_⟩ | refine ⟨_, _, rfl, rfl, ?_⟩ | refine ⟨rfl, ?_⟩ | refine iteT ?_ | refine iteF ?_)))

section
variable {P : Program} {w : World} {K : PySem.W.Frag} {mg : Str → Option Value} {base : Heap}
/-- a value whose class is seen: is it an int, a bool -/
def Seen (K : PySem.W.Frag) (H : Hp) (x : V) : Prop := ∃ t, TyX K H x (.type t) ∧ kitB t "int" = some (match x with | .int _ => true | .bl _ => true | _ => false) ∧ kitB t "bool" = some (match x with | .bl _ => true | _ => false) ∧
  kitB t "list" = some (decide (t = "list")) ∧ kitB t "tuple" = some (decide (t = "tuple")) ∧ kitB t "str" = some (match x with | .str _ => true | _ => false)
theorem Seen.int {H : Hp} {i : Int} : Seen K H (.int i) := ⟨"int", .base (.int _), (by show kitB "int" "int" = some true; decide +kernel), (by show kitB "int" "bool" = some false; decide +kernel), (by decide +kernel), (by decide +kernel), (by show kitB "int" "str" = some false; decide +kernel)⟩
theorem Seen.bl {H : Hp} {b : Bool} : Seen K H (.bl b) := ⟨"bool", .base (.bl _), (by show kitB "bool" "int" = some true; decide +kernel), (by show kitB "bool" "bool" = some true; decide +kernel), (by decide +kernel), (by decide +kernel), (by show kitB "bool" "str" = some false; decide +kernel)⟩
theorem Seen.non {H : Hp}  : Seen K H .non := ⟨"NoneType", .base .non, (by show kitB "NoneType" "int" = some false; decide +kernel), (by show kitB "NoneType" "bool" = some false; decide +kernel), (by decide +kernel), (by decide +kernel), (by show kitB "NoneType" "str" = some false; decide +kernel)⟩
theorem Seen.str {H : Hp} {z : Str} : Seen K H (.str z) := ⟨"str", .base (.str _), (by show kitB "str" "int" = some false; decide +kernel), (by show kitB "str" "bool" = some false; decide +kernel), (by decide +kernel), (by decide +kernel), (by show kitB "str" "str" = some true; decide +kernel)⟩
theorem Seen.lst {H : Hp} {a : Addr} {xs : List V} (h : H a = some (.lst xs)) : Seen K H (.ref a) := ⟨"list", .base (.lst h), (by show kitB "list" "int" = some false; decide +kernel), (by show kitB "list" "bool" = some false; decide +kernel), (by decide +kernel), (by decide +kernel), (by show kitB "list" "str" = some false; decide +kernel)⟩
theorem Seen.tup {H : Hp} {a : Addr} {xs : List V} (h : H a = some (.tup xs)) : Seen K H (.ref a) := ⟨"tuple", .base (.tup h), (by show kitB "tuple" "int" = some false; decide +kernel), (by show kitB "tuple" "bool" = some false; decide +kernel), (by decide +kernel), (by decide +kernel), (by show kitB "tuple" "str" = some false; decide +kernel)⟩
theorem Seen.dK {H : Hp} {a : Addr} {kvs : List (Key × V)} (h : H a = some (.dK kvs)) : Seen K H (.ref a) := ⟨"dict", .base (.dK h), (by show kitB "dict" "int" = some false; decide +kernel), (by show kitB "dict" "bool" = some false; decide +kernel), (by decide +kernel), (by decide +kernel), (by show kitB "dict" "str" = some false; decide +kernel)⟩
def isI : V → Bool
  | .int _ => true
  | _ => false
def isC : V → Bool
  | .int i => decide (0 ≤ i)
  | _ => false
def isB (n : Int) : V → Bool
  | .int i => decide (0 ≤ i) && decide (i < n)
  | _ => false
theorem isB_int {n i : Int} (h0 : 0 ≤ i) (h1 : i < n) : isB n (.int i) = true := by simp [isB, h0, h1]
theorem isC_int {i : Int} (h0 : 0 ≤ i) : isC (.int i) = true := by simp [isC, h0]
def spInt (K : PySem.W.Frag) : Sp := sp1 fun x H Q => Seen K H x ∧ Q (.bl (isI x)) H
def spCount (K : PySem.W.Frag) : Sp := sp1 fun x H Q => Seen K H x ∧ Q (.bl (isC x)) H
def spBelow (K : PySem.W.Frag) (n : Int) : Sp := sp1 fun x H Q => Seen K H x ∧ Q (.bl (isB n x)) H
def spNeed (n : Int) : Sp := sp1 fun x H Q => ∃ i, x = .int i ∧ 0 ≤ i ∧ i < n ∧ Q .non H
def spNeed2 : Sp := sp2 fun x y H Q => ∃ i j, x = .int i ∧ y = .int j ∧ Wd i ∧ Wd j ∧ Q .non H
def spMany : Sp := sp3 fun x y z H Q => ∃ i a b, x = .int i ∧ y = .int a ∧ z = .int b ∧ 0 ≤ i ∧ a ≤ i ∧ i ≤ b ∧ Q .non H
def spW2 : Sp := sp2 fun x y H Q => ∃ a b, x = .int a ∧ y = .int b ∧ Wd a ∧ Wd b ∧ ∀ r, Wd r → Q (.int r) H
/-- is a value a list or a tuple -/
def spList (K : PySem.W.Frag) : Sp := sp1 fun x H Q => ∃ t, TyX K H x (.type t) ∧ kitB t "list" = some (decide (t = "list")) ∧ kitB t "tuple" = some (decide (t = "tuple")) ∧ ∀ H', Same H H' → Q (.bl (decide (t = "list") || decide (t = "tuple"))) H'
theorem sc_is_integer : FnScope ["value"] ["value"] (defScope s_is_integer) := ⟨rfl, rfl, rfl, by decide +kernel, rfl, by decide +kernel, by decide +kernel⟩
theorem ok_is_integer (T : Hd K w mg) : C8.Cal P w K mg base 1 "is_integer" (spInt K) [] := by
  obtain ⟨fd, F⟩ := T.f_is_integer
  refine cal_of F T.g_is_integer sc_is_integer (fun _ _ _ _ _ _ us hl => match us, hl with | [_], _ => rfl) len1 (fun cdv A outer s H vs Q E hr h => ⟨_, (pss_one (ps_ret (pe_and (pe_callB call_isi (by rfl) T.b_isinstance (by decide +kernel) (pa_cons (pv 0) (pa_cons (pe_ty (n := "int") T.b_int (by rfl) (by decide +kernel)) pa_nil))) (pe_one (pe_not (pe_callB call_isi (by rfl) T.b_isinstance (by decide +kernel) (pa_cons (pv 0) (pa_cons (pe_ty (n := "bool") T.b_bool (by rfl) (by decide +kernel)) pa_nil)))))))), ?_⟩)
  obtain ⟨x, rfl, ⟨t, ty, k1, k2, _⟩, q⟩ := h
  refine ⟨_, rfl, _, _, _, _, _, rfl, .ty _, ty, kit_ty k1, ?_⟩
  refine ⟨_, rfl, ?_⟩
  cases x with
  | int i =>
    refine iteT ?_
    exact ⟨_, rfl, _, _, _, _, _, rfl, .ty _, ty, kit_ty k2, _, rfl, q⟩
  | bl b =>
    refine iteT ?_
    exact ⟨_, rfl, _, _, _, _, _, rfl, .ty _, ty, kit_ty k2, _, rfl, q⟩
  | _ => exact iteF q
theorem sc_is_count : FnScope ["value"] ["value"] (defScope s_is_count) := ⟨rfl, rfl, rfl, by decide +kernel, rfl, by decide +kernel, by decide +kernel⟩
theorem ok_is_count (T : Hd K w mg)
    (c_is_integer : C8.Cal P w K mg base 1 "is_integer" (spInt K) []) : C8.Cal P w K mg base 2 "is_count" (spCount K) [] := by
  obtain ⟨fd, F⟩ := T.f_is_count
  refine cal_of F T.g_is_count sc_is_count (fun _ _ _ _ _ _ us hl => match us, hl with | [_], _ => rfl) len1 (fun cdv A outer s H vs Q E hr h => ⟨_, (pss_one (ps_ret (pe_and (C8.pe_c c_is_integer hr (by decide) (by rfl) (pa_cons (pv 0) pa_nil)) (pe_one (pe_cmpR op_ge (pv 0) pe_int (nomark _)))))), ?_⟩)
  obtain ⟨x, rfl, s1, q⟩ := h
  refine ⟨_, rfl, _, rfl, s1, _, rfl, ?_⟩
  cases x with
  | int i => exact iteT ⟨_, rfl, _, _, rfl, rfl, q⟩
  | _ => exact iteF q
theorem sc_is_list : FnScope ["value"] ["value"] (defScope s_is_list) := ⟨rfl, rfl, rfl, by decide +kernel, rfl, by decide +kernel, by decide +kernel⟩
theorem ok_is_list (T : Hd K w mg) : C8.Cal P w K mg base 1 "is_list" (spList K) [] := by
  obtain ⟨fd, F⟩ := T.f_is_list
  refine cal_of F T.g_is_list sc_is_list (fun _ _ _ _ _ _ us hl => match us, hl with | [_], _ => rfl) len1 (fun cdv A outer s H vs Q E hr h => ⟨_, (pss_one (ps_ret (pe_callB call_isiT (by rfl) T.b_isinstance (by decide +kernel) (pa_cons (pv 0) (pa_cons (pe_tup (pa_cons (pe_ty (n := "list") T.b_list (by rfl) (by decide +kernel)) (pa_cons (pe_ty (n := "tuple") T.b_tuple (by rfl) (by decide +kernel)) pa_nil))) pa_nil))))), ?_⟩)
  obtain ⟨x, rfl, t, ty, k1, k2, q⟩ := h
  refine ⟨_, rfl, (by show 2 ≤ sizeLine; decide), fun p hp => ?_⟩
  have q' := q (upd H p (.tup [.ty "list", .ty "tuple"])) (same_new hp)
  refine ⟨_, p, _, _, [.type "list", .type "tuple"], decide (t = "list") || decide (t = "tuple"), rfl, upd_same, .cons (.ty _) (.cons (.ty _) .nil), tyx_up ty (fun b o e => same_new hp b o e), ?_, q'⟩
  refine kitAny_cons (kit_ty k1) (fun h1 => kitAny_cons (kit_ty k2) (fun h2 => ?_) (fun h2 => ?_)) fun h1 => ?_
  · rw [h1, h2]; exact kitAny_nil
  · rw [h1, h2]; rfl
  · rw [h1]; rfl
theorem sc_want_many : FnScope ["value", "least", "most"] ["value", "least", "most"] (defScope s_want_many) := ⟨rfl, rfl, rfl, by decide +kernel, rfl, by decide +kernel, by decide +kernel⟩
theorem ok_want_many (T : Hd K w mg)
    (c_is_count : C8.Cal P w K mg base 2 "is_count" (spCount K) []) : C8.Cal P w K mg base 3 "want_many" (spMany) [] := by
  obtain ⟨fd, F⟩ := T.f_want_many
  refine cal_of F T.g_want_many sc_want_many (fun _ _ _ _ _ _ us hl => match us, hl with | [_, _, _], _ => rfl) len3 (fun cdv A outer s H vs Q E hr h => ⟨_, (pss_one (ps_if (PW.pt (pw_or (pt_not (pt_val (C8.pe_c c_is_count hr (by decide) (by rfl) (pa_cons (pv 0) pa_nil)))) (pw_or1 (pt_not (pt_chain op_le op_le (pv 1) (pv 0) (pv 2)))))) (pss_one ps_never) pss_nil)), ?_⟩)
  obtain ⟨x, y, z, rfl, i, a, b, rfl, rfl, rfl, h0, h1, h2, q⟩ := h
  refine ⟨_, rfl, _, rfl, Seen.int, _, rfl, ?_⟩
  rw [isC_int h0]
  refine iteF ⟨_, rfl, _, rfl, _, _, rfl, rfl, _, rfl, ?_⟩
  rw [decide_eq_true h1]
  refine iteT ⟨_, rfl, _, _, rfl, rfl, _, rfl, ?_⟩
  rw [decide_eq_true h2]
  exact iteF q
theorem sc_is_word : FnScope ["value"] ["value"] (defScope s_is_word) := ⟨rfl, rfl, rfl, by decide +kernel, rfl, by decide +kernel, by decide +kernel⟩
theorem ok_is_word (T : Hd K w mg)
    (c_is_count : C8.Cal P w K mg base 2 "is_count" (spCount K) []) : C8.Cal P w K mg base 3 "is_word" (spBelow K 65536) [] := by
  obtain ⟨fd, F⟩ := T.f_is_word
  refine cal_of F T.g_is_word sc_is_word (fun _ _ _ _ _ _ us hl => match us, hl with | [_], _ => rfl) len1 (fun cdv A outer s H vs Q E hr h => ⟨_, (pss_one (ps_ret (pe_and (C8.pe_c c_is_count hr (by decide) (by rfl) (pa_cons (pv 0) pa_nil)) (pe_one (pe_cmpR op_lt (pv 0) (pe_n T.n_MOST_WORD (by rfl)) (nomark _)))))), ?_⟩)
  obtain ⟨x, rfl, s1, q⟩ := h
  refine ⟨_, rfl, _, rfl, s1, _, rfl, ?_⟩
  cases x with
  | int i => exact iteD (fun h0 => ⟨_, rfl, _, _, rfl, rfl, q_bl q (by simp [isB, h0])⟩) fun h0 => q_bl q (by simp [isB, h0])
  | _ => exact iteF q
theorem sc_is_address : FnScope ["value"] ["value"] (defScope s_is_address) := ⟨rfl, rfl, rfl, by decide +kernel, rfl, by decide +kernel, by decide +kernel⟩
theorem ok_is_address (T : Hd K w mg)
    (c_is_count : C8.Cal P w K mg base 2 "is_count" (spCount K) []) : C8.Cal P w K mg base 3 "is_address" (spBelow K 4096) [] := by
  obtain ⟨fd, F⟩ := T.f_is_address
  refine cal_of F T.g_is_address sc_is_address (fun _ _ _ _ _ _ us hl => match us, hl with | [_], _ => rfl) len1 (fun cdv A outer s H vs Q E hr h => ⟨_, (pss_one (ps_ret (pe_and (C8.pe_c c_is_count hr (by decide) (by rfl) (pa_cons (pv 0) pa_nil)) (pe_one (pe_cmpR op_lt (pv 0) (pe_n T.n_MOST_ADDRESS (by rfl)) (nomark _)))))), ?_⟩)
  obtain ⟨x, rfl, s1, q⟩ := h
  refine ⟨_, rfl, _, rfl, s1, _, rfl, ?_⟩
  cases x with
  | int i => exact iteD (fun h0 => ⟨_, rfl, _, _, rfl, rfl, q_bl q (by simp [isB, h0])⟩) fun h0 => q_bl q (by simp [isB, h0])
  | _ => exact iteF q
theorem sc_is_place : FnScope ["value"] ["value"] (defScope s_is_place) := ⟨rfl, rfl, rfl, by decide +kernel, rfl, by decide +kernel, by decide +kernel⟩
theorem ok_is_place (T : Hd K w mg)
    (c_is_count : C8.Cal P w K mg base 2 "is_count" (spCount K) []) : C8.Cal P w K mg base 3 "is_place" (spBelow K 1024) [] := by
  obtain ⟨fd, F⟩ := T.f_is_place
  refine cal_of F T.g_is_place sc_is_place (fun _ _ _ _ _ _ us hl => match us, hl with | [_], _ => rfl) len1 (fun cdv A outer s H vs Q E hr h => ⟨_, (pss_one (ps_ret (pe_and (C8.pe_c c_is_count hr (by decide) (by rfl) (pa_cons (pv 0) pa_nil)) (pe_one (pe_cmpR op_lt (pv 0) (pe_n T.n_MOST_PLACE (by rfl)) (nomark _)))))), ?_⟩)
  obtain ⟨x, rfl, s1, q⟩ := h
  refine ⟨_, rfl, _, rfl, s1, _, rfl, ?_⟩
  cases x with
  | int i => exact iteD (fun h0 => ⟨_, rfl, _, _, rfl, rfl, q_bl q (by simp [isB, h0])⟩) fun h0 => q_bl q (by simp [isB, h0])
  | _ => exact iteF q
theorem sc_is_register : FnScope ["value"] ["value"] (defScope s_is_register) := ⟨rfl, rfl, rfl, by decide +kernel, rfl, by decide +kernel, by decide +kernel⟩
theorem ok_is_register (T : Hd K w mg)
    (c_is_count : C8.Cal P w K mg base 2 "is_count" (spCount K) []) : C8.Cal P w K mg base 3 "is_register" (spBelow K 8) [] := by
  obtain ⟨fd, F⟩ := T.f_is_register
  refine cal_of F T.g_is_register sc_is_register (fun _ _ _ _ _ _ us hl => match us, hl with | [_], _ => rfl) len1 (fun cdv A outer s H vs Q E hr h => ⟨_, (pss_one (ps_ret (pe_and (C8.pe_c c_is_count hr (by decide) (by rfl) (pa_cons (pv 0) pa_nil)) (pe_one (pe_cmpR op_lt (pv 0) (pe_n T.n_REGISTERS (by rfl)) (nomark _)))))), ?_⟩)
  obtain ⟨x, rfl, s1, q⟩ := h
  refine ⟨_, rfl, _, rfl, s1, _, rfl, ?_⟩
  cases x with
  | int i => exact iteD (fun h0 => ⟨_, rfl, _, _, rfl, rfl, q_bl q (by simp [isB, h0])⟩) fun h0 => q_bl q (by simp [isB, h0])
  | _ => exact iteF q
theorem sc_is_memory_place : FnScope ["value"] ["value"] (defScope s_is_memory_place) := ⟨rfl, rfl, rfl, by decide +kernel, rfl, by decide +kernel, by decide +kernel⟩
theorem ok_is_memory_place (T : Hd K w mg)
    (c_is_count : C8.Cal P w K mg base 2 "is_count" (spCount K) []) : C8.Cal P w K mg base 3 "is_memory_place" (spBelow K 960) [] := by
  obtain ⟨fd, F⟩ := T.f_is_memory_place
  refine cal_of F T.g_is_memory_place sc_is_memory_place (fun _ _ _ _ _ _ us hl => match us, hl with | [_], _ => rfl) len1 (fun cdv A outer s H vs Q E hr h => ⟨_, (pss_one (ps_ret (pe_and (C8.pe_c c_is_count hr (by decide) (by rfl) (pa_cons (pv 0) pa_nil)) (pe_one (pe_cmpR op_lt (pv 0) (pe_n T.n_MEMORY_END (by rfl)) (nomark _)))))), ?_⟩)
  obtain ⟨x, rfl, s1, q⟩ := h
  refine ⟨_, rfl, _, rfl, s1, _, rfl, ?_⟩
  cases x with
  | int i => exact iteD (fun h0 => ⟨_, rfl, _, _, rfl, rfl, q_bl q (by simp [isB, h0])⟩) fun h0 => q_bl q (by simp [isB, h0])
  | _ => exact iteF q
theorem sc_want_word : FnScope ["value"] ["value"] (defScope s_want_word) := ⟨rfl, rfl, rfl, by decide +kernel, rfl, by decide +kernel, by decide +kernel⟩
theorem ok_want_word (T : Hd K w mg)
    (c_is_word : C8.Cal P w K mg base 3 "is_word" (spBelow K 65536) []) : C8.Cal P w K mg base 4 "want_word" (spNeed 65536) [] := by
  obtain ⟨fd, F⟩ := T.f_want_word
  refine cal_of F T.g_want_word sc_want_word (fun _ _ _ _ _ _ us hl => match us, hl with | [_], _ => rfl) len1 (fun cdv A outer s H vs Q E hr h => ⟨_, (pss_one (ps_if (pt_not (pt_val (C8.pe_c c_is_word hr (by decide) (by rfl) (pa_cons (pv 0) pa_nil)))) (pss_one ps_never) pss_nil)), ?_⟩)
  obtain ⟨x, rfl, i, rfl, h0, h1, q⟩ := h
  refine ⟨_, rfl, _, rfl, Seen.int, _, rfl, ?_⟩
  rw [isB_int h0 h1]
  exact iteF q
theorem sc_want_memory_place : FnScope ["value"] ["value"] (defScope s_want_memory_place) := ⟨rfl, rfl, rfl, by decide +kernel, rfl, by decide +kernel, by decide +kernel⟩
theorem ok_want_memory_place (T : Hd K w mg)
    (c_is_memory_place : C8.Cal P w K mg base 3 "is_memory_place" (spBelow K 960) []) : C8.Cal P w K mg base 4 "want_memory_place" (spNeed 960) [] := by
  obtain ⟨fd, F⟩ := T.f_want_memory_place
  refine cal_of F T.g_want_memory_place sc_want_memory_place (fun _ _ _ _ _ _ us hl => match us, hl with | [_], _ => rfl) len1 (fun cdv A outer s H vs Q E hr h => ⟨_, (pss_one (ps_if (pt_not (pt_val (C8.pe_c c_is_memory_place hr (by decide) (by rfl) (pa_cons (pv 0) pa_nil)))) (pss_one ps_never) pss_nil)), ?_⟩)
  obtain ⟨x, rfl, i, rfl, h0, h1, q⟩ := h
  refine ⟨_, rfl, _, rfl, Seen.int, _, rfl, ?_⟩
  rw [isB_int h0 h1]
  exact iteF q
theorem sc_want_line : FnScope ["value"] ["value"] (defScope s_want_line) := ⟨rfl, rfl, rfl, by decide +kernel, rfl, by decide +kernel, by decide +kernel⟩
theorem ok_want_line (T : Hd K w mg)
    (c_is_count : C8.Cal P w K mg base 2 "is_count" (spCount K) []) : C8.Cal P w K mg base 3 "want_line" (spNeed 4) [] := by
  obtain ⟨fd, F⟩ := T.f_want_line
  refine cal_of F T.g_want_line sc_want_line (fun _ _ _ _ _ _ us hl => match us, hl with | [_], _ => rfl) len1 (fun cdv A outer s H vs Q E hr h => ⟨_, (pss_one (ps_if (PW.pt (pw_or (pt_not (pt_val (C8.pe_c c_is_count hr (by decide) (by rfl) (pa_cons (pv 0) pa_nil)))) (pw_or1 (pt_cmpR op_ge (pv 0) (pe_n T.n_LINES (by rfl)) (nomark _))))) (pss_one ps_never) pss_nil)), ?_⟩)
  obtain ⟨x, rfl, i, rfl, h0, h1, q⟩ := h
  refine ⟨_, rfl, _, rfl, Seen.int, _, rfl, ?_⟩
  rw [isC_int h0]
  refine iteF ⟨_, rfl, _, _, rfl, rfl, _, rfl, ?_⟩
  rw [decide_eq_false (by omega : ¬ (4 : Int) ≤ i)]
  exact iteF q
theorem sc_two_words : FnScope ["one", "other"] ["one", "other"] (defScope s_two_words) := ⟨rfl, rfl, rfl, by decide +kernel, rfl, by decide +kernel, by decide +kernel⟩
theorem ok_two_words (T : Hd K w mg)
    (c_want_word : C8.Cal P w K mg base 4 "want_word" (spNeed 65536) []) : C8.Cal P w K mg base 5 "two_words" (spNeed2) [] := by
  obtain ⟨fd, F⟩ := T.f_two_words
  refine cal_of F T.g_two_words sc_two_words (fun _ _ _ _ _ _ us hl => match us, hl with | [_, _], _ => rfl) len2 (fun cdv A outer s H vs Q E hr h => ⟨_, (pss_cons (ps_expr (C8.pe_c c_want_word hr (by decide) (by rfl) (pa_cons (pv 0) pa_nil))) (pss_one (ps_expr (C8.pe_c c_want_word hr (by decide) (by rfl) (pa_cons (pv 1) pa_nil))))), ?_⟩)
  obtain ⟨x, y, rfl, i, j, rfl, rfl, hi, hj, q⟩ := h
  exact ⟨_, rfl, _, rfl, i, rfl, hi.1, hi.2, _, rfl, _, rfl, j, rfl, hj.1, hj.2, q⟩
theorem sc_plus : FnScope ["one", "other"] ["one", "other"] (defScope s_plus) := ⟨rfl, rfl, rfl, by decide +kernel, rfl, by decide +kernel, by decide +kernel⟩
theorem ok_plus (T : Hd K w mg)
    (c_two_words : C8.Cal P w K mg base 5 "two_words" (spNeed2) []) : C8.Cal P w K mg base 6 "plus" (spW2) [] := by
  obtain ⟨fd, F⟩ := T.f_plus
  refine cal_of F T.g_plus sc_plus (fun _ _ _ _ _ _ us hl => match us, hl with | [_, _], _ => rfl) len2 (fun cdv A outer s H vs Q E hr h => ⟨_, (pss_cons (ps_expr (C8.pe_c c_two_words hr (by decide) (by rfl) (pa_cons (pv 0) (pa_cons (pv 1) pa_nil)))) (pss_one (ps_ret (pe_op op_mod (pe_op op_add (pv 0) (pv 1)) (pe_n T.n_MOST_WORD (by rfl)))))), ?_⟩)
  obtain ⟨x, y, rfl, i, j, rfl, rfl, hi, hj, q⟩ := h
  exact ⟨_, rfl, _, rfl, _, _, rfl, i, j, rfl, rfl, hi, hj, _, rfl, _, rfl, _, _, rfl, rfl, _, _, rfl, rfl, pos_w, q _ (wd_mod _)⟩
theorem sc_minus : FnScope ["one", "other"] ["one", "other"] (defScope s_minus) := ⟨rfl, rfl, rfl, by decide +kernel, rfl, by decide +kernel, by decide +kernel⟩
theorem ok_minus (T : Hd K w mg)
    (c_two_words : C8.Cal P w K mg base 5 "two_words" (spNeed2) []) : C8.Cal P w K mg base 6 "minus" (spW2) [] := by
  obtain ⟨fd, F⟩ := T.f_minus
  refine cal_of F T.g_minus sc_minus (fun _ _ _ _ _ _ us hl => match us, hl with | [_, _], _ => rfl) len2 (fun cdv A outer s H vs Q E hr h => ⟨_, (pss_cons (ps_expr (C8.pe_c c_two_words hr (by decide) (by rfl) (pa_cons (pv 0) (pa_cons (pv 1) pa_nil)))) (pss_one (ps_ret (pe_op op_mod (pe_op op_sub (pv 0) (pv 1)) (pe_n T.n_MOST_WORD (by rfl)))))), ?_⟩)
  obtain ⟨x, y, rfl, i, j, rfl, rfl, hi, hj, q⟩ := h
  exact ⟨_, rfl, _, rfl, _, _, rfl, i, j, rfl, rfl, hi, hj, _, rfl, _, rfl, _, _, rfl, rfl, _, _, rfl, rfl, pos_w, q _ (wd_mod _)⟩
theorem sc_times : FnScope ["one", "other"] ["one", "other"] (defScope s_times) := ⟨rfl, rfl, rfl, by decide +kernel, rfl, by decide +kernel, by decide +kernel⟩
theorem ok_times (T : Hd K w mg)
    (c_two_words : C8.Cal P w K mg base 5 "two_words" (spNeed2) []) : C8.Cal P w K mg base 6 "times" (spW2) [] := by
  obtain ⟨fd, F⟩ := T.f_times
  refine cal_of F T.g_times sc_times (fun _ _ _ _ _ _ us hl => match us, hl with | [_, _], _ => rfl) len2 (fun cdv A outer s H vs Q E hr h => ⟨_, (pss_cons (ps_expr (C8.pe_c c_two_words hr (by decide) (by rfl) (pa_cons (pv 0) (pa_cons (pv 1) pa_nil)))) (pss_one (ps_ret (pe_op op_mod (pe_op op_mul (pv 0) (pv 1)) (pe_n T.n_MOST_WORD (by rfl)))))), ?_⟩)
  obtain ⟨x, y, rfl, i, j, rfl, rfl, hi, hj, q⟩ := h
  exact ⟨_, rfl, _, rfl, _, _, rfl, i, j, rfl, rfl, hi, hj, _, rfl, _, rfl, _, _, rfl, rfl, .inl (by unfold Wd at hi; omega), _, _, rfl, rfl, pos_w, q _ (wd_mod _)⟩
theorem wd_and {a b : Int} (ha : Wd a) (hb : Wd b) : Wd (Builtin.bitAnd a b) := by
  rw [bitAnd_pp ha.1 hb.1]
  have h1 : a.toNat &&& b.toNat ≤ a.toNat := Nat.and_le_left
  have := ha.2; have := ha.1
  exact ⟨Int.natCast_nonneg _, by omega⟩
theorem wd_or {a b : Int} (ha : Wd a) (hb : Wd b) : Wd (Builtin.bitOr a b) := by
  rw [Bits.bitOr_pp ha.1 hb.1]
  have h1 : a.toNat ||| b.toNat < 2 ^ 16 := Nat.or_lt_two_pow (by have := ha.2; have := ha.1; omega) (by have := hb.2; have := hb.1; omega)
  exact ⟨Int.natCast_nonneg _, by omega⟩
theorem wd_xor {a b : Int} (ha : Wd a) (hb : Wd b) : Wd (Builtin.bitXor a b) := by
  rw [Bits.bitXor_pp ha.1 hb.1]
  have h1 : a.toNat ^^^ b.toNat < 2 ^ 16 := Nat.xor_lt_two_pow (by have := ha.2; have := ha.1; omega) (by have := hb.2; have := hb.1; omega)
  exact ⟨Int.natCast_nonneg _, by omega⟩
theorem sc_both : FnScope ["one", "other"] ["one", "other"] (defScope s_both) := ⟨rfl, rfl, rfl, by decide +kernel, rfl, by decide +kernel, by decide +kernel⟩
theorem ok_both (T : Hd K w mg)
    (c_two_words : C8.Cal P w K mg base 5 "two_words" (spNeed2) []) : C8.Cal P w K mg base 6 "both" (spW2) [] := by
  obtain ⟨fd, F⟩ := T.f_both
  refine cal_of F T.g_both sc_both (fun _ _ _ _ _ _ us hl => match us, hl with | [_, _], _ => rfl) len2 (fun cdv A outer s H vs Q E hr h => ⟨_, (pss_cons (ps_expr (C8.pe_c c_two_words hr (by decide) (by rfl) (pa_cons (pv 0) (pa_cons (pv 1) pa_nil)))) (pss_one (ps_ret (pe_op op_and (pv 0) (pv 1))))), ?_⟩)
  obtain ⟨x, y, rfl, i, j, rfl, rfl, hi, hj, q⟩ := h
  exact ⟨_, rfl, _, rfl, _, _, rfl, i, j, rfl, rfl, hi, hj, _, rfl, _, rfl, _, _, rfl, rfl, q _ (wd_and hi hj)⟩
theorem sc_either : FnScope ["one", "other"] ["one", "other"] (defScope s_either) := ⟨rfl, rfl, rfl, by decide +kernel, rfl, by decide +kernel, by decide +kernel⟩
theorem ok_either (T : Hd K w mg)
    (c_two_words : C8.Cal P w K mg base 5 "two_words" (spNeed2) []) : C8.Cal P w K mg base 6 "either" (spW2) [] := by
  obtain ⟨fd, F⟩ := T.f_either
  refine cal_of F T.g_either sc_either (fun _ _ _ _ _ _ us hl => match us, hl with | [_, _], _ => rfl) len2 (fun cdv A outer s H vs Q E hr h => ⟨_, (pss_cons (ps_expr (C8.pe_c c_two_words hr (by decide) (by rfl) (pa_cons (pv 0) (pa_cons (pv 1) pa_nil)))) (pss_one (ps_ret (pe_op op_or (pv 0) (pv 1))))), ?_⟩)
  obtain ⟨x, y, rfl, i, j, rfl, rfl, hi, hj, q⟩ := h
  exact ⟨_, rfl, _, rfl, _, _, rfl, i, j, rfl, rfl, hi, hj, _, rfl, _, rfl, _, _, rfl, rfl, q _ (wd_or hi hj)⟩
theorem sc_unlike : FnScope ["one", "other"] ["one", "other"] (defScope s_unlike) := ⟨rfl, rfl, rfl, by decide +kernel, rfl, by decide +kernel, by decide +kernel⟩
theorem ok_unlike (T : Hd K w mg)
    (c_two_words : C8.Cal P w K mg base 5 "two_words" (spNeed2) []) : C8.Cal P w K mg base 6 "unlike" (spW2) [] := by
  obtain ⟨fd, F⟩ := T.f_unlike
  refine cal_of F T.g_unlike sc_unlike (fun _ _ _ _ _ _ us hl => match us, hl with | [_, _], _ => rfl) len2 (fun cdv A outer s H vs Q E hr h => ⟨_, (pss_cons (ps_expr (C8.pe_c c_two_words hr (by decide) (by rfl) (pa_cons (pv 0) (pa_cons (pv 1) pa_nil)))) (pss_one (ps_ret (pe_op op_xor (pv 0) (pv 1))))), ?_⟩)
  obtain ⟨x, y, rfl, i, j, rfl, rfl, hi, hj, q⟩ := h
  exact ⟨_, rfl, _, rfl, _, _, rfl, i, j, rfl, rfl, hi, hj, _, rfl, _, rfl, _, _, rfl, rfl, q _ (wd_xor hi hj)⟩
theorem sc_shifted_up : FnScope ["one", "many"] ["one", "many"] (defScope s_shifted_up) := ⟨rfl, rfl, rfl, by decide +kernel, rfl, by decide +kernel, by decide +kernel⟩
theorem ok_shifted_up (T : Hd K w mg)
    (c_want_word : C8.Cal P w K mg base 4 "want_word" (spNeed 65536) [])
    (c_want_many : C8.Cal P w K mg base 3 "want_many" (spMany) []) : C8.Cal P w K mg base 5 "shifted_up" (spW2) [] := by
  obtain ⟨fd, F⟩ := T.f_shifted_up
  refine cal_of F T.g_shifted_up sc_shifted_up (fun _ _ _ _ _ _ us hl => match us, hl with | [_, _], _ => rfl) len2 (fun cdv A outer s H vs Q E hr h => ⟨_, (pss_cons (ps_expr (C8.pe_c c_want_word hr (by decide) (by rfl) (pa_cons (pv 0) pa_nil))) (pss_cons (ps_expr (C8.pe_c c_want_many hr (by decide) (by rfl) (pa_cons (pv 1) (pa_cons pe_int (pa_cons (pe_op op_sub (pe_n T.n_MOST_WORD (by rfl)) pe_int) pa_nil))))) (pss_one (ps_ret (pe_ifExp (pt_cmpR op_lt (pv 1) (pe_n T.n_BITS (by rfl)) (nomark _)) (pe_op op_mod (pe_op op_shl (pv 0) (pv 1)) (pe_n T.n_MOST_WORD (by rfl))) pe_int))))), ?_⟩)
  obtain ⟨x, y, rfl, i, j, rfl, rfl, hi, hj, q⟩ := h
  have hi' := hi; have hj' := hj
  unfold Wd at hi' hj'
  refine ⟨_, rfl, _, rfl, i, rfl, hi.1, hi.2, _, rfl, _, _, rfl, rfl, _, _, _, rfl, j, 0, 65535, rfl, rfl, rfl, hj.1, hj.1, by omega, ?_⟩
  refine ⟨_, rfl, _, _, rfl, rfl, _, rfl, ?_⟩
  refine iteD (fun hl => ?_) fun hl => ?_
  · exact ⟨_, rfl, _, rfl, _, _, rfl, rfl, ⟨hj.1, by omega, by omega⟩, _, _, rfl, rfl, pos_w, q _ (wd_mod _)⟩
  · exact q 0 ⟨by decide, by decide⟩
theorem wd_shr {a j : Int} (ha : Wd a) : Wd (a / 2 ^ j.toNat) := by
  have h2 : (0 : Int) < 2 ^ j.toNat := Int.pow_pos (by decide)
  refine ⟨Int.ediv_nonneg ha.1 (Int.le_of_lt h2), Int.lt_of_le_of_lt (Int.ediv_le_self _ ha.1) ha.2⟩
theorem sc_shifted_down : FnScope ["one", "many"] ["one", "many"] (defScope s_shifted_down) := ⟨rfl, rfl, rfl, by decide +kernel, rfl, by decide +kernel, by decide +kernel⟩
theorem ok_shifted_down (T : Hd K w mg)
    (c_want_word : C8.Cal P w K mg base 4 "want_word" (spNeed 65536) [])
    (c_want_many : C8.Cal P w K mg base 3 "want_many" (spMany) []) : C8.Cal P w K mg base 5 "shifted_down" (spW2) [] := by
  obtain ⟨fd, F⟩ := T.f_shifted_down
  refine cal_of F T.g_shifted_down sc_shifted_down (fun _ _ _ _ _ _ us hl => match us, hl with | [_, _], _ => rfl) len2 (fun cdv A outer s H vs Q E hr h => ⟨_, (pss_cons (ps_expr (C8.pe_c c_want_word hr (by decide) (by rfl) (pa_cons (pv 0) pa_nil))) (pss_cons (ps_expr (C8.pe_c c_want_many hr (by decide) (by rfl) (pa_cons (pv 1) (pa_cons pe_int (pa_cons (pe_op op_sub (pe_n T.n_MOST_WORD (by rfl)) pe_int) pa_nil))))) (pss_one (ps_ret (pe_ifExp (pt_cmpR op_lt (pv 1) (pe_n T.n_BITS (by rfl)) (nomark _)) (pe_op op_shr (pv 0) (pv 1)) pe_int))))), ?_⟩)
  obtain ⟨x, y, rfl, i, j, rfl, rfl, hi, hj, q⟩ := h
  have hi' := hi; have hj' := hj
  unfold Wd at hi' hj'
  refine ⟨_, rfl, _, rfl, i, rfl, hi.1, hi.2, _, rfl, _, _, rfl, rfl, _, _, _, rfl, j, 0, 65535, rfl, rfl, rfl, hj.1, hj.1, by omega, ?_⟩
  refine ⟨_, rfl, _, _, rfl, rfl, _, rfl, ?_⟩
  refine iteD (fun hl => ?_) fun hl => ?_
  · exact ⟨_, rfl, _, rfl, _, _, rfl, rfl, hj.1, q _ (wd_shr hi)⟩
  · exact q 0 ⟨by decide, by decide⟩
end
end K97
set_option maxHeartbeats 4000000
/-! Controls. -/
namespace K97
open PySem PySem.Spec PyProof.Rows L2
local macro_rules | `(tactic| walk_at "v") => `(tactic| refine ⟨_, rfl, ?_⟩)
local macro_rules | `(tactic| walk_at "ii") => `(tactic| refine ⟨_, _, rfl, rfl, ?_⟩)
/-- one step of a reading: a name, two whole numbers, a scalar comparison, a truth value -/
local macro_rules | `(tactic| walk_at "s") => `(tactic| first | refine ⟨_, rfl, ?_⟩ | refine ⟨_, _, rfl, rfl, ?_⟩ | refine ⟨rfl, ?_⟩ | exact iteT (by walk_at "s") | exact iteF (by walk_at "s"))
local macro_rules | `(tactic| walk_at "r") => `(tactic| (repeat (first | refine ⟨_, rfl, ?_⟩ | refine ⟨_, _, rfl, rfl, ?_⟩ | refine ⟨rfl, ?_⟩ | refine iteT ?_ | refine iteF ?_)))

section
variable {P : Program} {w : World} {K : PySem.W.Frag} {mg : Str → Option Value} {base : Heap}
def spNew (Φ : List V → Prop) : Sp := sp0 fun H Q => RetNew Φ H Q
def spHas : Sp := sp2 fun x y H Q => ∃ p xs b, x = .ref p ∧ y = .int b ∧ H p = some (.lst xs) ∧ Wds 8 xs ∧ 0 < b ∧ b < 1073741824 ∧ ∀ c, Q (.bl c) H
/-- a pair of a bit and a truth value -/
def BitP (H : Hp) (t : Addr) : Prop := ∃ b c, H t = some (.tup [.int b, .bl c]) ∧ (b = 1 ∨ b = 2 ∨ b = 4 ∨ b = 8)
def spStatus : Sp := sp2 fun x y H Q => ∃ (s : Int) (p : Addr) (ts : List Addr), x = .int s ∧ y = .ref p ∧ Wd s ∧ H p = some (.lst (ts.map V.ref)) ∧ (∀ t ∈ ts, BitP H t) ∧ ∀ r, Wd r → Q (.int r) H
def spTrapped : Sp := sp4 fun c x y z H Q => ∃ p xs i j k, c = .ref p ∧ x = .int i ∧ y = .int j ∧ z = .int k ∧ H p = some (.lst xs) ∧ Wds 8 xs ∧ Wd i ∧ Wd j ∧ Wd k ∧ RetNew (Wds 8) H Q
def spReturned : Sp := sp1 fun c H Q => ∃ p xs, c = .ref p ∧ H p = some (.lst xs) ∧ Wds 8 xs ∧ RetNew (Wds 8) H Q
theorem sc_controls_at_first : FnScope [] [] (defScope s_controls_at_first) := ⟨rfl, rfl, rfl, by decide +kernel, rfl, by decide +kernel, by decide +kernel⟩
theorem ok_controls_at_first (T : Hd K w mg) : C8.Cal P w K mg base 1 "controls_at_first" (spNew (Wds 8)) [] := by
  obtain ⟨fd, F⟩ := T.f_controls_at_first
  refine cal_of F T.g_controls_at_first sc_controls_at_first (fun _ _ _ _ _ _ us hl => match us, hl with | [], _ => rfl) len0 (fun cdv A outer s H vs Q E hr h => ⟨_, (pss_one (ps_ret (pe_op op_cat (pe_lst (pa_cons pe_int pa_nil)) (pe_op op_rep (pe_lst (pa_cons pe_int pa_nil)) (pe_op op_sub (pe_n T.n_MANY_CONTROLS (by rfl)) pe_int))))), ?_⟩)
  obtain ⟨rfl, q⟩ := h
  refine ⟨sz (by decide), fun p1 h1 => ⟨sz (by decide), fun p2 h2 => ⟨_, _, rfl, rfl, p2, 7, _, rfl, rfl, upd_same, by decide, by decide, sz (by decide), fun p3 h3 => ?_⟩⟩⟩
  have e1 := same_new (o := .lst [.int 1]) h1
  have e2 := e1.trans (same_new (o := .lst [.int 0]) h2)
  have a1 : upd (upd H p1 (.lst [.int 1])) p2 (.lst [.int 0]) p1 = some (.lst [.int 1]) := same_new h2 _ _ upd_same
  refine ⟨p1, p3, [.int 1], _, rfl, rfl, same_new h3 _ _ a1, upd_same, sz (by decide), fun p4 h4 => ?_⟩
  refine q p4 _ _ (same_free (e2.trans (same_new h3)) h4) ((e2.trans (same_new h3)).trans (same_new h4)) upd_same ⟨rfl, fun x hx => ?_⟩
  have hx2 : x ∈ [V.int 1, .int 0, .int 0, .int 0, .int 0, .int 0, .int 0, .int 0] := hx
  simp only [List.mem_cons, List.not_mem_nil, or_false] at hx2
  rcases hx2 with h | h | h | h | h | h | h | h <;> subst h
  · exact ⟨1, rfl, by decide, by decide⟩
  all_goals exact ⟨0, rfl, by decide, by decide⟩
theorem two_pos : (0 : Int) < 2 := by decide
theorem sc_has_bit : FnScope ["controls", "bit"] ["controls", "bit"] (defScope s_has_bit) := ⟨rfl, rfl, rfl, by decide +kernel, rfl, by decide +kernel, by decide +kernel⟩
theorem ok_has_bit (T : Hd K w mg) : C8.Cal P w K mg base 1 "has_bit" (spHas) [] := by
  obtain ⟨fd, F⟩ := T.f_has_bit
  refine cal_of F T.g_has_bit sc_has_bit (fun _ _ _ _ _ _ us hl => match us, hl with | [_, _], _ => rfl) len2 (fun cdv A outer s H vs Q E hr h => ⟨_, (pss_one (ps_ret (pe_cmpR op_eq (pe_op op_mod (pe_op op_fdiv (pe_ix ix_list (pv 0) (pe_n T.n_CONTROL_STATUS (by rfl)) (fun _ _ => rfl)) (pv 1)) pe_int) pe_int (nomark _)))), ?_⟩)
  obtain ⟨x, y, rfl, p, xs, b, rfl, rfl, hp, hw, h0, h1, q⟩ := h
  obtain ⟨i, hi, hwi⟩ := hw.at (z := 0) (by decide) (by decide)
  exact ⟨_, rfl, p, xs, _, _, rfl, rfl, SqL.of hp, hi, _, rfl, _, _, rfl, rfl, ⟨h0, h1⟩, _, _, rfl, rfl, two_pos, rfl, q _⟩
theorem status_one {s b : Int} {c : Bool} (hs : Wd s) (hb : b = 1 ∨ b = 2 ∨ b = 4 ∨ b = 8) : Wd (s - s / b % 2 * b + (if c then 1 else 0) * b) := by
  unfold Wd at hs ⊢
  cases c <;> rcases hb with h | h | h | h <;> subst h <;> simp <;> omega
theorem sc_status_with : FnScope ["status", "bits", "bit", "is_one"] ["status", "bits"] (defScope s_status_with) := ⟨rfl, rfl, rfl, by decide +kernel, rfl, by decide +kernel, by decide +kernel⟩
theorem ok_status_with (T : Hd K w mg) : C8.Cal P w K mg base 1 "status_with" (spStatus) [] := by
  obtain ⟨fd, F⟩ := T.f_status_with
  refine cal_of F T.g_status_with sc_status_with (fun _ _ _ _ _ _ us hl => match us, hl with | [_, _], _ => rfl) len2 (fun cdv A outer s H vs Q E hr h => ⟨_, (pss_cons (ps_for PassesOwn.never rfl (pi_list (pv 1)) (pg_tup rfl (pgs_cons (pg_name (i := 2) sc_status_with.nd rfl (Or.inl rfl)) (pgs_cons (pg_name (i := 3) sc_status_with.nd rfl (Or.inl rfl)) pgs_nil))) (pss_one (ps_set (i := 0) sc_status_with.nd rfl (Or.inl rfl) (pe_op op_add (pe_op op_sub (pv 0) (pe_op op_mul (pe_op op_mod (pe_op op_fdiv (pv 0) (pv 2)) pe_int) (pv 2))) (pe_op op_mul (pe_callTy call_int1 (by rfl) T.b_int (by decide +kernel) (pa_cons (pv 3) pa_nil)) (pv 2)))))) (pss_one (ps_ret (pv 0)))), ?_⟩)
  obtain ⟨x, y, rfl, s0, p, ts, rfl, rfl, hs, hp, ht, q⟩ := h
  refine ⟨_, rfl, _, rfl, ⟨_, SqL.of hp⟩, for_list (xs := ts.map V.ref) (fun i σ H' => H' = H ∧ ∃ s' u v, Wd s' ∧ σ = [some (.int s'), some (.ref p), u, v]) ⟨rfl, s0, none, none, hs, rfl⟩ (fun i σ H' _ ⟨e, _⟩ => by rw [e]; exact SqL.of hp) ?_ ?_⟩
  · rintro i x σ H' hx ⟨rfl, s', u, v, hs', rfl⟩
    rw [List.getElem?_map] at hx
    obtain ⟨t, ht1, rfl⟩ := Option.map_eq_some_iff.mp hx
    obtain ⟨b, c, hb, hbb⟩ := ht t (List.mem_of_getElem? ht1)
    have hbd : 0 < b ∧ b < 1073741824 := by rcases hbb with h | h | h | h <;> subst h <;> decide
    refine ⟨t, _, rfl, SqT.of hb, rfl, _, _, rfl, _, _, rfl, rfl, ?_⟩
    refine ⟨_, rfl, _, rfl, _, rfl, _, _, rfl, rfl, hbd, _, _, rfl, rfl, two_pos, _, rfl, _, _, rfl, rfl, .inr ⟨by omega, by omega⟩, _, _, rfl, rfl, _, rfl, .inr ⟨c, rfl, _, rfl, _, _, rfl, rfl, .inr ⟨by omega, by omega⟩, _, _, rfl, rfl, ?_⟩⟩
    exact ⟨rfl, _, _, _, status_one hs' hbb, rfl⟩
  · rintro σ H' ⟨rfl, s', u, v, hs', rfl⟩
    exact ⟨_, rfl, q _ hs'⟩
theorem wds_int {n : Nat} {xs : List V} {j : Nat} {i : Int} (h : Wds n xs) (hi : Wd i) : Wds n (xs.set j (.int i)) := h.set hi
theorem BitP.up {H H' : Hp} {t : Addr} (h : BitP H t) (e : Same H H') : BitP H' t := by
  obtain ⟨b, c, h, hb⟩ := h
  exact ⟨b, c, e _ _ h, hb⟩
theorem sc_controls_trapped : FnScope ["controls", "cause", "home", "bad", "found", "olds"] ["controls", "cause", "home", "bad"] (defScope s_controls_trapped) := ⟨rfl, rfl, rfl, by decide +kernel, rfl, by decide +kernel, by decide +kernel⟩
theorem ok_controls_trapped (T : Hd K w mg)
    (c_has_bit : C8.Cal P w K mg base 1 "has_bit" (spHas) [])
    (c_status_with : C8.Cal P w K mg base 1 "status_with" (spStatus) []) : C8.Cal P w K mg base 2 "controls_trapped" (spTrapped) [] := by
  obtain ⟨fd, F⟩ := T.f_controls_trapped
  refine cal_of F T.g_controls_trapped sc_controls_trapped (fun _ _ _ _ _ _ us hl => match us, hl with | [_, _, _, _], _ => rfl) len4 (fun cdv A outer s H vs Q E hr h => ⟨_, (pss_cons (ps_set (i := 4) sc_controls_trapped.nd rfl (Or.inl rfl) (pe_callTy call_list_of (by rfl) T.b_list (by decide +kernel) (pa_cons (pv 0) pa_nil))) (pss_cons (ps_set (i := 5) sc_controls_trapped.nd rfl (Or.inl rfl) (pe_lst (pa_cons (pe_tup (pa_cons (pe_n T.n_BIT_OLD_SUPERVISOR (by rfl)) (pa_cons (C8.pe_c c_has_bit hr (by decide) (by rfl) (pa_cons (pv 0) (pa_cons (pe_n T.n_BIT_SUPERVISOR (by rfl)) pa_nil))) pa_nil))) (pa_cons (pe_tup (pa_cons (pe_n T.n_BIT_OLD_ON (by rfl)) (pa_cons (C8.pe_c c_has_bit hr (by decide) (by rfl) (pa_cons (pv 0) (pa_cons (pe_n T.n_BIT_ON (by rfl)) pa_nil))) pa_nil))) pa_nil)))) (pss_cons (ps_asg (C8.pe_c c_status_with hr (by decide) (by rfl) (pa_cons (pe_ix ix_list (pv 0) (pe_n T.n_CONTROL_STATUS (by rfl)) (fun _ _ => rfl)) (pa_cons (pe_op op_cat (pv 5) (pe_lst (pa_cons (pe_tup (pa_cons (pe_n T.n_BIT_SUPERVISOR (by rfl)) (pa_cons pe_bl pa_nil))) (pa_cons (pe_tup (pa_cons (pe_n T.n_BIT_ON (by rfl)) (pa_cons pe_bl pa_nil))) pa_nil)))) pa_nil))) (pg_sub (pv 4) (pe_n T.n_CONTROL_STATUS (by rfl)) set_list)) (pss_cons (ps_asg (pe_tup (pa_cons (pv 1) (pa_cons (pv 2) (pa_cons (pv 3) pa_nil)))) (pg_tup rfl (pgs_cons (pg_sub (pv 4) (pe_n T.n_CONTROL_CAUSE (by rfl)) set_list) (pgs_cons (pg_sub (pv 4) (pe_n T.n_CONTROL_HOME (by rfl)) set_list) (pgs_cons (pg_sub (pv 4) (pe_n T.n_CONTROL_BAD (by rfl)) set_list) pgs_nil))))) (pss_one (ps_ret (pv 4))))))), ?_⟩)
  obtain ⟨c, x, y, z, rfl, p, xs, i, j, k, rfl, rfl, rfl, rfl, hp, hw, hi, hj, hk, q⟩ := h
  obtain ⟨s0, hs0, ws0⟩ := hw.at (z := 0) (by decide) (by decide)
  refine ⟨_, rfl, p, xs, rfl, .inl (SqL.of hp), fun l hl => ?_⟩
  have e1 := same_new (o := .lst xs) hl
  refine ⟨_, rfl, _, _, rfl, p, xs, _, rfl, rfl, e1 _ _ hp, hw, by decide, by decide, fun c1 => ⟨sz2, fun t1 h1 => ?_⟩⟩
  have e2 := e1.trans (same_new (o := .tup [.int 4, .bl c1]) h1)
  refine ⟨_, rfl, _, _, rfl, p, xs, _, rfl, rfl, e2 _ _ hp, hw, by decide, by decide, fun c2 => ⟨sz2, fun t2 h2 => ⟨sz2, fun o1 h3 => ?_⟩⟩⟩
  have f2 := same_new (o := .tup [.int 8, .bl c2]) h2
  have f3 := same_new (o := .lst [.ref t1, .ref t2]) h3
  have e4 := e2.trans (f2.trans f3)
  refine ⟨_, rfl, p, xs, _, _, rfl, rfl, SqL.of (e4 _ _ hp), hs0, _, rfl, ⟨sz2, fun t3 h4 => ⟨sz2, fun t4 h5 => ⟨sz2, fun o2 h6 => ?_⟩⟩⟩⟩
  have f4 := same_new (o := .tup [.int 1, .bl true]) h4
  have f5 := same_new (o := .tup [.int 2, .bl false]) h5
  have f6 := same_new (o := .lst [.ref t3, .ref t4]) h6
  refine ⟨o1, o2, [.ref t1, .ref t2], [.ref t3, .ref t4], rfl, rfl, f6 _ _ (f5 _ _ (f4 _ _ upd_same)), upd_same, sz4, fun o3 h7 => ?_⟩
  have f7 := same_new (o := .lst ([.ref t1, .ref t2] ++ [.ref t3, .ref t4])) h7
  have e7 := e4.trans (f4.trans (f5.trans (f6.trans f7)))
  refine ⟨_, _, rfl, s0, o3, [t1, t2, t3, t4], rfl, rfl, ws0, upd_same, fun t ht => ?_, fun r hr => ?_⟩
  · simp only [List.mem_cons, List.not_mem_nil, or_false] at ht
    have g4 := f4.trans (f5.trans (f6.trans f7))
    rcases ht with h | h | h | h <;> subst h
    · exact ⟨4, c1, g4 _ _ (f3 _ _ (f2 _ _ upd_same)), by decide⟩
    · exact ⟨8, c2, g4 _ _ (f3 _ _ upd_same), by decide⟩
    · exact ⟨1, true, f7 _ _ (f6 _ _ (f5 _ _ upd_same)), by decide⟩
    · exact ⟨2, false, f7 _ _ (f6 _ _ upd_same), by decide⟩
  have hl7 := (same_new h1).trans (f2.trans (f3.trans (f4.trans (f5.trans (f6.trans f7))))) l _ upd_same
  refine ⟨_, rfl, l, xs, 0, 0, rfl, rfl, hl7, hw.ix (by decide) (by decide), ?_⟩
  have w1 := hw.set (j := 0) hr
  have e8 := same_mut (o := .lst (xs.set 0 (.int r))) e7 hl
  refine ⟨_, rfl, _, rfl, _, rfl, sz3, fun t5 h8 => ?_⟩
  have f8 := same_new (o := .tup [.int i, .int j, .int k]) h8
  refine ⟨t5, _, rfl, SqT.of upd_same, rfl, _, _, rfl, _, rfl, l, _, 1, 1, rfl, rfl, f8 _ _ upd_same, w1.ix (by decide) (by decide), ?_⟩
  refine ⟨_, _, rfl, _, rfl, l, _, 2, 2, rfl, rfl, upd_same, (w1.set hi).ix (by decide) (by decide), ?_⟩
  refine ⟨_, _, rfl, _, rfl, l, _, 3, 3, rfl, rfl, upd_same, ((w1.set hi).set hj).ix (by decide) (by decide), rfl, ?_⟩
  refine ⟨_, rfl, q l _ _ hl ?_ upd_same (((w1.set hi).set hj).set hk)⟩
  exact same_mut (same_mut (same_mut (e8.trans f8) hl) hl) hl
theorem sc_controls_returned : FnScope ["controls", "found", "news"] ["controls"] (defScope s_controls_returned) := ⟨rfl, rfl, rfl, by decide +kernel, rfl, by decide +kernel, by decide +kernel⟩
theorem ok_controls_returned (T : Hd K w mg)
    (c_has_bit : C8.Cal P w K mg base 1 "has_bit" (spHas) [])
    (c_status_with : C8.Cal P w K mg base 1 "status_with" (spStatus) []) : C8.Cal P w K mg base 2 "controls_returned" (spReturned) [] := by
  obtain ⟨fd, F⟩ := T.f_controls_returned
  refine cal_of F T.g_controls_returned sc_controls_returned (fun _ _ _ _ _ _ us hl => match us, hl with | [_], _ => rfl) len1 (fun cdv A outer s H vs Q E hr h => ⟨_, (pss_cons (ps_set (i := 1) sc_controls_returned.nd rfl (Or.inl rfl) (pe_callTy call_list_of (by rfl) T.b_list (by decide +kernel) (pa_cons (pv 0) pa_nil))) (pss_cons (ps_set (i := 2) sc_controls_returned.nd rfl (Or.inl rfl) (pe_lst (pa_cons (pe_tup (pa_cons (pe_n T.n_BIT_SUPERVISOR (by rfl)) (pa_cons (C8.pe_c c_has_bit hr (by decide) (by rfl) (pa_cons (pv 0) (pa_cons (pe_n T.n_BIT_OLD_SUPERVISOR (by rfl)) pa_nil))) pa_nil))) (pa_cons (pe_tup (pa_cons (pe_n T.n_BIT_ON (by rfl)) (pa_cons (C8.pe_c c_has_bit hr (by decide) (by rfl) (pa_cons (pv 0) (pa_cons (pe_n T.n_BIT_OLD_ON (by rfl)) pa_nil))) pa_nil))) pa_nil)))) (pss_cons (ps_asg (C8.pe_c c_status_with hr (by decide) (by rfl) (pa_cons (pe_ix ix_list (pv 0) (pe_n T.n_CONTROL_STATUS (by rfl)) (fun _ _ => rfl)) (pa_cons (pv 2) pa_nil))) (pg_sub (pv 1) (pe_n T.n_CONTROL_STATUS (by rfl)) set_list)) (pss_one (ps_ret (pv 1)))))), ?_⟩)
  obtain ⟨c, rfl, p, xs, rfl, hp, hw, q⟩ := h
  obtain ⟨s0, hs0, ws0⟩ := hw.at (z := 0) (by decide) (by decide)
  refine ⟨_, rfl, p, xs, rfl, .inl (SqL.of hp), fun l hl => ?_⟩
  have e1 := same_new (o := .lst xs) hl
  refine ⟨_, rfl, _, _, rfl, p, xs, _, rfl, rfl, e1 _ _ hp, hw, by decide, by decide, fun c1 => ⟨sz2, fun t1 h1 => ?_⟩⟩
  have e2 := e1.trans (same_new (o := .tup [.int 1, .bl c1]) h1)
  refine ⟨_, rfl, _, _, rfl, p, xs, _, rfl, rfl, e2 _ _ hp, hw, by decide, by decide, fun c2 => ⟨sz2, fun t2 h2 => ⟨sz2, fun o1 h3 => ?_⟩⟩⟩
  have f2 := same_new (o := .tup [.int 2, .bl c2]) h2
  have f3 := same_new (o := .lst [.ref t1, .ref t2]) h3
  have e4 := e2.trans (f2.trans f3)
  refine ⟨_, rfl, p, xs, _, _, rfl, rfl, SqL.of (e4 _ _ hp), hs0, _, rfl, _, _, rfl, s0, o1, [t1, t2], rfl, rfl, ws0, upd_same, fun t ht => ?_, fun r hr => ?_⟩
  · simp only [List.mem_cons, List.not_mem_nil, or_false] at ht
    rcases ht with h | h <;> subst h
    · exact ⟨1, c1, f3 _ _ (f2 _ _ upd_same), by decide⟩
    · exact ⟨2, c2, f3 _ _ upd_same, by decide⟩
  have hl7 := (same_new h1).trans (f2.trans f3) l _ upd_same
  refine ⟨_, rfl, l, xs, 0, 0, rfl, rfl, hl7, hw.ix (by decide) (by decide), ?_⟩
  exact ⟨_, rfl, q l _ _ hl (same_mut e4 hl) upd_same (hw.set hr)⟩
end
end K97
set_option maxHeartbeats 4000000
/-! Pages. -/
namespace K97
open PySem PySem.Spec PyProof.Rows L2
local macro_rules | `(tactic| walk_at "v") => `(tactic| refine ⟨_, rfl, ?_⟩)
local macro_rules | `(tactic| walk_at "ii") => `(tactic| refine ⟨_, _, rfl, rfl, ?_⟩)
/-- one step of a reading: a name, two whole numbers, a scalar comparison, a truth value -/
local macro_rules | `(tactic| walk_at "s") => `(tactic| first | refine ⟨_, rfl, ?_⟩ | refine ⟨_, _, rfl, rfl, ?_⟩ | refine ⟨rfl, ?_⟩ | exact iteT (by walk_at "s") | exact iteF (by walk_at "s"))
local macro_rules | `(tactic| walk_at "r") => `(tactic| (repeat (first | refine ⟨_, rfl, ?_⟩ | refine ⟨_, _, rfl, rfl, ?_⟩ | refine ⟨rfl, ?_⟩ | refine iteT ?_ | refine iteF ?_)))

section
variable {P : Program} {w : World} {K : PySem.W.Frag} {mg : Str → Option Value} {base : Heap}
def spWB : Sp := sp1 fun x H Q => ∃ i, x = .int i ∧ Wd i ∧ ∀ b, Q (.bl b) H
def spFlags : Sp := sp1 fun x H Q => ∃ i, x = .int i ∧ Wd i ∧ ∀ r, 0 ≤ r → r < 4 → Q (.int r) H
def spFrame : Sp := sp1 fun x H Q => ∃ i, x = .int i ∧ Wd i ∧ ∀ r, 0 ≤ r → r < 64 → Q (.int r) H
def spFirst : Sp := sp2 fun x y H Q => ∃ i j, x = .int i ∧ y = .int j ∧ 0 ≤ i ∧ i < 64 ∧ 0 ≤ j ∧ j < 256 ∧ ∀ r, 0 ≤ r → r < 1024 → Q (.int r) H
def spSecond : Sp := sp2 fun x y H Q => ∃ i j, x = .int i ∧ y = .int j ∧ Wd i ∧ 0 ≤ j ∧ j < 256 ∧ ∀ r, 0 ≤ r → r < 1024 → Q (.int r) H
theorem pos16 : (0 : Int) < 16 := by decide
theorem pos64 : (0 : Int) < 64 := by decide
theorem pos2 : (0 : Int) < 2 := by decide
theorem sc_is_there : FnScope ["word"] ["word"] (defScope s_is_there) := ⟨rfl, rfl, rfl, by decide +kernel, rfl, by decide +kernel, by decide +kernel⟩
theorem ok_is_there (T : Hd K w mg) : C8.Cal P w K mg base 1 "is_there" (spWB) [] := by
  obtain ⟨fd, F⟩ := T.f_is_there
  refine cal_of F T.g_is_there sc_is_there (fun _ _ _ _ _ _ us hl => match us, hl with | [_], _ => rfl) len1 (fun cdv A outer s H vs Q E hr h => ⟨_, (pss_one (ps_ret (pe_cmpR op_ge (pv 0) (pe_n T.n_THERE (by rfl)) (nomark _)))), ?_⟩)
  obtain ⟨x, rfl, i, rfl, hi, q⟩ := h
  exact ⟨_, rfl, _, _, rfl, rfl, q _⟩
theorem sc_flags_of : FnScope ["word"] ["word"] (defScope s_flags_of) := ⟨rfl, rfl, rfl, by decide +kernel, rfl, by decide +kernel, by decide +kernel⟩
theorem ok_flags_of (T : Hd K w mg) : C8.Cal P w K mg base 1 "flags_of" (spFlags) [] := by
  obtain ⟨fd, F⟩ := T.f_flags_of
  refine cal_of F T.g_flags_of sc_flags_of (fun _ _ _ _ _ _ us hl => match us, hl with | [_], _ => rfl) len1 (fun cdv A outer s H vs Q E hr h => ⟨_, (pss_one (ps_ret (pe_op op_add (pe_op op_mod (pe_op op_fdiv (pv 0) (pe_n T.n_USERS (by rfl))) pe_int) (pe_op op_mul pe_int (pe_op op_mod (pe_op op_fdiv (pv 0) (pe_n T.n_WRITTEN (by rfl))) pe_int))))), ?_⟩)
  obtain ⟨x, rfl, i, rfl, hi, q⟩ := h
  refine ⟨_, rfl, _, _, rfl, rfl, ⟨by decide, by decide⟩, _, _, rfl, rfl, pos2, _, rfl, _, _, rfl, rfl, ⟨by decide, by decide⟩, _, _, rfl, rfl, pos2, _, _, rfl, rfl, .inl ⟨by decide, by decide⟩, _, _, rfl, rfl, q _ ?_ ?_⟩ <;> unfold Wd at hi <;> omega
theorem sc_frame_of : FnScope ["word"] ["word"] (defScope s_frame_of) := ⟨rfl, rfl, rfl, by decide +kernel, rfl, by decide +kernel, by decide +kernel⟩
theorem ok_frame_of (T : Hd K w mg) : C8.Cal P w K mg base 1 "frame_of" (spFrame) [] := by
  obtain ⟨fd, F⟩ := T.f_frame_of
  refine cal_of F T.g_frame_of sc_frame_of (fun _ _ _ _ _ _ us hl => match us, hl with | [_], _ => rfl) len1 (fun cdv A outer s H vs Q E hr h => ⟨_, (pss_one (ps_ret (pe_op op_mod (pv 0) (pe_n T.n_MOST_FRAME (by rfl))))), ?_⟩)
  obtain ⟨x, rfl, i, rfl, hi, q⟩ := h
  exact ⟨_, rfl, _, _, rfl, rfl, pos64, q _ (by omega) (by omega)⟩
theorem sc_first_place : FnScope ["root", "page"] ["root", "page"] (defScope s_first_place) := ⟨rfl, rfl, rfl, by decide +kernel, rfl, by decide +kernel, by decide +kernel⟩
theorem ok_first_place (T : Hd K w mg) : C8.Cal P w K mg base 1 "first_place" (spFirst) [] := by
  obtain ⟨fd, F⟩ := T.f_first_place
  refine cal_of F T.g_first_place sc_first_place (fun _ _ _ _ _ _ us hl => match us, hl with | [_, _], _ => rfl) len2 (fun cdv A outer s H vs Q E hr h => ⟨_, (pss_one (ps_ret (pe_op op_add (pe_op op_mul (pv 0) (pe_n T.n_PAGE_SIZE (by rfl))) (pe_op op_fdiv (pv 1) (pe_n T.n_PAGE_SIZE (by rfl)))))), ?_⟩)
  obtain ⟨x, y, rfl, i, j, rfl, rfl, h0, h1, h2, h3, q⟩ := h
  exact ⟨_, rfl, _, _, rfl, rfl, .inr ⟨by decide, by decide⟩, _, rfl, _, _, rfl, rfl, ⟨by decide, by decide⟩, _, _, rfl, rfl, q _ (by omega) (by omega)⟩
theorem sc_second_place : FnScope ["word", "page"] ["word", "page"] (defScope s_second_place) := ⟨rfl, rfl, rfl, by decide +kernel, rfl, by decide +kernel, by decide +kernel⟩
theorem ok_second_place (T : Hd K w mg)
    (c_frame_of : C8.Cal P w K mg base 1 "frame_of" (spFrame) []) : C8.Cal P w K mg base 2 "second_place" (spSecond) [] := by
  obtain ⟨fd, F⟩ := T.f_second_place
  refine cal_of F T.g_second_place sc_second_place (fun _ _ _ _ _ _ us hl => match us, hl with | [_, _], _ => rfl) len2 (fun cdv A outer s H vs Q E hr h => ⟨_, (pss_one (ps_ret (pe_op op_add (pe_op op_mul (C8.pe_c c_frame_of hr (by decide) (by rfl) (pa_cons (pv 0) pa_nil)) (pe_n T.n_PAGE_SIZE (by rfl))) (pe_op op_mod (pv 1) (pe_n T.n_PAGE_SIZE (by rfl)))))), ?_⟩)
  obtain ⟨x, y, rfl, i, j, rfl, rfl, hi, h2, h3, q⟩ := h
  exact ⟨_, rfl, _, rfl, i, rfl, hi, fun r h4 h5 => ⟨_, _, rfl, rfl, .inr ⟨by decide, by decide⟩, _, rfl, _, _, rfl, rfl, pos16, _, _, rfl, rfl, q _ (by omega) (by omega)⟩⟩
def isWay (z : Str) : Prop := z = "fetch" ∨ z = "load" ∨ z = "store"
/-- a looked up place: (place, 0) or (None, cause) -/
def Place (z : Str) (x y : V) : Prop := (∃ i, x = .int i ∧ y = .int 0 ∧ 0 ≤ i ∧ i < 1024 ∧ (z = "fetch" → i < 960)) ∨ (x = .non ∧ ∃ c, y = .int c ∧ 0 < c ∧ c < 16)
def spByWord : Sp := sp4 fun x y z u H Q => ∃ i j wy b, x = .int i ∧ y = .int j ∧ z = .str wy ∧ u = .bl b ∧ Wd i ∧ 0 ≤ j ∧ j < 4096 ∧ isWay wy ∧ RetTup (fun xs => ∃ a c, xs = [a, c] ∧ Place wy a c) H Q
def spStraight : Sp := sp2 fun y z H Q => ∃ j wy, y = .int j ∧ z = .str wy ∧ 0 ≤ j ∧ j < 4096 ∧ isWay wy ∧ RetTup (fun xs => ∃ a c l, xs = [a, c, l] ∧ Place wy a c) H Q
theorem way_cause (T : Hd K w mg) {z : Str} (h : isWay z) : ∃ c, KDct K w (He.ga K "WAY_CAUSES") z (.int c) ∧ 0 < c ∧ c < 16 := by
  obtain ⟨es, n, D⟩ := T.t_WAY_CAUSES
  have go : ∀ {x : Str} {i : Int}, (x, He.Dv.int i) ∈ kv_WAY_CAUSES → KDct K w (He.ga K "WAY_CAUSES") x (.int i) := fun {x i} hm => by
    obtain ⟨u, e, r⟩ := He.valsB_ok T.x_vals_WAY_CAUSES hm
    exact ⟨es, n, u, D.at_, D.lit, e, r⟩
  rcases h with h | h | h <;> subst h
  · exact ⟨4, go (.head _), by decide, by decide⟩
  · exact ⟨5, go (.tail _ (.head _)), by decide, by decide⟩
  · exact ⟨6, go (.tail _ (.tail _ (.head _))), by decide, by decide⟩
theorem str_ne1 : ¬ (("fetch" : Str) = "store") := by decide +kernel
theorem str_ne2 : ¬ (("load" : Str) = "store") := by decide +kernel
theorem str_ne3 : ¬ (("load" : Str) = "fetch") := by decide +kernel
theorem str_ne4 : ¬ (("store" : Str) = "fetch") := by decide +kernel
theorem sc_straight_by : FnScope ["address", "way"] ["address", "way"] (defScope s_straight_by) := ⟨rfl, rfl, rfl, by decide +kernel, rfl, by decide +kernel, by decide +kernel⟩
theorem ok_straight_by (T : Hd K w mg) : C8.Cal P w K mg base 1 "straight_by" (spStraight) [] := by
  obtain ⟨fd, F⟩ := T.f_straight_by
  refine cal_of F T.g_straight_by sc_straight_by (fun _ _ _ _ _ _ us hl => match us, hl with | [_, _], _ => rfl) len2 (fun cdv A outer s H vs Q E hr h => ⟨_, (pss_cons (ps_if (pt_cmpR op_ge (pv 0) (pe_ifExp (pt_cmpR op_eq (pv 1) pe_str (nomark _)) (pe_n T.n_MEMORY_END (by rfl)) (pe_n T.n_MOST_PLACE (by rfl))) (nomark _)) (pss_one (ps_ret (pe_tup (pa_cons pe_non (pa_cons (pe_n T.n_NO_PLACE (by rfl)) (pa_cons (pe_lst pa_nil) pa_nil)))))) pss_nil) (pss_one (ps_ret (pe_tup (pa_cons (pv 0) (pa_cons pe_int (pa_cons (pe_lst pa_nil) pa_nil))))))), ?_⟩)
  obtain ⟨y, z, rfl, j, wy, rfl, rfl, h0, h1, hw, q⟩ := h
  have fin0 : ∀ {m : Int}, m ≤ j → (tRet (tTup (tCons (tC .non) (tCons (tC (.int 7)) (tCons (tLst tNil) tNil)))) { nx := fun _ H' => Q .non H', rt := Q } [some (.int j), some (.str wy)] H : Prop) := fun {m} _ => by
    refine ⟨sz0, fun l hl => ⟨sz3, fun t ht => ?_⟩⟩
    exact q t _ _ (same_free (same_new hl) ht) ((same_new hl).trans (same_new ht)) upd_same ⟨_, _, _, rfl, .inr ⟨rfl, 7, rfl, by decide, by decide⟩⟩
  have fin1 : j < 1024 → (wy = "fetch" → j < 960) → (tRet (tTup (tCons (tVar 0) (tCons (tC (.int 0)) (tCons (tLst tNil) tNil)))) { nx := fun _ H' => Q .non H', rt := Q } [some (.int j), some (.str wy)] H : Prop) := fun g1 g2 => by
    refine ⟨_, rfl, sz0, fun l hl => ⟨sz3, fun t ht => ?_⟩⟩
    exact q t _ _ (same_free (same_new hl) ht) ((same_new hl).trans (same_new ht)) upd_same ⟨_, _, _, rfl, .inl ⟨j, rfl, rfl, h0, g1, g2⟩⟩
  refine ⟨_, rfl, _, rfl, rfl, _, rfl, ?_⟩
  refine iteD (fun e => ?_) fun e => ?_
  · refine ⟨_, _, rfl, rfl, _, rfl, iteD (fun g => fin0 g) fun g => fin1 (by omega) fun _ => by omega⟩
  · refine ⟨_, _, rfl, rfl, _, rfl, iteD (fun g => fin0 g) fun g => fin1 (by omega) fun h => absurd (congrArg V.str h) e⟩
theorem sc_by_word : FnScope ["word", "address", "way", "is_user", "flags", "is_barred", "place"] ["word", "address", "way", "is_user"] (defScope s_by_word) := ⟨rfl, rfl, rfl, by decide +kernel, rfl, by decide +kernel, by decide +kernel⟩
theorem ok_by_word (T : Hd K w mg)
    (c_flags_of : C8.Cal P w K mg base 1 "flags_of" (spFlags) [])
    (c_is_there : C8.Cal P w K mg base 1 "is_there" (spWB) [])
    (c_frame_of : C8.Cal P w K mg base 1 "frame_of" (spFrame) []) : C8.Cal P w K mg base 2 "by_word" (spByWord) [] := by
  obtain ⟨fd, F⟩ := T.f_by_word
  refine cal_of F T.g_by_word sc_by_word (fun _ _ _ _ _ _ us hl => match us, hl with | [_, _, _, _], _ => rfl) len4 (fun cdv A outer s H vs Q E hr h => ⟨_, (pss_cons (ps_set (i := 4) sc_by_word.nd rfl (Or.inl rfl) (C8.pe_c c_flags_of hr (by decide) (by rfl) (pa_cons (pv 0) pa_nil))) (pss_cons (ps_set (i := 5) sc_by_word.nd rfl (Or.inl rfl) (pe_or (pe_and (pv 3) (pe_one (pe_cmpR op_eq (pe_op op_mod (pv 4) pe_int) pe_int (nomark _)))) (pe_one (pe_and (pe_cmpR op_eq (pv 2) pe_str (nomark _)) (pe_one (pe_cmpR op_lt (pv 4) pe_int (nomark _))))))) (pss_cons (ps_if (PW.pt (pw_or (pt_not (pt_val (C8.pe_c c_is_there hr (by decide) (by rfl) (pa_cons (pv 0) pa_nil)))) (pw_or1 (pt_val (pv 5))))) (pss_one (ps_ret (pe_tup (pa_cons pe_non (pa_cons (pe_ix ix_kdict (pe_g T.g_WAY_CAUSES (by rfl)) (pv 2) (fun _ _ => rfl)) pa_nil))))) pss_nil) (pss_cons (ps_set (i := 6) sc_by_word.nd rfl (Or.inl rfl) (pe_op op_add (pe_op op_mul (C8.pe_c c_frame_of hr (by decide) (by rfl) (pa_cons (pv 0) pa_nil)) (pe_n T.n_PAGE_SIZE (by rfl))) (pe_op op_mod (pv 1) (pe_n T.n_PAGE_SIZE (by rfl))))) (pss_cons (ps_if (PW.pt (pw_and (pt_cmpR op_eq (pv 2) pe_str (nomark _)) (pw_and1 (pt_cmpR op_ge (pv 6) (pe_n T.n_MEMORY_END (by rfl)) (nomark _))))) (pss_one (ps_ret (pe_tup (pa_cons pe_non (pa_cons (pe_n T.n_NO_PLACE (by rfl)) pa_nil))))) pss_nil) (pss_one (ps_ret (pe_tup (pa_cons (pv 6) (pa_cons pe_int pa_nil)))))))))), ?_⟩)
  obtain ⟨x, y, z, u, rfl, i, j, wy, b, rfl, rfl, rfl, rfl, hi, h0, h1, hw, q⟩ := h
  obtain ⟨c, hc, c0, c1⟩ := way_cause T hw
  have cause : ∀ {σ : L2.St}, σ[2]? = some (some (.str wy)) → (tRet (tTup (tCons (tC .non) (tCons (tOp (rIxD K w) (tC (.ref (He.ga K "WAY_CAUSES"))) (tVar 2)) tNil))) { nx := fun _ H' => Q .non H', rt := Q } σ H : Prop) := fun {σ} hs => by
    refine ⟨_, hs, _, _, _, rfl, rfl, hc, sz2, fun t ht => ?_⟩
    exact q t _ _ ht (same_new ht) upd_same ⟨_, _, rfl, .inr ⟨rfl, c, rfl, c0, c1⟩⟩
  refine ⟨_, rfl, _, rfl, i, rfl, hi, fun f f0 f1 => ?_⟩
  have rest : ∀ d : Bool, (tSeq (tIfS (tOr (tNot (tB (tCall spWB [] E0 (tCons (tVar 0) tNil)))) (tB (tVar 5))) (tRet (tTup (tCons (tC .non) (tCons (tOp (rIxD K w) (tC (.ref (He.ga K "WAY_CAUSES"))) (tVar 2)) tNil)))) tNext)
      (tSeq (tAsg (tOp (rI0 fun i j => .int (i + j)) (tOp (rI CMul fun i j => .int (i * j)) (tCall spFrame [] E0 (tCons (tVar 0) tNil)) (tC (.int 16))) (tOp (rI (fun _ j => 0 < j) fun i j => .int (i % j)) (tVar 1) (tC (.int 16)))) (gName 6))
        (tSeq (tIfS (tAnd (tTest (tOp rEq (tVar 2) (tC (.str "fetch")))) (tTest (tOp (rI0 fun i j => .bl (decide (j ≤ i))) (tVar 6) (tC (.int 960))))) (tRet (tTup (tCons (tC .non) (tCons (tC (.int 7)) tNil)))) tNext)
          (tRet (tTup (tCons (tVar 6) (tCons (tC (.int 0)) tNil))))))
      { nx := fun _ H' => Q .non H', rt := Q } [some (.int i), some (.int j), some (.str wy), some (.bl b), some (.int f), some (.bl d), none] H : Prop) := fun d => by
    refine ⟨_, rfl, _, rfl, i, rfl, hi, fun tb => ⟨_, rfl, ?_⟩⟩
    refine iteBN (fun _ => cause rfl) fun _ => ⟨_, rfl, d, rfl, iteB (fun _ => cause rfl) fun _ => ?_⟩
    refine ⟨_, rfl, _, rfl, i, rfl, hi, fun r r0 r1 => ⟨_, _, rfl, rfl, .inr ⟨by decide, by decide⟩, _, rfl, _, _, rfl, rfl, pos16, _, _, rfl, rfl, ?_⟩⟩
    have ok : ∀ {H' : Hp}, H' = H → (wy = "fetch" → r * 16 + j % 16 < 960) → (tRet (tTup (tCons (tVar 6) (tCons (tC (.int 0)) tNil))) { nx := fun _ H' => Q .non H', rt := Q } [some (.int i), some (.int j), some (.str wy), some (.bl b), some (.int f), some (.bl d), some (.int (r * 16 + j % 16))] H' : Prop) := fun {H'} e g => by
      subst e
      refine ⟨_, rfl, sz2, fun t ht => q t _ _ ht (same_new ht) upd_same ⟨_, _, rfl, .inl ⟨_, rfl, rfl, by omega, by omega, g⟩⟩⟩
    refine ⟨_, rfl, rfl, _, rfl, iteD (fun e => ⟨_, rfl, _, _, rfl, rfl, _, rfl, iteD (fun g => ?_) fun g => ok rfl fun _ => by omega⟩) fun e => ok rfl fun h => absurd (congrArg V.str h) e⟩
    exact ⟨sz2, fun t ht => q t _ _ ht (same_new ht) upd_same ⟨_, _, rfl, .inr ⟨rfl, 7, rfl, by decide, by decide⟩⟩⟩
  have store : ∀ (g : Bool → Prop), (∀ d, g d) → (tOrV (tC (.bl false)) (tAndV (tOp rEq (tVar 2) (tC (.str "store"))) (tOp (rI0 fun i j => .bl (decide (i < j))) (tVar 4) (tC (.int 2)))) [some (.int i), some (.int j), some (.str wy), some (.bl b), some (.int f), none, none] H (fun x H' => ∃ d, x = .bl d ∧ H' = H ∧ g d) : Prop) := fun g hg => by
    refine ⟨_, rfl, iteF ⟨_, rfl, rfl, _, rfl, iteD (fun e => ⟨_, rfl, _, _, rfl, rfl, _, rfl, rfl, hg _⟩) fun e => ⟨_, rfl, rfl, hg _⟩⟩⟩
  cases b with
  | true =>
    refine ⟨_, rfl, _, rfl, iteT ⟨_, rfl, _, _, rfl, rfl, pos2, rfl, _, rfl, iteD (fun e => ?_) fun e => ?_⟩⟩
    · exact rest true
    · refine ⟨_, rfl, rfl, _, rfl, iteD (fun e => ⟨_, rfl, _, _, rfl, rfl, ?_⟩) fun e => ?_⟩
      · exact rest _
      · exact rest _
  | false =>
    refine ⟨_, rfl, _, rfl, iteF ⟨_, rfl, iteF ⟨_, rfl, rfl, _, rfl, iteD (fun e => ⟨_, rfl, _, _, rfl, rfl, ?_⟩) fun e => ?_⟩⟩⟩
    · exact rest _
    · exact rest _
end
end K97
set_option maxHeartbeats 4000000
/-! Memory. -/
namespace K97
open PySem PySem.Spec PyProof.Rows L2
local macro_rules | `(tactic| walk_at "v") => `(tactic| refine ⟨_, rfl, ?_⟩)
local macro_rules | `(tactic| walk_at "ii") => `(tactic| refine ⟨_, _, rfl, rfl, ?_⟩)
/-- one step of a reading: a name, two whole numbers, a scalar comparison, a truth value -/
local macro_rules | `(tactic| walk_at "s") => `(tactic| first | refine ⟨_, rfl, ?_⟩ | refine ⟨_, _, rfl, rfl, ?_⟩ | refine ⟨rfl, ?_⟩ | exact iteT (by walk_at "s") | exact iteF (by walk_at "s"))
local macro_rules | `(tactic| walk_at "r") => `(tactic| (repeat (first | refine ⟨_, rfl, ?_⟩ | refine ⟨_, _, rfl, rfl, ?_⟩ | refine ⟨rfl, ?_⟩ | refine iteT ?_ | refine iteF ?_)))

section
variable {P : Program} {w : World} {K : PySem.W.Frag} {mg : Str → Option Value} {base : Heap}
def fM (wl : Addr) : List (Str × V) := [("own_words", .ref wl)]
/-- a Memory stands at m, its words at wl -/
structure MemAt (K : PySem.W.Frag) (H : Hp) (m wl : Addr) (ws : List V) : Prop where
  ob : ∃ dx, H m = some (.ins (He.ga K "Memory") dx (fM wl))
  wo : H wl = some (.lst ws)
  wd : Wds 960 ws
theorem MemAt.up {H H' : Hp} {m wl : Addr} {ws : List V} (h : MemAt K H m wl ws) (e : Same H H') : MemAt K H' m wl ws := ⟨let ⟨dx, o⟩ := h.ob; ⟨dx, e _ _ o⟩, e _ _ h.wo, h.wd⟩
theorem wds_zeros (n : Nat) : Wds n (List.replicate n (V.int 0)) := ⟨List.length_replicate, fun x hx => ⟨0, (List.mem_replicate.mp hx).2, by decide, by decide⟩⟩
def spMemI (K : PySem.W.Frag) : Sp := sp1 fun x H Q => ∃ p dx, x = .ref p ∧ H p = some (.ins (He.ga K "Memory") dx []) ∧ ∀ wl H', H wl = none → MemAt K H' p wl (List.replicate 960 (.int 0)) → (∀ b o, H b = some o → b ≠ p → H' b = some o) → Q .non H'
def spMemW (K : PySem.W.Frag) : Sp := sp2 fun x y H Q => ∃ m wl ws i, x = .ref m ∧ y = .int i ∧ MemAt K H m wl ws ∧ 0 ≤ i ∧ i < 960 ∧ ∀ r, Wd r → Q (.int r) H
def NewMem (K : PySem.W.Frag) (H : Hp) (Q : VK) : Prop := ∀ m wl ws H', H m = none → H wl = none → Same H H' → MemAt K H' m wl ws → Q (.ref m) H'
def spMemC (K : PySem.W.Frag) : Sp := sp1 fun x H Q => ∃ m wl ws, x = .ref m ∧ MemAt K H m wl ws ∧ NewMem K H Q
def spPart (n : Nat) : Sp := sp1 fun x H Q => ∃ t l ws, x = .ref t ∧ H t = some (.tup [.int 0, .ref l]) ∧ H l = some (.lst ws) ∧ Wds n ws ∧ ∀ H', Same H H' → Q (.bl true) H'
def spParts (n : Nat) : Sp := sp1 fun x H Q => ∃ p t l ws, x = .ref p ∧ H p = some (.lst [.ref t]) ∧ H t = some (.tup [.int 0, .ref l]) ∧ H l = some (.lst ws) ∧ Wds n ws ∧ ∀ H', Same H H' → Q (.bl true) H'
def spMemOf (K : PySem.W.Frag) (n : Nat) : Sp := sp1 fun x H Q => ∃ p t l ws, x = .ref p ∧ H p = some (.lst [.ref t]) ∧ H t = some (.tup [.int 0, .ref l]) ∧ H l = some (.lst ws) ∧ Wds n ws ∧ NewMem K H Q
theorem sc_Memory_init : FnScope ["self"] ["self"] (defScope s_Memory_init) := ⟨rfl, rfl, rfl, by decide +kernel, rfl, by decide +kernel, by decide +kernel⟩
theorem ok_Memory_init (T : Hd K w mg) : C8.Mak P w K mg base 1 "Memory" (He.ga K "Memory") (spMemI K) [] := by
  obtain ⟨fd, F⟩ := T.f_Memory_init
  refine mak_of T.k_Memory T.g_Memory F sc_Memory_init (fun _ _ _ _ _ _ us hl => match us, hl with | [_], _ => rfl) len1 (fun cdv A outer s H vs Q E hr h => ⟨_, (pss_one (ps_fld (pv 0) (pe_op op_rep (pe_lst (pa_cons pe_int pa_nil)) (pe_n T.n_MEMORY_END (by rfl))) rfl)), ?_⟩)
  obtain ⟨x, rfl, p, dx, rfl, hp, q⟩ := h
  refine ⟨sz1, fun l0 h0 => ⟨l0, 960, [.int 0], rfl, rfl, upd_same, by decide, by decide, sz (by decide), fun wl hw => ?_⟩⟩
  have e1 := (same_new (o := .lst [.int 0]) h0).trans (same_new (o := .lst (List.replicate (960 : Int).toNat [V.int 0]).flatten) hw)
  refine ⟨_, rfl, p, _, dx, [], rfl, e1 _ _ hp, T.c_Memory, T.a_Memory_own_words, by decide, ?_⟩
  have hlen : (List.replicate (960 : Int).toNat [V.int 0]).flatten = List.replicate 960 (V.int 0) := by decide +kernel
  have hwp : wl ≠ p := fun e => by rw [e] at hw; have := same_new (o := .lst [.int 0]) h0 _ _ hp; rw [hw] at this; cases this
  refine q wl _ (same_free (same_new h0) hw) ⟨⟨dx, upd_same⟩, by rw [upd_ne hwp, upd_same, hlen], wds_zeros _⟩ fun b o e hb => by rw [upd_ne hb]; exact e1 _ _ e
theorem sc_Memory_word : FnScope ["self", "place"] ["self", "place"] (defScope s_Memory_word) := ⟨rfl, rfl, rfl, by decide +kernel, rfl, by decide +kernel, by decide +kernel⟩
theorem ok_Memory_word (T : Hd K w mg)
    (c_want_memory_place : C8.Cal P w K mg base 4 "want_memory_place" (spNeed 960) []) : C8.Met P w K mg base 5 (He.ga K "Memory") "word" (spMemW K) [] := by
  obtain ⟨fd, F⟩ := T.f_Memory_word
  refine met_of T.c_Memory T.m_Memory_word F sc_Memory_word (fun _ _ _ _ _ _ us hl => match us, hl with | [_, _], _ => rfl) len2 (fun cdv A outer s H vs Q E hr h => ⟨_, (pss_cons (ps_expr (C8.pe_c c_want_memory_place hr (by decide) (by rfl) (pa_cons (pv 1) pa_nil))) (pss_one (ps_ret (pe_ix ix_list (pe_fld (pv 0) rfl) (pv 1) (fun _ _ => rfl))))), ?_⟩)
  obtain ⟨x, y, rfl, m, wl, ws, i, rfl, rfl, hm, h0, h1, q⟩ := h
  obtain ⟨dx, ho⟩ := hm.ob
  obtain ⟨r, hr1, hr2⟩ := hm.wd.at h0 h1
  exact ⟨_, rfl, _, rfl, i, rfl, h0, h1, _, rfl, m, _, dx, _, _, rfl, ho, T.c_Memory, T.a_Memory_own_words, rfl, _, rfl, wl, ws, i, _, rfl, rfl, SqL.of hm.wo, hr1, q r hr2⟩
theorem sc_Memory_copy : FnScope ["self", "found"] ["self"] (defScope s_Memory_copy) := ⟨rfl, rfl, rfl, by decide +kernel, rfl, by decide +kernel, by decide +kernel⟩
theorem ok_Memory_copy (T : Hd K w mg)
    (c_Memory : C8.Mak P w K mg base 1 "Memory" (He.ga K "Memory") (spMemI K) []) : C8.Met P w K mg base 3 (He.ga K "Memory") "copy" (spMemC K) [] := by
  obtain ⟨fd, F⟩ := T.f_Memory_copy
  refine met_of T.c_Memory T.m_Memory_copy F sc_Memory_copy (fun _ _ _ _ _ _ us hl => match us, hl with | [_], _ => rfl) len1 (fun cdv A outer s H vs Q E hr h => ⟨_, (pss_cons (ps_set (i := 1) sc_Memory_copy.nd rfl (Or.inl rfl) (pe_mk0 c_Memory hr (by decide) (by rfl))) (pss_cons (ps_fld (pv 1) (pe_callTy call_list_of (by rfl) T.b_list (by decide +kernel) (pa_cons (pe_fld (pv 0) rfl) pa_nil)) rfl) (pss_one (ps_ret (pv 1))))), ?_⟩)
  obtain ⟨x, rfl, m, wl, ws, rfl, hm, q⟩ := h
  obtain ⟨dx, ho⟩ := hm.ob
  intro n dn hn hdn hne
  have e0 : Same H (upd (upd H dn (.own n)) n (.ins (He.ga K "Memory") dn [])) := (same_new hdn).trans (same_new (by rw [upd_ne hne.symm]; exact hn))
  refine ⟨_, rfl, n, dn, rfl, upd_same, fun w2 H2 hw2 M2 k2 => ⟨rfl, ?_⟩⟩
  have e2 : Same H H2 := fun b o e => k2 b o (e0 _ _ e) (ne_of_none e hn)
  obtain ⟨d2, ho2⟩ := M2.ob
  refine ⟨_, rfl, m, _, dx, _, _, rfl, e2 _ _ ho, T.c_Memory, T.a_Memory_own_words, rfl, wl, ws, rfl, .inl (SqL.of (e2 _ _ hm.wo)), fun l hl => ?_⟩
  have e3 := e2.trans (same_new (o := .lst ws) hl)
  have hln : l ≠ n := fun z => by rw [z, ho2] at hl; cases hl
  refine ⟨_, rfl, n, _, d2, fM w2, rfl, by rw [upd_ne hln.symm]; exact ho2, T.c_Memory, T.a_Memory_own_words, (show 1 < 1000 by decide), _, rfl, ?_⟩
  exact q n l ws _ hn (same_free e2 hl) (same_mut e3 hn) ⟨⟨d2, upd_same⟩, by rw [upd_ne hln, upd_same], hm.wd⟩
theorem map_words {n : Nat} {xs : List V} (h : Wds n xs) : xs.map (fun x => V.bl (isB 65536 x)) = (xs.map fun _ => true).map V.bl := by
  rw [List.map_map]
  refine List.map_congr_left fun x hx => ?_
  obtain ⟨i, rfl, h0, h1⟩ := h.all x hx
  show V.bl (isB 65536 (.int i)) = V.bl true
  rw [isB_int h0 h1]
theorem all_true {α : Type} (xs : List α) : (xs.map fun _ => true).all id = true := by
  rw [List.all_eq_true]
  intro b hb
  obtain ⟨_, _, rfl⟩ := List.mem_map.mp hb
  rfl
theorem sc_is_memory_part : FnScope ["value", "word"] ["value"] (defScope s_is_memory_part) := ⟨rfl, rfl, rfl, by decide +kernel, rfl, by decide +kernel, by decide +kernel⟩
theorem ok_is_memory_part (T : Hd K w mg)
    (c_is_list : C8.Cal P w K mg base 1 "is_list" (spList K) [])
    (c_is_memory_place : C8.Cal P w K mg base 3 "is_memory_place" (spBelow K 960) [])
    (c_is_word : C8.Cal P w K mg base 3 "is_word" (spBelow K 65536) []) : C8.Cal P w K mg base 4 "is_memory_part" (spPart 6) [] := by
  obtain ⟨fd, F⟩ := T.f_is_memory_part
  refine cal_of F T.g_is_memory_part sc_is_memory_part (fun _ _ _ _ _ _ us hl => match us, hl with | [_], _ => rfl) len1 (fun cdv A outer s H vs Q E hr h => ⟨_, (pss_cons (ps_if (PW.pt (pw_or (pt_not (pt_val (pe_callB call_isi (by rfl) T.b_isinstance (by decide +kernel) (pa_cons (pv 0) (pa_cons (pe_ty (n := "tuple") T.b_tuple (by rfl) (by decide +kernel)) pa_nil))))) (pw_or (pt_cmpR op_ne (pe_callB call_len (by rfl) T.b_len (by decide +kernel) (pa_cons (pv 0) pa_nil)) pe_int (nomark _)) (pw_or (pt_not (pt_val (C8.pe_c c_is_memory_place hr (by decide) (by rfl) (pa_cons (pe_ix ix_tup (pv 0) pe_int (fun _ _ => rfl)) pa_nil)))) (pw_or1 (pt_not (pt_val (C8.pe_c c_is_list hr (by decide) (by rfl) (pa_cons (pe_ix ix_tup (pv 0) pe_int (fun _ _ => rfl)) pa_nil))))))))) (pss_one (ps_ret pe_bl)) pss_nil) (pss_one (ps_ret (pe_and (pe_cmpR op_le (pe_op op_add (pe_ix ix_tup (pv 0) pe_int (fun _ _ => rfl)) (pe_callB call_len (by rfl) T.b_len (by decide +kernel) (pa_cons (pe_ix ix_tup (pv 0) pe_int (fun _ _ => rfl)) pa_nil))) (pe_n T.n_MEMORY_END (by rfl)) (nomark _)) (pe_one (pe_callB (cr_all rfl) (by rfl) T.b_all (by decide +kernel) (pa_cons (pe_lc (own := [("word", 1)]) (g := gName 1) rfl sc_is_memory_part.nd (pi_list (pe_ix ix_tup (pv 0) pe_int (fun _ _ => rfl))) (blkOk_by (own := [("word", 1)]) (N := ["value", "word"]) (sc := defScope s_is_memory_part) (by decide +kernel)) (fun _ _ _ _ _ => pg_name (i := 1) sc_is_memory_part.nd rfl (Or.inl rfl)) (fun _ _ _ _ _ => pts_nil) (fun _ _ _ _ _ => (C8.pe_c c_is_word hr (by decide) (by rfl) (pa_cons (pv 1) pa_nil)))) pa_nil))))))), ?_⟩)
  obtain ⟨x, rfl, t, l, ws, rfl, ht, hl, hw, q⟩ := h
  refine ⟨_, rfl, _, _, _, _, _, rfl, .ty _, .base (.tup ht), kit_ty (r := true) (by decide +kernel), _, rfl, iteF ?_⟩
  refine ⟨_, rfl, _, 2, rfl, .inr ⟨_, SqT.of ht, rfl⟩, rfl, _, rfl, iteF ?_⟩
  refine ⟨_, rfl, t, _, 0, _, rfl, rfl, SqT.of ht, rfl, _, rfl, Seen.int, _, rfl, iteF ?_⟩
  refine ⟨_, rfl, t, _, 1, _, rfl, rfl, SqT.of ht, rfl, _, rfl, "list", .base (.lst hl), by decide +kernel, by decide +kernel, fun H1 e1 => ⟨_, rfl, iteF ?_⟩⟩
  refine ⟨_, rfl, t, _, 0, _, rfl, rfl, SqT.of (e1 _ _ ht), rfl, _, rfl, t, _, 1, _, rfl, rfl, SqT.of (e1 _ _ ht), rfl, _, 6, rfl, .inl ⟨ws, SqL.of (e1 _ _ hl), hw.len.symm⟩, _, _, rfl, rfl, _, _, rfl, rfl, _, rfl, iteT ?_⟩
  refine ⟨_, rfl, t, _, 1, _, rfl, rfl, SqT.of (e1 _ _ ht), rfl, l, rfl, ⟨_, SqL.of (e1 _ _ hl)⟩, fun D hD => lc_mapL (xs := ws) (fun x => V.bl (isB 65536 x)) (SqL.of (e1 _ _ hl)) hD (by rw [hw.len]; decide) (fun _ => rfl) (fun i x H2 hx e2 Q2 q2 => ?_) fun H2 e2 hd => ?_⟩
  · obtain ⟨k, rfl, _⟩ := hw.all x (List.mem_of_getElem? hx)
    exact ⟨_, rfl, _, rfl, Seen.int, q2 _ (Same.refl _)⟩
  · refine ⟨D, ws.map fun _ => true, rfl, SqL.of (by rw [hd, map_words hw]), ?_⟩
    rw [all_true]
    exact q _ (e1.trans e2)
theorem sc_are_parts : FnScope ["value", "part"] ["value"] (defScope s_are_parts) := ⟨rfl, rfl, rfl, by decide +kernel, rfl, by decide +kernel, by decide +kernel⟩
theorem ok_are_parts (T : Hd K w mg)
    (c_is_memory_part : C8.Cal P w K mg base 4 "is_memory_part" (spPart 6) [])
    (c_is_list : C8.Cal P w K mg base 1 "is_list" (spList K) []) : C8.Cal P w K mg base 5 "are_parts" (spParts 6) [] := by
  obtain ⟨fd, F⟩ := T.f_are_parts
  refine cal_of F T.g_are_parts sc_are_parts (fun _ _ _ _ _ _ us hl => match us, hl with | [_], _ => rfl) len1 (fun cdv A outer s H vs Q E hr h => ⟨_, (pss_one (ps_ret (pe_and (C8.pe_c c_is_list hr (by decide) (by rfl) (pa_cons (pv 0) pa_nil)) (pe_one (pe_callB (cr_all rfl) (by rfl) T.b_all (by decide +kernel) (pa_cons (pe_lc (own := [("part", 1)]) (g := gName 1) rfl sc_are_parts.nd (pi_list (pv 0)) (blkOk_by (own := [("part", 1)]) (N := ["value", "part"]) (sc := defScope s_are_parts) (by decide +kernel)) (fun _ _ _ _ _ => pg_name (i := 1) sc_are_parts.nd rfl (Or.inl rfl)) (fun _ _ _ _ _ => pts_nil) (fun _ _ _ _ _ => (C8.pe_c c_is_memory_part hr (by decide) (by rfl) (pa_cons (pv 1) pa_nil)))) pa_nil)))))), ?_⟩)
  obtain ⟨x, rfl, p, t, l, ws, rfl, hp, ht, hl, hw, q⟩ := h
  refine ⟨_, rfl, _, rfl, "list", .base (.lst hp), by decide +kernel, by decide +kernel, fun H1 e1 => ⟨_, rfl, iteT ?_⟩⟩
  refine ⟨_, rfl, p, rfl, ⟨_, SqL.of (e1 _ _ hp)⟩, fun D hD => lc_mapL (xs := [.ref t]) (fun _ => V.bl true) (SqL.of (e1 _ _ hp)) hD (show 1 ≤ 100000 by decide) (fun _ => rfl) (fun i x H2 hx e2 Q2 q2 => ?_) fun H2 e2 hd => ?_⟩
  · have hx2 : x = .ref t := by simpa using List.mem_of_getElem? hx
    subst hx2
    exact ⟨_, rfl, _, rfl, t, l, ws, rfl, e2 _ _ (e1 _ _ ht), e2 _ _ (e1 _ _ hl), hw, fun H3 e3 => q2 _ e3⟩
  · exact ⟨D, [true], rfl, SqL.of hd, q _ (e1.trans e2)⟩
theorem sc_memory_of : FnScope ["parts", "found", "place", "words", "step", "word"] ["parts"] (defScope s_memory_of) := ⟨rfl, rfl, rfl, by decide +kernel, rfl, by decide +kernel, by decide +kernel⟩
theorem ok_memory_of (T : Hd K w mg)
    (c_are_parts : C8.Cal P w K mg base 5 "are_parts" (spParts 6) [])
    (c_Memory : C8.Mak P w K mg base 1 "Memory" (He.ga K "Memory") (spMemI K) []) : C8.Cal P w K mg base 6 "memory_of" (spMemOf K 6) [] := by
  obtain ⟨fd, F⟩ := T.f_memory_of
  refine cal_of F T.g_memory_of sc_memory_of (fun _ _ _ _ _ _ us hl => match us, hl with | [_], _ => rfl) len1 (fun cdv A outer s H vs Q E hr h => ⟨_, (pss_cons (ps_if (pt_not (pt_val (C8.pe_c c_are_parts hr (by decide) (by rfl) (pa_cons (pv 0) pa_nil)))) (pss_one ps_never) pss_nil) (pss_cons (ps_set (i := 1) sc_memory_of.nd rfl (Or.inl rfl) (pe_mk0 c_Memory hr (by decide) (by rfl))) (pss_cons (ps_for PassesOwn.never rfl (pi_list (pv 0)) (pg_tup rfl (pgs_cons (pg_name (i := 2) sc_memory_of.nd rfl (Or.inl rfl)) (pgs_cons (pg_name (i := 3) sc_memory_of.nd rfl (Or.inl rfl)) pgs_nil))) (pss_one (ps_for PassesOwn.never rfl (pi_enum (by rfl) T.b_enumerate (pa_cons (pv 3) pa_nil)) (pg_tup rfl (pgs_cons (pg_name (i := 4) sc_memory_of.nd rfl (Or.inl rfl)) (pgs_cons (pg_name (i := 5) sc_memory_of.nd rfl (Or.inl rfl)) pgs_nil))) (pss_one (ps_asg (pv 5) (pg_sub (pe_fld (pv 1) rfl) (pe_op op_add (pv 2) (pv 4)) set_list)))))) (pss_one (ps_ret (pv 1)))))), ?_⟩)
  obtain ⟨x, rfl, p, t, l, ws, rfl, hp, ht, hl, hw, q⟩ := h
  refine ⟨_, rfl, _, rfl, p, t, l, ws, rfl, hp, ht, hl, hw, fun H1 e1 => ⟨_, rfl, iteF ?_⟩⟩
  intro n dn hn hdn hne
  have e0 : Same H1 (upd (upd H1 dn (.own n)) n (.ins (He.ga K "Memory") dn [])) := (same_new hdn).trans (same_new (by rw [upd_ne hne.symm]; exact hn))
  refine ⟨_, rfl, n, dn, rfl, upd_same, fun w2 H2 hw2 M2 k2 => ⟨rfl, ?_⟩⟩
  have e2 : Same H1 H2 := fun b o e => k2 b o (e0 _ _ e) (ne_of_none e hn)
  have hw2' : H1 w2 = none := same_free e0 hw2
  have E2 := e1.trans e2
  have hnw : n ≠ w2 := fun z => by obtain ⟨d, o⟩ := M2.ob; rw [z, M2.wo] at o; cases o
  -- the words so far
  let I : Hp → Prop := fun H' => Same H H' ∧ ∃ zs, MemAt K H' n w2 zs
  have I2 : I H2 := ⟨E2, _, M2⟩
  refine ⟨_, rfl, p, rfl, ⟨_, SqL.of (E2 _ _ hp)⟩, for_list (xs := [.ref t]) (fun i σ H' => I H' ∧ ∃ a b c d, σ = [some (.ref p), some (.ref n), a, b, c, d]) ⟨I2, _, _, _, _, rfl⟩ (fun i σ H' _ z => SqL.of (z.1.1 _ _ hp)) ?_ ?_⟩
  · rintro i x σ H' hx ⟨⟨e3, zs, M3⟩, a, b, c, d, rfl⟩
    have hx2 : x = .ref t := by simpa using List.mem_of_getElem? hx
    subst hx2
    refine ⟨t, _, rfl, SqT.of (e3 _ _ ht), rfl, _, _, rfl, _, _, rfl, rfl, ?_⟩
    refine ⟨_, rfl, l, ws, rfl, SqL.of (e3 _ _ hl), for_enum (xs := ws) (fun i σ H' => I H' ∧ ∃ c d, σ = [some (.ref p), some (.ref n), some (.int 0), some (.ref l), c, d]) ⟨⟨e3, zs, M3⟩, _, _, rfl⟩ (fun i σ H' _ z => SqL.of (z.1.1 _ _ hl)) ?_ ?_⟩
    · rintro i y σ H' u hy ⟨⟨e4, zs, M4⟩, c, d, rfl⟩ hu
      obtain ⟨k, rfl, wk⟩ := hw.all y (List.mem_of_getElem? hy)
      have hi : i < 6 := by have := (List.getElem?_eq_some_iff.mp hy).1; rw [hw.len] at this; exact this
      have f1 := same_new (o := .tup [.int (i : Nat), .int k]) hu
      have M5 := M4.up f1
      obtain ⟨d5, o5⟩ := M5.ob
      refine ⟨u, _, rfl, SqT.of upd_same, rfl, _, _, rfl, _, _, rfl, rfl, ?_⟩
      refine ⟨_, rfl, _, rfl, n, _, d5, _, _, rfl, o5, T.c_Memory, T.a_Memory_own_words, rfl, _, rfl, _, rfl, _, _, rfl, rfl, w2, zs, _, i, rfl, rfl, M5.wo, ?_, ?_⟩
      · exact ixn_of (by omega) (by rw [M5.wd.len]; omega)
      · exact ⟨⟨same_mut (e4.trans f1) (same_free e1 hw2'), _, ⟨⟨d5, by rw [upd_ne hnw]; exact o5⟩, upd_same, M5.wd.set wk⟩⟩, _, _, rfl⟩
    · rintro σ H' ⟨z, c, d, rfl⟩
      exact ⟨z, _, _, _, _, rfl⟩
  · rintro σ H' ⟨⟨e3, zs, M3⟩, a, b, c, d, rfl⟩
    exact ⟨_, rfl, q n w2 zs H' (same_free e1 hn) (same_free e1 hw2') e3 M3⟩
end
end K97
set_option maxHeartbeats 4000000
/-! Devices. -/
namespace K97
open PySem PySem.Spec PyProof.Rows L2
local macro_rules | `(tactic| walk_at "v") => `(tactic| refine ⟨_, rfl, ?_⟩)
local macro_rules | `(tactic| walk_at "ii") => `(tactic| refine ⟨_, _, rfl, rfl, ?_⟩)
/-- one step of a reading: a name, two whole numbers, a scalar comparison, a truth value -/
local macro_rules | `(tactic| walk_at "s") => `(tactic| first | refine ⟨_, rfl, ?_⟩ | refine ⟨_, _, rfl, rfl, ?_⟩ | refine ⟨rfl, ?_⟩ | exact iteT (by walk_at "s") | exact iteF (by walk_at "s"))
local macro_rules | `(tactic| walk_at "r") => `(tactic| (repeat (first | refine ⟨_, rfl, ?_⟩ | refine ⟨_, _, rfl, rfl, ?_⟩ | refine ⟨rfl, ?_⟩ | refine iteT ?_ | refine iteF ?_)))

section
variable {P : Program} {w : World} {K : PySem.W.Frag} {mg : Str → Option Value} {base : Heap}
def fD (it : Addr) (tk : Int) (ol : Addr) (st ti : Int) (ll : Addr) : List (Str × V) := [("own_inputs", .ref it), ("own_taken", .int tk), ("own_outputs", .ref ol), ("own_steps", .int st), ("own_timer", .int ti), ("own_lines", .ref ll)]
/-- Devices stand at d: one input, what was taken; n: a bound of the outputs -/
structure DevAt (K : PySem.W.Frag) (H : Hp) (n : Nat) (d it ol ll : Addr) : Prop where
  ob : ∃ dx tk st ti, H d = some (.ins (He.ga K "Devices") dx (fD it tk ol st ti ll)) ∧ (tk = 0 ∨ tk = 1) ∧ Wd ti
  inp : H it = some (.tup [.int 5])
  out : ∃ xs, H ol = some (.lst xs) ∧ xs.length ≤ n
  lin : ∃ a b c e, H ll = some (.lst [.bl a, .bl b, .bl c, .bl e])
  ne : ol ≠ ll
/-- all but the devices' own objects stays -/
def But (H H' : Hp) (d ol ll : Addr) : Prop := ∀ b o, H b = some o → b ≠ d → b ≠ ol → b ≠ ll → H' b = some o
theorem DevAt.mono {H : Hp} {n m : Nat} {d it ol ll : Addr} (h : DevAt K H n d it ol ll) (l : n ≤ m) : DevAt K H m d it ol ll := ⟨h.ob, h.inp, let ⟨xs, a, b⟩ := h.out; ⟨xs, a, Nat.le_trans b l⟩, h.lin, h.ne⟩
def spDev (K : PySem.W.Frag) : Sp := sp1 fun x H Q => Seen K H x ∧ ∀ H', Same H H' → Q (.bl (match x with | .int i => decide (i = 960) || (decide (i = 961) || (decide (i = 976) || decide (i = 977))) | _ => false)) H'
def spDevM (K : PySem.W.Frag) : Sp := sp2 fun x y H Q => ∃ n d it ol ll, x = .ref d ∧ DevAt K H n d it ol ll ∧ Seen K H y ∧ ∀ H', Same H H' → Q (.bl (match y with | .int i => decide (i = 960) || (decide (i = 961) || (decide (i = 976) || decide (i = 977))) | _ => false)) H'
def spInputs : Sp := sp1 fun x H Q => ∃ l, x = .ref l ∧ H l = some (.lst [.int 5]) ∧ ∀ H', Same H H' → Q .non H'
def spDevI (K : PySem.W.Frag) : Sp := sp2 fun x y H Q => ∃ d dx l, x = .ref d ∧ y = .ref l ∧ H d = some (.ins (He.ga K "Devices") dx []) ∧ H l = some (.lst [.int 5]) ∧
  ∀ it ol ll H', H it = none → H ol = none → H ll = none → DevAt K H' 0 d it ol ll → (∀ b o, H b = some o → b ≠ d → H' b = some o) → Q .non H'
def spDevR (K : PySem.W.Frag) : Sp := sp2 fun x y H Q => ∃ n d it ol ll i, x = .ref d ∧ y = .int i ∧ DevAt K H n d it ol ll ∧ ∀ r H', Wd r → DevAt K H' n d it ol ll → But H H' d ol ll → Q (.int r) H'
def spDevW (K : PySem.W.Frag) : Sp := sp3 fun x y z H Q => ∃ n d it ol ll i k, x = .ref d ∧ y = .int i ∧ z = .int k ∧ DevAt K H n d it ol ll ∧ Wd k ∧ n ≤ 1000 ∧ ∀ H', DevAt K H' (n + 1) d it ol ll → But H H' d ol ll → Q .non H'
def spLine (K : PySem.W.Frag) : Sp := sp2 fun x y H Q => ∃ n d it ol ll i, x = .ref d ∧ y = .int i ∧ DevAt K H n d it ol ll ∧ 0 ≤ i ∧ i < 4 ∧ ∀ H', DevAt K H' n d it ol ll → But H H' d ol ll → Q .non H'
def spCounted (K : PySem.W.Frag) : Sp := sp1 fun x H Q => ∃ n d it ol ll, x = .ref d ∧ DevAt K H n d it ol ll ∧ ∀ H', DevAt K H' n d it ol ll → But H H' d ol ll → Q .non H'
/-- the least raised line of a mask: it is raised -/
def spDue (K : PySem.W.Frag) : Sp := sp2 fun x y H Q => ∃ n d it ol ll i, x = .ref d ∧ y = .int i ∧ DevAt K H n d it ol ll ∧ Wd i ∧ Q .non H ∧ ∀ j xs, 0 ≤ j → j < 4 → H ll = some (.lst xs) → atI xs j = some (.bl true) → Q (.int j) H
def spLowered (K : PySem.W.Frag) : Sp := sp2 fun x y H Q => ∃ n d it ol ll i xs, x = .ref d ∧ y = .int i ∧ DevAt K H n d it ol ll ∧ 0 ≤ i ∧ i < 4 ∧ H ll = some (.lst xs) ∧ atI xs i = some (.bl true) ∧ ∀ H', DevAt K H' n d it ol ll → But H H' d ol ll → Q .non H'
theorem four_at {x y z u : V} {i : Int} (h0 : 0 ≤ i) (h1 : i < 4) : atI [x, y, z, u] i = some (if i = 0 then x else if i = 1 then y else if i = 2 then z else u) ∧ ixN 4 i = some i.toNat := by
  have : i = 0 ∨ i = 1 ∨ i = 2 ∨ i = 3 := by omega
  rcases this with h | h | h | h <;> subst h <;> exact ⟨rfl, rfl⟩
theorem four_set {a b c e v : Bool} {n : Nat} : ∃ a' b' c' e' : Bool, [V.bl a, .bl b, .bl c, .bl e].set n (.bl v) = [.bl a', .bl b', .bl c', .bl e'] := by
  rcases n with _ | _ | _ | _ | n
  · exact ⟨v, b, c, e, rfl⟩
  · exact ⟨a, v, c, e, rfl⟩
  · exact ⟨a, b, v, e, rfl⟩
  · exact ⟨a, b, c, v, rfl⟩
  · exact ⟨a, b, c, e, rfl⟩
theorem beq_flip (a i : Int) : (a == i) = decide (i = a) := by
  by_cases e : i = a
  · subst e; simp
  · rw [decide_eq_false e]; exact beq_eq_false_iff_ne.mpr (Ne.symm e)
theorem sc_is_device_there : FnScope ["value"] ["value"] (defScope s_is_device_there) := ⟨rfl, rfl, rfl, by decide +kernel, rfl, by decide +kernel, by decide +kernel⟩
theorem ok_is_device_there (T : Hd K w mg)
    (c_is_count : C8.Cal P w K mg base 2 "is_count" (spCount K) []) : C8.Cal P w K mg base 3 "is_device_there" (spDev K) [] := by
  obtain ⟨fd, F⟩ := T.f_is_device_there
  refine cal_of F T.g_is_device_there sc_is_device_there (fun _ _ _ _ _ _ us hl => match us, hl with | [_], _ => rfl) len1 (fun cdv A outer s H vs Q E hr h => ⟨_, (pss_one (ps_ret (pe_and (C8.pe_c c_is_count hr (by decide) (by rfl) (pa_cons (pv 0) pa_nil)) (pe_one (pe_cmpR op_in_seq (pv 0) (pe_tup (pa_cons (pe_n T.n_DEVICE_INPUT (by rfl)) (pa_cons (pe_n T.n_DEVICE_LEFT (by rfl)) (pa_cons (pe_n T.n_DEVICE_STEPS (by rfl)) (pa_cons (pe_n T.n_DEVICE_TIMER (by rfl)) pa_nil))))) (by rfl)))))), ?_⟩)
  obtain ⟨x, rfl, sn, q⟩ := h
  refine ⟨_, rfl, _, rfl, sn, _, rfl, ?_⟩
  cases x with
  | int i =>
    refine iteD (fun h0 => ⟨_, rfl, sz4, fun t ht => ⟨t, _, rfl, .inr (SqT.of upd_same), rfl, rfl, ?_⟩⟩) fun h0 => ?_
    · refine q_bl (q _ (same_new ht)) ?_
      show inV (.int i) [.int 960, .int 961, .int 976, .int 977] = _
      simp only [inV, List.any_cons, List.any_nil, Bool.or_false, eqV]
      simp only [beq_flip]
    · refine q_bl (q _ (Same.refl _)) ?_
      have h1 : ¬ i = 960 := by omega
      have h2 : ¬ i = 961 := by omega
      have h3 : ¬ i = 976 := by omega
      have h4 : ¬ i = 977 := by omega
      simp [h1, h2, h3, h4]
  | _ => exact iteF (q _ (Same.refl _))
theorem sc_Devices_can : FnScope ["self", "place"] ["self", "place"] (defScope s_Devices_can) := ⟨rfl, rfl, rfl, by decide +kernel, rfl, by decide +kernel, by decide +kernel⟩
theorem ok_Devices_can (T : Hd K w mg)
    (c_is_device_there : C8.Cal P w K mg base 3 "is_device_there" (spDev K) []) : C8.Met P w K mg base 4 (He.ga K "Devices") "can" (spDevM K) [] := by
  obtain ⟨fd, F⟩ := T.f_Devices_can
  refine met_of T.c_Devices T.m_Devices_can F sc_Devices_can (fun _ _ _ _ _ _ us hl => match us, hl with | [_, _], _ => rfl) len2 (fun cdv A outer s H vs Q E hr h => ⟨_, (pss_one (ps_ret (C8.pe_c c_is_device_there hr (by decide) (by rfl) (pa_cons (pv 1) pa_nil)))), ?_⟩)
  obtain ⟨x, y, rfl, n, d, it, ol, ll, rfl, hd, sn, q⟩ := h
  exact ⟨_, rfl, _, rfl, sn, q⟩
theorem sc_want_inputs : FnScope ["value", "word"] ["value"] (defScope s_want_inputs) := ⟨rfl, rfl, rfl, by decide +kernel, rfl, by decide +kernel, by decide +kernel⟩
theorem ok_want_inputs (T : Hd K w mg)
    (c_is_word : C8.Cal P w K mg base 3 "is_word" (spBelow K 65536) [])
    (c_is_list : C8.Cal P w K mg base 1 "is_list" (spList K) []) : C8.Cal P w K mg base 4 "want_inputs" (spInputs) [] := by
  obtain ⟨fd, F⟩ := T.f_want_inputs
  refine cal_of F T.g_want_inputs sc_want_inputs (fun _ _ _ _ _ _ us hl => match us, hl with | [_], _ => rfl) len1 (fun cdv A outer s H vs Q E hr h => ⟨_, (pss_one (ps_if (PW.pt (pw_or (pt_not (pt_val (C8.pe_c c_is_list hr (by decide) (by rfl) (pa_cons (pv 0) pa_nil)))) (pw_or (pt_cmpR op_gt (pe_callB call_len (by rfl) T.b_len (by decide +kernel) (pa_cons (pv 0) pa_nil)) (pe_n T.n_MOST_INPUTS (by rfl)) (nomark _)) (pw_or1 (pt_not (pt_val (pe_callB (cr_all rfl) (by rfl) T.b_all (by decide +kernel) (pa_cons (pe_lc (own := [("word", 1)]) (g := gName 1) rfl sc_want_inputs.nd (pi_list (pv 0)) (blkOk_by (own := [("word", 1)]) (N := ["value", "word"]) (sc := defScope s_want_inputs) (by decide +kernel)) (fun _ _ _ _ _ => pg_name (i := 1) sc_want_inputs.nd rfl (Or.inl rfl)) (fun _ _ _ _ _ => pts_nil) (fun _ _ _ _ _ => (C8.pe_c c_is_word hr (by decide) (by rfl) (pa_cons (pv 1) pa_nil)))) pa_nil)))))))) (pss_one ps_never) pss_nil)), ?_⟩)
  obtain ⟨x, rfl, l, rfl, hl, q⟩ := h
  refine ⟨_, rfl, _, rfl, "list", .base (.lst hl), by decide +kernel, by decide +kernel, fun H1 e1 => ⟨_, rfl, iteF ?_⟩⟩
  refine ⟨_, rfl, _, 1, rfl, .inl ⟨_, SqL.of (e1 _ _ hl), rfl⟩, _, _, rfl, rfl, _, rfl, iteF ?_⟩
  refine ⟨_, rfl, l, rfl, ⟨_, SqL.of (e1 _ _ hl)⟩, fun D hD => lc_mapL (xs := [.int 5]) (fun _ => V.bl true) (SqL.of (e1 _ _ hl)) hD (show 1 ≤ 100000 by decide) (fun _ => rfl) (fun i x H2 hx e2 Q2 q2 => ?_) fun H2 e2 hd => ?_⟩
  · have hx2 : x = .int 5 := by simpa using List.mem_of_getElem? hx
    subst hx2
    exact ⟨_, rfl, _, rfl, Seen.int, q2 _ (Same.refl _)⟩
  · exact ⟨D, [true], rfl, SqL.of hd, _, rfl, iteF (q _ (e1.trans e2))⟩
theorem sc_Devices_init : FnScope ["self", "inputs"] ["self", "inputs"] (defScope s_Devices_init) := ⟨rfl, rfl, rfl, by decide +kernel, rfl, by decide +kernel, by decide +kernel⟩
theorem ok_Devices_init (T : Hd K w mg)
    (c_want_inputs : C8.Cal P w K mg base 4 "want_inputs" (spInputs) []) : C8.Mak P w K mg base 5 "Devices" (He.ga K "Devices") (spDevI K) [] := by
  obtain ⟨fd, F⟩ := T.f_Devices_init
  refine mak_of T.k_Devices T.g_Devices F sc_Devices_init (fun _ _ _ _ _ _ us hl => match us, hl with | [_, _], _ => rfl) len2 (fun cdv A outer s H vs Q E hr h => ⟨_, (pss_cons (ps_expr (C8.pe_c c_want_inputs hr (by decide) (by rfl) (pa_cons (pv 1) pa_nil))) (pss_cons (ps_fld (pv 0) (pe_callTy call_tuple_of (by rfl) T.b_tuple (by decide +kernel) (pa_cons (pv 1) pa_nil)) rfl) (pss_cons (ps_fld (pv 0) pe_int rfl) (pss_cons (ps_fld (pv 0) (pe_lst pa_nil) rfl) (pss_cons (ps_fld (pv 0) pe_int rfl) (pss_cons (ps_fld (pv 0) pe_int rfl) (pss_one (ps_fld (pv 0) (pe_op op_rep (pe_lst (pa_cons pe_bl pa_nil)) (pe_n T.n_LINES (by rfl))) rfl)))))))), ?_⟩)
  obtain ⟨x, y, rfl, d, dx, l, rfl, rfl, hd, hl, q⟩ := h
  refine ⟨_, rfl, _, rfl, l, rfl, hl, fun H1 e1 => ?_⟩
  refine ⟨_, rfl, l, [.int 5], rfl, .inl ⟨SqL.of (e1 _ _ hl), fun it h1 => ?_⟩⟩
  have a1 : ∀ b o, H b = some o → b ≠ d → upd H1 it (.tup [.int 5]) b = some o := fun b o e _ => same_new h1 _ _ (e1 _ _ e)
  have nid : d ≠ it := ne_of_none (e1 _ _ hd) h1
  refine ⟨_, rfl, d, _, dx, [], rfl, by rw [upd_ne nid]; exact e1 _ _ hd, T.c_Devices, T.a_Devices_own_inputs, by decide, ?_⟩
  refine ⟨_, rfl, d, _, dx, _, rfl, upd_same, T.c_Devices, T.a_Devices_own_taken, (show 1 < 1000 by decide), ?_⟩
  refine ⟨sz0, fun ol h2 => ⟨_, rfl, d, _, dx, _, rfl, same_new h2 _ _ upd_same, T.c_Devices, T.a_Devices_own_outputs, (show 2 < 1000 by decide), ?_⟩⟩
  have nod : ol ≠ d := fun e => by rw [e, upd_same] at h2; cases h2
  have noi : ol ≠ it := fun e => by rw [e, upd_ne nid.symm, upd_ne nid.symm, upd_same] at h2; cases h2
  have h2' : H ol = none := by
    rw [upd_ne nod, upd_ne nod, upd_ne noi] at h2
    exact same_free e1 h2
  refine ⟨_, rfl, d, _, dx, _, rfl, upd_same, T.c_Devices, T.a_Devices_own_steps, (show 3 < 1000 by decide), ?_⟩
  refine ⟨_, rfl, d, _, dx, _, rfl, upd_same, T.c_Devices, T.a_Devices_own_timer, (show 4 < 1000 by decide), ?_⟩
  refine ⟨sz1, fun l0 h3 => ⟨l0, 4, [.bl false], rfl, rfl, upd_same, by decide, by decide, sz4, fun ll h4 => ⟨_, rfl, d, _, dx, _, rfl, same_new h4 _ _ (same_new h3 _ _ upd_same), T.c_Devices, T.a_Devices_own_lines, (show 5 < 1000 by decide), ?_⟩⟩⟩
  have nld : ll ≠ d := fun e => by rw [e, same_new h3 _ _ upd_same] at h4; cases h4
  have n0d : l0 ≠ d := fun e => by rw [e, upd_same] at h3; cases h3
  have n0o : l0 ≠ ol := fun e => by rw [e, upd_ne nod, upd_ne nod, upd_ne nod, upd_same] at h3; cases h3
  have n0i : l0 ≠ it := fun e => by rw [e, upd_ne nid.symm, upd_ne nid.symm, upd_ne nid.symm, upd_ne noi.symm, upd_ne nid.symm, upd_ne nid.symm, upd_same] at h3; cases h3
  have nl0 : ll ≠ l0 := fun e => by rw [e, upd_same] at h4; cases h4
  have nlo : ll ≠ ol := fun e => by rw [e, upd_ne n0o.symm, upd_ne nod, upd_ne nod, upd_ne nod, upd_same] at h4; cases h4
  have nli : ll ≠ it := fun e => by rw [e, upd_ne n0i.symm, upd_ne nid.symm, upd_ne nid.symm, upd_ne nid.symm, upd_ne noi.symm, upd_ne nid.symm, upd_ne nid.symm, upd_same] at h4; cases h4
  have h4' : H ll = none := by
    rw [upd_ne nl0, upd_ne nld, upd_ne nld, upd_ne nld, upd_ne nlo, upd_ne nld, upd_ne nld, upd_ne nli] at h4
    exact same_free e1 h4
  have h0' : ∀ b o, H b = some o → b ≠ d → b ≠ l0 := fun b o e hb z => by
    rw [z] at e
    rw [upd_ne n0d, upd_ne n0d, upd_ne n0d, upd_ne n0o, upd_ne n0d, upd_ne n0d, upd_ne n0i, e1 _ _ e] at h3
    cases h3
  refine q it ol ll _ (same_free e1 h1) h2' h4' ⟨⟨dx, 0, 0, 0, upd_same, .inl rfl, by decide, by decide⟩, ?_, ⟨[], ?_, Nat.le_refl _⟩, ⟨false, false, false, false, ?_⟩, nlo.symm⟩ fun b o e hb => ?_
  · rw [upd_ne nid.symm, upd_ne nli.symm, upd_ne n0i.symm, upd_ne nid.symm, upd_ne nid.symm, upd_ne nid.symm, upd_ne noi.symm, upd_ne nid.symm, upd_ne nid.symm, upd_same]
  · rw [upd_ne nod, upd_ne nlo.symm, upd_ne n0o.symm, upd_ne nod, upd_ne nod, upd_ne nod, upd_same]
  · rw [upd_ne nld, upd_same]; rfl
  · rw [upd_ne hb, upd_ne (ne_of_none e h4'), upd_ne (h0' b o e hb), upd_ne hb, upd_ne hb, upd_ne hb, upd_ne (ne_of_none e h2'), upd_ne hb, upd_ne hb]
    exact a1 b o e hb
theorem But.refl {H : Hp} {d ol ll : Addr} : But H H d ol ll := fun _ _ e _ _ _ => e
theorem DevAt.nd {n : Nat} {H : Hp} {d it ol ll : Addr} (h : DevAt K H n d it ol ll) : d ≠ it ∧ d ≠ ol ∧ d ≠ ll ∧ it ≠ ol ∧ it ≠ ll := by
  obtain ⟨dx, tk, st, ti, ho, _⟩ := h.ob
  obtain ⟨xs, hx, _⟩ := h.out
  obtain ⟨a, b, c, e, hl⟩ := h.lin
  exact ⟨ne_of ho h.inp (by intro z; cases z), ne_of ho hx (by intro z; cases z), ne_of ho hl (by intro z; cases z), ne_of h.inp hx (by intro z; cases z), ne_of h.inp hl (by intro z; cases z)⟩
/-- the devices with other numbers -/
theorem DevAt.put {n : Nat} {H : Hp} {d it ol ll dx : Addr} {tk st ti : Int} (h : DevAt K H n d it ol ll) (ht : tk = 0 ∨ tk = 1) (hw : Wd ti) : DevAt K (upd H d (.ins (He.ga K "Devices") dx (fD it tk ol st ti ll))) n d it ol ll := by
  obtain ⟨n1, n2, n3, _⟩ := h.nd
  exact ⟨⟨dx, tk, st, ti, upd_same, ht, hw⟩, by rw [upd_ne n1.symm]; exact h.inp, by rw [upd_ne n2.symm]; exact h.out, by rw [upd_ne n3.symm]; exact h.lin, h.ne⟩
theorem But.put {H : Hp} {d ol ll : Addr} {o : HO} : But H (upd H d o) d ol ll := fun b u e h1 _ _ => by rw [upd_ne h1]; exact e
theorem sc_Devices_device_read : FnScope ["self", "place"] ["self", "place"] (defScope s_Devices_device_read) := ⟨rfl, rfl, rfl, by decide +kernel, rfl, by decide +kernel, by decide +kernel⟩
theorem ok_Devices_device_read (T : Hd K w mg) : C8.Met P w K mg base 1 (He.ga K "Devices") "device_read" (spDevR K) [] := by
  obtain ⟨fd, F⟩ := T.f_Devices_device_read
  refine met_of T.c_Devices T.m_Devices_device_read F sc_Devices_device_read (fun _ _ _ _ _ _ us hl => match us, hl with | [_, _], _ => rfl) len2 (fun cdv A outer s H vs Q E hr h => ⟨_, (pss_cons (ps_if (pt_cmpR op_eq (pv 1) (pe_n T.n_DEVICE_LEFT (by rfl)) (nomark _)) (pss_one (ps_ret (pe_op op_sub (pe_callB call_len (by rfl) T.b_len (by decide +kernel) (pa_cons (pe_fld (pv 0) rfl) pa_nil)) (pe_fld (pv 0) rfl)))) pss_nil) (pss_cons (ps_if (pt_cmpR op_eq (pv 1) (pe_n T.n_DEVICE_STEPS (by rfl)) (nomark _)) (pss_one (ps_ret (pe_op op_mod (pe_fld (pv 0) rfl) (pe_n T.n_MOST_WORD (by rfl))))) pss_nil) (pss_cons (ps_if (pt_cmpR op_eq (pv 1) (pe_n T.n_DEVICE_TIMER (by rfl)) (nomark _)) (pss_one (ps_ret (pe_fld (pv 0) rfl))) pss_nil) (pss_cons (ps_if (pt_cmpR op_eq (pe_fld (pv 0) rfl) (pe_callB call_len (by rfl) T.b_len (by decide +kernel) (pa_cons (pe_fld (pv 0) rfl) pa_nil)) (nomark _)) (pss_one (ps_ret pe_int)) pss_nil) (pss_cons (ps_fld (pv 0) (pe_op op_add (pe_fld (pv 0) rfl) pe_int) rfl) (pss_one (ps_ret (pe_ix ix_tup (pe_fld (pv 0) rfl) (pe_op op_sub (pe_fld (pv 0) rfl) pe_int) (fun _ _ => rfl))))))))), ?_⟩)
  obtain ⟨x, y, rfl, n, d, it, ol, ll, i, rfl, rfl, hd, q⟩ := h
  obtain ⟨dx, tk, st, ti, ho, htk, hti⟩ := hd.ob
  have len1 : ∀ {H' : Hp}, H' = H → True := fun _ => trivial
  refine ⟨_, rfl, rfl, _, rfl, iteD (fun e1 => ?_) fun e1 => ⟨_, rfl, rfl, _, rfl, iteD (fun e2 => ?_) fun e2 => ⟨_, rfl, rfl, _, rfl, iteD (fun e3 => ?_) fun e3 => ?_⟩⟩⟩
  · refine ⟨_, rfl, d, _, dx, _, _, rfl, ho, T.c_Devices, T.a_Devices_own_inputs, rfl, _, 1, rfl, .inr ⟨_, SqT.of hd.inp, rfl⟩, _, rfl, d, _, dx, _, _, rfl, ho, T.c_Devices, T.a_Devices_own_taken, rfl, _, _, rfl, rfl, ?_⟩
    refine q _ H ?_ hd But.refl
    rcases htk with h | h <;> subst h <;> exact ⟨by decide, by decide⟩
  · exact ⟨_, rfl, d, _, dx, _, _, rfl, ho, T.c_Devices, T.a_Devices_own_steps, rfl, _, _, rfl, rfl, pos_w, q _ H (wd_mod _) hd But.refl⟩
  · exact ⟨_, rfl, d, _, dx, _, _, rfl, ho, T.c_Devices, T.a_Devices_own_timer, rfl, q _ H hti hd But.refl⟩
  · refine ⟨_, rfl, d, _, dx, _, _, rfl, ho, T.c_Devices, T.a_Devices_own_taken, rfl, _, rfl, d, _, dx, _, _, rfl, ho, T.c_Devices, T.a_Devices_own_inputs, rfl, _, 1, rfl, .inr ⟨_, SqT.of hd.inp, rfl⟩, rfl, _, rfl, iteD (fun e4 => q 0 H ⟨by decide, by decide⟩ hd But.refl) fun e4 => ?_⟩
    have t0 : tk = 0 := by
      rcases htk with h | h
      · exact h
      · subst h; exact absurd rfl e4
    subst t0
    refine ⟨_, rfl, d, _, dx, _, _, rfl, ho, T.c_Devices, T.a_Devices_own_taken, rfl, _, _, rfl, rfl, _, rfl, d, _, dx, _, rfl, ho, T.c_Devices, T.a_Devices_own_taken, (show 6 < 1000 by decide), ?_⟩
    have hd2 : DevAt K (upd H d (.ins (He.ga K "Devices") dx (fD it 1 ol st ti ll))) n d it ol ll := hd.put (.inr rfl) hti
    exact ⟨_, rfl, d, _, dx, _, _, rfl, upd_same, T.c_Devices, T.a_Devices_own_inputs, rfl, _, rfl, d, _, dx, _, _, rfl, upd_same, T.c_Devices, T.a_Devices_own_taken, rfl, _, _, rfl, rfl, it, _, 0, _, rfl, rfl, SqT.of hd2.inp, rfl, q 5 _ ⟨by decide, by decide⟩ hd2 But.put⟩
theorem sc_Devices_device_write : FnScope ["self", "place", "word"] ["self", "place", "word"] (defScope s_Devices_device_write) := ⟨rfl, rfl, rfl, by decide +kernel, rfl, by decide +kernel, by decide +kernel⟩
theorem ok_Devices_device_write (T : Hd K w mg) : C8.Met P w K mg base 1 (He.ga K "Devices") "device_write" (spDevW K) [] := by
  obtain ⟨fd, F⟩ := T.f_Devices_device_write
  refine met_of T.c_Devices T.m_Devices_device_write F sc_Devices_device_write (fun _ _ _ _ _ _ us hl => match us, hl with | [_, _, _], _ => rfl) len3 (fun cdv A outer s H vs Q E hr h => ⟨_, (pss_one (ps_if (pt_cmpR op_eq (pv 1) (pe_n T.n_DEVICE_INPUT (by rfl)) (nomark _)) (pss_one (ps_expr (pe_bm PySem.F.plainAttrs_list PySem.F.slot_list_append PySem.F.type_list_append mt_append (pe_fld (pv 0) rfl) (pa_cons (pv 2) pa_nil)))) (pss_one (ps_if (pt_cmpR op_eq (pv 1) (pe_n T.n_DEVICE_TIMER (by rfl)) (nomark _)) (pss_one (ps_fld (pv 0) (pv 2) rfl)) pss_nil)))), ?_⟩)
  obtain ⟨x, y, z, rfl, n, d, it, ol, ll, i, k, rfl, rfl, rfl, hd, hk, hn, q⟩ := h
  obtain ⟨dx, tk, st, ti, ho, htk, hti⟩ := hd.ob
  obtain ⟨xs, hx, hz⟩ := hd.out
  obtain ⟨n1, n2, n3, n4, n5⟩ := hd.nd
  refine ⟨_, rfl, rfl, _, rfl, iteD (fun e1 => ?_) fun e1 => ⟨_, rfl, rfl, _, rfl, iteD (fun e2 => ?_) fun e2 => ?_⟩⟩
  · refine ⟨_, rfl, d, _, dx, _, _, rfl, ho, T.c_Devices, T.a_Devices_own_outputs, rfl, .inl ⟨rfl, _, SqL.of hx⟩, _, rfl, ol, xs, _, rfl, rfl, hx, szl (by omega), ?_⟩
    refine q _ ⟨?_, ?_, ⟨_, upd_same, by rw [List.length_append]; exact Nat.add_le_add_right hz 1⟩, ?_, hd.ne⟩ fun b o e _ h2 _ => by rw [upd_ne h2]; exact e
    · exact ⟨dx, tk, st, ti, by rw [upd_ne n2]; exact ho, htk, hti⟩
    · rw [upd_ne n4]; exact hd.inp
    · rw [upd_ne hd.ne.symm]; exact hd.lin
  · exact ⟨_, rfl, _, rfl, d, _, dx, _, rfl, ho, T.c_Devices, T.a_Devices_own_timer, (show 6 < 1000 by decide), q _ ((hd.put htk hk).mono (Nat.le_succ _)) But.put⟩
  · exact q _ (hd.mono (Nat.le_succ _)) But.refl
theorem DevAt.line {n : Nat} {H : Hp} {d it ol ll : Addr} {xs : List V} (h : DevAt K H n d it ol ll) (hx : ∃ a b c e, xs = [.bl a, .bl b, .bl c, .bl e]) : DevAt K (upd H ll (.lst xs)) n d it ol ll ∧ But H (upd H ll (.lst xs)) d ol ll := by
  obtain ⟨n1, n2, n3, n4, n5⟩ := h.nd
  obtain ⟨a, b, c, e, rfl⟩ := hx
  exact ⟨⟨by rw [upd_ne n3]; exact h.ob, by rw [upd_ne n5]; exact h.inp, by rw [upd_ne h.ne]; exact h.out, ⟨a, b, c, e, upd_same⟩, h.ne⟩, fun b o e _ _ h3 => by rw [upd_ne h3]; exact e⟩
theorem sc_Devices_raised : FnScope ["self", "line"] ["self", "line"] (defScope s_Devices_raised) := ⟨rfl, rfl, rfl, by decide +kernel, rfl, by decide +kernel, by decide +kernel⟩
theorem ok_Devices_raised (T : Hd K w mg)
    (c_want_line : C8.Cal P w K mg base 3 "want_line" (spNeed 4) []) : C8.Met P w K mg base 4 (He.ga K "Devices") "raised" (spLine K) [] := by
  obtain ⟨fd, F⟩ := T.f_Devices_raised
  refine met_of T.c_Devices T.m_Devices_raised F sc_Devices_raised (fun _ _ _ _ _ _ us hl => match us, hl with | [_, _], _ => rfl) len2 (fun cdv A outer s H vs Q E hr h => ⟨_, (pss_cons (ps_expr (C8.pe_c c_want_line hr (by decide) (by rfl) (pa_cons (pv 1) pa_nil))) (pss_one (ps_asg pe_bl (pg_sub (pe_fld (pv 0) rfl) (pv 1) set_list)))), ?_⟩)
  obtain ⟨x, y, rfl, n, d, it, ol, ll, i, rfl, rfl, hd, h0, h1, q⟩ := h
  obtain ⟨dx, tk, st, ti, ho, htk, hti⟩ := hd.ob
  obtain ⟨a, b, c, e, hl⟩ := hd.lin
  obtain ⟨k1, k2⟩ := hd.line (four_set (a := a) (b := b) (c := c) (e := e) (v := true) (n := i.toNat))
  exact ⟨_, rfl, _, rfl, i, rfl, h0, h1, _, rfl, d, _, dx, _, _, rfl, ho, T.c_Devices, T.a_Devices_own_lines, rfl, _, rfl, ll, _, i, _, rfl, rfl, hl, (four_at (x := V.bl a) (y := .bl b) (z := .bl c) (u := .bl e) h0 h1).2, q _ k1 k2⟩
theorem sc_Devices_counted : FnScope ["self"] ["self"] (defScope s_Devices_counted) := ⟨rfl, rfl, rfl, by decide +kernel, rfl, by decide +kernel, by decide +kernel⟩
theorem ok_Devices_counted (T : Hd K w mg) : C8.Met P w K mg base 1 (He.ga K "Devices") "counted" (spCounted K) [] := by
  obtain ⟨fd, F⟩ := T.f_Devices_counted
  refine met_of T.c_Devices T.m_Devices_counted F sc_Devices_counted (fun _ _ _ _ _ _ us hl => match us, hl with | [_], _ => rfl) len1 (fun cdv A outer s H vs Q E hr h => ⟨_, (pss_cons (ps_fld (pv 0) (pe_op op_add (pe_fld (pv 0) rfl) pe_int) rfl) (pss_one (ps_if (PW.pt (pw_and (pt_cmpR op_ne (pe_fld (pv 0) rfl) pe_int (nomark _)) (pw_and1 (pt_cmpR op_eq (pe_op op_mod (pe_fld (pv 0) rfl) (pe_n T.n_MOST_WORD (by rfl))) (pe_fld (pv 0) rfl) (nomark _))))) (pss_one (ps_asg pe_bl (pg_sub (pe_fld (pv 0) rfl) pe_int set_list))) pss_nil))), ?_⟩)
  obtain ⟨x, rfl, n, d, it, ol, ll, rfl, hd, q⟩ := h
  obtain ⟨dx, tk, st, ti, ho, htk, hti⟩ := hd.ob
  refine ⟨_, rfl, d, _, dx, _, _, rfl, ho, T.c_Devices, T.a_Devices_own_steps, rfl, _, _, rfl, rfl, _, rfl, d, _, dx, _, rfl, ho, T.c_Devices, T.a_Devices_own_steps, (show 6 < 1000 by decide), ?_⟩
  have hd2 : DevAt K (upd H d (.ins (He.ga K "Devices") dx (fD it tk ol (st + 1) ti ll))) n d it ol ll := hd.put htk hti
  have b2 : But H (upd H d (.ins (He.ga K "Devices") dx (fD it tk ol (st + 1) ti ll))) d ol ll := But.put
  refine ⟨_, rfl, d, _, dx, _, _, rfl, upd_same, T.c_Devices, T.a_Devices_own_timer, rfl, rfl, _, rfl, iteN (fun e1 => ⟨_, rfl, d, _, dx, _, _, rfl, upd_same, T.c_Devices, T.a_Devices_own_steps, rfl, _, _, rfl, rfl, pos_w, _, rfl, d, _, dx, _, _, rfl, upd_same, T.c_Devices, T.a_Devices_own_timer, rfl, rfl, _, rfl, iteD (fun e2 => ?_) fun e2 => q _ hd2 b2⟩) fun e1 => q _ hd2 b2⟩
  obtain ⟨a, b, c, e, hl⟩ := hd2.lin
  obtain ⟨k1, k2⟩ := hd2.line (four_set (a := a) (b := b) (c := c) (e := e) (v := true) (n := 0))
  exact ⟨_, rfl, d, _, dx, _, _, rfl, upd_same, T.c_Devices, T.a_Devices_own_lines, rfl, ll, _, 0, 0, rfl, rfl, hl, rfl, q _ k1 fun b o e h1 h2 h3 => k2 b o (b2 b o e h1 h2 h3) h1 h2 h3⟩
theorem sc_Devices_lowered : FnScope ["self", "line"] ["self", "line"] (defScope s_Devices_lowered) := ⟨rfl, rfl, rfl, by decide +kernel, rfl, by decide +kernel, by decide +kernel⟩
theorem ok_Devices_lowered (T : Hd K w mg)
    (c_want_line : C8.Cal P w K mg base 3 "want_line" (spNeed 4) []) : C8.Met P w K mg base 4 (He.ga K "Devices") "lowered" (spLowered K) [] := by
  obtain ⟨fd, F⟩ := T.f_Devices_lowered
  refine met_of T.c_Devices T.m_Devices_lowered F sc_Devices_lowered (fun _ _ _ _ _ _ us hl => match us, hl with | [_, _], _ => rfl) len2 (fun cdv A outer s H vs Q E hr h => ⟨_, (pss_cons (ps_expr (C8.pe_c c_want_line hr (by decide) (by rfl) (pa_cons (pv 1) pa_nil))) (pss_cons (ps_if (pt_not (pt_val (pe_ix ix_list (pe_fld (pv 0) rfl) (pv 1) (fun _ _ => rfl)))) (pss_one ps_never) pss_nil) (pss_one (ps_asg pe_bl (pg_sub (pe_fld (pv 0) rfl) (pv 1) set_list))))), ?_⟩)
  obtain ⟨x, y, rfl, n, d, it, ol, ll, i, xs, rfl, rfl, hd, h0, h1, hxs, hat, q⟩ := h
  obtain ⟨dx, tk, st, ti, ho, htk, hti⟩ := hd.ob
  obtain ⟨a, b, c, e, hl⟩ := hd.lin
  obtain rfl : [V.bl a, .bl b, .bl c, .bl e] = xs := by rw [hl] at hxs; injection hxs with hxs; injection hxs
  obtain ⟨k1, k2⟩ := hd.line (four_set (a := a) (b := b) (c := c) (e := e) (v := false) (n := i.toNat))
  refine ⟨_, rfl, _, rfl, i, rfl, h0, h1, ?_⟩
  refine ⟨_, rfl, d, _, dx, _, _, rfl, ho, T.c_Devices, T.a_Devices_own_lines, rfl, _, rfl, ll, _, i, _, rfl, rfl, SqL.of hl, hat, _, rfl, iteF ?_⟩
  exact ⟨_, rfl, d, _, dx, _, _, rfl, ho, T.c_Devices, T.a_Devices_own_lines, rfl, _, rfl, ll, _, i, _, rfl, rfl, hl, (four_at (x := V.bl a) (y := .bl b) (z := .bl c) (u := .bl e) h0 h1).2, q _ k1 k2⟩
theorem sc_Devices_due : FnScope ["self", "mask", "line"] ["self", "mask"] (defScope s_Devices_due) := ⟨rfl, rfl, rfl, by decide +kernel, rfl, by decide +kernel, by decide +kernel⟩
theorem ok_Devices_due (T : Hd K w mg)
    (c_want_word : C8.Cal P w K mg base 4 "want_word" (spNeed 65536) []) : C8.Met P w K mg base 5 (He.ga K "Devices") "due" (spDue K) [] := by
  obtain ⟨fd, F⟩ := T.f_Devices_due
  refine met_of T.c_Devices T.m_Devices_due F sc_Devices_due (fun _ _ _ _ _ _ us hl => match us, hl with | [_, _], _ => rfl) len2 (fun cdv A outer s H vs Q E hr h => ⟨_, (pss_cons (ps_expr (C8.pe_c c_want_word hr (by decide) (by rfl) (pa_cons (pv 1) pa_nil))) (pss_cons (ps_for PassesOwn.never rfl (pi_range1 (by rfl) T.b_range (pa_cons (pe_n T.n_LINES (by rfl)) pa_nil)) (pg_name (i := 2) sc_Devices_due.nd rfl (Or.inl rfl)) (pss_one (ps_if (PW.pt (pw_and (pt_val (pe_ix ix_list (pe_fld (pv 0) rfl) (pv 2) (fun _ _ => rfl))) (pw_and1 (pt_cmpR op_eq (pe_op op_and (pe_op op_shr (pv 1) (pv 2)) pe_int) pe_int (nomark _))))) (pss_one (ps_ret (pv 2))) pss_nil))) (pss_one (ps_ret pe_non)))), ?_⟩)
  obtain ⟨x, y, rfl, n, d, it, ol, ll, i, rfl, rfl, hd, hi, q0, q⟩ := h
  obtain ⟨dx, tk, st, ti, ho, htk, hti⟩ := hd.ob
  obtain ⟨a, b, c, e, hl⟩ := hd.lin
  refine ⟨_, rfl, _, rfl, i, rfl, hi.1, hi.2, ?_⟩
  refine ⟨4, rfl, by decide, by decide, for_range (n := 4) (fun k σ H' => H' = H ∧ ∃ u, σ = [some (.ref d), some (.int i), u]) ⟨rfl, _, rfl⟩ ?_ ?_⟩
  · rintro k σ H' hk ⟨rfl, u, rfl⟩
    have hk0 : (0 : Int) ≤ (0 : Int) + (k : Int) := by omega
    have hk1 : (0 : Int) + (k : Int) < 4 := by omega
    have hat := (four_at (x := V.bl a) (y := .bl b) (z := .bl c) (u := .bl e) hk0 hk1).1
    obtain ⟨v, hv⟩ : ∃ v : Bool, (if (0 : Int) + (k : Int) = 0 then V.bl a else if (0 : Int) + (k : Int) = 1 then V.bl b else if (0 : Int) + (k : Int) = 2 then V.bl c else V.bl e) = .bl v := by
      split
      · exact ⟨_, rfl⟩
      · split
        · exact ⟨_, rfl⟩
        · split <;> exact ⟨_, rfl⟩
    rw [hv] at hat
    refine ⟨_, rfl, d, _, dx, _, _, rfl, ho, T.c_Devices, T.a_Devices_own_lines, rfl, _, rfl, ll, _, _, _, rfl, rfl, SqL.of hl, hat, _, rfl, iteB (fun ev => ?_) fun _ => ⟨rfl, _, rfl⟩⟩
    subst ev
    refine ⟨_, rfl, _, rfl, _, _, rfl, rfl, hk0, _, _, rfl, rfl, rfl, _, rfl, iteD (fun _ => ?_) fun _ => ⟨rfl, _, rfl⟩⟩
    exact ⟨_, rfl, q _ _ hk0 hk1 hl hat⟩
  · rintro σ H' ⟨rfl, u, rfl⟩
    exact q0
end
end K97
set_option maxHeartbeats 4000000
/-! Instructions. -/
namespace K97
open PySem PySem.Spec PyProof.Rows L2 RZ
local macro_rules | `(tactic| walk_at "v") => `(tactic| refine ⟨_, rfl, ?_⟩)
local macro_rules | `(tactic| walk_at "ii") => `(tactic| refine ⟨_, _, rfl, rfl, ?_⟩)
/-- one step of a reading: a name, two whole numbers, a scalar comparison, a truth value -/
local macro_rules | `(tactic| walk_at "s") => `(tactic| first | refine ⟨_, rfl, ?_⟩ | refine ⟨_, _, rfl, rfl, ?_⟩ | refine ⟨rfl, ?_⟩ | exact iteT (by walk_at "s") | exact iteF (by walk_at "s"))
local macro_rules | `(tactic| walk_at "r") => `(tactic| (repeat (first | refine ⟨_, rfl, ?_⟩ | refine ⟨_, _, rfl, rfl, ?_⟩ | refine ⟨rfl, ?_⟩ | refine iteT ?_ | refine iteF ?_)))

section
variable {P : Program} {w : World} {K : PySem.W.Frag} {mg : Str → Option Value} {base : Heap}
def nms : List Str := ["add", "sub", "mul", "div", "and", "or", "xor", "shl", "shr", "low", "eq", "addi", "ld", "st", "jr", "lim", "lhi", "bz", "bnz", "jal", "sys", "rdc", "wrc", "ret", "halt", "nop"]
def fns : List Str := ["three", "near", "byte", "far", "call", "control", "bare"]
/-- the name of operation k, its form, the form's name and parts -/
def nmk (k : Nat) : Str := nms.getD k ""
def fo (k : Nat) : Nat := [0,0,0,0,0,0,0,0,0,0,0,1,1,1,1,2,2,3,3,3,4,5,5,6,6,6].getD k 6
def fnm (f : Nat) : Str := fns.getD f ""
def regF (f : Nat) : Nat := [3, 2, 1, 1, 0, 1, 0].getD f 0
def widF (f : Nat) : Nat := [0, 5, 8, 8, 8, 8, 0].getD f 0
def leaF (f : Nat) : Int := [0, -16, 0, -128, 0, 0, 0].getD f 0
def mosF (f : Nat) : Int := [0, 15, 255, 127, 255, 7, 0].getD f 0
theorem fo_lt : ∀ k, k < 26 → fo k < 7 := by decide
theorem reg_le : ∀ f, f < 7 → regF f ≤ 3 := by decide
theorem nms_at {k : Nat} (h : k < 26) : nms[k]? = some (nmk k) := by
  have : k < nms.length := h
  unfold nmk
  rw [List.getD_eq_getElem?_getD, List.getElem?_eq_getElem this]
  rfl
def formsAt (K : PySem.W.Frag) (w : World) (k : Nat) : Prop := KDct K w (He.ga K "FORMS") (nmk k) (.str (fnm (fo k)))
theorem kv_forms : ∀ k, k < 26 → (match kv_FORMS[k]? with | some (x, He.Dv.str y) => decide (x = nmk k) && decide (y = fnm (fo k)) | _ => false) = true := by decide +kernel
theorem forms_at (T : Hd K w mg) {k : Nat} (h : k < 26) : KDct K w (He.ga K "FORMS") (nmk k) (.str (fnm (fo k))) := by
  obtain ⟨es, n, D⟩ := T.t_FORMS
  have h1 := kv_forms k h
  split at h1
  · rename_i x y e
    rw [Bool.and_eq_true, decide_eq_true_eq, decide_eq_true_eq] at h1
    obtain ⟨u, e2, r⟩ := He.valsB_ok T.x_vals_FORMS (List.mem_of_getElem? e)
    rw [← h1.1, ← h1.2]
    exact ⟨es, n, u, D.at_, D.lit, e2, r⟩
  · cases h1
theorem shape_at (T : Hd K w mg) {f : Nat} (h : f < 7) : ∃ p, KDct K w (He.ga K "SHAPES") (fnm f) (.ref p) ∧ ∀ H, SqT K H p [.int (regF f), .int (widF f), .int (leaF f), .int (mosF f)] := by
  obtain ⟨es, n, D⟩ := T.t_SHAPES
  have go : ∀ {x : Str} {g : PySem.W.Frag → Addr}, (x, He.Dv.adr g) ∈ kv_SHAPES → KDct K w (He.ga K "SHAPES") x (.ref (g K)) := fun {x g} hm => by
    obtain ⟨u, e, r⟩ := He.valsB_ok T.x_vals_SHAPES hm
    exact ⟨es, n, u, D.at_, D.lit, e, r⟩
  match f, h with
  | 0, _ => exact ⟨_, go (.head _), tupAtB_ok T.x_shape_three⟩
  | 1, _ => exact ⟨_, go (.tail _ (.head _)), tupAtB_ok T.x_shape_near⟩
  | 2, _ => exact ⟨_, go (.tail _ (.tail _ (.head _))), tupAtB_ok T.x_shape_byte⟩
  | 3, _ => exact ⟨_, go (.tail _ (.tail _ (.tail _ (.head _)))), tupAtB_ok T.x_shape_far⟩
  | 4, _ => exact ⟨_, go (.tail _ (.tail _ (.tail _ (.tail _ (.head _))))), tupAtB_ok T.x_shape_call⟩
  | 5, _ => exact ⟨_, go (.tail _ (.tail _ (.tail _ (.tail _ (.tail _ (.head _)))))), tupAtB_ok T.x_shape_control⟩
  | 6, _ => exact ⟨_, go (.tail _ (.tail _ (.tail _ (.tail _ (.tail _ (.tail _ (.head _))))))), tupAtB_ok T.x_shape_bare⟩
/-- the parts of an instruction: its registers, its number -/
def argV (f : Nat) (rs : List Int) (n : Int) : List V := rs.map V.int ++ (if widF f = 0 then [] else [V.int n])
def insV (k : Nat) (rs : List Int) (n : Int) : List V := .str (nmk k) :: argV (fo k) rs n
structure Raw (k : Nat) (rs : List Int) : Prop where
  kl : k < 26
  len : rs.length = regF (fo k)
  r8 : ∀ r ∈ rs, 0 ≤ r ∧ r < 8
def insB (f : Nat) (n : Int) : Bool := decide (widF f = 0) || (decide (leaF f ≤ n) && decide (n ≤ mosF f))
def spIsIns (K : PySem.W.Frag) : Sp := sp1 fun x H Q => ∃ p k rs n, x = .ref p ∧ H p = some (.tup (insV k rs n)) ∧ Raw k rs ∧ ∀ H', Same H H' → Q (.bl (insB (fo k) n)) H'
def spNumber (K : PySem.W.Frag) : Sp := sp1 fun x H Q => ∃ k : Nat, x = .str (nmk k) ∧ k < 26 ∧ ∀ H', Same H H' → Q (.int ((k : Int) + 1)) H'
theorem number_no : ∀ k, k < 26 → (List.range k).all (fun m => !eqV (.str (nmk m)) (.str (nmk k))) = true := by decide +kernel
theorem number_yes : ∀ k, k < 26 → eqV (.str (nmk k)) (.str (nmk k)) = true := by decide +kernel
theorem nms_flat : (nms.map V.str).all flatV = true := by decide +kernel
theorem nms_v {k : Nat} (h : k < 26) : (nms.map V.str)[k]? = some (.str (nmk k)) := by rw [List.getElem?_map, nms_at h]; rfl
theorem sc_number_by_name : FnScope ["name"] ["name"] (defScope s_number_by_name) := ⟨rfl, rfl, rfl, by decide +kernel, rfl, by decide +kernel, by decide +kernel⟩
theorem ok_number_by_name (T : Hd K w mg) : C8.Cal P w K mg base 1 "number_by_name" (spNumber K) [] := by
  obtain ⟨fd, F⟩ := T.f_number_by_name
  obtain ⟨esF, nF, DF⟩ := ktab_of T.w_FORMS
  refine cal_of F T.g_number_by_name sc_number_by_name (fun _ _ _ _ _ _ us hl => match us, hl with | [_], _ => rfl) len1 (fun cdv A outer s H vs Q E hr h => ⟨_, (pss_one (ps_ret (pe_op op_add (pe_bm PySem.F.plainAttrs_list PySem.F.slot_list_index PySem.F.type_list_index mt_index (pe_callTy (call_listK rfl) (by rfl) T.b_list (by decide +kernel) (pa_cons (pe_g T.g_FORMS (by rfl)) pa_nil)) (pa_cons (pv 0) pa_nil)) pe_int))), ?_⟩)
  obtain ⟨x, rfl, k, rfl, hk, q⟩ := h
  refine ⟨_, nms, esF, nF, rfl, DF, by decide, fun p hp => ⟨.inl ⟨rfl, _, SqL.of upd_same⟩, _, rfl, ?_⟩⟩
  refine ⟨p, nms.map V.str, .str (nmk k), k, .str (nmk k), rfl, rfl, .inl (.inl upd_same), rfl, nms_flat, nms_v hk, number_yes k hk, fun m z' hm hz => ?_, _, _, rfl, rfl, q _ (same_new hp)⟩
  rw [nms_v (by omega)] at hz
  cases hz
  have h1 := List.all_eq_true.mp (number_no k hk) m (List.mem_range.mpr hm)
  cases e : eqV (.str (nmk m)) (.str (nmk k)) with
  | false => rfl
  | true => rw [e] at h1; cases h1
theorem insV_len (k : Nat) {rs : List Int} (n : Int) (h : Raw k rs) : (insV k rs n).length = 1 + regF (fo k) + (if widF (fo k) = 0 then 0 else 1) := by
  unfold insV argV
  rw [List.length_cons, List.length_append, List.length_map, h.len]
  split <;> simp <;> omega
theorem insV_lo (k : Nat) {rs : List Int} (n : Int) (h : Raw k rs) (j : Nat) (hj : j ≤ 1 + regF (fo k)) : HT.sIx (insV k rs n).length 0 (some (j : Int)) = j := by
  rw [HT.sIx_nat, Nat.min_eq_left (by rw [insV_len k n h]; omega)]
theorem insV_cut (k : Nat) {rs : List Int} (n : Int) (h : Raw k rs) : cutV (insV k rs n) (some 1) (some (1 + (regF (fo k) : Int))) = rs.map V.int := by
  unfold cutV
  have e1 := insV_lo k n h 1 (by omega)
  have e2 : HT.sIx (insV k rs n).length (insV k rs n).length (some (1 + (regF (fo k) : Int))) = 1 + regF (fo k) := by
    have := HT.sIx_nat (insV k rs n).length (insV k rs n).length (1 + regF (fo k))
    rw [Nat.min_eq_left (by rw [insV_len k n h]; omega)] at this
    rw [← this]; simp
  have e1' : HT.sIx (insV k rs n).length 0 (some 1) = 1 := e1
  rw [e1', e2]
  show ((rs.map V.int ++ _).take (1 + regF (fo k) - 1)) = _
  rw [Nat.add_sub_cancel_left, List.take_append_of_le_length (by rw [List.length_map, h.len]; omega), List.take_of_length_le (by rw [List.length_map, h.len]; omega)]
theorem insV_tail (k : Nat) {rs : List Int} (n : Int) (h : Raw k rs) : cutV (insV k rs n) (some (1 + (regF (fo k) : Int))) none = if widF (fo k) = 0 then [] else [V.int n] := by
  unfold cutV
  have e2 : HT.sIx (insV k rs n).length 0 (some (1 + (regF (fo k) : Int))) = 1 + regF (fo k) := by
    have := insV_lo k n h (1 + regF (fo k)) (by omega)
    rw [← this]; simp
  rw [e2, HT.sIx_none, List.take_of_length_le (by rw [List.length_drop]; omega)]
  show ((_ :: (rs.map V.int ++ _)).drop (1 + regF (fo k))) = _
  rw [Nat.add_comm, List.drop_succ_cons, List.drop_append_of_le_length (by rw [List.length_map, h.len]; omega), List.drop_of_length_le (by rw [List.length_map, h.len]; omega)]
  rfl
theorem insV_last (k : Nat) {rs : List Int} (n : Int) (h : Raw k rs) (hw : widF (fo k) ≠ 0) : atI (insV k rs n) (-1) = some (.int n) := by
  have hl := insV_len k n h
  rw [if_neg hw] at hl
  unfold insV argV at hl ⊢
  rw [if_neg hw] at hl ⊢
  have : (V.str (nmk k) :: (rs.map V.int ++ [V.int n])) = (V.str (nmk k) :: rs.map V.int) ++ [V.int n] := rfl
  rw [this]
  exact atI_last _ _
theorem insV_no (k : Nat) {rs : List Int} (n : Int) (h : Raw k rs) : ¬ (HT.sIx (insV k rs n).length 0 (some 1) = 0 ∧ HT.sIx (insV k rs n).length (insV k rs n).length (some (1 + (regF (fo k) : Int))) = (insV k rs n).length) := fun e => by
  have e1 := insV_lo k n h 1 (by omega)
  have e1' : HT.sIx (insV k rs n).length 0 (some 1) = 1 := e1
  rw [e1'] at e
  exact absurd e.1 (by decide)
theorem sc_is_instruction_value : FnScope ["value", "registers", "wide", "least", "most", "one"] ["value"] (defScope s_is_instruction_value) := ⟨rfl, rfl, rfl, by decide +kernel, rfl, by decide +kernel, by decide +kernel⟩
theorem ok_is_instruction_value (T : Hd K w mg)
    (c_is_count : C8.Cal P w K mg base 2 "is_count" (spCount K) [])
    (c_is_integer : C8.Cal P w K mg base 1 "is_integer" (spInt K) []) : C8.Cal P w K mg base 3 "is_instruction_value" (spIsIns K) [] := by
  obtain ⟨fd, F⟩ := T.f_is_instruction_value
  obtain ⟨esF, nF, DF⟩ := T.t_FORMS
  refine cal_of F T.g_is_instruction_value sc_is_instruction_value (fun _ _ _ _ _ _ us hl => match us, hl with | [_], _ => rfl) len1 (fun cdv A outer s H vs Q E hr h => ⟨_, (pss_cons (ps_if (PW.pt (pw_or (pt_not (pt_val (pe_callB call_isi (by rfl) T.b_isinstance (by decide +kernel) (pa_cons (pv 0) (pa_cons (pe_ty (n := "tuple") T.b_tuple (by rfl) (by decide +kernel)) pa_nil))))) (pw_or (pt_cmpR op_eq (pe_callB call_len (by rfl) T.b_len (by decide +kernel) (pa_cons (pv 0) pa_nil)) pe_int (nomark _)) (pw_or (pt_not (pt_val (pe_callB call_isi (by rfl) T.b_isinstance (by decide +kernel) (pa_cons (pe_ix ix_tup (pv 0) pe_int (fun _ _ => rfl)) (pa_cons (pe_ty (n := "str") T.b_str (by rfl) (by decide +kernel)) pa_nil))))) (pw_or1 (pt_cmpR (op_notIn_kd DF) (pe_ix ix_tup (pv 0) pe_int (fun _ _ => rfl)) (pe_g T.g_FORMS (by rfl)) (by rfl))))))) (pss_one (ps_ret pe_bl)) pss_nil) (pss_cons (ps_asg (pe_ix ix_kdict (pe_g T.g_SHAPES (by rfl)) (pe_ix ix_kdict (pe_g T.g_FORMS (by rfl)) (pe_ix ix_tup (pv 0) pe_int (fun _ _ => rfl)) (fun _ _ => rfl)) (fun _ _ => rfl)) (pg_tup rfl (pgs_cons (pg_name (i := 1) sc_is_instruction_value.nd rfl (Or.inl rfl)) (pgs_cons (pg_name (i := 2) sc_is_instruction_value.nd rfl (Or.inl rfl)) (pgs_cons (pg_name (i := 3) sc_is_instruction_value.nd rfl (Or.inl rfl)) (pgs_cons (pg_name (i := 4) sc_is_instruction_value.nd rfl (Or.inl rfl)) pgs_nil)))))) (pss_cons (ps_if (pt_cmpR op_ne (pe_callB call_len (by rfl) T.b_len (by decide +kernel) (pa_cons (pv 0) pa_nil)) (pe_op op_add (pe_op op_add pe_int (pv 1)) (pe_callTy call_int1 (by rfl) T.b_int (by decide +kernel) (pa_cons (pe_cmpR op_gt (pv 2) pe_int (nomark _)) pa_nil))) (nomark _)) (pss_one (ps_ret pe_bl)) pss_nil) (pss_cons (ps_if (pt_not (pt_val (pe_callB (cr_all rfl) (by rfl) T.b_all (by decide +kernel) (pa_cons (pe_lc (own := [("one", 5)]) (g := gName 5) rfl sc_is_instruction_value.nd (pi_tup (pe_slice sl_tup (pv 0) (po_some pe_int) (po_some (pe_op op_add pe_int (pv 1))))) (blkOk_by (own := [("one", 5)]) (N := ["value", "registers", "wide", "least", "most", "one"]) (sc := defScope s_is_instruction_value) (by decide +kernel)) (fun _ _ _ _ _ => pg_name (i := 5) sc_is_instruction_value.nd rfl (Or.inl rfl)) (fun _ _ _ _ _ => pts_nil) (fun _ _ _ _ _ => (pe_and (C8.pe_c c_is_count hr (by decide) (by rfl) (pa_cons (pv 5) pa_nil)) (pe_one (pe_cmpR op_le (pv 5) (pe_n T.n_MOST_REGISTER (by rfl)) (nomark _)))))) pa_nil)))) (pss_one (ps_ret pe_bl)) pss_nil) (pss_one (ps_ret (pe_or (pe_cmpR op_eq (pv 2) pe_int (nomark _)) (pe_one (pe_and (C8.pe_c c_is_integer hr (by decide) (by rfl) (pa_cons (pe_ix ix_tup (pv 0) (pe_un un_neg pe_int) (fun _ _ => rfl)) pa_nil)) (pe_one (pe_chain op_le op_le (pv 3) (pe_ix ix_tup (pv 0) (pe_un un_neg pe_int) (fun _ _ => rfl)) (pv 4)))))))))))), ?_⟩)
  obtain ⟨x, rfl, p, k, rs, n, rfl, hx, R, q⟩ := h
  obtain ⟨sp, hs, hsq⟩ := shape_at T (fo_lt k R.kl)
  obtain ⟨esG, nG, u0, hG1, hG2, hG3, hG4⟩ := forms_at T R.kl
  have hl := insV_len k n R
  have h0 : atI (insV k rs n) 0 = some (.str (nmk k)) := at_of (j := 0) rfl rfl
  refine ⟨_, rfl, _, _, _, _, _, rfl, .ty _, .base (.tup hx), kit_ty (r := true) (by decide +kernel), _, rfl, iteF ?_⟩
  refine ⟨_, rfl, _, _, rfl, .inr ⟨_, SqT.of hx, rfl⟩, rfl, _, rfl, ?_⟩
  refine iteD (fun e => absurd (V.int.inj e) (by rw [hl]; omega)) fun _ => ?_
  refine ⟨_, rfl, p, _, 0, _, rfl, rfl, SqT.of hx, h0, _, _, _, _, _, rfl, .ty _, .base (.str _), kit_ty (r := true) (by decide +kernel), _, rfl, iteF ?_⟩
  refine ⟨_, rfl, p, _, 0, _, rfl, rfl, SqT.of hx, h0, nmk k, _, rfl, rfl, hG3, _, rfl, iteF ?_⟩
  refine ⟨_, rfl, p, _, 0, _, rfl, rfl, SqT.of hx, h0, _, _, _, rfl, rfl, forms_at T R.kl, _, _, _, rfl, rfl, hs, sp, _, rfl, hsq _, rfl, _, _, rfl, _, _, rfl, _, _, rfl, _, _, rfl, rfl, ?_⟩
  refine ⟨_, rfl, _, _, rfl, .inr ⟨_, SqT.of hx, rfl⟩, _, rfl, _, _, rfl, rfl, _, rfl, _, _, rfl, rfl, .inr ⟨_, rfl, _, _, rfl, rfl, rfl, _, rfl, ?_⟩⟩
  refine iteN (fun e => absurd ?_ e) fun _ => ?_
  · rw [hl]
    by_cases hw : widF (fo k) = 0
    · rw [if_pos hw, hw]; simp
    · rw [if_neg hw, decide_eq_true (by omega : (0 : Int) < (widF (fo k) : Int))]; simp
  refine ⟨_, rfl, _, rfl, _, rfl, _, _, rfl, rfl, _, rfl, p, _, rfl, SqT.of hx, insV_no k n R, fun c hc => ?_⟩
  rw [insV_cut k n R]
  refine ⟨c, rfl, ⟨_, SqT.of upd_same⟩, fun D hD => lc_mapT (xs := rs.map V.int) (fun x => V.bl true) (SqT.of upd_same) hD (by have := reg_le _ (fo_lt k R.kl); rw [List.length_map, R.len]; omega) (fun _ => rfl) (fun i x H2 hx2 e2 Q2 q2 => ?_) fun H2 e2 hd => ?_⟩
  · obtain ⟨y, hy, rfl⟩ := List.mem_map.mp (List.mem_of_getElem? hx2)
    obtain ⟨y0, y1⟩ := R.r8 y hy
    refine ⟨_, rfl, _, rfl, Seen.int, _, rfl, ?_⟩
    rw [isC_int y0]
    refine iteT ⟨_, rfl, _, _, rfl, rfl, ?_⟩
    exact q_bl (q2 _ (Same.refl _)) (decide_eq_true (by omega))
  refine ⟨D, rs.map fun _ => true, rfl, SqL.of (by rw [hd, List.map_map, List.map_map]; rfl), _, rfl, ?_⟩
  have e3 : ((rs.map fun _ => true).all id) = true := by
    rw [List.all_eq_true]; intro b hb
    obtain ⟨_, _, rfl⟩ := List.mem_map.mp hb; rfl
  rw [e3]
  refine iteF ?_
  have E2 : Same H H2 := (same_new hc).trans e2
  have qq := q H2 E2
  unfold insB at qq
  refine ⟨_, rfl, rfl, _, rfl, ?_⟩
  refine iteD (fun e => q_bl qq ?_) fun e => ?_
  · have := V.int.inj e
    rw [decide_eq_true (by omega : widF (fo k) = 0)]; rfl
  have hw : widF (fo k) ≠ 0 := fun z => e (by rw [z]; rfl)
  have hx2 : H2 p = some (.tup (insV k rs n)) := E2 _ _ hx
  refine ⟨_, rfl, _, rfl, p, _, _, _, rfl, rfl, SqT.of hx2, insV_last k n R hw, _, rfl, Seen.int, _, rfl, iteT ?_⟩
  refine ⟨_, rfl, _, rfl, _, rfl, p, _, _, _, rfl, rfl, SqT.of hx2, insV_last k n R hw, _, _, rfl, rfl, _, rfl, ?_⟩
  rw [decide_eq_false hw, Bool.false_or] at qq
  refine iteD (fun h1 => ⟨_, rfl, _, _, rfl, rfl, q_bl qq (by rw [decide_eq_true h1, Bool.true_and])⟩) fun h1 => q_bl qq (by rw [decide_eq_false h1, Bool.false_and])
/-- for x, y in zip(a tuple, a tuple at least as long) -/
theorem for_zipT {K : PySem.W.Frag} {a b : Addr} {xs ys : List V} {g : TG} {tb : TS} {D : Ends} {σ : L2.St} {H : Hp} (hxy : xs.length ≤ ys.length) (Pv : Nat → L2.St → Hp → Prop) (h0 : Pv 0 σ H) (hl : ∀ i σ H, i ≤ xs.length → Pv i σ H → SqT K H a xs ∧ SqT K H b ys)
    (hs : ∀ (i : Nat) x y σ H t, xs[i]? = some x → ys[i]? = some y → Pv i σ H → H t = none → g (.ref t) σ (upd H t (.tup [x, y])) fun σ2 H2 => tb { D with nx := Pv (i + 1), ct := Pv (i + 1), bk := D.nx } σ2 H2) (hd : ∀ σ H, Pv xs.length σ H → D.nx σ H) :
    ∃ W : Nat → Nat → L2.St → Hp → Prop, (∃ m, W 0 m σ H) ∧ ∀ i m σ H, W i m σ H →
      ((ItzT K a b).stop i H ∧ D.nx σ H) ∨ ((ItzT K a b).go i H ∧ ∃ N : L2.St → Hp → Prop, (∀ σ' H', N σ' H' → ∃ m', m' < m ∧ W (i + 1) m' σ' H') ∧ ∀ x H', (ItzT K a b).yld i H x H' → g x σ H' fun σ2 H2 => tb { D with nx := N, ct := N, bk := D.nx } σ2 H2) := by
  refine ⟨fun i m σ H => m = xs.length - i ∧ i ≤ xs.length ∧ Pv i σ H, ⟨xs.length, by simp, Nat.zero_le _, h0⟩, ?_⟩
  rintro i m σ H ⟨rfl, hi, pv⟩
  obtain ⟨ql, qr⟩ := hl i σ H hi pv
  by_cases lt : i < xs.length
  · have lt2 : i < ys.length := Nat.lt_of_lt_of_le lt hxy
    refine .inr ⟨⟨xs, ys, xs[i], ys[i], ql, qr, List.getElem?_eq_getElem lt, List.getElem?_eq_getElem lt2⟩, Pv (i + 1), fun σ' H' pv' => ⟨xs.length - (i + 1), by omega, rfl, lt, pv'⟩, ?_⟩
    rintro _ _ ⟨t, x, y, rfl, ht, rfl, hx, hy⟩
    exact hs i x y σ H t (hx xs ql) (hy ys qr) pv ht
  · obtain rfl : i = xs.length := by omega
    exact .inl ⟨⟨xs, ys, ql, qr, .inl (Nat.le_refl _)⟩, hd σ H pv⟩
def plc : List Nat := [8, 5, 0]
def regL (rs : List Int) : List Int := List.zipWith (fun r p => r * 2 ^ p) rs plc
/-- the word of an instruction -/
def asW (k : Nat) (rs : List Int) (n : Int) : Int := ((k : Int) + 1) * 2 ^ 11 + (regL rs).sum + (if widF (fo k) = 0 then 0 else n % 2 ^ widF (fo k))
def spAsW (K : PySem.W.Frag) : Sp := sp1 fun x H Q => ∃ p k rs n, x = .ref p ∧ H p = some (.tup (insV k rs n)) ∧ Raw k rs ∧ ∀ H', Same H H' → Q (.int (asW k rs n)) H'
theorem wid_le : ∀ f, f < 7 → widF f ≤ 8 := by decide
theorem sum_take {l : List Int} {i : Nat} {x : Int} (h : l[i]? = some x) : (l.take (i + 1)).sum = (l.take i).sum + x := by
  obtain ⟨hi, e⟩ := List.getElem?_eq_some_iff.mp h
  rw [List.take_succ_eq_append_getElem hi, List.sum_append, e]
  simp
theorem sc_instruction_as_word : FnScope ["instruction", "found", "registers", "wide", "least", "most", "one", "place"] ["instruction"] (defScope s_instruction_as_word) := ⟨rfl, rfl, rfl, by decide +kernel, rfl, by decide +kernel, by decide +kernel⟩
theorem ok_instruction_as_word (T : Hd K w mg)
    (c_number_by_name : C8.Cal P w K mg base 1 "number_by_name" (spNumber K) []) : C8.Cal P w K mg base 2 "instruction_as_word" (spAsW K) [] := by
  obtain ⟨fd, F⟩ := T.f_instruction_as_word
  refine cal_of F T.g_instruction_as_word sc_instruction_as_word (fun _ _ _ _ _ _ us hl => match us, hl with | [_], _ => rfl) len1 (fun cdv A outer s H vs Q E hr h => ⟨_, (pss_cons (ps_asg (pe_ix ix_kdict (pe_g T.g_SHAPES (by rfl)) (pe_ix ix_kdict (pe_g T.g_FORMS (by rfl)) (pe_ix ix_tup (pv 0) pe_int (fun _ _ => rfl)) (fun _ _ => rfl)) (fun _ _ => rfl)) (pg_tup rfl (pgs_cons (pg_name (i := 2) sc_instruction_as_word.nd rfl (Or.inl rfl)) (pgs_cons (pg_name (i := 3) sc_instruction_as_word.nd rfl (Or.inl rfl)) (pgs_cons (pg_name (i := 4) sc_instruction_as_word.nd rfl (Or.inl rfl)) (pgs_cons (pg_name (i := 5) sc_instruction_as_word.nd rfl (Or.inl rfl)) pgs_nil)))))) (pss_cons (ps_set (i := 1) sc_instruction_as_word.nd rfl (Or.inl rfl) (pe_op op_shl (C8.pe_c c_number_by_name hr (by decide) (by rfl) (pa_cons (pe_ix ix_tup (pv 0) pe_int (fun _ _ => rfl)) pa_nil)) (pe_n T.n_OPERATION_BIT (by rfl)))) (pss_cons (ps_for PassesOwn.never rfl (pi_zipA (by rfl) T.b_zip (pa_cons (pe_slice sl_tup (pv 0) (po_some pe_int) (po_some (pe_op op_add pe_int (pv 2)))) (pa_cons (pe_g T.g_PLACES (by rfl)) pa_nil))) (pg_tup rfl (pgs_cons (pg_name (i := 6) sc_instruction_as_word.nd rfl (Or.inl rfl)) (pgs_cons (pg_name (i := 7) sc_instruction_as_word.nd rfl (Or.inl rfl)) pgs_nil))) (pss_one (ps_set (i := 1) sc_instruction_as_word.nd rfl (Or.inl rfl) (pe_op op_add (pv 1) (pe_op op_shl (pv 6) (pv 7)))))) (pss_one (ps_ret (pe_ifExp (pt_cmpR op_gt (pv 3) pe_int (nomark _)) (pe_op op_add (pv 1) (pe_op op_mod (pe_ix ix_tup (pv 0) (pe_un un_neg pe_int) (fun _ _ => rfl)) (pe_op op_shl pe_int (pv 3)))) (pv 1))))))), ?_⟩)
  obtain ⟨x, rfl, p, k, rs, n, rfl, hx, R, q⟩ := h
  obtain ⟨sp, hs, hsq⟩ := shape_at T (fo_lt k R.kl)
  have h0 : atI (insV k rs n) 0 = some (.str (nmk k)) := at_of (j := 0) rfl rfl
  have hw8 := wid_le _ (fo_lt k R.kl)
  refine ⟨_, rfl, p, _, 0, _, rfl, rfl, SqT.of hx, h0, _, _, _, rfl, rfl, forms_at T R.kl, _, _, _, rfl, rfl, hs, sp, _, rfl, hsq _, rfl, _, _, rfl, _, _, rfl, _, _, rfl, _, _, rfl, rfl, ?_⟩
  refine ⟨_, rfl, p, _, 0, _, rfl, rfl, SqT.of hx, h0, _, rfl, k, rfl, R.kl, fun H1 e1 => ⟨_, _, rfl, rfl, ⟨by decide, by decide, by have := R.kl; omega⟩, ?_⟩⟩
  refine ⟨_, rfl, _, rfl, _, rfl, _, _, rfl, rfl, _, rfl, p, _, rfl, SqT.of (e1 _ _ hx), insV_no k n R, fun c hc => ?_⟩
  rw [insV_cut k n R]
  have hplc := tupAtB_ok T.x_tup_PLACES
  have hlen : (rs.map V.int).length ≤ 3 := by rw [List.length_map, R.len]; exact reg_le _ (fo_lt k R.kl)
  refine ⟨c, _, rs.map V.int, _, rfl, .inr ⟨SqT.of upd_same, hplc _, for_zipT (ys := [.int 8, .int 5, .int 0]) hlen (fun i σ H' => Same H1 H' ∧ H' c = some (.tup (rs.map V.int)) ∧ ∃ a b, σ = [some (.ref p), some (.int (((k : Int) + 1) * 2 ^ 11 + ((regL rs).take i).sum)), some (.int (regF (fo k))), some (.int (widF (fo k))), some (.int (leaF (fo k))), some (.int (mosF (fo k))), a, b])
    ⟨same_new hc, upd_same, _, _, by simp; rfl⟩ (fun i σ H' _ z => ⟨SqT.of z.2.1, hplc _⟩) ?_ ?_⟩⟩
  · rintro i x y σ H' t hx1 hy1 ⟨e2, hc2, a, b, rfl⟩ ht
    obtain ⟨r, hr1, rfl⟩ : ∃ r, rs[i]? = some r ∧ x = .int r := by
      rw [List.getElem?_map] at hx1
      cases hr : rs[i]? with
      | none => rw [hr] at hx1; cases hx1
      | some r => rw [hr] at hx1; cases hx1; exact ⟨r, rfl, rfl⟩
    obtain ⟨pl, hp1, rfl, hp8⟩ : ∃ pl, plc[i]? = some pl ∧ y = .int (pl : Nat) ∧ pl ≤ 8 := by
      match i, hy1 with
      | 0, h => cases h; exact ⟨8, rfl, rfl, by decide⟩
      | 1, h => cases h; exact ⟨5, rfl, rfl, by decide⟩
      | 2, h => cases h; exact ⟨0, rfl, rfl, by decide⟩
    obtain ⟨r0, r1⟩ := R.r8 r (List.mem_of_getElem? hr1)
    refine ⟨t, _, rfl, SqT.of upd_same, rfl, _, _, rfl, _, _, rfl, rfl, ?_⟩
    refine ⟨_, rfl, _, rfl, _, rfl, _, _, rfl, rfl, ⟨by omega, by omega, by omega⟩, _, _, rfl, rfl, e2.trans (same_new ht), (same_new ht) _ _ hc2, some (.int r), some (.int pl), ?_⟩
    have hz : (regL rs)[i]? = some (r * 2 ^ pl) := by
      unfold regL
      rw [List.getElem?_zipWith, hr1, hp1]
    rw [sum_take hz, Int.toNat_natCast, ← Int.add_assoc]
    rfl
  · rintro σ H' ⟨e2, hc2, a, b, rfl⟩
    have hsum : ((regL rs).take (rs.map V.int).length) = regL rs := by
      rw [List.take_of_length_le]
      unfold regL
      rw [List.length_zipWith, List.length_map]
      exact Nat.min_le_left _ _
    rw [hsum]
    have E2 := e1.trans e2
    have qq := q H' E2
    unfold asW at qq
    refine ⟨_, rfl, _, _, rfl, rfl, _, rfl, ?_⟩
    refine iteD (fun hw => ?_) fun hw => ?_
    · have hw' : widF (fo k) ≠ 0 := fun z => by rw [z] at hw; exact absurd hw (by decide)
      rw [if_neg hw'] at qq
      have h2 : (0 : Int) < 2 ^ widF (fo k) := Int.pow_pos (by decide)
      refine ⟨_, rfl, _, rfl, _, rfl, p, _, _, _, rfl, rfl, SqT.of (E2 _ _ hx), insV_last k n R hw', _, rfl, _, _, rfl, rfl, ⟨by omega, by omega, by decide⟩, _, _, rfl, rfl, ?_, _, _, rfl, rfl, q_int qq ?_⟩
      · rw [Int.toNat_natCast, Int.one_mul]; exact h2
      · rw [Int.toNat_natCast, Int.one_mul]
    · have hw' : widF (fo k) = 0 := by omega
      rw [if_pos hw', Int.add_zero] at qq
      exact ⟨_, rfl, qq⟩
/-- the instruction of a word: its operation, registers, number -/
def wK (i : Int) : Nat := (i / 2 ^ 11).toNat - 1
def wRs (i : Int) : List Int := (plc.take (regF (fo (wK i)))).map fun p => i / 2 ^ p % 8
def told (f : Nat) (i : Int) : Int := let t := i % 2 ^ widF f; if mosF f < t ∧ leaF f < 0 then t - 2 ^ widF f else t
def wN (i : Int) : Int := told (fo (wK i)) i
def wIs (i : Int) : Bool := decide (1 ≤ i / 2 ^ 11 ∧ i / 2 ^ 11 ≤ 26) && (insB (fo (wK i)) (wN i) && decide (asW (wK i) (wRs i) (wN i) = i))
def spAsIns (K : PySem.W.Frag) : Sp := sp1 fun x H Q => ∃ i, x = .int i ∧ Wd i ∧ (wIs i = false → ∀ H', Same H H' → Q .non H') ∧ (wIs i = true → RetTup (fun xs => xs = insV (wK i) (wRs i) (wN i)) H Q)
theorem raw_w {i : Int} (h1 : 1 ≤ i / 2 ^ 11) (h2 : i / 2 ^ 11 ≤ 26) : Raw (wK i) (wRs i) := by
  have hk : wK i < 26 := by unfold wK; omega
  refine ⟨hk, ?_, ?_⟩
  · unfold wRs
    rw [List.length_map, List.length_take]
    exact Nat.min_eq_left (reg_le _ (fo_lt _ hk))
  · intro r hr
    unfold wRs at hr
    obtain ⟨p, _, rfl⟩ := List.mem_map.mp hr
    omega
theorem slA_any {K : PySem.W.Frag} {a : Addr} {xs : List V} {lo hi : Option Int} {H : Hp} {Q : VK} (hx : SqT K H a xs) (h : ∀ b H', Same H H' → SqT K H' b (cutV xs lo hi) → Q (.ref b) H') : rSlA K (.ref a) lo hi H Q := by
  refine ⟨a, xs, rfl, hx, fun e => h a H (Same.refl _) ?_, fun _ p hp => h p _ (same_new hp) (SqT.of upd_same)⟩
  unfold cutV
  rw [e.1, e.2, List.drop_zero, Nat.sub_zero, List.take_length]
  exact hx
theorem sqt_mut {K : PySem.W.Frag} {H : Hp} {a l : Addr} {xs ys : List V} {o : HO} (h : SqT K H a xs) (hl : H l = some (.lst ys)) : SqT K (upd H l o) a xs := by
  rcases h with (h | ⟨z, h⟩) | h
  · exact .inl (.inl (by rw [upd_ne (fun e => by rw [e, hl] at h; cases h)]; exact h))
  · exact .inl (.inr ⟨z, by rw [upd_ne (fun e => by rw [e, hl] at h; cases h)]; exact h⟩)
  · exact .inr h
theorem seq_with {c : TT} {a b r : TS} {D : Ends} {σ : L2.St} {H : Hp} (M : L2.St → Hp → Prop) (fin : ∀ σ' H', M σ' H' → r D σ' H') (go : (∀ σ' H', M σ' H' → r D σ' H') → tIfS c a b { D with nx := r D } σ H) : tSeq (tIfS c a b) r D σ H := go fin
theorem pos8 : (0 : Int) < 7 + 1 := by decide
theorem nms_nd : nms.Nodup := by decide +kernel
theorem cut_plc : ∀ f, f < 7 → cutV [V.int 8, V.int 5, V.int 0] none (some (regF f : Int)) = (plc.take (regF f)).map (fun p => V.int (p : Nat)) := by decide +kernel
theorem plc_le {p : Nat} (h : p ∈ plc) : p ≤ 8 := by
  simp [plc] at h; omega
theorem sc_word_as_instruction : FnScope ["word", "number", "name", "found", "place", "instruction", "registers", "wide", "least", "most", "told"] ["word"] (defScope s_word_as_instruction) := ⟨rfl, rfl, rfl, by decide +kernel, rfl, by decide +kernel, by decide +kernel⟩
theorem ok_word_as_instruction (T : Hd K w mg)
    (c_instruction_as_word : C8.Cal P w K mg base 2 "instruction_as_word" (spAsW K) [])
    (c_is_instruction_value : C8.Cal P w K mg base 3 "is_instruction_value" (spIsIns K) []) : C8.Cal P w K mg base 4 "word_as_instruction" (spAsIns K) [] := by
  obtain ⟨fd, F⟩ := T.f_word_as_instruction
  obtain ⟨esF, nF, DF⟩ := ktab_of T.w_FORMS
  refine cal_of F T.g_word_as_instruction sc_word_as_instruction (fun _ _ _ _ _ _ us hl => match us, hl with | [_], _ => rfl) len1 (fun cdv A outer s H vs Q E hr h => ⟨_, (pss_cons (ps_set (i := 1) sc_word_as_instruction.nd rfl (Or.inl rfl) (pe_op op_shr (pv 0) (pe_n T.n_OPERATION_BIT (by rfl)))) (pss_cons (ps_if (pt_not (pt_chain op_le op_le pe_int (pv 1) (pe_callB call_lenK (by rfl) T.b_len (by decide +kernel) (pa_cons (pe_g T.g_FORMS (by rfl)) pa_nil)))) (pss_one (ps_ret pe_non)) pss_nil) (pss_cons (ps_set (i := 2) sc_word_as_instruction.nd rfl (Or.inl rfl) (pe_ix ix_list (pe_callTy (call_listK rfl) (by rfl) T.b_list (by decide +kernel) (pa_cons (pe_g T.g_FORMS (by rfl)) pa_nil)) (pe_op op_sub (pv 1) pe_int) (fun _ _ => rfl))) (pss_cons (ps_asg (pe_ix ix_kdict (pe_g T.g_SHAPES (by rfl)) (pe_ix ix_kdict (pe_g T.g_FORMS (by rfl)) (pv 2) (fun _ _ => rfl)) (fun _ _ => rfl)) (pg_tup rfl (pgs_cons (pg_name (i := 6) sc_word_as_instruction.nd rfl (Or.inl rfl)) (pgs_cons (pg_name (i := 7) sc_word_as_instruction.nd rfl (Or.inl rfl)) (pgs_cons (pg_name (i := 8) sc_word_as_instruction.nd rfl (Or.inl rfl)) (pgs_cons (pg_name (i := 9) sc_word_as_instruction.nd rfl (Or.inl rfl)) pgs_nil)))))) (pss_cons (ps_set (i := 3) sc_word_as_instruction.nd rfl (Or.inl rfl) (pe_lst (pa_cons (pv 2) pa_nil))) (pss_cons (ps_for PassesOwn.never rfl (pi_tup (pe_slice sl_tupA (pe_g T.g_PLACES (by rfl)) po_none (po_some (pv 6)))) (pg_name (i := 4) sc_word_as_instruction.nd rfl (Or.inl rfl)) (pss_one (ps_expr (pe_bm PySem.F.plainAttrs_list PySem.F.slot_list_append PySem.F.type_list_append mt_append (pv 3) (pa_cons (pe_op op_mod (pe_op op_shr (pv 0) (pv 4)) (pe_op op_add (pe_n T.n_MOST_REGISTER (by rfl)) pe_int)) pa_nil))))) (pss_cons (ps_if (pt_cmpR op_gt (pv 7) pe_int (nomark _)) (pss_cons (ps_set (i := 10) sc_word_as_instruction.nd rfl (Or.inl rfl) (pe_op op_mod (pv 0) (pe_op op_shl pe_int (pv 7)))) (pss_one (ps_expr (pe_bm PySem.F.plainAttrs_list PySem.F.slot_list_append PySem.F.type_list_append mt_append (pv 3) (pa_cons (pe_ifExp (PW.pt (pw_and (pt_cmpR op_gt (pv 10) (pv 9) (nomark _)) (pw_and1 (pt_cmpR op_lt (pv 8) pe_int (nomark _))))) (pe_op op_sub (pv 10) (pe_op op_shl pe_int (pv 7))) (pv 10)) pa_nil))))) pss_nil) (pss_cons (ps_set (i := 5) sc_word_as_instruction.nd rfl (Or.inl rfl) (pe_callTy call_tuple_of (by rfl) T.b_tuple (by decide +kernel) (pa_cons (pv 3) pa_nil))) (pss_cons (ps_if (PW.pt (pw_or (pt_not (pt_val (C8.pe_c c_is_instruction_value hr (by decide) (by rfl) (pa_cons (pv 5) pa_nil)))) (pw_or1 (pt_cmpR op_ne (C8.pe_c c_instruction_as_word hr (by decide) (by rfl) (pa_cons (pv 5) pa_nil)) (pv 0) (nomark _))))) (pss_one (ps_ret pe_non)) pss_nil) (pss_one (ps_ret (pv 5)))))))))))), ?_⟩)
  obtain ⟨x, rfl, i, rfl, hi, q0, q1⟩ := h
  have hi' := hi
  unfold Wd at hi'
  have no : ∀ {b : Prop} [Decidable b], decide b = decide (1 ≤ i / 2 ^ 11 ∧ i / 2 ^ 11 ≤ 26) → ¬ b → wIs i = false := fun {b} _ e hb => by
    unfold wIs; rw [← e, decide_eq_false hb]; rfl
  refine ⟨_, rfl, _, _, rfl, rfl, (show (0 : Int) ≤ 11 by decide), ?_⟩
  refine ⟨_, rfl, _, _, rfl, rfl, _, rfl, ?_⟩
  refine iteD (fun h1 => ?_) fun h1 => ⟨_, rfl, iteT (q0 (no rfl fun e => h1 e.1) _ (Same.refl _))⟩
  refine ⟨_, nms, esF, nF, rfl, DF, nms_nd, (show 26 ≤ 1000 by decide), _, _, rfl, rfl, _, rfl, ?_⟩
  refine iteN (fun h2 => q0 (no rfl fun e => h2 e.2) _ (Same.refl _)) fun h2 => ?_
  have g1 : 1 ≤ i / 2 ^ 11 := h1
  have g2 : i / 2 ^ 11 ≤ 26 := h2
  have R := raw_w g1 g2
  have f7 := fo_lt _ R.kl
  obtain ⟨sp, hs, hsq⟩ := shape_at T f7
  have hw8 := wid_le _ f7
  refine ⟨_, nms, esF, nF, rfl, DF, (show 26 ≤ 1000 by decide), fun p hp => ⟨_, rfl, _, _, rfl, rfl, p, nms.map V.str, _, .str (nmk (wK i)), rfl, rfl, SqL.of upd_same, at_of (j := wK i) ?_ (nms_v R.kl), ?_⟩⟩
  · show i / 2 ^ 11 - 1 = ((wK i : Nat) : Int)
    unfold wK; omega
  refine ⟨_, rfl, _, _, _, rfl, rfl, forms_at T R.kl, _, _, _, rfl, rfl, hs, sp, _, rfl, hsq _, rfl, _, _, rfl, _, _, rfl, _, _, rfl, _, _, rfl, rfl, ?_⟩
  refine ⟨_, rfl, sz1, fun l hl => ?_⟩
  have hHl : H l = none := same_free (same_new hp) hl
  have E1 : Same H (upd (upd H p (.lst (nms.map V.str))) l (.lst [.str (nmk (wK i))])) := (same_new hp).trans (same_new hl)
  refine ⟨_, rfl, _, rfl, slA_any (tupAtB_ok T.x_tup_PLACES _) fun b Hb eb hb => ?_⟩
  rw [cut_plc _ f7] at hb
  refine ⟨b, rfl, ⟨_, hb⟩, for_tup (xs := (plc.take (regF (fo (wK i)))).map (fun p => V.int (p : Nat))) (fun j σ H' => Same H H' ∧ SqT K H' b ((plc.take (regF (fo (wK i)))).map (fun p => V.int (p : Nat))) ∧ H' l = some (.lst (.str (nmk (wK i)) :: ((wRs i).take j).map V.int)) ∧
    ∃ a, σ = [some (.int i), some (.int (i / 2 ^ 11)), some (.str (nmk (wK i))), some (.ref l), a, none, some (.int (regF (fo (wK i)))), some (.int (widF (fo (wK i)))), some (.int (leaF (fo (wK i)))), some (.int (mosF (fo (wK i)))), none])
    ⟨E1.trans eb, hb, eb _ _ upd_same, _, rfl⟩ (fun j σ H' _ z => z.2.1) ?_ ?_⟩
  · rintro j x σ H' hx ⟨e2, hb2, hl2, a, rfl⟩
    obtain ⟨pl, hp1, rfl⟩ : ∃ pl, (plc.take (regF (fo (wK i))))[j]? = some pl ∧ x = .int (pl : Nat) := by
      rw [List.getElem?_map] at hx
      cases hr : (plc.take (regF (fo (wK i))))[j]? with
      | none => rw [hr] at hx; cases hx
      | some r => rw [hr] at hx; cases hx; exact ⟨r, rfl, rfl⟩
    have hw : (wRs i)[j]? = some (i / 2 ^ pl % 8) := by unfold wRs; rw [List.getElem?_map, hp1]; rfl
    have hj : ((wRs i).take j).length ≤ 3 := by
      rw [List.length_take]; have := reg_le _ f7; have := R.len; omega
    refine ⟨_, rfl, .inl ⟨rfl, _, SqL.of hl2⟩, _, rfl, _, rfl, _, _, rfl, rfl, Int.natCast_nonneg _, _, _, rfl, rfl, _, _, rfl, rfl, pos8, l, _, _, rfl, rfl, hl2, szl (by rw [List.length_cons, List.length_map]; omega), ?_⟩
    refine ⟨same_mut e2 hHl, sqt_mut hb2 hl2, ?_, _, rfl⟩
    rw [upd_same, take_map_succ V.int hw]
    rfl
  rintro σ H2 ⟨e2, hb2, hl2, a, rfl⟩
  have hall : (wRs i).take ((plc.take (regF (fo (wK i)))).map (fun p => V.int (p : Nat))).length = wRs i := by
    rw [List.take_of_length_le]
    unfold wRs
    simp
  rw [hall] at hl2
  dsimp only
  refine seq_with (fun σ' H' => Same H H' ∧ H' l = some (.lst (insV (wK i) (wRs i) (wN i))) ∧ ∃ a c d, σ' = [some (.int i), some (.int (i / 2 ^ 11)), some (.str (nmk (wK i))), some (.ref l), a, c, some (.int (regF (fo (wK i)))), some (.int (widF (fo (wK i)))), some (.int (leaF (fo (wK i)))), some (.int (mosF (fo (wK i)))), d]) ?_ fun fin => ?_
  · rintro σ' H' ⟨e3, hl3, a, c, d, rfl⟩
    refine ⟨_, rfl, l, _, rfl, .inl ⟨SqL.of hl3, fun c hc => ?_⟩⟩
    have hHc : H c = none := same_free e3 hc
    refine ⟨_, rfl, _, rfl, c, wK i, wRs i, wN i, rfl, upd_same, R, fun H4 e4 => ⟨_, rfl, ?_⟩⟩
    have E4 : Same H H4 := e3.trans ((same_new hc).trans e4)
    have dec1 : decide (1 ≤ i / 2 ^ 11 ∧ i / 2 ^ 11 ≤ 26) = true := decide_eq_true ⟨g1, g2⟩
    refine iteBN (fun hb3 => q0 (by unfold wIs; rw [hb3, dec1]; rfl) _ E4) fun hb3 => ?_
    refine ⟨_, rfl, _, rfl, c, wK i, wRs i, wN i, rfl, e4 _ _ upd_same, R, fun H5 e5 => ⟨_, rfl, rfl, _, rfl, ?_⟩⟩
    refine iteN (fun h5 => q0 (by unfold wIs; rw [hb3, dec1, decide_eq_false (fun z => h5 (by rw [z]))]; rfl) _ (E4.trans e5)) fun h5 => ?_
    exact ⟨_, rfl, q1 (by unfold wIs; rw [hb3, dec1, decide_eq_true (V.int.inj h5)]; rfl) c H5 _ hHc (E4.trans e5) (e5 _ _ (e4 _ _ upd_same)) rfl⟩
  · refine ⟨_, rfl, _, _, rfl, rfl, _, rfl, iteD (fun hw => ?_) fun hw => ?_⟩
    · have hw' : widF (fo (wK i)) ≠ 0 := fun z => by rw [z] at hw; exact absurd hw (by decide)
      have h2 : (0 : Int) < 2 ^ widF (fo (wK i)) := Int.pow_pos (by decide)
      have e1 : (1 : Int) * 2 ^ ((widF (fo (wK i)) : Nat) : Int).toNat = 2 ^ widF (fo (wK i)) := by rw [Int.toNat_natCast, Int.one_mul]
      have cp : CPow 1 ((widF (fo (wK i)) : Nat) : Int) := ⟨by omega, by omega, by decide⟩
      refine ⟨_, rfl, _, rfl, _, _, rfl, rfl, cp, _, _, rfl, rfl, by rw [e1]; exact h2, ?_⟩
      refine ⟨_, rfl, .inl ⟨rfl, _, SqL.of hl2⟩, ?_⟩
      have key : ∀ z, z = wN i → upd H2 l (.lst (.str (nmk (wK i)) :: (wRs i).map V.int ++ [.int z])) l = some (.lst (insV (wK i) (wRs i) (wN i))) := fun z ez => by
        rw [upd_same, ez]; unfold insV argV; rw [if_neg hw']; rfl
      have hz : (V.str (nmk (wK i)) :: (wRs i).map V.int).length < sizeLine := szl (by have := reg_le _ f7; have := R.len; rw [List.length_cons, List.length_map]; omega)
      have ew : wN i = if mosF (fo (wK i)) < i % 2 ^ widF (fo (wK i)) ∧ leaF (fo (wK i)) < 0 then i % 2 ^ widF (fo (wK i)) - 2 ^ widF (fo (wK i)) else i % 2 ^ widF (fo (wK i)) := rfl
      refine ⟨_, rfl, _, rfl, _, _, rfl, rfl, _, rfl, ?_⟩
      rw [e1]
      refine iteD (fun h3 => ⟨_, rfl, _, _, rfl, rfl, _, rfl, iteD (fun h4 => ?_) fun h4 => ?_⟩) fun h3 => iteF ?_
      · refine ⟨_, rfl, _, rfl, _, _, rfl, rfl, cp, _, _, rfl, rfl, l, _, _, rfl, rfl, hl2, hz, fin _ _ ⟨same_mut e2 hHl, key _ ?_, _, _, _, rfl⟩⟩
        rw [e1, ew, if_pos ⟨h3, h4⟩]
      · exact ⟨_, rfl, l, _, _, rfl, rfl, hl2, hz, fin _ _ ⟨same_mut e2 hHl, key _ (by rw [ew, if_neg fun z => h4 z.2]), _, _, _, rfl⟩⟩
      · exact ⟨_, rfl, l, _, _, rfl, rfl, hl2, hz, fin _ _ ⟨same_mut e2 hHl, key _ (by rw [ew, if_neg fun z => h3 z.1]), _, _, _, rfl⟩⟩
    · have hw' : widF (fo (wK i)) = 0 := by omega
      refine fin _ _ ⟨e2, ?_, _, _, _, rfl⟩
      rw [hl2]; unfold insV argV; rw [if_pos hw', List.append_nil]
end
end K97
set_option maxHeartbeats 4000000
/-! What an instruction reads, writes, is. -/
namespace K97
open PySem PySem.Spec PyProof.Rows L2 RZ
local macro_rules | `(tactic| walk_at "v") => `(tactic| refine ⟨_, rfl, ?_⟩)
local macro_rules | `(tactic| walk_at "ii") => `(tactic| refine ⟨_, _, rfl, rfl, ?_⟩)
/-- one step of a reading: a name, two whole numbers, a scalar comparison, a truth value -/
local macro_rules | `(tactic| walk_at "s") => `(tactic| first | refine ⟨_, rfl, ?_⟩ | refine ⟨_, _, rfl, rfl, ?_⟩ | refine ⟨rfl, ?_⟩ | exact iteT (by walk_at "s") | exact iteF (by walk_at "s"))
local macro_rules | `(tactic| walk_at "r") => `(tactic| (repeat (first | refine ⟨_, rfl, ?_⟩ | refine ⟨_, _, rfl, rfl, ?_⟩ | refine ⟨rfl, ?_⟩ | refine iteT ?_ | refine iteF ?_)))

section
variable {P : Program} {w : World} {K : PySem.W.Frag} {mg : Str → Option Value} {base : Heap}
theorem KTab.no {a : Addr} {ks : List Str} {es : Array DictEntry} {n : Nat} (t : KTab K w a ks es n) {x : Str} (hx : x ∉ ks) : PySem.W.nsIn K a x = some none := by
  have key : ∀ e ∈ es.toList, ∃ y tk, y ∈ ks ∧ e.key = .str y tk := fun e he => by
    obtain ⟨j, hj⟩ := List.getElem?_of_mem he
    obtain ⟨y, tk, h1, h2⟩ := t.key (by rw [← Array.getElem?_toList]; exact hj)
    exact ⟨y, tk, List.mem_of_getElem? h1, h2⟩
  unfold PySem.W.nsIn
  rw [t.d.at_]
  dsimp only
  have h1 : es.toList.find? (·.key.isStr x) = none := by
    rw [List.find?_eq_none]
    intro e he hs
    obtain ⟨y, tk, hy, ek⟩ := key e he
    rw [ek] at hs
    have : y = x := by simpa [Value.isStr] using hs
    exact hx (this ▸ hy)
  have h2 : es.toList.any (·.refKey) = false := by
    rw [List.any_eq_false]
    intro e he hs
    obtain ⟨y, tk, hy, ek⟩ := key e he
    unfold PySem.DictEntry.refKey at hs
    rw [ek] at hs
    cases hs
  rw [h1, h2]
  rfl
/-- a valid instruction -/
structure Ins (k : Nat) (rs : List Int) (n : Int) : Prop extends Raw k rs where
  ok : insB (fo k) n = true
theorem insV_reg {k : Nat} {rs : List Int} (n : Int) (R : Raw k rs) {j : Nat} (hj : j < regF (fo k)) : ∃ r, atI (insV k rs n) ((j + 1 : Nat) : Int) = some (.int r) ∧ 0 ≤ r ∧ r < 8 := by
  have hl : j < rs.length := by rw [R.len]; exact hj
  refine ⟨rs[j], at_of (j := j + 1) rfl ?_, R.r8 _ (List.getElem_mem hl)⟩
  unfold insV argV
  rw [List.getElem?_cons_succ, List.getElem?_append_left (by rw [List.length_map]; exact hl), List.getElem?_map, List.getElem?_eq_getElem hl]
  rfl
theorem nmk_inj : ∀ k, k < 26 → ∀ j, j < 26 → nmk k = nmk j → k = j := by decide +kernel
theorem fnm_inj : ∀ k, k < 7 → ∀ j, j < 7 → fnm k = fnm j → k = j := by decide +kernel
def spWant (K : PySem.W.Frag) : Sp := sp1 fun x H Q => ∃ p k rs n, x = .ref p ∧ H p = some (.tup (insV k rs n)) ∧ Ins k rs n ∧ ∀ H', Same H H' → Q (.ref p) H'
theorem sc_want_instruction : FnScope ["value"] ["value"] (defScope s_want_instruction) := ⟨rfl, rfl, rfl, by decide +kernel, rfl, by decide +kernel, by decide +kernel⟩
theorem ok_want_instruction (T : Hd K w mg)
    (c_is_instruction_value : C8.Cal P w K mg base 3 "is_instruction_value" (spIsIns K) []) : C8.Cal P w K mg base 4 "want_instruction" (spWant K) [] := by
  obtain ⟨fd, F⟩ := T.f_want_instruction
  refine cal_of F T.g_want_instruction sc_want_instruction (fun _ _ _ _ _ _ us hl => match us, hl with | [_], _ => rfl) len1 (fun cdv A outer s H vs Q E hr h => ⟨_, (pss_cons (ps_if (pt_not (pt_val (C8.pe_c c_is_instruction_value hr (by decide) (by rfl) (pa_cons (pv 0) pa_nil)))) (pss_one ps_never) pss_nil) (pss_one (ps_ret (pv 0)))), ?_⟩)
  obtain ⟨x, rfl, p, k, rs, n, rfl, hx, R, q⟩ := h
  refine ⟨_, rfl, _, rfl, p, k, rs, n, rfl, hx, R.toRaw, fun H1 e1 => ⟨_, rfl, ?_⟩⟩
  rw [R.ok]
  exact iteF ⟨_, rfl, q _ e1⟩
def unwN : List Str := ["st", "bz", "bnz", "sys", "wrc", "ret", "halt", "nop"]
def unw (k : Nat) : Bool := inV (.str (nmk k)) (unwN.map V.str)
theorem unw_reg : ∀ k, k < 26 → unw k = false → 0 < regF (fo k) := by decide +kernel
theorem unwN_flat : (unwN.map V.str).all flatV = true := by decide +kernel
def spWritten (K : PySem.W.Frag) : Sp := sp1 fun x H Q => ∃ p k rs n, x = .ref p ∧ H p = some (.tup (insV k rs n)) ∧ Raw k rs ∧ (unw k = true → Q .non H) ∧ (unw k = false → ∀ r, 0 ≤ r → r < 8 → Q (.int r) H)
theorem sc_register_written : FnScope ["instruction"] ["instruction"] (defScope s_register_written) := ⟨rfl, rfl, rfl, by decide +kernel, rfl, by decide +kernel, by decide +kernel⟩
theorem ok_register_written (T : Hd K w mg) : C8.Cal P w K mg base 1 "register_written" (spWritten K) [] := by
  obtain ⟨fd, F⟩ := T.f_register_written
  refine cal_of F T.g_register_written sc_register_written (fun _ _ _ _ _ _ us hl => match us, hl with | [_], _ => rfl) len1 (fun cdv A outer s H vs Q E hr h => ⟨_, (pss_one (ps_ret (pe_ifExp (pt_cmpR op_in_seq (pe_ix ix_tup (pv 0) pe_int (fun _ _ => rfl)) (pe_g T.g_UNWRITTEN (by rfl)) (by rfl)) pe_non (pe_ix ix_tup (pv 0) pe_int (fun _ _ => rfl))))), ?_⟩)
  obtain ⟨x, rfl, p, k, rs, n, rfl, hx, R, q0, q1⟩ := h
  have h0 : atI (insV k rs n) 0 = some (.str (nmk k)) := at_of (j := 0) rfl rfl
  refine ⟨_, rfl, p, _, 0, _, rfl, rfl, SqT.of hx, h0, He.ga K "UNWRITTEN", unwN.map V.str, rfl, .inr (tupAtB_ok T.x_tup_UNWRITTEN _), rfl, unwN_flat, _, rfl, ?_⟩
  refine iteB (fun e => q0 e) fun e => ?_
  obtain ⟨r, hr, r0, r1⟩ := insV_reg n R (unw_reg k R.kl e)
  exact ⟨_, rfl, p, _, 1, _, rfl, rfl, SqT.of hx, hr, q1 e r r0 r1⟩
def spWrites (K : PySem.W.Frag) : Sp := sp1 fun x H Q => ∃ p k rs n, x = .ref p ∧ H p = some (.tup (insV k rs n)) ∧ Ins k rs n ∧ (unw k = true → ∀ H', Same H H' → Q .non H') ∧ (unw k = false → ∀ r H', 0 ≤ r → r < 8 → Same H H' → Q (.int r) H')
theorem sc_writes_of : FnScope ["instruction"] ["instruction"] (defScope s_writes_of) := ⟨rfl, rfl, rfl, by decide +kernel, rfl, by decide +kernel, by decide +kernel⟩
theorem ok_writes_of (T : Hd K w mg)
    (c_register_written : C8.Cal P w K mg base 1 "register_written" (spWritten K) [])
    (c_want_instruction : C8.Cal P w K mg base 4 "want_instruction" (spWant K) []) : C8.Cal P w K mg base 5 "writes_of" (spWrites K) [] := by
  obtain ⟨fd, F⟩ := T.f_writes_of
  refine cal_of F T.g_writes_of sc_writes_of (fun _ _ _ _ _ _ us hl => match us, hl with | [_], _ => rfl) len1 (fun cdv A outer s H vs Q E hr h => ⟨_, (pss_one (ps_ret (C8.pe_c c_register_written hr (by decide) (by rfl) (pa_cons (C8.pe_c c_want_instruction hr (by decide) (by rfl) (pa_cons (pv 0) pa_nil)) pa_nil)))), ?_⟩)
  obtain ⟨x, rfl, p, k, rs, n, rfl, hx, R, q0, q1⟩ := h
  refine ⟨_, rfl, _, rfl, p, k, rs, n, rfl, hx, R, fun H1 e1 => ⟨_, rfl, p, k, rs, n, rfl, e1 _ _ hx, R.toRaw, fun e => q0 e _ e1, fun e r r0 r1 => q1 e r _ r0 r1 e1⟩⟩
def rdN (k : Nat) : Nat := [2,2,2,2,2,2,2,2,2,2,2,1,1,2,1,0,1,1,1,0,0,0,1,0,0,0].getD k 0
def spReads (K : PySem.W.Frag) : Sp := sp1 fun x H Q => ∃ p k rs n, x = .ref p ∧ H p = some (.tup (insV k rs n)) ∧ Raw k rs ∧ RetNew (fun xs => xs.length = rdN k ∧ ∀ y ∈ xs, ∃ i, y = .int i ∧ 0 ≤ i ∧ i < 8) H Q
theorem f3 : ∀ k, k < 26 → fo k = 0 → regF (fo k) = 3 ∧ rdN k = 2 := by decide +kernel
theorem f2 : ∀ k, k < 26 → fo k = 1 → regF (fo k) = 2 ∧ (if k = 13 then rdN k = 2 else rdN k = 1) := by decide +kernel
def rdI (k : Nat) : Bool := inV (.str (nmk k)) ((["lhi", "bz", "bnz", "wrc"] : List Str).map V.str)
theorem f1 : ∀ k, k < 26 → fo k ≠ 0 → fo k ≠ 1 → (if rdI k = true then rdN k = 1 ∧ 0 < regF (fo k) else rdN k = 0) := by decide +kernel
theorem sc_reads_by_form : FnScope ["instruction", "name", "form"] ["instruction"] (defScope s_reads_by_form) := ⟨rfl, rfl, rfl, by decide +kernel, rfl, by decide +kernel, by decide +kernel⟩
theorem ok_reads_by_form (T : Hd K w mg) : C8.Cal P w K mg base 1 "reads_by_form" (spReads K) [] := by
  obtain ⟨fd, F⟩ := T.f_reads_by_form
  refine cal_of F T.g_reads_by_form sc_reads_by_form (fun _ _ _ _ _ _ us hl => match us, hl with | [_], _ => rfl) len1 (fun cdv A outer s H vs Q E hr h => ⟨_, (pss_cons (ps_par (i := 1) (j := 2) rfl sc_reads_by_form.nd rfl rfl (by decide) rfl rfl (pa_cons (pe_ix ix_tup (pv 0) pe_int (fun _ _ => rfl)) (pa_cons (pe_ix ix_kdict (pe_g T.g_FORMS (by rfl)) (pe_ix ix_tup (pv 0) pe_int (fun _ _ => rfl)) (fun _ _ => rfl)) pa_nil)) (by rfl)) (pss_cons (ps_if (pt_cmpR op_eq (pv 2) pe_str (nomark _)) (pss_one (ps_ret (pe_lst (pa_cons (pe_ix ix_tup (pv 0) pe_int (fun _ _ => rfl)) (pa_cons (pe_ix ix_tup (pv 0) pe_int (fun _ _ => rfl)) pa_nil))))) pss_nil) (pss_cons (ps_if (pt_cmpR op_eq (pv 2) pe_str (nomark _)) (pss_one (ps_ret (pe_ifExp (pt_cmpR op_eq (pv 1) pe_str (nomark _)) (pe_lst (pa_cons (pe_ix ix_tup (pv 0) pe_int (fun _ _ => rfl)) (pa_cons (pe_ix ix_tup (pv 0) pe_int (fun _ _ => rfl)) pa_nil))) (pe_lst (pa_cons (pe_ix ix_tup (pv 0) pe_int (fun _ _ => rfl)) pa_nil))))) pss_nil) (pss_one (ps_ret (pe_ifExp (pt_cmpR op_in_seq (pv 1) (pe_tup (pa_cons pe_str (pa_cons pe_str (pa_cons pe_str (pa_cons pe_str pa_nil))))) (by rfl)) (pe_lst (pa_cons (pe_ix ix_tup (pv 0) pe_int (fun _ _ => rfl)) pa_nil)) (pe_lst pa_nil))))))), ?_⟩)
  obtain ⟨x, rfl, p, k, rs, n, rfl, hx, R, q⟩ := h
  have h0 : atI (insV k rs n) 0 = some (.str (nmk k)) := at_of (j := 0) rfl rfl
  have f7 := fo_lt k R.kl
  refine ⟨_, rfl, p, _, 0, _, rfl, rfl, SqT.of hx, h0, _, rfl, p, _, 0, _, rfl, rfl, SqT.of hx, h0, _, _, _, rfl, rfl, forms_at T R.kl, ?_⟩
  refine ⟨_, _, rfl, ?_⟩
  refine ⟨_, rfl, rfl, _, rfl, ?_⟩
  have two : ∀ {l : Addr} {a b : Int}, 0 ≤ a ∧ a < 8 → 0 ≤ b ∧ b < 8 → rdN k = 2 → H l = none → Q (.ref l) (upd H l (.lst [.int a, .int b])) := fun {l a b} ha hb h2 hl => by
    refine q l _ _ hl (same_new hl) upd_same ⟨h2.symm, fun y hy => ?_⟩
    rcases List.mem_cons.mp hy with rfl | hy
    · exact ⟨a, rfl, ha⟩
    · exact ⟨b, List.mem_singleton.mp hy, hb⟩
  have one : ∀ {l : Addr} {a : Int}, 0 ≤ a ∧ a < 8 → rdN k = 1 → H l = none → Q (.ref l) (upd H l (.lst [.int a])) := fun {l a} ha h2 hl => by
    refine q l _ _ hl (same_new hl) upd_same ⟨h2.symm, fun y hy => ⟨a, List.mem_singleton.mp hy, ha⟩⟩
  refine iteD (fun e => ?_) fun n0 => ⟨_, rfl, rfl, _, rfl, iteD (fun e => ?_) fun n1 => ?_⟩
  · have e0 := fnm_inj _ f7 0 (by decide) (V.str.inj e)
    obtain ⟨f1, f2⟩ := f3 k R.kl e0
    obtain ⟨a, ha, ha2⟩ := insV_reg (j := 1) n R (by omega)
    obtain ⟨b, hb, hb2⟩ := insV_reg (j := 2) n R (by omega)
    exact ⟨_, rfl, p, _, 2, _, rfl, rfl, SqT.of hx, ha, _, rfl, p, _, 3, _, rfl, rfl, SqT.of hx, hb, sz2, fun l hl => two ha2 hb2 f2 hl⟩
  · have e0 := fnm_inj _ f7 1 (by decide) (V.str.inj e)
    obtain ⟨f1, f2⟩ := f2 k R.kl e0
    obtain ⟨a, ha, ha2⟩ := insV_reg (j := 1) n R (by omega)
    obtain ⟨b, hb, hb2⟩ := insV_reg (j := 0) n R (by omega)
    refine ⟨_, rfl, rfl, _, rfl, iteD (fun es => ?_) fun ns => ?_⟩
    · have e13 := nmk_inj k R.kl 13 (by decide) (V.str.inj es)
      rw [if_pos e13] at f2
      exact ⟨_, rfl, p, _, 2, _, rfl, rfl, SqT.of hx, ha, _, rfl, p, _, 1, _, rfl, rfl, SqT.of hx, hb, sz2, fun l hl => two ha2 hb2 f2 hl⟩
    · rw [if_neg (fun z => ns (by rw [z]; rfl))] at f2
      exact ⟨_, rfl, p, _, 2, _, rfl, rfl, SqT.of hx, ha, sz1, fun l hl => one ha2 f2 hl⟩
  · have g := f1 k R.kl (fun z => n0 (by rw [z]; rfl)) (fun z => n1 (by rw [z]; rfl))
    refine ⟨_, rfl, sz4, fun t ht => ⟨t, _, rfl, .inr (SqT.of upd_same), rfl, rfl, _, rfl, ?_⟩⟩
    have e1 := same_new (o := HO.tup [V.str "lhi", .str "bz", .str "bnz", .str "wrc"]) ht
    refine iteB (fun hb => ?_) fun hb => ?_
    · rw [if_pos (show rdI k = true from hb)] at g
      obtain ⟨b, hb, hb2⟩ := insV_reg (j := 0) n R g.2
      refine ⟨_, rfl, p, _, 1, _, rfl, rfl, SqT.of (e1 _ _ hx), hb, sz1, fun l hl => ?_⟩
      exact q l _ _ (same_free e1 hl) (e1.trans (same_new hl)) upd_same ⟨g.1.symm, fun y hy => ⟨b, List.mem_singleton.mp hy, hb2⟩⟩
    · rw [if_neg (by rw [show rdI k = false from hb]; decide)] at g
      exact ⟨sz0, fun l hl => q l _ _ (same_free e1 hl) (e1.trans (same_new hl)) upd_same ⟨g.symm, fun y hy => by cases hy⟩⟩
def spNumW (K : PySem.W.Frag) : Sp := sp1 fun x H Q => ∃ p k rs n, x = .ref p ∧ H p = some (.tup (insV k rs n)) ∧ Raw k rs ∧ ∀ r H', Wd r → Same H H' → Q (.int r) H'
theorem num_w : ∀ f, f < 7 → inV (.str (fnm f)) ((["near", "byte", "far", "call"] : List Str).map V.str) = true → widF f ≠ 0 := by decide +kernel
theorem sc_number_as_word : FnScope ["instruction"] ["instruction"] (defScope s_number_as_word) := ⟨rfl, rfl, rfl, by decide +kernel, rfl, by decide +kernel, by decide +kernel⟩
theorem ok_number_as_word (T : Hd K w mg) : C8.Cal P w K mg base 1 "number_as_word" (spNumW K) [] := by
  obtain ⟨fd, F⟩ := T.f_number_as_word
  refine cal_of F T.g_number_as_word sc_number_as_word (fun _ _ _ _ _ _ us hl => match us, hl with | [_], _ => rfl) len1 (fun cdv A outer s H vs Q E hr h => ⟨_, (pss_cons (ps_if (pt_cmpR op_in_seq (pe_ix ix_kdict (pe_g T.g_FORMS (by rfl)) (pe_ix ix_tup (pv 0) pe_int (fun _ _ => rfl)) (fun _ _ => rfl)) (pe_tup (pa_cons pe_str (pa_cons pe_str (pa_cons pe_str (pa_cons pe_str pa_nil))))) (by rfl)) (pss_one (ps_ret (pe_op op_mod (pe_ix ix_tup (pv 0) (pe_un un_neg pe_int) (fun _ _ => rfl)) pe_int))) pss_nil) (pss_one (ps_ret pe_int))), ?_⟩)
  obtain ⟨x, rfl, p, k, rs, n, rfl, hx, R, q⟩ := h
  have h0 : atI (insV k rs n) 0 = some (.str (nmk k)) := at_of (j := 0) rfl rfl
  refine ⟨_, rfl, p, _, 0, _, rfl, rfl, SqT.of hx, h0, _, _, _, rfl, rfl, forms_at T R.kl, sz4, fun t ht => ⟨t, _, rfl, .inr (SqT.of upd_same), rfl, rfl, _, rfl, ?_⟩⟩
  have e1 := same_new (o := HO.tup [V.str "near", .str "byte", .str "far", .str "call"]) ht
  refine iteB (fun hb => ?_) fun hb => q 0 _ ⟨by decide, by decide⟩ e1
  exact ⟨_, rfl, _, rfl, p, _, _, _, rfl, rfl, SqT.of (e1 _ _ hx), insV_last k n R (num_w _ (fo_lt k R.kl) hb), _, _, rfl, rfl, pos_w, q _ _ (wd_mod _) e1⟩
def soN : List Str := ["times", "over", "load", "store", "branch", "jump", "lone"]
/-- the sort of operation k -/
def soK (k : Nat) : Str := ["sum", "sum", "times", "over", "sum", "sum", "sum", "sum", "sum", "sum", "sum", "sum", "load", "store", "jump", "sum", "sum", "branch", "branch", "jump", "lone", "lone", "lone", "lone", "lone", "sum"].getD k ""
def sorts (K : PySem.W.Frag) : List (Str × He.Dv) := kv_SORTS
theorem kv_sorts : ∀ k, k < 26 → (match kv_SORTS.find? (fun q => decide (q.1 = nmk k)) with | some (x, He.Dv.str y) => decide (x = nmk k) && decide (y = soK k) | none => decide (soK k = "sum") | _ => false) = true := by decide +kernel
theorem sort_no : ∀ k, k < 26 → kv_SORTS.find? (fun q => decide (q.1 = nmk k)) = none → nmk k ∉ kv_SORTS.map (·.1) := fun k _ h hm => by
  obtain ⟨q, hq, e⟩ := List.mem_map.mp hm
  have := List.find?_eq_none.mp h q hq
  simp [e] at this
def spSort : Sp := sp1 fun x H Q => ∃ k, x = .str (nmk k) ∧ k < 26 ∧ Q (.str (soK k)) H
theorem sc_sort_by_name : FnScope ["name"] ["name"] (defScope s_sort_by_name) := ⟨rfl, rfl, rfl, by decide +kernel, rfl, by decide +kernel, by decide +kernel⟩
theorem ok_sort_by_name (T : Hd K w mg) : C8.Cal P w K mg base 1 "sort_by_name" (spSort) [] := by
  obtain ⟨fd, F⟩ := T.f_sort_by_name
  obtain ⟨esS, nS, DS⟩ := ktab_of T.w_SORTS
  refine cal_of F T.g_sort_by_name sc_sort_by_name (fun _ _ _ _ _ _ us hl => match us, hl with | [_], _ => rfl) len1 (fun cdv A outer s H vs Q E hr h => ⟨_, (pss_one (ps_ret (pe_kget DS.d (pe_g T.g_SORTS (by rfl)) (pv 0) pe_str ⟨by rfl, by rfl, by rfl, by rfl⟩))), ?_⟩)
  obtain ⟨x, rfl, k, rfl, hk, q⟩ := h
  have h1 := kv_sorts k hk
  refine ⟨_, rfl, He.ga K "SORTS", esS, nS, nmk k, rfl, rfl, DS.d, ?_⟩
  split at h1
  · rename_i x y e
    rw [Bool.and_eq_true, decide_eq_true_eq, decide_eq_true_eq] at h1
    obtain ⟨u, e2, r⟩ := He.valsB_ok T.x_vals_SORTS (List.mem_of_find?_eq_some e)
    rw [← h1.1]
    exact .inl ⟨u, _, e2, r, by rw [show y = soK k from h1.2]; exact q⟩
  · rename_i e
    refine .inr ⟨DS.no (sort_no k hk e), ?_⟩
    rw [decide_eq_true_eq] at h1
    rw [← h1]
    exact q
  · cases h1
def spSortOf (K : PySem.W.Frag) : Sp := sp1 fun x H Q => ∃ p k rs n, x = .ref p ∧ H p = some (.tup (insV k rs n)) ∧ Ins k rs n ∧ ∀ H', Same H H' → Q (.str (soK k)) H'
theorem sc_sort_of : FnScope ["instruction"] ["instruction"] (defScope s_sort_of) := ⟨rfl, rfl, rfl, by decide +kernel, rfl, by decide +kernel, by decide +kernel⟩
theorem ok_sort_of (T : Hd K w mg)
    (c_sort_by_name : C8.Cal P w K mg base 1 "sort_by_name" (spSort) [])
    (c_want_instruction : C8.Cal P w K mg base 4 "want_instruction" (spWant K) []) : C8.Cal P w K mg base 5 "sort_of" (spSortOf K) [] := by
  obtain ⟨fd, F⟩ := T.f_sort_of
  refine cal_of F T.g_sort_of sc_sort_of (fun _ _ _ _ _ _ us hl => match us, hl with | [_], _ => rfl) len1 (fun cdv A outer s H vs Q E hr h => ⟨_, (pss_one (ps_ret (C8.pe_c c_sort_by_name hr (by decide) (by rfl) (pa_cons (pe_ix ix_tup (C8.pe_c c_want_instruction hr (by decide) (by rfl) (pa_cons (pv 0) pa_nil)) pe_int (fun _ _ => rfl)) pa_nil)))), ?_⟩)
  obtain ⟨x, rfl, p, k, rs, n, rfl, hx, R, q⟩ := h
  have h0 : atI (insV k rs n) 0 = some (.str (nmk k)) := at_of (j := 0) rfl rfl
  exact ⟨_, rfl, _, rfl, p, k, rs, n, rfl, hx, R, fun H1 e1 => ⟨p, _, 0, _, rfl, rfl, SqT.of (e1 _ _ hx), h0, _, rfl, k, rfl, R.kl, q _ e1⟩⟩
end
end K97
set_option maxHeartbeats 4000000
/-! What an instruction works out; a division by nought. -/
namespace K97
open PySem PySem.Spec PyProof.Rows L2 RZ
local macro_rules | `(tactic| walk_at "v") => `(tactic| refine ⟨_, rfl, ?_⟩)
local macro_rules | `(tactic| walk_at "ii") => `(tactic| refine ⟨_, _, rfl, rfl, ?_⟩)
/-- one step of a reading: a name, two whole numbers, a scalar comparison, a truth value -/
local macro_rules | `(tactic| walk_at "s") => `(tactic| first | refine ⟨_, rfl, ?_⟩ | refine ⟨_, _, rfl, rfl, ?_⟩ | refine ⟨rfl, ?_⟩ | exact iteT (by walk_at "s") | exact iteF (by walk_at "s"))
local macro_rules | `(tactic| walk_at "r") => `(tactic| (repeat (first | refine ⟨_, rfl, ?_⟩ | refine ⟨_, _, rfl, rfl, ?_⟩ | refine ⟨rfl, ?_⟩ | refine iteT ?_ | refine iteF ?_)))

section
variable {P : Program} {w : World} {K : PySem.W.Frag} {mg : Str → Option Value} {base : Heap}
/-- what an error's __init__ keeps: the field value is set -/
def ExI (K : PySem.W.Frag) (y : V) (x : V) (H : Hp) (Q : VK) : Prop := ∃ (a C : Addr), x = .ref a ∧ OexC K C ∧ PySem.W.findIn K (.ref C) "value" = some none ∧ H a = some (exo a C none) ∧
  ∀ dx, H dx = none → dx ≠ a → Q .non (upd (upd H dx (exd dx [("value", y)])) a (exo a C (some dx)))
def spExD (K : PySem.W.Frag) : Sp := sp1 fun x H Q => ExI K .non x H Q
def spExC (K : PySem.W.Frag) : Sp := sp2 fun x y H Q => ExI K y x H Q
theorem sc_D : FnScope ["self"] ["self"] (defScope s_DividedByNought_init) := ⟨rfl, rfl, rfl, by decide +kernel, rfl, by decide +kernel, by decide +kernel⟩
theorem sc_C : FnScope ["self", "value"] ["self", "value"] (defScope s_CoreError_init) := ⟨rfl, rfl, rfl, by decide +kernel, rfl, by decide +kernel, by decide +kernel⟩
theorem init_D (T : Hd K w mg) : ∃ fd, FnOk P w K mg base C8.CX0 1 (He.ma K (He.ga K "DividedByNought") "__init__") fd ["self"] (spExD K) ∧ Binds K fd ["self"] [] := by
  obtain ⟨fd, F⟩ := T.f_DividedByNought_init
  refine ⟨fd, F.ok sc_D len1 (fun cdv A outer s H vs Q E hr h => ⟨_, pss_one (ps_ost (pv 0) pe_non), ?_⟩), F.bindsN (fun _ _ _ _ _ _ us hl => match us, hl with | [_], _ => rfl)⟩
  obtain ⟨x, rfl, a, C, rfl, ec, hno, ha, q⟩ := h
  exact ⟨_, rfl, a, C, rfl, ec, hno, .inl ⟨ha, fun dx h1 h2 => q dx h1 h2⟩⟩
theorem init_C (T : Hd K w mg) : ∃ fd, FnOk P w K mg base C8.CX0 1 (He.ma K (He.ga K "CoreError") "__init__") fd ["self", "value"] (spExC K) ∧ Binds K fd ["self", "value"] [] := by
  obtain ⟨fd, F⟩ := T.f_CoreError_init
  refine ⟨fd, F.ok sc_C len2 (fun cdv A outer s H vs Q E hr h => ⟨_, pss_one (ps_ost (pv 0) (pv 1)), ?_⟩), F.bindsN (fun _ _ _ _ _ _ us hl => match us, hl with | [_, _], _ => rfl)⟩
  obtain ⟨x, y, rfl, a, C, rfl, ec, hno, ha, q⟩ := h
  exact ⟨_, rfl, _, rfl, a, C, rfl, ec, hno, .inl ⟨ha, fun dx h1 h2 => q dx h1 h2⟩⟩
/-- the heap that an error leaves -/
theorem exc_same {H : Hp} {a dx : Addr} {o1 o2 o3 o4 : HO} (ha : H a = none) (hd : H dx = none) : Same H (upd (del (upd (upd (upd H a o1) dx o2) a o3) a) dx o4) := fun b o e => by
  have n1 := ne_of_none e ha
  have n2 := ne_of_none e hd
  rw [upd_ne n2, del_ne n1, upd_ne n1, upd_ne n2, upd_ne n1]
  exact e
theorem noarg {H : Hp} {a dx : Addr} {o1 : HO} (h : upd H a o1 dx = none) (n : dx ≠ a) : H dx = none := by rw [upd_ne n] at h; exact h
def dbn (K : PySem.W.Frag) : Value := .ref (He.ga K "DividedByNought")
def spOver (K : PySem.W.Frag) : Sp := fun vs H Q E => ∃ a b, vs = [.int a, .int b] ∧ Wd a ∧ Wd b ∧ (∀ r, Wd r → Q (.int r) H) ∧ ∀ d H', Same H H' → E (dbn K) (some d) H'
theorem lenOver {K : PySem.W.Frag} : ∀ vs H Q E, spOver K vs H Q E → vs.length = 2 := by rintro _ _ _ _ ⟨_, _, rfl, _⟩; rfl
theorem wd_div {a b : Int} (ha : Wd a) (hb : 0 < b) : Wd (a / b) := ⟨Int.ediv_nonneg ha.1 (Int.le_of_lt hb), Int.lt_of_le_of_lt (Int.ediv_le_self _ ha.1) ha.2⟩
theorem sc_over : FnScope ["one", "other"] ["one", "other"] (defScope s_over) := ⟨rfl, rfl, rfl, by decide +kernel, rfl, by decide +kernel, by decide +kernel⟩
theorem ok_over (T : Hd K w mg)
    (c_two_words : C8.Cal P w K mg base 5 "two_words" (spNeed2) []) : CalX P w K mg base 6 "over" (spOver K) := by
  obtain ⟨fd, F⟩ := T.f_over
  obtain ⟨fdI, FI, bI⟩ := init_D (P := P) (base := base) T
  refine calX_of F T.g_over sc_over (fun _ _ _ _ _ _ us hl => match us, hl with | [_, _], _ => rfl) lenOver (fun cdv A outer s H vs Q E hr h => ⟨_, (pss_cons (ps_expr (C8.pe_c c_two_words hr (by decide) (by rfl) (pa_cons (pv 0) (pa_cons (pv 1) pa_nil)))) (pss_cons (ps_if (pt_cmpR op_eq (pv 1) pe_int (nomark _)) (pss_one (ps_raise rfl (takes_of rfl rfl rfl rfl) (pmk_oex0 T.e_DividedByNought (He.eqO_ok T.x_in_DividedByNought) (of_decide_eq_true T.x_ti_DividedByNought) FI (hr.mono (by decide)) bI C8.pass0 (by rfl) T.g_DividedByNought))) pss_nil) (pss_one (ps_ret (pe_op op_fdiv (pv 0) (pv 1)))))), ?_⟩)
  obtain ⟨i, j, rfl, hi, hj, q, e⟩ := h
  refine ⟨_, rfl, _, rfl, _, _, rfl, i, j, rfl, rfl, hi, hj, ?_⟩
  refine ⟨_, rfl, rfl, _, rfl, iteD (fun z => ?_) fun z => ?_⟩
  · refine ⟨Nat.zero_le _, fun a ha => ⟨_, rfl, a, _, rfl, T.e_DividedByNought, He.eqO_ok T.x_nv_DividedByNought, upd_same, fun dx hd hne => ⟨rfl, dx, [("value", V.non)], upd_same, ?_, noarg hd hne, ?_⟩⟩⟩
    · rw [upd_ne hne, upd_same]
    · exact e _ _ (exc_same ha (noarg hd hne))
  · have hj0 : (0 : Int) < j := by
      rcases Int.lt_or_eq_of_le hj.1 with h | h
      · exact h
      · exact absurd (by rw [← h]) z
    have hj2 := hj.2
    exact ⟨_, rfl, _, rfl, _, _, rfl, rfl, ⟨hj0, by omega⟩, q _ (wd_div hi hj0)⟩
/-! ### the functions of the table WORTHS -/
def wfn : List Str := ["plus", "minus", "times", "over", "both", "either", "unlike", "shifted_up", "shifted_down"]
theorem kv_worths : ∀ k, k < 26 → (match kv_WORTHS.find? (fun q => decide (q.1 = nmk k)) with | some (x, He.Dv.glo g) => decide (x = nmk k) && wfn.contains g | none => true | _ => false) = true := by decide +kernel
theorem worth_no : ∀ k, kv_WORTHS.find? (fun q => decide (q.1 = nmk k)) = none → nmk k ∉ kv_WORTHS.map (·.1) := fun k h hm => by
  obtain ⟨q, hq, e⟩ := List.mem_map.mp hm
  have := List.find?_eq_none.mp h q hq
  simp [e] at this
theorem worth_at (T : Hd K w mg) {k : Nat} (h : k < 26) : PySem.W.nsIn K (He.ga K "WORTHS") (nmk k) = some none ∨ ∃ (g : Str) (u : Value), g ∈ wfn ∧ PySem.W.nsIn K (He.ga K "WORTHS") (nmk k) = some (some u) ∧ KDct K w (He.ga K "WORTHS") (nmk k) (.ref (He.ga K g)) := by
  obtain ⟨es, n, D⟩ := ktab_of T.w_WORTHS
  have h1 := kv_worths k h
  split at h1
  · rename_i x g e
    rw [Bool.and_eq_true, decide_eq_true_eq] at h1
    obtain ⟨u, e2, r⟩ := He.valsB_ok T.x_vals_WORTHS (List.mem_of_find?_eq_some e)
    have h2 : x = nmk k := h1.1
    rw [← h2]
    exact .inr ⟨g, u, List.contains_iff_mem.mp h1.2, e2, es, n, u, D.d.at_, D.d.lit, e2, r⟩
  · rename_i e
    exact .inl (D.no (worth_no k e))
  · cases h1
def spWorth (K : PySem.W.Frag) : Sp := fun vs H Q E => ∃ k a b, vs = [.str (nmk k), .int a, .int b] ∧ k < 26 ∧ Wd a ∧ Wd b ∧ (∀ r, Wd r → Q (.int r) H) ∧ ∀ d H', Same H H' → E (dbn K) (some d) H'
theorem lenWorth {K : PySem.W.Frag} : ∀ vs H Q E, spWorth K vs H Q E → vs.length = 3 := by rintro _ _ _ _ ⟨_, _, _, rfl, _⟩; rfl
theorem wd_if {b : Bool} : Wd (if b = true then 1 else 0) := by cases b <;> exact ⟨by decide, by decide⟩
theorem sc_worth_by_name : FnScope ["name", "one", "other", "worked"] ["name", "one", "other"] (defScope s_worth_by_name) := ⟨rfl, rfl, rfl, by decide +kernel, rfl, by decide +kernel, by decide +kernel⟩
theorem ok_worth_by_name (T : Hd K w mg)
    (c_plus : C8.Cal P w K mg base 6 "plus" (spW2) [])
    (c_minus : C8.Cal P w K mg base 6 "minus" (spW2) [])
    (c_times : C8.Cal P w K mg base 6 "times" (spW2) [])
    (c_over : CalX P w K mg base 6 "over" (spOver K))
    (c_both : C8.Cal P w K mg base 6 "both" (spW2) [])
    (c_either : C8.Cal P w K mg base 6 "either" (spW2) [])
    (c_unlike : C8.Cal P w K mg base 6 "unlike" (spW2) [])
    (c_shifted_up : C8.Cal P w K mg base 5 "shifted_up" (spW2) [])
    (c_shifted_down : C8.Cal P w K mg base 5 "shifted_down" (spW2) []) : CalX P w K mg base 7 "worth_by_name" (spWorth K) := by
  obtain ⟨fd, F⟩ := T.f_worth_by_name
  obtain ⟨esW, nW, DW⟩ := T.t_WORTHS
  refine calX_of F T.g_worth_by_name sc_worth_by_name (fun _ _ _ _ _ _ us hl => match us, hl with | [_, _, _], _ => rfl) lenWorth (fun cdv A outer s H vs Q E hr h => ⟨_, (pss_cons (ps_if (pt_cmpR (op_in_kd DW) (pv 0) (pe_g T.g_WORTHS (by rfl)) (by rfl)) (pss_cons (ps_set (i := 3) sc_worth_by_name.nd rfl (Or.inl rfl) (pe_ix ix_kdict (pe_g T.g_WORTHS (by rfl)) (pv 0) (fun _ _ => rfl))) (pss_one (ps_ret (pe_cvX (pv 3) (takes_of rfl rfl rfl rfl) hr (pa_cons (pv 1) (pa_cons (pv 2) pa_nil)))))) pss_nil) (pss_cons (ps_if (pt_cmpR op_eq (pv 0) pe_str (nomark _)) (pss_one (ps_ret (pe_callTy call_int1 (by rfl) T.b_int (by decide +kernel) (pa_cons (pe_cmpR op_lt (pv 1) (pv 2) (nomark _)) pa_nil)))) pss_nil) (pss_cons (ps_if (pt_cmpR op_eq (pv 0) pe_str (nomark _)) (pss_one (ps_ret (pe_callTy call_int1 (by rfl) T.b_int (by decide +kernel) (pa_cons (pe_cmpR op_eq (pv 1) (pv 2) (nomark _)) pa_nil)))) pss_nil) (pss_one (ps_ret (pe_ifExp (pt_cmpR op_eq (pv 0) pe_str (nomark _)) (pv 2) (pe_op op_mod (pe_op op_add (pe_op op_mul (pv 2) pe_int) (pe_op op_mod (pv 1) pe_int)) pe_int))))))), ?_⟩)
  obtain ⟨k, a, b, rfl, hk, ha, hb, q, e⟩ := h
  rcases worth_at T hk with h1 | ⟨g, u, hg, h1, h2⟩
  · refine ⟨_, rfl, nmk k, _, rfl, rfl, h1, _, rfl, iteF ?_⟩
    refine ⟨_, rfl, rfl, _, rfl, iteD (fun _ => ?_) fun _ => ⟨_, rfl, rfl, _, rfl, iteD (fun _ => ?_) fun _ => ?_⟩⟩
    · exact ⟨_, rfl, _, rfl, _, _, rfl, rfl, .inr ⟨_, rfl, q _ wd_if⟩⟩
    · exact ⟨_, rfl, _, rfl, rfl, .inr ⟨_, rfl, q _ wd_if⟩⟩
    · refine ⟨_, rfl, rfl, _, rfl, iteD (fun _ => ⟨_, rfl, q _ hb⟩) fun _ => ?_⟩
      exact ⟨_, rfl, _, _, rfl, rfl, .inr ⟨by decide, by decide⟩, _, rfl, _, _, rfl, rfl, (show (0 : Int) < 256 by decide), _, _, rfl, rfl, _, _, rfl, rfl, pos_w, q _ (wd_mod _)⟩
  · refine ⟨_, rfl, nmk k, _, rfl, rfl, h1, _, rfl, iteT ?_⟩
    refine ⟨_, rfl, _, _, _, rfl, rfl, h2, ?_⟩
    have pl : ∀ {x : Str}, (∃ n, n ≤ 6 ∧ C8.Cal P w K mg base n x spW2 []) → mg x = some (.ref (He.ga K x)) → ∃ f sp, V.ref (He.ga K x) = .ref f ∧ Callee P w K mg base 6 f sp ∧ sp [.int a, .int b] H Q (WE (fun cls d _ H => E cls d H) [some (.str (nmk k)), some (.int a), some (.int b), some (.ref (He.ga K x))]) := fun {x} c hm => by
      obtain ⟨n, hn, c⟩ := c
      exact ⟨_, spW2, rfl, .inr ⟨n, hn, FunX.of0 c hm⟩, _, _, rfl, a, b, rfl, rfl, ha, hb, q⟩
    have fin : ∃ f sp, V.ref (He.ga K g) = .ref f ∧ Callee P w K mg base 6 f sp ∧ sp [.int a, .int b] H Q (WE (fun cls d _ H => E cls d H) [some (.str (nmk k)), some (.int a), some (.int b), some (.ref (He.ga K g))]) := by
      simp only [wfn, List.mem_cons, List.mem_nil_iff, or_false] at hg
      rcases hg with h | h | h | h | h | h | h | h | h <;> subst h
      · exact pl ⟨_, by decide, c_plus⟩ T.g_plus
      · exact pl ⟨_, by decide, c_minus⟩ T.g_minus
      · exact pl ⟨_, by decide, c_times⟩ T.g_times
      · exact ⟨_, spOver K, rfl, .inl ⟨_, by decide, c_over.at_ T.g_over⟩, a, b, rfl, ha, hb, q, e⟩
      · exact pl ⟨_, by decide, c_both⟩ T.g_both
      · exact pl ⟨_, by decide, c_either⟩ T.g_either
      · exact pl ⟨_, by decide, c_unlike⟩ T.g_unlike
      · exact pl ⟨_, by decide, c_shifted_up⟩ T.g_shifted_up
      · exact pl ⟨_, by decide, c_shifted_down⟩ T.g_shifted_down
    obtain ⟨f, sp, e1, e2, e3⟩ := fin
    exact ⟨_, rfl, f, sp, e1, e2, _, rfl, _, rfl, e3⟩
/-! ### worked out -/
def Ad (i : Int) : Prop := 0 ≤ i ∧ i < 4096
theorem pos4 : (0 : Int) < 4096 := by decide
theorem ad_mod (a : Int) : Ad (a % 4096) := ⟨Int.emod_nonneg _ (by decide), Int.emod_lt_of_pos _ (by decide)⟩
theorem Ad.wd {i : Int} (h : Ad i) : Wd i := ⟨h.1, Int.lt_trans h.2 (by decide)⟩
def spNext : Sp := sp1 fun x H Q => ∃ i, x = .int i ∧ ∀ r, Ad r → Q (.int r) H
theorem sc_next_address : FnScope ["address"] ["address"] (defScope s_next_address) := ⟨rfl, rfl, rfl, by decide +kernel, rfl, by decide +kernel, by decide +kernel⟩
theorem ok_next_address (T : Hd K w mg) : C8.Cal P w K mg base 1 "next_address" (spNext) [] := by
  obtain ⟨fd, F⟩ := T.f_next_address
  refine cal_of F T.g_next_address sc_next_address (fun _ _ _ _ _ _ us hl => match us, hl with | [_], _ => rfl) len1 (fun cdv A outer s H vs Q E hr h => ⟨_, (pss_one (ps_ret (pe_op op_mod (pe_op op_add (pv 0) pe_int) (pe_n T.n_MOST_ADDRESS (by rfl))))), ?_⟩)
  obtain ⟨x, rfl, i, rfl, q⟩ := h
  exact ⟨_, rfl, _, _, rfl, rfl, _, _, rfl, rfl, pos4, q _ (ad_mod _)⟩
theorem insV_num {k : Nat} {rs : List Int} (n : Int) (R : Raw k rs) (hw : widF (fo k) ≠ 0) : atI (insV k rs n) ((regF (fo k) + 1 : Nat) : Int) = some (.int n) := by
  refine at_of (j := regF (fo k) + 1) rfl ?_
  unfold insV argV
  rw [if_neg hw, List.getElem?_cons_succ, List.getElem?_append_right (by rw [List.length_map, R.len]; exact Nat.le_refl _), List.length_map, R.len, Nat.sub_self]
  rfl
def spReached : Sp := sp2 fun x y H Q => ∃ p k rs n i, x = .ref p ∧ y = .int i ∧ H p = some (.tup (insV k rs n)) ∧ Raw k rs ∧ fo k = 1 ∧ ∀ r, Ad r → Q (.int r) H
theorem sc_reached_address : FnScope ["instruction", "word"] ["instruction", "word"] (defScope s_reached_address) := ⟨rfl, rfl, rfl, by decide +kernel, rfl, by decide +kernel, by decide +kernel⟩
theorem ok_reached_address (T : Hd K w mg) : C8.Cal P w K mg base 1 "reached_address" (spReached) [] := by
  obtain ⟨fd, F⟩ := T.f_reached_address
  refine cal_of F T.g_reached_address sc_reached_address (fun _ _ _ _ _ _ us hl => match us, hl with | [_, _], _ => rfl) len2 (fun cdv A outer s H vs Q E hr h => ⟨_, (pss_one (ps_ret (pe_op op_mod (pe_op op_add (pv 1) (pe_ix ix_tup (pv 0) pe_int (fun _ _ => rfl))) (pe_n T.n_MOST_ADDRESS (by rfl))))), ?_⟩)
  obtain ⟨x, y, rfl, p, k, rs, n, i, rfl, rfl, hx, R, hf, q⟩ := h
  have hn := insV_num n R (by rw [hf]; decide)
  rw [hf] at hn
  exact ⟨_, rfl, _, rfl, p, _, 3, _, rfl, rfl, SqT.of hx, hn, _, _, rfl, rfl, _, _, rfl, rfl, pos4, q _ (ad_mod _)⟩
def sumK (k : Nat) : Bool := decide (k ≤ 11) || decide (k = 15) || decide (k = 16)
def numbN : List Str := ["addi", "lhi", "lim"]
theorem numb_flat : (numbN.map V.str).all flatV = true := by decide +kernel
theorem numb_yes : ∀ k, k < 26 → ¬ (V.str (nmk k) = V.str "lim") → inV (.str (nmk k)) (numbN.map V.str) = true → 0 < rdN k := by decide +kernel
theorem numb_no : ∀ k, k < 26 → sumK k = true → ¬ (V.str (nmk k) = V.str "lim") → inV (.str (nmk k)) (numbN.map V.str) = false → rdN k = 2 := by decide +kernel
def spSum (K : PySem.W.Frag) : Sp := fun vs H Q E => ∃ p l k rs n ws, vs = [.ref p, .ref l] ∧ H p = some (.tup (insV k rs n)) ∧ Raw k rs ∧ sumK k = true ∧ H l = some (.lst ws) ∧ Wds (rdN k) ws ∧
  (∀ r H', Wd r → Same H H' → Q (.int r) H') ∧ ∀ d H', Same H H' → E (dbn K) (some d) H'
theorem lenSum {K : PySem.W.Frag} : ∀ vs H Q E, spSum K vs H Q E → vs.length = 2 := by rintro _ _ _ _ ⟨_, _, _, _, _, _, rfl, _⟩; rfl
theorem Wds.cell {n : Nat} {ws : List V} (h : Wds n ws) {z : Int} (h0 : 0 ≤ z) (h1 : z < n) : ∃ i, atI ws z = some (.int i) ∧ Wd i := h.at h0 h1
theorem sc_sum_worth : FnScope ["instruction", "words", "name"] ["instruction", "words"] (defScope s_sum_worth) := ⟨rfl, rfl, rfl, by decide +kernel, rfl, by decide +kernel, by decide +kernel⟩
theorem ok_sum_worth (T : Hd K w mg)
    (c_worth_by_name : CalX P w K mg base 7 "worth_by_name" (spWorth K))
    (c_number_as_word : C8.Cal P w K mg base 1 "number_as_word" (spNumW K) []) : CalX P w K mg base 8 "sum_worth" (spSum K) := by
  obtain ⟨fd, F⟩ := T.f_sum_worth
  refine calX_of F T.g_sum_worth sc_sum_worth (fun _ _ _ _ _ _ us hl => match us, hl with | [_, _], _ => rfl) lenSum (fun cdv A outer s H vs Q E hr h => ⟨_, (pss_cons (ps_set (i := 2) sc_sum_worth.nd rfl (Or.inl rfl) (pe_ix ix_tup (pv 0) pe_int (fun _ _ => rfl))) (pss_cons (ps_if (pt_cmpR op_eq (pv 2) pe_str (nomark _)) (pss_one (ps_ret (pe_cX c_worth_by_name (takes_of rfl rfl rfl rfl) hr (by decide) (by rfl) (pa_cons (pv 2) (pa_cons pe_int (pa_cons (C8.pe_c c_number_as_word hr (by decide) (by rfl) (pa_cons (pv 0) pa_nil)) pa_nil)))))) pss_nil) (pss_cons (ps_if (pt_cmpR op_in_seq (pv 2) (pe_g T.g_NUMBERED (by rfl)) (by rfl)) (pss_one (ps_ret (pe_cX c_worth_by_name (takes_of rfl rfl rfl rfl) hr (by decide) (by rfl) (pa_cons (pv 2) (pa_cons (pe_ix ix_list (pv 1) pe_int (fun _ _ => rfl)) (pa_cons (C8.pe_c c_number_as_word hr (by decide) (by rfl) (pa_cons (pv 0) pa_nil)) pa_nil)))))) pss_nil) (pss_one (ps_ret (pe_cX c_worth_by_name (takes_of rfl rfl rfl rfl) hr (by decide) (by rfl) (pa_cons (pv 2) (pa_cons (pe_ix ix_list (pv 1) pe_int (fun _ _ => rfl)) (pa_cons (pe_ix ix_list (pv 1) pe_int (fun _ _ => rfl)) pa_nil))))))))), ?_⟩)
  obtain ⟨p, l, k, rs, n, ws, rfl, hx, R, hk, hl, W, q, e⟩ := h
  have h0 : atI (insV k rs n) 0 = some (.str (nmk k)) := at_of (j := 0) rfl rfl
  refine ⟨_, rfl, p, _, 0, _, rfl, rfl, SqT.of hx, h0, _, rfl, rfl, _, rfl, iteD (fun e1 => ?_) fun n1 => ?_⟩
  · exact ⟨_, rfl, _, rfl, _, rfl, p, k, rs, n, rfl, hx, R, fun r H1 hr1 e1 => ⟨k, _, _, rfl, R.kl, ⟨by decide, by decide⟩, hr1, fun r2 hr2 => q r2 H1 hr2 e1, fun d H' e2 => e d H' (e1.trans e2)⟩⟩
  · refine ⟨_, rfl, He.ga K "NUMBERED", numbN.map V.str, rfl, .inr (tupAtB_ok T.x_tup_NUMBERED _), rfl, numb_flat, _, rfl, iteB (fun hb => ?_) fun hb => ?_⟩
    · obtain ⟨a, ea, wa⟩ := W.at (z := 0) (by decide) (by have := numb_yes k R.kl n1 hb; omega)
      exact ⟨_, rfl, _, rfl, l, ws, 0, _, rfl, rfl, SqL.of hl, ea, _, rfl, _, rfl, p, k, rs, n, rfl, hx, R, fun r H1 hr1 e1 => ⟨k, _, _, rfl, R.kl, wa, hr1, fun r2 hr2 => q r2 H1 hr2 e1, fun d H' e2 => e d H' (e1.trans e2)⟩⟩
    · have h2 := numb_no k R.kl hk n1 hb
      obtain ⟨a, ea, wa⟩ := W.at (z := 0) (by decide) (by omega)
      obtain ⟨b, eb, wb⟩ := W.at (z := 1) (by decide) (by omega)
      exact ⟨_, rfl, _, rfl, l, ws, 0, _, rfl, rfl, SqL.of hl, ea, _, rfl, l, ws, 1, _, rfl, rfl, SqL.of hl, eb, k, _, _, rfl, R.kl, wa, wb, fun r2 hr2 => q r2 H hr2 (Same.refl _), e⟩
/-- the operations that plain_row works out -/
def plainK (k : Nat) : Bool := sumK k || decide (14 ≤ k ∧ k ≤ 19) || decide (k = 25)
structure Worked (k : Nat) (xs : List V) : Prop where
  ex : ∃ c v b, xs = [.int c, v, .int b] ∧ Ad b ∧ ((c = 0 ∧ (unw k = true → v = .non) ∧ (unw k = false → ∃ r, v = .int r ∧ Wd r)) ∨ (c = 3 ∧ v = .non))
def spWorked : Sp := sp3 fun x y z H Q => ∃ p l k rs n i ws, x = .ref p ∧ y = .int i ∧ z = .ref l ∧ H p = some (.tup (insV k rs n)) ∧ Raw k rs ∧ plainK k = true ∧ H l = some (.lst ws) ∧ Wds (rdN k) ws ∧ RetTup (Worked k) H Q
theorem wk_nop : ∀ k, k < 26 → V.str (nmk k) = V.str "nop" → unw k = true := by decide +kernel
theorem wk_b : ∀ k, k < 26 → inV (.str (nmk k)) ((["bz", "bnz"] : List Str).map V.str) = true → unw k = true ∧ rdN k = 1 ∧ widF (fo k) ≠ 0 ∧ regF (fo k) = 1 := by decide +kernel
theorem wk_jal : ∀ k, k < 26 → V.str (nmk k) = V.str "jal" → unw k = false ∧ widF (fo k) ≠ 0 ∧ regF (fo k) = 1 := by decide +kernel
theorem wk_jr : ∀ k, k < 26 → V.str (nmk k) = V.str "jr" → unw k = false ∧ rdN k = 1 ∧ fo k = 1 := by decide +kernel
theorem wk_sumB : ∀ k, k < 26 → (plainK k && (!decide (V.str (nmk k) = V.str "nop") && (!inV (.str (nmk k)) ((["bz", "bnz"] : List Str).map V.str) && (!decide (V.str (nmk k) = V.str "jal") && !decide (V.str (nmk k) = V.str "jr"))))) = true → sumK k = true ∧ unw k = false := by decide +kernel
theorem wk_sum (k : Nat) (hk : k < 26) (a : plainK k = true) (b : ¬ (V.str (nmk k) = V.str "nop")) (c : inV (.str (nmk k)) ((["bz", "bnz"] : List Str).map V.str) = false) (d : ¬ (V.str (nmk k) = V.str "jal")) (e : ¬ (V.str (nmk k) = V.str "jr")) : sumK k = true ∧ unw k = false :=
  wk_sumB k hk (by rw [a, decide_eq_false b, c, decide_eq_false d, decide_eq_false e]; rfl)
theorem sc_worked_out : FnScope ["instruction", "address", "words", "name", "behind", "goes"] ["instruction", "address", "words"] (defScope s_worked_out) := ⟨rfl, rfl, rfl, by decide +kernel, rfl, by decide +kernel, by decide +kernel⟩
theorem ok_worked_out (T : Hd K w mg)
    (c_sum_worth : CalX P w K mg base 8 "sum_worth" (spSum K))
    (c_next_address : C8.Cal P w K mg base 1 "next_address" (spNext) [])
    (c_reached_address : C8.Cal P w K mg base 1 "reached_address" (spReached) []) : C8.Cal P w K mg base 9 "worked_out" (spWorked) [] := by
  obtain ⟨fd, F⟩ := T.f_worked_out
  refine cal_of F T.g_worked_out sc_worked_out (fun _ _ _ _ _ _ us hl => match us, hl with | [_, _, _], _ => rfl) len3 (fun cdv A outer s H vs Q E hr h => ⟨_, (pss_cons (ps_par (i := 3) (j := 4) rfl sc_worked_out.nd rfl rfl (by decide) rfl rfl (pa_cons (pe_ix ix_tup (pv 0) pe_int (fun _ _ => rfl)) (pa_cons (C8.pe_c c_next_address hr (by decide) (by rfl) (pa_cons (pv 1) pa_nil)) pa_nil)) (by rfl)) (pss_cons (ps_if (pt_cmpR op_eq (pv 3) pe_str (nomark _)) (pss_one (ps_ret (pe_tup (pa_cons pe_int (pa_cons pe_non (pa_cons (pv 4) pa_nil)))))) pss_nil) (pss_cons (ps_if (pt_cmpR op_in_seq (pv 3) (pe_tup (pa_cons pe_str (pa_cons pe_str pa_nil))) (by rfl)) (pss_cons (ps_set (i := 5) sc_worked_out.nd rfl (Or.inl rfl) (pe_cmpR op_eq (pe_cmpR op_eq (pe_ix ix_list (pv 2) pe_int (fun _ _ => rfl)) pe_int (nomark _)) (pe_cmpR op_eq (pv 3) pe_str (nomark _)) (nomark _))) (pss_one (ps_ret (pe_tup (pa_cons pe_int (pa_cons pe_non (pa_cons (pe_ifExp (pt_val (pv 5)) (pe_op op_mod (pe_op op_add (pv 1) (pe_ix ix_tup (pv 0) pe_int (fun _ _ => rfl))) (pe_n T.n_MOST_ADDRESS (by rfl))) (pv 4)) pa_nil))))))) pss_nil) (pss_cons (ps_if (pt_cmpR op_eq (pv 3) pe_str (nomark _)) (pss_one (ps_ret (pe_tup (pa_cons pe_int (pa_cons (pv 4) (pa_cons (pe_op op_mod (pe_op op_add (pv 1) (pe_ix ix_tup (pv 0) pe_int (fun _ _ => rfl))) (pe_n T.n_MOST_ADDRESS (by rfl))) pa_nil)))))) pss_nil) (pss_cons (ps_if (pt_cmpR op_eq (pv 3) pe_str (nomark _)) (pss_one (ps_ret (pe_tup (pa_cons pe_int (pa_cons (pv 4) (pa_cons (C8.pe_c c_reached_address hr (by decide) (by rfl) (pa_cons (pv 0) (pa_cons (pe_ix ix_list (pv 2) pe_int (fun _ _ => rfl)) pa_nil))) pa_nil)))))) pss_nil) (pss_one (ps_try_only rfl rfl ⟨by rfl, by decide, .inl T.g_DividedByNought⟩ takes0 (fun W pn xe tk _ => (pss_one (ps_ret (pe_tup (pa_cons pe_int (pa_cons (pe_cX c_sum_worth tk hr (by decide) (by rfl) (pa_cons (pv 0) (pa_cons (pv 2) pa_nil))) (pa_cons (pv 4) pa_nil))))))) (fun a oe cls d pn _ _ => (pss_one (ps_ret (pe_tup (pa_cons (pe_n T.n_CAUSE_OVER (by rfl)) (pa_cons pe_non (pa_cons (pv 4) pa_nil)))))))))))))), ?_⟩)
  obtain ⟨x, y, z, rfl, p, l, k, rs, n, i, ws, rfl, rfl, rfl, hx, R, hk, hl, W, q⟩ := h
  have h0 : atI (insV k rs n) 0 = some (.str (nmk k)) := at_of (j := 0) rfl rfl
  refine ⟨_, rfl, p, _, 0, _, rfl, rfl, SqT.of hx, h0, _, rfl, _, rfl, i, rfl, fun b hb => ⟨_, _, rfl, ?_⟩⟩
  refine ⟨_, rfl, rfl, _, rfl, iteD (fun e1 => ?_) fun n1 => ?_⟩
  · refine ⟨_, rfl, sz3, fun t ht => q t _ _ ht (same_new ht) upd_same ⟨_, _, _, rfl, hb, .inl ⟨rfl, fun _ => rfl, fun e => ?_⟩⟩⟩
    rw [wk_nop k R.kl e1] at e; cases e
  refine ⟨_, rfl, sz2, fun u hu => ⟨u, _, rfl, .inr (SqT.of upd_same), rfl, rfl, _, rfl, ?_⟩⟩
  have e1 := same_new (o := HO.tup [V.str "bz", .str "bnz"]) hu
  have hx1 := e1 _ _ hx
  have hl1 := e1 _ _ hl
  have fin : ∀ {t : Addr} {H1 : Hp} {c : Int} {v : V} {a : Int}, Same H H1 → H1 t = none → Ad a → ((c = 0 ∧ (unw k = true → v = .non) ∧ (unw k = false → ∃ r, v = .int r ∧ Wd r)) ∨ (c = 3 ∧ v = .non)) → Q (.ref t) (upd H1 t (.tup [.int c, v, .int a])) := fun {t H1 c v a} e2 ht ha g =>
    q t _ _ (same_free e2 ht) (e2.trans (same_new ht)) upd_same ⟨_, _, _, rfl, ha, g⟩
  refine iteB (fun hb0 => ?_) fun hb0 => ?_
  · obtain ⟨g1, g2, g3, g4⟩ := wk_b k R.kl hb0
    obtain ⟨a, ea, wa⟩ := W.at (z := 0) (by decide) (by omega)
    have hn := insV_num n R g3
    rw [g4] at hn
    refine ⟨_, rfl, l, ws, 0, _, rfl, rfl, SqL.of hl1, ea, rfl, _, rfl, rfl, rfl, ?_⟩
    refine ⟨_, rfl, _, rfl, iteB (fun _ => ?_) fun _ => ?_⟩
    · exact ⟨_, rfl, _, rfl, p, _, 2, _, rfl, rfl, SqT.of hx1, hn, _, _, rfl, rfl, _, _, rfl, rfl, pos4, sz3, fun t ht => fin e1 ht (ad_mod _) (.inl ⟨rfl, fun _ => rfl, fun z => by rw [g1] at z; cases z⟩)⟩
    · exact ⟨_, rfl, sz3, fun t ht => fin e1 ht hb (.inl ⟨rfl, fun _ => rfl, fun z => by rw [g1] at z; cases z⟩)⟩
  refine ⟨_, rfl, rfl, _, rfl, iteD (fun e3 => ?_) fun n3 => ⟨_, rfl, rfl, _, rfl, iteD (fun e4 => ?_) fun n4 => ?_⟩⟩
  · obtain ⟨g1, g3, g4⟩ := wk_jal k R.kl e3
    have hn := insV_num n R g3
    rw [g4] at hn
    exact ⟨_, rfl, _, rfl, _, rfl, p, _, 2, _, rfl, rfl, SqT.of hx1, hn, _, _, rfl, rfl, _, _, rfl, rfl, pos4, sz3, fun t ht => fin e1 ht (ad_mod _) (.inl ⟨rfl, (fun z => by rw [g1] at z; cases z), fun _ => ⟨_, rfl, hb.wd⟩⟩)⟩
  · obtain ⟨g1, g3, g4⟩ := wk_jr k R.kl e4
    obtain ⟨a, ea, wa⟩ := W.at (z := 0) (by decide) (by omega)
    exact ⟨_, rfl, _, rfl, _, rfl, l, ws, 0, _, rfl, rfl, SqL.of hl1, ea, _, _, rfl, p, k, rs, n, _, rfl, rfl, hx1, R, g4, fun r hr => ⟨sz3, fun t ht => fin e1 ht hr (.inl ⟨rfl, (fun z => by rw [g1] at z; cases z), fun _ => ⟨_, rfl, hb.wd⟩⟩)⟩⟩
  · obtain ⟨g1, g2⟩ := wk_sum k R.kl hk n1 hb0 n3 n4
    refine ⟨_, rfl, _, rfl, p, l, k, rs, n, ws, rfl, hx1, R, g1, hl1, W, fun r H2 hr e2 => ⟨_, rfl, sz3, fun t ht => fin (e1.trans e2) ht hb (.inl ⟨rfl, (fun z => by rw [g2] at z; cases z), fun _ => ⟨r, rfl, hr⟩⟩)⟩, fun d H2 e2 => ?_⟩
    exact ⟨true, of_decide_eq_true T.x_exm_DividedByNought_DividedByNought, fun _ a ha => ⟨_, rfl, sz3, fun t ht => fin (e1.trans e2) ht hb (.inr ⟨rfl, rfl⟩)⟩, fun z => nomatch z⟩
end
end K97
set_option maxHeartbeats 4000000
/-! The machine's state. -/
namespace K97
open PySem PySem.Spec PyProof.Rows L2
section
variable {K : PySem.W.Frag}
/-- the objects of a state -/
structure Mc where
  s : Addr
  d : Addr
  it : Addr
  ol : Addr
  ll : Addr
  m : Addr
  wl : Addr
  rl : Addr
def fS (c : Mc) (cl : Addr) (ad : Int) (hd : Bool) (dn : Int) : List (Str × V) := [("own_devices", .ref c.d), ("own_memory", .ref c.m), ("own_registers", .ref c.rl), ("own_controls", .ref cl), ("own_address", .int ad), ("own_halted", .bl hd), ("own_done", .int dn)]
/-- the state c stands; all its objects are unknown to H0, which stands too -/
structure SX (K : PySem.W.Frag) (H0 H : Hp) (n : Nat) (c : Mc) (sx cl : Addr) (ad : Int) (hd : Bool) (dn : Int) : Prop where
  ob : H c.s = some (.ins (He.ga K "State") sx (fS c cl ad hd dn))
  ad : Ad ad
  con : ∃ cs, H cl = some (.lst cs) ∧ Wds 8 cs
  cl0 : H0 cl = none
  clN : cl ∉ [c.ol, c.ll, c.wl, c.rl]
  dev : DevAt K H n c.d c.it c.ol c.ll
  mem : ∃ ws, MemAt K H c.m c.wl ws
  reg : ∃ rs, H c.rl = some (.lst rs) ∧ Wds 8 rs
  old : Same H0 H
  new : ∀ b ∈ [c.s, c.d, c.m, c.ol, c.ll, c.wl, c.rl], H0 b = none
  nd1 : [c.s, c.d, c.m].Nodup
  nd2 : [c.ol, c.ll, c.wl, c.rl].Nodup
def SAt (K : PySem.W.Frag) (H0 H : Hp) (n : Nat) (c : Mc) : Prop := ∃ sx cl ad hd dn, SX K H0 H n c sx cl ad hd dn
variable {H0 H H' H1 H2 : Hp} {n n' : Nat} {c : Mc} {sx cl : Addr} {ad dn : Int} {hd : Bool}
theorem DevAt.up {d it ol ll : Addr} (h : DevAt K H n d it ol ll) (e : Same H H') : DevAt K H' n d it ol ll :=
  ⟨let ⟨a, b, x, y, h1, h2⟩ := h.ob; ⟨a, b, x, y, e _ _ h1, h2⟩, e _ _ h.inp, let ⟨xs, h1, h2⟩ := h.out; ⟨xs, e _ _ h1, h2⟩, let ⟨a, b, x, y, h1⟩ := h.lin; ⟨a, b, x, y, e _ _ h1⟩, h.ne⟩
theorem SX.up (h : SX K H0 H n c sx cl ad hd dn) (e : Same H H') : SX K H0 H' n c sx cl ad hd dn :=
  ⟨e _ _ h.ob, h.ad, let ⟨x, a, b⟩ := h.con; ⟨x, e _ _ a, b⟩, h.cl0, h.clN, h.dev.up e, let ⟨ws, a⟩ := h.mem; ⟨ws, a.up e⟩, let ⟨x, a, b⟩ := h.reg; ⟨x, e _ _ a, b⟩, h.old.trans e, h.new, h.nd1, h.nd2⟩
theorem SAt.up (h : SAt K H0 H n c) (e : Same H H') : SAt K H0 H' n c := let ⟨a, b, x, y, z, g⟩ := h; ⟨a, b, x, y, z, g.up e⟩
theorem SX.mono (h : SX K H0 H n c sx cl ad hd dn) (l : n ≤ n') : SX K H0 H n' c sx cl ad hd dn := ⟨h.ob, h.ad, h.con, h.cl0, h.clN, h.dev.mono l, h.mem, h.reg, h.old, h.new, h.nd1, h.nd2⟩
theorem SAt.mono (h : SAt K H0 H n c) (l : n ≤ n') : SAt K H0 H n' c := let ⟨a, b, x, y, z, g⟩ := h; ⟨a, b, x, y, z, g.mono l⟩
theorem SX.base (h : SX K H1 H n c sx cl ad hd dn) (e : Same H0 H1) : SX K H0 H n c sx cl ad hd dn := ⟨h.ob, h.ad, h.con, e.free h.cl0, h.clN, h.dev, h.mem, h.reg, e.trans h.old, fun b hb => e.free (h.new b hb), h.nd1, h.nd2⟩
theorem SAt.base (h : SAt K H1 H n c) (e : Same H0 H1) : SAt K H0 H n c := let ⟨a, b, x, y, z, g⟩ := h; ⟨a, b, x, y, z, g.base e⟩
/-- what stands beside the state's objects: unknown before, or known to H0, or a tuple -/
theorem SX.frame (h : SX K H0 H n c sx cl ad hd dn) (e : Same H H2) : ∃ H1, Same H0 H1 ∧ SX K H1 H2 n c sx cl ad hd dn ∧ ∀ b o, H2 b = some o → (H b = none ∨ H0 b ≠ none ∨ ∃ xs, o = .tup xs) → H1 b = some o := by
  obtain ⟨cs, hcl, wcl⟩ := h.con
  obtain ⟨rs, hrl, wrl⟩ := h.reg
  obtain ⟨ws, hm⟩ := h.mem
  obtain ⟨mx, hmo⟩ := hm.ob
  obtain ⟨dx, tk, st, ti, hdo, _⟩ := h.dev.ob
  obtain ⟨xs, hol, _⟩ := h.dev.out
  obtain ⟨a1, a2, a3, a4, hll⟩ := h.dev.lin
  have known : ∀ b ∈ cl :: [c.s, c.d, c.m, c.ol, c.ll, c.wl, c.rl], ∃ o, H b = some o ∧ ∀ ys, o ≠ .tup ys := fun b hb => by
    simp only [List.mem_cons, List.not_mem_nil, or_false] at hb
    rcases hb with z | z | z | z | z | z | z | z <;> rw [z]
    · exact ⟨_, hcl, fun ys q => by cases q⟩
    · exact ⟨_, h.ob, fun ys q => by cases q⟩
    · exact ⟨_, hdo, fun ys q => by cases q⟩
    · exact ⟨_, hmo, fun ys q => by cases q⟩
    · exact ⟨_, hol, fun ys q => by cases q⟩
    · exact ⟨_, hll, fun ys q => by cases q⟩
    · exact ⟨_, hm.wo, fun ys q => by cases q⟩
    · exact ⟨_, hrl, fun ys q => by cases q⟩
  have unk : ∀ b ∈ cl :: [c.s, c.d, c.m, c.ol, c.ll, c.wl, c.rl], H0 b = none := fun b hb => by
    rcases List.mem_cons.mp hb with z | hb
    · rw [z]; exact h.cl0
    · exact h.new b hb
  let F : Hp := fun b => if b ∈ cl :: [c.s, c.d, c.m, c.ol, c.ll, c.wl, c.rl] then none else H2 b
  have fin : ∀ b, b ∈ cl :: [c.s, c.d, c.m, c.ol, c.ll, c.wl, c.rl] → F b = none := fun b hb => if_pos hb
  have fout : ∀ b, b ∉ cl :: [c.s, c.d, c.m, c.ol, c.ll, c.wl, c.rl] → F b = H2 b := fun b hb => if_neg hb
  have h2 := h.up e
  refine ⟨F, fun b o hb => ?_, ⟨h2.ob, h2.ad, h2.con, fin cl (List.mem_cons_self ..), h2.clN, h2.dev, h2.mem, h2.reg, fun b o hb => ?_, fun b hb => fin b (List.mem_cons_of_mem _ hb), h2.nd1, h2.nd2⟩, fun b o hb hor => ?_⟩
  · rw [fout b fun hm => by rw [unk b hm] at hb; cases hb]
    exact h2.old b o hb
  · by_cases hm : b ∈ cl :: [c.s, c.d, c.m, c.ol, c.ll, c.wl, c.rl]
    · rw [fin b hm] at hb; cases hb
    · rw [fout b hm] at hb; exact hb
  · rw [fout b fun hm => ?_]
    · exact hb
    obtain ⟨o', h1, h2⟩ := known b hm
    rcases hor with z | z | ⟨ys, z⟩
    · rw [z] at h1; cases h1
    · exact z (unk b hm)
    · rw [e _ _ h1] at hb
      cases hb
      exact h2 ys z
theorem SAt.frame (h : SAt K H0 H n c) (e : Same H H2) : ∃ H1, Same H0 H1 ∧ SAt K H1 H2 n c ∧ ∀ b o, H2 b = some o → (H b = none ∨ H0 b ≠ none ∨ ∃ xs, o = .tup xs) → H1 b = some o := by
  obtain ⟨a, b, x, y, z, g⟩ := h
  obtain ⟨H1, e1, g1, k⟩ := g.frame e
  exact ⟨H1, e1, ⟨a, b, x, y, z, g1⟩, k⟩
/-! ### changes -/
theorem ins_ne_lst {a b : Addr} {C x : Addr} {f : List (Str × V)} {xs : List V} (h1 : H a = some (.ins C x f)) (h2 : H b = some (.lst xs)) : b ≠ a := fun e => by rw [e, h1] at h2; cases h2
theorem ins_ne_tup {a b : Addr} {C x : Addr} {f : List (Str × V)} {xs : List V} (h1 : H a = some (.ins C x f)) (h2 : H b = some (.tup xs)) : b ≠ a := fun e => by rw [e, h1] at h2; cases h2
theorem lst_ne_tup {a b : Addr} {ys xs : List V} (h1 : H a = some (.lst ys)) (h2 : H b = some (.tup xs)) : b ≠ a := fun e => by rw [e, h1] at h2; cases h2
/-- the state's own fields -/
theorem SX.putS {cl' : Addr} {ad' dn' : Int} {hd' : Bool} {cs' : List V} (h : SX K H0 H n c sx cl ad hd dn) (ha : Ad ad') (hcl : H cl' = some (.lst cs')) (hcw : Wds 8 cs') (hc0 : H0 cl' = none) (hcN : cl' ∉ [c.ol, c.ll, c.wl, c.rl]) :
    SX K H0 (upd H c.s (.ins (He.ga K "State") sx (fS c cl' ad' hd' dn'))) n c sx cl' ad' hd' dn' := by
  have nl : ∀ {b : Addr} {xs : List V}, H b = some (.lst xs) → upd H c.s (.ins (He.ga K "State") sx (fS c cl' ad' hd' dn')) b = some (.lst xs) := fun {b xs} hb => by rw [upd_ne (ins_ne_lst h.ob hb)]; exact hb
  have ds := List.nodup_cons.mp h.nd1
  have dne : c.d ≠ c.s := fun e => ds.1 (by rw [← e]; exact List.mem_cons_self ..)
  have mne : c.m ≠ c.s := fun e => ds.1 (by rw [← e]; exact List.mem_cons_of_mem _ (List.mem_cons_self ..))
  refine ⟨upd_same, ha, ⟨cs', nl hcl, hcw⟩, hc0, hcN, ?_, ?_, let ⟨x, a, b⟩ := h.reg; ⟨x, nl a, b⟩, same_mut h.old (h.new _ (List.mem_cons_self ..)), h.new, h.nd1, h.nd2⟩
  · obtain ⟨a, b, x, y, h1, h2⟩ := h.dev.ob
    obtain ⟨xs, h3, h4⟩ := h.dev.out
    obtain ⟨a1, a2, a3, a4, h5⟩ := h.dev.lin
    exact ⟨⟨a, b, x, y, by rw [upd_ne dne]; exact h1, h2⟩, by rw [upd_ne (ins_ne_tup h.ob h.dev.inp)]; exact h.dev.inp, ⟨xs, nl h3, h4⟩, ⟨a1, a2, a3, a4, nl h5⟩, h.dev.ne⟩
  · obtain ⟨ws, hm⟩ := h.mem
    obtain ⟨mx, ho⟩ := hm.ob
    exact ⟨ws, ⟨mx, by rw [upd_ne mne]; exact ho⟩, nl hm.wo, hm.wd⟩
theorem SX.put (h : SX K H0 H n c sx cl ad hd dn) {ad' dn' : Int} {hd' : Bool} (ha : Ad ad') : SX K H0 (upd H c.s (.ins (He.ga K "State") sx (fS c cl ad' hd' dn'))) n c sx cl ad' hd' dn' := by
  obtain ⟨cs, h1, h2⟩ := h.con
  exact h.putS ha h1 h2 h.cl0 h.clN
/-- new controls -/
theorem SX.newC {cl' : Addr} {cs' : List V} (h : SX K H0 H n c sx cl ad hd dn) (e : Same H H1) (hn : H cl' = none) (hcl : H1 cl' = some (.lst cs')) (hcw : Wds 8 cs') {ad' dn' : Int} {hd' : Bool} (ha : Ad ad') :
    SX K H0 (upd H1 c.s (.ins (He.ga K "State") sx (fS c cl' ad' hd' dn'))) n c sx cl' ad' hd' dn' := by
  refine (h.up e).putS ha hcl hcw (h.old.free hn) fun hm => ?_
  have kn : ∀ b ∈ [c.ol, c.ll, c.wl, c.rl], ∃ o, H b = some o := fun b hb => by
    obtain ⟨rs, hrl, _⟩ := h.reg
    obtain ⟨ws, hmm⟩ := h.mem
    obtain ⟨xs, hol, _⟩ := h.dev.out
    obtain ⟨a1, a2, a3, a4, hll⟩ := h.dev.lin
    simp only [List.mem_cons, List.not_mem_nil, or_false] at hb
    rcases hb with z | z | z | z <;> rw [z]
    · exact ⟨_, hol⟩
    · exact ⟨_, hll⟩
    · exact ⟨_, hmm.wo⟩
    · exact ⟨_, hrl⟩
  obtain ⟨o, ho⟩ := kn _ hm
  rw [hn] at ho
  cases ho
/-- a list of the state is written: registers, words, controls -/
theorem SX.lists (h : SX K H0 H n c sx cl ad hd dn) {p : Addr} {ys zs : List V} (hp : H p = some (.lst ys)) (hp0 : H0 p = none) (npo : p ≠ c.ol) (npl : p ≠ c.ll)
    (hc : p = cl → Wds 8 zs) (hw : p = c.wl → Wds 960 zs) (hr : p = c.rl → Wds 8 zs) : SX K H0 (upd H p (.lst zs)) n c sx cl ad hd dn := by
  have ni : ∀ {b C x : Addr} {f : List (Str × V)}, H b = some (.ins C x f) → upd H p (.lst zs) b = some (.ins C x f) := fun {b C x f} hb => by rw [upd_ne (Ne.symm (ins_ne_lst hb hp))]; exact hb
  have nt : ∀ {b : Addr} {xs : List V}, H b = some (.tup xs) → upd H p (.lst zs) b = some (.tup xs) := fun {b xs} hb => by rw [upd_ne (lst_ne_tup hp hb)]; exact hb
  have nl : ∀ {b : Addr} {m : Nat}, (∃ xs, H b = some (.lst xs) ∧ Wds m xs) → (p = b → Wds m zs) → ∃ xs, upd H p (.lst zs) b = some (.lst xs) ∧ Wds m xs := fun {b m} ⟨xs, hb, hw⟩ hz => by
    by_cases e : b = p
    · exact ⟨zs, by rw [e, upd_same], hz e.symm⟩
    · exact ⟨xs, by rw [upd_ne e]; exact hb, hw⟩
  refine ⟨ni h.ob, h.ad, nl h.con hc, h.cl0, h.clN, ?_, ?_, nl h.reg hr, same_mut h.old hp0, h.new, h.nd1, h.nd2⟩
  · obtain ⟨a, b, x, y, h1, h2⟩ := h.dev.ob
    obtain ⟨xs, h3, h4⟩ := h.dev.out
    obtain ⟨a1, a2, a3, a4, h5⟩ := h.dev.lin
    exact ⟨⟨a, b, x, y, ni h1, h2⟩, nt h.dev.inp, ⟨xs, by rw [upd_ne (Ne.symm npo)]; exact h3, h4⟩, ⟨a1, a2, a3, a4, by rw [upd_ne (Ne.symm npl)]; exact h5⟩, h.dev.ne⟩
  · obtain ⟨ws, hm⟩ := h.mem
    obtain ⟨mx, ho⟩ := hm.ob
    obtain ⟨vs, h1, h2⟩ := nl ⟨ws, hm.wo, hm.wd⟩ hw
    exact ⟨vs, ⟨mx, ni ho⟩, h1, h2⟩
theorem nd4 {a b x y : Addr} (h : [a, b, x, y].Nodup) : a ≠ b ∧ a ≠ x ∧ a ≠ y ∧ b ≠ x ∧ b ≠ y ∧ x ≠ y := by
  simp only [List.nodup_cons, List.mem_cons, List.not_mem_nil, or_false, not_or] at h
  exact ⟨h.1.1, h.1.2.1, h.1.2.2, h.2.1.1, h.2.1.2, h.2.2.1⟩
theorem no4 {a b x y z : Addr} (h : z ∉ [a, b, x, y]) : z ≠ a ∧ z ≠ b ∧ z ≠ x ∧ z ≠ y := by
  simp only [List.mem_cons, List.not_mem_nil, or_false, not_or] at h
  exact h
/-- a register -/
theorem SX.setR (h : SX K H0 H n c sx cl ad hd dn) {rs : List V} (hr : H c.rl = some (.lst rs)) (hw : Wds 8 rs) {j : Nat} {i : Int} (hi : Wd i) : SX K H0 (upd H c.rl (.lst (rs.set j (.int i)))) n c sx cl ad hd dn := by
  obtain ⟨n1, n2, n3, n4, n5, n6⟩ := nd4 h.nd2
  obtain ⟨m1, m2, m3, m4⟩ := no4 h.clN
  exact h.lists hr (h.new _ (by simp)) (Ne.symm n3) (Ne.symm n5) (fun e => absurd e.symm m4) (fun e => absurd e (Ne.symm n6)) fun _ => hw.set hi
/-- a word of the memory -/
theorem SX.setW (h : SX K H0 H n c sx cl ad hd dn) {ws : List V} (hr : H c.wl = some (.lst ws)) (hw : Wds 960 ws) {j : Nat} {i : Int} (hi : Wd i) : SX K H0 (upd H c.wl (.lst (ws.set j (.int i)))) n c sx cl ad hd dn := by
  obtain ⟨n1, n2, n3, n4, n5, n6⟩ := nd4 h.nd2
  obtain ⟨m1, m2, m3, m4⟩ := no4 h.clN
  exact h.lists hr (h.new _ (by simp)) (Ne.symm n2) (Ne.symm n4) (fun e => absurd e.symm m3) (fun _ => hw.set hi) fun e => absurd e n6
/-- a control -/
theorem SX.setC (h : SX K H0 H n c sx cl ad hd dn) {cs : List V} (hr : H cl = some (.lst cs)) (hw : Wds 8 cs) {j : Nat} {i : Int} (hi : Wd i) : SX K H0 (upd H cl (.lst (cs.set j (.int i)))) n c sx cl ad hd dn := by
  obtain ⟨m1, m2, m3, m4⟩ := no4 h.clN
  exact h.lists hr h.cl0 m1 m2 (fun _ => hw.set hi) (fun e => absurd e m3) fun e => absurd e m4
/-- the devices did something -/
theorem SX.devs (h : SX K H0 H n c sx cl ad hd dn) (hd' : DevAt K H' n' c.d c.it c.ol c.ll) (b : But H H' c.d c.ol c.ll) : SX K H0 H' n' c sx cl ad hd dn := by
  obtain ⟨n1, n2, n3, n4, n5, n6⟩ := nd4 h.nd2
  obtain ⟨m1, m2, m3, m4⟩ := no4 h.clN
  obtain ⟨dx, tk, st, ti, hdo, _⟩ := h.dev.ob
  obtain ⟨xs, hol, _⟩ := h.dev.out
  obtain ⟨a1, a2, a3, a4, hll⟩ := h.dev.lin
  have ds := List.nodup_cons.mp h.nd1
  have ds2 := List.nodup_cons.mp ds.2
  have sne : c.s ≠ c.d := fun e => ds.1 (by rw [e]; exact List.mem_cons_self ..)
  have mne : c.m ≠ c.d := fun e => ds2.1 (by rw [← e]; exact List.mem_cons_self ..)
  have ni : ∀ {p C x : Addr} {f : List (Str × V)}, H p = some (.ins C x f) → p ≠ c.d → H' p = some (.ins C x f) := fun {p C x f} hp e => b _ _ hp e (Ne.symm (ins_ne_lst hp hol)) (Ne.symm (ins_ne_lst hp hll))
  have nl : ∀ {p : Addr} {xs : List V}, H p = some (.lst xs) → p ≠ c.ol → p ≠ c.ll → H' p = some (.lst xs) := fun {p xs} hp e1 e2 => b _ _ hp (ins_ne_lst hdo hp) e1 e2
  refine ⟨ni h.ob sne, h.ad, let ⟨x, p, q⟩ := h.con; ⟨x, nl p m1 m2, q⟩, h.cl0, h.clN, hd', ?_, let ⟨x, p, q⟩ := h.reg; ⟨x, nl p (Ne.symm n3) (Ne.symm n5), q⟩, fun p o hp => ?_, h.new, h.nd1, h.nd2⟩
  · obtain ⟨ws, hm⟩ := h.mem
    obtain ⟨mx, ho⟩ := hm.ob
    exact ⟨ws, ⟨mx, ni ho mne⟩, nl hm.wo (Ne.symm n2) (Ne.symm n4), hm.wd⟩
  · exact b _ _ (h.old _ _ hp) (ne_of_none hp (h.new _ (by simp))) (ne_of_none hp (h.new _ (by simp))) (ne_of_none hp (h.new _ (by simp)))
/-- an object that H0 knows may change in both -/
theorem SX.both (h : SX K H0 H n c sx cl ad hd dn) {p : Addr} (hp : H0 p ≠ none) {ys : List V} (hpl : H p = some (.lst ys)) {zs : List V} : SX K (upd H0 p (.lst zs)) (upd H p (.lst zs)) n c sx cl ad hd dn := by
  have ne : ∀ {b : Addr}, H0 b = none → b ≠ p := fun {b} hb e => hp (e ▸ hb)
  have q := fun b hb => ne (h.new b hb)
  have e0 : ∀ {b : Addr}, H0 b = none → upd H0 p (.lst zs) b = none := fun {b} hb => by rw [upd_ne (ne hb)]; exact hb
  have nt : ∀ {b : Addr} {xs : List V}, H b = some (.tup xs) → upd H p (.lst zs) b = some (.tup xs) := fun {b xs} hb => by rw [upd_ne (lst_ne_tup hpl hb)]; exact hb
  refine ⟨by rw [upd_ne (q _ (by simp))]; exact h.ob, h.ad, let ⟨x, a, b⟩ := h.con; ⟨x, by rw [upd_ne (ne h.cl0)]; exact a, b⟩, e0 h.cl0, h.clN, ?_, ?_, let ⟨x, a, b⟩ := h.reg; ⟨x, by rw [upd_ne (q _ (by simp))]; exact a, b⟩, fun b o' hb => ?_, fun b hb => e0 (h.new b hb), h.nd1, h.nd2⟩
  · obtain ⟨a, b, x, y, h1, h2⟩ := h.dev.ob
    obtain ⟨xs, h3, h4⟩ := h.dev.out
    obtain ⟨a1, a2, a3, a4, h5⟩ := h.dev.lin
    exact ⟨⟨a, b, x, y, by rw [upd_ne (q _ (by simp))]; exact h1, h2⟩, nt h.dev.inp, ⟨xs, by rw [upd_ne (q _ (by simp))]; exact h3, h4⟩, ⟨a1, a2, a3, a4, by rw [upd_ne (q _ (by simp))]; exact h5⟩, h.dev.ne⟩
  · obtain ⟨ws, hm⟩ := h.mem
    obtain ⟨mx, ho⟩ := hm.ob
    exact ⟨ws, ⟨mx, by rw [upd_ne (q _ (by simp))]; exact ho⟩, by rw [upd_ne (q _ (by simp))]; exact hm.wo, hm.wd⟩
  · by_cases e : b = p
    · rw [e, upd_same] at hb; rw [e, upd_same]; exact hb
    · rw [upd_ne e] at hb; rw [upd_ne e]; exact h.old _ _ hb
/-! ### rows -/
structure Rw where
  a : Int
  w : Option Int
  c : Int
  r : Option (Int × Int)
  p : Option (Int × Int)
def oV : Option Int → V
  | none => .non
  | some i => .int i
def rowV (x : Rw) : List V := [.int x.a, oV x.w, .int x.c, oV (x.r.map (·.1)), oV (x.r.map (·.2)), oV (x.p.map (·.1)), oV (x.p.map (·.2))]
structure RowOk (x : Rw) : Prop where
  a : Ad x.a
  w : ∀ i, x.w = some i → Wd i
  c : 0 ≤ x.c ∧ x.c < 32
  r : ∀ i j, x.r = some (i, j) → (0 ≤ i ∧ i < 8) ∧ Wd j
  p : ∀ i j, x.p = some (i, j) → (0 ≤ i ∧ i < 1024) ∧ Wd j
/-- a row is given back, the state stands -/
def RetRow (K : PySem.W.Frag) (H0 : Hp) (n : Nat) (c : Mc) (Q : VK) : Prop := ∀ t H' x, SAt K H0 H' n c → H' t = some (.tup (rowV x)) → RowOk x → Q (.ref t) H'
end
end K97
set_option maxHeartbeats 4000000
/-! The plain machine. -/
namespace K97
open PySem PySem.Spec PyProof.Rows L2 RZ
local macro_rules | `(tactic| walk_at "v") => `(tactic| refine ⟨_, rfl, ?_⟩)
local macro_rules | `(tactic| walk_at "ii") => `(tactic| refine ⟨_, _, rfl, rfl, ?_⟩)
/-- one step of a reading: a name, two whole numbers, a scalar comparison, a truth value -/
local macro_rules | `(tactic| walk_at "s") => `(tactic| first | refine ⟨_, rfl, ?_⟩ | refine ⟨_, _, rfl, rfl, ?_⟩ | refine ⟨rfl, ?_⟩ | exact iteT (by walk_at "s") | exact iteF (by walk_at "s"))
local macro_rules | `(tactic| walk_at "r") => `(tactic| (repeat (first | refine ⟨_, rfl, ?_⟩ | refine ⟨_, _, rfl, rfl, ?_⟩ | refine ⟨rfl, ?_⟩ | refine iteT ?_ | refine iteF ?_)))

section
variable {P : Program} {w : World} {K : PySem.W.Frag} {mg : Str → Option Value} {base : Heap}
def spTrans (K : PySem.W.Frag) : Sp := sp5 fun x y z u v H Q => ∃ m wl ws r j wy b, x = .ref m ∧ y = .int r ∧ z = .int j ∧ u = .str wy ∧ v = .bl b ∧ MemAt K H m wl ws ∧ 0 ≤ r ∧ r < 64 ∧ Ad j ∧ isWay wy ∧ RetTup (fun xs => ∃ a c l, xs = [a, c, l] ∧ Place wy a c) H Q
theorem sc_translated_by : FnScope ["memory", "root", "address", "way", "is_user", "page", "first", "word", "second", "place", "cause"] ["memory", "root", "address", "way", "is_user"] (defScope s_translated_by) := ⟨rfl, rfl, rfl, by decide +kernel, rfl, by decide +kernel, by decide +kernel⟩
theorem ok_translated_by (T : Hd K w mg)
    (c_first_place : C8.Cal P w K mg base 1 "first_place" (spFirst) [])
    (c_Memory_word : C8.Met P w K mg base 5 (He.ga K "Memory") "word" (spMemW K) [])
    (c_is_there : C8.Cal P w K mg base 1 "is_there" (spWB) [])
    (c_second_place : C8.Cal P w K mg base 2 "second_place" (spSecond) [])
    (c_by_word : C8.Cal P w K mg base 2 "by_word" (spByWord) []) : C8.Cal P w K mg base 6 "translated_by" (spTrans K) [] := by
  obtain ⟨fd, F⟩ := T.f_translated_by
  refine cal_of F T.g_translated_by sc_translated_by (fun _ _ _ _ _ _ us hl => match us, hl with | [_, _, _, _, _], _ => rfl) len5 (fun cdv A outer s H vs Q E hr h => ⟨_, (pss_cons (ps_set (i := 5) sc_translated_by.nd rfl (Or.inl rfl) (pe_op op_fdiv (pv 2) (pe_n T.n_PAGE_SIZE (by rfl)))) (pss_cons (ps_set (i := 6) sc_translated_by.nd rfl (Or.inl rfl) (C8.pe_c c_first_place hr (by decide) (by rfl) (pa_cons (pv 1) (pa_cons (pv 5) pa_nil)))) (pss_cons (ps_if (pt_cmpR op_ge (pv 6) (pe_n T.n_MEMORY_END (by rfl)) (nomark _)) (pss_one (ps_ret (pe_tup (pa_cons pe_non (pa_cons (pe_n T.n_NO_PLACE (by rfl)) (pa_cons (pe_lst pa_nil) pa_nil)))))) pss_nil) (pss_cons (ps_set (i := 7) sc_translated_by.nd rfl (Or.inl rfl) (C8.pe_mt c_Memory_word hr (by decide) (pv 0) (pa_cons (pv 6) pa_nil))) (pss_cons (ps_if (pt_not (pt_val (C8.pe_c c_is_there hr (by decide) (by rfl) (pa_cons (pv 7) pa_nil)))) (pss_one (ps_ret (pe_tup (pa_cons pe_non (pa_cons (pe_ix ix_kdict (pe_g T.g_WAY_CAUSES (by rfl)) (pv 3) (fun _ _ => rfl)) (pa_cons (pe_lst (pa_cons (pv 6) pa_nil)) pa_nil)))))) pss_nil) (pss_cons (ps_set (i := 8) sc_translated_by.nd rfl (Or.inl rfl) (C8.pe_c c_second_place hr (by decide) (by rfl) (pa_cons (pv 7) (pa_cons (pv 5) pa_nil)))) (pss_cons (ps_if (pt_cmpR op_ge (pv 8) (pe_n T.n_MEMORY_END (by rfl)) (nomark _)) (pss_one (ps_ret (pe_tup (pa_cons pe_non (pa_cons (pe_n T.n_NO_PLACE (by rfl)) (pa_cons (pe_lst (pa_cons (pv 6) pa_nil)) pa_nil)))))) pss_nil) (pss_cons (ps_asg (C8.pe_c c_by_word hr (by decide) (by rfl) (pa_cons (C8.pe_mt c_Memory_word hr (by decide) (pv 0) (pa_cons (pv 8) pa_nil)) (pa_cons (pv 2) (pa_cons (pv 3) (pa_cons (pv 4) pa_nil))))) (pg_tup rfl (pgs_cons (pg_name (i := 9) sc_translated_by.nd rfl (Or.inl rfl)) (pgs_cons (pg_name (i := 10) sc_translated_by.nd rfl (Or.inl rfl)) pgs_nil)))) (pss_one (ps_ret (pe_tup (pa_cons (pv 9) (pa_cons (pv 10) (pa_cons (pe_lst (pa_cons (pv 6) (pa_cons (pv 8) pa_nil))) pa_nil)))))))))))))), ?_⟩)
  obtain ⟨x, y, z, u, v, rfl, m, wl, ws, r, j, wy, b, rfl, rfl, rfl, rfl, rfl, hm, r0, r1, hj, hw, q⟩ := h
  obtain ⟨mx, ho⟩ := hm.ob
  have j0 := hj.1
  have j1 := hj.2
  obtain ⟨cc, hc, c0, c1⟩ := way_cause T hw
  refine ⟨_, rfl, _, _, rfl, rfl, ⟨by decide, by decide⟩, ?_⟩
  refine ⟨_, rfl, _, rfl, _, _, rfl, r, j / 16, rfl, rfl, r0, r1, by omega, by omega, fun f f0 f1 => ?_⟩
  refine ⟨_, rfl, _, _, rfl, rfl, _, rfl, iteD (fun _ => ?_) fun g1 => ?_⟩
  · exact ⟨sz0, fun l hl => ⟨sz3, fun t ht => q t _ _ (same_free (same_new hl) ht) ((same_new hl).trans (same_new ht)) upd_same ⟨_, _, _, rfl, .inr ⟨rfl, 7, rfl, by decide, by decide⟩⟩⟩⟩
  refine ⟨_, rfl, m, mx, _, rfl, ho, rfl, _, rfl, _, _, rfl, m, wl, ws, f, rfl, rfl, hm, f0, by omega, fun wd hwd => ?_⟩
  refine ⟨_, rfl, _, rfl, wd, rfl, hwd, fun th => ⟨_, rfl, iteBN (fun _ => ?_) fun _ => ?_⟩⟩
  · exact ⟨_, rfl, _, _, _, rfl, rfl, hc, _, rfl, sz1, fun l hl => ⟨sz3, fun t ht => q t _ _ (same_free (same_new hl) ht) ((same_new hl).trans (same_new ht)) upd_same ⟨_, _, _, rfl, .inr ⟨rfl, cc, rfl, c0, c1⟩⟩⟩⟩
  refine ⟨_, rfl, _, rfl, _, _, rfl, wd, j / 16, rfl, rfl, hwd, by omega, by omega, fun g g0 g1' => ?_⟩
  refine ⟨_, rfl, _, _, rfl, rfl, _, rfl, iteD (fun _ => ?_) fun g2 => ?_⟩
  · exact ⟨_, rfl, sz1, fun l hl => ⟨sz3, fun t ht => q t _ _ (same_free (same_new hl) ht) ((same_new hl).trans (same_new ht)) upd_same ⟨_, _, _, rfl, .inr ⟨rfl, 7, rfl, by decide, by decide⟩⟩⟩⟩
  refine ⟨_, rfl, m, mx, _, rfl, ho, rfl, _, rfl, _, _, rfl, m, wl, ws, g, rfl, rfl, hm, g0, by omega, fun w2 hw2 => ?_⟩
  refine ⟨_, rfl, _, rfl, _, rfl, _, _, _, _, rfl, w2, j, wy, b, rfl, rfl, rfl, rfl, hw2, j0, j1, hw, fun t H1 xs ht e1 hx hp => ?_⟩
  obtain ⟨pa, pc, rfl, hp⟩ := hp
  refine ⟨t, _, rfl, SqT.of hx, rfl, _, _, rfl, _, _, rfl, rfl, ?_⟩
  exact ⟨_, rfl, _, rfl, _, rfl, _, rfl, sz2, fun l hl => ⟨sz3, fun t ht => q t _ _ (same_free (e1.trans (same_new hl)) ht) ((e1.trans (same_new hl)).trans (same_new ht)) upd_same ⟨_, _, _, rfl, hp⟩⟩⟩
def spLook (K : PySem.W.Frag) : Sp := sp4 fun x y z u H Q => ∃ m wl ws cl cs j wy, x = .ref m ∧ y = .ref cl ∧ z = .int j ∧ u = .str wy ∧ MemAt K H m wl ws ∧ H cl = some (.lst cs) ∧ Wds 8 cs ∧ Ad j ∧ isWay wy ∧ RetTup (fun xs => ∃ a c l, xs = [a, c, l] ∧ Place wy a c) H Q
theorem sc_looked_up : FnScope ["memory", "controls", "address", "way", "root"] ["memory", "controls", "address", "way"] (defScope s_looked_up) := ⟨rfl, rfl, rfl, by decide +kernel, rfl, by decide +kernel, by decide +kernel⟩
theorem ok_looked_up (T : Hd K w mg)
    (c_has_bit : C8.Cal P w K mg base 1 "has_bit" (spHas) [])
    (c_straight_by : C8.Cal P w K mg base 1 "straight_by" (spStraight) [])
    (c_translated_by : C8.Cal P w K mg base 6 "translated_by" (spTrans K) []) : C8.Cal P w K mg base 7 "looked_up" (spLook K) [] := by
  obtain ⟨fd, F⟩ := T.f_looked_up
  refine cal_of F T.g_looked_up sc_looked_up (fun _ _ _ _ _ _ us hl => match us, hl with | [_, _, _, _], _ => rfl) len4 (fun cdv A outer s H vs Q E hr h => ⟨_, (pss_cons (ps_if (pt_not (pt_val (C8.pe_c c_has_bit hr (by decide) (by rfl) (pa_cons (pv 1) (pa_cons (pe_n T.n_BIT_PAGED (by rfl)) pa_nil))))) (pss_one (ps_ret (C8.pe_c c_straight_by hr (by decide) (by rfl) (pa_cons (pv 2) (pa_cons (pv 3) pa_nil))))) pss_nil) (pss_cons (ps_set (i := 4) sc_looked_up.nd rfl (Or.inl rfl) (pe_op op_mod (pe_ix ix_list (pv 1) (pe_n T.n_CONTROL_ROOT (by rfl)) (fun _ _ => rfl)) (pe_n T.n_MANY_FRAMES (by rfl)))) (pss_one (ps_ret (C8.pe_c c_translated_by hr (by decide) (by rfl) (pa_cons (pv 0) (pa_cons (pv 4) (pa_cons (pv 2) (pa_cons (pv 3) (pa_cons (pe_not (C8.pe_c c_has_bit hr (by decide) (by rfl) (pa_cons (pv 1) (pa_cons (pe_n T.n_BIT_SUPERVISOR (by rfl)) pa_nil)))) pa_nil)))))))))), ?_⟩)
  obtain ⟨x, y, z, u, rfl, m, wl, ws, cl, cs, j, wy, rfl, rfl, rfl, rfl, hm, hcl, hcs, hj, hw, q⟩ := h
  obtain ⟨rt, ert, hrt⟩ := hcs.at (z := 5) (by decide) (by decide)
  refine ⟨_, rfl, _, _, rfl, cl, cs, 16, rfl, rfl, hcl, hcs, by decide, by decide, fun b => ⟨_, rfl, iteBN (fun _ => ?_) fun _ => ?_⟩⟩
  · exact ⟨_, rfl, _, rfl, _, _, rfl, j, wy, rfl, rfl, hj.1, hj.2, hw, q⟩
  · exact ⟨_, rfl, cl, cs, 5, _, rfl, rfl, SqL.of hcl, ert, _, _, rfl, rfl, pos64, _, rfl, _, rfl, _, rfl, _, rfl, _, rfl, _, _, rfl, cl, cs, 1, rfl, rfl, hcl, hcs, by decide, by decide, fun b2 => ⟨b2, rfl, _, _, _, _, _, rfl, m, wl, ws, _, j, wy, _, rfl, rfl, rfl, rfl, rfl, hm, Int.emod_nonneg _ (by decide), Int.emod_lt_of_pos _ (by decide), hj, hw, q⟩⟩
def spData (K : PySem.W.Frag) : Sp := sp3 fun x y z H Q => ∃ H0 n, ∃ c : Mc, ∃ j wy, x = .ref c.s ∧ y = .int j ∧ z = .str wy ∧ SAt K H0 H n c ∧ Ad j ∧ isWay wy ∧ RetTup (fun xs => ∃ a b, xs = [a, b] ∧ Place wy a b) H Q
theorem sc_data_place : FnScope ["state", "address", "way", "place", "cause", "leans"] ["state", "address", "way"] (defScope s_data_place) := ⟨rfl, rfl, rfl, by decide +kernel, rfl, by decide +kernel, by decide +kernel⟩
theorem ok_data_place (T : Hd K w mg)
    (c_looked_up : C8.Cal P w K mg base 7 "looked_up" (spLook K) [])
    (c_Devices_can : C8.Met P w K mg base 4 (He.ga K "Devices") "can" (spDevM K) []) : C8.Cal P w K mg base 8 "data_place" (spData K) [] := by
  obtain ⟨fd, F⟩ := T.f_data_place
  refine cal_of F T.g_data_place sc_data_place (fun _ _ _ _ _ _ us hl => match us, hl with | [_, _, _], _ => rfl) len3 (fun cdv A outer s H vs Q E hr h => ⟨_, (pss_cons (ps_asg (C8.pe_c c_looked_up hr (by decide) (by rfl) (pa_cons (pe_fld (pv 0) rfl) (pa_cons (pe_fld (pv 0) rfl) (pa_cons (pv 1) (pa_cons (pv 2) pa_nil))))) (pg_tup rfl (pgs_cons (pg_name (i := 3) sc_data_place.nd rfl (Or.inl rfl)) (pgs_cons (pg_name (i := 4) sc_data_place.nd rfl (Or.inl rfl)) (pgs_cons (pg_name (i := 5) sc_data_place.nd rfl (Or.inl rfl)) pgs_nil))))) (pss_cons (ps_if (PW.pt (pw_and (pt_cmpR op_eq (pv 4) pe_int (nomark _)) (pw_and (pt_cmpR op_ge (pv 3) (pe_n T.n_MEMORY_END (by rfl)) (nomark _)) (pw_and1 (pt_not (pt_val (C8.pe_mt c_Devices_can hr (by decide) (pe_fld (pv 0) rfl) (pa_cons (pv 3) pa_nil)))))))) (pss_one (ps_ret (pe_tup (pa_cons pe_non (pa_cons (pe_n T.n_CAUSE_NO_PLACE (by rfl)) pa_nil))))) pss_nil) (pss_one (ps_ret (pe_tup (pa_cons (pv 3) (pa_cons (pv 4) pa_nil))))))), ?_⟩)
  obtain ⟨x, y, z, rfl, H0, n, c, j, wy, rfl, rfl, rfl, ⟨sx, cl, ad, hd, dn, S⟩, hj, hw, q⟩ := h
  obtain ⟨ws, hm⟩ := S.mem
  obtain ⟨cs, hcl, hcs⟩ := S.con
  obtain ⟨dx, tk, st, ti, hdo, _⟩ := S.dev.ob
  refine ⟨_, rfl, c.s, _, sx, _, _, rfl, S.ob, T.c_State, T.a_State_own_memory, rfl, _, rfl, c.s, _, sx, _, _, rfl, S.ob, T.c_State, T.a_State_own_controls, rfl, _, rfl, _, rfl, _, _, _, _, rfl, c.m, c.wl, ws, cl, cs, j, wy, rfl, rfl, rfl, rfl, hm, hcl, hcs, hj, hw, fun t H1 xs ht e1 hx hp => ?_⟩
  obtain ⟨pa, pc, pl, rfl, hp⟩ := hp
  refine ⟨t, _, rfl, SqT.of hx, rfl, _, _, rfl, _, _, rfl, _, _, rfl, rfl, ?_⟩
  rcases hp with ⟨i, rfl, rfl, i0, i1, i2⟩ | ⟨rfl, cc, rfl, c0, c1⟩
  · refine ⟨_, rfl, rfl, _, rfl, iteT ⟨_, rfl, _, _, rfl, rfl, _, rfl, iteD (fun _ => ?_) fun _ => ?_⟩⟩
    · have S1 := S.up e1
      refine ⟨_, rfl, c.s, _, sx, _, _, rfl, S1.ob, T.c_State, T.a_State_own_devices, rfl, c.d, dx, _, rfl, e1 _ _ hdo, rfl, _, rfl, _, _, rfl, n, c.d, c.it, c.ol, c.ll, rfl, S1.dev, Seen.int, fun H2 e2 => ⟨_, rfl, iteBN (fun _ => ?_) fun _ => ?_⟩⟩
      · exact ⟨sz2, fun t2 ht2 => q t2 _ _ (same_free (e1.trans e2) ht2) ((e1.trans e2).trans (same_new ht2)) upd_same ⟨_, _, rfl, .inr ⟨rfl, 7, rfl, by decide, by decide⟩⟩⟩
      · exact ⟨_, rfl, _, rfl, sz2, fun t2 ht2 => q t2 _ _ (same_free (e1.trans e2) ht2) ((e1.trans e2).trans (same_new ht2)) upd_same ⟨_, _, rfl, .inl ⟨i, rfl, rfl, i0, i1, i2⟩⟩⟩
    · exact ⟨_, rfl, _, rfl, sz2, fun t2 ht2 => q t2 _ _ (same_free e1 ht2) (e1.trans (same_new ht2)) upd_same ⟨_, _, rfl, .inl ⟨i, rfl, rfl, i0, i1, i2⟩⟩⟩
  · refine ⟨_, rfl, rfl, _, rfl, iteD (fun e => absurd (V.int.inj e) (by omega)) fun _ => ?_⟩
    exact ⟨_, rfl, _, rfl, sz2, fun t2 ht2 => q t2 _ _ (same_free e1 ht2) (e1.trans (same_new ht2)) upd_same ⟨_, _, rfl, .inr ⟨rfl, cc, rfl, c0, c1⟩⟩⟩
def spTrapRow : Sp := sp3 fun x y z H Q => ∀ t, H t = none → Q (.ref t) (upd H t (.tup [x, y, z, .non, .non, .non, .non]))
theorem sc_trap_row : FnScope ["address", "word", "cause"] ["address", "word", "cause"] (defScope s_trap_row) := ⟨rfl, rfl, rfl, by decide +kernel, rfl, by decide +kernel, by decide +kernel⟩
theorem ok_trap_row (T : Hd K w mg) : C8.Cal P w K mg base 1 "trap_row" (spTrapRow) [] := by
  obtain ⟨fd, F⟩ := T.f_trap_row
  refine cal_of F T.g_trap_row sc_trap_row (fun _ _ _ _ _ _ us hl => match us, hl with | [_, _, _], _ => rfl) len3 (fun cdv A outer s H vs Q E hr h => ⟨_, (pss_one (ps_ret (pe_tup (pa_cons (pv 0) (pa_cons (pv 1) (pa_cons (pv 2) (pa_cons pe_non (pa_cons pe_non (pa_cons pe_non (pa_cons pe_non pa_nil)))))))))), ?_⟩)
  obtain ⟨x, y, z, rfl, q⟩ := h
  exact ⟨_, rfl, _, rfl, _, rfl, sz7, fun t ht => q t ht⟩
def spTrap (K : PySem.W.Frag) : Sp := sp4 fun x y z u H Q => ∃ H0 n, ∃ c : Mc, ∃ i j k, x = .ref c.s ∧ y = .int i ∧ z = .int j ∧ u = .int k ∧ SAt K H0 H n c ∧ Wd i ∧ Wd j ∧ Wd k ∧ ∀ H', SAt K H0 H' n c → Q .non H'
theorem sc_trap_on : FnScope ["state", "cause", "home", "bad"] ["state", "cause", "home", "bad"] (defScope s_trap_on) := ⟨rfl, rfl, rfl, by decide +kernel, rfl, by decide +kernel, by decide +kernel⟩
theorem ok_trap_on (T : Hd K w mg)
    (c_controls_trapped : C8.Cal P w K mg base 2 "controls_trapped" (spTrapped) []) : C8.Cal P w K mg base 3 "trap_on" (spTrap K) [] := by
  obtain ⟨fd, F⟩ := T.f_trap_on
  refine cal_of F T.g_trap_on sc_trap_on (fun _ _ _ _ _ _ us hl => match us, hl with | [_, _, _, _], _ => rfl) len4 (fun cdv A outer s H vs Q E hr h => ⟨_, (pss_cons (ps_fld (pv 0) (C8.pe_c c_controls_trapped hr (by decide) (by rfl) (pa_cons (pe_fld (pv 0) rfl) (pa_cons (pv 1) (pa_cons (pv 2) (pa_cons (pv 3) pa_nil))))) rfl) (pss_one (ps_fld (pv 0) (pe_op op_mod (pe_ix ix_list (pe_fld (pv 0) rfl) (pe_n T.n_CONTROL_ENTRY (by rfl)) (fun _ _ => rfl)) (pe_n T.n_MOST_ADDRESS (by rfl))) rfl))), ?_⟩)
  obtain ⟨x, y, z, u, rfl, H0, n, c, i, j, k, rfl, rfl, rfl, rfl, ⟨sx, cl, ad, hd, dn, S⟩, hi, hj, hk, q⟩ := h
  obtain ⟨cs, hcl, hcs⟩ := S.con
  refine ⟨_, rfl, c.s, _, sx, _, _, rfl, S.ob, T.c_State, T.a_State_own_controls, rfl, _, rfl, _, rfl, _, rfl, _, _, _, _, rfl, cl, cs, i, j, k, rfl, rfl, rfl, rfl, hcl, hcs, hi, hj, hk, fun p H1 xs hp e1 hx hw => ?_⟩
  have S1 := S.newC (hd' := hd) (dn' := dn) e1 hp hx hw S.ad
  refine ⟨_, rfl, c.s, _, sx, _, rfl, e1 _ _ S.ob, T.c_State, T.a_State_own_controls, (show 7 < 1000 by decide), ?_⟩
  have hx1 : upd H1 c.s (.ins (He.ga K "State") sx (fS c p ad hd dn)) p = some (.lst xs) := by rw [upd_ne (ins_ne_lst (e1 _ _ S.ob) hx)]; exact hx
  obtain ⟨en, een, _⟩ := hw.at (z := 4) (by decide) (by decide)
  exact ⟨_, rfl, c.s, _, sx, _, _, rfl, S1.ob, T.c_State, T.a_State_own_controls, rfl, p, xs, 4, _, rfl, rfl, SqL.of hx1, een, _, _, rfl, rfl, pos4, _, rfl, c.s, _, sx, _, rfl, S1.ob, T.c_State, T.a_State_own_address, (show 7 < 1000 by decide), q _ ⟨_, _, _, _, _, S1.put (ad_mod _)⟩⟩
end
end K97
set_option maxHeartbeats 4000000
/-! The rows of the plain machine. -/
namespace K97
open PySem PySem.Spec PyProof.Rows L2 RZ
local macro_rules | `(tactic| walk_at "v") => `(tactic| refine ⟨_, rfl, ?_⟩)
local macro_rules | `(tactic| walk_at "ii") => `(tactic| refine ⟨_, _, rfl, rfl, ?_⟩)
/-- one step of a reading: a name, two whole numbers, a scalar comparison, a truth value -/
local macro_rules | `(tactic| walk_at "s") => `(tactic| first | refine ⟨_, rfl, ?_⟩ | refine ⟨_, _, rfl, rfl, ?_⟩ | refine ⟨rfl, ?_⟩ | exact iteT (by walk_at "s") | exact iteF (by walk_at "s"))
local macro_rules | `(tactic| walk_at "r") => `(tactic| (repeat (first | refine ⟨_, rfl, ?_⟩ | refine ⟨_, _, rfl, rfl, ?_⟩ | refine ⟨rfl, ?_⟩ | refine iteT ?_ | refine iteF ?_)))

section
variable {P : Program} {w : World} {K : PySem.W.Frag} {mg : Str → Option Value} {base : Heap}
/-- what lone_on gives -/
structure Lone (cs : Int) (o : Option (Int × Int)) : Prop where
  c : 0 ≤ cs ∧ cs < 32
  r : ∀ i j, o = some (i, j) → (0 ≤ i ∧ i < 8) ∧ Wd j
def loneK (k : Nat) : Bool := decide (20 ≤ k ∧ k ≤ 24)
def spLone (K : PySem.W.Frag) : Sp := sp4 fun x y z u H Q => ∃ H0 n, ∃ c : Mc, ∃ a p k rs m i, x = .ref c.s ∧ y = .int a ∧ z = .ref p ∧ u = .int i ∧ SAt K H0 H n c ∧ Ad a ∧ H p = some (.tup (insV k rs m)) ∧ Ins k rs m ∧ loneK k = true ∧ Wd i ∧
  ∀ t H' cs o, SAt K H0 H' n c → H' t = some (.tup [.int cs, oV (o.map (·.1)), oV (o.map (·.2))]) → Lone cs o → Q (.ref t) H'
theorem lone_con : ∀ k, k < 26 → (V.str (nmk k) = V.str "rdc" ∨ V.str (nmk k) = V.str "wrc") → fo k = 5 := by decide +kernel
theorem Ins.con {k : Nat} {rs : List Int} {n : Int} (h : Ins k rs n) (hf : fo k = 5) : 0 ≤ n ∧ n < 8 := by
  have := h.ok
  rw [hf] at this
  have h2 : (decide ((0 : Int) ≤ n) && decide (n ≤ 7)) = true := this
  rw [Bool.and_eq_true, decide_eq_true_eq, decide_eq_true_eq] at h2
  omega
theorem wd0 : Wd 0 := ⟨by decide, by decide⟩
theorem lone_none {c : Int} (h0 : 0 ≤ c) (h1 : c < 32) : Lone c none := ⟨⟨h0, h1⟩, fun i j e => by cases e⟩
theorem sc_lone_on : FnScope ["state", "address", "instruction", "word", "name", "behind"] ["state", "address", "instruction", "word"] (defScope s_lone_on) := ⟨rfl, rfl, rfl, by decide +kernel, rfl, by decide +kernel, by decide +kernel⟩
theorem ok_lone_on (T : Hd K w mg)
    (c_next_address : C8.Cal P w K mg base 1 "next_address" (spNext) [])
    (c_trap_on : C8.Cal P w K mg base 3 "trap_on" (spTrap K) [])
    (c_has_bit : C8.Cal P w K mg base 1 "has_bit" (spHas) [])
    (c_controls_returned : C8.Cal P w K mg base 2 "controls_returned" (spReturned) []) : C8.Cal P w K mg base 4 "lone_on" (spLone K) [] := by
  obtain ⟨fd, F⟩ := T.f_lone_on
  refine cal_of F T.g_lone_on sc_lone_on (fun _ _ _ _ _ _ us hl => match us, hl with | [_, _, _, _], _ => rfl) len4 (fun cdv A outer s H vs Q E hr h => ⟨_, (pss_cons (ps_par (i := 4) (j := 5) rfl sc_lone_on.nd rfl rfl (by decide) rfl rfl (pa_cons (pe_ix ix_tup (pv 2) pe_int (fun _ _ => rfl)) (pa_cons (C8.pe_c c_next_address hr (by decide) (by rfl) (pa_cons (pv 1) pa_nil)) pa_nil)) (by rfl)) (pss_cons (ps_if (pt_cmpR op_eq (pv 4) pe_str (nomark _)) (pss_cons (ps_expr (C8.pe_c c_trap_on hr (by decide) (by rfl) (pa_cons (pv 0) (pa_cons (pe_n T.n_CAUSE_SYSTEM (by rfl)) (pa_cons (pv 5) (pa_cons pe_int pa_nil)))))) (pss_one (ps_ret (pe_tup (pa_cons (pe_n T.n_CAUSE_SYSTEM (by rfl)) (pa_cons pe_non (pa_cons pe_non pa_nil))))))) pss_nil) (pss_cons (ps_if (pt_not (pt_val (C8.pe_c c_has_bit hr (by decide) (by rfl) (pa_cons (pe_fld (pv 0) rfl) (pa_cons (pe_n T.n_BIT_SUPERVISOR (by rfl)) pa_nil))))) (pss_cons (ps_expr (C8.pe_c c_trap_on hr (by decide) (by rfl) (pa_cons (pv 0) (pa_cons (pe_n T.n_CAUSE_NOT_LET (by rfl)) (pa_cons (pv 1) (pa_cons pe_int pa_nil)))))) (pss_one (ps_ret (pe_tup (pa_cons (pe_n T.n_CAUSE_NOT_LET (by rfl)) (pa_cons pe_non (pa_cons pe_non pa_nil))))))) pss_nil) (pss_cons (ps_fld (pv 0) (pv 5) rfl) (pss_cons (ps_if (pt_cmpR op_eq (pv 4) pe_str (nomark _)) (pss_one (ps_ret (pe_tup (pa_cons pe_int (pa_cons (pe_ix ix_tup (pv 2) pe_int (fun _ _ => rfl)) (pa_cons (pe_ix ix_list (pe_fld (pv 0) rfl) (pe_ix ix_tup (pv 2) pe_int (fun _ _ => rfl)) (fun _ _ => rfl)) pa_nil)))))) pss_nil) (pss_cons (ps_if (pt_cmpR op_eq (pv 4) pe_str (nomark _)) (pss_cons (ps_fld (pv 0) (pe_callTy call_list_of (by rfl) T.b_list (by decide +kernel) (pa_cons (pe_fld (pv 0) rfl) pa_nil)) rfl) (pss_one (ps_asg (pv 3) (pg_sub (pe_fld (pv 0) rfl) (pe_ix ix_tup (pv 2) pe_int (fun _ _ => rfl)) set_list)))) (pss_one (ps_if (pt_cmpR op_eq (pv 4) pe_str (nomark _)) (pss_cons (ps_fld (pv 0) (C8.pe_c c_controls_returned hr (by decide) (by rfl) (pa_cons (pe_fld (pv 0) rfl) pa_nil)) rfl) (pss_one (ps_fld (pv 0) (pe_op op_mod (pe_ix ix_list (pe_fld (pv 0) rfl) (pe_n T.n_CONTROL_HOME (by rfl)) (fun _ _ => rfl)) (pe_n T.n_MOST_ADDRESS (by rfl))) rfl))) (pss_one (ps_fld (pv 0) pe_bl rfl))))) (pss_one (ps_ret (pe_tup (pa_cons pe_int (pa_cons pe_non (pa_cons pe_non pa_nil)))))))))))), ?_⟩)
  obtain ⟨x, y, z, u, rfl, H0, n, c, a, p, k, rs, m, i, rfl, rfl, rfl, rfl, ⟨sx, cl, ad, hd, dn, S⟩, ha, hp, I, hk, hi, q⟩ := h
  have R := I.toRaw
  have h0 : atI (insV k rs m) 0 = some (.str (nmk k)) := at_of (j := 0) rfl rfl
  have none_ : ∀ {H1 : Hp} {cs : Int} {t : Addr}, SAt K H0 H1 n c → 0 ≤ cs → cs < 32 → H1 t = none → Q (.ref t) (upd H1 t (.tup [.int cs, .non, .non])) := fun {H1 cs t} s1 g0 g1 ht => q t _ cs none (s1.up (same_new ht)) upd_same (lone_none g0 g1)
  refine ⟨_, rfl, p, _, 0, _, rfl, rfl, SqT.of hp, h0, _, rfl, _, rfl, a, rfl, fun b hb => ⟨_, _, rfl, ?_⟩⟩
  refine ⟨_, rfl, rfl, _, rfl, iteD (fun _ => ?_) fun n1 => ?_⟩
  · exact ⟨_, rfl, _, rfl, _, _, _, _, rfl, H0, n, c, 8, b, 0, rfl, rfl, rfl, rfl, ⟨_, _, _, _, _, S⟩, ⟨by decide, by decide⟩, hb.wd, wd0, fun H1 s1 => ⟨sz3, fun t ht => none_ s1 (by decide) (by decide) ht⟩⟩
  obtain ⟨cs, hcl, hcs⟩ := S.con
  refine ⟨_, rfl, c.s, _, sx, _, _, rfl, S.ob, T.c_State, T.a_State_own_controls, rfl, _, _, rfl, cl, cs, 1, rfl, rfl, hcl, hcs, by decide, by decide, fun bt => ⟨_, rfl, iteBN (fun _ => ?_) fun _ => ?_⟩⟩
  · exact ⟨_, rfl, _, rfl, _, _, _, _, rfl, H0, n, c, 2, a, 0, rfl, rfl, rfl, rfl, ⟨_, _, _, _, _, S⟩, ⟨by decide, by decide⟩, ha.wd, wd0, fun H1 s1 => ⟨sz3, fun t ht => none_ s1 (by decide) (by decide) ht⟩⟩
  have S1 := S.put (hd' := hd) (dn' := dn) hb
  have hcl1 : upd H c.s (.ins (He.ga K "State") sx (fS c cl b hd dn)) cl = some (.lst cs) := by rw [upd_ne (ins_ne_lst S.ob hcl)]; exact hcl
  have hp1 : upd H c.s (.ins (He.ga K "State") sx (fS c cl b hd dn)) p = some (.tup (insV k rs m)) := by rw [upd_ne (ins_ne_tup S.ob hp)]; exact hp
  refine ⟨_, rfl, _, rfl, c.s, _, sx, _, rfl, S.ob, T.c_State, T.a_State_own_address, (show 7 < 1000 by decide), ?_⟩
  refine ⟨_, rfl, rfl, _, rfl, iteD (fun e => ?_) fun n2 => ⟨_, rfl, rfl, _, rfl, iteD (fun e => ?_) fun n3 => ⟨_, rfl, rfl, _, rfl, iteD (fun e => ?_) fun n4 => ?_⟩⟩⟩
  · have f5 := lone_con k R.kl (.inl e)
    obtain ⟨n0, n1⟩ := I.con f5
    obtain ⟨r, er, hr⟩ := insV_reg (j := 0) m R (by rw [f5]; decide)
    have hn := insV_num m R (by rw [f5]; decide)
    rw [f5] at hn
    obtain ⟨v, ev, hv⟩ := hcs.at (z := m) n0 n1
    refine ⟨_, rfl, p, _, 1, _, rfl, rfl, SqT.of hp1, er, _, rfl, c.s, _, sx, _, _, rfl, S1.ob, T.c_State, T.a_State_own_controls, rfl, _, rfl, p, _, 2, _, rfl, rfl, SqT.of hp1, hn, cl, cs, m, _, rfl, rfl, SqL.of hcl1, ev, sz3, fun t ht => ?_⟩
    exact q t _ 0 (some (r, v)) (SAt.up ⟨_, _, _, _, _, S1⟩ (same_new ht)) upd_same ⟨⟨by decide, by decide⟩, fun i j e => by cases e; exact ⟨hr, hv⟩⟩
  · have f5 := lone_con k R.kl (.inr e)
    obtain ⟨n0, n1⟩ := I.con f5
    have hn := insV_num m R (by rw [f5]; decide)
    rw [f5] at hn
    refine ⟨_, rfl, c.s, _, sx, _, _, rfl, S1.ob, T.c_State, T.a_State_own_controls, rfl, cl, cs, rfl, .inl (SqL.of hcl1), fun l hl => ?_⟩
    have e2 := same_new (o := .lst cs) hl
    have S2 := S1.newC (hd' := hd) (dn' := dn) e2 hl upd_same hcs hb
    refine ⟨_, rfl, c.s, _, sx, _, rfl, e2 _ _ S1.ob, T.c_State, T.a_State_own_controls, (show 7 < 1000 by decide), ?_⟩
    have ll := ins_ne_lst (e2 _ _ S1.ob) (upd_same (H := upd H c.s (.ins (He.ga K "State") sx (fS c cl b hd dn))) (a := l) (o := .lst cs))
    have hp2 : upd (upd (upd H c.s (.ins (He.ga K "State") sx (fS c cl b hd dn))) l (.lst cs)) c.s (.ins (He.ga K "State") sx (fS c l b hd dn)) p = some (.tup (insV k rs m)) := by
      rw [upd_ne (ins_ne_tup (e2 _ _ S1.ob) (e2 _ _ hp1))]; exact e2 _ _ hp1
    have hl2 : upd (upd (upd H c.s (.ins (He.ga K "State") sx (fS c cl b hd dn))) l (.lst cs)) c.s (.ins (He.ga K "State") sx (fS c l b hd dn)) l = some (.lst cs) := by
      rw [upd_ne ll]; exact upd_same
    exact ⟨_, rfl, _, rfl, c.s, _, sx, _, _, rfl, S2.ob, T.c_State, T.a_State_own_controls, rfl, _, rfl, p, _, 2, _, rfl, rfl, SqT.of hp2, hn, l, cs, m, _, rfl, rfl, hl2, hcs.ix n0 n1, sz3, fun t ht => none_ ⟨_, _, _, _, _, S2.setC hl2 hcs hi⟩ (by decide) (by decide) ht⟩
  · refine ⟨_, rfl, c.s, _, sx, _, _, rfl, S1.ob, T.c_State, T.a_State_own_controls, rfl, _, rfl, cl, cs, rfl, hcl1, hcs, fun l H2 xs hl e2 hx hw => ?_⟩
    have S2 := S1.newC (hd' := hd) (dn' := dn) e2 hl hx hw hb
    have hl2 : upd H2 c.s (.ins (He.ga K "State") sx (fS c l b hd dn)) l = some (.lst xs) := by
      rw [upd_ne (ins_ne_lst (e2 _ _ S1.ob) hx)]; exact hx
    obtain ⟨v, ev, hv⟩ := hw.at (z := 2) (by decide) (by decide)
    exact ⟨_, rfl, c.s, _, sx, _, rfl, e2 _ _ S1.ob, T.c_State, T.a_State_own_controls, (show 7 < 1000 by decide), _, rfl, c.s, _, sx, _, _, rfl, S2.ob, T.c_State, T.a_State_own_controls, rfl, l, xs, 2, _, rfl, rfl, SqL.of hl2, ev, _, _, rfl, rfl, pos4, _, rfl, c.s, _, sx, _, rfl, S2.ob, T.c_State, T.a_State_own_address, (show 7 < 1000 by decide), sz3, fun t ht => none_ ⟨_, _, _, _, _, S2.put (ad_mod _)⟩ (by decide) (by decide) ht⟩
  · exact ⟨_, rfl, c.s, _, sx, _, rfl, S1.ob, T.c_State, T.a_State_own_halted, (show 7 < 1000 by decide), sz3, fun t ht => none_ ⟨_, _, _, _, _, S1.put hb⟩ (by decide) (by decide) ht⟩
theorem ok_none {a cs : Int} {ow : Option Int} (ha : Ad a) (hw : ∀ i, ow = some i → Wd i) (hc : 0 ≤ cs ∧ cs < 32) : RowOk ⟨a, ow, cs, none, none⟩ := ⟨ha, hw, hc, fun i j e => (nomatch e), fun i j e => (nomatch e)⟩
theorem ok_reg {a cs r v : Int} {ow : Option Int} (ha : Ad a) (hw : ∀ i, ow = some i → Wd i) (hc : 0 ≤ cs ∧ cs < 32) (hr : 0 ≤ r ∧ r < 8) (hv : Wd v) : RowOk ⟨a, ow, cs, some (r, v), none⟩ := ⟨ha, hw, hc, (fun i j e => by cases e; exact ⟨hr, hv⟩), fun i j e => (nomatch e)⟩
theorem ok_sto {a cs p v : Int} {ow : Option Int} (ha : Ad a) (hw : ∀ i, ow = some i → Wd i) (hc : 0 ≤ cs ∧ cs < 32) (hr : 0 ≤ p ∧ p < 1024) (hv : Wd v) : RowOk ⟨a, ow, cs, none, some (p, v)⟩ := ⟨ha, hw, hc, fun i j e => (nomatch e), fun i j e => by cases e; exact ⟨hr, hv⟩⟩
theorem c00 : (0 : Int) ≤ 0 ∧ (0 : Int) < 32 := by decide
theorem none_w : ∀ i, (none : Option Int) = some i → Wd i := fun i e => nomatch e
theorem one_w {i : Int} (h : Wd i) : ∀ j, some i = some j → Wd j := fun j e => by cases e; exact h
def spInter (K : PySem.W.Frag) : Sp := sp1 fun x H Q => ∃ H0 n, ∃ c : Mc, x = .ref c.s ∧ SAt K H0 H n c ∧ Q .non H ∧ RetRow K H0 n c Q
theorem sc_interrupt_row : FnScope ["state", "line", "address"] ["state"] (defScope s_interrupt_row) := ⟨rfl, rfl, rfl, by decide +kernel, rfl, by decide +kernel, by decide +kernel⟩
theorem ok_interrupt_row (T : Hd K w mg)
    (c_has_bit : C8.Cal P w K mg base 1 "has_bit" (spHas) [])
    (c_Devices_due : C8.Met P w K mg base 5 (He.ga K "Devices") "due" (spDue K) [])
    (c_Devices_lowered : C8.Met P w K mg base 4 (He.ga K "Devices") "lowered" (spLowered K) [])
    (c_trap_on : C8.Cal P w K mg base 3 "trap_on" (spTrap K) [])
    (c_trap_row : C8.Cal P w K mg base 1 "trap_row" (spTrapRow) []) : C8.Cal P w K mg base 6 "interrupt_row" (spInter K) [] := by
  obtain ⟨fd, F⟩ := T.f_interrupt_row
  refine cal_of F T.g_interrupt_row sc_interrupt_row (fun _ _ _ _ _ _ us hl => match us, hl with | [_], _ => rfl) len1 (fun cdv A outer s H vs Q E hr h => ⟨_, (pss_cons (ps_if (pt_not (pt_val (C8.pe_c c_has_bit hr (by decide) (by rfl) (pa_cons (pe_fld (pv 0) rfl) (pa_cons (pe_n T.n_BIT_ON (by rfl)) pa_nil))))) (pss_one (ps_ret pe_non)) pss_nil) (pss_cons (ps_set (i := 1) sc_interrupt_row.nd rfl (Or.inl rfl) (C8.pe_mt c_Devices_due hr (by decide) (pe_fld (pv 0) rfl) (pa_cons (pe_ix ix_list (pe_fld (pv 0) rfl) (pe_n T.n_CONTROL_MASK (by rfl)) (fun _ _ => rfl)) pa_nil))) (pss_cons (ps_if (pt_cmpR op_isN (pv 1) pe_non (nomark _)) (pss_one (ps_ret pe_non)) pss_nil) (pss_cons (ps_expr (C8.pe_mt c_Devices_lowered hr (by decide) (pe_fld (pv 0) rfl) (pa_cons (pv 1) pa_nil))) (pss_cons (ps_set (i := 2) sc_interrupt_row.nd rfl (Or.inl rfl) (pe_fld (pv 0) rfl)) (pss_cons (ps_expr (C8.pe_c c_trap_on hr (by decide) (by rfl) (pa_cons (pv 0) (pa_cons (pe_op op_add (pe_n T.n_CAUSE_LINE (by rfl)) (pv 1)) (pa_cons (pv 2) (pa_cons pe_int pa_nil)))))) (pss_one (ps_ret (C8.pe_c c_trap_row hr (by decide) (by rfl) (pa_cons (pv 2) (pa_cons pe_non (pa_cons (pe_op op_add (pe_n T.n_CAUSE_LINE (by rfl)) (pv 1)) pa_nil)))))))))))), ?_⟩)
  obtain ⟨x, rfl, H0, n, c, rfl, ⟨sx, cl, ad, hd, dn, S⟩, q0, q1⟩ := h
  obtain ⟨cs, hcl, hcs⟩ := S.con
  obtain ⟨dx, tk, st, ti, hdo, _⟩ := S.dev.ob
  obtain ⟨mk, emk, hmk⟩ := hcs.at (z := 6) (by decide) (by decide)
  refine ⟨_, rfl, c.s, _, sx, _, _, rfl, S.ob, T.c_State, T.a_State_own_controls, rfl, _, _, rfl, cl, cs, 2, rfl, rfl, hcl, hcs, by decide, by decide, fun bt => ⟨_, rfl, iteBN (fun _ => q0) fun _ => ?_⟩⟩
  refine ⟨_, rfl, c.s, _, sx, _, _, rfl, S.ob, T.c_State, T.a_State_own_devices, rfl, c.d, dx, _, rfl, hdo, rfl, _, rfl, c.s, _, sx, _, _, rfl, S.ob, T.c_State, T.a_State_own_controls, rfl, cl, cs, 6, _, rfl, rfl, SqL.of hcl, emk, _, _, rfl, n, c.d, c.it, c.ol, c.ll, mk, rfl, rfl, S.dev, hmk, ?_, fun j xs j0 j1 hxs hat => ?_⟩
  · exact ⟨_, rfl, rfl, _, rfl, iteD (fun _ => q0) fun e => absurd rfl e⟩
  refine ⟨_, rfl, rfl, _, rfl, iteD (fun e => nomatch e) fun _ => ?_⟩
  refine ⟨_, rfl, c.s, _, sx, _, _, rfl, S.ob, T.c_State, T.a_State_own_devices, rfl, c.d, dx, _, rfl, hdo, rfl, _, rfl, _, _, rfl, n, c.d, c.it, c.ol, c.ll, j, xs, rfl, rfl, S.dev, j0, j1, hxs, hat, fun H1 d1 b1 => ?_⟩
  have S1 := S.devs d1 b1
  refine ⟨_, rfl, c.s, _, sx, _, _, rfl, S1.ob, T.c_State, T.a_State_own_address, rfl, _, rfl, _, rfl, _, _, rfl, rfl, _, rfl, _, _, _, _, rfl, H0, n, c, _, _, 0, rfl, rfl, rfl, rfl, ⟨_, _, _, _, _, S1⟩, ⟨by omega, by omega⟩, S1.ad.wd, wd0, fun H2 s2 => ?_⟩
  refine ⟨_, rfl, _, rfl, _, _, rfl, rfl, _, _, _, rfl, fun t ht => ?_⟩
  exact q1 t _ ⟨ad, none, 16 + j, none, none⟩ (s2.up (same_new ht)) upd_same (ok_none S1.ad none_w ⟨by omega, by omega⟩)
/-- a def (state, word, instruction) that gives a row -/
def spRow (K : PySem.W.Frag) (pk : Nat → Bool) : Sp := sp3 fun x y z H Q => ∃ H0 n, ∃ c : Mc, ∃ i p k rs m, x = .ref c.s ∧ y = .int i ∧ z = .ref p ∧ SAt K H0 H n c ∧ n ≤ 900 ∧ Wd i ∧ H p = some (.tup (insV k rs m)) ∧ Ins k rs m ∧ pk k = true ∧ RetRow K H0 (n + 1) c Q
theorem row_trap {H0 H : Hp} {n : Nat} {c : Mc} {Q : VK} (q : RetRow K H0 (n + 1) c Q) (s : SAt K H0 H n c) {a cs : Int} {ow : Option Int} (ha : Ad a) (hw : ∀ i, ow = some i → Wd i) (hc : 0 ≤ cs ∧ cs < 32) {t : Addr} (ht : H t = none) :
    Q (.ref t) (upd H t (.tup [.int a, oV ow, .int cs, .non, .non, .non, .non])) :=
  q t _ ⟨a, ow, cs, none, none⟩ ((s.mono (Nat.le_succ _)).up (same_new ht)) upd_same (ok_none ha hw hc)
theorem sc_load_row : FnScope ["state", "word", "instruction", "address", "reached", "value", "place", "cause"] ["state", "word", "instruction"] (defScope s_load_row) := ⟨rfl, rfl, rfl, by decide +kernel, rfl, by decide +kernel, by decide +kernel⟩
theorem ok_load_row (T : Hd K w mg)
    (c_reached_address : C8.Cal P w K mg base 1 "reached_address" (spReached) [])
    (c_data_place : C8.Cal P w K mg base 8 "data_place" (spData K) [])
    (c_trap_on : C8.Cal P w K mg base 3 "trap_on" (spTrap K) [])
    (c_trap_row : C8.Cal P w K mg base 1 "trap_row" (spTrapRow) [])
    (c_Devices_device_read : C8.Met P w K mg base 1 (He.ga K "Devices") "device_read" (spDevR K) [])
    (c_next_address : C8.Cal P w K mg base 1 "next_address" (spNext) []) : C8.Cal P w K mg base 9 "load_row" (spRow K (fun k => decide (k = 12))) [] := by
  obtain ⟨fd, F⟩ := T.f_load_row
  refine cal_of F T.g_load_row sc_load_row (fun _ _ _ _ _ _ us hl => match us, hl with | [_, _, _], _ => rfl) len3 (fun cdv A outer s H vs Q E hr h => ⟨_, (pss_cons (ps_set (i := 3) sc_load_row.nd rfl (Or.inl rfl) (pe_fld (pv 0) rfl)) (pss_cons (ps_set (i := 4) sc_load_row.nd rfl (Or.inl rfl) (C8.pe_c c_reached_address hr (by decide) (by rfl) (pa_cons (pv 2) (pa_cons (pe_ix ix_list (pe_fld (pv 0) rfl) (pe_ix ix_tup (pv 2) pe_int (fun _ _ => rfl)) (fun _ _ => rfl)) pa_nil)))) (pss_cons (ps_asg (C8.pe_c c_data_place hr (by decide) (by rfl) (pa_cons (pv 0) (pa_cons (pv 4) (pa_cons pe_str pa_nil)))) (pg_tup rfl (pgs_cons (pg_name (i := 6) sc_load_row.nd rfl (Or.inl rfl)) (pgs_cons (pg_name (i := 7) sc_load_row.nd rfl (Or.inl rfl)) pgs_nil)))) (pss_cons (ps_if (pt_cmpR op_gt (pv 7) pe_int (nomark _)) (pss_cons (ps_expr (C8.pe_c c_trap_on hr (by decide) (by rfl) (pa_cons (pv 0) (pa_cons (pv 7) (pa_cons (pv 3) (pa_cons (pv 4) pa_nil)))))) (pss_one (ps_ret (C8.pe_c c_trap_row hr (by decide) (by rfl) (pa_cons (pv 3) (pa_cons (pv 1) (pa_cons (pv 7) pa_nil))))))) pss_nil) (C8.pss_cut (ps_set (i := 5) sc_load_row.nd rfl (Or.inl rfl) (pe_ifExp (pt_cmpR op_ge (pv 6) (pe_n T.n_MEMORY_END (by rfl)) (nomark _)) (C8.pe_mt c_Devices_device_read hr (by decide) (pe_fld (pv 0) rfl) (pa_cons (pv 6) pa_nil)) (pe_ix ix_list (pe_fld (pe_fld (pv 0) rfl) rfl) (pv 6) (fun _ _ => rfl)))) (pss_cons (ps_asg (pv 5) (pg_sub (pe_fld (pv 0) rfl) (pe_ix ix_tup (pv 2) pe_int (fun _ _ => rfl)) set_list)) (pss_cons (ps_fld (pv 0) (C8.pe_c c_next_address hr (by decide) (by rfl) (pa_cons (pv 3) pa_nil)) rfl) (pss_one (ps_ret (pe_tup (pa_cons (pv 3) (pa_cons (pv 1) (pa_cons pe_int (pa_cons (pe_ix ix_tup (pv 2) pe_int (fun _ _ => rfl)) (pa_cons (pv 5) (pa_cons pe_non (pa_cons pe_non pa_nil))))))))))))))))), ?_⟩)
  obtain ⟨x, y, z, rfl, H0, n, c, i, p, k, rs, m, rfl, rfl, rfl, ⟨sx, cl, ad, hd, dn, S⟩, hn9, hi, hp, I, hk, q⟩ := h
  have R := I.toRaw
  have k12 : k = 12 := of_decide_eq_true hk
  have f1 : fo k = 1 := by rw [k12]; rfl
  obtain ⟨r1, er1, hr1⟩ := insV_reg (j := 0) m R (by rw [f1]; decide)
  obtain ⟨r2, er2, hr2⟩ := insV_reg (j := 1) m R (by rw [f1]; decide)
  obtain ⟨rg, hrl, hrw⟩ := S.reg
  obtain ⟨v2, ev2, hv2⟩ := hrw.at (z := r2) hr2.1 hr2.2
  refine ⟨_, rfl, c.s, _, sx, _, _, rfl, S.ob, T.c_State, T.a_State_own_address, rfl, _, rfl, _, rfl, c.s, _, sx, _, _, rfl, S.ob, T.c_State, T.a_State_own_registers, rfl, _, rfl, p, _, 2, _, rfl, rfl, SqT.of hp, er2, c.rl, rg, r2, _, rfl, rfl, SqL.of hrl, ev2, _, _, rfl, p, k, rs, m, v2, rfl, rfl, hp, R, f1, fun rc hrc => ?_⟩
  refine ⟨_, rfl, _, rfl, _, _, _, rfl, H0, n, c, rc, "load", rfl, rfl, rfl, ⟨_, _, _, _, _, S⟩, hrc, .inr (.inl rfl), fun t H1 xs ht e1 hx hpl => ?_⟩
  obtain ⟨pa, pc, rfl, hpl⟩ := hpl
  have S1 := S.up e1
  refine ⟨t, _, rfl, SqT.of hx, rfl, _, _, rfl, _, _, rfl, rfl, ?_⟩
  rcases hpl with ⟨pi, rfl, rfl, i0, i1, _⟩ | ⟨rfl, cc, rfl, c0, c1⟩
  · refine ⟨_, rfl, _, _, rfl, rfl, _, rfl, iteF ?_⟩
    refine ⟨fun σ' H2 => ∃ v, SX K H0 H2 n c sx cl ad hd dn ∧ H2 p = some (.tup (insV k rs m)) ∧ Wd v ∧ σ' = [some (.ref c.s), some (.int i), some (.ref p), some (.int ad), some (.int rc), some (.int v), some (.int pi), some (.int 0)], ?_, ?_⟩
    · obtain ⟨dx, tk, st, ti, hdo, _⟩ := S1.dev.ob
      obtain ⟨ws, hm⟩ := S1.mem
      obtain ⟨mx, hmo⟩ := hm.ob
      refine ⟨_, rfl, _, _, rfl, rfl, _, rfl, iteD (fun g => ?_) fun g => ?_⟩
      · refine ⟨_, rfl, c.s, _, sx, _, _, rfl, S1.ob, T.c_State, T.a_State_own_devices, rfl, c.d, dx, _, rfl, hdo, rfl, _, rfl, _, _, rfl, n, c.d, c.it, c.ol, c.ll, pi, rfl, rfl, S1.dev, fun v H2 hv d2 b2 => ?_⟩
        obtain ⟨os, hol, _⟩ := S1.dev.out
        obtain ⟨a1, a2, a3, a4, hll⟩ := S1.dev.lin
        have hp1 := e1 _ _ hp
        exact ⟨v, S1.devs d2 b2, b2 _ _ hp1 (ins_ne_tup hdo hp1) (lst_ne_tup hol hp1) (lst_ne_tup hll hp1), hv, rfl⟩
      · obtain ⟨v, ev, hv⟩ := hm.wd.at (z := pi) i0 (by omega)
        exact ⟨_, rfl, c.s, _, sx, _, _, rfl, S1.ob, T.c_State, T.a_State_own_memory, rfl, c.m, _, mx, _, _, rfl, hmo, T.c_Memory, T.a_Memory_own_words, rfl, _, rfl, c.wl, ws, pi, _, rfl, rfl, SqL.of hm.wo, ev, v, S1, e1 _ _ hp, hv, rfl⟩
    · rintro σ' H2 ⟨v, S2, hp2, hv, rfl⟩
      obtain ⟨rg2, hrl2, hrw2⟩ := S2.reg
      have S3 := S2.setR hrl2 hrw2 (j := r1.toNat) hv
      refine ⟨_, rfl, _, rfl, c.s, _, sx, _, _, rfl, S2.ob, T.c_State, T.a_State_own_registers, rfl, _, rfl, p, _, 1, _, rfl, rfl, SqT.of hp2, er1, c.rl, rg2, r1, _, rfl, rfl, hrl2, hrw2.ix hr1.1 hr1.2, ?_⟩
      refine ⟨_, rfl, _, rfl, ad, rfl, fun b hb => ?_⟩
      have S4 := S3.put (hd' := hd) (dn' := dn) hb
      have hp3 : upd H2 c.rl (.lst (rg2.set r1.toNat (.int v))) p = some (.tup (insV k rs m)) := by rw [upd_ne (lst_ne_tup hrl2 hp2)]; exact hp2
      have hp4 : upd (upd H2 c.rl (.lst (rg2.set r1.toNat (.int v)))) c.s (.ins (He.ga K "State") sx (fS c cl b hd dn)) p = some (.tup (insV k rs m)) := by rw [upd_ne (ins_ne_tup S3.ob hp3)]; exact hp3
      refine ⟨_, rfl, c.s, _, sx, _, rfl, S3.ob, T.c_State, T.a_State_own_address, (show 7 < 1000 by decide), _, rfl, _, rfl, _, rfl, p, _, 1, _, rfl, rfl, SqT.of hp4, er1, _, rfl, sz7, fun t2 ht2 => ?_⟩
      exact q t2 _ ⟨ad, some i, 0, some (r1, v), none⟩ (SAt.up (SAt.mono ⟨_, _, _, _, _, S4⟩ (Nat.le_succ _)) (same_new ht2)) upd_same (ok_reg S.ad (one_w hi) c00 hr1 hv)
  · refine ⟨_, rfl, _, _, rfl, rfl, _, rfl, ?_⟩
    rw [decide_eq_true c0]
    refine iteT ⟨_, rfl, _, rfl, _, rfl, _, rfl, _, _, _, _, rfl, H0, n, c, cc, ad, rc, rfl, rfl, rfl, rfl, ⟨_, _, _, _, _, S1⟩, ⟨by omega, by omega⟩, S1.ad.wd, hrc.wd, fun H2 s2 => ?_⟩
    exact ⟨_, rfl, _, rfl, _, rfl, _, _, _, rfl, fun t ht => row_trap q s2 (ow := some i) S.ad (one_w hi) ⟨by omega, by omega⟩ ht⟩
theorem sc_store_row : FnScope ["state", "word", "instruction", "address", "reached", "stored", "place", "cause"] ["state", "word", "instruction"] (defScope s_store_row) := ⟨rfl, rfl, rfl, by decide +kernel, rfl, by decide +kernel, by decide +kernel⟩
theorem ok_store_row (T : Hd K w mg)
    (c_reached_address : C8.Cal P w K mg base 1 "reached_address" (spReached) [])
    (c_data_place : C8.Cal P w K mg base 8 "data_place" (spData K) [])
    (c_trap_on : C8.Cal P w K mg base 3 "trap_on" (spTrap K) [])
    (c_trap_row : C8.Cal P w K mg base 1 "trap_row" (spTrapRow) [])
    (c_Devices_device_write : C8.Met P w K mg base 1 (He.ga K "Devices") "device_write" (spDevW K) [])
    (c_next_address : C8.Cal P w K mg base 1 "next_address" (spNext) []) : C8.Cal P w K mg base 9 "store_row" (spRow K (fun k => decide (k = 13))) [] := by
  obtain ⟨fd, F⟩ := T.f_store_row
  refine cal_of F T.g_store_row sc_store_row (fun _ _ _ _ _ _ us hl => match us, hl with | [_, _, _], _ => rfl) len3 (fun cdv A outer s H vs Q E hr h => ⟨_, (pss_cons (ps_set (i := 3) sc_store_row.nd rfl (Or.inl rfl) (pe_fld (pv 0) rfl)) (pss_cons (ps_set (i := 4) sc_store_row.nd rfl (Or.inl rfl) (C8.pe_c c_reached_address hr (by decide) (by rfl) (pa_cons (pv 2) (pa_cons (pe_ix ix_list (pe_fld (pv 0) rfl) (pe_ix ix_tup (pv 2) pe_int (fun _ _ => rfl)) (fun _ _ => rfl)) pa_nil)))) (pss_cons (ps_asg (C8.pe_c c_data_place hr (by decide) (by rfl) (pa_cons (pv 0) (pa_cons (pv 4) (pa_cons pe_str pa_nil)))) (pg_tup rfl (pgs_cons (pg_name (i := 6) sc_store_row.nd rfl (Or.inl rfl)) (pgs_cons (pg_name (i := 7) sc_store_row.nd rfl (Or.inl rfl)) pgs_nil)))) (pss_cons (ps_if (pt_cmpR op_gt (pv 7) pe_int (nomark _)) (pss_cons (ps_expr (C8.pe_c c_trap_on hr (by decide) (by rfl) (pa_cons (pv 0) (pa_cons (pv 7) (pa_cons (pv 3) (pa_cons (pv 4) pa_nil)))))) (pss_one (ps_ret (C8.pe_c c_trap_row hr (by decide) (by rfl) (pa_cons (pv 3) (pa_cons (pv 1) (pa_cons (pv 7) pa_nil))))))) pss_nil) (pss_cons (ps_set (i := 5) sc_store_row.nd rfl (Or.inl rfl) (pe_ix ix_list (pe_fld (pv 0) rfl) (pe_ix ix_tup (pv 2) pe_int (fun _ _ => rfl)) (fun _ _ => rfl))) (C8.pss_cut (ps_if (pt_cmpR op_ge (pv 6) (pe_n T.n_MEMORY_END (by rfl)) (nomark _)) (pss_one (ps_expr (C8.pe_mt c_Devices_device_write hr (by decide) (pe_fld (pv 0) rfl) (pa_cons (pv 6) (pa_cons (pv 5) pa_nil))))) (pss_one (ps_asg (pv 5) (pg_sub (pe_fld (pe_fld (pv 0) rfl) rfl) (pv 6) set_list)))) (pss_cons (ps_fld (pv 0) (C8.pe_c c_next_address hr (by decide) (by rfl) (pa_cons (pv 3) pa_nil)) rfl) (pss_one (ps_ret (pe_tup (pa_cons (pv 3) (pa_cons (pv 1) (pa_cons pe_int (pa_cons pe_non (pa_cons pe_non (pa_cons (pv 6) (pa_cons (pv 5) pa_nil))))))))))))))))), ?_⟩)
  obtain ⟨x, y, z, rfl, H0, n, c, i, p, k, rs, m, rfl, rfl, rfl, ⟨sx, cl, ad, hd, dn, S⟩, hn9, hi, hp, I, hk, q⟩ := h
  have R := I.toRaw
  have k12 : k = 13 := of_decide_eq_true hk
  have f1 : fo k = 1 := by rw [k12]; rfl
  obtain ⟨r1, er1, hr1⟩ := insV_reg (j := 0) m R (by rw [f1]; decide)
  obtain ⟨r2, er2, hr2⟩ := insV_reg (j := 1) m R (by rw [f1]; decide)
  obtain ⟨rg, hrl, hrw⟩ := S.reg
  obtain ⟨v2, ev2, hv2⟩ := hrw.at (z := r2) hr2.1 hr2.2
  refine ⟨_, rfl, c.s, _, sx, _, _, rfl, S.ob, T.c_State, T.a_State_own_address, rfl, _, rfl, _, rfl, c.s, _, sx, _, _, rfl, S.ob, T.c_State, T.a_State_own_registers, rfl, _, rfl, p, _, 2, _, rfl, rfl, SqT.of hp, er2, c.rl, rg, r2, _, rfl, rfl, SqL.of hrl, ev2, _, _, rfl, p, k, rs, m, v2, rfl, rfl, hp, R, f1, fun rc hrc => ?_⟩
  refine ⟨_, rfl, _, rfl, _, _, _, rfl, H0, n, c, rc, "store", rfl, rfl, rfl, ⟨_, _, _, _, _, S⟩, hrc, .inr (.inr rfl), fun t H1 xs ht e1 hx hpl => ?_⟩
  obtain ⟨pa, pc, rfl, hpl⟩ := hpl
  have S1 := S.up e1
  refine ⟨t, _, rfl, SqT.of hx, rfl, _, _, rfl, _, _, rfl, rfl, ?_⟩
  rcases hpl with ⟨pi, rfl, rfl, i0, i1, _⟩ | ⟨rfl, cc, rfl, c0, c1⟩
  · refine ⟨_, rfl, _, _, rfl, rfl, _, rfl, iteF ?_⟩
    obtain ⟨vs, evs, hvs⟩ := hrw.at (z := r1) hr1.1 hr1.2
    refine ⟨_, rfl, c.s, _, sx, _, _, rfl, S1.ob, T.c_State, T.a_State_own_registers, rfl, _, rfl, p, _, 1, _, rfl, rfl, SqT.of (e1 _ _ hp), er1, c.rl, rg, r1, _, rfl, rfl, SqL.of (e1 _ _ hrl), evs, ?_⟩
    refine ⟨fun σ' H2 => SX K H0 H2 (n + 1) c sx cl ad hd dn ∧ σ' = [some (.ref c.s), some (.int i), some (.ref p), some (.int ad), some (.int rc), some (.int vs), some (.int pi), some (.int 0)], ?_, ?_⟩
    · obtain ⟨dx, tk, st, ti, hdo, _⟩ := S1.dev.ob
      obtain ⟨ws, hm⟩ := S1.mem
      obtain ⟨mx, hmo⟩ := hm.ob
      refine ⟨_, rfl, _, _, rfl, rfl, _, rfl, iteD (fun g => ?_) fun g => ?_⟩
      · exact ⟨_, rfl, c.s, _, sx, _, _, rfl, S1.ob, T.c_State, T.a_State_own_devices, rfl, c.d, dx, _, rfl, hdo, rfl, _, rfl, _, rfl, _, _, _, rfl, n, c.d, c.it, c.ol, c.ll, pi, vs, rfl, rfl, rfl, S1.dev, hvs, by omega, fun H2 d2 b2 => ⟨S1.devs d2 b2, rfl⟩⟩
      · have hj : ixN ws.length pi = some pi.toNat := hm.wd.ix i0 (by omega)
        exact ⟨_, rfl, _, rfl, c.s, _, sx, _, _, rfl, S1.ob, T.c_State, T.a_State_own_memory, rfl, c.m, _, mx, _, _, rfl, hmo, T.c_Memory, T.a_Memory_own_words, rfl, _, rfl, c.wl, ws, pi, _, rfl, rfl, hm.wo, hj, (S1.setW hm.wo hm.wd hvs).mono (Nat.le_succ _), rfl⟩
    · rintro σ' H2 ⟨S2, rfl⟩
      refine ⟨_, rfl, _, rfl, ad, rfl, fun b hb => ?_⟩
      have S4 := S2.put (hd' := hd) (dn' := dn) hb
      refine ⟨_, rfl, c.s, _, sx, _, rfl, S2.ob, T.c_State, T.a_State_own_address, (show 7 < 1000 by decide), _, rfl, _, rfl, _, rfl, _, rfl, sz7, fun t2 ht2 => ?_⟩
      exact q t2 _ ⟨ad, some i, 0, none, some (pi, vs)⟩ (SAt.up ⟨_, _, _, _, _, S4⟩ (same_new ht2)) upd_same (ok_sto S.ad (one_w hi) c00 ⟨i0, i1⟩ hvs)
  · refine ⟨_, rfl, _, _, rfl, rfl, _, rfl, ?_⟩
    rw [decide_eq_true c0]
    refine iteT ⟨_, rfl, _, rfl, _, rfl, _, rfl, _, _, _, _, rfl, H0, n, c, cc, ad, rc, rfl, rfl, rfl, rfl, ⟨_, _, _, _, _, S1⟩, ⟨by omega, by omega⟩, S1.ad.wd, hrc.wd, fun H2 s2 => ?_⟩
    exact ⟨_, rfl, _, rfl, _, rfl, _, _, _, rfl, fun t ht => row_trap q s2 (ow := some i) S.ad (one_w hi) ⟨by omega, by omega⟩ ht⟩
theorem lone_wrc : ∀ k, k < 26 → V.str (nmk k) = V.str "wrc" → fo k = 5 := by decide +kernel
theorem sc_lone_row : FnScope ["state", "word", "instruction", "address", "read", "cause", "which", "value"] ["state", "word", "instruction"] (defScope s_lone_row) := ⟨rfl, rfl, rfl, by decide +kernel, rfl, by decide +kernel, by decide +kernel⟩
theorem ok_lone_row (T : Hd K w mg)
    (c_lone_on : C8.Cal P w K mg base 4 "lone_on" (spLone K) []) : C8.Cal P w K mg base 5 "lone_row" (spRow K loneK) [] := by
  obtain ⟨fd, F⟩ := T.f_lone_row
  refine cal_of F T.g_lone_row sc_lone_row (fun _ _ _ _ _ _ us hl => match us, hl with | [_, _, _], _ => rfl) len3 (fun cdv A outer s H vs Q E hr h => ⟨_, (pss_cons (ps_set (i := 3) sc_lone_row.nd rfl (Or.inl rfl) (pe_fld (pv 0) rfl)) (C8.pss_cut (ps_set (i := 4) sc_lone_row.nd rfl (Or.inl rfl) (pe_ifExp (pt_cmpR op_eq (pe_ix ix_tup (pv 2) pe_int (fun _ _ => rfl)) pe_str (nomark _)) (pe_ix ix_list (pe_fld (pv 0) rfl) (pe_ix ix_tup (pv 2) pe_int (fun _ _ => rfl)) (fun _ _ => rfl)) pe_int)) (pss_cons (ps_asg (C8.pe_c c_lone_on hr (by decide) (by rfl) (pa_cons (pv 0) (pa_cons (pv 3) (pa_cons (pv 2) (pa_cons (pv 4) pa_nil))))) (pg_tup rfl (pgs_cons (pg_name (i := 5) sc_lone_row.nd rfl (Or.inl rfl)) (pgs_cons (pg_name (i := 6) sc_lone_row.nd rfl (Or.inl rfl)) (pgs_cons (pg_name (i := 7) sc_lone_row.nd rfl (Or.inl rfl)) pgs_nil))))) (pss_cons (ps_if (pt_cmpR op_notN (pv 6) pe_non (nomark _)) (pss_one (ps_asg (pv 7) (pg_sub (pe_fld (pv 0) rfl) (pv 6) set_list))) pss_nil) (pss_one (ps_ret (pe_tup (pa_cons (pv 3) (pa_cons (pv 1) (pa_cons (pv 5) (pa_cons (pv 6) (pa_cons (pv 7) (pa_cons pe_non (pa_cons pe_non pa_nil)))))))))))))), ?_⟩)
  obtain ⟨x, y, z, rfl, H0, n, c, i, p, k, rs, m, rfl, rfl, rfl, ⟨sx, cl, ad, hd, dn, S⟩, hn9, hi, hp, I, hk, q⟩ := h
  have R := I.toRaw
  have h0 : atI (insV k rs m) 0 = some (.str (nmk k)) := at_of (j := 0) rfl rfl
  refine ⟨_, rfl, c.s, _, sx, _, _, rfl, S.ob, T.c_State, T.a_State_own_address, rfl, ?_⟩
  refine ⟨fun σ' H2 => H2 = H ∧ ∃ v, Wd v ∧ σ' = [some (.ref c.s), some (.int i), some (.ref p), some (.int ad), some (.int v), none, none, none], ?_, ?_⟩
  · refine ⟨_, rfl, p, _, 0, _, rfl, rfl, SqT.of hp, h0, rfl, _, rfl, iteD (fun e => ?_) fun _ => ⟨rfl, 0, wd0, rfl⟩⟩
    obtain ⟨r1, er1, hr1⟩ := insV_reg (j := 0) m R (by rw [lone_wrc k R.kl e]; decide)
    obtain ⟨rg, hrl, hrw⟩ := S.reg
    obtain ⟨v2, ev2, hv2⟩ := hrw.at (z := r1) hr1.1 hr1.2
    exact ⟨_, rfl, c.s, _, sx, _, _, rfl, S.ob, T.c_State, T.a_State_own_registers, rfl, _, rfl, p, _, 1, _, rfl, rfl, SqT.of hp, er1, c.rl, rg, r1, _, rfl, rfl, SqL.of hrl, ev2, rfl, v2, hv2, rfl⟩
  rintro σ' H2 ⟨rfl, v, hv, rfl⟩
  refine ⟨_, rfl, _, rfl, _, rfl, _, rfl, _, _, _, _, rfl, H0, n, c, ad, p, k, rs, m, v, rfl, rfl, rfl, rfl, ⟨_, _, _, _, _, S⟩, S.ad, hp, I, hk, hv, fun t H1 cs o s1 hx L => ?_⟩
  refine ⟨t, _, rfl, SqT.of hx, rfl, _, _, rfl, _, _, rfl, _, _, rfl, rfl, ?_⟩
  cases o with
  | none =>
    refine ⟨_, rfl, rfl, _, rfl, iteF ?_⟩
    exact ⟨_, rfl, _, rfl, _, rfl, _, rfl, _, rfl, sz7, fun t2 ht2 => q t2 _ ⟨ad, some i, cs, none, none⟩ ((s1.mono (Nat.le_succ _)).up (same_new ht2)) upd_same (ok_none S.ad (one_w hi) L.c)⟩
  | some o =>
    obtain ⟨r, v3⟩ := o
    obtain ⟨hr, hv3⟩ := L.r r v3 rfl
    obtain ⟨sx1, cl1, ad1, hd1, dn1, S1⟩ := s1
    obtain ⟨rg, hrl, hrw⟩ := S1.reg
    refine ⟨_, rfl, rfl, _, rfl, iteT ?_⟩
    have S2 := S1.setR hrl hrw (j := r.toNat) hv3
    exact ⟨_, rfl, _, rfl, c.s, _, sx1, _, _, rfl, S1.ob, T.c_State, T.a_State_own_registers, rfl, _, rfl, c.rl, rg, r, _, rfl, rfl, hrl, hrw.ix hr.1 hr.2, _, rfl, _, rfl, _, rfl, _, rfl, _, rfl, sz7, fun t2 ht2 => q t2 _ ⟨ad, some i, cs, some (r, v3), none⟩ (SAt.up (SAt.mono ⟨_, _, _, _, _, S2⟩ (Nat.le_succ _)) (same_new ht2)) upd_same (ok_reg S.ad (one_w hi) L.c hr hv3)⟩
theorem room1 {k : Nat} {A : Around} (r : Room k A) : A.units + 1 < cLine := by have := r.un; omega
/-- the register that a value names -/
def regAt (rg : List V) (x : V) : V := match x with
  | .int i => rg.getD i.toNat .non
  | _ => .non
theorem regAt_of {rg : List V} (hw : Wds 8 rg) {i : Int} (h0 : 0 ≤ i) (h1 : i < 8) : atI rg i = some (regAt rg (.int i)) ∧ ∃ w, regAt rg (.int i) = .int w ∧ Wd w := by
  obtain ⟨w, e, hw2⟩ := hw.at (z := i) h0 h1
  have hl : i.toNat < rg.length := by rw [hw.len]; omega
  have e2 : atI rg i = some (regAt rg (.int i)) := at_of (j := i.toNat) (by omega) (by
    show rg[i.toNat]? = some (rg.getD i.toNat .non)
    rw [List.getD_eq_getElem?_getD, List.getElem?_eq_getElem hl]; rfl)
  refine ⟨e2, w, ?_, hw2⟩
  rw [e] at e2
  exact (Option.some.inj e2).symm
theorem sc_plain_row : FnScope ["state", "word", "instruction", "address", "words", "which", "cause", "value", "behind"] ["state", "word", "instruction"] (defScope s_plain_row) := ⟨rfl, rfl, rfl, by decide +kernel, rfl, by decide +kernel, by decide +kernel⟩
theorem ok_plain_row (T : Hd K w mg)
    (c_reads_by_form : C8.Cal P w K mg base 1 "reads_by_form" (spReads K) [])
    (c_worked_out : C8.Cal P w K mg base 9 "worked_out" (spWorked) [])
    (c_trap_on : C8.Cal P w K mg base 3 "trap_on" (spTrap K) [])
    (c_trap_row : C8.Cal P w K mg base 1 "trap_row" (spTrapRow) [])
    (c_writes_of : C8.Cal P w K mg base 5 "writes_of" (spWrites K) []) : C8.Cal P w K mg base 10 "plain_row" (spRow K plainK) [] := by
  obtain ⟨fd, F⟩ := T.f_plain_row
  refine cal_of F T.g_plain_row sc_plain_row (fun _ _ _ _ _ _ us hl => match us, hl with | [_, _, _], _ => rfl) len3 (fun cdv A outer s H vs Q E hr h => ⟨_, (pss_cons (ps_set (i := 3) sc_plain_row.nd rfl (Or.inl rfl) (pe_fld (pv 0) rfl)) (pss_cons (ps_setLc (i := 4) (own := [("which", 5)]) (g := gName 5) (te := tOp (rIxL K) (tFld K (tVar 0) "own_registers") (tVar 5)) rfl sc_plain_row.nd rfl rfl (sw_true rfl rfl rfl (by decide +kernel)) (pi_list (C8.pe_c c_reads_by_form hr (by decide) (by rfl) (pa_cons (pv 2) pa_nil))) (blkOk_by (own := [("which", 5)]) (N := ["state", "word", "instruction", "address", "words", "which", "cause", "value", "behind"]) (sc := defScope s_plain_row) (by decide +kernel)) (fun _ _ _ _ _ => pg_name (i := 5) sc_plain_row.nd rfl (Or.inl rfl)) (fun _ _ _ _ _ => pts_nil) (fun _ _ _ _ _ => (pe_ix ix_list (pe_fld (pv 0) rfl) (pv 5) (fun _ _ => rfl)))) (pss_cons (ps_asg (C8.pe_c c_worked_out hr (by decide) (by rfl) (pa_cons (pv 2) (pa_cons (pv 3) (pa_cons (pv 4) pa_nil)))) (pg_tup rfl (pgs_cons (pg_name (i := 6) sc_plain_row.nd rfl (Or.inl rfl)) (pgs_cons (pg_name (i := 7) sc_plain_row.nd rfl (Or.inl rfl)) (pgs_cons (pg_name (i := 8) sc_plain_row.nd rfl (Or.inl rfl)) pgs_nil))))) (pss_cons (ps_if (pt_cmpR op_gt (pv 6) pe_int (nomark _)) (pss_cons (ps_expr (C8.pe_c c_trap_on hr (by decide) (by rfl) (pa_cons (pv 0) (pa_cons (pv 6) (pa_cons (pv 3) (pa_cons pe_int pa_nil)))))) (pss_one (ps_ret (C8.pe_c c_trap_row hr (by decide) (by rfl) (pa_cons (pv 3) (pa_cons (pv 1) (pa_cons (pv 6) pa_nil))))))) pss_nil) (pss_cons (ps_set (i := 5) sc_plain_row.nd rfl (Or.inl rfl) (C8.pe_c c_writes_of hr (by decide) (by rfl) (pa_cons (pv 2) pa_nil))) (C8.pss_cut (ps_if (pt_cmpR op_notN (pv 5) pe_non (nomark _)) (pss_one (ps_asg (pv 7) (pg_sub (pe_fld (pv 0) rfl) (pv 5) set_list))) pss_nil) (pss_cons (ps_fld (pv 0) (pv 8) rfl) (pss_one (ps_ret (pe_tup (pa_cons (pv 3) (pa_cons (pv 1) (pa_cons pe_int (pa_cons (pv 5) (pa_cons (pv 7) (pa_cons pe_non (pa_cons pe_non pa_nil))))))))))))))))), ?_⟩)
  obtain ⟨x, y, z, rfl, H0, n, c, i, p, k, rs, m, rfl, rfl, rfl, ⟨sx, cl, ad, hd, dn, S⟩, hn9, hi, hp, I, hk, q⟩ := h
  have R := I.toRaw
  obtain ⟨rg, hrl, hrw⟩ := S.reg
  refine ⟨_, rfl, c.s, _, sx, _, _, rfl, S.ob, T.c_State, T.a_State_own_address, rfl, ?_⟩
  refine ⟨_, rfl, _, rfl, p, k, rs, m, rfl, hp, R, fun lr H1 xs hlr e1 hxs hx2 => ?_⟩
  obtain ⟨xl, xa⟩ := hx2
  have hxz : xs.length ≤ 100000 := by
    have : rdN k ≤ 2 := by
      have h2 : ∀ k, k < 26 → rdN k ≤ 2 := by decide
      exact h2 k R.kl
    omega
  have S1 := S.up e1
  refine ⟨lr, rfl, ⟨_, SqL.of hxs⟩, fun D hD => lc_mapL (xs := xs) (regAt rg) (SqL.of hxs) hD hxz (fun _ => rfl) (fun j y H2 hy e2 Q2 q2 => ?_) fun H2 e2 hdl => ?_⟩
  · obtain ⟨r, rfl, r0, r1⟩ := xa y (List.mem_of_getElem? hy)
    obtain ⟨ea, _⟩ := regAt_of hrw r0 r1
    have S2 := S1.up e2
    exact ⟨_, rfl, c.s, _, sx, _, _, rfl, S2.ob, T.c_State, T.a_State_own_registers, rfl, _, rfl, c.rl, rg, r, _, rfl, rfl, SqL.of (e2 _ _ (e1 _ _ hrl)), ea, q2 _ (Same.refl _)⟩
  have E2 := e1.trans e2
  have S2 := S.up E2
  have W2 : Wds (rdN k) (xs.map (regAt rg)) := ⟨by rw [List.length_map]; exact xl, fun v hv => by
    obtain ⟨y, hy, rfl⟩ := List.mem_map.mp hv
    obtain ⟨r, rfl, r0, r1⟩ := xa y hy
    exact (regAt_of hrw r0 r1).2⟩
  refine ⟨_, rfl, _, rfl, _, rfl, _, _, _, rfl, p, D, k, rs, m, ad, _, rfl, rfl, rfl, E2 _ _ hp, R, hk, hdl, W2, fun t H3 xs3 ht e3 hx3 hwk => ?_⟩
  obtain ⟨cs, v, b, rfl, hb, hor⟩ := hwk.ex
  have E3 := E2.trans e3
  have S3 := S.up E3
  refine ⟨t, _, rfl, SqT.of hx3, rfl, _, _, rfl, _, _, rfl, _, _, rfl, rfl, ?_⟩
  rcases hor with ⟨rfl, v1, v2⟩ | ⟨rfl, rfl⟩
  · refine ⟨_, rfl, _, _, rfl, rfl, _, rfl, iteF ?_⟩
    have hp3 := E3 _ _ hp
    refine ⟨_, rfl, _, rfl, p, k, rs, m, rfl, hp3, I, fun hu H4 e4 => ?_, fun hu r H4 r0 r1 e4 => ?_⟩
    · have S4 := S3.up e4
      refine ⟨fun σ' H' => H' = H4 ∧ ∃ a b', σ' = [some (.ref c.s), some (.int i), some (.ref p), some (.int ad), a, some .non, b', some v, some (.int b)], ?_, ?_⟩
      · exact ⟨_, rfl, rfl, _, rfl, iteF ⟨rfl, _, _, rfl⟩⟩
      · rintro σ' H' ⟨rfl, a, b', rfl⟩
        have S5 := S4.put (hd' := hd) (dn' := dn) hb
        refine ⟨_, rfl, _, rfl, c.s, _, sx, _, rfl, S4.ob, T.c_State, T.a_State_own_address, (show 7 < 1000 by decide), _, rfl, _, rfl, _, rfl, _, rfl, sz7, fun t2 ht2 => ?_⟩
        rw [v1 hu]
        exact q t2 _ ⟨ad, some i, 0, none, none⟩ (SAt.up (SAt.mono ⟨_, _, _, _, _, S5⟩ (Nat.le_succ _)) (same_new ht2)) upd_same (ok_none S.ad (one_w hi) c00)
    · have S4 := S3.up e4
      obtain ⟨vw, rfl, hvw⟩ := v2 hu
      obtain ⟨rg4, hrl4, hrw4⟩ := S4.reg
      have S5 := S4.setR hrl4 hrw4 (j := r.toNat) hvw
      refine ⟨fun σ' H' => H' = upd H4 c.rl (.lst (rg4.set r.toNat (.int vw))) ∧ ∃ a b', σ' = [some (.ref c.s), some (.int i), some (.ref p), some (.int ad), a, some (.int r), b', some (.int vw), some (.int b)], ?_, ?_⟩
      · exact ⟨_, rfl, rfl, _, rfl, iteT ⟨_, rfl, _, rfl, c.s, _, sx, _, _, rfl, S4.ob, T.c_State, T.a_State_own_registers, rfl, _, rfl, c.rl, rg4, r, _, rfl, rfl, hrl4, hrw4.ix r0 r1, rfl, _, _, rfl⟩⟩
      · rintro σ' H' ⟨rfl, a, b', rfl⟩
        have S6 := S5.put (hd' := hd) (dn' := dn) hb
        refine ⟨_, rfl, _, rfl, c.s, _, sx, _, rfl, S5.ob, T.c_State, T.a_State_own_address, (show 7 < 1000 by decide), _, rfl, _, rfl, _, rfl, _, rfl, sz7, fun t2 ht2 => ?_⟩
        exact q t2 _ ⟨ad, some i, 0, some (r, vw), none⟩ (SAt.up (SAt.mono ⟨_, _, _, _, _, S6⟩ (Nat.le_succ _)) (same_new ht2)) upd_same (ok_reg S.ad (one_w hi) c00 ⟨r0, r1⟩ hvw)
  · refine ⟨_, rfl, _, _, rfl, rfl, _, rfl, iteT ?_⟩
    refine ⟨_, rfl, _, rfl, _, rfl, _, _, _, _, rfl, H0, n, c, 3, ad, 0, rfl, rfl, rfl, rfl, ⟨_, _, _, _, _, S3⟩, ⟨by decide, by decide⟩, S.ad.wd, wd0, fun H4 s4 => ?_⟩
    exact ⟨_, rfl, _, rfl, _, rfl, _, _, _, rfl, fun t ht => row_trap q s4 (ow := some i) S.ad (one_w hi) ⟨by decide, by decide⟩ ht⟩
theorem ins_w {i : Int} (h : wIs i = true) : Ins (wK i) (wRs i) (wN i) := by
  unfold wIs at h
  rw [Bool.and_eq_true, decide_eq_true_eq, Bool.and_eq_true] at h
  exact ⟨raw_w h.1.1 h.1.2, h.2.1⟩
theorem sort_4 : ∀ k, k < 26 → (soK k = "load" ∧ decide (k = 12) = true) ∨ (soK k = "store" ∧ decide (k = 13) = true) ∨ (soK k = "lone" ∧ loneK k = true) ∨ ((soK k ≠ "load" ∧ soK k ≠ "store" ∧ soK k ≠ "lone") ∧ plainK k = true) := by decide +kernel
def spFetch (K : PySem.W.Frag) : Sp := sp1 fun x H Q => ∃ H0 n, ∃ c : Mc, x = .ref c.s ∧ SAt K H0 H n c ∧ n ≤ 900 ∧ RetRow K H0 (n + 1) c Q
theorem str_dist : (("load" : Str) ≠ "store") ∧ (("load" : Str) ≠ "lone") ∧ (("store" : Str) ≠ "lone") := by decide +kernel
abbrev kLd : Key := Sum.inr ("load" : Str)
abbrev kSt : Key := Sum.inr ("store" : Str)
abbrev kLo : Key := Sum.inr ("lone" : Str)
theorem rows_merge (a b c : V) : mergeK [] [(kLd, a), (kSt, b), (kLo, c)] = [(kLd, a), (kSt, b), (kLo, c)] := by
  have h1 : ¬ kLd = kSt := fun e => str_dist.1 (Sum.inr.inj e)
  have h2 : ¬ kLd = kLo := fun e => str_dist.2.1 (Sum.inr.inj e)
  have h3 : ¬ (kSt : Key) = kLo := fun e => str_dist.2.2 (Sum.inr.inj e)
  simp [mergeK, putK, List.foldl, h1, h2, h3]
theorem rows_1 (a b c : V) : valV [(kLd, a), (kSt, b), (kLo, c)] (kLd) = some a := by
  simp [valV]
theorem rows_2 (a b c : V) : valV [(kLd, a), (kSt, b), (kLo, c)] (kSt) = some b := by
  have h1 : ¬ kLd = kSt := fun e => str_dist.1 (Sum.inr.inj e)
  simp [valV, h1]
theorem rows_3 (a b c : V) : valV [(kLd, a), (kSt, b), (kLo, c)] (kLo) = some c := by
  have h2 : ¬ kLd = kLo := fun e => str_dist.2.1 (Sum.inr.inj e)
  have h3 : ¬ (kSt : Key) = kLo := fun e => str_dist.2.2 (Sum.inr.inj e)
  simp [valV, h2, h3]
theorem rows_4 (a b c : V) {z : Str} (h1 : z ≠ "load") (h2 : z ≠ "store") (h3 : z ≠ "lone") : valV [(kLd, a), (kSt, b), (kLo, c)] (Sum.inr z : Key) = none := by
  have g1 : ¬ kLd = (Sum.inr z : Key) := fun e => h1 (Sum.inr.inj e).symm
  have g2 : ¬ (kSt : Key) = (Sum.inr z : Key) := fun e => h2 (Sum.inr.inj e).symm
  have g3 : ¬ (kLo : Key) = (Sum.inr z : Key) := fun e => h3 (Sum.inr.inj e).symm
  simp [valV, g1, g2, g3]
theorem sc_fetched_row : FnScope ["state", "address", "word", "instruction", "rows", "place", "cause", "leans"] ["state"] (defScope s_fetched_row) := ⟨rfl, rfl, rfl, by decide +kernel, rfl, by decide +kernel, by decide +kernel⟩
theorem ok_fetched_row (T : Hd K w mg)
    (c_load_row : C8.Cal P w K mg base 9 "load_row" (spRow K (fun k => decide (k = 12))) [])
    (c_store_row : C8.Cal P w K mg base 9 "store_row" (spRow K (fun k => decide (k = 13))) [])
    (c_lone_row : C8.Cal P w K mg base 5 "lone_row" (spRow K loneK) [])
    (c_plain_row : C8.Cal P w K mg base 10 "plain_row" (spRow K plainK) [])
    (c_looked_up : C8.Cal P w K mg base 7 "looked_up" (spLook K) [])
    (c_trap_on : C8.Cal P w K mg base 3 "trap_on" (spTrap K) [])
    (c_trap_row : C8.Cal P w K mg base 1 "trap_row" (spTrapRow) [])
    (c_word_as_instruction : C8.Cal P w K mg base 4 "word_as_instruction" (spAsIns K) [])
    (c_sort_of : C8.Cal P w K mg base 5 "sort_of" (spSortOf K) []) : C8.Cal P w K mg base 11 "fetched_row" (spFetch K) [] := by
  obtain ⟨fd, F⟩ := T.f_fetched_row
  refine cal_of F T.g_fetched_row sc_fetched_row (fun _ _ _ _ _ _ us hl => match us, hl with | [_], _ => rfl) len1 (fun cdv A outer s H vs Q E hr h => ⟨_, (pss_cons (ps_set (i := 1) sc_fetched_row.nd rfl (Or.inl rfl) (pe_fld (pv 0) rfl)) (pss_cons (ps_asg (C8.pe_c c_looked_up hr (by decide) (by rfl) (pa_cons (pe_fld (pv 0) rfl) (pa_cons (pe_fld (pv 0) rfl) (pa_cons (pv 1) (pa_cons pe_str pa_nil))))) (pg_tup rfl (pgs_cons (pg_name (i := 5) sc_fetched_row.nd rfl (Or.inl rfl)) (pgs_cons (pg_name (i := 6) sc_fetched_row.nd rfl (Or.inl rfl)) (pgs_cons (pg_name (i := 7) sc_fetched_row.nd rfl (Or.inl rfl)) pgs_nil))))) (pss_cons (ps_if (pt_cmpR op_gt (pv 6) pe_int (nomark _)) (pss_cons (ps_expr (C8.pe_c c_trap_on hr (by decide) (by rfl) (pa_cons (pv 0) (pa_cons (pv 6) (pa_cons (pv 1) (pa_cons (pv 1) pa_nil)))))) (pss_one (ps_ret (C8.pe_c c_trap_row hr (by decide) (by rfl) (pa_cons (pv 1) (pa_cons pe_non (pa_cons (pv 6) pa_nil))))))) pss_nil) (pss_cons (ps_set (i := 2) sc_fetched_row.nd rfl (Or.inl rfl) (pe_ix ix_list (pe_fld (pe_fld (pv 0) rfl) rfl) (pv 5) (fun _ _ => rfl))) (pss_cons (ps_set (i := 3) sc_fetched_row.nd rfl (Or.inl rfl) (C8.pe_c c_word_as_instruction hr (by decide) (by rfl) (pa_cons (pv 2) pa_nil))) (pss_cons (ps_if (pt_cmpR op_isN (pv 3) pe_non (nomark _)) (pss_cons (ps_expr (C8.pe_c c_trap_on hr (by decide) (by rfl) (pa_cons (pv 0) (pa_cons (pe_n T.n_CAUSE_BAD_WORD (by rfl)) (pa_cons (pv 1) (pa_cons pe_int pa_nil)))))) (pss_one (ps_ret (C8.pe_c c_trap_row hr (by decide) (by rfl) (pa_cons (pv 1) (pa_cons (pv 2) (pa_cons (pe_n T.n_CAUSE_BAD_WORD (by rfl)) pa_nil))))))) pss_nil) (pss_cons (ps_set (i := 4) sc_fetched_row.nd rfl (Or.inl rfl) (pe_disp (pps_cons pe_str (pe_g T.g_load_row (by rfl)) (pps_cons pe_str (pe_g T.g_store_row (by rfl)) (pps_cons pe_str (pe_g T.g_lone_row (by rfl)) pps_nil))) (by rfl) (by rfl) (by decide) (by decide))) (pss_one (ps_ret (pe_cvX (pe_dget2 (room1 hr) (pv 4) (C8.pe_c c_sort_of hr (by decide) (by rfl) (pa_cons (pv 3) pa_nil)) (pe_g T.g_plain_row (by rfl)) ⟨by rfl, by rfl, by rfl, by rfl⟩) takes0 hr (pa_cons (pv 0) (pa_cons (pv 2) (pa_cons (pv 3) pa_nil))))))))))))), ?_⟩)
  obtain ⟨x, rfl, H0, n, c, rfl, ⟨sx, cl, ad, hd, dn, S⟩, hn9, q⟩ := h
  obtain ⟨ws, hm⟩ := S.mem
  obtain ⟨mx, hmo⟩ := hm.ob
  obtain ⟨cs, hcl, hcs⟩ := S.con
  refine ⟨_, rfl, c.s, _, sx, _, _, rfl, S.ob, T.c_State, T.a_State_own_address, rfl, ?_⟩
  refine ⟨_, rfl, c.s, _, sx, _, _, rfl, S.ob, T.c_State, T.a_State_own_memory, rfl, _, rfl, c.s, _, sx, _, _, rfl, S.ob, T.c_State, T.a_State_own_controls, rfl, _, rfl, _, _, _, _, rfl, c.m, c.wl, ws, cl, cs, ad, "fetch", rfl, rfl, rfl, rfl, hm, hcl, hcs, S.ad, .inl rfl, fun t H1 xs ht e1 hx hpl => ?_⟩
  obtain ⟨pa, pc, pl, rfl, hpl⟩ := hpl
  have S1 := S.up e1
  refine ⟨t, _, rfl, SqT.of hx, rfl, _, _, rfl, _, _, rfl, _, _, rfl, rfl, ?_⟩
  rcases hpl with ⟨pi, rfl, rfl, i0, i1, i2⟩ | ⟨rfl, cc, rfl, c0, c1⟩
  · refine ⟨_, rfl, _, _, rfl, rfl, _, rfl, iteF ?_⟩
    obtain ⟨wd, ewd, hwd⟩ := hm.wd.at (z := pi) i0 (i2 rfl)
    refine ⟨_, rfl, c.s, _, sx, _, _, rfl, S1.ob, T.c_State, T.a_State_own_memory, rfl, c.m, _, mx, _, _, rfl, e1 _ _ hmo, T.c_Memory, T.a_Memory_own_words, rfl, _, rfl, c.wl, ws, pi, _, rfl, rfl, SqL.of (e1 _ _ hm.wo), ewd, ?_⟩
    refine ⟨_, rfl, _, rfl, wd, rfl, hwd, fun hw H2 e2 => ?_, fun hw p H2 xs2 hp e2 hx2 hxs2 => ?_⟩
    · refine ⟨_, rfl, rfl, _, rfl, iteD (fun _ => ?_) fun e => absurd rfl e⟩
      have S2 := S1.up e2
      refine ⟨_, rfl, _, rfl, _, _, _, _, rfl, H0, n, c, 1, ad, 0, rfl, rfl, rfl, rfl, ⟨_, _, _, _, _, S2⟩, ⟨by decide, by decide⟩, S.ad.wd, wd0, fun H4 s4 => ?_⟩
      exact ⟨_, rfl, _, rfl, _, _, _, rfl, fun t ht => row_trap q s4 (ow := some wd) S.ad (one_w hwd) ⟨by decide, by decide⟩ ht⟩
    · refine ⟨_, rfl, rfl, _, rfl, iteD (fun e => nomatch e) fun _ => ?_⟩
      subst hxs2
      have I := ins_w hw
      have S2 := S1.up e2
      refine fun dd hdd => ⟨upd_same, [(kLd, .ref (He.ga K "load_row")), (kSt, .ref (He.ga K "store_row")), (kLo, .ref (He.ga K "lone_row"))], rfl, (show 3 ≤ 15 by decide), ?_⟩
      rw [rows_merge]
      let kvs : List (Key × V) := [(kLd, .ref (He.ga K "load_row")), (kSt, .ref (He.ga K "store_row")), (kLo, .ref (He.ga K "lone_row"))]
      have e3 : Same H2 (upd (upd H2 dd (.dK [])) dd (.dK kvs)) := same_mut (same_new hdd) hdd
      refine ⟨_, rfl, dd, rfl, .inl ⟨_, .inl upd_same⟩, _, rfl, _, rfl, p, wK wd, wRs wd, wN wd, rfl, e3 _ _ hx2, I, fun H3 e4 => ?_⟩
      have S3 := (S2.up e3).up e4
      have hp3 := e4 _ _ (e3 _ _ hx2)
      have fin : ∀ {f : Addr} {pk : Nat → Bool}, pk (wK wd) = true → Callee P w K mg base 10 f (spRow K pk) → (valV kvs (Sum.inr (soK (wK wd)))).getD (V.ref (He.ga K "plain_row")) = .ref f → _ := fun {f pk} g1 g2 g3 =>
        (⟨_, DGet.k (k := Sum.inr (soK (wK wd))) (e4 _ _ upd_same), f, spRow K pk, g3, g2, _, rfl, _, rfl, _, rfl, _, _, _, rfl, H0, n, c, wd, p, wK wd, wRs wd, wN wd, rfl, rfl, rfl, ⟨_, _, _, _, _, S3⟩, hn9, hwd, hp3, I, g1, q⟩ :
          ∃ o, DGet H3 dd (.str (soK (wK wd))) o ∧ ∃ f sp, o.getD (V.ref (He.ga K "plain_row")) = .ref f ∧ Callee P w K mg base 10 f sp ∧ tCons (tVar 0) (tCons (tVar 2) (tCons (tVar 3) tNil)) [some (.ref c.s), some (.int ad), some (.int wd), some (.ref p), some (.ref dd), some (.int pi), some (.int 0), some pl] H3 fun vs H2 => sp vs H2 Q (WE (fun _ _ _ _ => False) [some (.ref c.s), some (.int ad), some (.int wd), some (.ref p), some (.ref dd), some (.int pi), some (.int 0), some pl]))
      rcases sort_4 _ I.kl with ⟨g1, g2⟩ | ⟨g1, g2⟩ | ⟨g1, g2⟩ | ⟨⟨g1, g1', g1''⟩, g2⟩
      · exact fin (pk := fun k => decide (k = 12)) g2 (.inr ⟨_, by decide, FunX.of0 c_load_row T.g_load_row⟩) (by rw [g1, rows_1]; rfl)
      · exact fin (pk := fun k => decide (k = 13)) g2 (.inr ⟨_, by decide, FunX.of0 c_store_row T.g_store_row⟩) (by rw [g1, rows_2]; rfl)
      · exact fin g2 (.inr ⟨_, by decide, FunX.of0 c_lone_row T.g_lone_row⟩) (by rw [g1, rows_3]; rfl)
      · exact fin g2 (.inr ⟨_, by decide, FunX.of0 c_plain_row T.g_plain_row⟩) (by rw [rows_4 _ _ _ g1 g1' g1'']; rfl)
  · refine ⟨_, rfl, _, _, rfl, rfl, _, rfl, ?_⟩
    rw [decide_eq_true c0]
    refine iteT ⟨_, rfl, _, rfl, _, rfl, _, rfl, _, _, _, _, rfl, H0, n, c, cc, ad, ad, rfl, rfl, rfl, rfl, ⟨_, _, _, _, _, S1⟩, ⟨by omega, by omega⟩, S.ad.wd, S.ad.wd, fun H2 s2 => ?_⟩
    exact ⟨_, rfl, _, rfl, _, _, _, rfl, fun t ht => row_trap q s2 (ow := none) S.ad none_w ⟨by omega, by omega⟩ ht⟩
end
end K97
set_option maxHeartbeats 4000000
/-! A state is made; the steps. -/
namespace K97
open PySem PySem.Spec PyProof.Rows L2 RZ
local macro_rules | `(tactic| walk_at "v") => `(tactic| refine ⟨_, rfl, ?_⟩)
local macro_rules | `(tactic| walk_at "ii") => `(tactic| refine ⟨_, _, rfl, rfl, ?_⟩)
/-- one step of a reading: a name, two whole numbers, a scalar comparison, a truth value -/
local macro_rules | `(tactic| walk_at "s") => `(tactic| first | refine ⟨_, rfl, ?_⟩ | refine ⟨_, _, rfl, rfl, ?_⟩ | refine ⟨rfl, ?_⟩ | exact iteT (by walk_at "s") | exact iteF (by walk_at "s"))
local macro_rules | `(tactic| walk_at "r") => `(tactic| (repeat (first | refine ⟨_, rfl, ?_⟩ | refine ⟨_, _, rfl, rfl, ?_⟩ | refine ⟨rfl, ?_⟩ | refine iteT ?_ | refine iteF ?_)))

section
variable {P : Program} {w : World} {K : PySem.W.Frag} {mg : Str → Option Value} {base : Heap}
theorem Hd.i_Memory (T : Hd K w mg) : C8.InsC K (He.ga K "Memory") := ⟨T.c_Memory, He.eqO_ok T.x_icl_Memory, of_decide_eq_true T.x_sget, of_decide_eq_true T.x_stak, of_decide_eq_true T.x_imo_Memory, of_decide_eq_true T.x_iki_Memory⟩
theorem Hd.i_State (T : Hd K w mg) : C8.InsC K (He.ga K "State") := ⟨T.c_State, He.eqO_ok T.x_icl_State, of_decide_eq_true T.x_sget, of_decide_eq_true T.x_stak, of_decide_eq_true T.x_imo_State, of_decide_eq_true T.x_iki_State⟩
theorem sc_done_step : FnScope ["state", "row"] ["state"] (defScope s_done_step) := ⟨rfl, rfl, rfl, by decide +kernel, rfl, by decide +kernel, by decide +kernel⟩
theorem ok_done_step (T : Hd K w mg)
    (c_interrupt_row : C8.Cal P w K mg base 6 "interrupt_row" (spInter K) [])
    (c_fetched_row : C8.Cal P w K mg base 11 "fetched_row" (spFetch K) [])
    (c_Devices_counted : C8.Met P w K mg base 1 (He.ga K "Devices") "counted" (spCounted K) []) : C8.Cal P w K mg base 12 "done_step" (spFetch K) [] := by
  obtain ⟨fd, F⟩ := T.f_done_step
  refine cal_of F T.g_done_step sc_done_step (fun _ _ _ _ _ _ us hl => match us, hl with | [_], _ => rfl) len1 (fun cdv A outer s H vs Q E hr h => ⟨_, (pss_cons (ps_set (i := 1) sc_done_step.nd rfl (Or.inl rfl) (C8.pe_c c_interrupt_row hr (by decide) (by rfl) (pa_cons (pv 0) pa_nil))) (C8.pss_cut (ps_if (pt_cmpR op_isN (pv 1) pe_non (nomark _)) (pss_one (ps_set (i := 1) sc_done_step.nd rfl (Or.inl rfl) (C8.pe_c c_fetched_row hr (by decide) (by rfl) (pa_cons (pv 0) pa_nil)))) pss_nil) (pss_cons (ps_expr (C8.pe_mt0 c_Devices_counted hr (by decide) (pe_fld (pv 0) rfl))) (pss_cons (ps_fld (pv 0) (pe_op op_add (pe_fld (pv 0) rfl) pe_int) rfl) (pss_one (ps_ret (pv 1))))))), ?_⟩)
  obtain ⟨x, rfl, H0, n, c, rfl, S, hn9, q⟩ := h
  have fin : ∀ {t : Addr} {H1 : Hp} {r : Rw}, SAt K H0 H1 (n + 1) c → H1 t = some (.tup (rowV r)) → RowOk r → (tSeq (tDrop (tMeth (He.ga K "Devices") "counted" (spCounted K) [] C8.E0 (tFld K (tVar 0) "own_devices") tNil)) (tSeq (sFld K (tVar 0) (tOp (rI0 fun i j => V.int (i + j)) (tFld K (tVar 0) "own_done") (tC (V.int 1))) "own_done") (tRet (tVar 1))) : TS)
      { nx := fun _ H' => Q .non H', rt := Q } [some (.ref c.s), some (.ref t)] H1 := fun {t H1 r} s1 ht hr => by
    obtain ⟨sx, cl, ad, hd, dn, S1⟩ := s1
    obtain ⟨dx, tk, st, ti, hdo, _⟩ := S1.dev.ob
    obtain ⟨os, hol, _⟩ := S1.dev.out
    obtain ⟨a1, a2, a3, a4, hll⟩ := S1.dev.lin
    refine ⟨_, rfl, c.s, _, sx, _, _, rfl, S1.ob, T.c_State, T.a_State_own_devices, rfl, c.d, dx, _, rfl, hdo, rfl, _, rfl, n + 1, c.d, c.it, c.ol, c.ll, rfl, S1.dev, fun H2 d2 b2 => ?_⟩
    have S2 := S1.devs d2 b2
    have ht2 := b2 _ _ ht (ins_ne_tup hdo ht) (lst_ne_tup hol ht) (lst_ne_tup hll ht)
    refine ⟨_, rfl, c.s, _, sx, _, _, rfl, S2.ob, T.c_State, T.a_State_own_done, rfl, _, _, rfl, rfl, _, rfl, c.s, _, sx, _, rfl, S2.ob, T.c_State, T.a_State_own_done, (show 7 < 1000 by decide), _, rfl, ?_⟩
    have S3 := S2.put (hd' := hd) (dn' := dn + 1) S2.ad
    exact q t _ r ⟨_, _, _, _, _, S3⟩ (by rw [upd_ne (ins_ne_tup S2.ob ht2)]; exact ht2) hr
  refine ⟨_, rfl, _, rfl, H0, n, c, rfl, S, ?_, fun t H1 r s1 ht hr => ?_⟩
  · refine ⟨fun σ' H' => ∃ t r, SAt K H0 H' (n + 1) c ∧ H' t = some (.tup (rowV r)) ∧ RowOk r ∧ σ' = [some (.ref c.s), some (.ref t)], ?_, ?_⟩
    · exact ⟨_, rfl, rfl, _, rfl, iteD (fun _ => ⟨_, rfl, _, rfl, H0, n, c, rfl, S, hn9, fun t H1 r s1 ht hr => ⟨t, r, s1, ht, hr, rfl⟩⟩) fun e => absurd rfl e⟩
    · rintro σ' H' ⟨t, r, s1, ht, hr, rfl⟩
      exact fin s1 ht hr
  · refine ⟨fun σ' H' => H' = H1 ∧ σ' = [some (.ref c.s), some (.ref t)], ?_, ?_⟩
    · exact ⟨_, rfl, rfl, _, rfl, iteD (fun e => nomatch e) fun _ => ⟨rfl, rfl⟩⟩
    · rintro σ' H' ⟨rfl, rfl⟩
      exact fin (s1.mono (Nat.le_succ _)) ht hr
def spRaise : Sp := sp1 fun x H Q => ∃ t, x = .ref t ∧ H t = some (.tup [.int 2, .int 3]) ∧ ∀ H', Same H H' → Q (.bl true) H'
theorem sc_is_raise : FnScope ["value", "one"] ["value"] (defScope s_is_raise) := ⟨rfl, rfl, rfl, by decide +kernel, rfl, by decide +kernel, by decide +kernel⟩
theorem ok_is_raise (T : Hd K w mg)
    (c_is_count : C8.Cal P w K mg base 2 "is_count" (spCount K) []) : C8.Cal P w K mg base 3 "is_raise" (spRaise) [] := by
  obtain ⟨fd, F⟩ := T.f_is_raise
  refine cal_of F T.g_is_raise sc_is_raise (fun _ _ _ _ _ _ us hl => match us, hl with | [_], _ => rfl) len1 (fun cdv A outer s H vs Q E hr h => ⟨_, (pss_cons (ps_if (PW.pt (pw_or (pt_not (pt_val (pe_callB call_isi (by rfl) T.b_isinstance (by decide +kernel) (pa_cons (pv 0) (pa_cons (pe_ty (n := "tuple") T.b_tuple (by rfl) (by decide +kernel)) pa_nil))))) (pw_or (pt_cmpR op_ne (pe_callB call_len (by rfl) T.b_len (by decide +kernel) (pa_cons (pv 0) pa_nil)) pe_int (nomark _)) (pw_or1 (pt_not (pt_val (pe_callB (cr_all rfl) (by rfl) T.b_all (by decide +kernel) (pa_cons (pe_lc (own := [("one", 1)]) (g := gName 1) rfl sc_is_raise.nd (pi_tup (pv 0)) (blkOk_by (own := [("one", 1)]) (N := ["value", "one"]) (sc := defScope s_is_raise) (by decide +kernel)) (fun _ _ _ _ _ => pg_name (i := 1) sc_is_raise.nd rfl (Or.inl rfl)) (fun _ _ _ _ _ => pts_nil) (fun _ _ _ _ _ => (C8.pe_c c_is_count hr (by decide) (by rfl) (pa_cons (pv 1) pa_nil)))) pa_nil)))))))) (pss_one (ps_ret pe_bl)) pss_nil) (pss_one (ps_ret (pe_cmpR op_lt (pe_ix ix_tup (pv 0) pe_int (fun _ _ => rfl)) (pe_n T.n_MANY_LINES (by rfl)) (nomark _))))), ?_⟩)
  obtain ⟨x, rfl, t, rfl, ht, q⟩ := h
  refine ⟨_, rfl, _, _, _, _, _, rfl, .ty _, .base (.tup ht), kit_ty (r := true) (by decide +kernel), _, rfl, iteF ?_⟩
  refine ⟨_, rfl, _, 2, rfl, .inr ⟨_, SqT.of ht, rfl⟩, rfl, _, rfl, iteF ?_⟩
  refine ⟨_, rfl, t, rfl, ⟨_, SqT.of ht⟩, fun D hD => lc_mapT (xs := [.int 2, .int 3]) (fun _ => V.bl true) (SqT.of ht) hD (show 2 ≤ 100000 by decide) (fun _ => rfl) (fun i x H2 hx e2 Q2 q2 => ?_) fun H2 e2 hd => ?_⟩
  · have hx2 : x = .int 2 ∨ x = .int 3 := by simpa using List.mem_of_getElem? hx
    rcases hx2 with z | z <;> subst z
    · exact ⟨_, rfl, _, rfl, Seen.int, q2 _ (Same.refl _)⟩
    · exact ⟨_, rfl, _, rfl, Seen.int, q2 _ (Same.refl _)⟩
  · refine ⟨D, [true, true], rfl, SqL.of hd, _, rfl, iteF ?_⟩
    exact ⟨_, rfl, t, _, 1, _, rfl, rfl, SqT.of (e2 _ _ ht), rfl, _, _, rfl, rfl, q _ e2⟩
def spRaised : Sp := sp1 fun x H Q => ∃ z t, x = .ref z ∧ H z = some (.lst [.ref t]) ∧ H t = some (.tup [.int 2, .int 3]) ∧ ∀ H', Same H H' → Q .non H'
theorem sc_want_raised : FnScope ["value", "one"] ["value"] (defScope s_want_raised) := ⟨rfl, rfl, rfl, by decide +kernel, rfl, by decide +kernel, by decide +kernel⟩
theorem ok_want_raised (T : Hd K w mg)
    (c_is_raise : C8.Cal P w K mg base 3 "is_raise" (spRaise) [])
    (c_is_list : C8.Cal P w K mg base 1 "is_list" (spList K) []) : C8.Cal P w K mg base 4 "want_raised" (spRaised) [] := by
  obtain ⟨fd, F⟩ := T.f_want_raised
  refine cal_of F T.g_want_raised sc_want_raised (fun _ _ _ _ _ _ us hl => match us, hl with | [_], _ => rfl) len1 (fun cdv A outer s H vs Q E hr h => ⟨_, (pss_one (ps_if (PW.pt (pw_or (pt_not (pt_val (C8.pe_c c_is_list hr (by decide) (by rfl) (pa_cons (pv 0) pa_nil)))) (pw_or (pt_cmpR op_gt (pe_callB call_len (by rfl) T.b_len (by decide +kernel) (pa_cons (pv 0) pa_nil)) (pe_n T.n_MOST_RAISED (by rfl)) (nomark _)) (pw_or1 (pt_not (pt_val (pe_callB (cr_all rfl) (by rfl) T.b_all (by decide +kernel) (pa_cons (pe_lc (own := [("one", 1)]) (g := gName 1) rfl sc_want_raised.nd (pi_list (pv 0)) (blkOk_by (own := [("one", 1)]) (N := ["value", "one"]) (sc := defScope s_want_raised) (by decide +kernel)) (fun _ _ _ _ _ => pg_name (i := 1) sc_want_raised.nd rfl (Or.inl rfl)) (fun _ _ _ _ _ => pts_nil) (fun _ _ _ _ _ => (C8.pe_c c_is_raise hr (by decide) (by rfl) (pa_cons (pv 1) pa_nil)))) pa_nil)))))))) (pss_one ps_never) pss_nil)), ?_⟩)
  obtain ⟨x, rfl, z, t, rfl, hz, ht, q⟩ := h
  refine ⟨_, rfl, _, rfl, "list", .base (.lst hz), by decide +kernel, by decide +kernel, fun H1 e1 => ⟨_, rfl, iteF ?_⟩⟩
  refine ⟨_, rfl, _, 1, rfl, .inl ⟨_, SqL.of (e1 _ _ hz), rfl⟩, _, _, rfl, rfl, _, rfl, iteF ?_⟩
  refine ⟨_, rfl, z, rfl, ⟨_, SqL.of (e1 _ _ hz)⟩, fun D hD => lc_mapL (xs := [.ref t]) (fun _ => V.bl true) (SqL.of (e1 _ _ hz)) hD (show 1 ≤ 100000 by decide) (fun _ => rfl) (fun i x H2 hx e2 Q2 q2 => ?_) fun H2 e2 hd => ?_⟩
  · have hx2 : x = .ref t := by simpa using List.mem_of_getElem? hx
    subst hx2
    exact ⟨_, rfl, _, rfl, t, rfl, e2 _ _ (e1 _ _ ht), fun H3 e3 => q2 _ e3⟩
  · exact ⟨D, [true], rfl, SqL.of hd, _, rfl, iteF (q _ (e1.trans e2))⟩
def spWantS (K : PySem.W.Frag) : Sp := sp1 fun x H Q => ∃ s dx fs, x = .ref s ∧ H s = some (.ins (He.ga K "State") dx fs) ∧ Q (.ref s) H
theorem sc_want_state : FnScope ["value"] ["value"] (defScope s_want_state) := ⟨rfl, rfl, rfl, by decide +kernel, rfl, by decide +kernel, by decide +kernel⟩
theorem ok_want_state (T : Hd K w mg) : C8.Cal P w K mg base 1 "want_state" (spWantS K) [] := by
  obtain ⟨fd, F⟩ := T.f_want_state
  refine cal_of F T.g_want_state sc_want_state (fun _ _ _ _ _ _ us hl => match us, hl with | [_], _ => rfl) len1 (fun cdv A outer s H vs Q E hr h => ⟨_, (pss_cons (ps_if (pt_not (pt_val (pe_callB (C8.call_isC T.i_State) (by rfl) T.b_isinstance (by decide +kernel) (pa_cons (pv 0) (pa_cons (pe_g T.g_State (by rfl)) pa_nil))))) (pss_one ps_never) pss_nil) (pss_one (ps_ret (pv 0)))), ?_⟩)
  obtain ⟨x, rfl, s, dx, fs, rfl, hs, q⟩ := h
  exact ⟨_, rfl, s, dx, fs, rfl, hs, _, rfl, iteF ⟨_, rfl, q⟩⟩
/-- rows stand -/
def Rows (H : Hp) (ts : List Addr) (rs : List Rw) : Prop := Paired (fun t r => H t = some (.tup (rowV r)) ∧ RowOk r) ts rs
theorem Rows.up {H H' : Hp} {ts : List Addr} {rs : List Rw} (h : Rows H ts rs) (e : ∀ t xs, H t = some (.tup xs) → H' t = some (.tup xs)) : Rows H' ts rs := by
  unfold Rows at h ⊢
  induction h with
  | nil => exact .nil
  | cons a b ih => exact .cons ⟨e _ _ a.1, a.2⟩ ih
theorem Rows.add {H : Hp} {ts : List Addr} {rs : List Rw} (h : Rows H ts rs) {t : Addr} {r : Rw} (ht : H t = some (.tup (rowV r))) (hr : RowOk r) : Rows H (ts ++ [t]) (rs ++ [r]) := by
  unfold Rows at h ⊢
  induction h with
  | nil => exact .cons ⟨ht, hr⟩ .nil
  | cons a b ih => exact .cons a ih
theorem SAt.both {H0 H : Hp} {n : Nat} {c : Mc} (h : SAt K H0 H n c) {p : Addr} (hp : H0 p ≠ none) {ys : List V} (hpl : H p = some (.lst ys)) {zs : List V} : SAt K (upd H0 p (.lst zs)) (upd H p (.lst zs)) n c :=
  let ⟨a, b, x, y, z, g⟩ := h
  ⟨a, b, x, y, z, g.both hp hpl⟩
theorem SAt.old {H0 H : Hp} {n : Nat} {c : Mc} (h : SAt K H0 H n c) : Same H0 H := let ⟨_, _, _, _, _, g⟩ := h; g.old
def spSteps (K : PySem.W.Frag) : Sp := sp3 fun x y z H Q => ∃ H0, ∃ c : Mc, ∃ u t, x = .ref c.s ∧ y = .int 6 ∧ z = .ref u ∧ SAt K H0 H 0 c ∧ H0 u = some (.lst [.ref t]) ∧ H0 t = some (.tup [.int 2, .int 3]) ∧
  ∀ p H' ts rs, H0 p = none → Same H0 H' → H' p = some (.lst (ts.map V.ref)) → Rows H' ts rs → ts.length ≤ 6 → Q (.ref p) H'
theorem sc_steps : FnScope ["state", "many", "raised", "told", "rows", "left", "number", "line"] ["state", "many", "raised"] (defScope s_steps) := ⟨rfl, rfl, rfl, by decide +kernel, rfl, by decide +kernel, by decide +kernel⟩
theorem ok_steps (T : Hd K w mg)
    (c_want_state : C8.Cal P w K mg base 1 "want_state" (spWantS K) [])
    (c_want_many : C8.Cal P w K mg base 3 "want_many" (spMany) [])
    (c_want_raised : C8.Cal P w K mg base 4 "want_raised" (spRaised) [])
    (c_Devices_raised : C8.Met P w K mg base 4 (He.ga K "Devices") "raised" (spLine K) [])
    (c_done_step : C8.Cal P w K mg base 12 "done_step" (spFetch K) []) : C8.Cal P w K mg base 13 "steps" (spSteps K) [] := by
  obtain ⟨fd, F⟩ := T.f_steps
  refine cal_of F T.g_steps sc_steps (fun _ _ _ _ _ _ us hl => match us, hl with | [_, _, _], _ => rfl) len3 (fun cdv A outer s H vs Q E hr h => ⟨_, (pss_cons (ps_set (i := 3) sc_steps.nd rfl (Or.inl rfl) (C8.pe_c c_want_state hr (by decide) (by rfl) (pa_cons (pv 0) pa_nil))) (pss_cons (ps_expr (C8.pe_c c_want_many hr (by decide) (by rfl) (pa_cons (pv 1) (pa_cons pe_int (pa_cons (pe_n T.n_MOST_STEPS (by rfl)) pa_nil))))) (pss_cons (ps_expr (C8.pe_c c_want_raised hr (by decide) (by rfl) (pa_cons (pv 2) pa_nil))) (pss_cons (ps_par (i := 4) (j := 5) rfl sc_steps.nd rfl rfl (by decide) rfl rfl (pa_cons (pe_lst pa_nil) (pa_cons (pv 1) pa_nil)) (by rfl)) (pss_cons (ps_while PassesOwn.never (PW.pt (pw_and (pt_cmpR op_gt (pv 5) pe_int (nomark _)) (pw_and1 (pt_not (pt_val (pe_fld (pv 3) rfl)))))) (pss_cons (ps_for PassesOwn.never rfl (pi_list (pv 2)) (pg_tup rfl (pgs_cons (pg_name (i := 6) sc_steps.nd rfl (Or.inl rfl)) (pgs_cons (pg_name (i := 7) sc_steps.nd rfl (Or.inl rfl)) pgs_nil))) (pss_one (ps_if (pt_cmpR op_eq (pv 6) (pe_fld (pv 3) rfl) (nomark _)) (pss_one (ps_expr (C8.pe_mt c_Devices_raised hr (by decide) (pe_fld (pv 3) rfl) (pa_cons (pv 7) pa_nil)))) pss_nil))) (pss_cons (ps_expr (pe_bm PySem.F.plainAttrs_list PySem.F.slot_list_append PySem.F.type_list_append mt_append (pv 4) (pa_cons (C8.pe_c c_done_step hr (by decide) (by rfl) (pa_cons (pv 3) pa_nil)) pa_nil))) (pss_one (ps_set (i := 5) sc_steps.nd rfl (Or.inl rfl) (pe_op op_sub (pv 5) pe_int)))))) (pss_one (ps_ret (pv 4)))))))), ?_⟩)
  obtain ⟨x, y, z, rfl, H0, c, u, t, rfl, rfl, rfl, S, hu, ht, q⟩ := h
  obtain ⟨sx, cl, ad, hd, dn, S0⟩ := id S
  refine ⟨_, rfl, _, rfl, c.s, sx, _, rfl, S0.ob, ?_⟩
  refine ⟨_, rfl, _, _, _, rfl, 6, 0, 100000, rfl, rfl, rfl, by decide, by decide, by decide, ?_⟩
  refine ⟨_, rfl, _, rfl, u, t, rfl, S.old _ _ hu, S.old _ _ ht, fun H1 e1 => ?_⟩
  refine ⟨sz0, fun rp hrp => ⟨_, rfl, _, _, rfl, ?_⟩⟩
  have S1 := S.up (e1.trans (same_new (o := .lst []) hrp))
  have hrH : H rp = none := e1.free hrp
  have hr0 : H0 rp = none := S.old.free hrH
  obtain ⟨Hf, ef, Sf, kf⟩ := S.frame (e1.trans (same_new (o := .lst []) hrp))
  let W : Nat → L2.St → Hp → Prop := fun m σ H2 => ∃ (left : Nat) (Hf : Hp) (n : Nat) (ts : List Addr) (rs : List Rw) (a b : Option V), m = left ∧ Same H0 Hf ∧ SAt K Hf H2 n c ∧ n + left ≤ 6 ∧ Hf rp = some (.lst (ts.map V.ref)) ∧ Rows Hf ts rs ∧ ts.length + left ≤ 6 ∧
    σ = [some (.ref c.s), some (.int 6), some (.ref u), some (.ref c.s), some (.ref rp), some (.int (left : Nat)), a, b]
  refine ⟨W, ⟨6, 6, Hf, 0, [], [], none, none, rfl, ef, Sf, by decide, kf _ _ upd_same (.inl hrH), .nil, by decide, rfl⟩, ?_⟩
  rintro m σ H2 ⟨left, Hf, n, ts, rs, a, b, rfl, ef, S2, hn, hrp2, hrs, hlen, rfl⟩
  obtain ⟨sx2, cl2, ad2, hd2, dn2, X2⟩ := id S2
  have done : Q (.ref rp) H2 := q rp H2 ts rs hr0 (ef.trans S2.old) (S2.old _ _ hrp2) (hrs.up fun t xs h => S2.old _ _ h) (by omega)
  refine ⟨_, rfl, _, _, rfl, rfl, _, rfl, iteD (fun hl => ⟨_, rfl, c.s, _, sx2, _, _, rfl, X2.ob, T.c_State, T.a_State_own_halted, rfl, _, rfl, iteBN (fun _ => ?_) fun _ => ⟨_, rfl, done⟩⟩) fun _ => ⟨_, rfl, done⟩⟩
  have hl' : 0 < m := by omega
  refine ⟨W (m - 1), fun σ' H' hw => ⟨m - 1, by omega, hw⟩, ?_⟩
  refine ⟨_, rfl, u, rfl, ⟨_, SqL.of (S2.old _ _ (ef _ _ hu))⟩, for_list (xs := [.ref t]) (fun i σ H' => SAt K Hf H' n c ∧ ∃ a b, σ = [some (.ref c.s), some (.int 6), some (.ref u), some (.ref c.s), some (.ref rp), some (.int (m : Nat)), a, b]) ⟨S2, _, _, rfl⟩ (fun i σ H' _ z => SqL.of (z.1.old _ _ (ef _ _ hu))) ?_ ?_⟩
  · rintro i x σ H' hx ⟨S3, a, b, rfl⟩
    have hx2 : x = .ref t := by simpa using List.mem_of_getElem? hx
    subst hx2
    obtain ⟨sx3, cl3, ad3, hd3, dn3, X3⟩ := id S3
    obtain ⟨dx, tk, st, ti, hdo, _⟩ := X3.dev.ob
    refine ⟨t, _, rfl, SqT.of (S3.old _ _ (ef _ _ ht)), rfl, _, _, rfl, _, _, rfl, rfl, ?_⟩
    refine ⟨_, rfl, _, rfl, c.s, _, sx3, _, _, rfl, X3.ob, T.c_State, T.a_State_own_done, rfl, rfl, _, rfl, iteD (fun _ => ?_) fun _ => ⟨S3, _, _, rfl⟩⟩
    exact ⟨_, rfl, c.s, _, sx3, _, _, rfl, X3.ob, T.c_State, T.a_State_own_devices, rfl, c.d, dx, _, rfl, hdo, rfl, _, rfl, _, _, rfl, n, c.d, c.it, c.ol, c.ll, 3, rfl, rfl, X3.dev, by decide, by decide, fun H4 d4 b4 => ⟨⟨_, _, _, _, _, X3.devs d4 b4⟩, _, _, rfl⟩⟩
  · rintro σ H3 ⟨S3, a, b, rfl⟩
    refine ⟨_, rfl, .inl ⟨rfl, _, SqL.of (S3.old _ _ hrp2)⟩, _, rfl, _, rfl, Hf, n, c, rfl, S3, by omega, fun qt H4 r S4 hq hr => ?_⟩
    refine ⟨rp, ts.map V.ref, _, rfl, rfl, S4.old _ _ hrp2, szl (by rw [List.length_map]; omega), _, rfl, _, _, rfl, rfl, ?_⟩
    obtain ⟨Hg, eg, S5, kg⟩ := S4.frame (Same.refl _)
    have hrpg := eg _ _ hrp2
    have S6 := S5.both (p := rp) (by rw [hrpg]; simp) (S4.old _ _ hrp2) (zs := ts.map V.ref ++ [.ref qt])
    have keep : ∀ {Hx : Hp} {t' : Addr} {xs : List V}, Hx rp = some (.lst (ts.map V.ref)) → Hx t' = some (.tup xs) → upd Hx rp (.lst (ts.map V.ref ++ [.ref qt])) t' = some (.tup xs) := fun {Hx t' xs} h1 h2 => by rw [upd_ne (lst_ne_tup h1 h2)]; exact h2
    refine ⟨m - 1, upd Hg rp (.lst (ts.map V.ref ++ [.ref qt])), n + 1, ts ++ [qt], rs ++ [r], a, b, rfl, same_mut (ef.trans eg) hr0, S6, by omega, by rw [upd_same, List.map_append]; rfl, ?_, by rw [List.length_append]; show ts.length + 1 + (m - 1) ≤ 6; omega, ?_⟩
    · exact ((hrs.up fun t xs h => eg _ _ h).up fun t' xs h => keep hrpg h).add (keep hrpg (kg _ _ hq (.inr (.inr ⟨_, rfl⟩)))) hr
    · have : ((m : Nat) : Int) - 1 = ((m - 1 : Nat) : Int) := by omega
      show [some (V.ref c.s), some (.int 6), some (.ref u), some (.ref c.s), some (.ref rp), some (.int (((m : Nat) : Int) - 1)), a, b] = _
      rw [this]
end
end K97
set_option maxHeartbeats 4000000
/-! A state is made. -/
namespace K97
open PySem PySem.Spec PyProof.Rows L2 RZ
local macro_rules | `(tactic| walk_at "v") => `(tactic| refine ⟨_, rfl, ?_⟩)
local macro_rules | `(tactic| walk_at "ii") => `(tactic| refine ⟨_, _, rfl, rfl, ?_⟩)
/-- one step of a reading: a name, two whole numbers, a scalar comparison, a truth value -/
local macro_rules | `(tactic| walk_at "s") => `(tactic| first | refine ⟨_, rfl, ?_⟩ | refine ⟨_, _, rfl, rfl, ?_⟩ | refine ⟨rfl, ?_⟩ | exact iteT (by walk_at "s") | exact iteF (by walk_at "s"))
local macro_rules | `(tactic| walk_at "r") => `(tactic| (repeat (first | refine ⟨_, rfl, ?_⟩ | refine ⟨_, _, rfl, rfl, ?_⟩ | refine ⟨rfl, ?_⟩ | refine iteT ?_ | refine iteF ?_)))

section
variable {P : Program} {w : World} {K : PySem.W.Frag} {mg : Str → Option Value} {base : Heap}
theorem MemAt.beside {H : Hp} {m wl p C x : Addr} {ws : List V} {f : List (Str × V)} (h : MemAt K H m wl ws) (hp : H p = some (.ins C x f)) (ne : m ≠ p) {o : HO} : MemAt K (upd H p o) m wl ws := by
  obtain ⟨mx, ho⟩ := h.ob
  exact ⟨⟨mx, by rw [upd_ne ne]; exact ho⟩, by rw [upd_ne (ins_ne_lst hp h.wo)]; exact h.wo, h.wd⟩
theorem DevAt.beside {H : Hp} {n : Nat} {d it ol ll p C x : Addr} {f : List (Str × V)} (h : DevAt K H n d it ol ll) (hp : H p = some (.ins C x f)) (ne : d ≠ p) {o : HO} : DevAt K (upd H p o) n d it ol ll := by
  obtain ⟨a, b, y, z, h1, h2⟩ := h.ob
  obtain ⟨xs, h3, h4⟩ := h.out
  obtain ⟨a1, a2, a3, a4, h5⟩ := h.lin
  exact ⟨⟨a, b, y, z, by rw [upd_ne ne]; exact h1, h2⟩, by rw [upd_ne (ins_ne_tup hp h.inp)]; exact h.inp, ⟨xs, by rw [upd_ne (ins_ne_lst hp h3)]; exact h3, h4⟩, ⟨a1, a2, a3, a4, by rw [upd_ne (ins_ne_lst hp h5)]; exact h5⟩, h.ne⟩
def spStateI (K : PySem.W.Frag) : Sp := sp3 fun x y z H Q => ∃ H0 p dx m wl ws l, x = .ref p ∧ y = .ref m ∧ z = .ref l ∧ H p = some (.ins (He.ga K "State") dx []) ∧ MemAt K H m wl ws ∧ H l = some (.lst [.int 5]) ∧ Same H0 H ∧ H0 p = none ∧ m ≠ p ∧
  ∀ c H', c.s = p → SAt K H0 H' 0 c → Q .non H'
theorem sc_State_init : FnScope ["self", "memory", "inputs"] ["self", "memory", "inputs"] (defScope s_State_init) := ⟨rfl, rfl, rfl, by decide +kernel, rfl, by decide +kernel, by decide +kernel⟩
theorem ok_State_init (T : Hd K w mg)
    (c_Devices : C8.Mak P w K mg base 5 "Devices" (He.ga K "Devices") (spDevI K) [])
    (c_Memory_copy : C8.Met P w K mg base 3 (He.ga K "Memory") "copy" (spMemC K) [])
    (c_controls_at_first : C8.Cal P w K mg base 1 "controls_at_first" (spNew (Wds 8)) []) : C8.Mak P w K mg base 7 "State" (He.ga K "State") (spStateI K) [] := by
  obtain ⟨fd, F⟩ := T.f_State_init
  refine mak_of T.k_State T.g_State F sc_State_init (fun _ _ _ _ _ _ us hl => match us, hl with | [_, _, _], _ => rfl) len3 (fun cdv A outer s H vs Q E hr h => ⟨_, (pss_cons (ps_if (pt_not (pt_val (pe_callB (C8.call_isC T.i_Memory) (by rfl) T.b_isinstance (by decide +kernel) (pa_cons (pv 1) (pa_cons (pe_g T.g_Memory (by rfl)) pa_nil))))) (pss_one ps_never) pss_nil) (pss_cons (ps_fld (pv 0) (C8.pe_mk c_Devices hr (by decide) (by rfl) (pa_cons (pv 2) pa_nil)) rfl) (pss_cons (ps_fld (pv 0) (C8.pe_mt0 c_Memory_copy hr (by decide) (pv 1)) rfl) (pss_cons (ps_fld (pv 0) (pe_op op_rep (pe_lst (pa_cons pe_int pa_nil)) (pe_n T.n_MANY_REGISTERS (by rfl))) rfl) (pss_cons (ps_fld (pv 0) (pe_c0 c_controls_at_first hr (by decide) (by rfl)) rfl) (pss_cons (ps_fld (pv 0) pe_int rfl) (pss_cons (ps_fld (pv 0) pe_bl rfl) (pss_one (ps_fld (pv 0) pe_int rfl))))))))), ?_⟩)
  obtain ⟨x, y, z, rfl, H0, p, dx, m, wl, ws, l, rfl, rfl, rfl, hp, hm, hl, e0, hp0, hmp, q⟩ := h
  obtain ⟨mx, hmo⟩ := hm.ob
  refine ⟨_, rfl, m, mx, _, rfl, hmo, _, rfl, iteF ?_⟩
  refine ⟨_, rfl, fun d dn hd hdn hne => ?_⟩
  have ea : Same H (upd (upd H dn (.own d)) d (.ins (He.ga K "Devices") dn [])) := (same_new hdn).trans (same_new (by rw [upd_ne hne.symm]; exact hd))
  refine ⟨_, _, rfl, d, dn, l, rfl, rfl, upd_same, ea _ _ hl, fun it ol ll H1 hit hol hll D1 k1 => ⟨rfl, ?_⟩⟩
  have e1 : Same H H1 := fun b o h => k1 b o (ea _ _ h) (ne_of_none h hd)
  have hp1 := e1 _ _ hp
  have dp : d ≠ p := fun e => by rw [e] at hd; rw [hd] at hp; cases hp
  refine ⟨_, rfl, p, _, dx, _, rfl, hp1, T.c_State, T.a_State_own_devices, (show 0 < 1000 by decide), ?_⟩
  have D2 := D1.beside hp1 dp (o := .ins (He.ga K "State") dx [("own_devices", .ref d)])
  have M2 := (hm.up e1).beside hp1 hmp (o := .ins (He.ga K "State") dx [("own_devices", .ref d)])
  have s2 : Same H0 (upd H1 p (.ins (He.ga K "State") dx [("own_devices", .ref d)])) := same_mut (e0.trans e1) hp0
  obtain ⟨mx2, hmo2⟩ := M2.ob
  refine ⟨_, rfl, m, mx2, _, rfl, hmo2, rfl, _, rfl, m, wl, ws, rfl, M2, fun m2 w2 ws2 H3 hm2 hw2 e3 M3 => ?_⟩
  have hp3 : H3 p = some (.ins (He.ga K "State") dx [("own_devices", .ref d)]) := e3 _ _ upd_same
  have D3 := D2.up e3
  have m2p : m2 ≠ p := fun e => by rw [e, upd_same] at hm2; cases hm2
  refine ⟨_, rfl, p, _, dx, _, rfl, hp3, T.c_State, T.a_State_own_memory, (show 1 < 1000 by decide), ?_⟩
  have D4 := D3.beside hp3 dp (o := .ins (He.ga K "State") dx [("own_devices", .ref d), ("own_memory", .ref m2)])
  have M4 := M3.beside hp3 m2p (o := .ins (He.ga K "State") dx [("own_devices", .ref d), ("own_memory", .ref m2)])
  have s4 := same_mut (o := .ins (He.ga K "State") dx [("own_devices", .ref d), ("own_memory", .ref m2)]) (s2.trans e3) hp0
  refine ⟨sz1, fun l0 hl0 => ⟨l0, 8, [.int 0], rfl, rfl, upd_same, by decide, by decide, sz (by decide), fun rl hrl => ?_⟩⟩
  have e5 := (same_new (o := .lst [.int 0]) hl0).trans (same_new (o := .lst (List.replicate (8 : Int).toNat [V.int 0]).flatten) hrl)
  have hrl0 : upd H3 p (.ins (He.ga K "State") dx [("own_devices", .ref d), ("own_memory", .ref m2)]) rl = none := same_free (same_new hl0) hrl
  have D5 := D4.up e5
  have M5 := M4.up e5
  have hp5 := e5 _ _ (upd_same (H := H3) (a := p) (o := .ins (He.ga K "State") dx [("own_devices", .ref d), ("own_memory", .ref m2)]))
  refine ⟨_, rfl, p, _, dx, _, rfl, hp5, T.c_State, T.a_State_own_registers, (show 2 < 1000 by decide), ?_⟩
  have hrlv : (List.replicate (8 : Int).toNat [V.int 0]).flatten = List.replicate 8 (V.int 0) := by decide +kernel
  have F3 : List (Str × V) := [("own_devices", .ref d), ("own_memory", .ref m2), ("own_registers", .ref rl)]
  have D6 := D5.beside hp5 dp (o := .ins (He.ga K "State") dx [("own_devices", .ref d), ("own_memory", .ref m2), ("own_registers", .ref rl)])
  have M6 := M5.beside hp5 m2p (o := .ins (He.ga K "State") dx [("own_devices", .ref d), ("own_memory", .ref m2), ("own_registers", .ref rl)])
  have s6 := same_mut (o := .ins (He.ga K "State") dx [("own_devices", .ref d), ("own_memory", .ref m2), ("own_registers", .ref rl)]) (s4.trans e5) hp0
  refine ⟨rfl, fun cl H7 cs hcl e7 hcs wcs => ?_⟩
  have hp7 := e7 _ _ upd_same
  refine ⟨_, rfl, p, _, dx, _, rfl, hp7, T.c_State, T.a_State_own_controls, (show 3 < 1000 by decide), ?_⟩
  refine ⟨_, rfl, p, _, dx, _, rfl, upd_same, T.c_State, T.a_State_own_address, (show 4 < 1000 by decide), ?_⟩
  refine ⟨_, rfl, p, _, dx, _, rfl, upd_same, T.c_State, T.a_State_own_halted, (show 5 < 1000 by decide), ?_⟩
  refine ⟨_, rfl, p, _, dx, _, rfl, upd_same, T.c_State, T.a_State_own_done, (show 6 < 1000 by decide), ?_⟩
  have uu : ∀ {G : Hp} {o1 o2 : HO}, upd (upd G p o1) p o2 = upd G p o2 := fun {G o1 o2} => by
    funext b
    by_cases hb : b = p
    · rw [hb, upd_same, upd_same]
    · rw [upd_ne hb, upd_ne hb, upd_ne hb]
  rw [uu, uu, uu]
  have D7 := (D6.up e7).beside hp7 dp (o := .ins (He.ga K "State") dx (fS ⟨p, d, it, ol, ll, m2, w2, rl⟩ cl 0 false 0))
  have M7 := (M6.up e7).beside hp7 m2p (o := .ins (He.ga K "State") dx (fS ⟨p, d, it, ol, ll, m2, w2, rl⟩ cl 0 false 0))
  have s7 := same_mut (o := .ins (He.ga K "State") dx (fS ⟨p, d, it, ol, ll, m2, w2, rl⟩ cl 0 false 0)) (s6.trans e7) hp0
  have ne_ : ∀ {G : Hp} {a b : Addr} {o : HO}, G a = some o → G b = none → a ≠ b := fun {G a b o} h1 h2 e => by rw [e, h2] at h1; cases h1
  obtain ⟨xo2, ho2, _⟩ := D2.out
  obtain ⟨y1, y2, y3, y4, hl2⟩ := D2.lin
  obtain ⟨x1, x2, x3, x4, hd2, _⟩ := D2.ob
  obtain ⟨xo4, ho4, _⟩ := D4.out
  obtain ⟨z1, z2, z3, z4, hl4⟩ := D4.lin
  obtain ⟨xo6, ho6, _⟩ := D6.out
  obtain ⟨v1, v2, v3, v4, hl6⟩ := D6.lin
  have rlp : rl ≠ p := fun e => by rw [e, upd_same] at hrl0; cases hrl0
  have R6 : upd (upd (upd (upd H3 p (.ins (He.ga K "State") dx [("own_devices", .ref d), ("own_memory", .ref m2)])) l0 (.lst [V.int 0])) rl (.lst (List.replicate (8 : Int).toNat [V.int 0]).flatten)) p (.ins (He.ga K "State") dx [("own_devices", .ref d), ("own_memory", .ref m2), ("own_registers", .ref rl)]) rl = some (.lst (List.replicate 8 (V.int 0))) := by
    rw [upd_ne rlp, upd_same, hrlv]
  have R7 : upd H7 p (.ins (He.ga K "State") dx (fS ⟨p, d, it, ol, ll, m2, w2, rl⟩ cl 0 false 0)) rl = some (.lst (List.replicate 8 (V.int 0))) := by
    rw [upd_ne rlp]; exact e7 _ _ R6
  have C7 : upd H7 p (.ins (He.ga K "State") dx (fS ⟨p, d, it, ol, ll, m2, w2, rl⟩ cl 0 false 0)) cl = some (.lst cs) := by
    rw [upd_ne (ins_ne_lst hp7 hcs)]; exact hcs
  refine q ⟨p, d, it, ol, ll, m2, w2, rl⟩ _ rfl ⟨dx, cl, 0, false, 0, upd_same, ⟨by decide, by decide⟩, ⟨_, C7, wcs⟩, s6.free hcl, ?_, D7, ⟨_, M7⟩, ⟨_, R7, wds_zeros 8⟩, s7, ?_, ?_, ?_⟩
  · have g1 := ne_ ho6 hcl
    have g2 := ne_ hl6 hcl
    have g3 := ne_ M6.wo hcl
    have g4 := ne_ R6 hcl
    simp only [List.mem_cons, List.not_mem_nil, or_false, not_or]
    exact ⟨g1.symm, g2.symm, g3.symm, g4.symm⟩
  · intro b hb
    simp only [List.mem_cons, List.not_mem_nil, or_false] at hb
    rcases hb with z | z | z | z | z | z | z <;> rw [z]
    · exact hp0
    · exact e0.free hd
    · exact s2.free hm2
    · exact (e0.trans ea).free hol
    · exact (e0.trans ea).free hll
    · exact s2.free hw2
    · exact s4.free hrl0
  · have g1 := ne_ hd2 hm2
    simp only [List.nodup_cons, List.mem_cons, List.not_mem_nil, or_false, not_or, not_false_eq_true, List.nodup_nil, and_true]
    exact ⟨⟨dp.symm, m2p.symm⟩, g1⟩
  · have g1 := ne_ ho2 hw2
    have g2 := ne_ hl2 hw2
    have g3 := ne_ ho4 hrl0
    have g4 := ne_ hl4 hrl0
    have g5 := ne_ M4.wo hrl0
    simp only [List.nodup_cons, List.mem_cons, List.not_mem_nil, or_false, not_or, not_false_eq_true, List.nodup_nil, and_true]
    exact ⟨⟨D1.ne, g1, g3⟩, ⟨g2, g4⟩, g5⟩
end
end K97
set_option maxHeartbeats 4000000
/-! Texts of instructions; rows told apart. -/
namespace K97
open PySem PySem.Spec PyProof.Rows L2 RZ
local macro_rules | `(tactic| walk_at "v") => `(tactic| refine ⟨_, rfl, ?_⟩)
local macro_rules | `(tactic| walk_at "ii") => `(tactic| refine ⟨_, _, rfl, rfl, ?_⟩)
/-- one step of a reading: a name, two whole numbers, a scalar comparison, a truth value -/
local macro_rules | `(tactic| walk_at "s") => `(tactic| first | refine ⟨_, rfl, ?_⟩ | refine ⟨_, _, rfl, rfl, ?_⟩ | refine ⟨rfl, ?_⟩ | exact iteT (by walk_at "s") | exact iteF (by walk_at "s"))
local macro_rules | `(tactic| walk_at "r") => `(tactic| (repeat (first | refine ⟨_, rfl, ?_⟩ | refine ⟨_, _, rfl, rfl, ?_⟩ | refine ⟨rfl, ?_⟩ | refine iteT ?_ | refine iteF ?_)))

section
variable {P : Program} {w : World} {K : PySem.W.Frag} {mg : Str → Option Value} {base : Heap}
abbrev tx (i : Int) : Str := Str.ofString (toString i)
theorem tx_len {i : Int} (h : i.natAbs < 100000) : (tx i).length ≤ 6 := by
  show (Str.ofString (toString i)).length ≤ 6
  rw [PySem.ofString_length]
  exact int_text_length_le10 (k := 5) (by decide) h
theorem tx_log {i : Int} (h : i.natAbs < 100000) : i.natAbs.log2 < 1920 := by
  by_cases h0 : i.natAbs = 0
  · rw [h0]; decide
  · exact Nat.lt_trans ((Nat.log2_lt h0).mpr (show i.natAbs < 2 ^ 17 by omega)) (by decide)
def insT (k : Nat) (rs : List Int) (n : Int) : List Str := nmk k :: (rs.map (fun r => (("r" : Str) ++ tx r)) ++ (if widF (fo k) = 0 then [] else [tx n]))
def insText (k : Nat) (rs : List Int) (n : Int) : Str := Txt.join (" " : Str) (insT k rs n)
def spListing (K : PySem.W.Frag) : Sp := sp1 fun x H Q => ∃ p k rs n, x = .ref p ∧ H p = some (.tup (insV k rs n)) ∧ Raw k rs ∧ n.natAbs < 100000 ∧ ∀ H', Same H H' → Q (.str (insText k rs n)) H'
def tR (x : V) : V := match x with
  | .int i => .str (("r" : Str) ++ tx i)
  | _ => .non
def tN (x : V) : V := match x with
  | .int i => .str (tx i)
  | _ => .non
theorem nmk_len : ∀ k, k < 26 → (nmk k).length ≤ 4 := by decide +kernel
theorem app_len (a b : Str) : (a ++ b).length = a.length + b.length := Str.length_append a b
theorem sum_le {b : Nat} : ∀ {l : List Nat}, (∀ x ∈ l, x ≤ b) → l.sum ≤ l.length * b
  | [], _ => by simp
  | x :: l, h => by
    have h1 := h x (List.mem_cons_self ..)
    have h2 := sum_le (l := l) fun y hy => h y (List.mem_cons_of_mem _ hy)
    rw [List.sum_cons, List.length_cons, Nat.add_mul, Nat.one_mul]
    omega
theorem insT_len {k : Nat} {rs : List Int} {n : Int} (R : Raw k rs) (hn : n.natAbs < 100000) : (insT k rs n).length ≤ 5 ∧ ∀ y ∈ insT k rs n, y.length ≤ 7 := by
  have h3 := reg_le _ (fo_lt k R.kl)
  refine ⟨?_, fun y hy => ?_⟩
  · unfold insT
    rw [List.length_cons, List.length_append, List.length_map, R.len]
    split <;> simp <;> omega
  · unfold insT at hy
    rcases List.mem_cons.mp hy with rfl | hy
    · exact Nat.le_trans (nmk_len k R.kl) (by decide)
    · rcases List.mem_append.mp hy with hy | hy
      · obtain ⟨r, hr, rfl⟩ := List.mem_map.mp hy
        have := R.r8 r hr
        have h1 := tx_len (i := r) (by omega)
        rw [app_len]
        have : ("r" : Str).length = 1 := by decide +kernel
        omega
      · split at hy
        · cases hy
        · rw [List.mem_singleton.mp hy]
          exact Nat.le_trans (tx_len hn) (by decide)
theorem insT_sum {k : Nat} {rs : List Int} {n : Int} (R : Raw k rs) (hn : n.natAbs < 100000) : ((insT k rs n).map (·.length)).sum + (insT k rs n).length * (" " : Str).length ≤ 16777216 := by
  obtain ⟨h1, h2⟩ := insT_len R hn
  have h3 := sum_le (b := 7) (l := (insT k rs n).map (·.length)) fun x hx => by
    obtain ⟨y, hy, rfl⟩ := List.mem_map.mp hx
    exact h2 y hy
  rw [List.length_map] at h3
  have h4 : (" " : Str).length = 1 := by decide +kernel
  rw [h4]
  omega
theorem sc_listing_text : FnScope ["instruction", "registers", "words", "one", "number"] ["instruction"] (defScope s_listing_text) := ⟨rfl, rfl, rfl, by decide +kernel, rfl, by decide +kernel, by decide +kernel⟩
theorem ok_listing_text (T : Hd K w mg) : C8.Cal P w K mg base 1 "listing_text" (spListing K) [] := by
  obtain ⟨fd, F⟩ := T.f_listing_text
  refine cal_of F T.g_listing_text sc_listing_text (fun _ _ _ _ _ _ us hl => match us, hl with | [_], _ => rfl) len1 (fun cdv A outer s H vs Q E hr h => ⟨_, (pss_cons (ps_set (i := 1) sc_listing_text.nd rfl (Or.inl rfl) (pe_ix ix_tup (pe_ix ix_kdict (pe_g T.g_SHAPES (by rfl)) (pe_ix ix_kdict (pe_g T.g_FORMS (by rfl)) (pe_ix ix_tup (pv 0) pe_int (fun _ _ => rfl)) (fun _ _ => rfl)) (fun _ _ => rfl)) pe_int (fun _ _ => rfl))) (pss_cons (ps_set (i := 2) sc_listing_text.nd rfl (Or.inl rfl) (pe_op op_cat (pe_lst (pa_cons (pe_ix ix_tup (pv 0) pe_int (fun _ _ => rfl)) pa_nil)) (pe_lc (own := [("one", 3)]) (g := gName 3) rfl sc_listing_text.nd (pi_tup (pe_slice sl_tup (pv 0) (po_some pe_int) (po_some (pe_op op_add pe_int (pv 1))))) (blkOk_by (own := [("one", 3)]) (N := ["instruction", "registers", "words", "one", "number"]) (sc := defScope s_listing_text) (by decide +kernel)) (fun _ _ _ _ _ => pg_name (i := 3) sc_listing_text.nd rfl (Or.inl rfl)) (fun _ _ _ _ _ => pts_nil) (fun _ _ _ _ _ => (pe_joined (.cons pe_str (.cons (pe_fmt (pv 3)) .nil))))))) (pss_one (ps_ret (pe_join pe_str (pe_op op_cat (pv 2) (pe_lc (own := [("number", 4)]) (g := gName 4) rfl sc_listing_text.nd (pi_tup (pe_slice sl_tupA (pv 0) (po_some (pe_op op_add pe_int (pv 1))) po_none)) (blkOk_by (own := [("number", 4)]) (N := ["instruction", "registers", "words", "one", "number"]) (sc := defScope s_listing_text) (by decide +kernel)) (fun _ _ _ _ _ => pg_name (i := 4) sc_listing_text.nd rfl (Or.inl rfl)) (fun _ _ _ _ _ => pts_nil) (fun _ _ _ _ _ => (pe_joined1 (pe_fmt (pv 4))))))))))), ?_⟩)
  obtain ⟨x, rfl, p, k, rs, n, rfl, hx, R, hn, q⟩ := h
  obtain ⟨sp, hs, hsq⟩ := shape_at T (fo_lt k R.kl)
  have h0 : atI (insV k rs n) 0 = some (.str (nmk k)) := at_of (j := 0) rfl rfl
  have h3 := reg_le _ (fo_lt k R.kl)
  refine ⟨_, rfl, p, _, 0, _, rfl, rfl, SqT.of hx, h0, _, _, _, rfl, rfl, forms_at T R.kl, _, _, _, rfl, rfl, hs, sp, _, 0, _, rfl, rfl, hsq _, rfl, ?_⟩
  refine ⟨_, rfl, p, _, 0, _, rfl, rfl, SqT.of hx, h0, sz1, fun l1 hl1 => ?_⟩
  have e1 := same_new (o := .lst [.str (nmk k)]) hl1
  refine ⟨_, rfl, _, rfl, _, rfl, _, _, rfl, rfl, _, rfl, p, _, rfl, SqT.of (e1 _ _ hx), insV_no k n R, fun c hc => ?_⟩
  rw [insV_cut k n R]
  have e2 := e1.trans (same_new (o := .tup (rs.map V.int)) hc)
  refine ⟨c, rfl, ⟨_, SqT.of upd_same⟩, fun D hD => lc_mapT (te := fun σ H Q => tJs [tC (.str "r"), tFmt (tVar 3)] Str.empty σ H fun out H1 => Q (.str out) H1) (xs := rs.map V.int) tR (SqT.of upd_same) hD (by rw [List.length_map, R.len]; omega) (fun _ => rfl) (fun i x H2 hx2 e3 Q2 q2 => ?_) fun H2 e3 hd => ?_⟩
  · obtain ⟨y, hy, rfl⟩ := List.mem_map.mp (List.mem_of_getElem? hx2)
    have hy8 := R.r8 y hy
    have hyn : y.natAbs < 100000 := by omega
    refine ⟨_, rfl, (by decide +kernel), _, rfl, .inr ⟨y, rfl, tx_log hyn, _, rfl, sz ?_, ?_⟩⟩
    · have h6 : (Str.ofString (toString y)).length ≤ 6 := tx_len hyn
      have h1 : (Str.empty ++ ("r" : Str)).length = 1 := by decide +kernel
      rw [app_len, h1]; omega
    · rw [Str.empty_append]
      exact q2 _ (Same.refl _)
  have E3 := e2.trans e3
  have hl1' : H2 l1 = some (.lst [.str (nmk k)]) := e3 _ _ (same_new hc _ _ upd_same)
  refine ⟨l1, D, _, _, rfl, rfl, hl1', hd, sz (by rw [List.length_map, List.length_map, R.len]; simp; omega), fun l4 hl4 => ?_⟩
  have e4 := E3.trans (same_new (o := .lst ([V.str (nmk k)] ++ (rs.map V.int).map tR)) hl4)
  refine ⟨⟨_, rfl⟩, _, rfl, _, rfl, _, rfl, _, _, rfl, rfl, _, rfl, ?_⟩
  dsimp only [tNoPart]
  refine slA_any (SqT.of (e4 _ _ hx)) fun b Hb eb hb => ?_
  rw [insV_tail k n R] at hb
  have e5 := e4.trans eb
  refine ⟨b, rfl, ⟨_, hb⟩, fun D2 hD2 => lc_mapT (te := tFmt (tVar 4)) (xs := if widF (fo k) = 0 then [] else [V.int n]) tN hb hD2 (by split <;> simp) (fun _ => rfl) (fun i x H5 hx2 e6 Q2 q2 => ?_) fun H5 e6 hd2 => ?_⟩
  · have hx3 : x = .int n := by
      have := List.mem_of_getElem? hx2
      split at this
      · cases this
      · exact List.mem_singleton.mp this
    subst hx3
    exact ⟨_, rfl, .inr ⟨n, rfl, tx_log hn, q2 _ (Same.refl _)⟩⟩
  have hl4' : H5 l4 = some (.lst ([V.str (nmk k)] ++ (rs.map V.int).map tR)) := e6 _ _ (eb _ _ upd_same)
  refine ⟨l4, D2, _, _, rfl, rfl, hl4', hd2, sz ?_, fun l6 hl6 => ?_⟩
  · rw [List.length_append, List.length_map, List.length_map, List.length_map, R.len]
    split <;> simp <;> omega
  have hfin : [V.str (nmk k)] ++ (rs.map V.int).map tR ++ (if widF (fo k) = 0 then [] else [V.int n]).map tN = (insT k rs n).map V.str := by
    unfold insT
    rw [List.map_map, List.map_cons, List.map_append, List.map_map]
    have : (tR ∘ V.int) = (V.str ∘ fun r => (("r" : Str) ++ tx r)) := rfl
    rw [this]
    split <;> rfl
  rw [hfin]
  exact ⟨_, l6, insT k rs n, rfl, rfl, .inl (SqL.of upd_same), insT_sum R hn, q _ (e5.trans (e6.trans (same_new hl6)))⟩
end
end K97
set_option maxHeartbeats 4000000
/-! What a row is; its text. -/
namespace K97
open PySem PySem.Spec PyProof.Rows L2 RZ
local macro_rules | `(tactic| walk_at "v") => `(tactic| refine ⟨_, rfl, ?_⟩)
local macro_rules | `(tactic| walk_at "ii") => `(tactic| refine ⟨_, _, rfl, rfl, ?_⟩)
/-- one step of a reading: a name, two whole numbers, a scalar comparison, a truth value -/
local macro_rules | `(tactic| walk_at "s") => `(tactic| first | refine ⟨_, rfl, ?_⟩ | refine ⟨_, _, rfl, rfl, ?_⟩ | refine ⟨rfl, ?_⟩ | exact iteT (by walk_at "s") | exact iteF (by walk_at "s"))
local macro_rules | `(tactic| walk_at "r") => `(tactic| (repeat (first | refine ⟨_, rfl, ?_⟩ | refine ⟨_, _, rfl, rfl, ?_⟩ | refine ⟨rfl, ?_⟩ | refine iteT ?_ | refine iteF ?_)))

section
variable {P : Program} {w : World} {K : PySem.W.Frag} {mg : Str → Option Value} {base : Heap}
def isN : V → Bool
  | .non => true
  | _ => false
theorem isN_dec (x : V) : decide (x = .non) = isN x := by cases x <;> rfl
/-- both lack, or both are below -/
def pairB (n m : Int) (x y : V) : Bool := if isN x || isN y then isN x && isN y else isB n x && isB m y
def spPair (P : Program) (w : World) (K : PySem.W.Frag) (mg : Str → Option Value) (base : Heap) : Sp := sp4 fun f g x y H Q => ∃ fa fb n m, f = .ref fa ∧ g = .ref fb ∧ Callee P w K mg base 3 fa (spBelow K n) ∧ Callee P w K mg base 3 fb (spBelow K m) ∧
  Seen K H x ∧ Seen K H y ∧ Q (.bl (pairB n m x y)) H
theorem sc_is_pair : FnScope ["is_one", "is_other", "one", "other"] ["is_one", "is_other", "one", "other"] (defScope s_is_pair) := ⟨rfl, rfl, rfl, by decide +kernel, rfl, by decide +kernel, by decide +kernel⟩
theorem ok_is_pair (T : Hd K w mg)
    (c_is_register : C8.Cal P w K mg base 3 "is_register" (spBelow K 8) [])
    (c_is_word : C8.Cal P w K mg base 3 "is_word" (spBelow K 65536) [])
    (c_is_place : C8.Cal P w K mg base 3 "is_place" (spBelow K 1024) []) : C8.Cal P w K mg base 4 "is_pair" (spPair P w K mg base) [] := by
  obtain ⟨fd, F⟩ := T.f_is_pair
  refine cal_of F T.g_is_pair sc_is_pair (fun _ _ _ _ _ _ us hl => match us, hl with | [_, _, _, _], _ => rfl) len4 (fun cdv A outer s H vs Q E hr h => ⟨_, (pss_cons (ps_if (PW.pt (pw_or (pt_cmpR op_isN (pv 2) pe_non (nomark _)) (pw_or1 (pt_cmpR op_isN (pv 3) pe_non (nomark _))))) (pss_one (ps_ret (pe_and (pe_cmpR op_isN (pv 2) pe_non (nomark _)) (pe_one (pe_cmpR op_isN (pv 3) pe_non (nomark _)))))) pss_nil) (pss_one (ps_ret (pe_and (pe_cvX (pv 0) takes0 hr (pa_cons (pv 2) pa_nil)) (pe_one (pe_cvX (pv 1) takes0 hr (pa_cons (pv 3) pa_nil))))))), ?_⟩)
  obtain ⟨f, g, x, y, rfl, fa, fb, n, m, rfl, rfl, c1, c2, sx, sy, q⟩ := h
  refine ⟨_, rfl, rfl, _, rfl, ?_⟩
  rw [isN_dec]
  cases hx : isN x with
  | true =>
    refine iteT (iteT ⟨_, rfl, rfl, _, rfl, ?_⟩)
    rw [isN_dec, hx]
    refine iteT ⟨_, rfl, rfl, q_bl q ?_⟩
    rw [isN_dec]
    unfold pairB; rw [hx]; rfl
  | false =>
    refine iteF ⟨_, rfl, rfl, _, rfl, ?_⟩
    rw [isN_dec]
    cases hy : isN y with
    | true =>
      refine iteT ⟨_, rfl, rfl, _, rfl, ?_⟩
      rw [isN_dec, hx]
      refine iteF (q_bl q ?_)
      unfold pairB; rw [hx, hy]; rfl
    | false =>
      refine iteF ⟨_, rfl, fa, spBelow K n, rfl, c1, _, rfl, _, rfl, sx, _, rfl, ?_⟩
      refine iteB (fun h1 => ⟨_, rfl, fb, spBelow K m, rfl, c2, _, rfl, _, rfl, sy, q_bl q ?_⟩) fun h1 => q_bl q ?_
      · unfold pairB; rw [hx, hy, h1]; rfl
      · unfold pairB; rw [hx, hy, h1]; rfl
def ltC : V → Bool
  | .int i => decide (i < 32)
  | _ => false
def rowB : List V → Bool
  | [a, w, c, r, v, p, s] => isB 4096 a && ((isN w || isB 65536 w) && ((isC c && ltC c) && (pairB 8 65536 r v && pairB 1024 65536 p s)))
  | _ => false
theorem rowB_eq (a w c r v p s : V) : rowB [a, w, c, r, v, p, s] = (isB 4096 a && ((isN w || isB 65536 w) && ((isC c && ltC c) && (pairB 8 65536 r v && pairB 1024 65536 p s)))) := rfl
/-- a value that may be taken for a row: is it one -/
inductive Arg (K : PySem.W.Frag) (H : Hp) : V → Bool → Prop
  | non : Arg K H .non false
  | int (i : Int) : Arg K H (.int i) false
  | bl (b : Bool) : Arg K H (.bl b) false
  | str (z : Str) : Arg K H (.str z) false
  | lst {a : Addr} {xs : List V} (h : H a = some (.lst xs)) : Arg K H (.ref a) false
  | dK {a : Addr} {kvs : List (Key × V)} (h : H a = some (.dK kvs)) : Arg K H (.ref a) false
  | tup {a : Addr} {xs : List V} (h : H a = some (.tup xs)) (hs : ∀ y ∈ xs, Seen K H y) : Arg K H (.ref a) (rowB xs)
theorem Seen.up {H H' : Hp} {x : V} (h : Seen K H x) (e : Same H H') : Seen K H' x := by
  obtain ⟨t, h1, h2⟩ := h
  exact ⟨t, tyx_up h1 e, h2⟩
theorem Arg.up {H H' : Hp} {x : V} {b : Bool} (h : Arg K H x b) (e : Same H H') : Arg K H' x b := by
  cases h with
  | non => exact .non
  | int i => exact .int i
  | bl b => exact .bl b
  | str z => exact .str z
  | lst h => exact .lst (e _ _ h)
  | dK h => exact .dK (e _ _ h)
  | tup h hs => exact .tup (e _ _ h) fun y hy => (hs y hy).up e
theorem Arg.one {H : Hp} {x : V} {a b : Bool} (h : Arg K H x a) (h' : Arg K H x b) : a = b := by
  cases h with
  | non => cases h'; rfl
  | int i => cases h'; rfl
  | bl b => cases h'; rfl
  | str z => cases h'; rfl
  | lst h =>
    cases h' with
    | lst g => rfl
    | dK g => rfl
    | tup g hs => rw [h] at g; cases g
  | dK h =>
    cases h' with
    | lst g => rfl
    | dK g => rfl
    | tup g hs => rw [h] at g; cases g
  | tup h hs =>
    cases h' with
    | lst g => rw [h] at g; cases g
    | dK g => rw [h] at g; cases g
    | tup g hs => rw [h] at g; cases g; rfl
def spIsRow (K : PySem.W.Frag) : Sp := sp1 fun x H Q => ∃ b, Arg K H x b ∧ Q (.bl b) H
theorem sc_is_row_value : FnScope ["value", "address", "word", "cause", "which", "told", "place", "stored"] ["value"] (defScope s_is_row_value) := ⟨rfl, rfl, rfl, by decide +kernel, rfl, by decide +kernel, by decide +kernel⟩
theorem ok_is_row_value (T : Hd K w mg)
    (c_is_register : C8.Cal P w K mg base 3 "is_register" (spBelow K 8) [])
    (c_is_word : C8.Cal P w K mg base 3 "is_word" (spBelow K 65536) [])
    (c_is_place : C8.Cal P w K mg base 3 "is_place" (spBelow K 1024) [])
    (c_is_count : C8.Cal P w K mg base 2 "is_count" (spCount K) [])
    (c_is_address : C8.Cal P w K mg base 3 "is_address" (spBelow K 4096) [])
    (c_is_pair : C8.Cal P w K mg base 4 "is_pair" (spPair P w K mg base) []) : C8.Cal P w K mg base 5 "is_row_value" (spIsRow K) [] := by
  obtain ⟨fd, F⟩ := T.f_is_row_value
  refine cal_of F T.g_is_row_value sc_is_row_value (fun _ _ _ _ _ _ us hl => match us, hl with | [_], _ => rfl) len1 (fun cdv A outer s H vs Q E hr h => ⟨_, (pss_cons (ps_if (PW.pt (pw_or (pt_not (pt_val (pe_callB call_isi (by rfl) T.b_isinstance (by decide +kernel) (pa_cons (pv 0) (pa_cons (pe_ty (n := "tuple") T.b_tuple (by rfl) (by decide +kernel)) pa_nil))))) (pw_or1 (pt_cmpR op_ne (pe_callB call_len (by rfl) T.b_len (by decide +kernel) (pa_cons (pv 0) pa_nil)) (pe_n T.n_ROW_PARTS (by rfl)) (nomark _))))) (pss_one (ps_ret pe_bl)) pss_nil) (pss_cons (ps_asg (pv 0) (pg_tup rfl (pgs_cons (pg_name (i := 1) sc_is_row_value.nd rfl (Or.inl rfl)) (pgs_cons (pg_name (i := 2) sc_is_row_value.nd rfl (Or.inl rfl)) (pgs_cons (pg_name (i := 3) sc_is_row_value.nd rfl (Or.inl rfl)) (pgs_cons (pg_name (i := 4) sc_is_row_value.nd rfl (Or.inl rfl)) (pgs_cons (pg_name (i := 5) sc_is_row_value.nd rfl (Or.inl rfl)) (pgs_cons (pg_name (i := 6) sc_is_row_value.nd rfl (Or.inl rfl)) (pgs_cons (pg_name (i := 7) sc_is_row_value.nd rfl (Or.inl rfl)) pgs_nil))))))))) (pss_cons (ps_if (PW.pt (pw_or (pt_not (pt_val (C8.pe_c c_is_address hr (by decide) (by rfl) (pa_cons (pv 1) pa_nil)))) (pw_or (pt_not (PW.pt (pw_or (pt_cmpR op_isN (pv 2) pe_non (nomark _)) (pw_or1 (pt_val (C8.pe_c c_is_word hr (by decide) (by rfl) (pa_cons (pv 2) pa_nil))))))) (pw_or (pt_not (pt_val (C8.pe_c c_is_count hr (by decide) (by rfl) (pa_cons (pv 3) pa_nil)))) (pw_or1 (pt_cmpR op_ge (pv 3) (pe_n T.n_CAUSES (by rfl)) (nomark _))))))) (pss_one (ps_ret pe_bl)) pss_nil) (pss_one (ps_ret (pe_and (C8.pe_c c_is_pair hr (by decide) (by rfl) (pa_cons (pe_g T.g_is_register (by rfl)) (pa_cons (pe_g T.g_is_word (by rfl)) (pa_cons (pv 4) (pa_cons (pv 5) pa_nil))))) (pe_one (C8.pe_c c_is_pair hr (by decide) (by rfl) (pa_cons (pe_g T.g_is_place (by rfl)) (pa_cons (pe_g T.g_is_word (by rfl)) (pa_cons (pv 6) (pa_cons (pv 7) pa_nil)))))))))))), ?_⟩)
  obtain ⟨x, rfl, b, ar, q⟩ := h
  cases ar with
  | non => exact ⟨_, rfl, _, _, _, _, _, rfl, .ty _, .base .non, kit_ty (r := false) (by decide +kernel), _, rfl, iteT q⟩
  | int i => exact ⟨_, rfl, _, _, _, _, _, rfl, .ty _, .base (.int _), kit_ty (r := false) (by decide +kernel), _, rfl, iteT q⟩
  | bl i => exact ⟨_, rfl, _, _, _, _, _, rfl, .ty _, .base (.bl _), kit_ty (r := false) (by decide +kernel), _, rfl, iteT q⟩
  | str i => exact ⟨_, rfl, _, _, _, _, _, rfl, .ty _, .base (.str _), kit_ty (r := false) (by decide +kernel), _, rfl, iteT q⟩
  | lst h => exact ⟨_, rfl, _, _, _, _, _, rfl, .ty _, .base (.lst h), kit_ty (r := false) (by decide +kernel), _, rfl, iteT q⟩
  | dK h => exact ⟨_, rfl, _, _, _, _, _, rfl, .ty _, .base (.dK h), kit_ty (r := false) (by decide +kernel), _, rfl, iteT q⟩
  | @tup a xs ha hs =>
    refine ⟨_, rfl, _, _, _, _, _, rfl, .ty _, .base (.tup ha), kit_ty (r := true) (by decide +kernel), _, rfl, iteF ?_⟩
    refine ⟨_, rfl, _, _, rfl, .inr ⟨_, SqT.of ha, rfl⟩, rfl, _, rfl, iteN (fun hn => q_bl q ?_) fun hn => ?_⟩
    · have h7 : xs.length ≠ 7 := fun e => hn (by rw [e]; rfl)
      match xs, h7 with
      | [], _ => rfl
      | [_], _ => rfl
      | [_, _], _ => rfl
      | [_, _, _], _ => rfl
      | [_, _, _, _], _ => rfl
      | [_, _, _, _, _], _ => rfl
      | [_, _, _, _, _, _], _ => rfl
      | [_, _, _, _, _, _, _], h => exact absurd rfl h
      | _ :: _ :: _ :: _ :: _ :: _ :: _ :: _ :: _, _ => rfl
    have h7 : xs.length = 7 := Int.ofNat.inj (V.int.inj hn)
    obtain ⟨a, w', c, r, v, p, s', rfl⟩ : ∃ a w' c r v p s', xs = [a, w', c, r, v, p, s'] := by
      match xs, h7 with
      | [a, b, c, d, e, f, g], _ => exact ⟨a, b, c, d, e, f, g, rfl⟩
    have sa := hs a (by simp); have sw := hs w' (by simp); have sc' := hs c (by simp); have sr := hs r (by simp)
    have sv := hs v (by simp); have sp' := hs p (by simp); have ss := hs s' (by simp)
    refine ⟨_, rfl, _, _, rfl, SqT.of ha, rfl, _, _, rfl, _, _, rfl, _, _, rfl, _, _, rfl, _, _, rfl, _, _, rfl, _, _, rfl, rfl, ?_⟩
    refine ⟨_, rfl, _, rfl, sa, _, rfl, iteBN (fun h1 => q_bl q ?_) fun h1 => ?_⟩
    · rw [rowB_eq, h1]; rfl
    refine ⟨_, rfl, rfl, _, rfl, ?_⟩
    rw [isN_dec]
    refine iteB (fun h2 => iteF ?_) fun h2 => ⟨_, rfl, _, rfl, sw, _, rfl, iteBN (fun h3 => q_bl q ?_) fun h3 => ?_⟩
    rotate_left
    · rw [rowB_eq, h1, h2, h3]; rfl
    all_goals
      have hw : (isN w' || isB 65536 w') = true := by first | rw [h2]; rfl | rw [h3, Bool.or_true]
      refine ⟨_, rfl, _, rfl, sc', _, rfl, iteBN (fun h4 => q_bl q ?_) fun h4 => ?_⟩
      · rw [rowB_eq, h1, hw, h4]; rfl
      obtain ⟨i, rfl⟩ : ∃ i, c = .int i := by
        cases c with
        | int i => exact ⟨i, rfl⟩
        | _ => cases h4
      refine ⟨_, rfl, _, _, rfl, rfl, _, rfl, iteD (fun h5 => q_bl q ?_) fun h5 => ?_⟩
      · rw [rowB_eq, h1, hw, h4, show ltC (.int i) = false from decide_eq_false (by omega)]; rfl
      have h6 : ltC (.int i) = true := decide_eq_true (by omega)
      refine ⟨_, rfl, _, rfl, _, _, _, _, rfl, _, _, 8, 65536, rfl, rfl, .inr ⟨_, by decide, FunX.of0 c_is_register T.g_is_register⟩, .inr ⟨_, by decide, FunX.of0 c_is_word T.g_is_word⟩, sr, sv, _, rfl, iteB (fun h7 => ?_) fun h7 => q_bl q ?_⟩
      · refine ⟨_, rfl, _, rfl, _, _, _, _, rfl, _, _, 1024, 65536, rfl, rfl, .inr ⟨_, by decide, FunX.of0 c_is_place T.g_is_place⟩, .inr ⟨_, by decide, FunX.of0 c_is_word T.g_is_word⟩, sp', ss, q_bl q ?_⟩
        rw [rowB_eq, h1, hw, h4, h6, h7]; rfl
      · rw [rowB_eq, h1, hw, h4, h6, h7]; rfl
theorem sc_is_row : FnScope ["value"] ["value"] (defScope s_is_row) := ⟨rfl, rfl, rfl, by decide +kernel, rfl, by decide +kernel, by decide +kernel⟩
theorem okk_is_row (T : Hd K w mg)
    (c_is_row_value : C8.Cal P w K mg base 5 "is_row_value" (spIsRow K) []) : CalK P w K mg base 6 "is_row" "value" (spIsRow K) := by
  obtain ⟨fd, F⟩ := T.f_is_row
  refine calK_of F T.g_is_row sc_is_row (fun _ _ _ _ _ _ us hl => match us, hl with | [_], _ => rfl) len1 (fun cdv A outer s H vs Q E hr h => ⟨_, (pss_one (ps_ret (C8.pe_c c_is_row_value hr (by decide) (by rfl) (pa_cons (pv 0) pa_nil)))), ?_⟩)
  obtain ⟨x, rfl, b, ar, q⟩ := h
  exact ⟨_, rfl, _, rfl, b, ar, q⟩
theorem ok_is_row (T : Hd K w mg)
    (c_is_row_value : C8.Cal P w K mg base 5 "is_row_value" (spIsRow K) []) : C8.Cal P w K mg base 6 "is_row" (spIsRow K) [] := (okk_is_row T c_is_row_value).c
end
end K97
set_option maxHeartbeats 4000000
/-! The texts of rows. -/
namespace K97
open PySem PySem.Spec PyProof.Rows L2 RZ
local macro_rules | `(tactic| walk_at "v") => `(tactic| refine ⟨_, rfl, ?_⟩)
local macro_rules | `(tactic| walk_at "ii") => `(tactic| refine ⟨_, _, rfl, rfl, ?_⟩)
/-- one step of a reading: a name, two whole numbers, a scalar comparison, a truth value -/
local macro_rules | `(tactic| walk_at "s") => `(tactic| first | refine ⟨_, rfl, ?_⟩ | refine ⟨_, _, rfl, rfl, ?_⟩ | refine ⟨rfl, ?_⟩ | exact iteT (by walk_at "s") | exact iteF (by walk_at "s"))
local macro_rules | `(tactic| walk_at "r") => `(tactic| (repeat (first | refine ⟨_, rfl, ?_⟩ | refine ⟨_, _, rfl, rfl, ?_⟩ | refine ⟨rfl, ?_⟩ | refine iteT ?_ | refine iteF ?_)))

section
variable {P : Program} {w : World} {K : PySem.W.Frag} {mg : Str → Option Value} {base : Heap}
theorem told_abs {f : Nat} (h : f < 7) (i : Int) : (told f i).natAbs < 100000 := by
  have hw := wid_le f h
  have h2 : (0 : Int) < 2 ^ widF f := Int.pow_pos (by decide)
  have h3 : (2 : Int) ^ widF f ≤ 256 := by
    have : (2 : Nat) ^ widF f ≤ 2 ^ 8 := Nat.pow_le_pow_right (by decide) hw
    have h4 : ((2 ^ widF f : Nat) : Int) = 2 ^ widF f := by simp
    omega
  have m0 := Int.emod_nonneg i (Int.ne_of_gt h2)
  have m1 := Int.emod_lt_of_pos i h2
  unfold told
  dsimp only
  split <;> omega
def wordT (ow : Option Int) (c : Int) : Str := match ow with
  | none => if 16 ≤ c then ("interrupt " : Str) ++ tx (c - 16) else "no word"
  | some i => if wIs i then insText (wK i) (wRs i) (wN i) else (".word " : Str) ++ tx i
theorem sjoin_len (y : Str) : ∀ l : List Str, (Str.join y l).length ≤ (l.map (·.length)).sum + l.length * y.length
  | [] => by
    show (0 : Nat) ≤ _
    exact Nat.zero_le _
  | [p] => by
    show p.length ≤ _
    simp
  | p :: q :: r => by
    show (p ++ y ++ Str.join y (q :: r)).length ≤ _
    rw [app_len, app_len]
    have := sjoin_len y (q :: r)
    rw [List.map_cons, List.sum_cons, List.length_cons, Nat.add_mul]
    omega
theorem join_len (y : Str) (l : List Str) : (Txt.join y l).length ≤ (l.map (·.length)).sum + l.length * y.length := by
  rw [TL.join_eq]; exact sjoin_len y l
theorem insText_len {k : Nat} {rs : List Int} {n : Int} (R : Raw k rs) (hn : n.natAbs < 100000) : (insText k rs n).length ≤ 40 := by
  obtain ⟨h1, h2⟩ := insT_len R hn
  have h3 := sum_le (b := 7) (l := (insT k rs n).map (·.length)) fun x hx => by
    obtain ⟨y, hy, rfl⟩ := List.mem_map.mp hx
    exact h2 y hy
  rw [List.length_map] at h3
  have h4 : (" " : Str).length = 1 := by decide +kernel
  have h5 := join_len (" " : Str) (insT k rs n)
  rw [h4] at h5
  unfold insText
  omega
theorem wordT_len {ow : Option Int} {c : Int} (h : ∀ i, ow = some i → Wd i) (hc : 0 ≤ c ∧ c < 32) : (wordT ow c).length ≤ 40 := by
  cases ow with
  | none =>
    unfold wordT
    dsimp only
    split
    · rw [app_len]
      have := tx_len (i := c - 16) (by omega)
      have h1 : ("interrupt " : Str).length = 10 := by decide +kernel
      have h2 : (Str.ofString (toString (c - 16))).length ≤ 6 := this
      omega
    · decide +kernel
  | some i =>
    have hi := h i rfl
    unfold wordT
    dsimp only
    split
    · rename_i hw
      have I := ins_w hw
      exact insText_len I.toRaw (told_abs (fo_lt _ I.kl) i)
    · rw [app_len]
      unfold Wd at hi
      have h2 : (Str.ofString (toString i)).length ≤ 6 := tx_len (i := i) (by omega)
      have h1 : (".word " : Str).length = 6 := by decide +kernel
      show (".word " : Str).length + (Str.ofString (toString i)).length ≤ 40
      omega
def spWordT (K : PySem.W.Frag) : Sp := sp2 fun x y H Q => ∃ ow c, x = oV ow ∧ y = .int c ∧ (∀ i, ow = some i → Wd i) ∧ 0 ≤ c ∧ c < 32 ∧ ∀ H', Same H H' → Q (.str (wordT ow c)) H'
theorem sc_traced_word : FnScope ["word", "cause", "told"] ["word", "cause"] (defScope s_traced_word) := ⟨rfl, rfl, rfl, by decide +kernel, rfl, by decide +kernel, by decide +kernel⟩
theorem ok_traced_word (T : Hd K w mg)
    (c_word_as_instruction : C8.Cal P w K mg base 4 "word_as_instruction" (spAsIns K) [])
    (c_listing_text : C8.Cal P w K mg base 1 "listing_text" (spListing K) []) : C8.Cal P w K mg base 5 "traced_word" (spWordT K) [] := by
  obtain ⟨fd, F⟩ := T.f_traced_word
  refine cal_of F T.g_traced_word sc_traced_word (fun _ _ _ _ _ _ us hl => match us, hl with | [_, _], _ => rfl) len2 (fun cdv A outer s H vs Q E hr h => ⟨_, (pss_cons (ps_if (pt_cmpR op_isN (pv 0) pe_non (nomark _)) (pss_one (ps_ret (pe_ifExp (pt_cmpR op_ge (pv 1) (pe_n T.n_FIRST_INTERRUPT (by rfl)) (nomark _)) (pe_joined (.cons pe_str (.cons (pe_fmt (pe_op op_sub (pv 1) (pe_n T.n_FIRST_INTERRUPT (by rfl)))) .nil))) pe_str))) pss_nil) (pss_cons (ps_set (i := 2) sc_traced_word.nd rfl (Or.inl rfl) (C8.pe_c c_word_as_instruction hr (by decide) (by rfl) (pa_cons (pv 0) pa_nil))) (pss_one (ps_ret (pe_ifExp (pt_cmpR op_isN (pv 2) pe_non (nomark _)) (pe_joined (.cons pe_str (.cons (pe_fmt (pv 0)) .nil))) (C8.pe_c c_listing_text hr (by decide) (by rfl) (pa_cons (pv 2) pa_nil))))))), ?_⟩)
  obtain ⟨x, y, rfl, ow, c, rfl, rfl, hw, c0, c1, q⟩ := h
  cases ow with
  | none =>
    refine ⟨_, rfl, rfl, _, rfl, iteT ⟨_, rfl, _, _, rfl, rfl, _, rfl, iteD (fun g => ?_) fun g => ?_⟩⟩
    · have q' := q H (Same.refl _)
      unfold wordT at q'
      dsimp only at q'
      rw [if_pos g] at q'
      refine ⟨_, rfl, (by decide +kernel), _, rfl, _, _, rfl, rfl, .inr ⟨_, rfl, tx_log (by omega), _, rfl, sz ?_, ?_⟩⟩
      · rw [app_len]
        have h1 : (Str.empty ++ ("interrupt " : Str)).length = 10 := by decide +kernel
        have h2 : (Str.ofString (toString (c - 16))).length ≤ 6 := tx_len (i := c - 16) (by omega)
        omega
      · rw [Str.empty_append]; exact q'
    · have q' := q H (Same.refl _)
      unfold wordT at q'
      dsimp only at q'
      rw [if_neg g] at q'
      exact q'
  | some i =>
    have hi := hw i rfl
    have hi' := hi
    unfold Wd at hi'
    refine ⟨_, rfl, rfl, _, rfl, iteD (fun e => nomatch e) fun _ => ?_⟩
    refine ⟨_, rfl, _, rfl, i, rfl, hi, fun hb H1 e1 => ?_, fun hb p H1 xs hp e1 hx hxs => ?_⟩
    · refine ⟨_, rfl, rfl, _, rfl, iteT ?_⟩
      have q' := q H1 e1
      unfold wordT at q'
      dsimp only at q'
      rw [if_neg (by rw [hb]; decide)] at q'
      refine ⟨_, rfl, (by decide +kernel), _, rfl, .inr ⟨_, rfl, tx_log (by omega), _, rfl, sz ?_, ?_⟩⟩
      · rw [app_len]
        have h1 : (Str.empty ++ (".word " : Str)).length = 6 := by decide +kernel
        have h2 : (Str.ofString (toString i)).length ≤ 6 := tx_len (i := i) (by omega)
        omega
      · rw [Str.empty_append]; exact q'
    · subst hxs
      have I := ins_w hb
      refine ⟨_, rfl, rfl, _, rfl, iteD (fun e => nomatch e) fun _ => ?_⟩
      refine ⟨_, rfl, _, rfl, p, wK i, wRs i, wN i, rfl, hx, I.toRaw, told_abs (fo_lt _ I.kl) i, fun H2 e2 => ?_⟩
      have q' := q H2 (e1.trans e2)
      unfold wordT at q'
      dsimp only at q'
      rw [if_pos hb] at q'
      exact q'
/-- the parts of a row's text -/
def parts0 (x : Rw) : List Str := [(tx x.a ++ (": " : Str)) ++ wordT x.w x.c]
def parts1 (x : Rw) : List Str := match x.r with
  | none => []
  | some (i, j) => [((("r" : Str) ++ tx i) ++ (" = " : Str)) ++ tx j]
def parts2 (x : Rw) : List Str := match x.p with
  | none => []
  | some (i, j) => [(tx i ++ (" <- " : Str)) ++ tx j]
def parts3 (x : Rw) : List Str := if 0 < x.c ∧ (x.c < 16 ∨ x.w ≠ none) then [("trap " : Str) ++ tx x.c] else []
def rowText (x : Rw) : Str := Txt.join (" | " : Str) (parts0 x ++ parts1 x ++ parts2 x ++ parts3 x)
def spRowT (K : PySem.W.Frag) : Sp := sp1 fun x H Q => ∃ t r, x = .ref t ∧ H t = some (.tup (rowV r)) ∧ RowOk r ∧ ∀ H', Same H H' → Q (.str (rowText r)) H'
theorem parts_len {x : Rw} (h : RowOk x) : ∀ y ∈ parts0 x ++ parts1 x ++ parts2 x ++ parts3 x, y.length ≤ 60 := by
  have ha := h.a
  have hc := h.c
  unfold Ad at ha
  have a6 : (Str.ofString (toString x.a)).length ≤ 6 := tx_len (i := x.a) (by omega)
  have c6 : (Str.ofString (toString x.c)).length ≤ 6 := tx_len (i := x.c) (by omega)
  have l1 : (": " : Str).length = 2 := by decide +kernel
  have l2 : ("r" : Str).length = 1 := by decide +kernel
  have l3 : (" = " : Str).length = 3 := by decide +kernel
  have l4 : (" <- " : Str).length = 4 := by decide +kernel
  have l5 : ("trap " : Str).length = 5 := by decide +kernel
  have hw := wordT_len h.w hc
  intro y hy
  rcases List.mem_append.mp hy with hy | hy
  · rcases List.mem_append.mp hy with hy | hy
    · rcases List.mem_append.mp hy with hy | hy
      · rw [List.mem_singleton.mp hy, app_len, app_len]
        show (Str.ofString (toString x.a)).length + _ + _ ≤ 60
        omega
      · unfold parts1 at hy
        split at hy
        · cases hy
        · rename_i i j e
          obtain ⟨h1, h2⟩ := h.r i j e
          unfold Wd at h2
          have i6 : (Str.ofString (toString i)).length ≤ 6 := tx_len (i := i) (by omega)
          have j6 : (Str.ofString (toString j)).length ≤ 6 := tx_len (i := j) (by omega)
          rw [List.mem_singleton.mp hy, app_len, app_len, app_len]
          show ("r" : Str).length + (Str.ofString (toString i)).length + _ + (Str.ofString (toString j)).length ≤ 60
          omega
    · unfold parts2 at hy
      split at hy
      · cases hy
      · rename_i i j e
        obtain ⟨h1, h2⟩ := h.p i j e
        unfold Wd at h2
        have i6 : (Str.ofString (toString i)).length ≤ 6 := tx_len (i := i) (by omega)
        have j6 : (Str.ofString (toString j)).length ≤ 6 := tx_len (i := j) (by omega)
        rw [List.mem_singleton.mp hy, app_len, app_len]
        show (Str.ofString (toString i)).length + _ + (Str.ofString (toString j)).length ≤ 60
        omega
  · unfold parts3 at hy
    split at hy
    · rw [List.mem_singleton.mp hy, app_len]
      show ("trap " : Str).length + (Str.ofString (toString x.c)).length ≤ 60
      omega
    · cases hy
theorem parts_few (x : Rw) : (parts0 x ++ parts1 x ++ parts2 x ++ parts3 x).length ≤ 4 := by
  rw [List.length_append, List.length_append, List.length_append]
  have h1 : (parts1 x).length ≤ 1 := by unfold parts1; split <;> simp
  have h2 : (parts2 x).length ≤ 1 := by unfold parts2; split <;> simp
  have h3 : (parts3 x).length ≤ 1 := by unfold parts3; split <;> simp
  have h0 : (parts0 x).length = 1 := rfl
  omega
theorem parts_sum {x : Rw} (h : RowOk x) : ((parts0 x ++ parts1 x ++ parts2 x ++ parts3 x).map (·.length)).sum + (parts0 x ++ parts1 x ++ parts2 x ++ parts3 x).length * (" | " : Str).length ≤ 300 := by
  have h1 := parts_few x
  have h3 := sum_le (b := 60) (l := (parts0 x ++ parts1 x ++ parts2 x ++ parts3 x).map (·.length)) fun y hy => by
    obtain ⟨z, hz, rfl⟩ := List.mem_map.mp hy
    exact parts_len h z hz
  rw [List.length_map] at h3
  have h4 : (" | " : Str).length = 3 := by decide +kernel
  rw [h4]
  omega
theorem rowText_len {x : Rw} (h : RowOk x) : (rowText x).length ≤ 300 := Nat.le_trans (join_len _ _) (parts_sum h)
theorem sc_traced_row : FnScope ["row", "parts", "address", "word", "cause", "number", "value", "place", "stored"] ["row"] (defScope s_traced_row) := ⟨rfl, rfl, rfl, by decide +kernel, rfl, by decide +kernel, by decide +kernel⟩
theorem ok_traced_row (T : Hd K w mg)
    (c_traced_word : C8.Cal P w K mg base 5 "traced_word" (spWordT K) []) : C8.Cal P w K mg base 6 "traced_row" (spRowT K) [] := by
  obtain ⟨fd, F⟩ := T.f_traced_row
  refine cal_of F T.g_traced_row sc_traced_row (fun _ _ _ _ _ _ us hl => match us, hl with | [_], _ => rfl) len1 (fun cdv A outer s H vs Q E hr h => ⟨_, (pss_cons (ps_asg (pv 0) (pg_tup rfl (pgs_cons (pg_name (i := 2) sc_traced_row.nd rfl (Or.inl rfl)) (pgs_cons (pg_name (i := 3) sc_traced_row.nd rfl (Or.inl rfl)) (pgs_cons (pg_name (i := 4) sc_traced_row.nd rfl (Or.inl rfl)) (pgs_cons (pg_name (i := 5) sc_traced_row.nd rfl (Or.inl rfl)) (pgs_cons (pg_name (i := 6) sc_traced_row.nd rfl (Or.inl rfl)) (pgs_cons (pg_name (i := 7) sc_traced_row.nd rfl (Or.inl rfl)) (pgs_cons (pg_name (i := 8) sc_traced_row.nd rfl (Or.inl rfl)) pgs_nil))))))))) (pss_cons (ps_set (i := 1) sc_traced_row.nd rfl (Or.inl rfl) (pe_lst (pa_cons (pe_joined (.cons (pe_fmt (pv 2)) (.cons pe_str (.cons (pe_fmt (C8.pe_c c_traced_word hr (by decide) (by rfl) (pa_cons (pv 3) (pa_cons (pv 4) pa_nil)))) .nil)))) pa_nil))) (C8.pss_cut (ps_if (pt_cmpR op_notN (pv 5) pe_non (nomark _)) (pss_one (ps_expr (pe_bm PySem.F.plainAttrs_list PySem.F.slot_list_append PySem.F.type_list_append mt_append (pv 1) (pa_cons (pe_joined (.cons pe_str (.cons (pe_fmt (pv 5)) (.cons pe_str (.cons (pe_fmt (pv 6)) .nil))))) pa_nil)))) pss_nil) (C8.pss_cut (ps_if (pt_cmpR op_notN (pv 7) pe_non (nomark _)) (pss_one (ps_expr (pe_bm PySem.F.plainAttrs_list PySem.F.slot_list_append PySem.F.type_list_append mt_append (pv 1) (pa_cons (pe_joined (.cons (pe_fmt (pv 7)) (.cons pe_str (.cons (pe_fmt (pv 8)) .nil)))) pa_nil)))) pss_nil) (C8.pss_cut (ps_if (PW.pt (pw_and (pt_cmpR op_lt pe_int (pv 4) (nomark _)) (pw_and1 (PW.pt (pw_or (pt_cmpR op_lt (pv 4) (pe_n T.n_FIRST_INTERRUPT (by rfl)) (nomark _)) (pw_or1 (pt_cmpR op_notN (pv 3) pe_non (nomark _)))))))) (pss_one (ps_expr (pe_bm PySem.F.plainAttrs_list PySem.F.slot_list_append PySem.F.type_list_append mt_append (pv 1) (pa_cons (pe_joined (.cons pe_str (.cons (pe_fmt (pv 4)) .nil))) pa_nil)))) pss_nil) (pss_one (ps_ret (pe_join pe_str (pv 1))))))))), ?_⟩)
  obtain ⟨x, rfl, t, r, rfl, ht, R, q⟩ := h
  have ha := R.a
  have hc := R.c
  unfold Ad at ha
  have a6 : (Str.ofString (toString r.a)).length ≤ 6 := tx_len (i := r.a) (by omega)
  have l1 : (": " : Str).length = 2 := by decide +kernel
  have hw := wordT_len R.w hc
  refine ⟨_, rfl, t, _, rfl, SqT.of ht, rfl, _, _, rfl, _, _, rfl, _, _, rfl, _, _, rfl, _, _, rfl, _, _, rfl, _, _, rfl, rfl, ?_⟩
  have se : (Str.empty).length = 0 := rfl
  have rl : ("r" : Str).length = 1 := by decide +kernel
  have el : (" = " : Str).length = 3 := by decide +kernel
  have al : (" <- " : Str).length = 4 := by decide +kernel
  have tl : ("trap " : Str).length = 5 := by decide +kernel
  have c6 : (Str.ofString (toString r.c)).length ≤ 6 := tx_len (i := r.c) (by omega)
  refine ⟨_, rfl, .inr ⟨_, rfl, tx_log (by omega), _, rfl, sz (by rw [app_len]; omega), _, rfl, sz (by rw [app_len, app_len]; omega), _, rfl, _, rfl, _, _, rfl, r.w, r.c, rfl, rfl, R.w, hc.1, hc.2, fun H1 e1 => .inl ⟨_, rfl, sz (by omega), _, rfl, sz (by rw [app_len, app_len, app_len]; omega), sz1, fun l hl => ?_⟩⟩⟩
  have hl0 : H l = none := same_free e1 hl
  rw [Str.empty_append]
  refine ⟨fun σ' H' => Same H H' ∧ H' l = some (.lst ((parts0 r ++ parts1 r).map V.str)) ∧ σ' = [some (.ref t), some (.ref l), some (.int r.a), some (oV r.w), some (.int r.c), some (oV (r.r.map (·.1))), some (oV (r.r.map (·.2))), some (oV (r.p.map (·.1))), some (oV (r.p.map (·.2)))], ?_, ?_⟩
  · cases hr : r.r with
    | none =>
      refine ⟨_, rfl, rfl, _, rfl, iteF ⟨e1.trans (same_new hl), ?_, by first | rfl | simp only [hr]⟩⟩
      rw [upd_same]; unfold parts1; rw [hr]; rfl
    | some o =>
      obtain ⟨i, j⟩ := o
      obtain ⟨h1, h2⟩ := R.r i j hr
      unfold Wd at h2
      have i6 : (Str.ofString (toString i)).length ≤ 6 := tx_len (i := i) (by omega)
      have j6 : (Str.ofString (toString j)).length ≤ 6 := tx_len (i := j) (by omega)
      refine ⟨_, rfl, rfl, _, rfl, iteT ⟨_, rfl, .inl ⟨rfl, _, SqL.of upd_same⟩, _, rfl, sz (by rw [app_len]; omega), _, rfl, .inr ⟨i, rfl, tx_log (by omega), _, rfl, sz (by rw [app_len, app_len]; omega), _, rfl, sz (by rw [app_len, app_len, app_len]; omega), _, rfl, .inr ⟨j, rfl, tx_log (by omega), _, rfl, sz (by rw [app_len, app_len, app_len, app_len]; omega), l, _, _, rfl, rfl, upd_same, szl (show 1 < 100000 by decide), ?_⟩⟩⟩⟩
      refine ⟨same_mut (e1.trans (same_new hl)) hl0, ?_, by first | rfl | simp only [hr]⟩
      rw [upd_same, Str.empty_append]; unfold parts1; rw [hr]; rfl
  rintro σ' H2 ⟨e2, hl2, rfl⟩
  refine ⟨fun σ' H' => Same H H' ∧ H' l = some (.lst ((parts0 r ++ parts1 r ++ parts2 r).map V.str)) ∧ σ' = [some (.ref t), some (.ref l), some (.int r.a), some (oV r.w), some (.int r.c), some (oV (r.r.map (·.1))), some (oV (r.r.map (·.2))), some (oV (r.p.map (·.1))), some (oV (r.p.map (·.2)))], ?_, ?_⟩
  · cases hr : r.p with
    | none =>
      refine ⟨_, rfl, rfl, _, rfl, iteF ⟨e2, ?_, by first | rfl | simp only [hr]⟩⟩
      rw [hl2]; unfold parts2; rw [hr, List.append_nil]
    | some o =>
      obtain ⟨i, j⟩ := o
      obtain ⟨h1, h2⟩ := R.p i j hr
      unfold Wd at h2
      have i6 : (Str.ofString (toString i)).length ≤ 6 := tx_len (i := i) (by omega)
      have j6 : (Str.ofString (toString j)).length ≤ 6 := tx_len (i := j) (by omega)
      have hz : ((parts0 r ++ parts1 r).map V.str).length ≤ 2 := by
        rw [List.length_map, List.length_append]
        have : (parts1 r).length ≤ 1 := by unfold parts1; split <;> simp
        have : (parts0 r).length = 1 := rfl
        omega
      refine ⟨_, rfl, rfl, _, rfl, iteT ⟨_, rfl, .inl ⟨rfl, _, SqL.of hl2⟩, _, rfl, .inr ⟨i, rfl, tx_log (by omega), _, rfl, sz (by rw [app_len]; omega), _, rfl, sz (by rw [app_len, app_len]; omega), _, rfl, .inr ⟨j, rfl, tx_log (by omega), _, rfl, sz (by rw [app_len, app_len, app_len]; omega), l, _, _, rfl, rfl, hl2, szl (by omega), ?_⟩⟩⟩⟩
      refine ⟨same_mut e2 hl0, ?_, by first | rfl | simp only [hr]⟩
      rw [upd_same, Str.empty_append, List.map_append (l₂ := parts2 r)]; unfold parts2; rw [hr]; rfl
  rintro σ' H3 ⟨e3, hl3, rfl⟩
  have hz3 : ((parts0 r ++ parts1 r ++ parts2 r).map V.str).length ≤ 3 := by
    rw [List.length_map, List.length_append, List.length_append]
    have : (parts1 r).length ≤ 1 := by unfold parts1; split <;> simp
    have : (parts2 r).length ≤ 1 := by unfold parts2; split <;> simp
    have : (parts0 r).length = 1 := rfl
    omega
  refine ⟨fun σ' H' => Same H H' ∧ H' l = some (.lst ((parts0 r ++ parts1 r ++ parts2 r ++ parts3 r).map V.str)) ∧ ∃ a, σ' = some (.ref t) :: some (.ref l) :: a, ?_, ?_⟩
  · have yes : 0 < r.c → (r.c < 16 ∨ r.w ≠ none) → (Same H (upd H3 l (.lst ((parts0 r ++ parts1 r ++ parts2 r).map V.str ++ [.str (("trap " : Str) ++ tx r.c)]))) ∧ upd H3 l (.lst ((parts0 r ++ parts1 r ++ parts2 r).map V.str ++ [.str (("trap " : Str) ++ tx r.c)])) l = some (.lst ((parts0 r ++ parts1 r ++ parts2 r ++ parts3 r).map V.str))) := fun g1 g2 => by
      refine ⟨same_mut e3 hl0, ?_⟩
      rw [upd_same, List.map_append (l₂ := parts3 r)]
      unfold parts3
      rw [if_pos ⟨g1, g2⟩]
      rfl
    have no : ¬ (0 < r.c ∧ (r.c < 16 ∨ r.w ≠ none)) → H3 l = some (.lst ((parts0 r ++ parts1 r ++ parts2 r ++ parts3 r).map V.str)) := fun g => by
      rw [hl3]; unfold parts3; rw [if_neg g, List.append_nil]
    refine ⟨_, rfl, _, _, rfl, rfl, _, rfl, iteD (fun g1 => ?_) fun g1 => iteF ⟨e3, no fun z => g1 z.1, _, rfl⟩⟩
    refine ⟨_, rfl, _, _, rfl, rfl, _, rfl, iteD (fun g2 => iteT ?_) fun g2 => ?_⟩
    · obtain ⟨y1, y2⟩ := yes g1 (.inl g2)
      refine ⟨_, rfl, .inl ⟨rfl, _, SqL.of hl3⟩, _, rfl, sz (by rw [app_len]; omega), _, rfl, .inr ⟨r.c, rfl, tx_log (by omega), _, rfl, sz (by rw [app_len, app_len]; omega), l, _, _, rfl, rfl, hl3, szl (by omega), ?_⟩⟩
      rw [Str.empty_append]
      exact ⟨y1, y2, _, rfl⟩
    · cases hw2 : r.w with
      | none =>
        refine ⟨_, rfl, rfl, _, rfl, iteF ⟨e3, no fun z => z.2.elim g2 fun z2 => z2 hw2, _, rfl⟩⟩
      | some i =>
        obtain ⟨y1, y2⟩ := yes g1 (.inr (by rw [hw2]; exact fun z => nomatch z))
        refine ⟨_, rfl, rfl, _, rfl, iteT ?_⟩
        refine ⟨_, rfl, .inl ⟨rfl, _, SqL.of hl3⟩, _, rfl, sz (by rw [app_len]; omega), _, rfl, .inr ⟨r.c, rfl, tx_log (by omega), _, rfl, sz (by rw [app_len, app_len]; omega), l, _, _, rfl, rfl, hl3, szl (by omega), ?_⟩⟩
        rw [Str.empty_append]
        exact ⟨y1, y2, _, rfl⟩
  rintro σ' H4 ⟨e4, hl4, a, rfl⟩
  have hs := parts_sum R
  exact ⟨⟨_, rfl⟩, _, rfl, _, l, _, rfl, rfl, .inl (SqL.of hl4), by omega, q _ e4⟩
end
end K97
set_option maxHeartbeats 4000000
/-! traced, trace: errors leave them. -/
namespace K97
open PySem PySem.Spec PyProof.Rows L2 RZ
local macro_rules | `(tactic| walk_at "v") => `(tactic| refine ⟨_, rfl, ?_⟩)
local macro_rules | `(tactic| walk_at "ii") => `(tactic| refine ⟨_, _, rfl, rfl, ?_⟩)
/-- one step of a reading: a name, two whole numbers, a scalar comparison, a truth value -/
local macro_rules | `(tactic| walk_at "s") => `(tactic| first | refine ⟨_, rfl, ?_⟩ | refine ⟨_, _, rfl, rfl, ?_⟩ | refine ⟨rfl, ?_⟩ | exact iteT (by walk_at "s") | exact iteF (by walk_at "s"))
local macro_rules | `(tactic| walk_at "r") => `(tactic| (repeat (first | refine ⟨_, rfl, ?_⟩ | refine ⟨_, _, rfl, rfl, ?_⟩ | refine ⟨rfl, ?_⟩ | refine iteT ?_ | refine iteF ?_)))

theorem pi_either {X : Cx} {tg l : Expr} {w1 w2 : TI} (h1 : PI X tg l w1) (h2 : PI X tg l w2) : PI X tg l (fun σ H R => w1 σ H R ∨ w2 σ H R) :=
  ⟨fun pins s σ H R I q => q.elim (fun q => h1.run pins s σ H R I q) fun q => h2.run pins s σ H R I q⟩
section
variable {P : Program} {w : World} {K : PySem.W.Frag} {mg : Str → Option Value} {base : Heap}
def invRow (K : PySem.W.Frag) : Value := .ref (He.ga K "InvalidRow")
def invRows (K : PySem.W.Frag) : Value := .ref (He.ga K "InvalidRowList")
/-- an error with its value -/
def Err (cls : Value) (x : V) (H : Hp) (E : XK) : Prop := ∀ d H', Same H H' → H' d = some (.xd [("value", x)]) → E cls (some d) H'
theorem isN_oV {o : Option Int} : isN (oV o) = (match o with | none => true | some _ => false) := by cases o <;> rfl
theorem seen_oV {H : Hp} {o : Option Int} : Seen K H (oV o) := by cases o <;> first | exact Seen.non | exact Seen.int
theorem rowB_ok {x : Rw} (h : RowOk x) : rowB (rowV x) = true := by
  have ha := h.a
  have hc := h.c
  unfold rowV
  rw [rowB_eq, isB_int ha.1 ha.2, isC_int hc.1, show ltC (.int x.c) = true from decide_eq_true hc.2]
  have hw : (isN (oV x.w) || isB 65536 (oV x.w)) = true := by
    cases hw : x.w with
    | none => rfl
    | some i => have := h.w i hw; exact isB_int this.1 this.2
  rw [hw]
  have hr : pairB 8 65536 (oV (x.r.map (·.1))) (oV (x.r.map (·.2))) = true := by
    cases hr : x.r with
    | none => rfl
    | some o =>
      obtain ⟨i, j⟩ := o
      obtain ⟨h1, h2⟩ := h.r i j hr
      show pairB 8 65536 (.int i) (.int j) = true
      unfold pairB
      show (if (false || false) = true then _ else _) = true
      rw [if_neg (by decide), isB_int h1.1 h1.2, isB_int h2.1 h2.2]; rfl
  have hp : pairB 1024 65536 (oV (x.p.map (·.1))) (oV (x.p.map (·.2))) = true := by
    cases hr : x.p with
    | none => rfl
    | some o =>
      obtain ⟨i, j⟩ := o
      obtain ⟨h1, h2⟩ := h.p i j hr
      show pairB 1024 65536 (.int i) (.int j) = true
      unfold pairB
      show (if (false || false) = true then _ else _) = true
      rw [if_neg (by decide), isB_int h1.1 h1.2, isB_int h2.1 h2.2]; rfl
  rw [hr, hp]
  rfl
theorem seen_row {H : Hp} {x : Rw} : ∀ y ∈ rowV x, Seen K H y := by
  intro y hy
  unfold rowV at hy
  simp only [List.mem_cons, List.not_mem_nil, or_false] at hy
  rcases hy with z | z | z | z | z | z | z <;> rw [z] <;> first | exact Seen.int | exact seen_oV
theorem arg_row {H : Hp} {t : Addr} {x : Rw} (ht : H t = some (.tup (rowV x))) (h : RowOk x) : Arg K H (.ref t) true := by
  have := Arg.tup (K := K) ht seen_row
  rw [rowB_ok h] at this
  exact this
def spTraced (K : PySem.W.Frag) : Sp := fun vs H Q E => ∃ x, vs = [x] ∧ ((∃ t r, x = .ref t ∧ H t = some (.tup (rowV r)) ∧ RowOk r ∧ ∀ H', Same H H' → Q (.str (rowText r)) H') ∨ (Arg K H x false ∧ Err (invRow K) x H E))
theorem lenTraced {K : PySem.W.Frag} : ∀ vs H Q E, spTraced K vs H Q E → vs.length = 1 := by rintro _ _ _ _ ⟨_, rfl, _⟩; rfl
theorem sc_traced : FnScope ["row"] ["row"] (defScope s_traced) := ⟨rfl, rfl, rfl, by decide +kernel, rfl, by decide +kernel, by decide +kernel⟩
theorem okk_traced (T : Hd K w mg)
    (c_is_row_value : C8.Cal P w K mg base 5 "is_row_value" (spIsRow K) [])
    (c_traced_row : C8.Cal P w K mg base 6 "traced_row" (spRowT K) []) : CalXK P w K mg base 7 "traced" "row" (spTraced K) := by
  obtain ⟨fd, F⟩ := T.f_traced
  obtain ⟨fdI, FI, bI⟩ := init_C (P := P) (base := base) T
  refine calXK_of F T.g_traced sc_traced (fun _ _ _ _ _ _ us hl => match us, hl with | [_], _ => rfl) lenTraced (fun cdv A outer s H vs Q E hr h => ⟨_, (pss_cons (ps_if (pt_not (pt_val (C8.pe_c c_is_row_value hr (by decide) (by rfl) (pa_cons (pv 0) pa_nil)))) (pss_one (ps_raise rfl (takes_of rfl rfl rfl rfl) (pmk_oex T.e_InvalidRow (He.eqO_ok T.x_in_InvalidRow) (of_decide_eq_true T.x_ti_InvalidRow) FI (hr.mono (by decide)) bI .nil C8.pass0 (by rfl) T.g_InvalidRow (pa_cons (pv 0) pa_nil)))) pss_nil) (pss_one (ps_ret (C8.pe_c c_traced_row hr (by decide) (by rfl) (pa_cons (pv 0) pa_nil))))), ?_⟩)
  obtain ⟨x, rfl, ⟨t, r, rfl, ht, hr', q⟩ | ⟨ar, e⟩⟩ := h
  · exact ⟨_, rfl, _, rfl, true, arg_row ht hr', _, rfl, iteF ⟨_, rfl, _, rfl, t, r, rfl, ht, hr', q⟩⟩
  · refine ⟨_, rfl, _, rfl, false, ar, _, rfl, iteT ?_⟩
    refine ⟨_, rfl, (show 1 ≤ 1000 by decide), fun a ha => ⟨_, _, rfl, a, _, rfl, T.e_InvalidRow, He.eqO_ok T.x_nv_InvalidRow, upd_same, fun dx hd hne => ⟨rfl, dx, [("value", x)], upd_same, ?_, noarg hd hne, ?_⟩⟩⟩
    · rw [upd_ne hne, upd_same]
    · exact e _ _ (exc_same ha (noarg hd hne)) upd_same
theorem ok_traced (T : Hd K w mg)
    (c_is_row_value : C8.Cal P w K mg base 5 "is_row_value" (spIsRow K) [])
    (c_traced_row : C8.Cal P w K mg base 6 "traced_row" (spRowT K) []) : CalX P w K mg base 7 "traced" (spTraced K) := (okk_traced T c_is_row_value c_traced_row).c
theorem take_snoc {α : Type} {l : List α} {i : Nat} {x : α} (h : l[i]? = some x) : l.take (i + 1) = l.take i ++ [x] := by
  obtain ⟨hi, e⟩ := List.getElem?_eq_some_iff.mp h
  rw [List.take_succ_eq_append_getElem hi, e]
/-- a comprehension, each item's value given by its place -/
theorem lc_ixL {K : PySem.W.Frag} {a : Addr} {xs ys : List V} {j : Nat} {te : TE} {vs : List Nat} {σ : L2.St} {H1 : Hp} {D : Addr} {Qd : Hp → Prop} (hy : xs.length = ys.length) (hl : SqL K H1 a xs) (hD : H1 D = none) (hz : xs.length ≤ 100000) (hw : ∀ x, wipe ((wipe σ vs).set j (some x)) vs = wipe σ vs)
    (he : ∀ (i : Nat) x y H, xs[i]? = some x → ys[i]? = some y → Same H1 H → ∀ Q : VK, (∀ H', Same H H' → Q y H') → te ((wipe σ vs).set j (some x)) H Q) (hq : ∀ H', Same H1 H' → H' D = some (.lst ys) → Qd H') :
    ∃ W : Nat → Nat → Hp → Prop, (∃ m, W 0 m (upd H1 D (.lst []))) ∧ ∀ i m H, W i m H →
      ((Itl K a).stop i H ∧ Qd H) ∨ ((Itl K a).go i H ∧ ∃ Nx : Hp → Prop, (∀ H', Nx H' → ∃ m', m' < m ∧ W (i + 1) m' H') ∧ ∀ x H', (Itl K a).yld i H x H' → gName j x (wipe σ vs) H' fun σ2 H2 => wipe σ2 vs = wipe σ vs ∧ tYes σ2 H2 fun b H3 =>
        if b = true then te σ2 H3 fun y H4 => ∃ acc, H4 D = some (.lst acc) ∧ acc.length < sizeLine ∧ Nx (upd H4 D (.lst (acc ++ [y]))) else Nx H3) := by
  refine lc_list (xs := xs) (fun i H => Same H1 H ∧ H D = some (.lst (ys.take i))) ⟨same_new hD, by rw [upd_same]; rfl⟩ (fun i H _ p => p.1.seq hl) (fun i x H hx p => ⟨hw x, ?_⟩) fun H p => hq H p.1 (by rw [p.2, hy, List.take_length])
  have hi := (List.getElem?_eq_some_iff.mp hx).1
  have hyi : ys[i]? = some ys[i] := List.getElem?_eq_getElem (by omega)
  refine he i x _ H hx hyi p.1 _ fun H' e => ⟨_, e _ _ p.2, ?_, same_mut (p.1.trans e) hD, by rw [upd_same, take_snoc hyi]⟩
  rw [List.length_take]
  exact szl (by omega)
theorem lc_ixT {K : PySem.W.Frag} {a : Addr} {xs ys : List V} {j : Nat} {te : TE} {vs : List Nat} {σ : L2.St} {H1 : Hp} {D : Addr} {Qd : Hp → Prop} (hy : xs.length = ys.length) (hl : SqT K H1 a xs) (hD : H1 D = none) (hz : xs.length ≤ 100000) (hw : ∀ x, wipe ((wipe σ vs).set j (some x)) vs = wipe σ vs)
    (he : ∀ (i : Nat) x y H, xs[i]? = some x → ys[i]? = some y → Same H1 H → ∀ Q : VK, (∀ H', Same H H' → Q y H') → te ((wipe σ vs).set j (some x)) H Q) (hq : ∀ H', Same H1 H' → H' D = some (.lst ys) → Qd H') :
    ∃ W : Nat → Nat → Hp → Prop, (∃ m, W 0 m (upd H1 D (.lst []))) ∧ ∀ i m H, W i m H →
      ((Itt K a).stop i H ∧ Qd H) ∨ ((Itt K a).go i H ∧ ∃ Nx : Hp → Prop, (∀ H', Nx H' → ∃ m', m' < m ∧ W (i + 1) m' H') ∧ ∀ x H', (Itt K a).yld i H x H' → gName j x (wipe σ vs) H' fun σ2 H2 => wipe σ2 vs = wipe σ vs ∧ tYes σ2 H2 fun b H3 =>
        if b = true then te σ2 H3 fun y H4 => ∃ acc, H4 D = some (.lst acc) ∧ acc.length < sizeLine ∧ Nx (upd H4 D (.lst (acc ++ [y]))) else Nx H3) := by
  refine lc_tup (xs := xs) (fun i H => Same H1 H ∧ H D = some (.lst (ys.take i))) ⟨same_new hD, by rw [upd_same]; rfl⟩ (fun i H _ p => same_sqt p.1 hl) (fun i x H hx p => ⟨hw x, ?_⟩) fun H p => hq H p.1 (by rw [p.2, hy, List.take_length])
  have hi := (List.getElem?_eq_some_iff.mp hx).1
  have hyi : ys[i]? = some ys[i] := List.getElem?_eq_getElem (by omega)
  refine he i x _ H hx hyi p.1 _ fun H' e => ⟨_, e _ _ p.2, ?_, same_mut (p.1.trans e) hD, by rw [upd_same, take_snoc hyi]⟩
  rw [List.length_take]
  exact szl (by omega)
/-- a list or a tuple -/
def SeqOf (H : Hp) (x : V) (xs : List V) : Prop := ∃ a, x = .ref a ∧ (H a = some (.lst xs) ∨ H a = some (.tup xs))
theorem SeqOf.up {H H' : Hp} {x : V} {xs : List V} (h : SeqOf H x xs) (e : Same H H') : SeqOf H' x xs := by
  obtain ⟨a, rfl, h⟩ := h
  exact ⟨a, rfl, h.elim (fun h => .inl (e _ _ h)) fun h => .inr (e _ _ h)⟩
/-- neither -/
def NoSeq (K : PySem.W.Frag) (H : Hp) (x : V) : Prop := ∃ t, TyX K H x (.type t) ∧ kitB t "list" = some (decide (t = "list")) ∧ kitB t "tuple" = some (decide (t = "tuple")) ∧ t ≠ "list" ∧ t ≠ "tuple"
theorem seq_list {H : Hp} {x : V} {xs : List V} (h : SeqOf H x xs) : ∃ t, TyX K H x (.type t) ∧ kitB t "list" = some (decide (t = "list")) ∧ kitB t "tuple" = some (decide (t = "tuple")) ∧ (decide (t = "list") || decide (t = "tuple")) = true := by
  obtain ⟨a, rfl, h | h⟩ := h
  · exact ⟨"list", .base (.lst h), by decide +kernel, by decide +kernel, by decide⟩
  · exact ⟨"tuple", .base (.tup h), by decide +kernel, by decide +kernel, by decide⟩
def ArgsB (K : PySem.W.Frag) (H : Hp) (xs : List V) (bs : List Bool) : Prop := xs.length = bs.length ∧ ∀ (i : Nat) (x : V) (b : Bool), xs[i]? = some x → bs[i]? = some b → Arg K H x b
def spTrace (K : PySem.W.Frag) : Sp := fun vs H Q E => ∃ x, vs = [x] ∧ ((∃ ts rs, SeqOf H x (ts.map V.ref) ∧ Rows H ts rs ∧ ts.length ≤ 100 ∧ RetNew (fun ys => ys = rs.map fun r => V.str (rowText r)) H Q) ∨
  (NoSeq K H x ∧ Err (invRows K) x H E) ∨ ∃ xs bs, SeqOf H x xs ∧ ArgsB K H xs bs ∧ xs.length ≤ 100 ∧ bs.all id = false ∧ Err (invRows K) x H E)
theorem lenTrace {K : PySem.W.Frag} : ∀ vs H Q E, spTrace K vs H Q E → vs.length = 1 := by rintro _ _ _ _ ⟨_, rfl, _⟩; rfl
theorem Rows.get {H : Hp} {ts : List Addr} {rs : List Rw} (h : Rows H ts rs) {i : Nat} {t : Addr} {r : Rw} (ht : ts[i]? = some t) (hr : rs[i]? = some r) : H t = some (.tup (rowV r)) ∧ RowOk r := by
  unfold Rows at h
  induction h generalizing i with
  | nil => cases ht
  | cons a b ih =>
    cases i with
    | zero => cases ht; cases hr; exact a
    | succ i => exact ih ht hr
theorem Rows.len {H : Hp} {ts : List Addr} {rs : List Rw} (h : Rows H ts rs) : ts.length = rs.length := by
  unfold Rows at h
  induction h with
  | nil => rfl
  | cons a b ih => rw [List.length_cons, List.length_cons, ih]
theorem Err.up {cls : Value} {x : V} {H H' : Hp} {E : XK} (h : Err cls x H E) (e : Same H H') : Err cls x H' E := fun d H2 e2 hd => h d H2 (e.trans e2) hd
theorem sc_trace : FnScope ["rows", "row"] ["rows"] (defScope s_trace) := ⟨rfl, rfl, rfl, by decide +kernel, rfl, by decide +kernel, by decide +kernel⟩
theorem okk_trace (T : Hd K w mg)
    (c_is_row_value : C8.Cal P w K mg base 5 "is_row_value" (spIsRow K) [])
    (c_is_list : C8.Cal P w K mg base 1 "is_list" (spList K) [])
    (c_traced_row : C8.Cal P w K mg base 6 "traced_row" (spRowT K) []) : CalXK P w K mg base 7 "trace" "rows" (spTrace K) := by
  obtain ⟨fd, F⟩ := T.f_trace
  obtain ⟨fdI, FI, bI⟩ := init_C (P := P) (base := base) T
  refine calXK_of F T.g_trace sc_trace (fun _ _ _ _ _ _ us hl => match us, hl with | [_], _ => rfl) lenTrace (fun cdv A outer s H vs Q E hr h => ⟨_, (pss_cons (ps_if (PW.pt (pw_or (pt_not (pt_val (C8.pe_c c_is_list hr (by decide) (by rfl) (pa_cons (pv 0) pa_nil)))) (pw_or1 (pt_not (pt_val (pe_callB (cr_all rfl) (by rfl) T.b_all (by decide +kernel) (pa_cons (pe_lc (own := [("row", 1)]) (g := gName 1) rfl sc_trace.nd ((fun {X} h => pi_either (pi_list h) (pi_tup h)) (pv 0)) (blkOk_by (own := [("row", 1)]) (N := ["rows", "row"]) (sc := defScope s_trace) (by decide +kernel)) (fun _ _ _ _ _ => pg_name (i := 1) sc_trace.nd rfl (Or.inl rfl)) (fun _ _ _ _ _ => pts_nil) (fun _ _ _ _ _ => (C8.pe_c c_is_row_value hr (by decide) (by rfl) (pa_cons (pv 1) pa_nil)))) pa_nil))))))) (pss_one (ps_raise rfl (takes_of rfl rfl rfl rfl) (pmk_oex T.e_InvalidRowList (He.eqO_ok T.x_in_InvalidRowList) (of_decide_eq_true T.x_ti_InvalidRowList) FI (hr.mono (by decide)) bI .nil C8.pass0 (by rfl) T.g_InvalidRowList (pa_cons (pv 0) pa_nil)))) pss_nil) (pss_one (ps_ret (pe_lc (own := [("row", 1)]) (g := gName 1) rfl sc_trace.nd ((fun {X} h => pi_either (pi_list h) (pi_tup h)) (pv 0)) (blkOk_by (own := [("row", 1)]) (N := ["rows", "row"]) (sc := defScope s_trace) (by decide +kernel)) (fun _ _ _ _ _ => pg_name (i := 1) sc_trace.nd rfl (Or.inl rfl)) (fun _ _ _ _ _ => pts_nil) (fun _ _ _ _ _ => (C8.pe_c c_traced_row hr (by decide) (by rfl) (pa_cons (pv 1) pa_nil))))))), ?_⟩)
  obtain ⟨x, rfl, h⟩ := h
  have mk : ∀ {H1 : Hp}, Err (invRows K) x H1 E → tMkO (He.ga K "InvalidRowList") (spExC K) [] (tCons (tVar 0) tNil) [some x, none] H1 fun cls d H' => E cls d H' := fun {H1} e =>
    ⟨_, rfl, (show 1 ≤ 1000 by decide), fun a ha => ⟨_, _, rfl, a, _, rfl, T.e_InvalidRowList, He.eqO_ok T.x_nv_InvalidRowList, upd_same, fun dx hd hne => ⟨rfl, dx, [("value", x)], upd_same, by rw [upd_ne hne, upd_same], noarg hd hne, e _ _ (exc_same ha (noarg hd hne)) upd_same⟩⟩⟩
  have all_ : ∀ {H1 : Hp} {xs : List V} {bs : List Bool} {Qx : VK}, SeqOf H1 x xs → ArgsB K H1 xs bs → xs.length ≤ 100 → (∀ H2, Same H1 H2 → Qx (.bl (bs.all id)) H2) →
      (tCB (rAll K) (tCons (tLc (fun σ H_1 R => iList K (tVar 0) σ H_1 R ∨ iTup K (tVar 0) σ H_1 R) (gName 1) tYes (tCall (spIsRow K) [] C8.E0 (tCons (tVar 1) tNil)) [1]) tNil)) [some x, none] H1 Qx := fun {H1 xs bs Qx} hs hb hz hq => by
    obtain ⟨a, rfl, hs⟩ := hs
    have el : ∀ (i : Nat) (x y : V) (H : Hp), xs[i]? = some x → (bs.map V.bl)[i]? = some y → Same H1 H → ∀ Q : VK, (∀ H', Same H H' → Q y H') → (tCall (spIsRow K) [] C8.E0 (tCons (tVar 1) tNil)) [some (.ref a), some x] H Q := fun i x y H hx hy e Q q => by
      rw [List.getElem?_map] at hy
      cases hb2 : bs[i]? with
      | none => rw [hb2] at hy; cases hy
      | some b =>
        rw [hb2] at hy; cases hy
        exact ⟨_, rfl, _, rfl, b, (hb.2 i x b hx hb2).up e, q _ (Same.refl _)⟩
    rcases hs with hs | hs
    · exact .inl ⟨_, rfl, a, rfl, ⟨_, SqL.of hs⟩, fun D hD => lc_ixL (ys := bs.map V.bl) (te := tCall (spIsRow K) [] C8.E0 (tCons (tVar 1) tNil)) (by rw [List.length_map, hb.1]) (SqL.of hs) hD (by omega) (fun _ => rfl) el fun H2 e2 hd => ⟨D, bs, rfl, SqL.of hd, hq _ e2⟩⟩
    · exact .inr ⟨_, rfl, a, rfl, ⟨_, SqT.of hs⟩, fun D hD => lc_ixT (ys := bs.map V.bl) (te := tCall (spIsRow K) [] C8.E0 (tCons (tVar 1) tNil)) (by rw [List.length_map, hb.1]) (SqT.of hs) hD (by omega) (fun _ => rfl) el fun H2 e2 hd => ⟨D, bs, rfl, SqL.of hd, hq _ e2⟩⟩
  rcases h with ⟨ts, rs, hs, hr, hz, q⟩ | ⟨⟨t, ty, k1, k2, n1, n2⟩, e⟩ | ⟨xs, bs, hs, hb, hz, hall, e⟩
  · obtain ⟨t0, ty, k1, k2, kk⟩ := seq_list (K := K) hs
    refine ⟨_, rfl, _, rfl, t0, ty, k1, k2, fun H1 e1 => ⟨_, rfl, ?_⟩⟩
    rw [kk]
    have hr1 : Rows H1 ts rs := hr.up fun t xs h => e1 _ _ h
    have hb : ArgsB K H1 (ts.map V.ref) (ts.map fun _ => true) := by
      refine ⟨by rw [List.length_map, List.length_map], fun i x b hx hb => ?_⟩
      rw [List.getElem?_map] at hx hb
      cases ht : ts[i]? with
      | none => rw [ht] at hx; cases hx
      | some t =>
        rw [ht] at hx hb; cases hx; cases hb
        have hi := (List.getElem?_eq_some_iff.mp ht).1
        obtain ⟨g1, g2⟩ := hr1.get ht (List.getElem?_eq_getElem (by rw [← hr1.len]; exact hi))
        exact arg_row g1 g2
    refine iteF (all_ (hs.up e1) hb (by rw [List.length_map]; exact hz) fun H2 e2 => ⟨_, rfl, ?_⟩)
    rw [all_true]
    refine iteF ?_
    have hr2 : Rows H2 ts rs := hr1.up fun t xs h => e2 _ _ h
    have E2 := e1.trans e2
    obtain ⟨a, rfl, hsq⟩ := hs.up E2
    have el : ∀ (i : Nat) (x y : V) (H : Hp), (ts.map V.ref)[i]? = some x → (rs.map fun r => V.str (rowText r))[i]? = some y → Same H2 H → ∀ Q : VK, (∀ H', Same H H' → Q y H') → (tCall (spRowT K) [] C8.E0 (tCons (tVar 1) tNil)) [some (.ref a), some x] H Q := fun i x y H hx hy e Q q => by
      rw [List.getElem?_map] at hx hy
      cases ht : ts[i]? with
      | none => rw [ht] at hx; cases hx
      | some t =>
        cases hr3 : rs[i]? with
        | none => rw [hr3] at hy; cases hy
        | some r =>
          rw [ht] at hx; rw [hr3] at hy; cases hx; cases hy
          obtain ⟨g1, g2⟩ := hr2.get ht hr3
          exact ⟨_, rfl, _, rfl, t, r, rfl, e _ _ g1, g2, q⟩
    have ln : (ts.map V.ref).length = (rs.map fun r => V.str (rowText r)).length := by rw [List.length_map, List.length_map, hr.len]
    have lz : (ts.map V.ref).length ≤ 100000 := by rw [List.length_map]; omega
    rcases hsq with hq | hq
    · exact .inl ⟨_, rfl, a, rfl, ⟨_, SqL.of hq⟩, fun D hD => lc_ixL (te := tCall (spRowT K) [] C8.E0 (tCons (tVar 1) tNil)) ln (SqL.of hq) hD lz (fun _ => rfl) el fun H3 e3 hd => q D H3 _ (E2.free hD) (E2.trans e3) hd rfl⟩
    · exact .inr ⟨_, rfl, a, rfl, ⟨_, SqT.of hq⟩, fun D hD => lc_ixT (te := tCall (spRowT K) [] C8.E0 (tCons (tVar 1) tNil)) ln (SqT.of hq) hD lz (fun _ => rfl) el fun H3 e3 hd => q D H3 _ (E2.free hD) (E2.trans e3) hd rfl⟩
  · refine ⟨_, rfl, _, rfl, t, ty, k1, k2, fun H1 e1 => ⟨_, rfl, ?_⟩⟩
    rw [decide_eq_false n1, decide_eq_false n2]
    exact iteT (mk (e.up e1))
  · obtain ⟨t0, ty, k1, k2, kk⟩ := seq_list (K := K) hs
    refine ⟨_, rfl, _, rfl, t0, ty, k1, k2, fun H1 e1 => ⟨_, rfl, ?_⟩⟩
    rw [kk]
    have hb1 : ArgsB K H1 xs bs := ⟨hb.1, fun i x b hx hy => (hb.2 i x b hx hy).up e1⟩
    refine iteF (all_ (hs.up e1) hb1 hz fun H2 e2 => ⟨_, rfl, ?_⟩)
    rw [hall]
    exact iteT (mk (e.up (e1.trans e2)))
theorem ok_trace (T : Hd K w mg)
    (c_is_row_value : C8.Cal P w K mg base 5 "is_row_value" (spIsRow K) [])
    (c_is_list : C8.Cal P w K mg base 1 "is_list" (spList K) [])
    (c_traced_row : C8.Cal P w K mg base 6 "traced_row" (spRowT K) []) : CalX P w K mg base 7 "trace" (spTrace K) := (okk_trace T c_is_row_value c_is_list c_traced_row).c
end
end K97
set_option maxHeartbeats 4000000
/-! enumerate(a tuple). -/
namespace K97
open PySem PySem.Spec PyProof.Rows L2
open Sem (wp)
theorem meets_en1 {v : Value} {o : Obj} {Hx : Heap → Prop} (B : Begins v o Hx) :
    Meets (Builtin.«enumerate.__new__» ⟨[.type "enumerate", v], []⟩) (fun _ R s => Hx s.heap ∧
      R (.ok (.ret (.ref (s.heap.push o).objs.size))) { s with heap := (s.heap.push o).push { cls := .type "enumerate", data := .fields #[.none, .bool false, .ref s.heap.objs.size, rawInt 0, .none, .none] } }) :=
  .of_wp fun pr ww A R s hyp => by
    obtain ⟨hp, gg, dd, tt, oo⟩ := s
    obtain ⟨begun, rest⟩ := hyp
    have hsub := sub_enumerate
    have it0 : ∀ {A' : Around} {E : Value → Shared → Prop} {Q : Value → Shared → Prop}, Q (.ref hp.objs.size) ⟨hp.push o, gg, dd, tt, oo⟩ → wpAny (model pr ww) A' (pyIter v) Q E ⟨hp, gg, dd, tt, oo⟩ :=
      fun q => B.iter pr ww _ _ ⟨hp, gg, dd, tt, oo⟩ _ begun q
    wp_walk using it0
    refine wpAny_stack_any fun st => wpAny_pure ?_
    split
    · rename_i cc _ _ _ _ _
      cases (cc == Value.type "enumerate")
      · wp_walk using it0
        exact ⟨_, rfl, rest⟩
      · wp_walk using it0
        exact ⟨_, rfl, rest⟩
    · wp_walk using it0
      exact ⟨_, rfl, rest⟩
section
variable {prog : Program} {w : World} {A : Around} {E : Value → Shared → Prop} {s : Shared}
theorem call_en1 {v : Value} {o : Obj} {Hx : Heap → Prop} {Q : Value → Shared → Prop} (B : Begins v o Hx) (h1 : Hx s.heap)
    (h : ∀ h', IsEnum h' (s.heap.objs.size + 1) s.heap.objs.size 0 .none → h'.get? s.heap.objs.size = some o →
      (∀ b o, s.heap.get? b = some o → h'.get? b = some o) → Q (.ref (s.heap.objs.size + 1)) { s with heap := h' }) :
    wpAny (model prog w) A (call (.type "enumerate") [v]) Q E s := by
  refine callType_new F.called_enumerate (by decide) (F.typeCall_enumerate_1 _) (F.newCall_enumerate_1 _) (fun x => F.args_object_init_2 x _) F.entry_enumerate_new (meets_en1 B) ⟨h1, ?_⟩
  have size1 : (s.heap.push o).objs.size = s.heap.objs.size + 1 := Heap.size_push ..
  show _ ∧ _
  rw [size1]
  have isE : IsEnum ((s.heap.push o).push { cls := .type "enumerate", data := .fields #[.none, .bool false, .ref s.heap.objs.size, rawInt 0, .none, .none] }) (s.heap.objs.size + 1) s.heap.objs.size 0 .none := by
    have z := Heap.get?_push_size (s.heap.push o) (o := { cls := .type "enumerate", data := .fields #[.none, .bool false, .ref s.heap.objs.size, rawInt 0, .none, .none] }) rfl
    rw [size1] at z
    exact z
  exact ⟨⟨_, isE, rfl⟩, h _ isE (Heap.get?_push_of_some _ (Heap.get?_push_size _ B.free)) fun b o' z => Heap.get?_push_of_some _ (Heap.get?_push_of_some _ z)⟩
end
/-- the tuple at a, each item in a new pair with its number -/
def IteT (K : PySem.W.Frag) (a : Addr) : It :=
  ⟨fun i H => ∃ (xs : List V) (x : V), SqT K H a xs ∧ xs[i]? = some x, fun i H v H' => ∃ t x, v = .ref t ∧ H t = none ∧ H' = upd H t (.tup [.int (i : Nat), x]) ∧ ∀ xs, SqT K H a xs → xs[i]? = some x, fun i H => ∃ xs : List V, SqT K H a xs ∧ xs.length = i⟩
theorem turn_enT {P : Program} {w : World} {K : PySem.W.Frag} {elts : List Expr} {kk : Nat} {tpos : Pos} (a e it : Addr) :
    Turn P w K (.Tuple elts kk tpos) (IteT K a) [e, it] e (fun i h => (∃ old, IsEnum h e it ((i : Nat) : Int) old) ∧ h.IsTupleIter it a i ∧ e ≠ it ∧ e ≠ a ∧ a ≠ it) where
  mem := by simp
  obj := fun i h st b hb => by
    obtain ⟨⟨old, isE⟩, ⟨o, ho, hc, hd⟩, _⟩ := st
    rcases List.mem_cons.mp hb with z | z
    · rw [z]; exact ⟨_, isE, fun v q => nomatch q⟩
    · rw [List.mem_singleton.mp z]; exact ⟨o, ho, fun v q => by rw [hd] at q; cases q⟩
  keep := fun i h h' st k => let ⟨⟨old, isE⟩, hi, hne⟩ := st; ⟨⟨old, k e (by simp) _ isE⟩, hi.at fun o q => k it (by simp) o q, hne⟩
  item := by
    intro X hP hw hK hc i pins s σ H E I hf st hg
    subst hP hw hK
    obtain ⟨⟨old, isE⟩, hit, n1, n2, n3⟩ := st
    obtain ⟨xs, x, hq, hx⟩ := hg
    obtain ⟨its, rv, p, _⟩ := I.tuple hq
    obtain ⟨u, hu, ru⟩ := rv.get hx
    have le : e < s.heap.objs.size := Heap.lt_size isE
    have li : it < s.heap.objs.size := by obtain ⟨_, q, _⟩ := hit; exact Heap.lt_size q
    have hlt : i < its.toArray.size := by
      have := (List.getElem?_eq_some_iff.mp hu).1
      simpa using this
    refine wpAny_pyNext_enum_itemD (Draws.tuple (A := X.A.in1) (show X.A.in1.handled = none from I.ok.hd hc) it a n3 its.toArray) isE ⟨hit, p⟩ hlt n1 (by simp [n1, n2]) fun y h1 tk hy ho hst hT hsz hk => ?_
    obtain rfl : y = u := by
      have z : its.toArray[i]? = some u := by simpa using hu
      exact Option.some.inj (hy.symm.trans z)
    refine ⟨_, rfl, wpAny_letOwnedTupleGo_enum (s := { s with heap := h1, toks := tk + 1 }) ho fun h2 isE2 sb => ?_⟩
    have hT2 : h2.get? s.heap.objs.size = some { cls := .type "tuple", data := .seq #[.int i tk, y] } := (sb.2 _ (Nat.ne_of_gt le)).trans hT
    have ok : ObjOk X.prog X.w (upd H s.heap.objs.size (.tup [.int (i : Nat), x])) h2 s.heap.objs.size (.tup [.int (i : Nat), x]) :=
      ⟨sz2, [.int i tk, y], .cons ⟨_, rfl⟩ (.cons ru .nil), ⟨_, hT2, rfl, _, rfl⟩⟩
    have J : Inv X pins σ (upd H s.heap.objs.size (.tup [.int (i : Nat), x])) { s with heap := h2, toks := tk + 1 } :=
      I.turnedNew (ch := [e, it]) (fun b ob hb q => (sb.2 b (fun z => hb (by simp [z]))).trans (hk b ob (fun z => hb (by simp [z])) (fun z => hb (by simp [z])) q)) hf (Nat.le_refl _) ok
    refine ⟨.ref s.heap.objs.size, _, J, rfl, ⟨_, x, rfl, I.hok.fresh (Nat.le_refl _), rfl, fun ys hy => ?_⟩, ⟨⟨y, ?_⟩, hst.1.at fun o q => (sb.2 it (Ne.symm n1)).trans q, n1, n2, n3⟩, fun b hb => ?_⟩
    · rw [I.tuple_inj hy hq]; exact hx
    · have e1 : ((i + 1 : Nat) : Int) = (i : Int) + 1 := by omega
      rw [e1]; exact isE2
    · have lb : b < s.heap.objs.size := by
        rcases List.mem_cons.mp hb with z | z
        · rw [z]; exact le
        · rw [List.mem_singleton.mp z]; exact li
      rw [upd_ne (Nat.ne_of_lt lb)]
      exact (hf b hb).1
  done := by
    intro X hP hw hK hc i pins s σ H E I hf st hg
    subst hP hw hK
    obtain ⟨⟨old, isE⟩, hit, n1, n2, n3⟩ := st
    obtain ⟨xs, hq, hx⟩ := hg
    obtain ⟨its, rv, p, _⟩ := I.tuple hq
    obtain ⟨g0, g1, g2, g3, g4, g5⟩ := hf it (by simp)
    have hl : i = its.toArray.size := by rw [List.size_toArray, ← rv.length]; exact hx.symm
    subst hl
    exact wpAny_pyNext_enum_endD (Draws.tuple (A := X.A.in1) (show X.A.in1.handled = none from I.ok.hd hc) it a n3 its.toArray) isE ⟨hit, p⟩ fun h1 eb => ⟨rfl, I.turned (t' := s.toks) (fun b o hb q => eb b o hb q) g0 g1 g3 g4 g5⟩
  self := fun A i s Q E st h => let ⟨⟨_, isE⟩, _⟩ := st; wpAny_pyIter_enum isE h
def iEnT (K : PySem.W.Frag) (ta : TA) : TI := fun σ H R => ta σ H fun vs H1 => ∃ a xs, vs = [.ref a] ∧ SqT K H1 a xs ∧ R (IteT K a) H1
theorem pi_enT {X : Cx} {e : Expr} {ta : TA} {p pos tpos : Pos} {elts : List Expr} {kk : Nat} (hg : Gl X "enumerate") (hm : X.mg "enumerate" = none) (ha : PA X [e] ta) (hs : starEach [e] X.env = [(false, eval e X.env)] := by rfl) :
    PI X (.Tuple elts kk tpos) (.Call (.Name "enumerate" p) [e] [] pos) (iEnT X.K ta) := by
  refine ⟨fun pins s σ H R I h => ?_⟩
  refine Call_ (ld_blt I hg hm boot_enumerate (callWith_type1 (thn (ha.run pos pins s σ H _ I h) fun us s1 ⟨vs, H1, I1, r1, a, xs, ex, hq, q⟩ => ?_) hs rfl))
  subst ex
  cases r1 with
  | cons r rr =>
    cases rr
    cases r
    obtain ⟨its, rv, p', _⟩ := I1.tuple hq
    have la : a < s1.heap.objs.size := by obtain ⟨_, z, _⟩ := id p'; exact Heap.lt_size z
    refine call_en1 (begins_tuple a its.toArray) p' fun h' isE hit hk => wpAny_pyIter_enum isE ?_
    have I2 : Inv X pins σ H1 { s1 with heap := h' } := I1.kept (t' := s1.toks) hk
    refine ⟨s1.heap.objs.size + 1, [s1.heap.objs.size + 1, s1.heap.objs.size], _, _, H1, rfl, I2, turn_enT a (s1.heap.objs.size + 1) s1.heap.objs.size, ⟨⟨.none, isE⟩, ⟨_, hit, rfl, rfl⟩, Nat.succ_ne_self _, Nat.ne_of_gt (Nat.lt_succ_of_lt la), Nat.ne_of_lt la⟩, fun b hb => ?_, q⟩
    have far : s1.heap.objs.size ≤ b := by
      rcases List.mem_cons.mp hb with z | z
      · rw [z]; exact Nat.le_add_right _ _
      · rw [List.mem_singleton.mp z]; exact Nat.le_refl _
    exact I1.fpOk far (I1.hok.fresh far)
/-- for i, x in enumerate(a tuple) -/
theorem for_enT {K : PySem.W.Frag} {a : Addr} {xs : List V} {g : TG} {tb : TS} {D : Ends} {σ : L2.St} {H : Hp} (Pv : Nat → L2.St → Hp → Prop) (h0 : Pv 0 σ H) (hl : ∀ i σ H, i ≤ xs.length → Pv i σ H → SqT K H a xs)
    (hs : ∀ (i : Nat) x σ H t, xs[i]? = some x → Pv i σ H → H t = none → g (.ref t) σ (upd H t (.tup [.int (i : Nat), x])) fun σ2 H2 => tb { D with nx := Pv (i + 1), ct := Pv (i + 1), bk := D.nx } σ2 H2) (hd : ∀ σ H, Pv xs.length σ H → D.nx σ H) :
    ∃ W : Nat → Nat → L2.St → Hp → Prop, (∃ m, W 0 m σ H) ∧ ∀ i m σ H, W i m σ H →
      ((IteT K a).stop i H ∧ D.nx σ H) ∨ ((IteT K a).go i H ∧ ∃ N : L2.St → Hp → Prop, (∀ σ' H', N σ' H' → ∃ m', m' < m ∧ W (i + 1) m' σ' H') ∧ ∀ x H', (IteT K a).yld i H x H' → g x σ H' fun σ2 H2 => tb { D with nx := N, ct := N, bk := D.nx } σ2 H2) := by
  refine ⟨fun i m σ H => m = xs.length - i ∧ i ≤ xs.length ∧ Pv i σ H, ⟨xs.length, by simp, Nat.zero_le _, h0⟩, ?_⟩
  rintro i m σ H ⟨rfl, hi, pv⟩
  have ql := hl i σ H hi pv
  by_cases lt : i < xs.length
  · refine .inr ⟨⟨xs, xs[i], ql, List.getElem?_eq_getElem lt⟩, Pv (i + 1), fun σ' H' pv' => ⟨xs.length - (i + 1), by omega, rfl, lt, pv'⟩, ?_⟩
    rintro _ _ ⟨t, x, rfl, ht, rfl, hx⟩
    exact hs i x σ H t (hx xs ql) pv ht
  · obtain rfl : i = xs.length := by omega
    exact .inl ⟨⟨xs, ql, rfl⟩, hd σ H pv⟩
end K97
set_option maxHeartbeats 4000000
/-! The law's draws. -/
namespace K97
open PySem PySem.Spec PyProof.Rows L2 RZ
local macro_rules | `(tactic| walk_at "v") => `(tactic| refine ⟨_, rfl, ?_⟩)
local macro_rules | `(tactic| walk_at "ii") => `(tactic| refine ⟨_, _, rfl, rfl, ?_⟩)
/-- one step of a reading: a name, two whole numbers, a scalar comparison, a truth value -/
local macro_rules | `(tactic| walk_at "s") => `(tactic| first | refine ⟨_, rfl, ?_⟩ | refine ⟨_, _, rfl, rfl, ?_⟩ | refine ⟨rfl, ?_⟩ | exact iteT (by walk_at "s") | exact iteF (by walk_at "s"))
local macro_rules | `(tactic| walk_at "r") => `(tactic| (repeat (first | refine ⟨_, rfl, ?_⟩ | refine ⟨_, _, rfl, rfl, ?_⟩ | refine ⟨rfl, ?_⟩ | refine iteT ?_ | refine iteF ?_)))

section
variable {P : Program} {w : World} {K : PySem.W.Frag} {mg : Str → Option Value} {base : Heap}
/-- the pot stands at p -/
def Pot (H : Hp) (p : Addr) : Prop := ∃ a b : Int, H p = some (.lst [.int a, .int b]) ∧ 0 ≤ a ∧ 0 ≤ b ∧ b < 2147483648
def But1 (p : Addr) (H H' : Hp) : Prop := ∀ b o, H b = some o → b ≠ p → H' b = some o
theorem But1.refl {p : Addr} {H : Hp} : But1 p H H := fun _ _ e _ => e
theorem But1.trans {p : Addr} {H H1 H2 : Hp} (h : But1 p H H1) (k : But1 p H1 H2) : But1 p H H2 := fun b o e n => k b o (h b o e n) n
theorem But1.same {p : Addr} {H H1 : Hp} (h : Same H H1) : But1 p H H1 := fun b o e _ => h b o e
theorem Pot.up {H H' : Hp} {p : Addr} (h : Pot H p) (e : Same H H') : Pot H' p := let ⟨a, b, g, k⟩ := h; ⟨a, b, e _ _ g, k⟩
theorem Pot.ne {H : Hp} {p t : Addr} {xs : List V} (h : Pot H p) (e : H t = some (.tup xs)) : t ≠ p := let ⟨_, _, g, _⟩ := h; lst_ne_tup g e
theorem Pot.ne_none {H : Hp} {p t : Addr} (h : Pot H p) (e : H t = none) : t ≠ p := let ⟨_, _, g, _⟩ := h; (ne_of_none g e).symm
theorem Pot.new {H : Hp} {p t : Addr} (h : Pot H p) (e : H t = none) : t ≠ p := let ⟨_, _, g, _⟩ := h; (ne_of_none g e).symm
def spPot (K : PySem.W.Frag) : Sp := sp2 fun x y H Q => ∃ a, ∃ ns : List Int, x = .ref a ∧ y = .int 0 ∧ SqL K H a (ns.map V.int) ∧ ∀ p H', H p = none → Same H H' → Pot H' p → Q (.ref p) H'
theorem abs_nn (i : Int) : 0 ≤ (if i < 0 then -i else i) := by split <;> omega
theorem sc_law_pot : FnScope ["_law_script", "_law_k", "_law_cell", "_law_some"] ["_law_script", "_law_k"] (defScope s_law_pot) := ⟨rfl, rfl, rfl, by decide +kernel, rfl, by decide +kernel, by decide +kernel⟩
theorem ok_law_pot (T : Hd K w mg) : C8.Cal P w K mg base 1 "_law_pot" (spPot K) [] := by
  obtain ⟨fd, F⟩ := T.f_law_pot
  refine cal_of F T.g_law_pot sc_law_pot (fun _ _ _ _ _ _ us hl => match us, hl with | [_, _], _ => rfl) len2 (fun cdv A outer s H vs Q E hr h => ⟨_, (C8.pss_cut (ps_set (i := 2) sc_law_pot.nd rfl (Or.inl rfl) (pe_ifExp (pt_cmpR op_lt (pv 1) (pe_callB call_len (by rfl) T.b_len (by decide +kernel) (pa_cons (pv 0) pa_nil)) (nomark _)) (pe_callB call_abs (by rfl) T.b_abs (by decide +kernel) (pa_cons (pe_ix ix_list (pv 0) (pv 1) (fun _ _ => rfl)) pa_nil)) (pe_op op_add (pe_op op_add (pe_op op_mul pe_int (pv 1)) pe_int) (pe_op op_mod (pe_callB call_abs (by rfl) T.b_abs (by decide +kernel) (pa_cons (pe_callB (cr_sum rfl) (by rfl) T.b_sum (by decide +kernel) (pa_cons (pe_slice sl_list (pv 0) po_none (po_some pe_int)) pa_nil)) pa_nil)) pe_int)))) (pss_cons (ps_set (i := 3) sc_law_pot.nd rfl (Or.inl rfl) (pe_op op_add (pe_op op_mod (pe_callTy call_int1 (by rfl) T.b_int (by decide +kernel) (pa_cons (pe_op op_add (pe_op op_add (pe_op op_mul (pe_op op_mod (pe_callTy call_int1 (by rfl) T.b_int (by decide +kernel) (pa_cons (pv 2) pa_nil)) pe_int) pe_int) (pe_op op_mul pe_int (pv 1))) pe_int) pa_nil)) pe_int) pe_int)) (pss_one (ps_ret (pe_lst (pa_cons (pe_callB (call_max2 rfl) (by rfl) T.b_max (by decide +kernel) (pa_cons pe_int (pa_cons (pe_op op_sub (pv 2) (pe_op op_pow pe_int pe_int)) pa_nil))) (pa_cons (pv 3) pa_nil))))))), ?_⟩)
  obtain ⟨x, y, rfl, a, ns, rfl, rfl, ha, q⟩ := h
  refine ⟨fun σ' H' => Same H H' ∧ ∃ cell : Int, 0 ≤ cell ∧ σ' = [some (.ref a), some (.int 0), some (.int cell), none], ?_, ?_⟩
  · refine ⟨_, rfl, _, rfl, _, _, rfl, .inl ⟨_, ha, rfl⟩, _, _, rfl, rfl, _, rfl, iteD (fun hl => ?_) fun hl => ?_⟩
    · have hl' : 0 < ns.length := by rw [List.length_map] at hl; omega
      exact ⟨_, rfl, _, rfl, a, _, 0, .int (ns[0]), rfl, rfl, ha, at_of (j := 0) rfl (by rw [List.getElem?_map, List.getElem?_eq_getElem hl']; rfl), _, rfl, Same.refl _, _, abs_nn _, rfl⟩
    · have hl' : ns = [] := by
        cases ns with
        | nil => rfl
        | cons z zs => exact absurd (show (0 : Int) < (((z :: zs).map V.int).length : Nat) by rw [List.length_map, List.length_cons]; omega) hl
      subst hl'
      refine ⟨_, rfl, _, _, rfl, rfl, .inr ⟨by decide, by decide⟩, _, _, rfl, rfl, _, rfl, _, rfl, a, [], rfl, ha, fun p hp => ⟨p, [], rfl, SqL.of upd_same, _, rfl, _, _, rfl, rfl, (show (0 : Int) < 1000003 by decide), _, _, rfl, rfl, same_new hp, _, ?_, rfl⟩⟩
      decide
  · rintro σ' H1 ⟨e1, cell, hc, rfl⟩
    refine ⟨_, rfl, .inl ⟨_, rfl, _, _, rfl, rfl, (show (0 : Int) < 2147483549 by decide), _, _, rfl, rfl, .inr ⟨by decide, by decide⟩, _, rfl, _, _, rfl, rfl, .inr ⟨by decide, by decide⟩, _, _, rfl, rfl, _, _, rfl, rfl, .inl ⟨_, rfl, _, _, rfl, rfl, (show (0 : Int) < 2147483563 by decide), _, _, rfl, rfl, ?_⟩⟩⟩
    refine ⟨_, rfl, _, _, rfl, rfl, ⟨by decide, by decide, by decide⟩, _, _, rfl, rfl, _, _, rfl, _, rfl, sz2, fun p hp => ?_⟩
    refine q p _ (e1.free hp) (e1.trans (same_new hp)) ⟨_, _, upd_same, ?_, ?_, ?_⟩
    · split <;> omega
    · omega
    · omega
def spDraw : Sp := sp2 fun x y H Q => ∃ p n, x = .ref p ∧ y = .int n ∧ Pot H p ∧ 0 < n ∧ n ≤ 100000 ∧ ∀ d H', 0 ≤ d → d < n → Pot H' p → But1 p H H' → Q (.int d) H'
theorem sc_law_draw : FnScope ["_law_pot_here", "_law_sides", "_law_digit"] ["_law_pot_here", "_law_sides"] (defScope s_law_draw) := ⟨rfl, rfl, rfl, by decide +kernel, rfl, by decide +kernel, by decide +kernel⟩
theorem ok_law_draw (T : Hd K w mg) : C8.Cal P w K mg base 1 "_law_draw" (spDraw) [] := by
  obtain ⟨fd, F⟩ := T.f_law_draw
  refine cal_of F T.g_law_draw sc_law_draw (fun _ _ _ _ _ _ us hl => match us, hl with | [_, _], _ => rfl) len2 (fun cdv A outer s H vs Q E hr h => ⟨_, (pss_cons (ps_if (pt_cmpR op_gt (pe_ix ix_list (pv 0) pe_int (fun _ _ => rfl)) pe_int (nomark _)) (pss_cons (ps_asg (pe_callB call_divmodW (by rfl) T.b_divmod (by decide +kernel) (pa_cons (pe_ix ix_list (pv 0) pe_int (fun _ _ => rfl)) (pa_cons (pv 1) pa_nil))) (pg_tup rfl (pgs_cons (pg_sub (pv 0) pe_int set_list) (pgs_cons (pg_name (i := 2) sc_law_draw.nd rfl (Or.inl rfl)) pgs_nil)))) (pss_one (ps_ret (pv 2)))) pss_nil) (pss_cons (ps_asg (pe_op op_mod (pe_callTy call_int1 (by rfl) T.b_int (by decide +kernel) (pa_cons (pe_op op_add (pe_op op_mul (pe_ix ix_list (pv 0) pe_int (fun _ _ => rfl)) pe_int) pe_int) pa_nil)) pe_int) (pg_sub (pv 0) pe_int set_list)) (pss_one (ps_ret (pe_op op_mod (pe_callTy call_int1 (by rfl) T.b_int (by decide +kernel) (pa_cons (pe_op op_fdiv (pe_op op_mod (pe_callTy call_int1 (by rfl) T.b_int (by decide +kernel) (pa_cons (pe_op op_mul (pe_ix ix_list (pv 0) pe_int (fun _ _ => rfl)) (pe_ix ix_list (pv 0) pe_int (fun _ _ => rfl))) pa_nil)) pe_int) pe_int) pa_nil)) (pv 1)))))), ?_⟩)
  obtain ⟨x, y, rfl, p, n, rfl, rfl, ⟨a, b, hp, a0, b0, b1⟩, n0, n1, q⟩ := h
  refine ⟨_, rfl, p, _, 0, _, rfl, rfl, SqL.of hp, rfl, _, _, rfl, rfl, _, rfl, iteD (fun g => ?_) fun g => ?_⟩
  · refine ⟨_, rfl, p, _, 0, _, rfl, rfl, SqL.of hp, rfl, _, rfl, a, n, rfl, ⟨n0, PyProof.noPylong_small (by omega)⟩, fun t ht => ?_⟩
    have hp1 := same_new (o := .tup [.int (a / n), .int (a % n)]) ht _ _ hp
    refine ⟨t, _, rfl, SqT.of upd_same, rfl, _, _, rfl, _, rfl, p, _, 0, 0, rfl, rfl, hp1, rfl, _, _, rfl, rfl, ?_⟩
    refine ⟨_, rfl, q _ _ (Int.emod_nonneg _ (by omega)) (Int.emod_lt_of_pos _ n0) ⟨_, _, upd_same, Int.ediv_nonneg a0 (by omega), b0, b1⟩ fun b' o' e ne => ?_⟩
    rw [upd_ne ne]
    exact same_new ht _ _ e
  · refine ⟨_, rfl, p, _, 1, _, rfl, rfl, SqL.of hp, rfl, _, _, rfl, rfl, .inr ⟨by decide, by decide⟩, _, _, rfl, rfl, .inl ⟨_, rfl, _, _, rfl, rfl, (show (0 : Int) < 2147483587 by decide), ?_⟩⟩
    refine ⟨_, rfl, p, _, 1, 1, rfl, rfl, hp, rfl, ?_⟩
    have m0 := Int.emod_nonneg (b * 40692 + 5119) (show (2147483587 : Int) ≠ 0 by decide)
    have m1 := Int.emod_lt_of_pos (b * 40692 + 5119) (show (0 : Int) < 2147483587 by decide)
    refine ⟨_, rfl, p, _, 1, _, rfl, rfl, SqL.of upd_same, rfl, _, rfl, p, _, 1, _, rfl, rfl, SqL.of upd_same, rfl, _, _, rfl, rfl, .inl ⟨by omega, by omega⟩, .inl ⟨_, rfl, _, _, rfl, rfl, (show (0 : Int) < 2147483629 by decide), _, _, rfl, rfl, ⟨by decide, by decide⟩, .inl ⟨_, rfl, _, rfl, _, _, rfl, rfl, n0, ?_⟩⟩⟩
    exact q _ _ (Int.emod_nonneg _ (by omega)) (Int.emod_lt_of_pos _ n0) ⟨_, _, upd_same, a0, m0, by omega⟩ fun b' o' e ne => by rw [upd_ne ne]; exact e
def spPick (K : PySem.W.Frag) : Sp := sp2 fun x y H Q => ∃ p l xs, x = .ref p ∧ y = .ref l ∧ Pot H p ∧ H l = some (.lst xs) ∧ l ≠ p ∧ 0 < xs.length ∧ xs.length ≤ 100000 ∧ ∀ v H', v ∈ xs → Pot H' p → But1 p H H' → Q v H'
theorem sc_law_pick : FnScope ["_law_pot_here", "_law_some"] ["_law_pot_here", "_law_some"] (defScope s_law_pick) := ⟨rfl, rfl, rfl, by decide +kernel, rfl, by decide +kernel, by decide +kernel⟩
theorem ok_law_pick (T : Hd K w mg)
    (c_law_draw : C8.Cal P w K mg base 1 "_law_draw" (spDraw) []) : C8.Cal P w K mg base 2 "_law_pick" (spPick K) [] := by
  obtain ⟨fd, F⟩ := T.f_law_pick
  refine cal_of F T.g_law_pick sc_law_pick (fun _ _ _ _ _ _ us hl => match us, hl with | [_, _], _ => rfl) len2 (fun cdv A outer s H vs Q E hr h => ⟨_, (pss_one (ps_ret (pe_ix ix_list (pv 1) (C8.pe_c c_law_draw hr (by decide) (by rfl) (pa_cons (pv 0) (pa_cons (pe_callB call_len (by rfl) T.b_len (by decide +kernel) (pa_cons (pv 1) pa_nil)) pa_nil))) (fun _ _ => rfl)))), ?_⟩)
  obtain ⟨x, y, rfl, p, l, xs, rfl, rfl, hp, hl, ne, h0, h1, q⟩ := h
  refine ⟨_, rfl, _, rfl, _, rfl, _, _, rfl, .inl ⟨_, SqL.of hl, rfl⟩, _, _, rfl, p, _, rfl, rfl, hp, by omega, by omega, fun d H1 d0 d1 hp1 b1 => ?_⟩
  have hd : d.toNat < xs.length := by omega
  exact ⟨l, xs, d, xs[d.toNat], rfl, rfl, SqL.of (b1 _ _ hl ne), at_of (j := d.toNat) (by omega) (List.getElem?_eq_getElem hd), q _ _ (List.getElem_mem hd) hp1 b1⟩
def spNames : Sp := spNew (fun xs => xs = nms.map V.str)
theorem sc_law_names : FnScope ["_law_first", "_law_later"] [] (defScope s_law_names) := ⟨rfl, rfl, rfl, by decide +kernel, rfl, by decide +kernel, by decide +kernel⟩
theorem ok_law_names (T : Hd K w mg) : C8.Cal P w K mg base 1 "_law_names" (spNames) [] := by
  obtain ⟨fd, F⟩ := T.f_law_names
  refine cal_of F T.g_law_names sc_law_names (fun _ _ _ _ _ _ us hl => match us, hl with | [], _ => rfl) len0 (fun cdv A outer s H vs Q E hr h => ⟨_, (pss_cons (ps_set (i := 0) sc_law_names.nd rfl (Or.inl rfl) (pe_lst (pa_cons pe_str (pa_cons pe_str (pa_cons pe_str (pa_cons pe_str (pa_cons pe_str (pa_cons pe_str (pa_cons pe_str (pa_cons pe_str (pa_cons pe_str (pa_cons pe_str (pa_cons pe_str pa_nil))))))))))))) (pss_cons (ps_set (i := 1) sc_law_names.nd rfl (Or.inl rfl) (pe_lst (pa_cons pe_str (pa_cons pe_str (pa_cons pe_str (pa_cons pe_str (pa_cons pe_str (pa_cons pe_str (pa_cons pe_str (pa_cons pe_str (pa_cons pe_str (pa_cons pe_str (pa_cons pe_str (pa_cons pe_str pa_nil)))))))))))))) (pss_one (ps_ret (pe_op op_cat (pe_op op_cat (pv 0) (pv 1)) (pe_lst (pa_cons pe_str (pa_cons pe_str (pa_cons pe_str pa_nil))))))))), ?_⟩)
  obtain ⟨rfl, q⟩ := h
  refine ⟨sz (by decide), fun l1 h1 => ⟨sz (by decide), fun l2 h2 => ?_⟩⟩
  refine ⟨_, rfl, _, rfl, l1, l2, _, _, rfl, rfl, same_new h2 _ _ upd_same, upd_same, sz (by decide), fun l3 h3 => ⟨sz3, fun l4 h4 => ⟨l3, l4, _, _, rfl, rfl, same_new h4 _ _ upd_same, upd_same, sz (by decide), fun l5 h5 => ?_⟩⟩⟩
  exact q l5 _ _ (same_free (same_new h1) (same_free (same_new h2) (same_free (same_new h3) (same_free (same_new h4) h5)))) ((same_new h1).trans ((same_new h2).trans ((same_new h3).trans ((same_new h4).trans (same_new h5))))) upd_same rfl
theorem But1.free {p : Addr} {H H1 : Hp} {t : Addr} (h : But1 p H H1) (hp : Pot H1 p) (ht : H1 t = none) : H t = none := by
  cases e : H t with
  | none => rfl
  | some o =>
    have := h t o e (hp.ne_none ht)
    rw [ht] at this; cases this
def spInstr (K : PySem.W.Frag) : Sp := sp1 fun x H Q => ∃ p, x = .ref p ∧ Pot H p ∧ ∀ t H' k rs n, Ins k rs n → H' t = some (.tup (insV k rs n)) → Pot H' p → But1 p H H' → Q (.ref t) H'
theorem ins3 {k : Nat} {a b c : Int} (hk : k < 26) (hf : fo k = 0) (ha : 0 ≤ a ∧ a < 8) (hb : 0 ≤ b ∧ b < 8) (hc : 0 ≤ c ∧ c < 8) : Ins k [a, b, c] 0 ∧ insV k [a, b, c] 0 = [.str (nmk k), .int a, .int b, .int c] := by
  refine ⟨⟨⟨hk, by rw [hf]; rfl, fun r hr => ?_⟩, by rw [hf]; rfl⟩, by unfold insV argV; rw [hf]; rfl⟩
  simp only [List.mem_cons, List.not_mem_nil, or_false] at hr
  rcases hr with z | z | z <;> rw [z] <;> assumption
theorem insN {k : Nat} {rs : List Int} {n : Int} (hk : k < 26) (hl : rs.length = regF (fo k)) (h8 : ∀ r ∈ rs, 0 ≤ r ∧ r < 8) (hn : leaF (fo k) ≤ n ∧ n ≤ mosF (fo k)) : Ins k rs n :=
  ⟨⟨hk, hl, h8⟩, by unfold insB; rw [decide_eq_true hn.1, decide_eq_true hn.2, Bool.and_true, Bool.or_true]⟩
theorem fo_0 : ∀ k, k < 11 → fo k = 0 := by decide
theorem fo_1 : ∀ k, 11 ≤ k → k < 15 → fo k = 1 := by
  intro k h1 h2
  have : k = 11 ∨ k = 12 ∨ k = 13 ∨ k = 14 := by omega
  rcases this with z | z | z | z <;> subst z <;> rfl
theorem fo_2 : ∀ k, 15 ≤ k → k < 17 → fo k = 2 := by
  intro k h1 h2
  have : k = 15 ∨ k = 16 := by omega
  rcases this with z | z <;> subst z <;> rfl
theorem fo_3 : ∀ k, 17 ≤ k → k < 20 → fo k = 3 := by
  intro k h1 h2
  have : k = 17 ∨ k = 18 ∨ k = 19 := by omega
  rcases this with z | z | z <;> subst z <;> rfl
theorem fo_5 : ∀ k, 21 ≤ k → k < 23 → fo k = 5 := by
  intro k h1 h2
  have : k = 21 ∨ k = 22 := by omega
  rcases this with z | z <;> subst z <;> rfl
theorem fo_6 : ∀ k, 23 ≤ k → k < 26 → fo k = 6 := by
  intro k h1 h2
  have : k = 23 ∨ k = 24 ∨ k = 25 := by omega
  rcases this with z | z | z <;> subst z <;> rfl
theorem sc_law_instruction : FnScope ["_law_pot_here", "_law_number", "_law_name", "_law_a", "_law_b"] ["_law_pot_here"] (defScope s_law_instruction) := ⟨rfl, rfl, rfl, by decide +kernel, rfl, by decide +kernel, by decide +kernel⟩
theorem ok_law_instruction (T : Hd K w mg)
    (c_law_draw : C8.Cal P w K mg base 1 "_law_draw" (spDraw) [])
    (c_law_names : C8.Cal P w K mg base 1 "_law_names" (spNames) []) : C8.Cal P w K mg base 2 "_law_instruction" (spInstr K) [] := by
  obtain ⟨fd, F⟩ := T.f_law_instruction
  refine cal_of F T.g_law_instruction sc_law_instruction (fun _ _ _ _ _ _ us hl => match us, hl with | [_], _ => rfl) len1 (fun cdv A outer s H vs Q E hr h => ⟨_, (pss_cons (ps_set (i := 1) sc_law_instruction.nd rfl (Or.inl rfl) (pe_op op_add pe_int (C8.pe_c c_law_draw hr (by decide) (by rfl) (pa_cons (pv 0) (pa_cons pe_int pa_nil))))) (pss_cons (ps_par (i := 2) (j := 3) rfl sc_law_instruction.nd rfl rfl (by decide) rfl rfl (pa_cons (pe_ix ix_list (pe_c0 c_law_names hr (by decide) (by rfl)) (pe_op op_sub (pv 1) pe_int) (fun _ _ => rfl)) (pa_cons (C8.pe_c c_law_draw hr (by decide) (by rfl) (pa_cons (pv 0) (pa_cons pe_int pa_nil))) pa_nil)) (by rfl)) (pss_cons (ps_if (pt_cmpR op_lt (pv 1) pe_int (nomark _)) (pss_cons (ps_set (i := 4) sc_law_instruction.nd rfl (Or.inl rfl) (C8.pe_c c_law_draw hr (by decide) (by rfl) (pa_cons (pv 0) (pa_cons pe_int pa_nil)))) (pss_one (ps_ret (pe_tup (pa_cons (pv 2) (pa_cons (pv 3) (pa_cons (pv 4) (pa_cons (C8.pe_c c_law_draw hr (by decide) (by rfl) (pa_cons (pv 0) (pa_cons pe_int pa_nil))) pa_nil)))))))) pss_nil) (pss_cons (ps_if (pt_cmpR op_lt (pv 1) pe_int (nomark _)) (pss_cons (ps_set (i := 4) sc_law_instruction.nd rfl (Or.inl rfl) (C8.pe_c c_law_draw hr (by decide) (by rfl) (pa_cons (pv 0) (pa_cons pe_int pa_nil)))) (pss_one (ps_ret (pe_tup (pa_cons (pv 2) (pa_cons (pv 3) (pa_cons (pv 4) (pa_cons (pe_op op_sub (C8.pe_c c_law_draw hr (by decide) (by rfl) (pa_cons (pv 0) (pa_cons pe_int pa_nil))) pe_int) pa_nil)))))))) pss_nil) (pss_cons (ps_if (pt_cmpR op_lt (pv 1) pe_int (nomark _)) (pss_one (ps_ret (pe_tup (pa_cons (pv 2) (pa_cons (pv 3) (pa_cons (C8.pe_c c_law_draw hr (by decide) (by rfl) (pa_cons (pv 0) (pa_cons pe_int pa_nil))) pa_nil)))))) pss_nil) (pss_cons (ps_if (pt_cmpR op_lt (pv 1) pe_int (nomark _)) (pss_one (ps_ret (pe_tup (pa_cons (pv 2) (pa_cons (pv 3) (pa_cons (pe_op op_sub (C8.pe_c c_law_draw hr (by decide) (by rfl) (pa_cons (pv 0) (pa_cons pe_int pa_nil))) pe_int) pa_nil)))))) pss_nil) (pss_cons (ps_if (pt_cmpR op_eq (pv 1) pe_int (nomark _)) (pss_one (ps_ret (pe_tup (pa_cons (pv 2) (pa_cons (C8.pe_c c_law_draw hr (by decide) (by rfl) (pa_cons (pv 0) (pa_cons pe_int pa_nil))) pa_nil))))) pss_nil) (pss_one (ps_ret (pe_ifExp (pt_cmpR op_lt (pv 1) pe_int (nomark _)) (pe_tup (pa_cons (pv 2) (pa_cons (pv 3) (pa_cons (C8.pe_c c_law_draw hr (by decide) (by rfl) (pa_cons (pv 0) (pa_cons pe_int pa_nil))) pa_nil)))) (pe_tup (pa_cons (pv 2) pa_nil)))))))))))), ?_⟩)
  obtain ⟨x, rfl, p, rfl, hp, q⟩ := h
  refine ⟨_, rfl, _, _, rfl, p, 26, rfl, rfl, hp, by decide, by decide, fun d H1 d0 d1 p1 b1 => ⟨_, _, rfl, rfl, ?_⟩⟩
  obtain ⟨k, hk, rfl⟩ : ∃ k : Nat, k < 26 ∧ d = (k : Int) := ⟨d.toNat, by omega, by omega⟩
  refine ⟨rfl, fun l H2 xs hl e2 hx hxs => ?_⟩
  subst hxs
  refine ⟨_, rfl, _, _, rfl, rfl, l, _, _, .str (nmk k), rfl, rfl, SqL.of hx, at_of (j := k) (by omega) (nms_v hk), ?_⟩
  have b2 := b1.trans (But1.same (p := p) e2)
  have p2 := p1.up e2
  refine ⟨_, rfl, _, _, rfl, p, 8, rfl, rfl, p2, by decide, by decide, fun a H3 a0 a1 p3 b3 => ⟨_, _, rfl, ?_⟩⟩
  have b3' := b2.trans b3
  refine ⟨_, rfl, _, _, rfl, rfl, _, rfl, iteD (fun g => ?_) fun g1 => ?_⟩
  · have hk11 : k < 11 := by omega
    refine ⟨_, rfl, _, _, rfl, p, 8, rfl, rfl, p3, by decide, by decide, fun b H4 b0 b1' p4 b4 => ?_⟩
    refine ⟨_, rfl, _, rfl, _, rfl, _, rfl, _, _, rfl, p, 8, rfl, rfl, p4, by decide, by decide, fun c H5 c0 c1 p5 b5 => ⟨sz4, fun t ht => ?_⟩⟩
    obtain ⟨I, ev⟩ := ins3 hk (fo_0 k hk11) ⟨a0, a1⟩ ⟨b0, b1'⟩ ⟨c0, c1⟩
    exact q t _ k [a, b, c] 0 I (by rw [ev]; exact upd_same) (p5.up (same_new ht)) ((b3'.trans (b4.trans b5)).trans (But1.same (same_new ht)))
  refine ⟨_, rfl, _, _, rfl, rfl, _, rfl, iteD (fun g => ?_) fun g2 => ?_⟩
  · have hf := fo_1 k (by omega) (by omega)
    refine ⟨_, rfl, _, _, rfl, p, 8, rfl, rfl, p3, by decide, by decide, fun b H4 b0 b1' p4 b4 => ?_⟩
    refine ⟨_, rfl, _, rfl, _, rfl, _, rfl, _, _, rfl, p, 32, rfl, rfl, p4, by decide, by decide, fun c H5 c0 c1 p5 b5 => ⟨_, _, rfl, rfl, sz4, fun t ht => ?_⟩⟩
    have I : Ins k [a, b] (c - 16) := insN hk (by rw [hf]; rfl) (fun r hr => by
      simp only [List.mem_cons, List.not_mem_nil, or_false] at hr
      rcases hr with z | z <;> rw [z] <;> exact ⟨by assumption, by assumption⟩) (by rw [hf]; show (-16 : Int) ≤ c - 16 ∧ c - 16 ≤ 15; omega)
    exact q t _ k [a, b] (c - 16) I (by unfold insV argV; rw [hf]; exact upd_same) (p5.up (same_new ht)) ((b3'.trans (b4.trans b5)).trans (But1.same (same_new ht)))
  refine ⟨_, rfl, _, _, rfl, rfl, _, rfl, iteD (fun g => ?_) fun g3 => ?_⟩
  · have hf := fo_2 k (by omega) (by omega)
    refine ⟨_, rfl, _, rfl, _, rfl, _, _, rfl, p, 256, rfl, rfl, p3, by decide, by decide, fun c H5 c0 c1 p5 b5 => ⟨sz3, fun t ht => ?_⟩⟩
    have I : Ins k [a] c := insN hk (by rw [hf]; rfl) (fun r hr => by rw [List.mem_singleton.mp hr]; exact ⟨a0, a1⟩) (by rw [hf]; show (0 : Int) ≤ c ∧ c ≤ 255; omega)
    exact q t _ k [a] c I (by unfold insV argV; rw [hf]; exact upd_same) (p5.up (same_new ht)) ((b3'.trans b5).trans (But1.same (same_new ht)))
  refine ⟨_, rfl, _, _, rfl, rfl, _, rfl, iteD (fun g => ?_) fun g4 => ?_⟩
  · have hf := fo_3 k (by omega) (by omega)
    refine ⟨_, rfl, _, rfl, _, rfl, _, _, rfl, p, 256, rfl, rfl, p3, by decide, by decide, fun c H5 c0 c1 p5 b5 => ⟨_, _, rfl, rfl, sz3, fun t ht => ?_⟩⟩
    have I : Ins k [a] (c - 128) := insN hk (by rw [hf]; rfl) (fun r hr => by rw [List.mem_singleton.mp hr]; exact ⟨a0, a1⟩) (by rw [hf]; show (-128 : Int) ≤ c - 128 ∧ c - 128 ≤ 127; omega)
    exact q t _ k [a] (c - 128) I (by unfold insV argV; rw [hf]; exact upd_same) (p5.up (same_new ht)) ((b3'.trans b5).trans (But1.same (same_new ht)))
  refine ⟨_, rfl, rfl, _, rfl, iteD (fun g => ?_) fun g5 => ?_⟩
  · obtain rfl : k = 20 := by have := V.int.inj g; omega
    refine ⟨_, rfl, _, rfl, _, _, rfl, p, 256, rfl, rfl, p3, by decide, by decide, fun c H5 c0 c1 p5 b5 => ⟨sz2, fun t ht => ?_⟩⟩
    have I : Ins 20 [] c := insN hk rfl (fun r hr => by cases hr) (by show (0 : Int) ≤ c ∧ c ≤ 255; omega)
    exact q t _ 20 [] c I upd_same (p5.up (same_new ht)) ((b3'.trans b5).trans (But1.same (same_new ht)))
  have hk20 : k ≠ 20 := fun z => g5 (by rw [z]; rfl)
  refine ⟨_, rfl, _, _, rfl, rfl, _, rfl, iteD (fun g => ?_) fun g6 => ?_⟩
  · have hf := fo_5 k (by omega) (by omega)
    refine ⟨_, rfl, _, rfl, _, rfl, _, _, rfl, p, 8, rfl, rfl, p3, by decide, by decide, fun c H5 c0 c1 p5 b5 => ⟨sz3, fun t ht => ?_⟩⟩
    have I : Ins k [a] c := insN hk (by rw [hf]; rfl) (fun r hr => by rw [List.mem_singleton.mp hr]; exact ⟨a0, a1⟩) (by rw [hf]; show (0 : Int) ≤ c ∧ c ≤ 7; omega)
    exact q t _ k [a] c I (by unfold insV argV; rw [hf]; exact upd_same) (p5.up (same_new ht)) ((b3'.trans b5).trans (But1.same (same_new ht)))
  · have hf := fo_6 k (by omega) hk
    refine ⟨_, rfl, sz1, fun t ht => ?_⟩
    have I : Ins k [] 0 := insN hk (by rw [hf]; rfl) (fun r hr => by cases hr) (by rw [hf]; decide)
    exact q t _ k [] 0 I (by unfold insV argV; rw [hf]; exact upd_same) (p3.up (same_new ht)) (b3'.trans (But1.same (same_new ht)))
end
end K97
set_option maxHeartbeats 4000000
/-! The law's words and texts. -/
namespace K97
open PySem PySem.Spec PyProof.Rows L2 RZ
local macro_rules | `(tactic| walk_at "v") => `(tactic| refine ⟨_, rfl, ?_⟩)
local macro_rules | `(tactic| walk_at "ii") => `(tactic| refine ⟨_, _, rfl, rfl, ?_⟩)
/-- one step of a reading: a name, two whole numbers, a scalar comparison, a truth value -/
local macro_rules | `(tactic| walk_at "s") => `(tactic| first | refine ⟨_, rfl, ?_⟩ | refine ⟨_, _, rfl, rfl, ?_⟩ | refine ⟨rfl, ?_⟩ | exact iteT (by walk_at "s") | exact iteF (by walk_at "s"))
local macro_rules | `(tactic| walk_at "r") => `(tactic| (repeat (first | refine ⟨_, rfl, ?_⟩ | refine ⟨_, _, rfl, rfl, ?_⟩ | refine ⟨rfl, ?_⟩ | refine iteT ?_ | refine iteF ?_)))

section
variable {P : Program} {w : World} {K : PySem.W.Frag} {mg : Str → Option Value} {base : Heap}
def spLWord (K : PySem.W.Frag) : Sp := sp1 fun x H Q => ∃ t k rs n, x = .ref t ∧ H t = some (.tup (insV k rs n)) ∧ Ins k rs n ∧ ∀ r H', Wd r → Same H H' → Q (.int r) H'
theorem nms_index {k : Nat} (hk : k < 26) : flatV (.str (nmk k)) = true ∧ (∀ (m : Nat) (z' : V), m < k → (nms.map V.str)[m]? = some z' → eqV z' (.str (nmk k)) = false) := by
  refine ⟨rfl, fun m z' hm hz => ?_⟩
  rw [nms_v (by omega)] at hz
  cases hz
  have h1 := List.all_eq_true.mp (number_no k hk) m (List.mem_range.mpr hm)
  cases e : eqV (.str (nmk m)) (.str (nmk k)) with
  | false => rfl
  | true => rw [e] at h1; cases h1
theorem Ins.num {k : Nat} {rs : List Int} {n : Int} (h : Ins k rs n) (hw : widF (fo k) ≠ 0) : leaF (fo k) ≤ n ∧ n ≤ mosF (fo k) := by
  have := h.ok
  unfold insB at this
  rw [decide_eq_false hw, Bool.false_or, Bool.and_eq_true, decide_eq_true_eq, decide_eq_true_eq] at this
  exact this
theorem sc_law_word : FnScope ["_law_instruction_here", "_law_number", "_law_found"] ["_law_instruction_here"] (defScope s_law_word) := ⟨rfl, rfl, rfl, by decide +kernel, rfl, by decide +kernel, by decide +kernel⟩
theorem ok_law_word (T : Hd K w mg)
    (c_law_names : C8.Cal P w K mg base 1 "_law_names" (spNames) []) : C8.Cal P w K mg base 2 "_law_word" (spLWord K) [] := by
  obtain ⟨fd, F⟩ := T.f_law_word
  refine cal_of F T.g_law_word sc_law_word (fun _ _ _ _ _ _ us hl => match us, hl with | [_], _ => rfl) len1 (fun cdv A outer s H vs Q E hr h => ⟨_, (pss_cons (ps_set (i := 1) sc_law_word.nd rfl (Or.inl rfl) (pe_op op_add (pe_bm PySem.F.plainAttrs_list PySem.F.slot_list_index PySem.F.type_list_index mt_index (pe_c0 c_law_names hr (by decide) (by rfl)) (pa_cons (pe_ix ix_tup (pv 0) pe_int (fun _ _ => rfl)) pa_nil)) pe_int)) (pss_cons (ps_set (i := 2) sc_law_word.nd rfl (Or.inl rfl) (pe_op op_mul (pv 1) pe_int)) (pss_cons (ps_if (pt_cmpR op_eq (pv 1) pe_int (nomark _)) (pss_one (ps_ret (pe_op op_add (pv 2) (pe_ix ix_tup (pv 0) pe_int (fun _ _ => rfl))))) pss_nil) (pss_cons (ps_if (pt_cmpR op_gt (pv 1) pe_int (nomark _)) (pss_one (ps_ret (pv 2))) pss_nil) (pss_cons (ps_set (i := 2) sc_law_word.nd rfl (Or.inl rfl) (pe_op op_add (pv 2) (pe_op op_mul (pe_ix ix_tup (pv 0) pe_int (fun _ _ => rfl)) pe_int))) (pss_cons (ps_if (pt_cmpR op_lt (pv 1) pe_int (nomark _)) (pss_one (ps_ret (pe_op op_add (pe_op op_add (pv 2) (pe_op op_mul (pe_ix ix_tup (pv 0) pe_int (fun _ _ => rfl)) pe_int)) (pe_op op_mod (pe_ix ix_tup (pv 0) pe_int (fun _ _ => rfl)) pe_int)))) pss_nil) (pss_one (ps_ret (pe_op op_add (pv 2) (pe_op op_mod (pe_ix ix_tup (pv 0) pe_int (fun _ _ => rfl)) pe_int)))))))))), ?_⟩)
  obtain ⟨x, rfl, t, k, rs, n, rfl, ht, I, q⟩ := h
  have R := I.toRaw
  have h0 : atI (insV k rs n) 0 = some (.str (nmk k)) := at_of (j := 0) rfl rfl
  obtain ⟨fl, no⟩ := nms_index R.kl
  refine ⟨rfl, fun l H1 xs hl e1 hx hxs => ?_⟩
  subst hxs
  have ht1 := e1 _ _ ht
  refine ⟨.inl ⟨rfl, _, SqL.of hx⟩, _, rfl, t, _, 0, _, rfl, rfl, SqT.of ht1, h0, l, nms.map V.str, .str (nmk k), k, .str (nmk k), rfl, rfl, SqL.of hx, fl, nms_flat, nms_v R.kl, number_yes k R.kl, no, _, _, rfl, rfl, ?_⟩
  have hk := R.kl
  refine ⟨_, rfl, _, _, rfl, rfl, .inr ⟨by decide, by decide⟩, ?_⟩
  refine ⟨_, rfl, rfl, _, rfl, iteD (fun g => ?_) fun g1 => ?_⟩
  · obtain rfl : k = 20 := by have := V.int.inj g; omega
    have hn := insV_num n R (by decide)
    have hb := I.num (by decide)
    have b0 : (0 : Int) ≤ n := hb.1
    have b1 : n ≤ 255 := hb.2
    exact ⟨_, rfl, _, rfl, t, _, 1, _, rfl, rfl, SqT.of ht1, hn, _, _, rfl, rfl, q _ _ ⟨by show (0 : Int) ≤ ((20 : Nat) + 1) * 2048 + n; omega, by show ((20 : Nat) + 1 : Int) * 2048 + n < 65536; omega⟩ e1⟩
  have hk20 : k ≠ 20 := fun z => g1 (by rw [z]; rfl)
  refine ⟨_, rfl, _, _, rfl, rfl, _, rfl, iteD (fun g => ⟨_, rfl, q _ _ ⟨by show (0 : Int) ≤ ((k : Int) + 1) * 2048; omega, by show ((k : Int) + 1) * 2048 < 65536; omega⟩ e1⟩) fun g2 => ?_⟩
  have hk23 : k < 23 := by omega
  have hreg : 0 < regF (fo k) := by
    have h2 : ∀ k, k < 23 → k ≠ 20 → 0 < regF (fo k) := by decide
    exact h2 k hk23 hk20
  obtain ⟨a, ha, ha2⟩ := insV_reg (j := 0) n R hreg
  refine ⟨_, rfl, _, rfl, t, _, 1, _, rfl, rfl, SqT.of ht1, ha, _, _, rfl, rfl, .inr ⟨by decide, by decide⟩, _, _, rfl, rfl, ?_⟩
  refine ⟨_, rfl, _, _, rfl, rfl, _, rfl, iteD (fun g => ?_) fun g3 => ?_⟩
  · have h2 : ∀ k, k < 15 → 1 < regF (fo k) ∧ (2 < regF (fo k) ∨ (regF (fo k) = 2 ∧ widF (fo k) ≠ 0)) := by decide
    obtain ⟨g4, g5⟩ := h2 k (by omega)
    obtain ⟨b, hb, hb2⟩ := insV_reg (j := 1) n R g4
    obtain ⟨c, hc⟩ : ∃ c, atI (insV k rs n) 3 = some (.int c) := by
      rcases g5 with g5 | ⟨g5, g6⟩
      · obtain ⟨c, hc, _⟩ := insV_reg (j := 2) n R g5
        exact ⟨c, hc⟩
      · have := insV_num n R g6
        rw [g5] at this
        exact ⟨n, this⟩
    refine ⟨_, rfl, _, rfl, t, _, 2, _, rfl, rfl, SqT.of ht1, hb, _, _, rfl, rfl, .inr ⟨by decide, by decide⟩, _, _, rfl, rfl, _, rfl, t, _, 3, _, rfl, rfl, SqT.of ht1, hc, _, _, rfl, rfl, (show (0 : Int) < 32 by decide), _, _, rfl, rfl, q _ _ ⟨?_, ?_⟩ e1⟩
    · show (0 : Int) ≤ ((k : Int) + 1) * 2048 + a * 256 + b * 32 + c % 32; omega
    · show ((k : Int) + 1) * 2048 + a * 256 + b * 32 + c % 32 < 65536; omega
  · have h2 : ∀ k, k < 23 → ¬ k < 15 → k ≠ 20 → regF (fo k) = 1 ∧ widF (fo k) ≠ 0 := by decide
    obtain ⟨g4, g5⟩ := h2 k hk23 (by omega) hk20
    have hc := insV_num n R g5
    rw [g4] at hc
    refine ⟨_, rfl, _, rfl, t, _, 2, _, rfl, rfl, SqT.of ht1, hc, _, _, rfl, rfl, (show (0 : Int) < 256 by decide), _, _, rfl, rfl, q _ _ ⟨?_, ?_⟩ e1⟩
    · show (0 : Int) ≤ ((k : Int) + 1) * 2048 + a * 256 + n % 256; omega
    · show ((k : Int) + 1) * 2048 + a * 256 + n % 256 < 65536; omega
def spSaid (K : PySem.W.Frag) : Sp := sp1 fun x H Q => ∃ t k rs n, x = .ref t ∧ H t = some (.tup (insV k rs n)) ∧ Raw k rs ∧ n.natAbs < 100000 ∧ RetNew (fun xs => xs = (insT k rs n).map V.str) H Q
def argN (f : Nat) (rs : List Int) (n : Int) : List Int := rs ++ (if widF f = 0 then [] else [n])
theorem insV_argN (k : Nat) (rs : List Int) (n : Int) : insV k rs n = .str (nmk k) :: (argN (fo k) rs n).map V.int := by
  unfold insV argV argN
  rw [List.map_append]
  split <;> rfl
theorem empty_str : ("" : Str) = Str.empty := by decide +kernel
theorem said_at {k : Nat} {rs : List Int} {n : Int} (R : Raw k rs) {i : Nat} {z : Int} (h : (argN (fo k) rs n)[i]? = some z) : (insT k rs n)[i + 1]? = some ((if i < regF (fo k) then ("r" : Str) else "") ++ tx z) := by
  unfold insT
  rw [List.getElem?_cons_succ]
  unfold argN at h
  by_cases hi : i < rs.length
  · rw [List.getElem?_append_left hi] at h
    rw [List.getElem?_append_left (by rw [List.length_map]; exact hi), List.getElem?_map, h, if_pos (by rw [← R.len]; exact hi)]
    rfl
  · rw [List.getElem?_append_right (by omega)] at h
    have hi2 : ¬ i < regF (fo k) := by rw [← R.len]; exact hi
    rw [List.getElem?_append_right (by rw [List.length_map]; omega), List.length_map, if_neg hi2, empty_str, Str.empty_append]
    split at h
    · cases h
    · rename_i hw
      rw [if_neg hw]
      cases hj : i - rs.length with
      | zero => rw [hj] at h; cases h; rfl
      | succ j => rw [hj] at h; cases h
theorem many_k (k : Nat) (hk : k < 26) : regF (fo k) = (if k < 11 then 3 else if k < 15 then 2 else if k = 20 ∨ 23 ≤ k then 0 else 1) := by
  have h : ∀ k, k < 26 → regF (fo k) = (if k < 11 then 3 else if k < 15 then 2 else if k = 20 ∨ 23 ≤ k then 0 else 1) := by decide
  exact h k hk
theorem many_in (k : Nat) (hk : k < 26) : inV (.int ((k : Int) + 1)) [.int 21, .int 24, .int 25, .int 26] = decide (k = 20 ∨ 23 ≤ k) := by
  have h : ∀ k : Nat, k < 26 → inV (.int ((k : Int) + 1)) [.int 21, .int 24, .int 25, .int 26] = decide (k = 20 ∨ 23 ≤ k) := by decide
  exact h k hk
theorem argN_abs {k : Nat} {rs : List Int} {n : Int} (R : Raw k rs) (hn : n.natAbs < 100000) : ∀ z ∈ argN (fo k) rs n, z.natAbs < 100000 := by
  intro z hz
  unfold argN at hz
  rcases List.mem_append.mp hz with hz | hz
  · have := R.r8 z hz; omega
  · split at hz
    · cases hz
    · rw [List.mem_singleton.mp hz]; exact hn
theorem sc_law_said : FnScope ["_law_instruction_here", "_law_number", "_law_many", "_law_found", "_law_at", "_law_part"] ["_law_instruction_here"] (defScope s_law_said) := ⟨rfl, rfl, rfl, by decide +kernel, rfl, by decide +kernel, by decide +kernel⟩
theorem ok_law_said (T : Hd K w mg)
    (c_law_names : C8.Cal P w K mg base 1 "_law_names" (spNames) []) : C8.Cal P w K mg base 2 "_law_said" (spSaid K) [] := by
  obtain ⟨fd, F⟩ := T.f_law_said
  refine cal_of F T.g_law_said sc_law_said (fun _ _ _ _ _ _ us hl => match us, hl with | [_], _ => rfl) len1 (fun cdv A outer s H vs Q E hr h => ⟨_, (pss_cons (ps_set (i := 1) sc_law_said.nd rfl (Or.inl rfl) (pe_op op_add (pe_bm PySem.F.plainAttrs_list PySem.F.slot_list_index PySem.F.type_list_index mt_index (pe_c0 c_law_names hr (by decide) (by rfl)) (pa_cons (pe_ix ix_tup (pv 0) pe_int (fun _ _ => rfl)) pa_nil)) pe_int)) (C8.pss_cut (ps_set (i := 2) sc_law_said.nd rfl (Or.inl rfl) (pe_ifExp (pt_cmpR op_lt (pv 1) pe_int (nomark _)) pe_int (pe_ifExp (pt_cmpR op_lt (pv 1) pe_int (nomark _)) pe_int (pe_ifExp (pt_cmpR op_notIn_seq (pv 1) (pe_tup (pa_cons pe_int (pa_cons pe_int (pa_cons pe_int (pa_cons pe_int pa_nil))))) (by rfl)) pe_int pe_int)))) (pss_cons (ps_set (i := 3) sc_law_said.nd rfl (Or.inl rfl) (pe_lst (pa_cons (pe_ix ix_tup (pv 0) pe_int (fun _ _ => rfl)) pa_nil))) (pss_cons (ps_for PassesOwn.never rfl (pi_enT (by rfl) T.b_enumerate (pa_cons (pe_slice sl_tup (pv 0) (po_some pe_int) po_none) pa_nil)) (pg_tup rfl (pgs_cons (pg_name (i := 4) sc_law_said.nd rfl (Or.inl rfl)) (pgs_cons (pg_name (i := 5) sc_law_said.nd rfl (Or.inl rfl)) pgs_nil))) (pss_one (ps_expr (pe_bm PySem.F.plainAttrs_list PySem.F.slot_list_append PySem.F.type_list_append mt_append (pv 3) (pa_cons (pe_op op_add_str (pe_ifExp (pt_cmpR op_lt (pv 4) (pv 2) (nomark _)) pe_str pe_str) (pe_callTy call_str_int (by rfl) T.b_str (by decide +kernel) (pa_cons (pv 5) pa_nil))) pa_nil))))) (pss_one (ps_ret (pv 3))))))), ?_⟩)
  obtain ⟨x, rfl, t, k, rs, n, rfl, ht, R, hn, q⟩ := h
  have h0 : atI (insV k rs n) 0 = some (.str (nmk k)) := at_of (j := 0) rfl rfl
  obtain ⟨fl, no⟩ := nms_index R.kl
  have hk := R.kl
  refine ⟨rfl, fun l H1 xs hl e1 hx hxs => ?_⟩
  subst hxs
  have ht1 := e1 _ _ ht
  refine ⟨.inl ⟨rfl, _, SqL.of hx⟩, _, rfl, t, _, 0, _, rfl, rfl, SqT.of ht1, h0, l, nms.map V.str, .str (nmk k), k, .str (nmk k), rfl, rfl, SqL.of hx, fl, nms_flat, nms_v R.kl, number_yes k R.kl, no, _, _, rfl, rfl, ?_⟩
  refine ⟨fun σ' H2 => Same H H2 ∧ σ' = [some (.ref t), some (.int ((k : Int) + 1)), some (.int (regF (fo k))), none, none, none], ?_, ?_⟩
  · rw [many_k k hk]
    refine ⟨_, rfl, _, _, rfl, rfl, _, rfl, iteD (fun g => ?_) fun g1 => ⟨_, rfl, _, _, rfl, rfl, _, rfl, iteD (fun g => ?_) fun g2 => ⟨_, rfl, sz4, fun u hu => ⟨u, _, rfl, .inr (SqT.of upd_same), rfl, rfl, _, rfl, ?_⟩⟩⟩⟩
    · rw [if_pos (by omega)]; exact ⟨e1, rfl⟩
    · rw [if_neg (by omega), if_pos (by omega)]; exact ⟨e1, rfl⟩
    · show if (!inV (.int ((k : Int) + 1)) [.int 21, .int 24, .int 25, .int 26]) = true then _ else _
      rw [many_in k hk, if_neg (show ¬ k < 11 by omega), if_neg (show ¬ k < 15 by omega)]
      refine iteN (fun g => ?_) fun g => ?_
      · rw [if_neg g]; exact ⟨e1.trans (same_new hu), rfl⟩
      · rw [if_pos g]; exact ⟨e1.trans (same_new hu), rfl⟩
  rintro σ' H2 ⟨e2, rfl⟩
  have ht2 := e2 _ _ ht
  refine ⟨_, rfl, t, _, 0, _, rfl, rfl, SqT.of ht2, h0, sz1, fun fl hfl => ?_⟩
  have hfl0 : H fl = none := e2.free hfl
  have e3 := e2.trans (same_new (o := .lst [.str (nmk k)]) hfl)
  obtain ⟨zl, hzl⟩ : ∃ zl, zl = argN (fo k) rs n := ⟨_, rfl⟩
  have hlen : (insV k rs n).length = 1 + zl.length := by rw [insV_argN, List.length_cons, List.length_map, hzl, Nat.add_comm]
  have cut1 : cutV (insV k rs n) (some 1) none = zl.map V.int := by
    unfold cutV
    have : HT.sIx (insV k rs n).length 0 (some 1) = 1 := insV_lo k n R 1 (by omega)
    rw [this, HT.sIx_none, List.take_of_length_le (by rw [List.length_drop]; exact Nat.le_refl _), insV_argN, hzl]
    rfl
  have notw : ¬ (HT.sIx (insV k rs n).length 0 (some 1) = 0 ∧ HT.sIx (insV k rs n).length (insV k rs n).length none = (insV k rs n).length) := fun z => by
    have : HT.sIx (insV k rs n).length 0 (some 1) = 1 := insV_lo k n R 1 (by omega)
    rw [this] at z
    exact absurd z.1 (by decide)
  refine ⟨_, rfl, _, rfl, t, _, rfl, SqT.of (e3 _ _ ht), notw, fun c hc => ?_⟩
  rw [cut1]
  have itl := insT_len R hn
  have zlen : zl.length ≤ 4 := by
    have : (insT k rs n).length = 1 + zl.length := by
      unfold insT; rw [hzl]; unfold argN
      rw [List.length_cons, List.length_append, List.length_append, List.length_map]
      split <;> simp <;> omega
    omega
  refine ⟨c, _, rfl, SqT.of upd_same, for_enT (xs := zl.map V.int) (fun i σ H' => Same H H' ∧ H' c = some (.tup (zl.map V.int)) ∧ H' fl = some (.lst (((insT k rs n).take (i + 1)).map V.str)) ∧ ∃ a b, σ = [some (.ref t), some (.int ((k : Int) + 1)), some (.int (regF (fo k))), some (.ref fl), a, b])
    ⟨e3.trans (same_new hc), upd_same, same_new hc _ _ upd_same, _, _, rfl⟩ (fun i σ H' _ z => SqT.of z.2.1) ?_ ?_⟩
  · rintro i y σ H' u hy ⟨e4, hc4, hf4, a, b, rfl⟩ hu
    obtain ⟨z, hz1, rfl⟩ : ∃ z, zl[i]? = some z ∧ y = .int z := by
      rw [List.getElem?_map] at hy
      cases hz : zl[i]? with
      | none => rw [hz] at hy; cases hy
      | some z => rw [hz] at hy; cases hy; exact ⟨z, rfl, rfl⟩
    have hin := (List.getElem?_eq_some_iff.mp hz1).1
    have hat := said_at R (by rw [← hzl]; exact hz1)
    have hza := argN_abs R hn z (by rw [← hzl]; exact List.mem_of_getElem? hz1)
    have z6 : (Str.ofString (toString z)).length ≤ 6 := tx_len hza
    have e5 := same_new (o := .tup [.int (i : Nat), .int z]) hu
    have key : ∀ {s1 : Str}, s1 = (if i < regF (fo k) then ("r" : Str) else "") → upd (upd H' u (.tup [.int (i : Nat), .int z])) fl (.lst (((insT k rs n).take (i + 1)).map V.str ++ [.str (s1 ++ tx z)])) fl = some (.lst (((insT k rs n).take (i + 1 + 1)).map V.str)) := fun {s1} es => by
      rw [upd_same, es, take_map_succ V.str hat]
    have lz : (((insT k rs n).take (i + 1)).map V.str).length < sizeLine := szl (by rw [List.length_map, List.length_take]; omega)
    have l1 : ("r" : Str).length = 1 := by decide +kernel
    have l0 : ("" : Str).length = 0 := by decide +kernel
    have cne : c ≠ fl := lst_ne_tup hf4 hc4
    refine ⟨u, _, rfl, SqT.of upd_same, rfl, _, _, rfl, _, _, rfl, rfl, ?_⟩
    refine ⟨_, rfl, .inl ⟨rfl, _, SqL.of (e5 _ _ hf4)⟩, _, rfl, _, rfl, _, _, rfl, rfl, _, rfl, iteD (fun g => ?_) fun g => ?_⟩
    · refine ⟨_, rfl, z, rfl, tx_log hza, _, _, rfl, rfl, sz (by rw [l1]; omega), fl, _, _, rfl, rfl, e5 _ _ hf4, lz, same_mut (e4.trans e5) hfl0, by rw [upd_ne cne]; exact e5 _ _ hc4, key ?_, _, _, rfl⟩
      rw [if_pos (by omega)]
    · refine ⟨_, rfl, z, rfl, tx_log hza, _, _, rfl, rfl, sz (by rw [l0]; omega), fl, _, _, rfl, rfl, e5 _ _ hf4, lz, same_mut (e4.trans e5) hfl0, by rw [upd_ne cne]; exact e5 _ _ hc4, key ?_, _, _, rfl⟩
      rw [if_neg (by omega)]
  · rintro σ' H' ⟨e4, hc4, hf4, a, b, rfl⟩
    refine ⟨_, rfl, q fl H' _ hfl0 e4 hf4 ?_⟩
    rw [List.take_of_length_le]
    rw [List.length_map]
    have : (insT k rs n).length = 1 + zl.length := by
      unfold insT; rw [hzl]; unfold argN
      rw [List.length_cons, List.length_append, List.length_append, List.length_map]
      split <;> simp <;> omega
    omega
end
end K97
set_option maxHeartbeats 4000000
/-! The law's text of a word. -/
namespace K97
open PySem PySem.Spec PyProof.Rows L2 RZ
local macro_rules | `(tactic| walk_at "v") => `(tactic| refine ⟨_, rfl, ?_⟩)
local macro_rules | `(tactic| walk_at "ii") => `(tactic| refine ⟨_, _, rfl, rfl, ?_⟩)
/-- one step of a reading: a name, two whole numbers, a scalar comparison, a truth value -/
local macro_rules | `(tactic| walk_at "s") => `(tactic| first | refine ⟨_, rfl, ?_⟩ | refine ⟨_, _, rfl, rfl, ?_⟩ | refine ⟨rfl, ?_⟩ | exact iteT (by walk_at "s") | exact iteF (by walk_at "s"))
local macro_rules | `(tactic| walk_at "r") => `(tactic| (repeat (first | refine ⟨_, rfl, ?_⟩ | refine ⟨_, _, rfl, rfl, ?_⟩ | refine ⟨rfl, ?_⟩ | refine iteT ?_ | refine iteF ?_)))

theorem iteTd {p A B : Prop} [Decidable p] (hp : p) (h : A) : if decide p = true then A else B := by rw [decide_eq_true hp]; exact iteT h
theorem iteFd {p A B : Prop} [Decidable p] (hp : ¬ p) (h : B) : if decide p = true then A else B := by rw [decide_eq_false hp]; exact iteF h
/-! ### plain law: the instruction of a word, form by form -/
theorem p11 : (2 : Int) ^ 11 = 2048 := by decide
theorem wK_of {i : Int} (h1 : 1 ≤ i / 2048) (h2 : i / 2048 ≤ 26) : ((wK i : Nat) : Int) = i / 2048 - 1 := by
  unfold wK; rw [p11]; omega
theorem wIs_of {i : Int} (h1 : 1 ≤ i / 2048) (h2 : i / 2048 ≤ 26) : wIs i = (insB (fo (wK i)) (wN i) && decide (asW (wK i) (wRs i) (wN i) = i)) := by
  unfold wIs
  rw [p11, decide_eq_true ⟨h1, h2⟩, Bool.true_and]
theorem wIs_no {i : Int} (h : ¬ (1 ≤ i / 2048 ∧ i / 2048 ≤ 26)) : wIs i = false := by
  unfold wIs
  rw [p11, decide_eq_false h, Bool.false_and]
theorem deed0 {i : Int} (h1 : 1 ≤ i / 2048) (h2 : i / 2048 ≤ 11) : wIs i = decide (i % 32 < 8) ∧ (i % 32 < 8 → insV (wK i) (wRs i) (wN i) = [.str (nmk (wK i)), .int (i / 256 % 8), .int (i / 32 % 8), .int (i % 32)]) := by
  have hk := wK_of h1 (by omega)
  have hf := fo_0 (wK i) (by omega)
  have hr : wRs i = [i / 256 % 8, i / 32 % 8, i % 8] := by unfold wRs; rw [hf]; show [i / 2 ^ 8 % 8, i / 2 ^ 5 % 8, i / 2 ^ 0 % 8] = _; simp
  refine ⟨?_, fun h => ?_⟩
  · rw [wIs_of h1 (by omega), hr]
    have hb : insB (fo (wK i)) (wN i) = true := by rw [hf]; rfl
    rw [hb, Bool.true_and]
    unfold asW
    rw [hf, hk]
    show decide ((i / 2048 - 1 + 1) * 2 ^ 11 + ((i / 256 % 8) * 2 ^ 8 + ((i / 32 % 8) * 2 ^ 5 + ((i % 8) * 2 ^ 0 + 0))) + 0 = i) = _
    refine decide_eq_decide.mpr ⟨fun h => ?_, fun h => ?_⟩ <;> omega
  · rw [hr]
    unfold insV argV
    rw [hf]
    have : i % 8 = i % 32 := by omega
    rw [this]
    rfl
theorem deed1 {i : Int} (h1 : 12 ≤ i / 2048) (h2 : i / 2048 ≤ 15) : wIs i = true ∧ insV (wK i) (wRs i) (wN i) = [.str (nmk (wK i)), .int (i / 256 % 8), .int (i / 32 % 8), .int (if 15 < i % 32 then i % 32 - 32 else i % 32)] := by
  have hk := wK_of (i := i) (by omega) (by omega)
  have hf := fo_1 (wK i) (by omega) (by omega)
  have hr : wRs i = [i / 256 % 8, i / 32 % 8] := by unfold wRs; rw [hf]; show [i / 2 ^ 8 % 8, i / 2 ^ 5 % 8] = _; simp
  have hn : wN i = if 15 < i % 32 then i % 32 - 32 else i % 32 := by
    unfold wN told; rw [hf]
    show (if (15 : Int) < i % 2 ^ 5 ∧ (-16 : Int) < 0 then i % 2 ^ 5 - 2 ^ 5 else i % 2 ^ 5) = _
    have : (2 : Int) ^ 5 = 32 := by decide
    rw [this]
    by_cases h : 15 < i % 32
    · rw [if_pos ⟨h, by decide⟩, if_pos h]
    · rw [if_neg (fun z => h z.1), if_neg h]
  refine ⟨?_, ?_⟩
  · rw [wIs_of (by omega) (by omega), hr, hn]
    unfold asW insB
    rw [hf, hk]
    show ((false || (decide ((-16 : Int) ≤ _) && decide (_ ≤ (15 : Int)))) && decide ((i / 2048 - 1 + 1) * 2 ^ 11 + ((i / 256 % 8) * 2 ^ 8 + ((i / 32 % 8) * 2 ^ 5 + 0)) + (if 15 < i % 32 then i % 32 - 32 else i % 32) % 2 ^ 5 = i)) = true
    rw [Bool.false_or, Bool.and_eq_true, Bool.and_eq_true, decide_eq_true_eq, decide_eq_true_eq, decide_eq_true_eq]
    split <;> omega
  · rw [hr, hn]
    unfold insV argV
    rw [hf]
    rfl
theorem deed2 {i : Int} (h1 : 16 ≤ i / 2048) (h2 : i / 2048 ≤ 17) : wIs i = true ∧ insV (wK i) (wRs i) (wN i) = [.str (nmk (wK i)), .int (i / 256 % 8), .int (i % 256)] := by
  have hk := wK_of (i := i) (by omega) (by omega)
  have hf := fo_2 (wK i) (by omega) (by omega)
  have hr : wRs i = [i / 256 % 8] := by unfold wRs; rw [hf]; show [i / 2 ^ 8 % 8] = _; simp
  have p8 : (2 : Int) ^ 8 = 256 := by decide
  have hn : wN i = i % 256 := by
    unfold wN told; rw [hf]
    show (if (255 : Int) < i % 2 ^ 8 ∧ (0 : Int) < 0 then i % 2 ^ 8 - 2 ^ 8 else i % 2 ^ 8) = _
    rw [if_neg (fun z => absurd z.2 (by decide)), p8]
  refine ⟨?_, ?_⟩
  · rw [wIs_of (by omega) (by omega), hr, hn]
    unfold asW insB
    rw [hf, hk]
    show ((false || (decide ((0 : Int) ≤ i % 256) && decide (i % 256 ≤ (255 : Int)))) && decide ((i / 2048 - 1 + 1) * 2 ^ 11 + ((i / 256 % 8) * 2 ^ 8 + 0) + i % 256 % 2 ^ 8 = i)) = true
    rw [Bool.false_or, Bool.and_eq_true, Bool.and_eq_true, decide_eq_true_eq, decide_eq_true_eq, decide_eq_true_eq]
    omega
  · rw [hr, hn]
    unfold insV argV
    rw [hf]
    rfl
theorem deed3 {i : Int} (h1 : 18 ≤ i / 2048) (h2 : i / 2048 ≤ 20) : wIs i = true ∧ insV (wK i) (wRs i) (wN i) = [.str (nmk (wK i)), .int (i / 256 % 8), .int (if 127 < i % 256 then i % 256 - 256 else i % 256)] := by
  have hk := wK_of (i := i) (by omega) (by omega)
  have hf := fo_3 (wK i) (by omega) (by omega)
  have hr : wRs i = [i / 256 % 8] := by unfold wRs; rw [hf]; show [i / 2 ^ 8 % 8] = _; simp
  have p8 : (2 : Int) ^ 8 = 256 := by decide
  have hn : wN i = if 127 < i % 256 then i % 256 - 256 else i % 256 := by
    unfold wN told; rw [hf]
    show (if (127 : Int) < i % 2 ^ 8 ∧ (-128 : Int) < 0 then i % 2 ^ 8 - 2 ^ 8 else i % 2 ^ 8) = _
    rw [p8]
    by_cases h : 127 < i % 256
    · rw [if_pos ⟨h, by decide⟩, if_pos h]
    · rw [if_neg (fun z => h z.1), if_neg h]
  refine ⟨?_, ?_⟩
  · rw [wIs_of (by omega) (by omega), hr, hn]
    unfold asW insB
    rw [hf, hk]
    show ((false || (decide ((-128 : Int) ≤ _) && decide (_ ≤ (127 : Int)))) && decide ((i / 2048 - 1 + 1) * 2 ^ 11 + ((i / 256 % 8) * 2 ^ 8 + 0) + (if 127 < i % 256 then i % 256 - 256 else i % 256) % 2 ^ 8 = i)) = true
    rw [Bool.false_or, Bool.and_eq_true, Bool.and_eq_true, decide_eq_true_eq, decide_eq_true_eq, decide_eq_true_eq]
    split <;> omega
  · rw [hr, hn]
    unfold insV argV
    rw [hf]
    rfl
theorem deed4 {i : Int} (h1 : i / 2048 = 21) : wIs i = decide (i / 256 % 8 = 0) ∧ insV (wK i) (wRs i) (wN i) = [.str (nmk (wK i)), .int (i % 256)] := by
  have hk := wK_of (i := i) (by omega) (by omega)
  have hk2 : wK i = 20 := by omega
  have hf : fo (wK i) = 4 := by rw [hk2]; rfl
  have hr : wRs i = [] := by unfold wRs; rw [hf]; rfl
  have p8 : (2 : Int) ^ 8 = 256 := by decide
  have hn : wN i = i % 256 := by
    unfold wN told; rw [hf]
    show (if (255 : Int) < i % 2 ^ 8 ∧ (0 : Int) < 0 then i % 2 ^ 8 - 2 ^ 8 else i % 2 ^ 8) = _
    rw [if_neg (fun z => absurd z.2 (by decide)), p8]
  refine ⟨?_, ?_⟩
  · rw [wIs_of (by omega) (by omega), hr, hn]
    have hb : insB (fo (wK i)) (i % 256) = true := by
      unfold insB; rw [hf]
      show (false || (decide ((0 : Int) ≤ i % 256) && decide (i % 256 ≤ (255 : Int)))) = true
      rw [Bool.false_or, Bool.and_eq_true, decide_eq_true_eq, decide_eq_true_eq]; omega
    rw [hb, Bool.true_and]
    unfold asW
    rw [hf, hk]
    show decide ((i / 2048 - 1 + 1) * 2 ^ 11 + 0 + i % 256 % 2 ^ 8 = i) = _
    refine decide_eq_decide.mpr ⟨fun h => ?_, fun h => ?_⟩ <;> omega
  · rw [hr, hn]
    unfold insV argV
    rw [hf]
    rfl
theorem deed5 {i : Int} (h1 : 22 ≤ i / 2048) (h2 : i / 2048 ≤ 23) : wIs i = decide (i % 256 < 8) ∧ insV (wK i) (wRs i) (wN i) = [.str (nmk (wK i)), .int (i / 256 % 8), .int (i % 256)] := by
  have hk := wK_of (i := i) (by omega) (by omega)
  have hf := fo_5 (wK i) (by omega) (by omega)
  have hr : wRs i = [i / 256 % 8] := by unfold wRs; rw [hf]; show [i / 2 ^ 8 % 8] = _; simp
  have p8 : (2 : Int) ^ 8 = 256 := by decide
  have hn : wN i = i % 256 := by
    unfold wN told; rw [hf]
    show (if (7 : Int) < i % 2 ^ 8 ∧ (0 : Int) < 0 then i % 2 ^ 8 - 2 ^ 8 else i % 2 ^ 8) = _
    rw [if_neg (fun z => absurd z.2 (by decide)), p8]
  refine ⟨?_, ?_⟩
  · rw [wIs_of (by omega) (by omega), hr, hn]
    have ha : decide (asW (wK i) [i / 256 % 8] (i % 256) = i) = true := by
      unfold asW
      rw [hf, hk]
      show decide ((i / 2048 - 1 + 1) * 2 ^ 11 + ((i / 256 % 8) * 2 ^ 8 + 0) + i % 256 % 2 ^ 8 = i) = true
      rw [decide_eq_true_eq]; omega
    rw [ha, Bool.and_true]
    unfold insB; rw [hf]
    show (false || (decide ((0 : Int) ≤ i % 256) && decide (i % 256 ≤ (7 : Int)))) = _
    rw [Bool.false_or, decide_eq_true (by omega : (0 : Int) ≤ i % 256), Bool.true_and]
    refine decide_eq_decide.mpr ⟨fun h => ?_, fun h => ?_⟩ <;> omega
  · rw [hr, hn]
    unfold insV argV
    rw [hf]
    rfl
theorem deed6 {i : Int} (h1 : 24 ≤ i / 2048) (h2 : i / 2048 ≤ 26) : wIs i = decide (i % 2048 = 0) ∧ insV (wK i) (wRs i) (wN i) = [.str (nmk (wK i))] := by
  have hk := wK_of (i := i) (by omega) (by omega)
  have hf := fo_6 (wK i) (by omega) (by omega)
  have hr : wRs i = [] := by unfold wRs; rw [hf]; rfl
  refine ⟨?_, ?_⟩
  · rw [wIs_of (by omega) (by omega), hr]
    have hb : insB (fo (wK i)) (wN i) = true := by rw [hf]; rfl
    rw [hb, Bool.true_and]
    unfold asW
    rw [hf, hk]
    show decide ((i / 2048 - 1 + 1) * 2 ^ 11 + 0 + 0 = i) = _
    refine decide_eq_decide.mpr ⟨fun h => ?_, fun h => ?_⟩ <;> omega
  · rw [hr]
    unfold insV argV
    rw [hf]
    rfl
section
variable {P : Program} {w : World} {K : PySem.W.Frag} {mg : Str → Option Value} {base : Heap}
def wText (i : Int) : Str := wordT (some i) 0
def spListed : Sp := sp1 fun x H Q => ∃ i, x = .int i ∧ Wd i ∧ ∀ H', Same H H' → Q (.str (wText i)) H'
theorem sc_law_listed : FnScope ["_law_word_here", "_law_number", "_law_name", "_law_a", "_law_n", "_law_deed", "_law_is_one", "_law_low"] ["_law_word_here"] (defScope s_law_listed) := ⟨rfl, rfl, rfl, by decide +kernel, rfl, by decide +kernel, by decide +kernel⟩
theorem ok_law_listed (T : Hd K w mg)
    (c_law_names : C8.Cal P w K mg base 1 "_law_names" (spNames) [])
    (c_law_said : C8.Cal P w K mg base 2 "_law_said" (spSaid K) []) : C8.Cal P w K mg base 3 "_law_listed" (spListed) [] := by
  obtain ⟨fd, F⟩ := T.f_law_listed
  refine cal_of F T.g_law_listed sc_law_listed (fun _ _ _ _ _ _ us hl => match us, hl with | [_], _ => rfl) len1 (fun cdv A outer s H vs Q E hr h => ⟨_, (pss_cons (ps_set (i := 1) sc_law_listed.nd rfl (Or.inl rfl) (pe_op op_fdiv (pv 0) pe_int)) (C8.pss_cut (ps_par3 (i := 2) (j := 3) (l := 4) rfl sc_law_listed.nd rfl rfl rfl (by decide) (by decide) (by decide) rfl rfl rfl (pa_cons (pe_ifExp (pt_chain op_lt op_lt pe_int (pv 1) pe_int) (pe_ix ix_list (pe_c0 c_law_names hr (by decide) (by rfl)) (pe_op op_sub (pv 1) pe_int) (fun _ _ => rfl)) pe_str) (pa_cons (pe_op op_mod (pe_op op_fdiv (pv 0) pe_int) pe_int) (pa_cons (pe_op op_mod (pv 0) pe_int) pa_nil))) (by rfl)) (C8.pss_cut (ps_if (pt_chain op_lt op_lt pe_int (pv 1) pe_int) (pss_cons (ps_set (i := 5) sc_law_listed.nd rfl (Or.inl rfl) (pe_tup (pa_cons (pv 2) (pa_cons (pv 3) (pa_cons (pe_op op_mod (pe_op op_fdiv (pv 0) pe_int) pe_int) (pa_cons (pe_op op_mod (pv 0) pe_int) pa_nil)))))) (pss_one (ps_set (i := 6) sc_law_listed.nd rfl (Or.inl rfl) (pe_cmpR op_lt (pe_op op_mod (pv 0) pe_int) pe_int (nomark _))))) (pss_one (ps_if (pt_chain op_lt op_lt pe_int (pv 1) pe_int) (pss_cons (ps_set (i := 7) sc_law_listed.nd rfl (Or.inl rfl) (pe_op op_mod (pv 0) pe_int)) (pss_one (ps_par (i := 5) (j := 6) rfl sc_law_listed.nd rfl rfl (by decide) rfl rfl (pa_cons (pe_tup (pa_cons (pv 2) (pa_cons (pv 3) (pa_cons (pe_op op_mod (pe_op op_fdiv (pv 0) pe_int) pe_int) (pa_cons (pe_ifExp (pt_cmpR op_gt (pv 7) pe_int (nomark _)) (pe_op op_sub (pv 7) pe_int) (pv 7)) pa_nil))))) (pa_cons pe_bl pa_nil)) (by rfl)))) (pss_one (ps_if (pt_chain op_lt op_lt pe_int (pv 1) pe_int) (pss_one (ps_par (i := 5) (j := 6) rfl sc_law_listed.nd rfl rfl (by decide) rfl rfl (pa_cons (pe_tup (pa_cons (pv 2) (pa_cons (pv 3) (pa_cons (pe_ifExp (PW.pt (pw_and (pt_cmpR op_gt (pv 1) pe_int (nomark _)) (pw_and1 (pt_cmpR op_gt (pv 4) pe_int (nomark _))))) (pe_op op_sub (pv 4) pe_int) (pv 4)) pa_nil)))) (pa_cons pe_bl pa_nil)) (by rfl))) (pss_one (ps_if (pt_cmpR op_eq (pv 1) pe_int (nomark _)) (pss_one (ps_par (i := 5) (j := 6) rfl sc_law_listed.nd rfl rfl (by decide) rfl rfl (pa_cons (pe_tup (pa_cons (pv 2) (pa_cons (pv 4) pa_nil))) (pa_cons (pe_cmpR op_eq (pv 3) pe_int (nomark _)) pa_nil)) (by rfl))) (pss_one (ps_if (pt_chain op_lt op_lt pe_int (pv 1) pe_int) (pss_one (ps_par (i := 5) (j := 6) rfl sc_law_listed.nd rfl rfl (by decide) rfl rfl (pa_cons (pe_tup (pa_cons (pv 2) (pa_cons (pv 3) (pa_cons (pv 4) pa_nil)))) (pa_cons (pe_cmpR op_lt (pv 4) pe_int (nomark _)) pa_nil)) (by rfl))) (pss_one (ps_par (i := 5) (j := 6) rfl sc_law_listed.nd rfl rfl (by decide) rfl rfl (pa_cons (pe_tup (pa_cons (pv 2) pa_nil)) (pa_cons (pe_and (pe_chain op_lt op_lt pe_int (pv 1) pe_int) (pe_one (pe_cmpR op_eq (pe_op op_mod (pv 0) pe_int) pe_int (nomark _)))) pa_nil)) (by rfl)))))))))))) (pss_one (ps_ret (pe_ifExp (pt_val (pv 6)) (pe_join pe_str (C8.pe_c c_law_said hr (by decide) (by rfl) (pa_cons (pv 5) pa_nil))) (pe_op op_add_str pe_str (pe_callTy call_str_int (by rfl) T.b_str (by decide +kernel) (pa_cons (pv 0) pa_nil))))))))), ?_⟩)
  obtain ⟨x, rfl, i, rfl, hi, q⟩ := h
  have hi' := hi
  unfold Wd at hi'
  refine ⟨_, rfl, _, _, rfl, rfl, ⟨by decide, by decide⟩, ?_⟩
  have p8 : (0 : Int) < 8 := by decide
  have p32 : (0 : Int) < 32 := by decide
  have pd : ∀ {j : Int}, CDiv j 32 := fun {j} => ⟨by decide, by decide⟩
  have pd2 : ∀ {j : Int}, CDiv j 256 := fun {j} => ⟨by decide, by decide⟩
  -- name, a, n
  refine ⟨fun σ' H1 => Same H H1 ∧ ∃ z, ((1 ≤ i / 2048 ∧ i / 2048 ≤ 26) → z = nmk (wK i)) ∧ σ' = [some (.int i), some (.int (i / 2048)), some (.str z), some (.int (i / 256 % 8)), some (.int (i % 256)), none, none, none], ?_, ?_⟩
  · have rest : ∀ {H1 : Hp} {z : Str}, Same H H1 → ((1 ≤ i / 2048 ∧ i / 2048 ≤ 26) → z = nmk (wK i)) → Same H H1 ∧ ∃ z, ((1 ≤ i / 2048 ∧ i / 2048 ≤ 26) → z = nmk (wK i)) ∧ [some (V.int i), some (.int (i / 2048)), some (.str z), some (.int (i / 256 % 8)), some (.int (i % 256)), none, none, none] = [some (V.int i), some (.int (i / 2048)), some (.str z), some (.int (i / 256 % 8)), some (.int (i % 256)), none, none, none] := fun e hz => ⟨e, _, hz, rfl⟩
    refine ⟨_, rfl, _, _, rfl, rfl, _, rfl, iteD (fun g1 => ⟨_, _, rfl, rfl, _, rfl, iteD (fun g2 => ?_) fun g2 => ?_⟩) fun g1 => ⟨_, rfl, iteF ?_⟩⟩
    · have g1' : (0 : Int) < i / 2048 := g1
      have g2' : i / 2048 < 27 := g2
      have hk := wK_of (i := i) (by omega) (by omega)
      refine ⟨rfl, fun l H1 xs hl e1 hx hxs => ?_⟩
      subst hxs
      refine ⟨_, rfl, _, _, rfl, rfl, l, _, _, .str (nmk (wK i)), rfl, rfl, SqL.of hx, at_of (j := wK i) (by show i / 2048 - 1 = _; rw [hk]) (nms_v (by omega)), ?_⟩
      exact ⟨_, rfl, _, _, rfl, rfl, pd2, _, _, rfl, rfl, p8, _, rfl, _, _, rfl, rfl, (show (0 : Int) < 256 by decide), _, _, _, rfl, e1, _, fun _ => rfl, rfl⟩
    · exact ⟨_, rfl, _, _, rfl, rfl, pd2, _, _, rfl, rfl, p8, _, rfl, _, _, rfl, rfl, (show (0 : Int) < 256 by decide), _, _, _, rfl, Same.refl _, _, fun z => absurd g2 (by show ¬ ¬ (i / 2048 < 27); omega), rfl⟩
    · exact ⟨_, rfl, _, _, rfl, rfl, pd2, _, _, rfl, rfl, p8, _, rfl, _, _, rfl, rfl, (show (0 : Int) < 256 by decide), _, _, _, rfl, Same.refl _, _, fun z => absurd g1 (by show ¬ ¬ ((0 : Int) < i / 2048); omega), rfl⟩
  rintro σ' H1 ⟨e1, z, hz, rfl⟩
  refine ⟨fun σ' H' => Same H H' ∧ ∃ t a1 a2 a3 a4 a7, σ' = [some (.int i), a1, a2, a3, a4, some (.ref t), some (.bl (wIs i)), a7] ∧ (wIs i = true → H' t = some (.tup (insV (wK i) (wRs i) (wN i)))), ?_, ?_⟩
  · by_cases c0 : 1 ≤ i / 2048 ∧ i / 2048 ≤ 11
    · obtain ⟨d1, d2⟩ := deed0 c0.1 c0.2
      refine ⟨_, rfl, _, _, rfl, rfl, _, rfl, iteTd (by omega) ⟨_, _, rfl, rfl, _, rfl, iteTd (by omega) ?_⟩⟩
      refine ⟨_, rfl, _, rfl, _, rfl, _, _, rfl, rfl, pd, _, _, rfl, rfl, p8, _, rfl, _, _, rfl, rfl, p32, sz4, fun t ht => ?_⟩
      refine ⟨_, rfl, _, _, rfl, rfl, p32, _, _, rfl, rfl, e1.trans (same_new ht), t, _, _, _, _, _, by rw [d1]; rfl, fun hw => ?_⟩
      rw [d1, decide_eq_true_eq] at hw
      rw [upd_same, d2 hw, hz ⟨c0.1, by omega⟩]
    by_cases z0 : i / 2048 = 0
    · have hno : wIs i = false := wIs_no (by omega)
      refine ⟨_, rfl, _, _, rfl, rfl, _, rfl, iteFd (by omega) ⟨_, rfl, iteF ?_⟩⟩
      refine ⟨_, rfl, _, _, rfl, rfl, _, rfl, iteFd (by omega) ⟨_, rfl, iteF ?_⟩⟩
      refine ⟨_, rfl, _, _, rfl, rfl, _, rfl, iteFd (by omega) ⟨_, rfl, iteF ?_⟩⟩
      refine ⟨_, rfl, rfl, _, rfl, iteD (fun e => absurd (V.int.inj e) (by omega)) fun _ => ?_⟩
      refine ⟨_, rfl, _, _, rfl, rfl, _, rfl, iteFd (by omega) ⟨_, rfl, iteF ?_⟩⟩
      refine ⟨_, rfl, sz1, fun t ht => ⟨_, rfl, _, _, rfl, rfl, _, rfl, iteFd (by omega) ⟨_, rfl, iteF ⟨_, _, rfl, e1.trans (same_new ht), t, _, _, _, _, _, by rw [hno]; rfl, fun hw => by rw [hno] at hw; cases hw⟩⟩⟩⟩
    refine ⟨_, rfl, _, _, rfl, rfl, _, rfl, iteTd (show (0 : Int) < i / 2048 by omega) ⟨_, _, rfl, rfl, _, rfl, iteFd (by omega) ?_⟩⟩
    by_cases c1 : i / 2048 ≤ 15
    · obtain ⟨d1, d2⟩ := deed1 (i := i) (by omega) c1
      refine ⟨_, rfl, _, _, rfl, rfl, _, rfl, iteTd (show (0 : Int) < i / 2048 by omega) ⟨_, _, rfl, rfl, _, rfl, iteTd (by omega) ?_⟩⟩
      refine ⟨_, rfl, _, _, rfl, rfl, p32, ?_⟩
      refine ⟨_, rfl, _, rfl, _, rfl, _, _, rfl, rfl, pd, _, _, rfl, rfl, p8, _, rfl, _, _, rfl, rfl, _, rfl, ?_⟩
      rw [hz (by omega)]
      refine iteD (fun g => ⟨_, rfl, _, _, rfl, rfl, sz4, fun t ht => ⟨_, _, rfl, e1.trans (same_new ht), t, _, _, _, _, _, by rw [d1]; rfl, fun _ => ?_⟩⟩) fun g => ⟨_, rfl, sz4, fun t ht => ⟨_, _, rfl, e1.trans (same_new ht), t, _, _, _, _, _, by rw [d1]; rfl, fun _ => ?_⟩⟩
      · rw [d2, if_pos (show (15 : Int) < i % 32 from g)]; exact upd_same
      · rw [d2, if_neg (show ¬ (15 : Int) < i % 32 from g)]; exact upd_same
    refine ⟨_, rfl, _, _, rfl, rfl, _, rfl, iteTd (show (0 : Int) < i / 2048 by omega) ⟨_, _, rfl, rfl, _, rfl, iteFd (by omega) ?_⟩⟩
    by_cases c2 : i / 2048 ≤ 17
    · obtain ⟨d1, d2⟩ := deed2 (i := i) (by omega) c2
      refine ⟨_, rfl, _, _, rfl, rfl, _, rfl, iteTd (show (0 : Int) < i / 2048 by omega) ⟨_, _, rfl, rfl, _, rfl, iteTd (by omega) ?_⟩⟩
      refine ⟨_, rfl, _, rfl, _, rfl, _, _, rfl, rfl, _, rfl, iteFd (by omega) (iteF ⟨_, rfl, sz3, fun t ht => ⟨_, _, rfl, e1.trans (same_new ht), t, _, _, _, _, _, by rw [d1]; rfl, fun _ => ?_⟩⟩)⟩
      rw [d2, hz (by omega)]; exact upd_same
    by_cases c3 : i / 2048 ≤ 20
    · obtain ⟨d1, d2⟩ := deed3 (i := i) (by omega) c3
      refine ⟨_, rfl, _, _, rfl, rfl, _, rfl, iteTd (show (0 : Int) < i / 2048 by omega) ⟨_, _, rfl, rfl, _, rfl, iteTd (by omega) ?_⟩⟩
      refine ⟨_, rfl, _, rfl, _, rfl, _, _, rfl, rfl, _, rfl, iteTd (by omega) ⟨_, rfl, _, _, rfl, rfl, _, rfl, ?_⟩⟩
      rw [hz (by omega)]
      refine iteD (fun g => ⟨_, rfl, _, _, rfl, rfl, sz3, fun t ht => ⟨_, _, rfl, e1.trans (same_new ht), t, _, _, _, _, _, by rw [d1]; rfl, fun _ => ?_⟩⟩) fun g => ⟨_, rfl, sz3, fun t ht => ⟨_, _, rfl, e1.trans (same_new ht), t, _, _, _, _, _, by rw [d1]; rfl, fun _ => ?_⟩⟩
      · rw [d2, if_pos (show (127 : Int) < i % 256 from g)]; exact upd_same
      · rw [d2, if_neg (show ¬ (127 : Int) < i % 256 from g)]; exact upd_same
    refine ⟨_, rfl, _, _, rfl, rfl, _, rfl, iteTd (show (0 : Int) < i / 2048 by omega) ⟨_, _, rfl, rfl, _, rfl, iteFd (by omega) ?_⟩⟩
    by_cases c4 : i / 2048 = 21
    · obtain ⟨d1, d2⟩ := deed4 c4
      refine ⟨_, rfl, rfl, _, rfl, iteTd (by rw [c4]) ?_⟩
      have hd : decide (V.int (i / 256 % 8) = V.int 0) = wIs i := by
        rw [d1]
        exact decide_eq_decide.mpr ⟨fun e => V.int.inj e, fun e => by rw [e]⟩
      refine ⟨_, rfl, _, rfl, sz2, fun t ht => ⟨_, rfl, rfl, _, _, rfl, e1.trans (same_new ht), t, _, _, _, _, _, by rw [← hd]; rfl, fun _ => ?_⟩⟩
      · rw [d2, hz (by omega)]; exact upd_same
    refine ⟨_, rfl, rfl, _, rfl, iteD (fun e => absurd (V.int.inj e) (by omega)) fun _ => ?_⟩
    by_cases c5 : i / 2048 ≤ 23
    · obtain ⟨d1, d2⟩ := deed5 (i := i) (by omega) c5
      refine ⟨_, rfl, _, _, rfl, rfl, _, rfl, iteTd (show (0 : Int) < i / 2048 by omega) ⟨_, _, rfl, rfl, _, rfl, iteTd (by omega) ?_⟩⟩
      refine ⟨_, rfl, _, rfl, _, rfl, sz3, fun t ht => ⟨_, rfl, _, _, rfl, rfl, _, _, rfl, e1.trans (same_new ht), t, _, _, _, _, _, by rw [d1]; rfl, fun _ => ?_⟩⟩
      rw [d2, hz (by omega)]; exact upd_same
    refine ⟨_, rfl, _, _, rfl, rfl, _, rfl, iteTd (show (0 : Int) < i / 2048 by omega) ⟨_, _, rfl, rfl, _, rfl, iteFd (by omega) ?_⟩⟩
    by_cases c6 : i / 2048 ≤ 26
    · obtain ⟨d1, d2⟩ := deed6 (i := i) (by omega) c6
      have hd : decide (V.int (i % 2048) = V.int 0) = wIs i := by
        rw [d1]
        exact decide_eq_decide.mpr ⟨fun e => V.int.inj e, fun e => by rw [e]⟩
      refine ⟨_, rfl, sz1, fun t ht => ⟨_, rfl, _, _, rfl, rfl, _, rfl, iteTd (show (0 : Int) < i / 2048 by omega) ⟨_, _, rfl, rfl, _, rfl, iteTd (by omega) ⟨_, rfl, _, _, rfl, rfl, (show (0 : Int) < 2048 by decide), rfl, _, _, rfl, e1.trans (same_new ht), t, _, _, _, _, _, by rw [← hd]; rfl, fun _ => ?_⟩⟩⟩⟩
      · rw [d2, hz (by omega)]; exact upd_same
    · have hno : wIs i = false := wIs_no (by omega)
      refine ⟨_, rfl, sz1, fun t ht => ⟨_, rfl, _, _, rfl, rfl, _, rfl, iteTd (show (0 : Int) < i / 2048 by omega) ⟨_, _, rfl, rfl, _, rfl, iteFd (by omega) ⟨_, _, rfl, e1.trans (same_new ht), t, _, _, _, _, _, by rw [hno]; rfl, fun hw => by rw [hno] at hw; cases hw⟩⟩⟩⟩
  · rintro σ' H2 ⟨e2, t, a1, a2, a3, a4, a7, rfl, ht⟩
    have q' : ∀ H', Same H2 H' → Q (.str (wText i)) H' := fun H' e => q H' (e2.trans e)
    unfold wText wordT at q'
    dsimp only at q'
    refine ⟨_, rfl, _, rfl, iteB (fun hw => ?_) fun hw => ?_⟩
    · have I := ins_w hw
      have hn := told_abs (fo_lt _ I.kl) i
      rw [if_pos hw] at q'
      refine ⟨⟨_, rfl⟩, _, rfl, _, rfl, t, wK i, wRs i, wN i, rfl, ht hw, I.toRaw, hn, fun l H3 xs hl e3 hx hxs => ?_⟩
      subst hxs
      exact ⟨_, l, insT (wK i) (wRs i) (wN i), rfl, rfl, .inl (SqL.of hx), insT_sum I.toRaw hn, q' _ e3⟩
    · rw [if_neg (by rw [hw]; decide)] at q'
      have h6 : (Str.ofString (toString i)).length ≤ 6 := tx_len (i := i) (by omega)
      have hl : (".word " : Str).length = 6 := by decide +kernel
      exact ⟨_, rfl, i, rfl, tx_log (by omega), _, _, rfl, rfl, sz (by rw [hl]; omega), q' _ (Same.refl _)⟩
end
end K97
set_option maxHeartbeats 4000000
/-! The law's rows, their texts, what a row is to the law. -/
namespace K97
open PySem PySem.Spec PyProof.Rows L2 RZ
local macro_rules | `(tactic| walk_at "v") => `(tactic| refine ⟨_, rfl, ?_⟩)
local macro_rules | `(tactic| walk_at "ii") => `(tactic| refine ⟨_, _, rfl, rfl, ?_⟩)
/-- one step of a reading: a name, two whole numbers, a scalar comparison, a truth value -/
local macro_rules | `(tactic| walk_at "s") => `(tactic| first | refine ⟨_, rfl, ?_⟩ | refine ⟨_, _, rfl, rfl, ?_⟩ | refine ⟨rfl, ?_⟩ | exact iteT (by walk_at "s") | exact iteF (by walk_at "s"))
local macro_rules | `(tactic| walk_at "r") => `(tactic| (repeat (first | refine ⟨_, rfl, ?_⟩ | refine ⟨_, _, rfl, rfl, ?_⟩ | refine ⟨rfl, ?_⟩ | refine iteT ?_ | refine iteF ?_)))

section
variable {P : Program} {w : World} {K : PySem.W.Frag} {mg : Str → Option Value} {base : Heap}
def spLRow (K : PySem.W.Frag) : Sp := sp1 fun x H Q => ∃ p, x = .ref p ∧ Pot H p ∧ ∀ t H' r, RowOk r → H' t = some (.tup (rowV r)) → H t = none → Pot H' p → But1 p H H' → Q (.ref t) H'
def causes9 : List V := [.int 0, .int 0, .int 1, .int 8, .int 16, .int 19, .int 31, .int 4, .int 7]
theorem causes_ok : ∀ v ∈ causes9, ∃ i, v = .int i ∧ 0 ≤ i ∧ i < 32 := by
  intro v hv
  simp only [causes9, List.mem_cons, List.not_mem_nil, or_false] at hv
  rcases hv with h | h | h | h | h | h | h | h | h <;> rw [h] <;> exact ⟨_, rfl, by decide, by decide⟩
theorem sc_law_row : FnScope ["_law_pot_here", "_law_word_here", "_law_cause", "_law_address", "_law_way", "_law_which", "_law_value", "_law_place", "_law_stored"] ["_law_pot_here"] (defScope s_law_row) := ⟨rfl, rfl, rfl, by decide +kernel, rfl, by decide +kernel, by decide +kernel⟩
theorem ok_law_row (T : Hd K w mg)
    (c_law_draw : C8.Cal P w K mg base 1 "_law_draw" (spDraw) [])
    (c_law_word : C8.Cal P w K mg base 2 "_law_word" (spLWord K) [])
    (c_law_instruction : C8.Cal P w K mg base 2 "_law_instruction" (spInstr K) [])
    (c_law_pick : C8.Cal P w K mg base 2 "_law_pick" (spPick K) []) : C8.Cal P w K mg base 3 "_law_row" (spLRow K) [] := by
  obtain ⟨fd, F⟩ := T.f_law_row
  refine cal_of F T.g_law_row sc_law_row (fun _ _ _ _ _ _ us hl => match us, hl with | [_], _ => rfl) len1 (fun cdv A outer s H vs Q E hr h => ⟨_, (pss_cons (ps_par (i := 3) (j := 4) rfl sc_law_row.nd rfl rfl (by decide) rfl rfl (pa_cons (C8.pe_c c_law_draw hr (by decide) (by rfl) (pa_cons (pv 0) (pa_cons pe_int pa_nil))) (pa_cons (C8.pe_c c_law_draw hr (by decide) (by rfl) (pa_cons (pv 0) (pa_cons pe_int pa_nil))) pa_nil)) (by rfl)) (C8.pss_cut (ps_set (i := 1) sc_law_row.nd rfl (Or.inl rfl) (pe_ifExp (pt_cmpR op_lt (pv 4) pe_int (nomark _)) (C8.pe_c c_law_word hr (by decide) (by rfl) (pa_cons (C8.pe_c c_law_instruction hr (by decide) (by rfl) (pa_cons (pv 0) pa_nil)) pa_nil)) (pe_ifExp (pt_cmpR op_eq (pv 4) pe_int (nomark _)) (C8.pe_c c_law_draw hr (by decide) (by rfl) (pa_cons (pv 0) (pa_cons pe_int pa_nil))) pe_non))) (pss_cons (ps_set (i := 2) sc_law_row.nd rfl (Or.inl rfl) (C8.pe_c c_law_pick hr (by decide) (by rfl) (pa_cons (pv 0) (pa_cons (pe_lst (pa_cons pe_int (pa_cons pe_int (pa_cons pe_int (pa_cons pe_int (pa_cons pe_int (pa_cons pe_int (pa_cons pe_int (pa_cons pe_int (pa_cons pe_int pa_nil)))))))))) pa_nil)))) (pss_cons (ps_asg (pe_tup (pa_cons pe_non (pa_cons pe_non (pa_cons pe_non (pa_cons pe_non pa_nil))))) (pg_tup rfl (pgs_cons (pg_name (i := 5) sc_law_row.nd rfl (Or.inl rfl)) (pgs_cons (pg_name (i := 6) sc_law_row.nd rfl (Or.inl rfl)) (pgs_cons (pg_name (i := 7) sc_law_row.nd rfl (Or.inl rfl)) (pgs_cons (pg_name (i := 8) sc_law_row.nd rfl (Or.inl rfl)) pgs_nil)))))) (C8.pss_cut (ps_if (pt_cmpR op_eq (C8.pe_c c_law_draw hr (by decide) (by rfl) (pa_cons (pv 0) (pa_cons pe_int pa_nil))) pe_int (nomark _)) (pss_one (ps_par (i := 5) (j := 6) rfl sc_law_row.nd rfl rfl (by decide) rfl rfl (pa_cons (C8.pe_c c_law_draw hr (by decide) (by rfl) (pa_cons (pv 0) (pa_cons pe_int pa_nil))) (pa_cons (C8.pe_c c_law_draw hr (by decide) (by rfl) (pa_cons (pv 0) (pa_cons pe_int pa_nil))) pa_nil)) (by rfl))) pss_nil) (C8.pss_cut (ps_if (pt_cmpR op_eq (C8.pe_c c_law_draw hr (by decide) (by rfl) (pa_cons (pv 0) (pa_cons pe_int pa_nil))) pe_int (nomark _)) (pss_one (ps_par (i := 7) (j := 8) rfl sc_law_row.nd rfl rfl (by decide) rfl rfl (pa_cons (C8.pe_c c_law_draw hr (by decide) (by rfl) (pa_cons (pv 0) (pa_cons pe_int pa_nil))) (pa_cons (C8.pe_c c_law_draw hr (by decide) (by rfl) (pa_cons (pv 0) (pa_cons pe_int pa_nil))) pa_nil)) (by rfl))) pss_nil) (pss_one (ps_ret (pe_tup (pa_cons (pv 3) (pa_cons (pv 1) (pa_cons (pv 2) (pa_cons (pv 5) (pa_cons (pv 6) (pa_cons (pv 7) (pa_cons (pv 8) pa_nil)))))))))))))))), ?_⟩)
  obtain ⟨x, rfl, p, rfl, hp, q⟩ := h
  refine ⟨_, rfl, _, _, rfl, p, 4096, rfl, rfl, hp, by decide, by decide, fun a H1 a0 a1 p1 b1 => ⟨_, rfl, _, _, rfl, p, 5, rfl, rfl, p1, by decide, by decide, fun wy H2 w0 w1 p2 b2 => ⟨_, _, rfl, ?_⟩⟩⟩
  have b12 := b1.trans b2
  refine ⟨fun σ' H' => Pot H' p ∧ But1 p H H' ∧ ∃ ow : Option Int, (∀ i, ow = some i → Wd i) ∧ σ' = [some (.ref p), some (oV ow), none, some (.int a), some (.int wy), none, none, none, none], ?_, ?_⟩
  · refine ⟨_, rfl, _, _, rfl, rfl, _, rfl, iteD (fun g => ?_) fun g => ⟨_, rfl, rfl, _, rfl, iteD (fun g => ?_) fun g => ?_⟩⟩
    · refine ⟨_, rfl, _, rfl, p, rfl, p2, fun t H3 k rs n I ht p3 b3 => ⟨_, rfl, t, k, rs, n, rfl, ht, I, fun r H4 hr e4 => ?_⟩⟩
      exact ⟨p3.up e4, (b12.trans b3).trans (But1.same e4), some r, one_w hr, rfl⟩
    · refine ⟨_, rfl, _, _, rfl, p, 65536, rfl, rfl, p2, by decide, by decide, fun d H3 d0 d1 p3 b3 => ?_⟩
      exact ⟨p3, b12.trans b3, some d, one_w ⟨d0, d1⟩, rfl⟩
    · exact ⟨p2, b12, none, none_w, rfl⟩
  rintro σ' H3 ⟨p3, b3, ow, how, rfl⟩
  refine ⟨_, rfl, sz (by decide), fun l hl => ⟨_, _, rfl, p, l, causes9, rfl, rfl, p3.up (same_new hl), upd_same, p3.ne_none hl, by decide, by decide, fun v H4 hv p4 b4 => ?_⟩⟩
  obtain ⟨cs, rfl, c0, c1⟩ := causes_ok v hv
  have b4' := (b3.trans (But1.same (same_new hl))).trans b4
  refine ⟨sz4, fun u hu => ⟨u, _, rfl, SqT.of upd_same, rfl, _, _, rfl, _, _, rfl, _, _, rfl, _, _, rfl, rfl, ?_⟩⟩
  have p5 := p4.up (same_new (o := .tup [V.non, .non, .non, .non]) hu)
  have b5 := b4'.trans (But1.same (same_new (o := .tup [V.non, .non, .non, .non]) hu))
  refine ⟨fun σ' H' => Pot H' p ∧ But1 p H H' ∧ ∃ o : Option (Int × Int), (∀ i j, o = some (i, j) → (0 ≤ i ∧ i < 8) ∧ Wd j) ∧ σ' = [some (.ref p), some (oV ow), some (.int cs), some (.int a), some (.int wy), some (oV (o.map (·.1))), some (oV (o.map (·.2))), some .non, some .non], ?_, ?_⟩
  · refine ⟨_, rfl, _, _, rfl, p, 2, rfl, rfl, p5, by decide, by decide, fun d H6 d0 d1 p6 b6 => ⟨rfl, _, rfl, iteD (fun _ => ?_) fun _ => ⟨p6, b5.trans b6, none, (fun i j e => nomatch e), rfl⟩⟩⟩
    refine ⟨_, rfl, _, _, rfl, p, 8, rfl, rfl, p6, by decide, by decide, fun r H7 r0 r1 p7 b7 => ⟨_, rfl, _, _, rfl, p, 65536, rfl, rfl, p7, by decide, by decide, fun v H8 v0 v1 p8 b8 => ⟨_, _, rfl, p8, ((b5.trans b6).trans b7).trans b8, some (r, v), ?_, rfl⟩⟩⟩
    intro i j e; cases e; exact ⟨⟨r0, r1⟩, v0, v1⟩
  rintro σ' H6 ⟨p6, b6, o, ho, rfl⟩
  refine ⟨fun σ' H' => Pot H' p ∧ But1 p H H' ∧ ∃ o2 : Option (Int × Int), (∀ i j, o2 = some (i, j) → (0 ≤ i ∧ i < 1024) ∧ Wd j) ∧ σ' = [some (.ref p), some (oV ow), some (.int cs), some (.int a), some (.int wy), some (oV (o.map (·.1))), some (oV (o.map (·.2))), some (oV (o2.map (·.1))), some (oV (o2.map (·.2)))], ?_, ?_⟩
  · refine ⟨_, rfl, _, _, rfl, p, 3, rfl, rfl, p6, by decide, by decide, fun d H7 d0 d1 p7 b7 => ⟨rfl, _, rfl, iteD (fun _ => ?_) fun _ => ⟨p7, b6.trans b7, none, (fun i j e => nomatch e), rfl⟩⟩⟩
    refine ⟨_, rfl, _, _, rfl, p, 1024, rfl, rfl, p7, by decide, by decide, fun r H8 r0 r1 p8 b8 => ⟨_, rfl, _, _, rfl, p, 65536, rfl, rfl, p8, by decide, by decide, fun v H9 v0 v1 p9 b9 => ⟨_, _, rfl, p9, ((b6.trans b7).trans b8).trans b9, some (r, v), ?_, rfl⟩⟩⟩
    intro i j e; cases e; exact ⟨⟨r0, r1⟩, v0, v1⟩
  rintro σ' H7 ⟨p7, b7, o2, ho2, rfl⟩
  refine ⟨_, rfl, _, rfl, _, rfl, _, rfl, _, rfl, _, rfl, _, rfl, sz7, fun t ht => ?_⟩
  exact q t _ ⟨a, ow, cs, o, o2⟩ ⟨⟨a0, a1⟩, how, ⟨c0, c1⟩, ho, ho2⟩ upd_same (b7.free p7 ht) (p7.up (same_new ht)) (b7.trans (But1.same (same_new ht)))
/-! ### _law_due: the text of a row, by sums -/
theorem join_snoc (y : Str) : ∀ (l : List Str) (z : Str), l ≠ [] → Str.join y (l ++ [z]) = Str.join y l ++ (y ++ z)
  | [], _, h => absurd rfl h
  | [p], z, _ => by
    show p ++ y ++ z = p ++ (y ++ z)
    rw [Str.append_assoc]
  | p :: q :: r, z, _ => by
    show p ++ y ++ Str.join y ((q :: r) ++ [z]) = p ++ y ++ Str.join y (q :: r) ++ (y ++ z)
    rw [join_snoc y (q :: r) z (by simp)]
    simp only [Str.append_assoc]
theorem tjoin_snoc (y : Str) (l : List Str) (z : Str) (h : l ≠ []) : Txt.join y (l ++ [z]) = Txt.join y l ++ (y ++ z) := by
  rw [TL.join_eq, TL.join_eq, join_snoc y l z h]
theorem tjoin_one (y p : Str) : Txt.join y [p] = p := by rw [TL.join_eq]; rfl
def spDueT (K : PySem.W.Frag) : Sp := sp1 fun x H Q => ∃ t r, x = .ref t ∧ H t = some (.tup (rowV r)) ∧ RowOk r ∧ ∀ H', Same H H' → Q (.str (rowText r)) H'
/-- the sums -/
def due0 (x : Rw) : Str := (tx x.a ++ (": " : Str)) ++ wordT x.w x.c
def due1 (x : Rw) : Str := match x.r with
  | none => due0 x
  | some (i, j) => (((due0 x ++ (" | r" : Str)) ++ tx i) ++ (" = " : Str)) ++ tx j
def due2 (x : Rw) : Str := match x.p with
  | none => due1 x
  | some (i, j) => (((due1 x ++ (" | " : Str)) ++ tx i) ++ (" <- " : Str)) ++ tx j
theorem lit1 : ((" | " : Str) ++ ("r" : Str)) = (" | r" : Str) := by decide +kernel
theorem lit2 : ((" | " : Str) ++ ("trap " : Str)) = (" | trap " : Str) := by decide +kernel
theorem parts0_ne (x : Rw) (l : List Str) : parts0 x ++ l ≠ [] := by unfold parts0; simp
theorem due0_eq (x : Rw) : Txt.join (" | " : Str) (parts0 x) = due0 x := tjoin_one _ _
theorem due1_eq (x : Rw) : Txt.join (" | " : Str) (parts0 x ++ parts1 x) = due1 x := by
  cases hr : x.r with
  | none =>
    have h1 : parts1 x = [] := by unfold parts1; rw [hr]
    have h2 : due1 x = due0 x := by unfold due1; rw [hr]
    rw [h1, h2, List.append_nil, due0_eq]
  | some o =>
    obtain ⟨i, j⟩ := o
    have h1 : parts1 x = [((("r" : Str) ++ tx i) ++ (" = " : Str)) ++ tx j] := by unfold parts1; rw [hr]
    have h2 : due1 x = (((due0 x ++ (" | r" : Str)) ++ tx i) ++ (" = " : Str)) ++ tx j := by unfold due1; rw [hr]
    rw [h1, h2, tjoin_snoc _ _ _ (by unfold parts0; simp), due0_eq, ← lit1]
    simp only [Str.append_assoc]
theorem due2_eq (x : Rw) : Txt.join (" | " : Str) (parts0 x ++ parts1 x ++ parts2 x) = due2 x := by
  cases hr : x.p with
  | none =>
    have h1 : parts2 x = [] := by unfold parts2; rw [hr]
    have h2 : due2 x = due1 x := by unfold due2; rw [hr]
    rw [h1, h2, List.append_nil, due1_eq]
  | some o =>
    obtain ⟨i, j⟩ := o
    have h1 : parts2 x = [(tx i ++ (" <- " : Str)) ++ tx j] := by unfold parts2; rw [hr]
    have h2 : due2 x = (((due1 x ++ (" | " : Str)) ++ tx i) ++ (" <- " : Str)) ++ tx j := by unfold due2; rw [hr]
    rw [h1, h2, tjoin_snoc _ _ _ (parts0_ne x _), due1_eq]
    simp only [Str.append_assoc]
theorem due3_eq (x : Rw) : rowText x = due2 x ++ (if 0 < x.c ∧ (x.c < 16 ∨ x.w ≠ none) then (" | trap " : Str) ++ tx x.c else "") := by
  unfold rowText parts3
  split
  · rw [tjoin_snoc _ _ _ (by rw [List.append_assoc]; exact parts0_ne x _), due2_eq, ← lit2]
    simp only [Str.append_assoc]
  · rw [List.append_nil, due2_eq, empty_str, Str.append_empty]
theorem due0_len {x : Rw} (h : RowOk x) : (due0 x).length ≤ 60 := parts_len h _ (by unfold parts0 due0; simp)
theorem due1_len {x : Rw} (h : RowOk x) : (due1 x).length ≤ 200 := by
  have h0 := due0_len h
  unfold due1
  split
  · omega
  · rename_i i j e
    obtain ⟨h1, h2⟩ := h.r i j e
    unfold Wd at h2
    have i6 : (Str.ofString (toString i)).length ≤ 6 := tx_len (i := i) (by omega)
    have j6 : (Str.ofString (toString j)).length ≤ 6 := tx_len (i := j) (by omega)
    have l1 : (" | r" : Str).length = 4 := by decide +kernel
    have l2 : (" = " : Str).length = 3 := by decide +kernel
    rw [app_len, app_len, app_len, app_len]
    show (due0 x).length + _ + (Str.ofString (toString i)).length + _ + (Str.ofString (toString j)).length ≤ 200
    omega
theorem due2_len {x : Rw} (h : RowOk x) : (due2 x).length ≤ 300 := by
  have h0 := due1_len h
  unfold due2
  split
  · omega
  · rename_i i j e
    obtain ⟨h1, h2⟩ := h.p i j e
    unfold Wd at h2
    have i6 : (Str.ofString (toString i)).length ≤ 6 := tx_len (i := i) (by omega)
    have j6 : (Str.ofString (toString j)).length ≤ 6 := tx_len (i := j) (by omega)
    have l1 : (" | " : Str).length = 3 := by decide +kernel
    have l2 : (" <- " : Str).length = 4 := by decide +kernel
    rw [app_len, app_len, app_len, app_len]
    show (due1 x).length + _ + (Str.ofString (toString i)).length + _ + (Str.ofString (toString j)).length ≤ 300
    omega
theorem wordT_some (i c : Int) : wordT (some i) c = wText i := rfl
theorem sc_law_due : FnScope ["_law_row_here", "_law_found", "_law_address", "_law_word_here", "_law_cause", "_law_which", "_law_value", "_law_place", "_law_stored"] ["_law_row_here"] (defScope s_law_due) := ⟨rfl, rfl, rfl, by decide +kernel, rfl, by decide +kernel, by decide +kernel⟩
theorem ok_law_due (T : Hd K w mg)
    (c_law_listed : C8.Cal P w K mg base 3 "_law_listed" (spListed) []) : C8.Cal P w K mg base 4 "_law_due" (spDueT K) [] := by
  obtain ⟨fd, F⟩ := T.f_law_due
  refine cal_of F T.g_law_due sc_law_due (fun _ _ _ _ _ _ us hl => match us, hl with | [_], _ => rfl) len1 (fun cdv A outer s H vs Q E hr h => ⟨_, (pss_cons (ps_asg (pv 0) (pg_tup rfl (pgs_cons (pg_name (i := 2) sc_law_due.nd rfl (Or.inl rfl)) (pgs_cons (pg_name (i := 3) sc_law_due.nd rfl (Or.inl rfl)) (pgs_cons (pg_name (i := 4) sc_law_due.nd rfl (Or.inl rfl)) (pgs_cons (pg_name (i := 5) sc_law_due.nd rfl (Or.inl rfl)) (pgs_cons (pg_name (i := 6) sc_law_due.nd rfl (Or.inl rfl)) (pgs_cons (pg_name (i := 7) sc_law_due.nd rfl (Or.inl rfl)) (pgs_cons (pg_name (i := 8) sc_law_due.nd rfl (Or.inl rfl)) pgs_nil))))))))) (pss_cons (ps_set (i := 1) sc_law_due.nd rfl (Or.inl rfl) (pe_op op_add_str (pe_callTy call_str_int (by rfl) T.b_str (by decide +kernel) (pa_cons (pv 2) pa_nil)) pe_str)) (C8.pss_cut (ps_if (pt_cmpR op_notN (pv 3) pe_non (nomark _)) (pss_one (ps_set (i := 1) sc_law_due.nd rfl (Or.inl rfl) (pe_op op_add_str (pv 1) (C8.pe_c c_law_listed hr (by decide) (by rfl) (pa_cons (pv 3) pa_nil))))) (pss_one (ps_set (i := 1) sc_law_due.nd rfl (Or.inl rfl) (pe_op op_add_str (pv 1) (pe_ifExp (pt_cmpR op_lt (pv 4) pe_int (nomark _)) pe_str (pe_op op_add_str pe_str (pe_callTy call_str_int (by rfl) T.b_str (by decide +kernel) (pa_cons (pe_op op_sub (pv 4) pe_int) pa_nil)))))))) (C8.pss_cut (ps_if (pt_cmpR op_notN (pv 5) pe_non (nomark _)) (pss_one (ps_set (i := 1) sc_law_due.nd rfl (Or.inl rfl) (pe_op op_add_str (pe_op op_add_str (pe_op op_add_str (pe_op op_add_str (pv 1) pe_str) (pe_callTy call_str_int (by rfl) T.b_str (by decide +kernel) (pa_cons (pv 5) pa_nil))) pe_str) (pe_callTy call_str_int (by rfl) T.b_str (by decide +kernel) (pa_cons (pv 6) pa_nil))))) pss_nil) (C8.pss_cut (ps_if (pt_cmpR op_notN (pv 7) pe_non (nomark _)) (pss_one (ps_set (i := 1) sc_law_due.nd rfl (Or.inl rfl) (pe_op op_add_str (pe_op op_add_str (pe_op op_add_str (pe_op op_add_str (pv 1) pe_str) (pe_callTy call_str_int (by rfl) T.b_str (by decide +kernel) (pa_cons (pv 7) pa_nil))) pe_str) (pe_callTy call_str_int (by rfl) T.b_str (by decide +kernel) (pa_cons (pv 8) pa_nil))))) pss_nil) (pss_one (ps_ret (pe_op op_add_str (pv 1) (pe_ifExp (PW.pt (pw_and (pt_cmpR op_gt (pv 4) pe_int (nomark _)) (pw_and1 (PW.pt (pw_or (pt_cmpR op_notN (pv 3) pe_non (nomark _)) (pw_or1 (pt_cmpR op_lt (pv 4) pe_int (nomark _)))))))) (pe_op op_add_str pe_str (pe_callTy call_str_int (by rfl) T.b_str (by decide +kernel) (pa_cons (pv 4) pa_nil))) pe_str))))))))), ?_⟩)
  obtain ⟨x, rfl, t, r, rfl, ht, R, q⟩ := h
  have ha := R.a
  have hc := R.c
  unfold Ad at ha
  have a6 : (Str.ofString (toString r.a)).length ≤ 6 := tx_len (i := r.a) (by omega)
  have l1 : (": " : Str).length = 2 := by decide +kernel
  have hw := wordT_len R.w hc
  refine ⟨_, rfl, t, _, rfl, SqT.of ht, rfl, _, _, rfl, _, _, rfl, _, _, rfl, _, _, rfl, _, _, rfl, _, _, rfl, _, _, rfl, rfl, ?_⟩
  refine ⟨_, rfl, r.a, rfl, tx_log (by omega), _, _, rfl, rfl, sz (by omega), ?_⟩
  have h0 := due0_len R
  have h1 := due1_len R
  have h2 := due2_len R
  have c6 : (Str.ofString (toString r.c)).length ≤ 6 := tx_len (i := r.c) (by omega)
  have st : ∀ {f g : Str} {o5 o6 o7 o8 : V}, f = g → [some (V.ref t), some (.str f), some (.int r.a), some (oV r.w), some (.int r.c), some o5, some o6, some o7, some o8] = [some (V.ref t), some (.str g), some (.int r.a), some (oV r.w), some (.int r.c), some o5, some o6, some o7, some o8] := fun e => by rw [e]
  refine ⟨fun σ' H' => Same H H' ∧ σ' = [some (.ref t), some (.str (due0 r)), some (.int r.a), some (oV r.w), some (.int r.c), some (oV (r.r.map (·.1))), some (oV (r.r.map (·.2))), some (oV (r.p.map (·.1))), some (oV (r.p.map (·.2)))], ?_, ?_⟩
  · cases hw2 : r.w with
    | none =>
      rw [hw2] at hw
      have e0 : due0 r = (tx r.a ++ (": " : Str)) ++ wordT none r.c := by unfold due0; rw [hw2]
      rw [e0]
      refine ⟨_, rfl, rfl, _, rfl, iteF ⟨_, rfl, _, rfl, _, _, rfl, rfl, _, rfl, iteD (fun g => ?_) fun g => ?_⟩⟩
      · have ew : wordT none r.c = "no word" := if_neg (by omega)
        rw [ew] at hw ⊢
        exact ⟨_, _, rfl, rfl, sz (by rw [app_len]; omega), Same.refl _, rfl⟩
      · have ew : wordT none r.c = ("interrupt " : Str) ++ tx (r.c - 16) := if_pos (by omega)
        rw [ew] at hw ⊢
        rw [app_len] at hw
        have hw3 : ("interrupt " : Str).length + (Str.ofString (toString (r.c - 16))).length ≤ 40 := hw
        exact ⟨_, rfl, _, _, rfl, rfl, r.c - 16, rfl, tx_log (by omega), _, _, rfl, rfl, sz (by omega), _, _, rfl, rfl, sz (by rw [app_len, app_len]; omega), Same.refl _, rfl⟩
    | some i =>
      rw [hw2] at hw
      have e0 : due0 r = (tx r.a ++ (": " : Str)) ++ wText i := by unfold due0; rw [hw2, wordT_some]
      rw [wordT_some] at hw
      rw [e0]
      refine ⟨_, rfl, rfl, _, rfl, iteT ⟨_, rfl, _, rfl, _, rfl, i, rfl, R.w i hw2, fun H1 e1 => ⟨_, _, rfl, rfl, sz (by rw [app_len]; omega), e1, rfl⟩⟩⟩
  rintro σ' H1 ⟨e1, rfl⟩
  refine ⟨fun σ' H' => Same H H' ∧ σ' = [some (.ref t), some (.str (due1 r)), some (.int r.a), some (oV r.w), some (.int r.c), some (oV (r.r.map (·.1))), some (oV (r.r.map (·.2))), some (oV (r.p.map (·.1))), some (oV (r.p.map (·.2)))], ?_, ?_⟩
  · cases hr2 : r.r with
    | none =>
      have e0 : due1 r = due0 r := by unfold due1; rw [hr2]
      rw [e0]
      exact ⟨_, rfl, rfl, _, rfl, iteF ⟨e1, rfl⟩⟩
    | some o =>
      obtain ⟨i, j⟩ := o
      obtain ⟨g1, g2⟩ := R.r i j hr2
      unfold Wd at g2
      have i6 : (Str.ofString (toString i)).length ≤ 6 := tx_len (i := i) (by omega)
      have j6 : (Str.ofString (toString j)).length ≤ 6 := tx_len (i := j) (by omega)
      have e0 : due1 r = (((due0 r ++ (" | r" : Str)) ++ tx i) ++ (" = " : Str)) ++ tx j := by unfold due1; rw [hr2]
      have m1 : (" | r" : Str).length = 4 := by decide +kernel
      have m2 : (" = " : Str).length = 3 := by decide +kernel
      rw [e0]
      exact ⟨_, rfl, rfl, _, rfl, iteT ⟨_, rfl, _, _, rfl, rfl, sz (by omega), _, rfl, i, rfl, tx_log (by omega), _, _, rfl, rfl, sz (by rw [app_len]; omega), _, _, rfl, rfl, sz (by rw [app_len, app_len]; omega), _, rfl, j, rfl, tx_log (by omega), _, _, rfl, rfl, sz (by rw [app_len, app_len, app_len]; omega), e1, rfl⟩⟩
  rintro σ' H2 ⟨e2, rfl⟩
  refine ⟨fun σ' H' => Same H H' ∧ σ' = [some (.ref t), some (.str (due2 r)), some (.int r.a), some (oV r.w), some (.int r.c), some (oV (r.r.map (·.1))), some (oV (r.r.map (·.2))), some (oV (r.p.map (·.1))), some (oV (r.p.map (·.2)))], ?_, ?_⟩
  · cases hr2 : r.p with
    | none =>
      have e0 : due2 r = due1 r := by unfold due2; rw [hr2]
      rw [e0]
      exact ⟨_, rfl, rfl, _, rfl, iteF ⟨e2, rfl⟩⟩
    | some o =>
      obtain ⟨i, j⟩ := o
      obtain ⟨g1, g2⟩ := R.p i j hr2
      unfold Wd at g2
      have i6 : (Str.ofString (toString i)).length ≤ 6 := tx_len (i := i) (by omega)
      have j6 : (Str.ofString (toString j)).length ≤ 6 := tx_len (i := j) (by omega)
      have e0 : due2 r = (((due1 r ++ (" | " : Str)) ++ tx i) ++ (" <- " : Str)) ++ tx j := by unfold due2; rw [hr2]
      have m1 : (" | " : Str).length = 3 := by decide +kernel
      have m2 : (" <- " : Str).length = 4 := by decide +kernel
      rw [e0]
      exact ⟨_, rfl, rfl, _, rfl, iteT ⟨_, rfl, _, _, rfl, rfl, sz (by omega), _, rfl, i, rfl, tx_log (by omega), _, _, rfl, rfl, sz (by rw [app_len]; omega), _, _, rfl, rfl, sz (by rw [app_len, app_len]; omega), _, rfl, j, rfl, tx_log (by omega), _, _, rfl, rfl, sz (by rw [app_len, app_len, app_len]; omega), e2, rfl⟩⟩
  rintro σ' H3 ⟨e3, rfl⟩
  have q' := q H3 e3
  rw [due3_eq] at q'
  have m1 : (" | trap " : Str).length = 8 := by decide +kernel
  have m0 : ("" : Str).length = 0 := by decide +kernel
  have yes : 0 < r.c → (r.c < 16 ∨ r.w ≠ none) → Q (.str (due2 r ++ ((" | trap " : Str) ++ tx r.c))) H3 := fun g1 g2 => by rw [if_pos ⟨g1, g2⟩] at q'; exact q'
  have no : ¬ (0 < r.c ∧ (r.c < 16 ∨ r.w ≠ none)) → Q (.str (due2 r ++ "")) H3 := fun g => by rw [if_neg g] at q'; exact q'
  refine ⟨_, rfl, _, rfl, _, _, rfl, rfl, _, rfl, iteD (fun g1 => ?_) fun g1 => iteF ⟨_, _, rfl, rfl, sz (by rw [m0]; omega), no fun z => g1 z.1⟩⟩
  cases hw2 : r.w with
  | none =>
    refine ⟨_, rfl, rfl, _, rfl, iteF ⟨_, rfl, _, _, rfl, rfl, _, rfl, iteD (fun g2 => ?_) fun g2 => ?_⟩⟩
    · exact ⟨_, rfl, r.c, rfl, tx_log (by omega), _, _, rfl, rfl, sz (by omega), _, _, rfl, rfl, sz (by rw [app_len]; omega), yes g1 (.inl g2)⟩
    · exact ⟨_, _, rfl, rfl, sz (by rw [m0]; omega), no fun z => z.2.elim g2 fun z2 => z2 hw2⟩
  | some i =>
    refine ⟨_, rfl, rfl, _, rfl, iteT (iteT ?_)⟩
    exact ⟨_, rfl, r.c, rfl, tx_log (by omega), _, _, rfl, rfl, sz (by omega), _, _, rfl, rfl, sz (by rw [app_len]; omega), yes g1 (.inr (by rw [hw2]; exact fun z => nomatch z))⟩
end
end K97
set_option maxHeartbeats 4000000
/-! What a row is to the law; bent rows. -/
namespace K97
open PySem PySem.Spec PyProof.Rows L2 RZ
local macro_rules | `(tactic| walk_at "v") => `(tactic| refine ⟨_, rfl, ?_⟩)
local macro_rules | `(tactic| walk_at "ii") => `(tactic| refine ⟨_, _, rfl, rfl, ?_⟩)
/-- one step of a reading: a name, two whole numbers, a scalar comparison, a truth value -/
local macro_rules | `(tactic| walk_at "s") => `(tactic| first | refine ⟨_, rfl, ?_⟩ | refine ⟨_, _, rfl, rfl, ?_⟩ | refine ⟨rfl, ?_⟩ | exact iteT (by walk_at "s") | exact iteF (by walk_at "s"))
local macro_rules | `(tactic| walk_at "r") => `(tactic| (repeat (first | refine ⟨_, rfl, ?_⟩ | refine ⟨_, _, rfl, rfl, ?_⟩ | refine ⟨rfl, ?_⟩ | refine iteT ?_ | refine iteF ?_)))

section
variable {P : Program} {w : World} {K : PySem.W.Frag} {mg : Str → Option Value} {base : Heap}
def spLBelow (K : PySem.W.Frag) : Sp := sp2 fun x y H Q => ∃ n, y = .int n ∧ Seen K H x ∧ Q (.bl (isB n x)) H
theorem sc_law_is_below : FnScope ["_law_value", "_law_most"] ["_law_value", "_law_most"] (defScope s_law_is_below) := ⟨rfl, rfl, rfl, by decide +kernel, rfl, by decide +kernel, by decide +kernel⟩
theorem ok_law_is_below (T : Hd K w mg) : C8.Cal P w K mg base 1 "_law_is_below" (spLBelow K) [] := by
  obtain ⟨fd, F⟩ := T.f_law_is_below
  refine cal_of F T.g_law_is_below sc_law_is_below (fun _ _ _ _ _ _ us hl => match us, hl with | [_, _], _ => rfl) len2 (fun cdv A outer s H vs Q E hr h => ⟨_, (pss_one (ps_ret (pe_and (pe_callB call_isi (by rfl) T.b_isinstance (by decide +kernel) (pa_cons (pv 0) (pa_cons (pe_ty (n := "int") T.b_int (by rfl) (by decide +kernel)) pa_nil))) (pe_and (pe_not (pe_callB call_isi (by rfl) T.b_isinstance (by decide +kernel) (pa_cons (pv 0) (pa_cons (pe_ty (n := "bool") T.b_bool (by rfl) (by decide +kernel)) pa_nil)))) (pe_one (pe_chain op_le op_lt pe_int (pv 0) (pv 1))))))), ?_⟩)
  obtain ⟨x, y, rfl, n, rfl, ⟨t, ty, k1, k2, _⟩, q⟩ := h
  refine ⟨_, rfl, _, _, _, _, _, rfl, .ty _, ty, kit_ty k1, _, rfl, ?_⟩
  cases x with
  | int i =>
    refine iteT ⟨_, rfl, _, _, _, _, _, rfl, .ty _, ty, kit_ty k2, _, rfl, _, rfl, iteT ?_⟩
    refine ⟨_, rfl, _, _, rfl, rfl, _, rfl, iteD (fun g => ⟨_, rfl, _, _, rfl, rfl, q_bl q ?_⟩) fun g => q_bl q ?_⟩
    · show decide (i < n) = (decide (0 ≤ i) && decide (i < n))
      rw [decide_eq_true g, Bool.true_and]
    · show false = (decide (0 ≤ i) && decide (i < n))
      rw [decide_eq_false g, Bool.false_and]
  | bl b => exact iteT ⟨_, rfl, _, _, _, _, _, rfl, .ty _, ty, kit_ty k2, _, rfl, _, rfl, iteF q⟩
  | _ => exact iteF q
theorem isB32 (c : V) : isB 32 c = (isC c && ltC c) := by cases c <;> rfl
theorem pairB_eq (n m : Int) (x y : V) : pairB n m x y = (if (isN x && isN y) = true then true else (isB n x && isB m y)) := by
  unfold pairB
  cases x <;> cases y <;> simp [isN, isB]
theorem sc_law_is_row : FnScope ["_law_value"] ["_law_value"] (defScope s_law_is_row) := ⟨rfl, rfl, rfl, by decide +kernel, rfl, by decide +kernel, by decide +kernel⟩
theorem ok_law_is_row (T : Hd K w mg)
    (c_law_is_below : C8.Cal P w K mg base 1 "_law_is_below" (spLBelow K) []) : C8.Cal P w K mg base 2 "_law_is_row" (spIsRow K) [] := by
  obtain ⟨fd, F⟩ := T.f_law_is_row
  refine cal_of F T.g_law_is_row sc_law_is_row (fun _ _ _ _ _ _ us hl => match us, hl with | [_], _ => rfl) len1 (fun cdv A outer s H vs Q E hr h => ⟨_, (pss_cons (ps_if (PW.pt (pw_or (pt_not (pt_val (pe_callB call_isi (by rfl) T.b_isinstance (by decide +kernel) (pa_cons (pv 0) (pa_cons (pe_ty (n := "tuple") T.b_tuple (by rfl) (by decide +kernel)) pa_nil))))) (pw_or (pt_cmpR op_ne (pe_callB call_len (by rfl) T.b_len (by decide +kernel) (pa_cons (pv 0) pa_nil)) pe_int (nomark _)) (pw_or1 (pt_not (pt_val (C8.pe_c c_law_is_below hr (by decide) (by rfl) (pa_cons (pe_ix ix_tup (pv 0) pe_int (fun _ _ => rfl)) (pa_cons pe_int pa_nil))))))))) (pss_one (ps_ret pe_bl)) pss_nil) (pss_cons (ps_if (PW.pt (pw_or (pt_not (PW.pt (pw_or (pt_cmpR op_isN (pe_ix ix_tup (pv 0) pe_int (fun _ _ => rfl)) pe_non (nomark _)) (pw_or1 (pt_val (C8.pe_c c_law_is_below hr (by decide) (by rfl) (pa_cons (pe_ix ix_tup (pv 0) pe_int (fun _ _ => rfl)) (pa_cons pe_int pa_nil)))))))) (pw_or1 (pt_not (pt_val (C8.pe_c c_law_is_below hr (by decide) (by rfl) (pa_cons (pe_ix ix_tup (pv 0) pe_int (fun _ _ => rfl)) (pa_cons pe_int pa_nil)))))))) (pss_one (ps_ret pe_bl)) pss_nil) (pss_cons (ps_if (pt_not (PW.pt (pw_and (pt_cmpR op_isN (pe_ix ix_tup (pv 0) pe_int (fun _ _ => rfl)) pe_non (nomark _)) (pw_and1 (pt_cmpR op_isN (pe_ix ix_tup (pv 0) pe_int (fun _ _ => rfl)) pe_non (nomark _)))))) (pss_one (ps_if (PW.pt (pw_or (pt_not (pt_val (C8.pe_c c_law_is_below hr (by decide) (by rfl) (pa_cons (pe_ix ix_tup (pv 0) pe_int (fun _ _ => rfl)) (pa_cons pe_int pa_nil))))) (pw_or1 (pt_not (pt_val (C8.pe_c c_law_is_below hr (by decide) (by rfl) (pa_cons (pe_ix ix_tup (pv 0) pe_int (fun _ _ => rfl)) (pa_cons pe_int pa_nil)))))))) (pss_one (ps_ret pe_bl)) pss_nil)) pss_nil) (pss_cons (ps_if (PW.pt (pw_and (pt_cmpR op_isN (pe_ix ix_tup (pv 0) pe_int (fun _ _ => rfl)) pe_non (nomark _)) (pw_and1 (pt_cmpR op_isN (pe_ix ix_tup (pv 0) pe_int (fun _ _ => rfl)) pe_non (nomark _))))) (pss_one (ps_ret pe_bl)) pss_nil) (pss_one (ps_ret (pe_and (C8.pe_c c_law_is_below hr (by decide) (by rfl) (pa_cons (pe_ix ix_tup (pv 0) pe_int (fun _ _ => rfl)) (pa_cons pe_int pa_nil))) (pe_one (C8.pe_c c_law_is_below hr (by decide) (by rfl) (pa_cons (pe_ix ix_tup (pv 0) pe_int (fun _ _ => rfl)) (pa_cons pe_int pa_nil))))))))))), ?_⟩)
  obtain ⟨x, rfl, b, ar, q⟩ := h
  cases ar with
  | non => exact ⟨_, rfl, _, _, _, _, _, rfl, .ty _, .base .non, kit_ty (r := false) (by decide +kernel), _, rfl, iteT q⟩
  | int i => exact ⟨_, rfl, _, _, _, _, _, rfl, .ty _, .base (.int _), kit_ty (r := false) (by decide +kernel), _, rfl, iteT q⟩
  | bl i => exact ⟨_, rfl, _, _, _, _, _, rfl, .ty _, .base (.bl _), kit_ty (r := false) (by decide +kernel), _, rfl, iteT q⟩
  | str i => exact ⟨_, rfl, _, _, _, _, _, rfl, .ty _, .base (.str _), kit_ty (r := false) (by decide +kernel), _, rfl, iteT q⟩
  | lst h => exact ⟨_, rfl, _, _, _, _, _, rfl, .ty _, .base (.lst h), kit_ty (r := false) (by decide +kernel), _, rfl, iteT q⟩
  | dK h => exact ⟨_, rfl, _, _, _, _, _, rfl, .ty _, .base (.dK h), kit_ty (r := false) (by decide +kernel), _, rfl, iteT q⟩
  | @tup a0 xs ha hs =>
    refine ⟨_, rfl, _, _, _, _, _, rfl, .ty _, .base (.tup ha), kit_ty (r := true) (by decide +kernel), _, rfl, iteF ?_⟩
    refine ⟨_, rfl, _, _, rfl, .inr ⟨_, SqT.of ha, rfl⟩, rfl, _, rfl, iteN (fun hn => q_bl q ?_) fun hn => ?_⟩
    · have h7 : xs.length ≠ 7 := fun e => hn (by rw [e]; rfl)
      match xs, h7 with
      | [], _ => rfl
      | [_], _ => rfl
      | [_, _], _ => rfl
      | [_, _, _], _ => rfl
      | [_, _, _, _], _ => rfl
      | [_, _, _, _, _], _ => rfl
      | [_, _, _, _, _, _], _ => rfl
      | [_, _, _, _, _, _, _], h => exact absurd rfl h
      | _ :: _ :: _ :: _ :: _ :: _ :: _ :: _ :: _, _ => rfl
    have h7 : xs.length = 7 := Int.ofNat.inj (V.int.inj hn)
    obtain ⟨a, b, c, d, e, f, g, rfl⟩ : ∃ a b c d e f g, xs = [a, b, c, d, e, f, g] := by
      match xs, h7 with
      | [a, b, c, d, e, f, g], _ => exact ⟨a, b, c, d, e, f, g, rfl⟩
    have sa := hs a (by simp); have sb := hs b (by simp); have sc' := hs c (by simp); have sd := hs d (by simp)
    have se := hs e (by simp); have sf := hs f (by simp); have sg := hs g (by simp)
    have hT := SqT.of (K := K) ha
    have at0 : ∀ {z : Int} {j : Nat} {v : V}, z = (j : Int) → [a, b, c, d, e, f, g][j]? = some v → atI [a, b, c, d, e, f, g] z = some v := fun e h => at_of e h
    refine ⟨_, rfl, a0, _, 0, a, rfl, rfl, hT, at0 (j := 0) rfl rfl, _, _, rfl, 4096, rfl, sa, _, rfl, iteBN (fun h1 => q_bl q ?_) fun h1 => ?_⟩
    · rw [rowB_eq, h1]; rfl
    -- below: the reading of one call
    refine ⟨_, rfl, a0, _, 1, b, rfl, rfl, hT, at0 (j := 1) rfl rfl, rfl, _, rfl, ?_⟩
    rw [isN_dec]
    refine iteB (fun h2 => iteF ?_) fun h2 => ⟨_, rfl, a0, _, 1, b, rfl, rfl, hT, at0 (j := 1) rfl rfl, _, _, rfl, 65536, rfl, sb, _, rfl, iteBN (fun h3 => q_bl q ?_) fun h3 => ?_⟩
    rotate_left
    · rw [rowB_eq, h1, h2, h3]; rfl
    all_goals
      have hw : (isN b || isB 65536 b) = true := by first | rw [h2]; rfl | rw [h3, Bool.or_true]
      refine ⟨_, rfl, a0, _, 2, c, rfl, rfl, hT, at0 (j := 2) rfl rfl, _, _, rfl, 32, rfl, sc', _, rfl, iteBN (fun h4 => q_bl q ?_) fun h4 => ?_⟩
      · rw [rowB_eq, h1, hw, ← isB32, h4]; rfl
      have qq : Q (.bl (pairB 8 65536 d e && pairB 1024 65536 f g)) H := q_bl q (by rw [rowB_eq, h1, hw, ← isB32, h4]; rfl)
      have last : pairB 8 65536 d e = true → (tSeq (tIfS (tAnd (tTest (tOp (fun x y H Q => y = .non ∧ Q (.bl (decide (x = .non))) H) (tOp (rIxT K) (tVar 0) (tC (.int 5))) (tC .non))) (tTest (tOp (fun x y H Q => y = .non ∧ Q (.bl (decide (x = .non))) H) (tOp (rIxT K) (tVar 0) (tC (.int 6))) (tC .non)))) (tRet (tC (.bl true))) tNext)
          (tRet (tAndV (tCall (spLBelow K) [] C8.E0 (tCons (tOp (rIxT K) (tVar 0) (tC (.int 5))) (tCons (tC (.int 1024)) tNil))) (tCall (spLBelow K) [] C8.E0 (tCons (tOp (rIxT K) (tVar 0) (tC (.int 6))) (tCons (tC (.int 65536)) tNil))))) : TS) { nx := fun _ H' => Q .non H', rt := Q } [some (.ref a0)] H := fun hp => by
        rw [hp, Bool.true_and, pairB_eq] at qq
        have tail : (isN f && isN g) = false → (tRet (tAndV (tCall (spLBelow K) [] C8.E0 (tCons (tOp (rIxT K) (tVar 0) (tC (.int 5))) (tCons (tC (.int 1024)) tNil))) (tCall (spLBelow K) [] C8.E0 (tCons (tOp (rIxT K) (tVar 0) (tC (.int 6))) (tCons (tC (.int 65536)) tNil)))) : TS) { nx := fun _ H' => Q .non H', rt := Q } [some (.ref a0)] H := fun hn => by
          rw [hn, if_neg (by decide)] at qq
          refine ⟨_, rfl, a0, _, 5, f, rfl, rfl, hT, at0 (j := 5) rfl rfl, _, _, rfl, 1024, rfl, sf, _, rfl, iteB (fun h8 => ?_) fun h8 => q_bl qq (by rw [h8]; rfl)⟩
          exact ⟨_, rfl, a0, _, 6, g, rfl, rfl, hT, at0 (j := 6) rfl rfl, _, _, rfl, 65536, rfl, sg, q_bl qq (by rw [h8]; rfl)⟩
        refine ⟨_, rfl, a0, _, 5, f, rfl, rfl, hT, at0 (j := 5) rfl rfl, rfl, _, rfl, ?_⟩
        rw [isN_dec]
        refine iteB (fun h6 => ⟨_, rfl, a0, _, 6, g, rfl, rfl, hT, at0 (j := 6) rfl rfl, rfl, _, rfl, ?_⟩) fun h6 => iteF (tail (by rw [h6]; rfl))
        rw [isN_dec]
        refine iteB (fun h7' => ?_) fun h7' => tail (by rw [h6, h7']; rfl)
        exact q_bl qq (by rw [h6, h7']; rfl)
      have inner : (isN d && isN e) = false → _ := fun (hn : (isN d && isN e) = false) => (show (tSeq (tIfS (tOr (tNot (tB (tCall (spLBelow K) [] C8.E0 (tCons (tOp (rIxT K) (tVar 0) (tC (.int 3))) (tCons (tC (.int 8)) tNil))))) (tNot (tB (tCall (spLBelow K) [] C8.E0 (tCons (tOp (rIxT K) (tVar 0) (tC (.int 4))) (tCons (tC (.int 65536)) tNil)))))) (tRet (tC (.bl false))) tNext)
          (tSeq (tIfS (tAnd (tTest (tOp (fun x y H Q => y = .non ∧ Q (.bl (decide (x = .non))) H) (tOp (rIxT K) (tVar 0) (tC (.int 5))) (tC .non))) (tTest (tOp (fun x y H Q => y = .non ∧ Q (.bl (decide (x = .non))) H) (tOp (rIxT K) (tVar 0) (tC (.int 6))) (tC .non)))) (tRet (tC (.bl true))) tNext)
          (tRet (tAndV (tCall (spLBelow K) [] C8.E0 (tCons (tOp (rIxT K) (tVar 0) (tC (.int 5))) (tCons (tC (.int 1024)) tNil))) (tCall (spLBelow K) [] C8.E0 (tCons (tOp (rIxT K) (tVar 0) (tC (.int 6))) (tCons (tC (.int 65536)) tNil)))))) : TS) { nx := fun _ H' => Q .non H', rt := Q } [some (.ref a0)] H from by
        have ep : pairB 8 65536 d e = (isB 8 d && isB 65536 e) := by rw [pairB_eq, hn, if_neg (by decide)]
        refine ⟨_, rfl, a0, _, 3, d, rfl, rfl, hT, at0 (j := 3) rfl rfl, _, _, rfl, 8, rfl, sd, _, rfl, iteBN (fun h8 => q_bl qq (by rw [ep, h8]; rfl)) fun h8 => ?_⟩
        exact ⟨_, rfl, a0, _, 4, e, rfl, rfl, hT, at0 (j := 4) rfl rfl, _, _, rfl, 65536, rfl, se, _, rfl, iteBN (fun h9 => q_bl qq (by rw [ep, h8, h9]; rfl)) fun h9 => last (by rw [ep, h8, h9]; rfl)⟩)
      refine ⟨_, rfl, a0, _, 3, d, rfl, rfl, hT, at0 (j := 3) rfl rfl, rfl, _, rfl, ?_⟩
      rw [isN_dec]
      refine iteB (fun h6 => ⟨_, rfl, a0, _, 4, e, rfl, rfl, hT, at0 (j := 4) rfl rfl, rfl, _, rfl, ?_⟩) fun h6 => iteT (inner (by rw [h6]; rfl))
      rw [isN_dec]
      refine iteBN (fun h7' => inner (by rw [h6, h7']; rfl)) fun h7' => last (by rw [pairB_eq, h6, h7']; rfl)
end
end K97
set_option maxHeartbeats 4000000
/-! The law's run of the machine. -/
namespace K97
open PySem PySem.Spec PyProof.Rows L2 RZ
local macro_rules | `(tactic| walk_at "v") => `(tactic| refine ⟨_, rfl, ?_⟩)
local macro_rules | `(tactic| walk_at "ii") => `(tactic| refine ⟨_, _, rfl, rfl, ?_⟩)
/-- one step of a reading: a name, two whole numbers, a scalar comparison, a truth value -/
local macro_rules | `(tactic| walk_at "s") => `(tactic| first | refine ⟨_, rfl, ?_⟩ | refine ⟨_, _, rfl, rfl, ?_⟩ | refine ⟨rfl, ?_⟩ | exact iteT (by walk_at "s") | exact iteF (by walk_at "s"))
local macro_rules | `(tactic| walk_at "r") => `(tactic| (repeat (first | refine ⟨_, rfl, ?_⟩ | refine ⟨_, _, rfl, rfl, ?_⟩ | refine ⟨rfl, ?_⟩ | refine iteT ?_ | refine iteF ?_)))

section
variable {P : Program} {w : World} {K : PySem.W.Frag} {mg : Str → Option Value} {base : Heap}
def spRan (K : PySem.W.Frag) : Sp := sp1 fun x H Q => ∃ p, x = .ref p ∧ Pot H p ∧ ∀ q H' ts rs, H q = none → H' q = some (.lst (ts.map V.ref)) → Rows H' ts rs → ts.length ≤ 6 → Pot H' p → But1 p H H' → Q (.ref q) H'
theorem sc_law_ran : FnScope ["_law_pot_here", "_law_program", "_law_turn"] ["_law_pot_here"] (defScope s_law_ran) := ⟨rfl, rfl, rfl, by decide +kernel, rfl, by decide +kernel, by decide +kernel⟩
theorem ok_law_ran (T : Hd K w mg)
    (c_law_word : C8.Cal P w K mg base 2 "_law_word" (spLWord K) [])
    (c_law_instruction : C8.Cal P w K mg base 2 "_law_instruction" (spInstr K) [])
    (c_steps : C8.Cal P w K mg base 13 "steps" (spSteps K) [])
    (c_State : C8.Mak P w K mg base 7 "State" (He.ga K "State") (spStateI K) [])
    (c_memory_of : C8.Cal P w K mg base 6 "memory_of" (spMemOf K 6) []) : C8.Cal P w K mg base 14 "_law_ran" (spRan K) [] := by
  obtain ⟨fd, F⟩ := T.f_law_ran
  refine cal_of F T.g_law_ran sc_law_ran (fun _ _ _ _ _ _ us hl => match us, hl with | [_], _ => rfl) len1 (fun cdv A outer s H vs Q E hr h => ⟨_, (pss_cons (ps_set (i := 1) sc_law_ran.nd rfl (Or.inl rfl) (pe_lst pa_nil)) (pss_cons (ps_for PassesOwn.never rfl (pi_range1 (by rfl) T.b_range (pa_cons pe_int pa_nil)) (pg_name (i := 2) sc_law_ran.nd rfl (Or.inl rfl)) (pss_one (ps_expr (pe_bm PySem.F.plainAttrs_list PySem.F.slot_list_append PySem.F.type_list_append mt_append (pv 1) (pa_cons (C8.pe_c c_law_word hr (by decide) (by rfl) (pa_cons (C8.pe_c c_law_instruction hr (by decide) (by rfl) (pa_cons (pv 0) pa_nil)) pa_nil)) pa_nil))))) (pss_one (ps_ret (C8.pe_c c_steps hr (by decide) (by rfl) (pa_cons (C8.pe_mk c_State hr (by decide) (by rfl) (pa_cons (C8.pe_c c_memory_of hr (by decide) (by rfl) (pa_cons (pe_lst (pa_cons (pe_tup (pa_cons pe_int (pa_cons (pv 1) pa_nil))) pa_nil)) pa_nil)) (pa_cons (pe_lst (pa_cons pe_int pa_nil)) pa_nil))) (pa_cons pe_int (pa_cons (pe_lst (pa_cons (pe_tup (pa_cons pe_int (pa_cons pe_int pa_nil))) pa_nil)) pa_nil)))))))), ?_⟩)
  obtain ⟨x, rfl, p, rfl, hp, q⟩ := h
  refine ⟨sz0, fun l hl => ?_⟩
  have hlp : l ≠ p := hp.ne_none hl
  refine ⟨6, rfl, by decide, by decide, for_range (n := 6) (fun i σ H' => Pot H' p ∧ But1 p H H' ∧ (∃ xs, H' l = some (.lst xs) ∧ Wds i xs) ∧ ∃ a, σ = [some (.ref p), some (.ref l), a]) ⟨hp.up (same_new hl), But1.same (same_new hl), ⟨[], upd_same, rfl, fun x hx => by cases hx⟩, _, rfl⟩ ?_ ?_⟩
  · rintro i σ H1 hi ⟨p1, b1, ⟨xs, hx, hw⟩, a, rfl⟩
    refine ⟨_, rfl, .inl ⟨rfl, _, SqL.of hx⟩, _, rfl, _, rfl, p, rfl, p1, fun t H2 k rs n I ht p2 b2 => ⟨_, rfl, t, k, rs, n, rfl, ht, I, fun r H3 hr e3 => ?_⟩⟩
    have hx3 := e3 _ _ (b2 _ _ hx hlp)
    have p3 := p2.up e3
    refine ⟨l, xs, _, rfl, rfl, hx3, szl (by rw [hw.len]; omega), ?_, ?_, ⟨_, upd_same, by rw [List.length_append, hw.len]; rfl, fun x hx => ?_⟩, _, rfl⟩
    · obtain ⟨a1, a2, g1, g2⟩ := p3
      exact ⟨a1, a2, by rw [upd_ne hlp.symm]; exact g1, g2⟩
    · intro b o e ne
      have hbl : b ≠ l := ne_of_none e hl
      rw [upd_ne hbl]
      exact e3 _ _ (b2 _ _ (b1 _ _ e ne) ne)
    · rcases List.mem_append.mp hx with hx | hx
      · exact hw.all x hx
      · exact ⟨r, List.mem_singleton.mp hx, hr⟩
  rintro σ H1 ⟨p1, b1, ⟨xs, hx, hw⟩, a, rfl⟩
  refine ⟨_, rfl, sz2, fun t ht => ⟨sz1, fun z hz => ?_⟩⟩
  have e1 := same_new (o := .tup [.int 0, .ref l]) ht
  have e2 := e1.trans (same_new (o := .lst [.ref t]) hz)
  refine ⟨_, rfl, z, t, l, xs, rfl, upd_same, same_new hz _ _ upd_same, e2 _ _ hx, hw, fun m wl ws H4 hm hwl e4 M4 => ⟨sz1, fun v hv => ?_⟩⟩
  have e5 := same_new (o := .lst [.int 5]) hv
  intro sa dx hsa hdx hne
  have e6 : Same (upd H4 v (.lst [.int 5])) (upd (upd (upd H4 v (.lst [.int 5])) dx (.own sa)) sa (.ins (He.ga K "State") dx [])) := (same_new hdx).trans (same_new (by rw [upd_ne hne.symm]; exact hsa))
  obtain ⟨mx, hmo⟩ := (M4.up e5).ob
  refine ⟨_, _, _, rfl, upd H4 v (.lst [.int 5]), sa, dx, m, wl, ws, v, rfl, rfl, rfl, upd_same, (M4.up e5).up e6, e6 _ _ upd_same, e6, hsa, ne_of_none hmo hsa, fun c H6 hcs S => ⟨rfl, ?_⟩⟩
  refine ⟨sz2, fun t2 ht2 => ⟨sz1, fun u hu => ?_⟩⟩
  have e7 := same_new (o := .tup [.int 2, .int 3]) ht2
  have e8 := e7.trans (same_new (o := .lst [.ref t2]) hu)
  obtain ⟨Hf, ef, Sf, kf⟩ := S.frame e8
  have H1f : Same H1 Hf := ((e2.trans e4).trans e5).trans ef
  refine ⟨_, _, _, rfl, Hf, c, u, t2, by rw [hcs], rfl, rfl, Sf, kf _ _ upd_same (.inl (e7.free hu)), kf _ _ (same_new hu _ _ upd_same) (.inl ht2), fun rp H9 ts rs hrp e9 hr9 rows len => ?_⟩
  have E := H1f.trans e9
  exact q rp H9 ts rs (b1.free p1 (H1f.free hrp)) hr9 rows len (p1.up E) (b1.trans (But1.same E))
end
end K97
set_option maxHeartbeats 4000000
/-! Bent rows. -/
namespace K97
open PySem PySem.Spec PyProof.Rows L2 RZ
local macro_rules | `(tactic| walk_at "v") => `(tactic| refine ⟨_, rfl, ?_⟩)
local macro_rules | `(tactic| walk_at "ii") => `(tactic| refine ⟨_, _, rfl, rfl, ?_⟩)
/-- one step of a reading: a name, two whole numbers, a scalar comparison, a truth value -/
local macro_rules | `(tactic| walk_at "s") => `(tactic| first | refine ⟨_, rfl, ?_⟩ | refine ⟨_, _, rfl, rfl, ?_⟩ | refine ⟨rfl, ?_⟩ | exact iteT (by walk_at "s") | exact iteF (by walk_at "s"))
local macro_rules | `(tactic| walk_at "r") => `(tactic| (repeat (first | refine ⟨_, rfl, ?_⟩ | refine ⟨_, _, rfl, rfl, ?_⟩ | refine ⟨rfl, ?_⟩ | refine iteT ?_ | refine iteF ?_)))

section
variable {P : Program} {w : World} {K : PySem.W.Frag} {mg : Str → Option Value} {base : Heap}
/-- a small value -/
inductive Small (H : Hp) : V → PyData → Prop
  | non : Small H .non .none
  | bl (b : Bool) : Small H (.bl b) (.bool b)
  | int (i : Int) (h : i.natAbs < 100000) : Small H (.int i) (.int i)
  | str : Small H (.str "0") (.str "0")
  | lst {a : Addr} (h : H a = some (.lst [.int 0])) : Small H (.ref a) (.list [.int 0])
/-- a list or a tuple of small values -/
inductive Deep (H : Hp) : V → PyData → Prop
  | tup {a : Addr} {xs : List V} {ds : List PyData} (h : H a = some (.tup xs)) (hz : xs.length ≤ 8) (hs : Paired (Small H) xs ds) : Deep H (.ref a) (.tuple ds)
  | lst {a : Addr} {xs : List V} {ds : List PyData} (h : H a = some (.lst xs)) (hz : xs.length ≤ 8) (hs : Paired (Small H) xs ds) : Deep H (.ref a) (.list ds)
theorem Small.up {H H' : Hp} {x : V} {d : PyData} (h : Small H x d) (e : ∀ a, H a = some (.lst [.int 0]) → H' a = some (.lst [.int 0])) : Small H' x d := by
  cases h with
  | non => exact .non
  | bl b => exact .bl b
  | int i hi => exact .int i hi
  | str => exact .str
  | lst h => exact .lst (e _ h)
theorem smalls_up {H H' : Hp} {xs : List V} {ds : List PyData} (h : Paired (Small H) xs ds) (e : ∀ a, H a = some (.lst [.int 0]) → H' a = some (.lst [.int 0])) : Paired (Small H') xs ds := by
  induction h with
  | nil => exact .nil
  | cons a b ih => exact .cons (a.up e) ih
theorem Deep.up {H H' : Hp} {x : V} {d : PyData} (h : Deep H x d) (e : Same H H') : Deep H' x d := by
  cases h with
  | tup h hz hs => exact .tup (e _ _ h) hz (smalls_up hs fun a h => e _ _ h)
  | lst h hz hs => exact .lst (e _ _ h) hz (smalls_up hs fun a h => e _ _ h)
theorem Small.seen {H : Hp} {x : V} {d : PyData} (h : Small H x d) : Seen K H x := by
  cases h with
  | non => exact Seen.non
  | bl b => exact Seen.bl
  | int i hi => exact Seen.int
  | str => exact Seen.str
  | lst h => exact Seen.lst h
theorem small_oV {H : Hp} {o : Option Int} (h : ∀ i, o = some i → i.natAbs < 100000) : ∃ d, Small H (oV o) d := by
  cases o with
  | none => exact ⟨_, .non⟩
  | some i => exact ⟨_, .int i (h i rfl)⟩
theorem smalls_of {H : Hp} : ∀ {xs : List V}, (∀ x ∈ xs, ∃ d, Small H x d) → ∃ ds, Paired (Small H) xs ds
  | [], _ => ⟨[], .nil⟩
  | x :: xs, h => by
    obtain ⟨d, hd⟩ := h x (List.mem_cons_self ..)
    obtain ⟨ds, hs⟩ := smalls_of (xs := xs) fun y hy => h y (List.mem_cons_of_mem _ hy)
    exact ⟨d :: ds, .cons hd hs⟩
theorem small_row {H : Hp} {r : Rw} (R : RowOk r) : ∀ x ∈ rowV r, ∃ d, Small H x d := by
  have ha := R.a; have hc := R.c
  unfold Ad at ha
  intro x hx
  unfold rowV at hx
  simp only [List.mem_cons, List.not_mem_nil, or_false] at hx
  rcases hx with z | z | z | z | z | z | z <;> rw [z]
  · exact ⟨_, .int _ (by omega)⟩
  · exact small_oV fun i e => by have := R.w i e; unfold Wd at this; omega
  · exact ⟨_, .int _ (by omega)⟩
  · refine small_oV fun i e => ?_
    cases hr : r.r with
    | none => rw [hr] at e; cases e
    | some o => obtain ⟨a, b⟩ := o; rw [hr] at e; cases e; have := (R.r _ _ hr).1; show a.natAbs < 100000; omega
  · refine small_oV fun i e => ?_
    cases hr : r.r with
    | none => rw [hr] at e; cases e
    | some o => obtain ⟨a, b⟩ := o; rw [hr] at e; cases e; have := (R.r _ _ hr).2; unfold Wd at this; show b.natAbs < 100000; omega
  · refine small_oV fun i e => ?_
    cases hr : r.p with
    | none => rw [hr] at e; cases e
    | some o => obtain ⟨a, b⟩ := o; rw [hr] at e; cases e; have := (R.p _ _ hr).1; show a.natAbs < 100000; omega
  · refine small_oV fun i e => ?_
    cases hr : r.p with
    | none => rw [hr] at e; cases e
    | some o => obtain ⟨a, b⟩ := o; rw [hr] at e; cases e; have := (R.p _ _ hr).2; unfold Wd at this; show b.natAbs < 100000; omega
theorem slA_tup {a : Addr} {xs : List V} {lo hi : Option Int} {H : Hp} {Q : VK} (hx : H a = some (.tup xs)) (h : ∀ b H', Same H H' → H' b = some (.tup (cutV xs lo hi)) → Q (.ref b) H') : rSlA K (.ref a) lo hi H Q := by
  refine ⟨a, xs, rfl, SqT.of hx, fun e => h a H (Same.refl _) ?_, fun _ p hp => h p _ (same_new hp) upd_same⟩
  unfold cutV
  rw [e.1, e.2, List.drop_zero, Nat.sub_zero, List.take_length]
  exact hx
theorem catA_tup {a b : Addr} {xs ys : List V} {H : Hp} {Q : VK} (ha : H a = some (.tup xs)) (hb : H b = some (.tup ys)) (hz : xs.length + ys.length ≤ 1000) (h : ∀ c H', Same H H' → H' c = some (.tup (xs ++ ys)) → Q (.ref c) H') : rCatA K (.ref a) (.ref b) H Q := by
  refine ⟨a, b, xs, ys, rfl, rfl, SqT.of ha, SqT.of hb, sz (by omega), fun e => h b H (Same.refl _) (by rw [e]; exact hb), fun _ e => h a H (Same.refl _) (by rw [e, List.append_nil]; exact ha), fun _ _ p hp => h p _ (same_new hp) upd_same⟩
theorem rowV_len (r : Rw) : (rowV r).length = 7 := rfl
theorem cut_hi (r : Rw) {z : Int} (h0 : 0 ≤ z) (h1 : z < 7) : cutV (rowV r) none (some z) = (rowV r).take z.toNat := by
  unfold cutV
  have : HT.sIx (rowV r).length (rowV r).length (some z) = z.toNat := by
    have e := HT.sIx_nat (rowV r).length (rowV r).length z.toNat
    have e2 : ((z.toNat : Nat) : Int) = z := by omega
    rw [e2, rowV_len, Nat.min_eq_left (by omega)] at e
    exact e
  rw [this, HT.sIx_none, List.drop_zero, Nat.sub_zero]
theorem cut_lo (r : Rw) {z : Int} (h0 : 0 ≤ z) (h1 : z < 7) : cutV (rowV r) (some (z + 1)) none = (rowV r).drop (z.toNat + 1) := by
  unfold cutV
  have : HT.sIx (rowV r).length 0 (some (z + 1)) = z.toNat + 1 := by
    have e := HT.sIx_nat (rowV r).length 0 (z.toNat + 1)
    have e2 : ((z.toNat + 1 : Nat) : Int) = z + 1 := by omega
    rw [e2, rowV_len, Nat.min_eq_left (by omega)] at e
    exact e
  rw [this, HT.sIx_none, List.take_of_length_le (by rw [List.length_drop]; exact Nat.le_refl _)]
def some14 (a : Addr) : List V := [.non, .bl true, .int (-1), .int 8, .int 31, .int 32, .int 1023, .int 1024, .int 4095, .int 4096, .int 65535, .int 65536, .str "0", .ref a]
theorem some14_small {H : Hp} {a : Addr} (h : H a = some (.lst [.int 0])) : ∀ v ∈ some14 a, ∃ d, Small H v d := by
  intro v hv
  simp only [some14, List.mem_cons, List.not_mem_nil, or_false] at hv
  rcases hv with z | z | z | z | z | z | z | z | z | z | z | z | z | z <;> rw [z]
  · exact ⟨_, .non⟩
  · exact ⟨_, .bl _⟩
  all_goals first | exact ⟨_, .int _ (by decide)⟩ | exact ⟨_, .str⟩ | exact ⟨_, .lst h⟩
def spBent (K : PySem.W.Frag) : Sp := sp2 fun x y H Q => ∃ p t r, x = .ref p ∧ y = .ref t ∧ Pot H p ∧ H t = some (.tup (rowV r)) ∧ RowOk r ∧ ∀ v H' b d, Arg K H' v b → Deep H' v d → Pot H' p → But1 p H H' → Q v H'
theorem sc_law_bent : FnScope ["_law_pot_here", "_law_row_here", "_law_some", "_law_at", "_law_way"] ["_law_pot_here", "_law_row_here"] (defScope s_law_bent) := ⟨rfl, rfl, rfl, by decide +kernel, rfl, by decide +kernel, by decide +kernel⟩
theorem ok_law_bent (T : Hd K w mg)
    (c_law_draw : C8.Cal P w K mg base 1 "_law_draw" (spDraw) [])
    (c_law_pick : C8.Cal P w K mg base 2 "_law_pick" (spPick K) []) : C8.Cal P w K mg base 3 "_law_bent" (spBent K) [] := by
  obtain ⟨fd, F⟩ := T.f_law_bent
  refine cal_of F T.g_law_bent sc_law_bent (fun _ _ _ _ _ _ us hl => match us, hl with | [_, _], _ => rfl) len2 (fun cdv A outer s H vs Q E hr h => ⟨_, (pss_cons (ps_par (i := 3) (j := 4) rfl sc_law_bent.nd rfl rfl (by decide) rfl rfl (pa_cons (C8.pe_c c_law_draw hr (by decide) (by rfl) (pa_cons (pv 0) (pa_cons pe_int pa_nil))) (pa_cons (C8.pe_c c_law_draw hr (by decide) (by rfl) (pa_cons (pv 0) (pa_cons pe_int pa_nil))) pa_nil)) (by rfl)) (pss_cons (ps_if (pt_cmpR op_eq (pv 4) pe_int (nomark _)) (pss_one (ps_ret (pe_op op_catA (pe_slice sl_tupA (pv 1) po_none (po_some (pv 3))) (pe_slice sl_tupA (pv 1) (po_some (pe_op op_add (pv 3) pe_int)) po_none)))) pss_nil) (pss_cons (ps_if (pt_cmpR op_eq (pv 4) pe_int (nomark _)) (pss_one (ps_ret (pe_callTy call_list_of (by rfl) T.b_list (by decide +kernel) (pa_cons (pv 1) pa_nil)))) pss_nil) (pss_cons (ps_set (i := 2) sc_law_bent.nd rfl (Or.inl rfl) (pe_lst (pa_cons pe_non (pa_cons pe_bl (pa_cons (pe_un un_neg pe_int) (pa_cons pe_int (pa_cons pe_int (pa_cons pe_int (pa_cons pe_int (pa_cons pe_int (pa_cons pe_int (pa_cons pe_int (pa_cons pe_int (pa_cons pe_int (pa_cons pe_str (pa_cons (pe_lst (pa_cons pe_int pa_nil)) pa_nil)))))))))))))))) (pss_one (ps_ret (pe_op op_catA (pe_op op_catA (pe_slice sl_tupA (pv 1) po_none (po_some (pv 3))) (pe_tup (pa_cons (C8.pe_c c_law_pick hr (by decide) (by rfl) (pa_cons (pv 0) (pa_cons (pv 2) pa_nil))) pa_nil))) (pe_slice sl_tupA (pv 1) (po_some (pe_op op_add (pv 3) pe_int)) po_none)))))))), ?_⟩)
  obtain ⟨x, y, rfl, p, t, r, rfl, rfl, hp, ht, R, q⟩ := h
  refine ⟨_, rfl, _, _, rfl, p, 7, rfl, rfl, hp, by decide, by decide, fun z H1 z0 z1 p1 b1 => ⟨_, rfl, _, _, rfl, p, 5, rfl, rfl, p1, by decide, by decide, fun wy H2 w0 w1 p2 b2 => ⟨_, _, rfl, ?_⟩⟩⟩
  have b12 := b1.trans b2
  have ht2 : H2 t = some (.tup (rowV r)) := b12 _ _ ht (hp.ne ht)
  have hzn : z.toNat < 7 := by omega
  have sub1 : ∀ v ∈ (rowV r).take z.toNat, v ∈ rowV r := fun v hv => List.mem_of_mem_take hv
  have sub2 : ∀ v ∈ (rowV r).drop (z.toNat + 1), v ∈ rowV r := fun v hv => List.mem_of_mem_drop hv
  have l1 : ((rowV r).take z.toNat).length = z.toNat := by rw [List.length_take, rowV_len]; omega
  have l2 : ((rowV r).drop (z.toNat + 1)).length = 6 - z.toNat := by rw [List.length_drop, rowV_len]; omega
  refine ⟨_, rfl, rfl, _, rfl, iteD (fun _ => ?_) fun _ => ⟨_, rfl, rfl, _, rfl, iteD (fun _ => ?_) fun _ => ?_⟩⟩
  · refine ⟨_, rfl, _, rfl, _, rfl, ?_⟩
    dsimp only
    refine slA_tup ht2 fun b3 H3 e3 h3 => ⟨_, rfl, _, rfl, _, _, rfl, rfl, _, rfl, ?_⟩
    dsimp only [tNoPart]
    rw [cut_hi r z0 z1] at h3
    refine slA_tup (e3 _ _ ht2) fun b4 H4 e4 h4 => ?_
    rw [cut_lo r z0 z1] at h4
    refine catA_tup (e4 _ _ h3) h4 (by omega) fun b5 H5 e5 h5 => ?_
    have E := (e3.trans e4).trans e5
    have sm : ∀ v ∈ (rowV r).take z.toNat ++ (rowV r).drop (z.toNat + 1), ∃ d, Small H5 v d := fun v hv => (List.mem_append.mp hv).elim (fun hv => small_row R v (sub1 v hv)) fun hv => small_row R v (sub2 v hv)
    obtain ⟨ds, hds⟩ := smalls_of sm
    exact q _ _ _ _ (.tup h5 fun v hv => let ⟨_, g⟩ := sm v hv; g.seen) (.tup h5 (by rw [List.length_append]; omega) hds) (p2.up E) (b12.trans (But1.same E))
  · refine ⟨_, rfl, t, rowV r, rfl, .inr (SqT.of ht2), fun l hl => ?_⟩
    obtain ⟨ds, hds⟩ := smalls_of (H := upd H2 l (.lst (rowV r))) (small_row R)
    exact q _ _ _ _ (.lst upd_same) (.lst upd_same (by rw [rowV_len]; decide) hds) (p2.up (same_new hl)) (b12.trans (But1.same (same_new hl)))
  · refine ⟨_, rfl, sz1, fun l0 hl0 => ⟨sz (show 14 ≤ 100000 by decide), fun l hl => ?_⟩⟩
    have e0 := (same_new (o := .lst [.int 0]) hl0).trans (same_new (o := .lst (some14 l0)) hl)
    have hl0' : l0 ≠ p := p2.ne_none hl0
    have hlp : l ≠ p := (p2.up (same_new hl0)).ne_none hl
    refine ⟨_, rfl, _, rfl, _, rfl, ?_⟩
    dsimp only
    refine slA_tup (e0 _ _ ht2) fun b3 H3 e3 h3 => ?_
    rw [cut_hi r z0 z1] at h3
    have E3 := e0.trans e3
    have p3 := p2.up E3
    have k0 : H3 l0 = some (.lst [.int 0]) := e3 _ _ (same_new hl _ _ upd_same)
    have k1 : H3 l = some (.lst (some14 l0)) := e3 _ _ upd_same
    refine ⟨_, rfl, _, rfl, _, _, rfl, p, l, some14 l0, rfl, rfl, p3, k1, hlp, (show 0 < 14 by decide), (show 14 ≤ 100000 by decide), fun v H5 hv p5 b5 => ⟨sz1, fun u hu => ?_⟩⟩
    have e6 := same_new (o := .tup [v]) hu
    have h3' := e6 _ _ (b5 _ _ h3 (p3.ne h3))
    refine catA_tup h3' upd_same (by rw [l1]; simp; omega) fun b6 H6 e7 h6 => ⟨_, rfl, _, rfl, _, _, rfl, rfl, _, rfl, ?_⟩
    dsimp only [tNoPart]
    have ht6 := e7 _ _ (e6 _ _ (b5 _ _ (E3 _ _ ht2) (p3.ne (E3 _ _ ht2))))
    refine slA_tup ht6 fun b7 H7 e8 h7 => ?_
    rw [cut_lo r z0 z1] at h7
    refine catA_tup (e8 _ _ h6) h7 (by rw [List.length_append, l1, l2]; simp; omega) fun b8 H8 e9 h8 => ?_
    have E := ((e6.trans e7).trans e8).trans e9
    have k8 : H8 l0 = some (.lst [.int 0]) := E _ _ (b5 _ _ k0 hl0')
    have sm : ∀ x ∈ (rowV r).take z.toNat ++ [v] ++ (rowV r).drop (z.toNat + 1), ∃ d, Small H8 x d := fun x hx => by
      rcases List.mem_append.mp hx with hx | hx
      · rcases List.mem_append.mp hx with hx | hx
        · exact small_row R x (sub1 x hx)
        · rw [List.mem_singleton.mp hx]; exact some14_small k8 v hv
      · exact small_row R x (sub2 x hx)
    obtain ⟨ds, hds⟩ := smalls_of sm
    exact q _ _ _ _ (.tup h8 fun x hx => let ⟨_, g⟩ := sm x hx; g.seen) (.tup h8 (by rw [List.length_append, List.length_append, l1, l2]; simp; omega) hds) (p5.up E) (((b12.trans (But1.same E3)).trans b5).trans (But1.same E))
end
end K97
set_option maxHeartbeats 4000000
/-! repr, told where nothing is under way. -/
namespace K97
open PySem PySem.Spec PyProof.Rows L2
/-- the text of a value -/
inductive Rp (K : PySem.W.Frag) (H : Hp) : V → Str → Prop
  | non : Rp K H .non "None"
  | bl (b : Bool) : Rp K H (.bl b) (if b then "True" else "False")
  | int (i : Int) (h : i.natAbs.log2 < 1920) : Rp K H (.int i) (tx i)
  | str (z : Str) (h : (reprText z).length ≤ sizeLine) : Rp K H (.str z) (reprText z)
  | deep {a : Addr} {d : PyData} (dp : Dp K H (.ref a) d) (hs : d.showable = true) (hd : d.hasDict = false) (hz : d.depth ≤ 60) (hl : d.shown.length ≤ sizeLine) : Rp K H (.ref a) d.shown
  | dict {a : Addr} (h : H a = some (.dK [])) : Rp K H (.ref a) (PyData.dict []).shown
section
variable {X : Cx}
theorem call_reprA (hg : X.A.guards = some []) (hu : X.A.units + 100 < cLine) : CallR X (.builtin "repr") (fun xs H Q => ∃ x t, xs = [x] ∧ Rp X.K H x t ∧ Q (.str t) H) := by
  intro pins s σ H xs us Q I r h
  obtain ⟨x, t, rfl, rp, q⟩ := h
  obtain ⟨u, rfl, ru⟩ := vals1 r
  cases rp with
  | non => cases ru; exact PySem.P.repr_of_none ⟨.str _, H, I.tok _, ⟨_, rfl⟩, q⟩
  | bl b => cases ru; exact PySem.P.repr_of_bool ⟨.str _, H, I.tok _, ⟨_, rfl⟩, q⟩
  | int i h => obtain ⟨tk, rfl⟩ := ru; exact PySem.P.repr_of_int h ⟨.str _, H, I.tok _, ⟨_, rfl⟩, q⟩
  | str z h => obtain ⟨tk, rfl⟩ := ru; exact PySem.P.repr_of_str ⟨.str _, H, I.tok _, ⟨_, rfl⟩, q⟩ h
  | @deep a d dp hs hd hz hl =>
    cases ru
    obtain ⟨as, rd⟩ := Dp.reads I d _ _ dp rfl
    exact repr_of_reads' rd hs (PyData.noDict_hsm hd) hg (by omega) (fun _ _ e => e) (fun h' u tk hk => ⟨.str d.shown, H, I.kept (t' := tk) hk, ⟨_, rfl⟩, q⟩) hl
  | @dict a h =>
    cases ru
    obtain ⟨z, hm, vs0, r0, dd⟩ := dk_of I.hok h
    cases r0
    obtain ⟨o, es, ep, ho, hc, he, hlow, pr, nd⟩ := dd
    have h0 : es.toList = [] := by
      generalize es.toList = l at pr
      cases pr
      rfl
    have rd : Reads s.heap (.ref a) (.dict []) (a :: [] ++ []) := Reads.dict ho hc.1 he (by rw [h0]; exact ReadsAll.nil) (by rw [h0]; exact ReadsAll.nil)
    have depth0 : (PyData.dict []).depth = 1 := by decide +kernel
    exact repr_of_reads' rd (by decide +kernel) (fun _ hx => by
      have : sysModules = a := by simpa using hx
      rw [← this] at hm
      simp at hm) hg (by omega) (fun _ _ e => e) (fun h' u tk hk => ⟨.str _, H, I.kept (t' := tk) hk, ⟨_, rfl⟩, q⟩) (sz (by decide +kernel))
end
end K97
set_option maxHeartbeats 4000000
/-! try: .. except A as n: .. except B as n: .., one of which takes the error. -/
namespace K97
open PySem PySem.Spec PyProof.Rows L2
/-- what follows the suite: the name is gone -/
def Gone (i : Nat) (D : Ends) : Ends := { nx := fun σ' H' => D.nx (σ'.set i none) H', rt := D.rt, bk := fun σ' H' => D.bk (σ'.set i none) H', ct := fun σ' H' => D.ct (σ'.set i none) H' }
abbrev Suit := Addr → Value → Option Addr → TS
/-- the first clause takes the error, or else the second -/
def wTwo (K : PySem.W.Frag) (i : Nat) (c1 c2 : Value) (t1 t2 : Suit) (D : Ends) : WX := fun cls d σ H =>
  (PySem.W.exmOne K cls c1 = some true ∧ ∀ a, H a = none → t1 a cls d (Gone i D) (σ.set i (some (.ref a))) H) ∨
  (PySem.W.exmOne K cls c1 = some false ∧ PySem.W.exmOne K cls c2 = some true ∧ ∀ a, H a = none → t2 a cls d (Gone i D) (σ.set i (some (.ref a))) H)
section
variable {X : Cx}
theorem ps_try_two {n x1 x2 : Str} {c1 c2 : Value} {i : Nat} {body u1 u2 : List Stmt} {b1 b2 : Stmt} {q1 q2 r1 r2 pos : Pos} {tb : WX → TS} {t1 t2 : Suit} (hs : X.stack = X.env :: X.outer) (hf : X.env.frame = some X.env.locals) (hN : X.N.Nodup) (hi : X.N[i]? = some n) (hln : X.env.kindOf n = some .local)
    (n1 : Names X x1 c1) (n2 : Names X x2 c2)
    (hb : ∀ (W : WX) (pn : List (Addr × Obj)) (xe : Value → Shared → Prop), Takes (X.tr pn xe) W → PassesOwn (model X.prog X.w) X.A X.env xe → PSs (X.tr pn xe) body (tb W))
    (s1 : ∀ (a : Addr) (oe : Obj) (cls : Value) (d : Option Addr) (pn : List (Addr × Obj)), Zc cls d oe → (∃ vs, oe.data = .fields vs) → PSs (X.suite a ((a, oe) :: pn)) (b1 :: u1) (t1 a cls d))
    (s2 : ∀ (a : Addr) (oe : Obj) (cls : Value) (d : Option Addr) (pn : List (Addr × Obj)), Zc cls d oe → (∃ vs, oe.data = .fields vs) → PSs (X.suite a ((a, oe) :: pn)) (b2 :: u2) (t2 a cls d)) :
    PS X (.Try body [.ExceptHandler (some (.Name x1 q1)) (some n) (b1 :: u1) r1, .ExceptHandler (some (.Name x2 q2)) (some n) (b2 :: u2) r2] [] [] pos) (fun D σ H => tb (wTwo X.K i c1 c2 t1 t2 D) D σ H) := by
  refine ⟨fun pins s σ H D I h => ?_⟩
  have xok := I.ok
  have frames : X.A.frames = some (X.env :: X.outer) := by rw [xok.frames, hs]
  have place : Loc X.env.scope n := .inl hln
  refine wpAny_Try_except ?_
  refine wpAny_mono ((hb (wTwo X.K i c1 c2 t1 t2 D) (X.pn ++ pins) _ (fun u s' air => ?_) PassesOwn.looking).run [] s σ H D (I.toTry _) h) (fun f s1' done => ?_) (fun e s1' he => he)
  · obtain ⟨a, B, sI, pins', σ', H', cls, d, rfl, Jt, nb, up, sky, na, os, ag, way⟩ := air
    have J : Inv X pins σ' H' sI := Jt.ofTry xok
    have skyX : Sky B (X.env :: X.outer) a (Zc cls d) X.env.locals s'.heap := by rw [← hs]; exact sky
    show wpAny (model X.prog X.w) X.A (noteFrame (.ref a) X.env) _ _ _
    refine Sky.land Zc.steady frames hf skyX fun hA flA upA => ?_
    have JA : Inv X pins σ' H' { s' with heap := hA } := J.landed nb flA.1 (up.trans upA) os ag
    obtain ⟨oA, vA, heA, hzA, hdA⟩ := flA.there
    have off : a ∉ frs (X.env :: X.outer) := fun hm => by
      obtain ⟨_, o', e', hnf⟩ := flA.2.2.1.mem hm
      rw [heA] at e'
      cases e'
      exact hnf _ hdA
    have offL : a ≠ X.env.locals := fun z => off (List.mem_filterMap.mpr ⟨X.env, List.mem_cons_self, by rw [hf, z]⟩)
    have offF : a ∉ X.fs := fun hm => by
      obtain ⟨e, he, q⟩ := List.mem_filterMap.mp hm
      exact off (List.mem_filterMap.mpr ⟨e, List.mem_cons_of_mem _ he, q⟩)
    have SA := JA.suite heA hdA na offL offF
    have cl : PySem.W.Looks (model X.prog X.w) hA (typeOf (.ref a)) cls := fun A Q E s k q => wpAny_typeOf_ref (k _ _ heA) (by rw [hzA.1]; exact q)
    -- the class of a clause is read
    have look : ∀ {x : Str} {c : Value} {np : Pos} {Q : Value → Shared → Prop} {E : Value → Shared → Prop}, Names X x c → Q c { s' with heap := hA } → wpAny (model X.prog X.w) (X.A.mark (some (.ref a))) (eval (.Name x np) X.env) Q E { s' with heap := hA } := fun {x c np Q E} nm q => by
      obtain ⟨hg, hdbg, hm | ⟨hm, hv, hnn⟩⟩ := nm
      · exact ld_glob (X := X.suite a ((a, oA) :: (X.pn ++ pins))) SA hg hm q hdbg
      · exact ld_blt (X := X.suite a ((a, oA) :: (X.pn ++ pins))) SA hg hm hv q hnn hdbg
    -- a suite that is run
    have run : ∀ {b0 : Stmt} {us : List Stmt} {ts : Suit} {x : Str} {np pp : Pos} {more : List ExceptHandler}, (∀ (a : Addr) (oe : Obj) (cls : Value) (d : Option Addr) (pn : List (Addr × Obj)), Zc cls d oe → (∃ vs, oe.data = .fields vs) → PSs (X.suite a ((a, oe) :: pn)) (b0 :: us) (ts a cls d)) →
        (∀ a, H' a = none → ts a cls d (Gone i D) (σ'.set i (some (.ref a))) H') → ∀ {c : Value}, Names X x c → PySem.W.exmOne X.K cls c = some true → wpAny (model X.prog X.w) X.A (handleBy (.ref a) X.env (.ExceptHandler (some (.Name x np)) (some n) (b0 :: us) pp :: more)) (SP X pins D) X.xe { s' with heap := hA } := fun {b0 us ts x np pp more} sr go {c} nm ex => by
      refine wpAny_handleBy_cons (codeAny_handlers_test ?_) (by intro q; cases q)
      refine look nm ((PySem.W.exm_one (M := model X.prog X.w) JA.kIn cl ex).here ?_)
      refine codeAny_handlers_suite_as ?_
      refine HandSPX.lands_againZ flA fun hC flC upC => ?_
      have JC : Inv X pins σ' H' { s' with heap := hC } := J.landed nb flC.1 ((up.trans upA).trans upC) os ag
      obtain ⟨oC, vC, heC, hzC, hdC⟩ := flC.there
      have SC := JC.suite heC hdC na offL offF
      refine store_ok (X := X.suite a ((a, oC) :: (X.pn ++ pins))) (v := .ref a) SC hN hi place rfl (fun s5 S5 => ?_) (.inr hln)
      refine wpAny_mono ((sr a oC cls d (X.pn ++ pins) hzC ⟨_, hdC⟩).run [] s5 _ H' _ S5 (go a na)) (fun f s6 over => ?_) (fun _ _ z => False.elim z)
      have unbound : ∀ {σ6 : L2.St} {H6 : Hp} {Q : Shared → Prop}, Inv (X.suite a ((a, oC) :: (X.pn ++ pins))) [] σ6 H6 s6 → (∀ s7, Inv X pins (σ6.set i none) H6 s7 → Q s7) →
          wpAny (model X.prog X.w) X.A (do bindName X.env n .none; unbindBehindTheSuite X.env n pp) (fun _ s7 => Q s7) X.xe s6 := fun {σ6 H6 Q} S6 hq => gone_ok (S6.unsuite xok) hN hi hln hq
      cases f with
      | next => obtain ⟨σ6, H6, S6, q6⟩ := over; exact unbound S6 fun s7 J7 => ⟨_, _, J7, q6⟩
      | brk => obtain ⟨σ6, H6, S6, q6⟩ := over; exact unbound S6 fun s7 J7 => ⟨_, _, J7, q6⟩
      | cont => obtain ⟨σ6, H6, S6, q6⟩ := over; exact unbound S6 fun s7 J7 => ⟨_, _, J7, q6⟩
      | ret u => obtain ⟨v6, σ6, H6, S6, r6, q6⟩ := over; exact unbound S6 fun s7 J7 => ⟨_, _, _, J7, r6, q6⟩
    rcases way with ⟨ex, go⟩ | ⟨no, ex, go⟩
    · exact run s1 go n1 ex
    · refine wpAny_handleBy_cons (codeAny_handlers_test ?_) (by intro q; cases q)
      refine look n1 ((PySem.W.exm_one (M := model X.prog X.w) JA.kIn cl no).here ?_)
      exact run s2 go n2 ex
  · cases f with
    | next => obtain ⟨σ', H', J', q⟩ := done; exact wpAny_execs_nil ⟨σ', H', J'.ofTry xok, q⟩
    | brk => obtain ⟨σ', H', J', q⟩ := done; exact ⟨σ', H', J'.ofTry xok, q⟩
    | cont => obtain ⟨σ', H', J', q⟩ := done; exact ⟨σ', H', J'.ofTry xok, q⟩
    | ret u => obtain ⟨v, σ', H', J', r, q⟩ := done; exact ⟨v, σ', H', J'.ofTry xok, r, q⟩
end
end K97
set_option maxHeartbeats 4000000
/-! Lists that differ in nothing; the texts of small data. -/
namespace K97
open PySem PySem.Spec PyProof.Rows L2
/-- a != b, two lists of the same scalars -/
def rNeL (K : PySem.W.Frag) : R2 := fun x y H Q => ∃ a b xs, x = .ref a ∧ y = .ref b ∧ SqL K H a xs ∧ SqL K H b xs ∧ (∀ v ∈ xs, flatB v = true) ∧ Q (.bl false) H
theorem vals_at {xs : List V} {us : List Value} (r : Vals xs us) : ∀ (j : Nat) (h : j < us.length), ∃ v ∈ xs, RelV v us[j] := by
  induction r with
  | nil => intro j h; exact absurd h (Nat.not_lt_zero j)
  | @cons v u vs us h1 h2 k =>
    intro j h
    cases j with
    | zero => exact ⟨v, List.mem_cons_self, h1⟩
    | succ j =>
      obtain ⟨w, hm, hr⟩ := k j (Nat.lt_of_succ_lt_succ h)
      exact ⟨w, List.mem_cons_of_mem _ hm, hr⟩
theorem vals_two {xs : List V} {us : List Value} (r : Vals xs us) : ∀ {ws : List Value}, Vals xs ws → ∀ (j : Nat) (h1 : j < us.length) (h2 : j < ws.length), ∃ v ∈ xs, RelV v us[j] ∧ RelV v ws[j] := by
  induction r with
  | nil => intro ws r2 j h; exact absurd h (Nat.not_lt_zero j)
  | @cons v u vs us a b k =>
    intro ws r2 j h1 h2
    cases r2 with
    | cons a2 b2 =>
      cases j with
      | zero => exact ⟨v, List.mem_cons_self, a, a2⟩
      | succ j =>
        obtain ⟨w, hm, hr⟩ := k b2 j (Nat.lt_of_succ_lt_succ h1) (Nat.lt_of_succ_lt_succ h2)
        exact ⟨w, List.mem_cons_of_mem _ hm, hr⟩
theorem op_neL {X : Cx} (hu : X.A.units < cLine) : OpR X (compareOp .NotEq) (rNeL X.K) := by
  intro pins s σ H x y v u Q I rx ry h
  obtain ⟨a, b, xs, rfl, rfl, ha, hb, fl, q⟩ := h
  cases (show v = Value.ref a from rx)
  cases (show u = Value.ref b from ry)
  obtain ⟨us, r1, p1, _⟩ := I.list ha
  obtain ⟨ws, r2, p2, _⟩ := I.list hb
  have hsz : us.toArray.size = ws.toArray.size := by
    rw [List.size_toArray, List.size_toArray, ← r1.length, ← r2.length]
  have go := SeqAt.RcNeAt.lists (A := X.A) (e := fun _ => true) p1.isList p2.isList hsz hu (fun j h1 h2 => by
    obtain ⟨z, hm, k1, k2⟩ := vals_two r1 r2 j (by simpa using h1) (by simpa using h2)
    have := eqAt_same (A := X.A.in1) (s := s) k1 k2 (fl z hm)
    simpa using this)
  refine go X.prog X.w _ _ ?_
  rw [show ((List.range us.toArray.size).all fun _ => true) = true from List.all_eq_true.mpr fun _ _ => rfl]
  exact ⟨.bl false, H, I, rfl, q⟩
/-! ### data that is shown whole -/
/-- no dict, of nesting below n, of weight below m, its leaves short -/
structure Fine (n m : Nat) (d : PyData) : Prop where
  sh : d.showable = true
  nd : d.hasDict = false
  lf : d.leavesShort 13 = true
  dp : d.depth ≤ n
  wt : d.weight ≤ m
theorem Fine.mono {n m n' m' : Nat} {d : PyData} (f : Fine n m d) (h1 : n ≤ n') (h2 : m ≤ m') : Fine n' m' d := ⟨f.sh, f.nd, f.lf, Nat.le_trans f.dp h1, Nat.le_trans f.wt h2⟩
structure FineAll (n m : Nat) (ds : List PyData) : Prop where
  sh : PyData.showableAll ds = true
  nd : PyData.hasDictAll ds = false
  lf : PyData.leavesShortAll 13 ds = true
  dp : PyData.depthAll ds ≤ n
  wt : PyData.weightAll ds ≤ m
theorem FineAll.nil {n : Nat} : FineAll n 0 [] := ⟨rfl, rfl, rfl, Nat.zero_le _, Nat.le_refl _⟩
theorem FineAll.cons {n m k : Nat} {d : PyData} {ds : List PyData} (f : Fine n m d) (g : FineAll n k ds) : FineAll n (m + 1 + k) (d :: ds) := by
  obtain ⟨a1, a2, a3, a4, a5⟩ := f
  obtain ⟨b1, b2, b3, b4, b5⟩ := g
  refine ⟨?_, ?_, ?_, ?_, ?_⟩
  · simp only [PyData.showableAll, a1, b1, Bool.and_self]
  · simp only [PyData.hasDictAll, a2, b2, Bool.or_self]
  · simp only [PyData.leavesShortAll, a3, b3, Bool.and_self]
  · simp only [PyData.depthAll]; omega
  · simp only [PyData.weightAll]; omega
theorem FineAll.lst {n m : Nat} {ds : List PyData} (g : FineAll n m ds) : Fine (n + 1) m (.list ds) := by
  obtain ⟨b1, b2, b3, b4, b5⟩ := g
  refine ⟨?_, ?_, ?_, ?_, ?_⟩
  · simp only [PyData.showable, b1]
  · simp only [PyData.hasDict, b2]
  · simp only [PyData.leavesShort, b3]
  · simp only [PyData.depth]; omega
  · simp only [PyData.weight]; omega
theorem FineAll.tup {n m : Nat} {ds : List PyData} (g : FineAll n m ds) : Fine (n + 1) m (.tuple ds) := by
  obtain ⟨b1, b2, b3, b4, b5⟩ := g
  refine ⟨?_, ?_, ?_, ?_, ?_⟩
  · simp only [PyData.showable, b1]
  · simp only [PyData.hasDict, b2]
  · simp only [PyData.leavesShort, b3]
  · simp only [PyData.depth]; omega
  · simp only [PyData.weight]; omega
theorem fine_int {i : Int} (h : i.natAbs < 100000) : Fine 0 18 (.int i) := by
  have hl : i.natAbs.log2 < 17 := by
    by_cases h0 : i.natAbs = 0
    · rw [h0]; decide
    · exact (Nat.log2_lt h0).mpr (by omega)
  refine ⟨?_, rfl, ?_, Nat.le_refl _, ?_⟩
  · simp only [PyData.showable, decide_eq_true_eq]; omega
  · simp only [PyData.leavesShort, decide_eq_true_eq]; exact PyData.shown_int_le2 (by omega) (by omega)
  · simp only [PyData.weight]; split <;> omega
theorem fine_non : Fine 0 18 .none := ⟨rfl, rfl, rfl, Nat.le_refl _, by decide⟩
theorem fine_bl (b : Bool) : Fine 0 18 (.bool b) := ⟨rfl, rfl, rfl, Nat.le_refl _, by simp [PyData.weight]⟩
theorem fine_small {H : Hp} {x : V} {d : PyData} (h : Small H x d) : Fine 1 20 d := by
  cases h with
  | non => exact fine_non.mono (by decide) (by decide)
  | bl b => exact (fine_bl b).mono (by decide) (by decide)
  | int i h => exact (fine_int h).mono (by decide) (by decide)
  | str => exact ⟨rfl, rfl, by decide +kernel, by decide +kernel, by decide +kernel⟩
  | lst h => exact (FineAll.lst (FineAll.cons (fine_int (i := 0) (by decide)) FineAll.nil)).mono (by decide) (by decide)
theorem fine_smalls {H : Hp} {xs : List V} {ds : List PyData} (h : Paired (Small H) xs ds) : FineAll 1 (21 * xs.length) ds := by
  induction h with
  | nil => exact FineAll.nil
  | cons a b ih =>
    have := FineAll.cons (fine_small a) ih
    obtain ⟨b1, b2, b3, b4, b5⟩ := this
    exact ⟨b1, b2, b3, b4, by rw [List.length_cons]; omega⟩
theorem fine_deep {H : Hp} {x : V} {d : PyData} (h : Deep H x d) : Fine 2 200 d := by
  cases h with
  | tup h hz hs => exact (fine_smalls hs).tup.mono (by decide) (by omega)
  | lst h hz hs => exact (fine_smalls hs).lst.mono (by decide) (by omega)
section
variable {K : PySem.W.Frag}
theorem dp_small {H : Hp} {x : V} {d : PyData} (h : Small H x d) : Dp K H x d := by
  cases h with
  | non => exact .non
  | bl b => exact .bl b
  | int i h => exact .int i
  | str => exact .str _
  | lst h => exact .lst (SqL.of h) (.cons (.int 0) .nil)
theorem dp_smalls {H : Hp} {xs : List V} {ds : List PyData} (h : Paired (Small H) xs ds) : DpAll K H xs ds := by
  induction h with
  | nil => exact .nil
  | cons a b ih => exact .cons (dp_small a) ih
theorem dp_deep {H : Hp} {x : V} {d : PyData} (h : Deep H x d) : Dp K H x d := by
  cases h with
  | tup h hz hs => exact .tup (SqT.of h) (dp_smalls hs)
  | lst h hz hs => exact .lst (SqL.of h) (dp_smalls hs)
theorem Fine.rp {H : Hp} {a : Addr} {n m : Nat} {d : PyData} (f : Fine n m d) (h1 : n ≤ 60) (h2 : m ≤ 1000000) (dp : Dp K H (.ref a) d) : Rp K H (.ref a) d.shown :=
  .deep dp f.sh f.nd (Nat.le_trans f.dp h1) (PyData.shown_fits (B := 13) (by decide) (by decide) f.lf (Nat.le_trans f.wt (Nat.le_trans h2 (by decide))))
theorem rp_deep {H : Hp} {x : V} {d : PyData} (h : Deep H x d) : Rp K H x d.shown := by
  have f := fine_deep h
  have p := dp_deep (K := K) h
  cases h with
  | tup h hz hs => exact f.rp (by decide) (by decide) p
  | lst h hz hs => exact f.rp (by decide) (by decide) p
/-- a list of two -/
theorem rp_pair {H : Hp} {l : Addr} {x y : V} {d e : PyData} (hl : H l = some (.lst [x, y])) (h1 : Deep H x d) (h2 : Deep H y e) : Rp K H (.ref l) (PyData.list [d, e]).shown :=
  (FineAll.cons (fine_deep h1) (FineAll.cons (fine_deep h2) FineAll.nil)).lst.rp (by decide) (by decide) (.lst (SqL.of hl) (.cons (dp_deep h1) (.cons (dp_deep h2) .nil)))
theorem rp_bools {H : Hp} {l : Addr} (a b : Bool) (hl : H l = some (.lst [.bl a, .bl b])) : Rp K H (.ref l) (PyData.list [.bool a, .bool b]).shown :=
  (FineAll.cons (fine_bl a) (FineAll.cons (fine_bl b) FineAll.nil)).lst.rp (by decide) (by decide) (.lst (SqL.of hl) (.cons (.bl a) (.cons (.bl b) .nil)))
theorem rp_none1 {H : Hp} {l : Addr} (hl : H l = some (.lst [.non])) : Rp K H (.ref l) (PyData.list [.none]).shown :=
  (FineAll.cons fine_non FineAll.nil).lst.rp (by decide) (by decide) (.lst (SqL.of hl) (.cons .non .nil))
theorem deep_row {H : Hp} {t : Addr} {r : Rw} (ht : H t = some (.tup (rowV r))) (R : RowOk r) : ∃ d, Deep H (.ref t) d := by
  obtain ⟨ds, hs⟩ := smalls_of (small_row R)
  exact ⟨_, .tup ht (by rw [rowV_len]; decide) hs⟩
end
end K97
set_option maxHeartbeats 4000000
/-! What is heard of a call. -/
namespace K97
open PySem PySem.Spec PyProof.Rows L2
section
variable {X : Cx}
/-- isinstance(e, c), e the error of the suite, with fields -/
theorem call_isX {a D : Addr} {oe : Obj} {cls : Value} {d : Option Addr} {pn : List (Addr × Obj)} (C : ExcC X.K D) (hz : Zc cls d oe) (hf : ∃ vs, oe.data = .fields vs) :
    CallR (X.suite a ((a, oe) :: pn)) (.builtin "isinstance") (fun xs H Q => ∃ (dd : Addr) (fs : List (Str × V)) (c : V) (cv : Value) (b : Bool), cls = .ref D ∧ d = some dd ∧ H dd = some (.xd fs) ∧ xs = [.ref a, c] ∧ (∀ u, RelV c u → u = cv) ∧ PySem.W.kitOne X.K (.ref D) cv = some b ∧ Q (.bl b) H) := by
  intro pins s σ H xs us Q I r h
  obtain ⟨dd, fs, c, cv, b, ec, ed, hd, rfl, hcv, e, q⟩ := h
  subst ec ed
  cases r with
  | cons rx rr =>
    cases rr with
    | cons rt rr =>
      cases rr
      cases rx
      have ec := hcv _ rt
      subst ec
      obtain ⟨hget, _⟩ := I.pin (a, oe) (List.mem_append.mpr (.inl List.mem_cons_self))
      obtain ⟨vs, hv⟩ := hf
      have hx : ObjOk X.prog X.w H s.heap dd (.xd fs) := I.hok dd _ hd
      obtain ⟨mA, hns, _⟩ := hx
      obtain ⟨od, ho, _⟩ := lookIn_ns hns
      have J : PySem.W.InstAt s.heap a oe D (some od) := ⟨hget, hz.1, by unfold PySem.W.notCls; rw [hv] <;> rfl, by rw [hz.2]; exact ho⟩
      exact PySem.W.kia_one (PySem.W.kitx_exc (by obtain ⟨cd, hc, _⟩ := PySem.W.any_some C.hd; rw [hc]; rfl) C.hg C.hk C.hs C.ha C.hn C.ht C.hm) I.kIn J e (fun z => nomatch z) fun tk => ⟨.bl b, H, I.kept (t' := tk) fun _ _ z => z, rfl, q⟩
theorem Takes.long {W : WX} (t : Takes X W) {n : Nat} (hn : X.N.length = n) : Takes X (fun cls d σ H => σ.length = n → W cls d σ H) := fun u s' ⟨a, B, sI, pins, σ, H, cls, d, e, I, nb, up, sky, na, os, ag, w⟩ =>
  t u s' ⟨a, B, sI, pins, σ, H, cls, d, e, I, nb, up, sky, na, os, ag, w (by rw [← hn]; exact I.len)⟩
end
section
variable {P : Program} {w : World} {K : PySem.W.Frag} {mg : Str → Option Value} {base : Heap}
theorem Hd.c_InvalidRow (T : Hd K w mg) : ExcC K (He.ga K "InvalidRow") :=
  let f := xfB_ok T.x_xf_InvalidRow
  ⟨f.ga, f.gg, f.exC, f.hdC, He.eqO_ok T.x_cl_InvalidRow, of_decide_eq_true T.x_sget, of_decide_eq_true T.x_stak, of_decide_eq_true T.x_mo_InvalidRow⟩
theorem Hd.c_InvalidRowList (T : Hd K w mg) : ExcC K (He.ga K "InvalidRowList") :=
  let f := xfB_ok T.x_xf_InvalidRowList
  ⟨f.ga, f.gg, f.exC, f.hdC, He.eqO_ok T.x_cl_InvalidRowList, of_decide_eq_true T.x_sget, of_decide_eq_true T.x_stak, of_decide_eq_true T.x_mo_InvalidRowList⟩
/-- the list that tells of the error -/
def Told (K : PySem.W.Frag) (C tag : Str) (cls : Value) (d : Option Addr) (H : Hp) (Q : VK) : Prop :=
  cls = .ref (He.ga K C) ∧ ∃ (dd : Addr) (x : V) (t : Str), d = some dd ∧ H dd = some (.xd [("value", x)]) ∧ Rp K H x t ∧ ∀ m, H m = none → Q (.ref m) (upd H m (.lst [.str tag, .str t, .bl true]))
def HeardX (K : PySem.W.Frag) (Q : VK) : XK := fun cls d H => Told K "InvalidRow" "row" cls d H Q ∨ Told K "InvalidRowList" "rows" cls d H Q
def THeard (K : PySem.W.Frag) : (XK → Hp → VK → Prop) → Hp → VK → Prop := fun tl H Q =>
  ∀ l, H l = none → tl (HeardX K Q) (upd H l (.lst [.str "let"])) (fun _ H' => ∃ v, some (some (V.ref l)) = some (some v) ∧ Q v H')
theorem sc_law_heard : FnScope ["_law_call", "_law_told", "e"] ["_law_call"] (defScope s_law_heard) := ⟨rfl, rfl, rfl, by decide +kernel, rfl, by decide +kernel, by decide +kernel⟩
end
section
variable {X : Cx}
theorem heard_gives (T : Hd X.K X.w X.mg) (hg : X.A.guards = some []) (hr : Room 3 X.A) {g : Addr} {cdg : Value} {q : Str} :
    LamX.GivesTo X ["_law_call", "_law_told", "e"] "_law_heard" (defScope s_law_heard) g cdg (defBody s_law_heard) "_law_call" q (THeard X.K) := by
  intro f c' s H Q tl act hc h
  have hr2 := hr.deeper (envOfC "_law_heard" (defScope s_law_heard) s.heap.objs.size g cdg)
  have hu : X.A.units + 3 + 100 < cLine := by
    have h1 := hr2.un
    have h2 : (X.A.deeper (envOfC "_law_heard" (defScope s_law_heard) s.heap.objs.size g cdg)).units = X.A.units + 3 := rfl
    omega
  have rp : ∀ (a : Addr) (pn : List (Addr × Obj)), CallR ((cxOf C8.CX0 X.prog X.w X.K X.mg X.base ["_law_call", "_law_told", "e"] "_law_heard" (defScope s_law_heard) g cdg X.A X.stack s H C8.E0).nox.suite a pn) (.builtin "repr") (fun xs H Q => ∃ x t, xs = [x] ∧ Rp X.K H x t ∧ Q (.str t) H) := fun a pn => call_reprA hg hu
  refine ⟨_, pss_cons (ps_set (i := 1) sc_law_heard.nd rfl (Or.inl rfl) (pe_lst (pa_cons pe_str pa_nil)))
    (pss_cons (ps_try_two (i := 2) (X := (cxOf C8.CX0 X.prog X.w X.K X.mg X.base ["_law_call", "_law_told", "e"] "_law_heard" (defScope s_law_heard) g cdg X.A X.stack s H C8.E0).nox)
      (tb := fun W D σ H => ∃ Ech : XK, (∀ cls d σ' H', σ'.length = 3 → Ech cls d H' → W cls d σ' H') ∧ σ[0]? = some (some (.ref f)) ∧ H c' = some (LamX.CodeO c' q) ∧ tl Ech H (fun _ H1 => D.nx σ H1))
      rfl rfl sc_law_heard.nd rfl rfl ⟨rfl, by decide, .inl T.g_InvalidRow⟩ ⟨rfl, by decide, .inl T.g_InvalidRowList⟩
      (fun W pn xe tk _ => ⟨fun pins s' σ H' D I h' => ?_⟩)
      (fun a oe cls d pn hz hf => pss_one (ps_set (i := 1) sc_law_heard.nd rfl (Or.inl rfl) (pe_lst (pa_cons pe_str (pa_cons (pe_callB (id := "repr") (rp a _) (by rfl) T.b_repr (by decide +kernel) (pa_cons (pe_xf (xfB_ok T.x_xf_InvalidRow) (He.eqO_ok T.x_nv_InvalidRow) hz hf (pe_var (i := 2) rfl (.inl rfl))) pa_nil))
        (pa_cons (pe_callB (id := "isinstance") (call_isX T.c_InvalidRow hz hf) (by rfl) T.b_isinstance (by decide +kernel) (pa_cons (pe_var (i := 2) rfl (.inl rfl)) (pa_cons (pe_g T.g_CoreError (by rfl)) pa_nil))) pa_nil))))))
      (fun a oe cls d pn hz hf => pss_one (ps_set (i := 1) sc_law_heard.nd rfl (Or.inl rfl) (pe_lst (pa_cons pe_str (pa_cons (pe_callB (id := "repr") (rp a _) (by rfl) T.b_repr (by decide +kernel) (pa_cons (pe_xf (xfB_ok T.x_xf_InvalidRowList) (He.eqO_ok T.x_nv_InvalidRowList) hz hf (pe_var (i := 2) rfl (.inl rfl))) pa_nil))
        (pa_cons (pe_callB (id := "isinstance") (call_isX T.c_InvalidRowList hz hf) (by rfl) T.b_isinstance (by decide +kernel) (pa_cons (pe_var (i := 2) rfl (.inl rfl)) (pa_cons (pe_g T.g_CoreError (by rfl)) pa_nil))) pa_nil)))))))
    (pss_one (ps_ret (pe_var (i := 1) rfl (.inl rfl))))), ?_⟩
  · obtain ⟨Ech, hW, h1, h2, h3⟩ := h'
    refine (pss_one (ps_expr (act (fun cls d σ H => σ.length = 3 → W cls d σ H) pn xe Ech _ _ (Takes.long tk rfl) (fun cls d σ' H' e hl => hW cls d σ' H' hl e)))).run pins s' σ H' D I ⟨h1, h2, h3⟩
  · refine ⟨sz1, fun l hl => ⟨HeardX X.K Q, fun cls d σ' H' hlen e => ?_, rfl, ?_, ?_⟩⟩
    · match σ', hlen with
      | [o0, o1, o2], _ =>
      rcases e with ⟨ec, dd, x, t, ed, hd, rp, q⟩ | ⟨ec, dd, x, t, ed, hd, rp, q⟩
      · refine .inl ⟨by rw [ec]; exact of_decide_eq_true T.x_exm_InvalidRow_InvalidRow, fun a ha => ?_⟩
        refine ⟨.ref a, rfl, rfl, ec, dd, _, x, ed, hd, rfl, x, t, rfl, rp, .ref a, rfl, ?_⟩
        refine ⟨dd, _, _, _, true, ec, ed, hd, rfl, fun u r => r, of_decide_eq_true T.x_kit_InvalidRow, sz (show 3 ≤ 100000 by decide), fun m hm => ?_⟩
        exact ⟨_, rfl, q m hm⟩
      · refine .inr ⟨by rw [ec]; exact of_decide_eq_true T.x_exm_InvalidRowList_InvalidRow, by rw [ec]; exact of_decide_eq_true T.x_exm_InvalidRowList_InvalidRowList, fun a ha => ?_⟩
        refine ⟨.ref a, rfl, rfl, ec, dd, _, x, ed, hd, rfl, x, t, rfl, rp, .ref a, rfl, ?_⟩
        refine ⟨dd, _, _, _, true, ec, ed, hd, rfl, fun u r => r, of_decide_eq_true T.x_kit_InvalidRowList, sz (show 3 ≤ 100000 by decide), fun m hm => ?_⟩
        exact ⟨_, rfl, q m hm⟩
    · exact same_new hl _ _ hc
    · exact h l hl
/-- _law_heard(lambda: e) -/
theorem pe_heard (T : Hd X.K X.w X.mg) (hg : X.A.guards = some []) {k : Nat} (hr : Room (k + 3) X.A) {c P0 : Addr} (TB : LamX.TabB X.base X.mg c P0) (hcode : X.env.code = .ref c) {params : Arguments} {body : Expr} {scope : Scope} {t : XK → TE} {p lpos pos : Pos}
    (L : LamX.LamS X.env.scope scope) (hdef : defaultsOf params X.env = ([], []))
    (hbind : ∀ (q : Str) (cl : List (Str × Addr)) (pm cv ctv : Value), bindArgs (PySem.W.kla_fn "<lambda>" q params body scope cl pm cv ctv) ⟨[], []⟩ = pure []) (hgl : Gl X "_law_heard")
    (hbody : ∀ (A : Around) (outer : List Env) (s : Shared) (H : Hp) (E : XK) (f c' : Addr), Room k (A.deeper (LamX.lamEnv X scope s.heap.objs.size f c')) → PE (LamX.lamCx X A outer s H E scope f c') body (t E)) :
    PE X (.Call (.Name "_law_heard" p) [.Lambda params body scope lpos] [] pos) (LamX.tLam [(P0, X.env.qual ++ "<lambda>")] (THeard X.K) t) := by
  obtain ⟨fd, F⟩ := T.f_law_heard
  have hb := F.bindsN (ps := ["_law_call"]) (fun _ _ _ _ _ _ us hl => match us, hl with | [_], _ => rfl)
  obtain ⟨oc, od, dV, kV, doc, pm, an, cdv, ct, osl, rfl, lk, hcd, hD, hK⟩ := F.ex
  exact LamX.pe_lamcall (Ng := ["_law_call", "_law_told", "e"]) hgl T.g_law_heard F.kp lk hcd hb sc_law_heard rfl (.inl rfl) (heard_gives T hg (hr.mono (by omega))) TB hcode (List.mem_singleton.mpr rfl)
    (fun p hp _ => by rw [List.mem_singleton.mp hp]) (hr.mono (by omega)) L hdef hbind hbody
end
end K97
set_option maxHeartbeats 4000000
/-! The law's hand: what stays, what is heard. -/
namespace K97
open PySem PySem.Spec PyProof.Rows L2
section
variable {K : PySem.W.Frag}
theorem lst_ne_tbl {xs : List V} (ps : Array Value) : HO.lst xs ≠ .tbl ps := fun z => by cases z
theorem tup_ne_tbl {xs : List V} (ps : Array Value) : HO.tup xs ≠ .tbl ps := fun z => by cases z
theorem dK_ne_tbl {xs : List (Key × V)} (ps : Array Value) : HO.dK xs ≠ .tbl ps := fun z => by cases z
theorem ext_same {H H' : Hp} (e : Same H H') : LamX.ExtN H H' := LamX.ExtN.of e
theorem Deep.ext {H H' : Hp} {x : V} {d : PyData} (h : Deep H x d) (e : LamX.ExtN H H') : Deep H' x d := by
  cases h with
  | tup h hz hs => exact .tup (e _ _ h tup_ne_tbl) hz (smalls_up hs fun a h => e _ _ h lst_ne_tbl)
  | lst h hz hs => exact .lst (e _ _ h lst_ne_tbl) hz (smalls_up hs fun a h => e _ _ h lst_ne_tbl)
theorem seen_smalls {H : Hp} {xs : List V} {ds : List PyData} (h : Paired (Small H) xs ds) : ∀ y ∈ xs, Seen K H y := by
  induction h with
  | nil => intro y hy; cases hy
  | cons a b ih =>
    intro y hy
    rcases List.mem_cons.mp hy with z | z
    · rw [z]; exact a.seen
    · exact ih y z
theorem Arg.ext {H H' : Hp} {x : V} {b : Bool} {d : PyData} (h : Arg K H x b) (hd : Deep H x d) (e : LamX.ExtN H H') : Arg K H' x b := by
  cases hd with
  | @tup a xs ds g hz hs =>
    have g' := e _ _ g tup_ne_tbl
    have k : ∀ {b : Bool}, Arg K H (.ref a) b → b = rowB xs := fun h => by
      cases h with
      | lst z => rw [g] at z; cases z
      | dK z => rw [g] at z; cases z
      | tup z _ => rw [g] at z; cases z; rfl
    rw [k h]
    exact .tup g' (seen_smalls (smalls_up hs fun a h => e _ _ h lst_ne_tbl))
  | @lst a xs ds g hz hs =>
    have k : ∀ {b : Bool}, Arg K H (.ref a) b → b = false := fun h => by
      cases h with
      | lst z => rfl
      | dK z => rfl
      | tup z _ => rw [g] at z; cases z
    rw [k h]
    exact .lst (e _ _ g lst_ne_tbl)
/-- what the law's hand holds: its pot, its rows, the table of its lambdas -/
structure Wh (Y : List (Addr × Str)) (p q : Addr) (ts : List Addr) (rs : List Rw) (H : Hp) : Prop where
  pot : Pot H p
  tabs : LamX.Tabs Y H
  rows : Rows H ts rs
  lst : H q = some (.lst (ts.map V.ref))
  ne : q ≠ p
variable {Y : List (Addr × Str)} {p q : Addr} {ts : List Addr} {rs : List Rw} {H H' : Hp}
theorem tabs_but (t : LamX.Tabs Y H) {b : Addr} {xs : List V} (hb : H b = some (.lst xs)) (e : But1 b H H') : LamX.Tabs Y H' := fun z hz => by
  obtain ⟨ps, h1, h2, h3⟩ := t z hz
  have ne : ∀ {c : Addr} {o : HO}, H c = some o → (∀ xs, o ≠ .lst xs) → c ≠ b := fun hc n z => by
    rw [z, hb] at hc
    exact n _ (Option.some.inj hc).symm
  refine ⟨ps, e _ _ h1 (ne h1 fun xs z => by cases z), h2, fun pos cv hc => ?_⟩
  obtain ⟨c, e1, e2⟩ := h3 pos cv hc
  exact ⟨c, e1, e _ _ e2 (ne e2 fun xs z => by unfold LamX.CodeO at z; cases z)⟩
theorem Wh.same (h : Wh Y p q ts rs H) (e : Same H H') : Wh Y p q ts rs H' := ⟨h.pot.up e, h.tabs.ext e, h.rows.up fun t xs g => e _ _ g, e _ _ h.lst, h.ne⟩
theorem Wh.but (h : Wh Y p q ts rs H) (hp : Pot H' p) (e : But1 p H H') : Wh Y p q ts rs H' := by
  obtain ⟨a, b, g, _⟩ := h.pot
  exact ⟨hp, tabs_but h.tabs g e, h.rows.up fun t xs g => e _ _ g (h.pot.ne g), e _ _ h.lst h.ne, h.ne⟩
theorem Wh.ext (h : Wh Y p q ts rs H) (e : LamX.ExtN H H') (t : LamX.Tabs Y H') : Wh Y p q ts rs H' := by
  obtain ⟨a, b, g, k⟩ := h.pot
  exact ⟨⟨a, b, e _ _ g lst_ne_tbl, k⟩, t, h.rows.up fun t xs g => e _ _ g tup_ne_tbl, e _ _ h.lst lst_ne_tbl, h.ne⟩
theorem Wh.push (h : Wh Y p q ts rs H) {t : Addr} {r : Rw} (ht : H t = some (.tup (rowV r))) (R : RowOk r) : Wh Y p q (ts ++ [t]) (rs ++ [r]) (upd H q (.lst (ts.map V.ref ++ [.ref t]))) := by
  have e : But1 q H (upd H q (.lst (ts.map V.ref ++ [.ref t]))) := fun b o g n => by rw [upd_ne n]; exact g
  have ne : ∀ {b : Addr} {xs : List V}, H b = some (.tup xs) → b ≠ q := fun g z => by rw [z, h.lst] at g; cases g
  obtain ⟨a, b, g, k⟩ := h.pot
  refine ⟨⟨a, b, e _ _ g h.ne.symm, k⟩, tabs_but h.tabs h.lst e, (h.rows.up fun t xs g => e _ _ g (ne g)).add (e _ _ ht (ne ht)) R, by rw [upd_same, List.map_append]; rfl, h.ne⟩
theorem Rows.rev (h : Rows H ts rs) : Rows H ts.reverse rs.reverse := by
  unfold Rows at h
  induction h with
  | nil => exact .nil
  | cons a b ih =>
    rw [List.reverse_cons, List.reverse_cons]
    exact Rows.add ih a.1 a.2
/-! ### heard -/
theorem heard_row {v : V} {d : PyData} {σ : L2.St} {Q : VK} (hσ : σ[5]? = some (some v)) (hT : LamX.Tabs Y H) (ha : Arg K H v false) (hd : Deep H v d)
    (q : ∀ (m : Addr) (H' : Hp), LamX.ExtN H H' → LamX.Tabs Y H' → H' m = some (.lst [.str "row", .str d.shown, .bl true]) → Q (.ref m) H') :
    LamX.tLam Y (THeard K) (fun E => tCallS (spTraced K) (WE fun cls d x H => E cls d H) (tCons (tVar 5) tNil)) σ H Q := by
  refine ⟨hT, fun H1 e1 t1 l hl => ⟨v, hσ, v, rfl, .inr ⟨(ha.ext hd e1).up (same_new hl), fun d0 H2 e2 h2 => .inl ⟨rfl, d0, v, d.shown, rfl, h2, ?_, fun m hm => ?_⟩⟩⟩⟩
  · exact rp_deep ((hd.ext e1).up ((same_new hl).trans e2))
  · have E := ((same_new hl).trans e2).trans (same_new (o := .lst [.str "row", .str d.shown, .bl true]) hm)
    exact q m _ (e1.trans (ext_same E)) (t1.ext E) upd_same
theorem heard_rows {v : V} {d dr : PyData} {σ : L2.St} {Q : VK} {t : Addr} (hσ : σ[5]? = some (some v)) (hσ1 : σ[1]? = some (some (.ref q))) (W : Wh Y p q ts rs H) (h0 : ts[0]? = some t) (hr : ∀ H', Wh Y p q ts rs H' → Arg K H' (.ref t) true) (ha : Arg K H v false) (hd : Deep H v d) (hdr : Deep H (.ref t) dr)
    (go : ∀ (m : Addr) (H' : Hp), LamX.ExtN H H' → LamX.Tabs Y H' → H' m = some (.lst [.str "rows", .str (PyData.list [dr, d]).shown, .bl true]) → Q (.ref m) H') :
    LamX.tLam Y (THeard K) (fun E => tCallS (spTrace K) (WE fun cls d x H => E cls d H) (tCons (tLst (tCons (tOp (rIxL K) (tVar 1) (tC (.int 0))) (tCons (tVar 5) tNil))) tNil)) σ H Q := by
  refine ⟨W.tabs, fun H1 e1 t1 l hl => ?_⟩
  have W1 := (W.ext e1 t1).same (same_new (o := .lst [.str "let"]) hl)
  refine ⟨.ref q, hσ1, q, ts.map V.ref, 0, .ref t, rfl, rfl, SqL.of W1.lst, at_of (j := 0) rfl (by rw [List.getElem?_map, h0]; rfl), v, hσ, sz2, fun z hz => ?_⟩
  have W2 := W1.same (same_new (o := .lst [.ref t, v]) hz)
  refine ⟨.ref z, rfl, .inr (.inr ⟨[.ref t, v], [true, false], ⟨z, rfl, .inl upd_same⟩, ⟨rfl, fun i x b hx hb => ?_⟩, (show 2 ≤ 100 by decide), rfl, fun d0 H2 e2 h2 => .inr ⟨rfl, d0, .ref z, _, rfl, h2, rp_pair (d := dr) (e := d) (e2 _ _ upd_same) ?_ ?_, fun m hm => ?_⟩⟩)⟩
  · match i, hx, hb with
    | 0, hx, hb => cases hx; cases hb; exact hr _ W2
    | 1, hx, hb => cases hx; cases hb; exact ((ha.ext hd e1).up (same_new hl)).up (same_new hz)
  · exact (((hdr.ext e1).up (same_new hl)).up (same_new hz)).up e2
  · exact (((hd.ext e1).up (same_new hl)).up (same_new hz)).up e2
  · have E := (((same_new hl).trans (same_new hz)).trans e2).trans (same_new (o := .lst [.str "rows", .str (PyData.list [dr, d]).shown, .bl true]) hm)
    exact go m _ (e1.trans (ext_same E)) (t1.ext E) upd_same
/-- the odd values -/
inductive Odd (H : Hp) : V → Str → Prop
  | non : Odd H .non "None"
  | int : Odd H (.int 0) (tx 0)
  | bl : Odd H (.bl true) "True"
  | str : Odd H (.str "") (reprText "")
  | dict {a : Addr} (h : H a = some (.dK [])) : Odd H (.ref a) (PyData.dict []).shown
  | lst {a : Addr} (h : H a = some (.lst [.non])) : Odd H (.ref a) (PyData.list [.none]).shown
theorem Odd.ext {x : V} {t : Str} (h : Odd H x t) (e : LamX.ExtN H H') : Odd H' x t := by
  cases h with
  | non => exact .non
  | int => exact .int
  | bl => exact .bl
  | str => exact .str
  | dict h => exact .dict (e _ _ h dK_ne_tbl)
  | lst h => exact .lst (e _ _ h lst_ne_tbl)
theorem Odd.rp {x : V} {t : Str} (h : Odd H x t) : Rp K H x t := by
  cases h with
  | non => exact .non
  | int => exact .int 0 (by decide)
  | bl => exact .bl true
  | str => exact .str _ (by decide +kernel)
  | dict h => exact .dict h
  | lst h => exact rp_none1 h
theorem Odd.arg {x : V} {t : Str} (h : Odd H x t) : Arg K H x false := by
  cases h with
  | non => exact .non
  | int => exact .int 0
  | bl => exact .bl true
  | str => exact .str _
  | dict h => exact .dK h
  | lst h => exact .lst h
theorem Odd.bad {x : V} {t : Str} (h : Odd H x t) {E : XK} (e : Err (invRows K) x H E) {Q : VK} : spTrace K [x] H Q E := by
  cases h with
  | non => exact ⟨_, rfl, .inr (.inl ⟨⟨"NoneType", .base .non, by decide +kernel, by decide +kernel, by decide, by decide⟩, e⟩)⟩
  | int => exact ⟨_, rfl, .inr (.inl ⟨⟨"int", .base (.int _), by decide +kernel, by decide +kernel, by decide, by decide⟩, e⟩)⟩
  | bl => exact ⟨_, rfl, .inr (.inl ⟨⟨"bool", .base (.bl _), by decide +kernel, by decide +kernel, by decide, by decide⟩, e⟩)⟩
  | str => exact ⟨_, rfl, .inr (.inl ⟨⟨"str", .base (.str _), by decide +kernel, by decide +kernel, by decide, by decide⟩, e⟩)⟩
  | dict h => exact ⟨_, rfl, .inr (.inl ⟨⟨"dict", .base (.dK h), by decide +kernel, by decide +kernel, by decide, by decide⟩, e⟩)⟩
  | @lst a h =>
    refine ⟨_, rfl, .inr (.inr ⟨[.non], [false], ⟨a, rfl, .inl h⟩, ⟨rfl, fun i x b hx hb => ?_⟩, (show 1 ≤ 100 by decide), rfl, e⟩)⟩
    match i, hx, hb with
    | 0, hx, hb => cases hx; cases hb; exact .non
theorem heard_odd {x : V} {t : Str} {σ : L2.St} {Q : VK} (hσ : σ[4]? = some (some x)) (hT : LamX.Tabs Y H) (ho : Odd H x t)
    (q : ∀ (m : Addr) (H' : Hp), LamX.ExtN H H' → LamX.Tabs Y H' → H' m = some (.lst [.str "rows", .str t, .bl true]) → Q (.ref m) H') :
    LamX.tLam Y (THeard K) (fun E => tCallS (spTrace K) (WE fun cls d x H => E cls d H) (tCons (tVar 4) tNil)) σ H Q := by
  refine ⟨hT, fun H1 e1 t1 l hl => ⟨x, hσ, ?_⟩⟩
  have o1 := (ho.ext e1).ext (ext_same (same_new (o := .lst [.str "let"]) hl))
  refine o1.bad fun d0 H2 e2 h2 => .inr ⟨rfl, d0, x, t, rfl, h2, (o1.ext (ext_same e2)).rp, fun m hm => ?_⟩
  have E := ((same_new hl).trans e2).trans (same_new (o := .lst [.str "rows", .str t, .bl true]) hm)
  exact q m _ (e1.trans (ext_same E)) (t1.ext E) upd_same
end
end K97
set_option maxHeartbeats 800000
/-! The law's hand: the derivation. -/
namespace K97
open PySem PySem.Spec PyProof.Rows L2 RZ
local macro_rules | `(tactic| walk_at "v") => `(tactic| refine ⟨_, rfl, ?_⟩)
local macro_rules | `(tactic| walk_at "ii") => `(tactic| refine ⟨_, _, rfl, rfl, ?_⟩)
/-- one step of a reading: a name, two whole numbers, a scalar comparison, a truth value -/
local macro_rules | `(tactic| walk_at "s") => `(tactic| first | refine ⟨_, rfl, ?_⟩ | refine ⟨_, _, rfl, rfl, ?_⟩ | refine ⟨rfl, ?_⟩ | exact iteT (by walk_at "s") | exact iteF (by walk_at "s"))
local macro_rules | `(tactic| walk_at "r") => `(tactic| (repeat (first | refine ⟨_, rfl, ?_⟩ | refine ⟨_, _, rfl, rfl, ?_⟩ | refine ⟨rfl, ?_⟩ | refine iteT ?_ | refine iteF ?_)))

section
variable {P : Program} {w : World} {K : PySem.W.Frag} {mg : Str → Option Value} {base : Heap}
theorem sc_law_right : FnScope ["_law_pot_here", "_law_rows", "_law_turn", "_law_due_here", "_law_odd", "_law_value", "_law_row_here", "_law_shown", "_law_is_one"] ["_law_pot_here"] (defScope s_law_right) := ⟨rfl, rfl, rfl, by decide +kernel, rfl, by decide +kernel, by decide +kernel⟩
abbrev rightN : List Str := ["_law_pot_here", "_law_rows", "_law_turn", "_law_due_here", "_law_odd", "_law_value", "_law_row_here", "_law_shown", "_law_is_one"]
theorem isB_true {n : Int} {x : V} (h : isB n x = true) : ∃ i, x = .int i ∧ 0 ≤ i ∧ i < n := by
  cases x with
  | int i =>
    have h : (decide (0 ≤ i) && decide (i < n)) = true := h
    obtain ⟨h1, h2⟩ := Bool.and_eq_true_iff.mp h
    exact ⟨i, rfl, of_decide_eq_true h1, of_decide_eq_true h2⟩
  | _ => cases h
theorem pairB_true {n m : Int} {x y : V} (h : pairB n m x y = true) : ∃ o : Option (Int × Int), x = oV (o.map (·.1)) ∧ y = oV (o.map (·.2)) ∧ ∀ i j, o = some (i, j) → (0 ≤ i ∧ i < n) ∧ 0 ≤ j ∧ j < m := by
  unfold pairB at h
  by_cases g : (isN x || isN y) = true
  · rw [if_pos g] at h
    obtain ⟨h1, h2⟩ := Bool.and_eq_true_iff.mp h
    refine ⟨none, ?_, ?_, fun i j e => by cases e⟩
    · cases x <;> first | rfl | cases h1
    · cases y <;> first | rfl | cases h2
  · rw [if_neg g] at h
    obtain ⟨h1, h2⟩ := Bool.and_eq_true_iff.mp h
    obtain ⟨i, rfl, i0, i1⟩ := isB_true h1
    obtain ⟨j, rfl, j0, j1⟩ := isB_true h2
    exact ⟨some (i, j), rfl, rfl, fun i' j' e => by cases e; exact ⟨⟨i0, i1⟩, j0, j1⟩⟩
theorem rowB_true {xs : List V} (h : rowB xs = true) : ∃ r, xs = rowV r ∧ RowOk r := by
  unfold rowB at h
  split at h
  · rename_i a w c r v p s
    simp only [Bool.and_eq_true] at h
    obtain ⟨h1, h2, ⟨h3, h4⟩, h5, h6⟩ := h
    obtain ⟨i, rfl, i0, i1⟩ := isB_true h1
    obtain ⟨o, rfl, rfl, ho⟩ := pairB_true h5
    obtain ⟨o2, rfl, rfl, ho2⟩ := pairB_true h6
    have hw : ∃ ow : Option Int, w = oV ow ∧ ∀ k, ow = some k → Wd k := by
      rcases Bool.or_eq_true_iff.mp h2 with z | z
      · refine ⟨none, ?_, fun k e => by cases e⟩
        cases w <;> first | rfl | cases z
      · obtain ⟨k, rfl, k0, k1⟩ := isB_true z
        exact ⟨some k, rfl, fun k' e => by cases e; exact ⟨k0, k1⟩⟩
    obtain ⟨ow, rfl, how⟩ := hw
    have hc : ∃ k, c = .int k ∧ 0 ≤ k ∧ k < 32 := by
      cases c with
      | int k => exact ⟨k, rfl, of_decide_eq_true h3, of_decide_eq_true h4⟩
      | _ => cases h3
    obtain ⟨k, rfl, k0, k1⟩ := hc
    exact ⟨⟨i, ow, k, o, o2⟩, rfl, ⟨⟨i0, i1⟩, how, ⟨k0, k1⟩, ho, ho2⟩⟩
  · cases h
theorem arg_true {H : Hp} {v : V} {b : Bool} (h : Arg K H v b) (hb : b = true) : ∃ t r, v = .ref t ∧ H t = some (.tup (rowV r)) ∧ RowOk r := by
  cases h with
  | tup h hs =>
    obtain ⟨r, rfl, R⟩ := rowB_true hb
    exact ⟨_, r, rfl, h, R⟩
  | _ => cases hb
theorem flat_texts (rs : List Rw) : ∀ v ∈ rs.map (fun r => V.str (rowText r)), flatB v = true := by
  intro v hv
  obtain ⟨r, _, rfl⟩ := List.mem_map.mp hv
  rfl
theorem flat_three (x y : Str) (b : Bool) : ∀ v ∈ [V.str x, .str y, .bl b], flatB v = true := by
  intro v hv
  simp only [List.mem_cons, List.not_mem_nil, or_false] at hv
  rcases hv with z | z | z <;> rw [z] <;> rfl
theorem right_run (T : Hd K w mg) {c P0 g p : Addr} {A : Around} {outer : List Env} {s : Shared} {H : Hp} {Q : VK} (TB : LamX.TabB base mg c P0) (hga : A.guards = some []) (hro : Room 30 (A.deeper (envOfC "_law_right" (defScope s_law_right) s.heap.objs.size g (.ref c)))) (hp : Pot H p) (hT : ∀ q : Str, LamX.Tabs [(P0, q)] H) (qq : ∀ H', Q (.bl true) H')
    (c_law_ran : C8.Cal P w K mg base 14 "_law_ran" (spRan K) []) (c_law_row : C8.Cal P w K mg base 3 "_law_row" (spLRow K) []) (c_law_due : C8.Cal P w K mg base 4 "_law_due" (spDueT K) [])
    (ck_traced : CalXK P w K mg base 7 "traced" "row" (spTraced K)) (ck_trace : CalXK P w K mg base 7 "trace" "rows" (spTrace K)) (c_law_bent : C8.Cal P w K mg base 3 "_law_bent" (spBent K) [])
    (c_law_is_row : C8.Cal P w K mg base 2 "_law_is_row" (spIsRow K) []) (ck_is_row : CalK P w K mg base 6 "is_row" "value" (spIsRow K)) :
    ∃ t, PSs (cxOf C8.CX0 P w K mg base rightN "_law_right" (defScope s_law_right) g (.ref c) A outer s H C8.E0) (defBody s_law_right) t ∧ t { nx := fun _ H' => Q .non H', rt := Q } (start rightN [.ref p]) H := by
  have c_traced := ck_traced.c
  have c_trace := ck_trace.c
  have c_is_row := ck_is_row.c
  let X := (cxOf C8.CX0 P w K mg base rightN "_law_right" (defScope s_law_right) g (.ref c) A outer s H C8.E0).nox
  have hg : X.A.guards = some [] := hga
  have hr : Room 30 X.A := hro
  have hr3 : Room (27 + 3) X.A := hr
  have rp : CallR X (.builtin "repr") (fun xs H Q => ∃ x t, xs = [x] ∧ Rp K H x t ∧ Q (.str t) H) := call_reprA hg (by have := hr.un; omega)
  have neL : OpR X (compareOp .NotEq) (rNeL K) := op_neL (by have := hr.un; omega)
  have eqD : OpR X (compareOp .Eq) (rEqD K) := op_eqD (by have := hr.un; omega)
  have := show PSs X (defBody s_law_right) _ from (pss_cons (ps_set (i := 1) sc_law_right.nd rfl (Or.inr rfl) (C8.pe_c c_law_ran hr (by decide) (by rfl) (pa_cons (pv 0) pa_nil))) (pss_cons (ps_for PassesOwn.never rfl (pi_range1 (by rfl) T.b_range (pa_cons pe_int pa_nil)) (pg_name (i := 2) sc_law_right.nd rfl (Or.inl rfl)) (pss_one (ps_expr (pe_bm PySem.F.plainAttrs_list PySem.F.slot_list_append PySem.F.type_list_append mt_append (pv 1) (pa_cons (C8.pe_c c_law_row hr (by decide) (by rfl) (pa_cons (pv 0) pa_nil)) pa_nil))))) (pss_cons (ps_setLc (i := 3) (own := [("_law_row_here", 6)]) (g := gName 6) rfl sc_law_right.nd rfl rfl (sw_true rfl rfl rfl (by decide +kernel)) (pi_list (pv 1)) (blkOk_by (own := [("_law_row_here", 6)]) (N := ["_law_pot_here", "_law_rows", "_law_turn", "_law_due_here", "_law_odd", "_law_value", "_law_row_here", "_law_shown", "_law_is_one"]) (sc := defScope s_law_right) (by decide +kernel)) (fun _ _ _ _ _ => pg_name (i := 6) sc_law_right.nd rfl (Or.inl rfl)) (fun _ _ _ _ _ => pts_nil) (fun _ _ _ _ _ => (C8.pe_c c_law_due hr (by decide) (by rfl) (pa_cons (pv 6) pa_nil)))) (pss_cons (ps_if (PW.pt (pw_or (pt_cmpR neL (pe_cX c_trace LamX.takes0 hr (by decide) (by rfl) (pa_cons (pe_callTy call_tuple_of (by rfl) T.b_tuple (by decide +kernel) (pa_cons (pv 1) pa_nil)) pa_nil)) (pv 3) (nomark _)) (pw_or (pt_cmpR neL (pe_ckX ck_trace LamX.takes0 hr (by decide) (by rfl) (pe_revL (pv 1)) (fun _ _ _ _ z => z)) (pe_revL (pv 3)) (nomark _)) (pw_or1 (pt_cmpR op_ne (pe_ckX ck_traced LamX.takes0 hr (by decide) (by rfl) (pe_ix ix_list (pv 1) pe_int (fun _ _ => rfl)) (fun _ _ _ _ z => z)) (pe_ix ix_list (pv 3) pe_int (fun _ _ => rfl)) (nomark _)))))) (pss_one (ps_ret pe_bl)) pss_nil) (pss_cons (ps_for PassesOwn.never rfl (pi_range1 (by rfl) T.b_range (pa_cons pe_int pa_nil)) (pg_name (i := 2) sc_law_right.nd rfl (Or.inl rfl)) (pss_cons (ps_set (i := 5) sc_law_right.nd rfl (Or.inr rfl) (C8.pe_c c_law_bent hr (by decide) (by rfl) (pa_cons (pv 0) (pa_cons (pe_ix ix_list (pv 1) (pe_op op_sub (pe_op op_sub (pe_callB call_len (by rfl) T.b_len (by decide +kernel) (pa_cons (pv 1) pa_nil)) pe_int) (pe_op op_mod (pv 2) pe_int)) (fun _ _ => rfl)) pa_nil)))) (pss_cons (ps_par (i := 7) (j := 8) rfl sc_law_right.nd rfl rfl (by decide) rfl rfl (pa_cons (pe_callB rp (by rfl) T.b_repr (by decide +kernel) (pa_cons (pv 5) pa_nil)) (pa_cons (C8.pe_c c_law_is_row hr (by decide) (by rfl) (pa_cons (pv 5) pa_nil)) pa_nil)) (by rfl)) (pss_cons (ps_if (pt_cmpR op_ne (pe_callB rp (by rfl) T.b_repr (by decide +kernel) (pa_cons (pe_lst (pa_cons (C8.pe_c c_is_row hr (by decide) (by rfl) (pa_cons (pv 5) pa_nil)) (pa_cons (pe_ck ck_is_row hr (by decide) (by rfl) (pv 5)) pa_nil))) pa_nil)) (pe_callB rp (by rfl) T.b_repr (by decide +kernel) (pa_cons (pe_op op_rep (pe_lst (pa_cons (pv 8) pa_nil)) pe_int) pa_nil)) (nomark _)) (pss_one (ps_ret pe_bl)) pss_nil) (pss_cons (ps_if (PW.pt (pw_and (pt_val (pv 8)) (pw_and1 (pt_cmpR op_ne (pe_cX c_traced LamX.takes0 hr (by decide) (by rfl) (pa_cons (pv 5) pa_nil)) (C8.pe_c c_law_due hr (by decide) (by rfl) (pa_cons (pv 5) pa_nil)) (nomark _))))) (pss_one (ps_ret pe_bl)) pss_nil) (pss_cons (ps_if (PW.pt (pw_and (pt_not (pt_val (pv 8))) (pw_and1 (pt_cmpR neL (pe_heard T hg hr3 TB rfl (LamX.lamS_by (sc := defScope s_law_right) (by decide +kernel)) rfl (fun _ _ _ _ _ => rfl) (by rfl) (fun A outer s H E f c' hr2 => (pe_cX c_traced (takes_of rfl rfl rfl rfl) hr2 (by decide) (by rfl) (pa_cons (pv 5) pa_nil)))) (pe_lst (pa_cons pe_str (pa_cons (pv 7) (pa_cons pe_bl pa_nil)))) (nomark _))))) (pss_one (ps_ret pe_bl)) pss_nil) (pss_one (ps_if (PW.pt (pw_and (pt_not (pt_val (pv 8))) (pw_and1 (pt_cmpR neL (pe_heard T hg hr3 TB rfl (LamX.lamS_by (sc := defScope s_law_right) (by decide +kernel)) rfl (fun _ _ _ _ _ => rfl) (by rfl) (fun A outer s H E f c' hr2 => (pe_cX c_trace (takes_of rfl rfl rfl rfl) hr2 (by decide) (by rfl) (pa_cons (pe_lst (pa_cons (pe_ix (show IxR _ (rIxL K) from ix_list) (pv 1) pe_int (fun _ _ => rfl)) (pa_cons (pv 5) pa_nil))) pa_nil)))) (pe_lst (pa_cons pe_str (pa_cons (pe_callB rp (by rfl) T.b_repr (by decide +kernel) (pa_cons (pe_lst (pa_cons (pe_ix ix_list (pv 1) pe_int (fun _ _ => rfl)) (pa_cons (pv 5) pa_nil))) pa_nil)) (pa_cons pe_bl pa_nil)))) (nomark _))))) (pss_one (ps_ret pe_bl)) pss_nil)))))))) (pss_cons (ps_for PassesOwn.never rfl (pi_list (pe_lst (pa_cons pe_non (pa_cons pe_int (pa_cons pe_bl (pa_cons pe_str (pa_cons pe_dnewK (pa_cons (pe_lst (pa_cons pe_non pa_nil)) pa_nil)))))))) (pg_name (i := 4) sc_law_right.nd rfl (Or.inr rfl)) (pss_one (ps_if (PW.pt (pw_or (pt_cmpR neL (pe_heard T hg hr3 TB rfl (LamX.lamS_by (sc := defScope s_law_right) (by decide +kernel)) rfl (fun _ _ _ _ _ => rfl) (by rfl) (fun A outer s H E f c' hr2 => (pe_cX c_trace (takes_of rfl rfl rfl rfl) hr2 (by decide) (by rfl) (pa_cons (pv 4) pa_nil)))) (pe_lst (pa_cons pe_str (pa_cons (pe_callB rp (by rfl) T.b_repr (by decide +kernel) (pa_cons (pv 4) pa_nil)) (pa_cons pe_bl pa_nil)))) (nomark _)) (pw_or1 (pt_cmpR op_notBl (C8.pe_c c_is_row hr (by decide) (by rfl) (pa_cons (pv 4) pa_nil)) pe_bl (nomark _))))) (pss_one (ps_ret pe_bl)) pss_nil))) (pss_one (ps_ret (pe_cmpR eqD (pe_cX c_trace LamX.takes0 hr (by decide) (by rfl) (pa_cons (pe_lst pa_nil) pa_nil)) (pe_lst pa_nil) (nomark _))))))))))
  have hT := hT (X.env.qual ++ ("<lambda>" : Str))
  refine ⟨_, this.nox, ?_⟩
  clear this rp neL eqD
  refine ⟨_, rfl, .ref p, rfl, p, rfl, hp, fun q H1 ts rs hq0 hq hR hl p1 b1 => ?_⟩
  have W1 : Wh [(P0, X.env.qual ++ ("<lambda>" : Str))] p q ts rs H1 := ⟨p1, by obtain ⟨a, b, gg, _⟩ := hp; exact tabs_but hT gg b1, hR, hq, hp.ne_none hq0⟩
  refine ⟨3, rfl, by decide, by decide, for_range (n := 3) (fun i σ H' => ∃ ts rs a, Wh [(P0, X.env.qual ++ ("<lambda>" : Str))] p q ts rs H' ∧ i ≤ ts.length ∧ ts.length ≤ 6 + i ∧ σ = [some (.ref p), some (.ref q), a, none, none, none, none, none, none]) ⟨ts, rs, none, W1, Nat.zero_le _, hl, rfl⟩ ?_ ?_⟩
  · rintro i σ H2 hi ⟨ts, rs, a, W, h1, h2, rfl⟩
    refine ⟨_, rfl, .inl ⟨rfl, _, SqL.of W.lst⟩, _, rfl, _, rfl, p, rfl, W.pot, fun t H3 r R ht ht0 p3 b3 => ?_⟩
    have W3 := W.but p3 b3
    refine ⟨q, _, _, rfl, rfl, W3.lst, szl (by rw [List.length_map]; omega), _, _, _, W3.push ht R, by rw [List.length_append]; simp; omega, by rw [List.length_append]; simp; omega, rfl⟩
  rintro σ H2 ⟨ts, rs, a, W2, h1, h2, rfl⟩
  have ln : (ts.map V.ref).length = (rs.map fun r => V.str (rowText r)).length := by rw [List.length_map, List.length_map, W2.rows.len]
  refine ⟨_, rfl, q, rfl, ⟨_, SqL.of W2.lst⟩, fun D hD => lc_ixL (te := tCall (spDueT K) [] C8.E0 (tCons (tVar 6) tNil)) ln (SqL.of W2.lst) hD (by rw [List.length_map]; omega) (fun _ => rfl) (fun i x y H3 hx hy e Q q => ?_) fun H3 e3 hd => ?_⟩
  · rw [List.getElem?_map] at hx hy
    cases ht : ts[i]? with
    | none => rw [ht] at hx; cases hx
    | some t =>
      cases hr3 : rs[i]? with
      | none => rw [hr3] at hy; cases hy
      | some r =>
        rw [ht] at hx; rw [hr3] at hy; cases hx; cases hy
        obtain ⟨g1, g2⟩ := W2.rows.get ht hr3
        exact ⟨_, rfl, _, rfl, t, r, rfl, e _ _ g1, g2, q⟩
  have W3 := W2.same e3
  -- the first look
  obtain ⟨t0, ht0⟩ : ∃ t, ts[0]? = some t := ⟨_, List.getElem?_eq_getElem (by omega)⟩
  obtain ⟨r0, hr0⟩ : ∃ r, rs[0]? = some r := ⟨_, List.getElem?_eq_getElem (by rw [← W3.rows.len]; omega)⟩
  have no : ∀ z : Str, V.bl (!decide (V.str z = V.str z)) = .bl false := fun z => by rw [decide_eq_true rfl]; rfl
  refine ⟨_, rfl, q, _, rfl, .inl ⟨SqL.of W3.lst, fun l1 hl1 => ⟨_, rfl, .inl ⟨ts, rs, ⟨l1, rfl, .inr upd_same⟩, (W3.same (same_new hl1)).rows, by omega, fun z H4 xs hz e4 h4 hx => ?_⟩⟩⟩⟩
  subst hx
  have W4 := (W3.same (same_new hl1)).same e4
  have hd4 := e4 _ _ (same_new (o := .tup (ts.map V.ref)) hl1 _ _ hd)
  refine ⟨_, rfl, z, D, _, rfl, rfl, SqL.of h4, SqL.of hd4, flat_texts rs, _, rfl, iteF ?_⟩
  refine ⟨_, rfl, q, _, rfl, SqL.of W4.lst, fun l2 hl2 => ⟨_, rfl, .inl ⟨ts.reverse, rs.reverse, ⟨l2, rfl, .inl (by rw [List.map_reverse]; exact upd_same)⟩, (W4.same (same_new hl2)).rows.rev, by rw [List.length_reverse]; omega, fun z2 H5 xs hz2 e5 h5 hx => ?_⟩⟩⟩
  subst hx
  have W5 := (W4.same (same_new hl2)).same e5
  have hd5 := e5 _ _ (same_new (o := .lst (ts.map V.ref).reverse) hl2 _ _ hd4)
  rw [List.map_reverse] at h5
  refine ⟨_, rfl, D, _, rfl, SqL.of hd5, fun l3 hl3 => ⟨z2, l3, _, rfl, rfl, SqL.of (same_new hl3 _ _ h5), SqL.of upd_same, fun v hv => flat_texts rs v (List.mem_reverse.mp hv), _, rfl, iteF ?_⟩⟩
  have W6 := W5.same (same_new (o := .lst (rs.map fun r => V.str (rowText r)).reverse) hl3)
  have hd6 := same_new (o := .lst (rs.map fun r => V.str (rowText r)).reverse) hl3 _ _ hd5
  obtain ⟨k0, k1⟩ := W6.rows.get ht0 hr0
  refine ⟨_, rfl, q, _, 0, .ref t0, rfl, rfl, SqL.of W6.lst, at_of (j := 0) rfl (by rw [List.getElem?_map, ht0]; rfl), _, rfl, .inl ⟨t0, r0, rfl, k0, k1, fun H7 e7 => ?_⟩⟩
  have W7 := W6.same e7
  have hd7 := e7 _ _ hd6
  refine ⟨_, rfl, D, _, 0, .str (rowText r0), rfl, rfl, SqL.of hd7, at_of (j := 0) rfl (by rw [List.getElem?_map, hr0]; rfl), rfl, _, no _, iteF ?_⟩
  -- six bent rows
  have hr_ : ∀ H', Wh [(P0, X.env.qual ++ ("<lambda>" : Str))] p q ts rs H' → Arg K H' (.ref t0) true := fun H' W => by
    obtain ⟨g1, g2⟩ := W.rows.get ht0 hr0
    exact arg_row g1 g2
  refine ⟨6, rfl, by decide, by decide, for_range (n := 6) (fun i σ H' => ∃ a v sh on, Wh [(P0, X.env.qual ++ ("<lambda>" : Str))] p q ts rs H' ∧ σ = [some (.ref p), some (.ref q), a, some (.ref D), none, v, none, sh, on]) ⟨_, _, _, _, W7, rfl⟩ ?_ ?_⟩
  · rintro i σ H8 hi ⟨a, v0, sh, on, W8, rfl⟩
    obtain ⟨tj, htj⟩ : ∃ t, ts[ts.length - 1 - i % 3]? = some t := ⟨_, List.getElem?_eq_getElem (by omega)⟩
    obtain ⟨rj, hrj⟩ : ∃ r, rs[ts.length - 1 - i % 3]? = some r := ⟨_, List.getElem?_eq_getElem (by rw [← W3.rows.len]; omega)⟩
    obtain ⟨g1, g2⟩ := W8.rows.get htj hrj
    refine ⟨_, rfl, _, rfl, _, rfl, _, _, rfl, .inl ⟨_, SqL.of W8.lst, rfl⟩, _, _, rfl, rfl, _, rfl, _, _, rfl, rfl, (by decide : (0 : Int) < 3), _, _, rfl, rfl, q, _, _, .ref tj, rfl, rfl, SqL.of W8.lst, at_of (j := ts.length - 1 - i % 3) (by rw [List.length_map]; omega) (by rw [List.getElem?_map, htj]; rfl), _, _, rfl, p, tj, rj, rfl, rfl, W8.pot, g1, g2, fun v H9 b d ha hdv p9 b9 => ?_⟩
    have W9 := W8.but p9 b9
    refine ⟨_, rfl, _, _, rfl, rp_deep hdv, _, rfl, _, rfl, b, ha, _, _, rfl, ?_⟩
    refine ⟨_, rfl, _, rfl, b, ha, _, rfl, _, rfl, b, ha, sz2, fun l1 hl1 => ⟨_, _, rfl, rp_bools b b upd_same, _, rfl, sz1, fun l2 hl2 => ⟨l2, 2, [.bl b], rfl, rfl, upd_same, by decide, by decide, sz2, fun l3 hl3 => ⟨_, _, rfl, rp_bools b b upd_same, rfl, _, no _, iteF ?_⟩⟩⟩⟩
    have E10 := ((same_new (o := .lst [.bl b, .bl b]) hl1).trans (same_new (o := .lst [.bl b]) hl2)).trans (same_new (o := .lst (List.replicate (Int.toNat 2) [V.bl b]).flatten) hl3)
    have W10 := W9.same E10
    have ha10 := ha.up E10
    have hd10 := hdv.up E10
    clear E10 hl1 hl2 hl3
    generalize upd (upd (upd H9 l1 (HO.lst [V.bl b, V.bl b])) l2 (HO.lst [V.bl b])) l3 (HO.lst (List.replicate (Int.toNat 2) [V.bl b]).flatten) = H10 at W10 ha10 hd10 ⊢
    cases b with
    | true =>
      obtain ⟨tv, rv, rfl, gv1, gv2⟩ := arg_true ha10 rfl
      refine ⟨_, rfl, _, rfl, iteT ⟨_, rfl, _, rfl, .inl ⟨tv, rv, rfl, gv1, gv2, fun H11 e11 => ⟨_, rfl, _, rfl, tv, rv, rfl, e11 _ _ gv1, gv2, fun H12 e12 => ⟨rfl, _, no _, iteF ?_⟩⟩⟩⟩⟩
      refine ⟨_, rfl, _, rfl, iteF (iteF ?_)⟩
      refine ⟨_, rfl, _, rfl, iteF (iteF ?_)⟩
      exact ⟨_, _, _, _, (W10.same e11).same e12, rfl⟩
    | false =>
      refine ⟨_, rfl, _, rfl, iteF (iteF ?_)⟩
      refine ⟨_, rfl, _, rfl, iteT (heard_row rfl W10.tabs ha10 hd10 fun m H11 x11 t11 hm => ?_)⟩
      refine ⟨_, rfl, sz3, fun l4 hl4 => ⟨m, l4, _, rfl, rfl, SqL.of (same_new hl4 _ _ hm), SqL.of upd_same, flat_three _ _ _, _, rfl, iteF ?_⟩⟩
      have E12 := same_new (o := .lst [.str "row", .str d.shown, .bl true]) hl4
      have W12 := (W10.ext x11 t11).same E12
      have ha12 := (ha10.ext hd10 x11).up E12
      have hd12 := (hd10.ext x11).up E12
      obtain ⟨dr, hdr⟩ := deep_row (W12.rows.get ht0 hr0).1 k1
      refine ⟨_, rfl, _, rfl, iteT (heard_rows rfl rfl W12 ht0 hr_ ha12 hd12 hdr fun m2 H13 x13 t13 hm2 => ?_)⟩
      have W13 := W12.ext x13 t13
      refine ⟨_, rfl, q, _, 0, .ref t0, rfl, rfl, SqL.of W13.lst, at_of (j := 0) rfl (by rw [List.getElem?_map, ht0]; rfl), _, rfl, sz2, fun l5 hl5 => ⟨_, _, rfl, rp_pair (d := dr) (e := d) upd_same ((hdr.ext x13).up (same_new hl5)) ((hd12.ext x13).up (same_new hl5)), sz3, fun l6 hl6 => ⟨m2, l6, _, rfl, rfl, SqL.of (same_new hl6 _ _ (same_new hl5 _ _ hm2)), SqL.of upd_same, flat_three _ _ _, _, rfl, iteF ?_⟩⟩⟩
      exact ⟨_, _, _, _, (W13.same (same_new (o := .lst [.ref t0, v]) hl5)).same (same_new (o := .lst [.str "rows", .str (PyData.list [dr, d]).shown, .bl true]) hl6), rfl⟩
  -- six odd values
  rintro σ H8 ⟨a, v0, sh, on, W8, rfl⟩
  refine fun pd hpd => ⟨sz1, fun pl hpl => ⟨(show 6 ≤ sizeLine by decide), fun L hL => ⟨L, rfl, ⟨_, SqL.of upd_same⟩, ?_⟩⟩⟩
  have E1 := same_new (o := .dK []) hpd
  have E2 := same_new (o := .lst [V.non]) hpl
  have E3 := same_new (o := .lst [V.non, .int 0, .bl true, .str "", .ref pd, .ref pl]) hL
  have gd : upd (upd (upd H8 pd (.dK [])) pl (.lst [V.non])) L (.lst [V.non, .int 0, .bl true, .str "", .ref pd, .ref pl]) pd = some (.dK []) := E3 _ _ (E2 _ _ upd_same)
  have gl : upd (upd (upd H8 pd (.dK [])) pl (.lst [V.non])) L (.lst [V.non, .int 0, .bl true, .str "", .ref pd, .ref pl]) pl = some (.lst [.non]) := E3 _ _ upd_same
  have gL : upd (upd (upd H8 pd (.dK [])) pl (.lst [V.non])) L (.lst [V.non, .int 0, .bl true, .str "", .ref pd, .ref pl]) L = some (.lst [V.non, .int 0, .bl true, .str "", .ref pd, .ref pl]) := upd_same
  have T9 := W8.tabs.ext ((E1.trans E2).trans E3)
  refine for_list (xs := [V.non, .int 0, .bl true, .str "", .ref pd, .ref pl]) (fun i σ H' => (LamX.Tabs [(P0, X.env.qual ++ ("<lambda>" : Str))] H' ∧ H' pd = some (.dK []) ∧ H' pl = some (.lst [.non]) ∧ H' L = some (.lst [V.non, .int 0, .bl true, .str "", .ref pd, .ref pl])) ∧ ∃ o, σ = [some (.ref p), some (.ref q), a, some (.ref D), o, v0, none, sh, on]) ⟨⟨T9, gd, gl, gL⟩, _, rfl⟩ (fun i σ H' _ z => SqL.of z.1.2.2.2) ?_ ?_
  · rintro i x σ H' hx ⟨⟨t1, d1, l1, L1⟩, o, rfl⟩
    have odd : ∃ t, Odd H' x t := by
      match i, hx with
      | 0, hx => cases hx; exact ⟨_, .non⟩
      | 1, hx => cases hx; exact ⟨_, .int⟩
      | 2, hx => cases hx; exact ⟨_, .bl⟩
      | 3, hx => cases hx; exact ⟨_, .str⟩
      | 4, hx => cases hx; exact ⟨_, .dict d1⟩
      | 5, hx => cases hx; exact ⟨_, .lst l1⟩
      | (n + 6), hx => cases hx
    obtain ⟨tx, od⟩ := odd
    refine heard_odd rfl t1 od fun m H1 x1 t2 hm => ?_
    refine ⟨_, rfl, _, _, rfl, (od.ext x1).rp, sz3, fun l2 hl2 => ⟨m, l2, _, rfl, rfl, SqL.of (same_new hl2 _ _ hm), SqL.of upd_same, flat_three _ _ _, _, rfl, iteF ?_⟩⟩
    have E4 := same_new (o := .lst [V.str "rows", .str tx, .bl true]) hl2
    refine ⟨_, rfl, _, rfl, false, ((od.ext x1).ext (ext_same E4)).arg, false, false, rfl, rfl, _, rfl, iteF ?_⟩
    exact ⟨⟨t2.ext E4, E4 _ _ (x1 _ _ d1 dK_ne_tbl), E4 _ _ (x1 _ _ l1 lst_ne_tbl), E4 _ _ (x1 _ _ L1 lst_ne_tbl)⟩, _, rfl⟩
  -- no rows at all
  rintro σ H' ⟨_, o, rfl⟩
  refine ⟨sz0, fun l1 hl1 => ⟨_, rfl, .inl ⟨[], [], ⟨l1, rfl, .inl upd_same⟩, .nil, by decide, fun z H1 xs hz e1 h1 hx => ⟨sz0, fun l2 hl2 => ?_⟩⟩⟩⟩
  subst hx
  refine ⟨.list [], .list [], .lst (SqL.of (same_new hl2 _ _ h1)) .nil, .lst (SqL.of upd_same) .nil, rfl, rfl, ?_⟩
  have eq : PyData.eqv (.list []) (.list []) = true := by decide +kernel
  rw [eq]
  exact qq _
end
end K97
set_option maxHeartbeats 4000000
/-! The law as a whole, and its end. -/
namespace K97
open PySem PySem.Spec PyProof.Rows L2
/-- what the law's hand calls -/
structure Callees (P : Program) (w : World) (K : PySem.W.Frag) (mg : Str → Option Value) (base : Heap) : Prop where
  pot : C8.Cal P w K mg base 1 "_law_pot" (spPot K) []
  ran : C8.Cal P w K mg base 14 "_law_ran" (spRan K) []
  row : C8.Cal P w K mg base 3 "_law_row" (spLRow K) []
  due : C8.Cal P w K mg base 4 "_law_due" (spDueT K) []
  traced : CalXK P w K mg base 7 "traced" "row" (spTraced K)
  trace : CalXK P w K mg base 7 "trace" "rows" (spTrace K)
  bent : C8.Cal P w K mg base 3 "_law_bent" (spBent K) []
  own : C8.Cal P w K mg base 2 "_law_is_row" (spIsRow K) []
  isrow : CalK P w K mg base 6 "is_row" "value" (spIsRow K)
section
variable {P : Program} {w : World} {K : PySem.W.Frag} {mg : Str → Option Value} {base : Heap}
theorem callees (T : Hd K w mg) : Callees P w K mg base := by
  have c_law_pot := ok_law_pot (P := P) (w := w) (K := K) (mg := mg) (base := base) T
  have c_law_names := ok_law_names (P := P) (w := w) (K := K) (mg := mg) (base := base) T
  have c_law_word := ok_law_word (P := P) (w := w) (K := K) (mg := mg) (base := base) T c_law_names
  have c_law_draw := ok_law_draw (P := P) (w := w) (K := K) (mg := mg) (base := base) T
  have c_law_instruction := ok_law_instruction (P := P) (w := w) (K := K) (mg := mg) (base := base) T c_law_draw c_law_names
  have c_want_state := ok_want_state (P := P) (w := w) (K := K) (mg := mg) (base := base) T
  have c_is_integer := ok_is_integer (P := P) (w := w) (K := K) (mg := mg) (base := base) T
  have c_is_count := ok_is_count (P := P) (w := w) (K := K) (mg := mg) (base := base) T c_is_integer
  have c_want_many := ok_want_many (P := P) (w := w) (K := K) (mg := mg) (base := base) T c_is_count
  have c_is_raise := ok_is_raise (P := P) (w := w) (K := K) (mg := mg) (base := base) T c_is_count
  have c_is_list := ok_is_list (P := P) (w := w) (K := K) (mg := mg) (base := base) T
  have c_want_raised := ok_want_raised (P := P) (w := w) (K := K) (mg := mg) (base := base) T c_is_raise c_is_list
  have c_want_line := ok_want_line (P := P) (w := w) (K := K) (mg := mg) (base := base) T c_is_count
  have c_Devices_raised := ok_Devices_raised (P := P) (w := w) (K := K) (mg := mg) (base := base) T c_want_line
  have c_has_bit := ok_has_bit (P := P) (w := w) (K := K) (mg := mg) (base := base) T
  have c_is_word := ok_is_word (P := P) (w := w) (K := K) (mg := mg) (base := base) T c_is_count
  have c_want_word := ok_want_word (P := P) (w := w) (K := K) (mg := mg) (base := base) T c_is_word
  have c_Devices_due := ok_Devices_due (P := P) (w := w) (K := K) (mg := mg) (base := base) T c_want_word
  have c_Devices_lowered := ok_Devices_lowered (P := P) (w := w) (K := K) (mg := mg) (base := base) T c_want_line
  have c_status_with := ok_status_with (P := P) (w := w) (K := K) (mg := mg) (base := base) T
  have c_controls_trapped := ok_controls_trapped (P := P) (w := w) (K := K) (mg := mg) (base := base) T c_has_bit c_status_with
  have c_trap_on := ok_trap_on (P := P) (w := w) (K := K) (mg := mg) (base := base) T c_controls_trapped
  have c_trap_row := ok_trap_row (P := P) (w := w) (K := K) (mg := mg) (base := base) T
  have c_interrupt_row := ok_interrupt_row (P := P) (w := w) (K := K) (mg := mg) (base := base) T c_has_bit c_Devices_due c_Devices_lowered c_trap_on c_trap_row
  have c_reached_address := ok_reached_address (P := P) (w := w) (K := K) (mg := mg) (base := base) T
  have c_straight_by := ok_straight_by (P := P) (w := w) (K := K) (mg := mg) (base := base) T
  have c_first_place := ok_first_place (P := P) (w := w) (K := K) (mg := mg) (base := base) T
  have c_is_memory_place := ok_is_memory_place (P := P) (w := w) (K := K) (mg := mg) (base := base) T c_is_count
  have c_want_memory_place := ok_want_memory_place (P := P) (w := w) (K := K) (mg := mg) (base := base) T c_is_memory_place
  have c_Memory_word := ok_Memory_word (P := P) (w := w) (K := K) (mg := mg) (base := base) T c_want_memory_place
  have c_is_there := ok_is_there (P := P) (w := w) (K := K) (mg := mg) (base := base) T
  have c_frame_of := ok_frame_of (P := P) (w := w) (K := K) (mg := mg) (base := base) T
  have c_second_place := ok_second_place (P := P) (w := w) (K := K) (mg := mg) (base := base) T c_frame_of
  have c_flags_of := ok_flags_of (P := P) (w := w) (K := K) (mg := mg) (base := base) T
  have c_by_word := ok_by_word (P := P) (w := w) (K := K) (mg := mg) (base := base) T c_flags_of c_is_there c_frame_of
  have c_translated_by := ok_translated_by (P := P) (w := w) (K := K) (mg := mg) (base := base) T c_first_place c_Memory_word c_is_there c_second_place c_by_word
  have c_looked_up := ok_looked_up (P := P) (w := w) (K := K) (mg := mg) (base := base) T c_has_bit c_straight_by c_translated_by
  have c_is_device_there := ok_is_device_there (P := P) (w := w) (K := K) (mg := mg) (base := base) T c_is_count
  have c_Devices_can := ok_Devices_can (P := P) (w := w) (K := K) (mg := mg) (base := base) T c_is_device_there
  have c_data_place := ok_data_place (P := P) (w := w) (K := K) (mg := mg) (base := base) T c_looked_up c_Devices_can
  have c_Devices_device_read := ok_Devices_device_read (P := P) (w := w) (K := K) (mg := mg) (base := base) T
  have c_next_address := ok_next_address (P := P) (w := w) (K := K) (mg := mg) (base := base) T
  have c_load_row := ok_load_row (P := P) (w := w) (K := K) (mg := mg) (base := base) T c_reached_address c_data_place c_trap_on c_trap_row c_Devices_device_read c_next_address
  have c_Devices_device_write := ok_Devices_device_write (P := P) (w := w) (K := K) (mg := mg) (base := base) T
  have c_store_row := ok_store_row (P := P) (w := w) (K := K) (mg := mg) (base := base) T c_reached_address c_data_place c_trap_on c_trap_row c_Devices_device_write c_next_address
  have c_controls_returned := ok_controls_returned (P := P) (w := w) (K := K) (mg := mg) (base := base) T c_has_bit c_status_with
  have c_lone_on := ok_lone_on (P := P) (w := w) (K := K) (mg := mg) (base := base) T c_next_address c_trap_on c_has_bit c_controls_returned
  have c_lone_row := ok_lone_row (P := P) (w := w) (K := K) (mg := mg) (base := base) T c_lone_on
  have c_reads_by_form := ok_reads_by_form (P := P) (w := w) (K := K) (mg := mg) (base := base) T
  have c_two_words := ok_two_words (P := P) (w := w) (K := K) (mg := mg) (base := base) T c_want_word
  have c_plus := ok_plus (P := P) (w := w) (K := K) (mg := mg) (base := base) T c_two_words
  have c_minus := ok_minus (P := P) (w := w) (K := K) (mg := mg) (base := base) T c_two_words
  have c_times := ok_times (P := P) (w := w) (K := K) (mg := mg) (base := base) T c_two_words
  have c_over := ok_over (P := P) (w := w) (K := K) (mg := mg) (base := base) T c_two_words
  have c_both := ok_both (P := P) (w := w) (K := K) (mg := mg) (base := base) T c_two_words
  have c_either := ok_either (P := P) (w := w) (K := K) (mg := mg) (base := base) T c_two_words
  have c_unlike := ok_unlike (P := P) (w := w) (K := K) (mg := mg) (base := base) T c_two_words
  have c_shifted_up := ok_shifted_up (P := P) (w := w) (K := K) (mg := mg) (base := base) T c_want_word c_want_many
  have c_shifted_down := ok_shifted_down (P := P) (w := w) (K := K) (mg := mg) (base := base) T c_want_word c_want_many
  have c_worth_by_name := ok_worth_by_name (P := P) (w := w) (K := K) (mg := mg) (base := base) T c_plus c_minus c_times c_over c_both c_either c_unlike c_shifted_up c_shifted_down
  have c_number_as_word := ok_number_as_word (P := P) (w := w) (K := K) (mg := mg) (base := base) T
  have c_sum_worth := ok_sum_worth (P := P) (w := w) (K := K) (mg := mg) (base := base) T c_worth_by_name c_number_as_word
  have c_worked_out := ok_worked_out (P := P) (w := w) (K := K) (mg := mg) (base := base) T c_sum_worth c_next_address c_reached_address
  have c_register_written := ok_register_written (P := P) (w := w) (K := K) (mg := mg) (base := base) T
  have c_is_instruction_value := ok_is_instruction_value (P := P) (w := w) (K := K) (mg := mg) (base := base) T c_is_count c_is_integer
  have c_want_instruction := ok_want_instruction (P := P) (w := w) (K := K) (mg := mg) (base := base) T c_is_instruction_value
  have c_writes_of := ok_writes_of (P := P) (w := w) (K := K) (mg := mg) (base := base) T c_register_written c_want_instruction
  have c_plain_row := ok_plain_row (P := P) (w := w) (K := K) (mg := mg) (base := base) T c_reads_by_form c_worked_out c_trap_on c_trap_row c_writes_of
  have c_number_by_name := ok_number_by_name (P := P) (w := w) (K := K) (mg := mg) (base := base) T
  have c_instruction_as_word := ok_instruction_as_word (P := P) (w := w) (K := K) (mg := mg) (base := base) T c_number_by_name
  have c_word_as_instruction := ok_word_as_instruction (P := P) (w := w) (K := K) (mg := mg) (base := base) T c_instruction_as_word c_is_instruction_value
  have c_sort_by_name := ok_sort_by_name (P := P) (w := w) (K := K) (mg := mg) (base := base) T
  have c_sort_of := ok_sort_of (P := P) (w := w) (K := K) (mg := mg) (base := base) T c_sort_by_name c_want_instruction
  have c_fetched_row := ok_fetched_row (P := P) (w := w) (K := K) (mg := mg) (base := base) T c_load_row c_store_row c_lone_row c_plain_row c_looked_up c_trap_on c_trap_row c_word_as_instruction c_sort_of
  have c_Devices_counted := ok_Devices_counted (P := P) (w := w) (K := K) (mg := mg) (base := base) T
  have c_done_step := ok_done_step (P := P) (w := w) (K := K) (mg := mg) (base := base) T c_interrupt_row c_fetched_row c_Devices_counted
  have c_steps := ok_steps (P := P) (w := w) (K := K) (mg := mg) (base := base) T c_want_state c_want_many c_want_raised c_Devices_raised c_done_step
  have c_want_inputs := ok_want_inputs (P := P) (w := w) (K := K) (mg := mg) (base := base) T c_is_word c_is_list
  have c_Devices := ok_Devices_init (P := P) (w := w) (K := K) (mg := mg) (base := base) T c_want_inputs
  have c_Memory := ok_Memory_init (P := P) (w := w) (K := K) (mg := mg) (base := base) T
  have c_Memory_copy := ok_Memory_copy (P := P) (w := w) (K := K) (mg := mg) (base := base) T c_Memory
  have c_controls_at_first := ok_controls_at_first (P := P) (w := w) (K := K) (mg := mg) (base := base) T
  have c_State := ok_State_init (P := P) (w := w) (K := K) (mg := mg) (base := base) T c_Devices c_Memory_copy c_controls_at_first
  have c_is_memory_part := ok_is_memory_part (P := P) (w := w) (K := K) (mg := mg) (base := base) T c_is_list c_is_memory_place c_is_word
  have c_are_parts := ok_are_parts (P := P) (w := w) (K := K) (mg := mg) (base := base) T c_is_memory_part c_is_list
  have c_memory_of := ok_memory_of (P := P) (w := w) (K := K) (mg := mg) (base := base) T c_are_parts c_Memory
  have c_law_ran := ok_law_ran (P := P) (w := w) (K := K) (mg := mg) (base := base) T c_law_word c_law_instruction c_steps c_State c_memory_of
  have c_law_pick := ok_law_pick (P := P) (w := w) (K := K) (mg := mg) (base := base) T c_law_draw
  have c_law_row := ok_law_row (P := P) (w := w) (K := K) (mg := mg) (base := base) T c_law_draw c_law_word c_law_instruction c_law_pick
  have c_law_said := ok_law_said (P := P) (w := w) (K := K) (mg := mg) (base := base) T c_law_names
  have c_law_listed := ok_law_listed (P := P) (w := w) (K := K) (mg := mg) (base := base) T c_law_names c_law_said
  have c_law_due := ok_law_due (P := P) (w := w) (K := K) (mg := mg) (base := base) T c_law_listed
  have c_is_register := ok_is_register (P := P) (w := w) (K := K) (mg := mg) (base := base) T c_is_count
  have c_is_place := ok_is_place (P := P) (w := w) (K := K) (mg := mg) (base := base) T c_is_count
  have c_is_address := ok_is_address (P := P) (w := w) (K := K) (mg := mg) (base := base) T c_is_count
  have c_is_pair := ok_is_pair (P := P) (w := w) (K := K) (mg := mg) (base := base) T c_is_register c_is_word c_is_place
  have c_is_row_value := ok_is_row_value (P := P) (w := w) (K := K) (mg := mg) (base := base) T c_is_register c_is_word c_is_place c_is_count c_is_address c_is_pair
  have c_listing_text := ok_listing_text (P := P) (w := w) (K := K) (mg := mg) (base := base) T
  have c_traced_word := ok_traced_word (P := P) (w := w) (K := K) (mg := mg) (base := base) T c_word_as_instruction c_listing_text
  have c_traced_row := ok_traced_row (P := P) (w := w) (K := K) (mg := mg) (base := base) T c_traced_word
  have ck_traced := okk_traced (P := P) (w := w) (K := K) (mg := mg) (base := base) T c_is_row_value c_traced_row
  have ck_trace := okk_trace (P := P) (w := w) (K := K) (mg := mg) (base := base) T c_is_row_value c_is_list c_traced_row
  have c_law_bent := ok_law_bent (P := P) (w := w) (K := K) (mg := mg) (base := base) T c_law_draw c_law_pick
  have c_law_is_below := ok_law_is_below (P := P) (w := w) (K := K) (mg := mg) (base := base) T
  have c_law_is_row := ok_law_is_row (P := P) (w := w) (K := K) (mg := mg) (base := base) T c_law_is_below
  have ck_is_row := okk_is_row (P := P) (w := w) (K := K) (mg := mg) (base := base) T c_is_row_value
  exact ⟨c_law_pot, c_law_ran, c_law_row, c_law_due, ck_traced, ck_trace, c_law_bent, c_law_is_row, ck_is_row⟩
end
section
variable {X : Cx} {x : Str} {f : Addr} {p pos : Pos} {e : Expr} {te : TE} {tb : V → Hp → VK → Prop}
/-- x(e), the callee's run told of the very state in which it is entered -/
theorem pe_callS (hg : Gl X x) (hm : X.mg x = some (.ref f)) (hk : PySem.W.keepIn X.K (.ref f) = true) (he : PE X e te)
    (go : ∀ (pins : List (Addr × Obj)) (σ : L2.St) (s1 : Shared) (H1 : Hp) (v : V) (u : Value) (Q : VK), Inv X pins σ H1 s1 → RelV v u → tb v H1 Q → codeAny (model X.prog X.w) X.A (.call (.ref f) ⟨[u], []⟩) (CR C8.CX0 X.stack X.prog X.w H1 s1 Q C8.E0) s1)
    (hdb : (x == ("__debug__" : Str)) = false := by decide) (hst : starEach [e] X.env = (false, eval e X.env) :: starEach [] X.env := by rfl) (hpl : (backTo pos (starEach [] X.env)).any (·.1) = false := by rfl) :
    PE X (.Call (.Name x p) [e] [] pos) (tCB (fun xs H Q => ∃ v, xs = [v] ∧ tb v H Q) (tCons te tNil)) := by
  constructor
  intro pins s σ H Q I h
  apply wpAny_Call_Name_kw
  refine ld_glob I hg hm ?_ hdb
  refine PySem.W.callWith_K (h₀ := X.base) I.ok.mod.kin hk (thn ((pa_cons (hs := hst) he pa_nil).run pos pins s σ H _ I h) fun us s1 hz => ?_) hst hpl
  obtain ⟨vs, H1, I1, r, v, rfl, q⟩ := hz
  refine ⟨I1.kIn, ?_⟩
  obtain ⟨u, rfl, rv⟩ := vals1 r
  refine wpAny_call (codeAny_mono (go pins σ s1 H1 v u Q I1 rv q) fun r s' hq => ?_)
  cases r with
  | error e => exact (show False from hq).elim
  | ok fl =>
    cases fl with
    | ret z => exact I1.after hq
    | _ => exact (show False from hq).elim
end
section
variable {P : Program} {w : World} {K : PySem.W.Frag} {mg : Str → Option Value} {base : Heap}
abbrev lawN : List Str := ["_law_script"]
theorem sc_law : FnScope lawN lawN (defScope s_law) := ⟨rfl, rfl, rfl, by decide +kernel, rfl, by decide +kernel, by decide +kernel⟩
/-- what is asked of the pot where the law's hand is called -/
def tRight (P0 : Addr) : V → Hp → VK → Prop := fun v H Q => ∃ p, v = .ref p ∧ Pot H p ∧ (∀ q : Str, LamX.Tabs [(P0, q)] H) ∧ ∀ H', Q (.bl true) H'
theorem law_run (T : Hd K w mg) {c P0 a : Addr} {ns : List Int} {oc : Value} {od : Option Addr} {dV kV doc pm ct : Value} {an : Option Addr} {osl : Array (Option Value)}
    (lk : K.lookup (He.ga K "_law_right") = some ⟨oc, od, .func (PySem.W.fnOf "_law_right" "_law_right" (defArgs s_law_right) (defBody s_law_right) (defScope s_law_right) dV kV doc pm an (.ref c) ct), osl⟩) (hcd : PySem.W.codeIn K (.ref c) "_law_right" = true)
    (hbR : Binds K (PySem.W.fnOf "_law_right" "_law_right" (defArgs s_law_right) (defBody s_law_right) (defScope s_law_right) dV kV doc pm an (.ref c) ct) ["_law_pot_here"] []) (hkR : PySem.W.keepIn K (.ref (He.ga K "_law_right")) = true)
    (TB : LamX.TabB base mg c P0) (s : Shared) (H : Hp) (e0 : Env0 P w K mg base callerA [] s H) (hS : SqL K H a (ns.map V.int)) (hT : H P0 = some (.tbl #[])) :
    codeAny (model P w) callerA (.call (.ref (He.ga K "law")) ⟨[.ref a], []⟩) (CR C8.CX0 [] P w H s (fun v _ => v = .bl true) C8.E0) s := by
  have C : Callees P w K mg base := callees T
  obtain ⟨fdL, FL⟩ := T.f_law
  obtain ⟨oc, od, dV, kV, doc, pm, an, cdv, ct, osl, rfl, lkL, hcdL, _, _⟩ := FL.ex
  have hb : BindsTo s _ ⟨[.ref a], []⟩ [("_law_script", .ref a)] := FunD.bindsA (ps := ["_law_script"]) FL (fun _ _ _ _ _ _ us hl => match us, hl with | [_], _ => rfl) s [.ref a] rfl
  refine LamX.run_ofS (k := 40) (N := lawN) (ps := lawN) (us := [.ref a]) (vs := [.ref a]) lkL hcdL sc_law ⟨rfl, by decide, by decide⟩ e0 hb (.cons rfl .nil) rfl fun hr => ?_
  let X := (cxOf C8.CX0 P w K mg base lawN "law" (defScope s_law) (He.ga K "law") cdv callerA [] s H C8.E0).nox
  have hr : Room 40 X.A := hr
  have d : PSs X (defBody s_law) _ := pss_one (ps_ret (pe_callS (tb := tRight P0) (by rfl) T.g_law_right hkR (C8.pe_c C.pot hr (by decide) (by rfl) (pa_cons (pv 0) (pa_cons pe_int pa_nil))) (fun pins σ s1 H1 v u Q I rv h => by
    obtain ⟨p, rfl, hp, hTs, qq⟩ := h
    have hb : BindsTo s1 _ ⟨[u], []⟩ [("_law_pot_here", u)] := hbR s1 [u] I.kIn rfl
    exact LamX.run_ofS (k := 30) (N := rightN) (ps := ["_law_pot_here"]) (us := [u]) (vs := [.ref p]) lk hcd sc_law_right (hr.mono (by decide)) I.env0 hb (.cons rv .nil) rfl fun hr' => right_run T TB rfl hr' hp hTs qq C.ran C.row C.due C.traced C.trace C.bent C.own C.isrow)))
  refine ⟨_, d.nox, ?_⟩
  refine ⟨_, rfl, _, _, rfl, a, ns, rfl, rfl, hS, fun p H1 hp0 e1 hp1 => ⟨_, rfl, p, rfl, hp1, fun q z hz => ?_, fun _ => rfl⟩⟩
  obtain rfl : z = (P0, q) := List.mem_singleton.mp hz
  exact .nil (e1 _ _ hT)
end
end K97
set_option maxHeartbeats 4000000
/-! The end of the law's row, where the caller's guards are known. -/
namespace K97
open PySem PySem.Spec PyProof.Rows L2
section
variable {P : Program} {w : World} {K : PySem.W.Frag} {mg mb : Str → Option Value}
/-- the script's list, as the heap has it -/
abbrev scrO (vs : List Value) : Obj := { cls := .type "list", data := .seq vs.toArray }
abbrev noTab : Obj := { cls := .none, data := .fields #[] }
/-- from what the run starts: the script, the empty table -/
structure From (K : PySem.W.Frag) (a tab : Addr) (vs : List Value) (ns : List Int) (H : Hp) : Prop where
  emp : H tab = some (.tbl #[])
  scr : SqL K H a (ns.map V.int)
  only : ∀ b o, H b = some o → (b = tab ∧ o = .tbl #[]) ∨ (b = a ∧ K.lookup a = none ∧ o = .frz (scrO vs) (.lst (ns.map V.int)))
theorem from_ex {h : Heap} {a tab : Addr} {vs : List Value} {ns : List Int} (KX : K.In h) (ha : h.get? a = some (scrO vs)) (hi : IntsAre vs ns) (hl : ns.length ≤ sizeLine) (ne : a ≠ tab) : ∃ H, From K a tab vs ns H := by
  cases hk : K.lookup a with
  | some o =>
    have e := (KX a o hk).symm.trans ha
    cases e
    let Hh : Hp := fun b => if b = tab then some (HO.tbl #[]) else none
    have t0 : Hh tab = some (.tbl #[]) := if_pos rfl
    refine ⟨Hh, t0, Or.inr ⟨_, vs.toArray, _, hk, rfl, rfl, rfl, ?_, ?_⟩, fun b o z => Or.inl ?_⟩
    · rw [List.size_toArray, hi.length]; exact hl
    · have := vals_ints hi
      simpa using this
    · by_cases q : b = tab
      · have z := (if_pos q).symm.trans z
        cases z
        exact ⟨q, rfl⟩
      · have z := (if_neg q).symm.trans z
        cases z
  | none =>
    let Hh : Hp := fun b => if b = tab then some (HO.tbl #[]) else if b = a then some (.frz (scrO vs) (.lst (ns.map V.int))) else none
    have t0 : Hh tab = some (.tbl #[]) := if_pos rfl
    have t1 : Hh a = some (.frz (scrO vs) (.lst (ns.map V.int))) := (if_neg ne).trans (if_pos rfl)
    refine ⟨Hh, t0, Or.inl (Or.inr ⟨scrO vs, t1⟩), fun b o z => ?_⟩
    by_cases q : b = tab
    · have z := (if_pos q).symm.trans z
      cases z
      exact .inl ⟨q, rfl⟩
    · have z := (if_neg q).symm.trans z
      by_cases r : b = a
      · have z := (if_pos r).symm.trans z
        cases z
        exact .inr ⟨r, hk, rfl⟩
      · have z := (if_neg r).symm.trans z
        cases z
theorem end_call {fa a cod tab : Addr} {s : Shared} {vs : List Value} {ns : List Int} (KX : K.In s.heap) (gN : s.heap.Ns mainGlobals mg) (bN : s.heap.Ns builtinsNs mb) (bB : ∀ x : Str, x ≠ "__name__" → mb x = bootBuiltins x) (lim : s.heap.NoLimit) (gens : s.gens = #[])
    (tE : s.heap.get? tab = some noTab) (tK : K.lookup tab = none) (cH : PySem.W.CodeHd s.heap cod tab)
    (bM : ∃ (bm : Addr) (ob : Obj), mg "__builtins__" = some (.ref bm) ∧ bm ≠ builtinsNs ∧ s.heap.get? bm = some ob ∧ ob.cls = .type "module" ∧ ob.dict = some builtinsNs ∧ ob.data = .plain)
    (ha : s.heap.get? a = some (scrO vs)) (hi : IntsAre vs ns) (hl : ns.length ≤ sizeLine)
    (go : ∀ (base : Heap) (H : Hp), K.In base → base.Ns mainGlobals mg → LamX.TabB base mg cod tab → Env0 P w K mg base callerA [] s H → SqL K H a (ns.map V.int) → H tab = some (.tbl #[]) →
      codeAny (model P w) callerA (.call (.ref fa) ⟨[.ref a], []⟩) (CR C8.CX0 [] P w H s (fun v _ => v = .bl true) C8.E0) s) :
    codeAny (model P w) callerA (.call (.ref fa) ⟨[.ref a], []⟩) (fun r s' => r = .ok (.ret (.bool true)) ∧ OldK s.heap s'.heap ∧ s'.os = s.os ∧ AllBare s'.gens) s := by
  have ne : a ≠ tab := fun z => by
    rw [z, tE] at ha
    cases ha
  obtain ⟨H, F⟩ := from_ex KX ha hi hl ne
  have hok : HOk P w H s.heap := fun b u z => by
    rcases F.only b u z with ⟨q, r⟩ | ⟨q, _, r⟩
    · rw [q, r]; exact tE
    · rw [q, r]
      exact ⟨ha, by rw [List.length_map]; exact hl, vs, _, vals_ints hi, ha⟩
  -- an object that is neither of the two stays seen
  have see : ∀ {b : Addr} {o : Obj}, s.heap.get? b = some o → (b = tab → False) → (b = a → K.lookup a = none → False) → (hidT s.heap H).get? b = some o := fun {b o} e h1 h2 => by
    refine hidT_get e ?_
    cases q : H b with
    | none => rfl
    | some u =>
      rcases F.only b u q with ⟨r, _⟩ | ⟨r, k, _⟩
      · exact (h1 r).elim
      · exact (h2 r k).elim
  have see2 : ∀ {b : Addr} {o : Obj}, s.heap.get? b = some o → (∀ n, o.data ≠ .seq vs.toArray n) → o.data ≠ .fields #[] → (hidT s.heap H).get? b = some o := fun {b o} e h1 h2 => by
    refine see e (fun z => ?_) fun z _ => ?_
    · rw [z, tE] at e
      cases e
      exact h2 rfl
    · rw [z, ha] at e
      cases e
      exact h1 _ rfl
  have seeN : ∀ {b : Addr} {m : Str → Option Value}, s.heap.Ns b m → (hidT s.heap H).Ns b m := fun {b m} z => by
    obtain ⟨o, es, ep, e, d, r⟩ := z
    refine ⟨o, es, ep, see2 e (fun n => ?_) ?_, d, r⟩ <;> rw [d] <;> intro q <;> cases q
  have KB : K.In (hidT s.heap H) := fun b o e => by
    refine see (KX b o e) (fun z => ?_) fun z k => ?_
    · rw [z, tK] at e; cases e
    · rw [z, k] at e; cases e
  have TB : LamX.TabB (hidT s.heap H) mg cod tab := by
    refine ⟨?_, ?_, fun z => ?_⟩
    · obtain ⟨o, us, file, tf, flags, tg, inF, text, tt, e1, r1, r2, r3, rest⟩ := cH
      refine ⟨o, us, file, tf, flags, tg, inF, text, tt, see2 e1 (fun n q => ?_) fun q => ?_, r1, r2, r3, rest⟩
      · rw [r2] at q; cases q
      · rw [r2] at q; cases q; simp at r3
    · obtain ⟨bm, ob, b1, b2, b3, b4, b5, b6⟩ := bM
      refine ⟨bm, ob, b1, b2, fun q => ?_, fun q => ?_, see2 b3 (fun n z => ?_) fun z => ?_, b4, b5, b6⟩
      · obtain ⟨o, es, ep, e, d, _⟩ := gN
        rw [q, e] at b3
        cases b3
        rw [d] at b6
        cases b6
      · rw [q, tE] at b3
        cases b3
        cases b6
      · rw [b6] at z; cases z
      · rw [b6] at z; cases z
    · obtain ⟨o, es, ep, e, d, _⟩ := gN
      rw [z, tE] at e
      cases e
      cases d
  have M : L2.Mod K mg (hidT s.heap H) := by
    refine ⟨KB, seeN gN, ⟨mb, seeN bN, bB⟩, ?_⟩
    obtain ⟨mc, l1, l2⟩ := lim
    exact ⟨mc, seeN l1, l2⟩
  have e0 : Env0 P w K mg (hidT s.heap H) callerA [] s H := by
    refine ⟨rfl, M, fun b o e => of_hidT e, Nat.le_of_eq (hidT_size _ _), trivial, fun b hb => ?_, hok, .of_eq gens⟩
    have hb : b ∈ ([] : List Addr) := hb
    cases hb
  have run := go _ H KB (seeN gN) TB e0 F.scr F.emp
  refine codeAny_mono run fun r s' h => ?_
  cases r with
  | error e => exact (show False from h).elim
  | ok fl =>
    cases fl with
    | ret u =>
      obtain ⟨v, H', os, bare, un, hok', rv, q⟩ := h
      have q : v = .bl true := q
      rw [q] at rv
      have rv : u = Value.bool true := rv
      have nil : ∀ {b : Addr}, b ∉ frs ([] : List Env) := fun {b} z => by
        have z : b ∈ ([] : List Addr) := z
        cases z
      obtain ⟨more, hm⟩ := un.tbls tab #[] F.emp
      have hm : s'.heap.get? tab = some { cls := .none, data := .fields (#[] ++ more) } := hok' tab _ hm
      have old : ∀ b o, b ≠ tab → s.heap.get? b = some o → s'.heap.get? b = some o := fun b o nb e => by
        cases z : H b with
        | none => exact un.keep b o e z nil (by intro y; cases y)
        | some u2 =>
          rcases F.only b u2 z with ⟨r, _⟩ | ⟨r, _, k⟩
          · exact (nb r).elim
          · rw [k] at z
            have z2 := hok' b _ (un.frzs b _ _ z)
            rw [r, ha] at e
            cases e
            exact z2.1
      refine ⟨by rw [rv], ⟨fun b o e => ?_, fun b o e => ?_⟩, os, bare⟩
      · by_cases hb : b = tab
        · rw [hb] at e ⊢
          rw [tE] at e
          cases e
          exact .inr (.inl ⟨(cH.tab tE).isCodeTable, rfl, #[], more, rfl, hm⟩)
        · exact .inl (old b o hb e)
      · by_cases hb : b = tab
        · rw [hb]
          exact ⟨_, hm⟩
        · exact ⟨o, old b o hb e⟩
    | _ => exact (show False from h).elim
end
end K97
set_option maxHeartbeats 4000000
/-! What the head tells; the law's walk from there. -/
namespace K97
open PySem PySem.Spec PyProof.Rows L2
theorem at_fn {i : Nat} {d : He.DefD} (h : fn[i]? = some d) : d ∈ fn := List.mem_of_getElem? h
theorem told_hd {w : World} {h : Heap} {K : PySem.W.Frag} {mg : Str → Option Value} (KX : K.In h) (G : h.Ns mainGlobals mg) (c : Told2 w h K) : Hd K w mg where
  fact := fun i f e => List.all_eq_true.mp c.f f (List.mem_of_getElem? e)
  defs := fun i d e => by
    have e1 : (fn.map fun d => He.fnW K d.at_)[i]? = (fn.map He.DefD.val)[i]? := congrArg (fun l : List He.FnW => l[i]?) c.v
    rw [List.getElem?_map, List.getElem?_map, e] at e1
    exact He.DefD.funD (Option.some.inj e1) (List.all_eq_true.mp c.d d (at_fn e))
  tab := fun i t e => by
    have e1 : (ts.map fun t => He.dicW K (t.1 K))[i]? = (ts.map fun t => some (He.keysIn w.params t.2))[i]? := congrArg (fun l : List (Option (List (Option (Str × Int)))) => l[i]?) c.t
    rw [List.getElem?_map, List.getElem?_map, e] at e1
    exact Option.some.inj e1
  more := fun i b e => List.all_eq_true.mp (show (exs.all fun b => b K) = true from c.x) b (List.mem_of_getElem? e)
  glo := fun x e => He.glo_ok KX G e
  free := fun x e => He.free_ok KX G e
  int := fun x i e => He.int_ok KX G e
/-- the law's walk -/
theorem law_walk {q : Program} {loose : List Str} {XP : (Str → Option Value) → Heap → Prop} {d : DefRec} (hdf : d.params.defaults = []) (hnm : d.name = ("law" : Str)) :
    PySem.W.WalkO q loose XP hk.says R.toRowW d [] (fun f vs => PySem.call f vs) := by
  refine Att.attach_callB (l := PySem.Challenge.rw_orderlycore_k97_whole_rows_traced) (n := 63) rfl hdf fun w s0 s1 mg mb fl o pm cd doc a vs ns G Y ho hd hcd hmg hobj hints hlen hbits hg => ?_
  obtain ⟨K, KX, c⟩ := Y
  have T := told_hd KX G.T.g c
  rw [hnm] at hmg
  have e : fl = He.ga K "law" := by
    have z := hmg.symm.trans T.g_law
    cases z
    rfl
  subst e
  obtain ⟨fd, F⟩ := T.f_law_right
  have hbR : Binds K fd ["_law_pot_here"] [] := F.bindsN fun _ _ _ _ _ _ us hl => match us, hl with | [_], _ => rfl
  have hkR := F.kp
  obtain ⟨oc, od, dV, kV, doc2, pm2, an, cdv, ct, osl, rfl, lk, hcdR, _, _⟩ := F.ex
  obtain ⟨cc, rfl⟩ := He.codeIn_ref hcdR
  have ec : He.codeOf K ("_law_right", none) = cc := He.codeOf_eq (p := ("_law_right", none)) lk rfl
  have e1 : (He.cT K ("_law_right", none)).1 = cc := ec
  have CH := PySem.W.codeHd_of_K KX c.code
  rw [e1] at CH
  exact end_call KX G.T.g G.T.b G.T.builtins G.T.nolimit hg c.emp c.out CH G.T.bmain hobj hints (Nat.le_trans hlen (by decide)) fun base H KB NB TB e0 hS hT => law_run T lk hcdR hbR hkR TB _ H e0 hS hT
end K97
set_option maxHeartbeats 0
/-! The law holds. -/
open PySem PySem.W PySem.Calls PyProof.Rows
theorem PySem.Challenge.cw_orderlycore_k97_whole_rows_traced_holds : PySem.Challenge.rw_orderlycore_k97_whole_rows_traced.Holds := by
  w_on; o_law
  refine HandSHeadRun.head_any (r := K97.R) (q := K97.qv) (H := K97.hk) (ob := K97.ob) (M := 12000) (loose := K97.names) (d := HandSHeadRun.topDef K97.R.prog 187) (kwd := []) K97.ob_eq
    (by kernel_rfl) (fun s => by kernel_rfl) K97.run_all ?h1 ?h2 ?h3 ?h4 ?h5 ?h6 ?h7 ?hw ?hc
  case h1 => kernel_rfl
  case h2 => kernel_rfl
  case h3 => kernel_rfl
  case h4 => rfl
  case h5 => first | assumption | decide +kernel
  case h6 => decide +kernel
  case h7 => exact ⟨rfl, rfl, rfl, rfl, rfl, by decide +kernel⟩
  case hw => w_witness2
  case hc => exact K97.law_walk (by kernel_rfl) (by kernel_rfl)
