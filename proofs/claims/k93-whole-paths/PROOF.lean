import PyProof.Rows.All
import Wide.All
import OpenK.AllK
import Wide.FinOn
import KE.KStateDown
import Lean
import HandS.ForMost
import HandS.Defaults
import HandS.Property
import HandS.Head0
import HandS.Head1
import HandS.Head2
import HandS.HeadEnd
import HandS.HeadHook1
import HandS.HeadHook2
import HandS.Style
import HandS.Rev
import HandS.RevRange
import HandS.Wide
import HandS.Flow
import HandS.Conv
import HandS.Steps
import HandS.IsInst
import HandS.Zip
import HandS.Walk
import KE.SortData
import KE.DataMinMax
import HandS.GenList
import HandS.ExcOwn
import PySem.Challenge.RW_nearestword_k93_whole_paths
set_option Elab.async false
set_option linter.all false
set_option maxRecDepth 100000
set_option maxHeartbeats 0
namespace NW
open PySem PySem.Spec PyProof.Rows L2
def top (i : Nat) : Stmt := PySem.Challenge.pw_nearestword_k93_whole_paths.main.body.getD i (.Pass ⟨0, 0, 0, 0⟩)
abbrev s_int_power : Stmt := top 13
abbrev s_is_prime : Stmt := top 14
abbrev s_base_digits : Stmt := top 15
abbrev s_is_irreducible : Stmt := top 17
abbrev s_is_modulus : Stmt := top 18
abbrev s_Field___init__ : Stmt := inClass (top 19) 0
abbrev s_Field_digits : Stmt := inClass (top 19) 1
abbrev s_Field_element : Stmt := inClass (top 19) 2
abbrev s_Field_plus : Stmt := inClass (top 19) 4
abbrev s_Field_negative : Stmt := inClass (top 19) 5
abbrev s_Field_minus : Stmt := inClass (top 19) 6
abbrev s_Field_times : Stmt := inClass (top 19) 7
abbrev s_Field_inverse : Stmt := inClass (top 19) 8
abbrev s_check_width : Stmt := top 21
abbrev s_row_with_pivot : Stmt := top 22
abbrev s_without_multiple : Stmt := top 23
abbrev s_reduce_rows : Stmt := top 24
abbrev s_kernel : Stmt := top 25
abbrev s_check_lengths : Stmt := top 27
abbrev s_erased_positions : Stmt := top 28
abbrev s_errors_beside : Stmt := top 29
abbrev s_is_word : Stmt := top 30
abbrev s_is_received : Stmt := top 31
abbrev s_zero_word : Stmt := top 32
abbrev s_check_words : Stmt := top 33
abbrev s_add_words : Stmt := top 34
abbrev s_scale_word : Stmt := top 35
abbrev s_check_rows : Stmt := top 39
abbrev s_LinearCode___init__ : Stmt := inClass (top 40) 0
abbrev s_LinearCode_words : Stmt := inClass (top 40) 10
abbrev s_is_bit : Stmt := top 42
abbrev s_has_bits_only : Stmt := top 43
abbrev s_checked_taps : Stmt := top 44
abbrev s_message_size : Stmt := top 45
abbrev s_step_table : Stmt := top 46
abbrev s_Encoder___init__ : Stmt := inClass (top 47) 0
abbrev s_Encoder_advance : Stmt := inClass (top 47) 1
abbrev s_Encoder__fed : Stmt := inClass (top 47) 2
abbrev s_Encoder_word_for : Stmt := inClass (top 47) 3
abbrev s_Encoder_linear : Stmt := inClass (top 47) 8
abbrev s_received_steps : Stmt := top 49
abbrev s_Trellis___init__ : Stmt := inClass (top 50) 0
abbrev s_Trellis_moves_from : Stmt := inClass (top 50) 1
abbrev s_Trellis_costs_table : Stmt := inClass (top 50) 2
abbrev s_Trellis_best_moves : Stmt := inClass (top 50) 3
abbrev s_costs_to_go : Stmt := top 51
abbrev s_best_path : Stmt := top 52
abbrev s_nearest_messages : Stmt := top 53
abbrev s_is_bound : Stmt := top 54
abbrev s_check_path : Stmt := top 55
abbrev s_weighted_steps : Stmt := top 57
abbrev s_ranks_to_zero : Stmt := top 58
abbrev s_weights_to_zero : Stmt := top 59
abbrev s_free_distance : Stmt := top 60
abbrev s_check_received : Stmt := top 62
abbrev s_nearest : Stmt := top 63
abbrev s_common_start : Stmt := top 65
abbrev s_Summary___init__ : Stmt := inClass (top 66) 0
abbrev s_Summary_grown : Stmt := inClass (top 66) 1
abbrev s_merged : Stmt := top 67
abbrev s_PathDecoder___init__ : Stmt := inClass (top 68) 0
abbrev s_PathDecoder_restart : Stmt := inClass (top 68) 1
abbrev s_PathDecoder_take : Stmt := inClass (top 68) 2
abbrev s_PathDecoder_answer : Stmt := inClass (top 68) 5
abbrev s__law_row : Stmt := top 70
abbrev s__law_numbers : Stmt := top 71
abbrev s__law_same : Stmt := top 72
abbrev s__law_taps : Stmt := top 73
abbrev s__law_count : Stmt := top 74
abbrev s__law_step : Stmt := top 75
abbrev s__law_word : Stmt := top 76
abbrev s__law_messages : Stmt := top 77
abbrev s__law_differ : Stmt := top 78
abbrev s__law_received : Stmt := top 79
abbrev s__law_nearest : Stmt := top 80
abbrev s__law_free : Stmt := top 81
abbrev s__law_decoded : Stmt := top 82
abbrev s__law_small : Stmt := top 83
abbrev s__law_pattern : Stmt := top 84
abbrev s_law : Stmt := top 85
abbrev s_PathDecoder_settled : Stmt := inClass (top 68) 4
end NW
namespace NH
open PySem PySem.Spec PyProof.Rows L2 NW
def d_int_power : He.DefD := ⟨("int_power", none), "int_power", "int_power", defArgs s_int_power, defBody s_int_power, defScope s_int_power, [], []⟩
def d_is_prime : He.DefD := ⟨("is_prime", none), "is_prime", "is_prime", defArgs s_is_prime, defBody s_is_prime, defScope s_is_prime, [], []⟩
def d_base_digits : He.DefD := ⟨("base_digits", none), "base_digits", "base_digits", defArgs s_base_digits, defBody s_base_digits, defScope s_base_digits, [], []⟩
def d_is_irreducible : He.DefD := ⟨("is_irreducible", none), "is_irreducible", "is_irreducible", defArgs s_is_irreducible, defBody s_is_irreducible, defScope s_is_irreducible, [], []⟩
def d_is_modulus : He.DefD := ⟨("is_modulus", none), "is_modulus", "is_modulus", defArgs s_is_modulus, defBody s_is_modulus, defScope s_is_modulus, [], []⟩
def d_Field___init__ : He.DefD := ⟨("Field", some "__init__"), "__init__", "Field.__init__", defArgs s_Field___init__, defBody s_Field___init__, defScope s_Field___init__, [.adr (He.dflAt ("Field", some "__init__") 0)], []⟩
def d_Field_digits : He.DefD := ⟨("Field", some "digits"), "digits", "Field.digits", defArgs s_Field_digits, defBody s_Field_digits, defScope s_Field_digits, [], []⟩
def d_Field_element : He.DefD := ⟨("Field", some "element"), "element", "Field.element", defArgs s_Field_element, defBody s_Field_element, defScope s_Field_element, [], []⟩
def d_Field_plus : He.DefD := ⟨("Field", some "plus"), "plus", "Field.plus", defArgs s_Field_plus, defBody s_Field_plus, defScope s_Field_plus, [], []⟩
def d_Field_negative : He.DefD := ⟨("Field", some "negative"), "negative", "Field.negative", defArgs s_Field_negative, defBody s_Field_negative, defScope s_Field_negative, [], []⟩
def d_Field_minus : He.DefD := ⟨("Field", some "minus"), "minus", "Field.minus", defArgs s_Field_minus, defBody s_Field_minus, defScope s_Field_minus, [], []⟩
def d_Field_times : He.DefD := ⟨("Field", some "times"), "times", "Field.times", defArgs s_Field_times, defBody s_Field_times, defScope s_Field_times, [], []⟩
def d_Field_inverse : He.DefD := ⟨("Field", some "inverse"), "inverse", "Field.inverse", defArgs s_Field_inverse, defBody s_Field_inverse, defScope s_Field_inverse, [], []⟩
def d_check_width : He.DefD := ⟨("check_width", none), "check_width", "check_width", defArgs s_check_width, defBody s_check_width, defScope s_check_width, [], []⟩
def d_row_with_pivot : He.DefD := ⟨("row_with_pivot", none), "row_with_pivot", "row_with_pivot", defArgs s_row_with_pivot, defBody s_row_with_pivot, defScope s_row_with_pivot, [], []⟩
def d_without_multiple : He.DefD := ⟨("without_multiple", none), "without_multiple", "without_multiple", defArgs s_without_multiple, defBody s_without_multiple, defScope s_without_multiple, [], []⟩
def d_reduce_rows : He.DefD := ⟨("reduce_rows", none), "reduce_rows", "reduce_rows", defArgs s_reduce_rows, defBody s_reduce_rows, defScope s_reduce_rows, [], []⟩
def d_kernel : He.DefD := ⟨("kernel", none), "kernel", "kernel", defArgs s_kernel, defBody s_kernel, defScope s_kernel, [], []⟩
def d_check_lengths : He.DefD := ⟨("check_lengths", none), "check_lengths", "check_lengths", defArgs s_check_lengths, defBody s_check_lengths, defScope s_check_lengths, [], []⟩
def d_erased_positions : He.DefD := ⟨("erased_positions", none), "erased_positions", "erased_positions", defArgs s_erased_positions, defBody s_erased_positions, defScope s_erased_positions, [], []⟩
def d_errors_beside : He.DefD := ⟨("errors_beside", none), "errors_beside", "errors_beside", defArgs s_errors_beside, defBody s_errors_beside, defScope s_errors_beside, [], []⟩
def d_is_word : He.DefD := ⟨("is_word", none), "is_word", "is_word", defArgs s_is_word, defBody s_is_word, defScope s_is_word, [], []⟩
def d_is_received : He.DefD := ⟨("is_received", none), "is_received", "is_received", defArgs s_is_received, defBody s_is_received, defScope s_is_received, [], []⟩
def d_zero_word : He.DefD := ⟨("zero_word", none), "zero_word", "zero_word", defArgs s_zero_word, defBody s_zero_word, defScope s_zero_word, [], []⟩
def d_check_words : He.DefD := ⟨("check_words", none), "check_words", "check_words", defArgs s_check_words, defBody s_check_words, defScope s_check_words, [], []⟩
def d_add_words : He.DefD := ⟨("add_words", none), "add_words", "add_words", defArgs s_add_words, defBody s_add_words, defScope s_add_words, [], []⟩
def d_scale_word : He.DefD := ⟨("scale_word", none), "scale_word", "scale_word", defArgs s_scale_word, defBody s_scale_word, defScope s_scale_word, [], []⟩
def d_check_rows : He.DefD := ⟨("check_rows", none), "check_rows", "check_rows", defArgs s_check_rows, defBody s_check_rows, defScope s_check_rows, [], []⟩
def d_LinearCode___init__ : He.DefD := ⟨("LinearCode", some "__init__"), "__init__", "LinearCode.__init__", defArgs s_LinearCode___init__, defBody s_LinearCode___init__, defScope s_LinearCode___init__, [], []⟩
def d_LinearCode_words : He.DefD := ⟨("LinearCode", some "words"), "words", "LinearCode.words", defArgs s_LinearCode_words, defBody s_LinearCode_words, defScope s_LinearCode_words, [], []⟩
def d_is_bit : He.DefD := ⟨("is_bit", none), "is_bit", "is_bit", defArgs s_is_bit, defBody s_is_bit, defScope s_is_bit, [], []⟩
def d_has_bits_only : He.DefD := ⟨("has_bits_only", none), "has_bits_only", "has_bits_only", defArgs s_has_bits_only, defBody s_has_bits_only, defScope s_has_bits_only, [], []⟩
def d_checked_taps : He.DefD := ⟨("checked_taps", none), "checked_taps", "checked_taps", defArgs s_checked_taps, defBody s_checked_taps, defScope s_checked_taps, [], []⟩
def d_message_size : He.DefD := ⟨("message_size", none), "message_size", "message_size", defArgs s_message_size, defBody s_message_size, defScope s_message_size, [], []⟩
def d_step_table : He.DefD := ⟨("step_table", none), "step_table", "step_table", defArgs s_step_table, defBody s_step_table, defScope s_step_table, [], []⟩
def d_Encoder___init__ : He.DefD := ⟨("Encoder", some "__init__"), "__init__", "Encoder.__init__", defArgs s_Encoder___init__, defBody s_Encoder___init__, defScope s_Encoder___init__, [], []⟩
def d_Encoder_advance : He.DefD := ⟨("Encoder", some "advance"), "advance", "Encoder.advance", defArgs s_Encoder_advance, defBody s_Encoder_advance, defScope s_Encoder_advance, [], []⟩
def d_Encoder__fed : He.DefD := ⟨("Encoder", some "_fed"), "_fed", "Encoder._fed", defArgs s_Encoder__fed, defBody s_Encoder__fed, defScope s_Encoder__fed, [], []⟩
def d_Encoder_word_for : He.DefD := ⟨("Encoder", some "word_for"), "word_for", "Encoder.word_for", defArgs s_Encoder_word_for, defBody s_Encoder_word_for, defScope s_Encoder_word_for, [], []⟩
def d_Encoder_linear : He.DefD := ⟨("Encoder", some "linear"), "linear", "Encoder.linear", defArgs s_Encoder_linear, defBody s_Encoder_linear, defScope s_Encoder_linear, [], []⟩
def d_received_steps : He.DefD := ⟨("received_steps", none), "received_steps", "received_steps", defArgs s_received_steps, defBody s_received_steps, defScope s_received_steps, [], []⟩
def d_Trellis___init__ : He.DefD := ⟨("Trellis", some "__init__"), "__init__", "Trellis.__init__", defArgs s_Trellis___init__, defBody s_Trellis___init__, defScope s_Trellis___init__, [], []⟩
def d_Trellis_moves_from : He.DefD := ⟨("Trellis", some "moves_from"), "moves_from", "Trellis.moves_from", defArgs s_Trellis_moves_from, defBody s_Trellis_moves_from, defScope s_Trellis_moves_from, [], []⟩
def d_Trellis_costs_table : He.DefD := ⟨("Trellis", some "costs_table"), "costs_table", "Trellis.costs_table", defArgs s_Trellis_costs_table, defBody s_Trellis_costs_table, defScope s_Trellis_costs_table, [], []⟩
def d_Trellis_best_moves : He.DefD := ⟨("Trellis", some "best_moves"), "best_moves", "Trellis.best_moves", defArgs s_Trellis_best_moves, defBody s_Trellis_best_moves, defScope s_Trellis_best_moves, [], []⟩
def d_costs_to_go : He.DefD := ⟨("costs_to_go", none), "costs_to_go", "costs_to_go", defArgs s_costs_to_go, defBody s_costs_to_go, defScope s_costs_to_go, [], []⟩
def d_best_path : He.DefD := ⟨("best_path", none), "best_path", "best_path", defArgs s_best_path, defBody s_best_path, defScope s_best_path, [], []⟩
def d_nearest_messages : He.DefD := ⟨("nearest_messages", none), "nearest_messages", "nearest_messages", defArgs s_nearest_messages, defBody s_nearest_messages, defScope s_nearest_messages, [], []⟩
def d_is_bound : He.DefD := ⟨("is_bound", none), "is_bound", "is_bound", defArgs s_is_bound, defBody s_is_bound, defScope s_is_bound, [], []⟩
def d_check_path : He.DefD := ⟨("check_path", none), "check_path", "check_path", defArgs s_check_path, defBody s_check_path, defScope s_check_path, [], []⟩
def d_weighted_steps : He.DefD := ⟨("weighted_steps", none), "weighted_steps", "weighted_steps", defArgs s_weighted_steps, defBody s_weighted_steps, defScope s_weighted_steps, [], []⟩
def d_ranks_to_zero : He.DefD := ⟨("ranks_to_zero", none), "ranks_to_zero", "ranks_to_zero", defArgs s_ranks_to_zero, defBody s_ranks_to_zero, defScope s_ranks_to_zero, [], []⟩
def d_weights_to_zero : He.DefD := ⟨("weights_to_zero", none), "weights_to_zero", "weights_to_zero", defArgs s_weights_to_zero, defBody s_weights_to_zero, defScope s_weights_to_zero, [], []⟩
def d_free_distance : He.DefD := ⟨("free_distance", none), "free_distance", "free_distance", defArgs s_free_distance, defBody s_free_distance, defScope s_free_distance, [], []⟩
def d_check_received : He.DefD := ⟨("check_received", none), "check_received", "check_received", defArgs s_check_received, defBody s_check_received, defScope s_check_received, [], []⟩
def d_nearest : He.DefD := ⟨("nearest", none), "nearest", "nearest", defArgs s_nearest, defBody s_nearest, defScope s_nearest, [], []⟩
def d_common_start : He.DefD := ⟨("common_start", none), "common_start", "common_start", defArgs s_common_start, defBody s_common_start, defScope s_common_start, [], []⟩
def d_Summary___init__ : He.DefD := ⟨("Summary", some "__init__"), "__init__", "Summary.__init__", defArgs s_Summary___init__, defBody s_Summary___init__, defScope s_Summary___init__, [], []⟩
def d_Summary_grown : He.DefD := ⟨("Summary", some "grown"), "grown", "Summary.grown", defArgs s_Summary_grown, defBody s_Summary_grown, defScope s_Summary_grown, [], []⟩
def d_merged : He.DefD := ⟨("merged", none), "merged", "merged", defArgs s_merged, defBody s_merged, defScope s_merged, [], []⟩
def d_PathDecoder___init__ : He.DefD := ⟨("PathDecoder", some "__init__"), "__init__", "PathDecoder.__init__", defArgs s_PathDecoder___init__, defBody s_PathDecoder___init__, defScope s_PathDecoder___init__, [], []⟩
def d_PathDecoder_restart : He.DefD := ⟨("PathDecoder", some "restart"), "restart", "PathDecoder.restart", defArgs s_PathDecoder_restart, defBody s_PathDecoder_restart, defScope s_PathDecoder_restart, [], []⟩
def d_PathDecoder_take : He.DefD := ⟨("PathDecoder", some "take"), "take", "PathDecoder.take", defArgs s_PathDecoder_take, defBody s_PathDecoder_take, defScope s_PathDecoder_take, [], []⟩
def d_PathDecoder_answer : He.DefD := ⟨("PathDecoder", some "answer"), "answer", "PathDecoder.answer", defArgs s_PathDecoder_answer, defBody s_PathDecoder_answer, defScope s_PathDecoder_answer, [], []⟩
def d__law_row : He.DefD := ⟨("_law_row", none), "_law_row", "_law_row", defArgs s__law_row, defBody s__law_row, defScope s__law_row, [], []⟩
def d__law_numbers : He.DefD := ⟨("_law_numbers", none), "_law_numbers", "_law_numbers", defArgs s__law_numbers, defBody s__law_numbers, defScope s__law_numbers, [], []⟩
def d__law_same : He.DefD := ⟨("_law_same", none), "_law_same", "_law_same", defArgs s__law_same, defBody s__law_same, defScope s__law_same, [], []⟩
def d__law_taps : He.DefD := ⟨("_law_taps", none), "_law_taps", "_law_taps", defArgs s__law_taps, defBody s__law_taps, defScope s__law_taps, [], []⟩
def d__law_count : He.DefD := ⟨("_law_count", none), "_law_count", "_law_count", defArgs s__law_count, defBody s__law_count, defScope s__law_count, [], []⟩
def d__law_step : He.DefD := ⟨("_law_step", none), "_law_step", "_law_step", defArgs s__law_step, defBody s__law_step, defScope s__law_step, [], []⟩
def d__law_word : He.DefD := ⟨("_law_word", none), "_law_word", "_law_word", defArgs s__law_word, defBody s__law_word, defScope s__law_word, [], []⟩
def d__law_messages : He.DefD := ⟨("_law_messages", none), "_law_messages", "_law_messages", defArgs s__law_messages, defBody s__law_messages, defScope s__law_messages, [], []⟩
def d__law_differ : He.DefD := ⟨("_law_differ", none), "_law_differ", "_law_differ", defArgs s__law_differ, defBody s__law_differ, defScope s__law_differ, [], []⟩
def d__law_received : He.DefD := ⟨("_law_received", none), "_law_received", "_law_received", defArgs s__law_received, defBody s__law_received, defScope s__law_received, [], []⟩
def d__law_nearest : He.DefD := ⟨("_law_nearest", none), "_law_nearest", "_law_nearest", defArgs s__law_nearest, defBody s__law_nearest, defScope s__law_nearest, [], []⟩
def d__law_free : He.DefD := ⟨("_law_free", none), "_law_free", "_law_free", defArgs s__law_free, defBody s__law_free, defScope s__law_free, [], []⟩
def d__law_decoded : He.DefD := ⟨("_law_decoded", none), "_law_decoded", "_law_decoded", defArgs s__law_decoded, defBody s__law_decoded, defScope s__law_decoded, [], []⟩
def d__law_small : He.DefD := ⟨("_law_small", none), "_law_small", "_law_small", defArgs s__law_small, defBody s__law_small, defScope s__law_small, [], []⟩
def d__law_pattern : He.DefD := ⟨("_law_pattern", none), "_law_pattern", "_law_pattern", defArgs s__law_pattern, defBody s__law_pattern, defScope s__law_pattern, [], []⟩
def d_law : He.DefD := ⟨("law", none), "law", "law", defArgs s_law, defBody s_law, defScope s_law, [], []⟩
def fn0 : List He.DefD := [d_int_power, d_is_prime, d_base_digits, d_is_irreducible, d_is_modulus, d_Field___init__, d_Field_digits, d_Field_element, d_Field_plus, d_Field_negative, d_Field_minus, d_Field_times, d_Field_inverse, d_check_width, d_row_with_pivot, d_without_multiple, d_reduce_rows, d_kernel, d_check_lengths, d_erased_positions]
def fn1 : List He.DefD := [d_errors_beside, d_is_word, d_is_received, d_zero_word, d_check_words, d_add_words, d_scale_word, d_check_rows, d_LinearCode___init__, d_LinearCode_words, d_is_bit, d_has_bits_only, d_checked_taps, d_message_size, d_step_table, d_Encoder___init__, d_Encoder_advance, d_Encoder__fed, d_Encoder_word_for, d_Encoder_linear]
def fn2 : List He.DefD := [d_received_steps, d_Trellis___init__, d_Trellis_moves_from, d_Trellis_costs_table, d_Trellis_best_moves, d_costs_to_go, d_best_path, d_nearest_messages, d_is_bound, d_check_path, d_weighted_steps, d_ranks_to_zero, d_weights_to_zero, d_free_distance, d_check_received, d_nearest, d_common_start, d_Summary___init__, d_Summary_grown, d_merged]
def fn3 : List He.DefD := [d_PathDecoder___init__, d_PathDecoder_restart, d_PathDecoder_take, d_PathDecoder_answer, d__law_row, d__law_numbers, d__law_same, d__law_taps, d__law_count, d__law_step, d__law_word, d__law_messages, d__law_differ, d__law_received, d__law_nearest, d__law_free, d__law_decoded, d__law_small, d__law_pattern, d_law]
def fn : List He.DefD := fn0 ++ fn1 ++ fn2 ++ fn3
def fa0 : List He.Fa := [.glo "int_power", .glo "is_prime", .glo "base_digits", .glo "is_irreducible", .glo "is_modulus", .glo "check_width", .glo "row_with_pivot", .glo "without_multiple", .glo "reduce_rows", .glo "kernel", .glo "check_lengths", .glo "erased_positions", .glo "errors_beside", .glo "is_word", .glo "is_received", .glo "zero_word", .glo "check_words", .glo "add_words", .glo "scale_word", .glo "check_rows"]
def fa1 : List He.Fa := [.glo "is_bit", .glo "has_bits_only", .glo "checked_taps", .glo "message_size", .glo "step_table", .glo "received_steps", .glo "costs_to_go", .glo "best_path", .glo "nearest_messages", .glo "is_bound", .glo "check_path", .glo "weighted_steps", .glo "ranks_to_zero", .glo "weights_to_zero", .glo "free_distance", .glo "check_received", .glo "nearest", .glo "common_start", .glo "merged", .glo "_law_row"]
def fa2 : List He.Fa := [.glo "_law_numbers", .glo "_law_same", .glo "_law_taps", .glo "_law_count", .glo "_law_step", .glo "_law_word", .glo "_law_messages", .glo "_law_differ", .glo "_law_received", .glo "_law_nearest", .glo "_law_free", .glo "_law_decoded", .glo "_law_small", .glo "_law_pattern", .glo "law", .glo "Field", .cls "Field", .mkr "Field", .noat "Field" "prime", .noat "Field" "modulus"]
def fa3 : List He.Fa := [.noat "Field" "degree", .noat "Field" "order", .meth "Field" "digits", .meth "Field" "element", .meth "Field" "plus", .meth "Field" "negative", .meth "Field" "minus", .meth "Field" "times", .meth "Field" "inverse", .glo "LinearCode", .cls "LinearCode", .mkr "LinearCode", .noat "LinearCode" "field", .noat "LinearCode" "length", .noat "LinearCode" "dimension", .noat "LinearCode" "_rows", .noat "LinearCode" "_pivots", .noat "LinearCode" "_checks", .noat "LinearCode" "_size", .meth "LinearCode" "words"]
def fa4 : List He.Fa := [.glo "Encoder", .cls "Encoder", .mkr "Encoder", .noat "Encoder" "taps", .noat "Encoder" "memory", .noat "Encoder" "outputs", .noat "Encoder" "state_count", .meth "Encoder" "advance", .meth "Encoder" "_fed", .meth "Encoder" "word_for", .meth "Encoder" "linear", .glo "Trellis", .cls "Trellis", .mkr "Trellis", .noat "Trellis" "steps", .noat "Trellis" "message_length", .noat "Trellis" "table", .meth "Trellis" "moves_from", .meth "Trellis" "costs_table", .meth "Trellis" "best_moves"]
def fa5 : List He.Fa := [.glo "Summary", .cls "Summary", .mkr "Summary", .noat "Summary" "cost", .noat "Summary" "count_of", .noat "Summary" "first", .noat "Summary" "start_of", .meth "Summary" "grown", .glo "PathDecoder", .cls "PathDecoder", .mkr "PathDecoder", .noat "PathDecoder" "encoder", .noat "PathDecoder" "_table", .noat "PathDecoder" "steps", .noat "PathDecoder" "_summaries", .meth "PathDecoder" "restart", .meth "PathDecoder" "take", .meth "PathDecoder" "answer", .free "range", .free "len"]
def fa6 : List He.Fa := [.free "list", .free "tuple", .free "int", .free "bool", .free "abs", .free "min", .free "max", .free "sum", .free "sorted", .free "reversed", .free "zip", .free "isinstance", .int "LARGEST_PRIME" 31, .int "LARGEST_ORDER" 256, .int "MOST_ITEMS" 255, .int "MOST_WORDS" 4096]
def fa : List He.Fa := fa0 ++ fa1 ++ fa2 ++ fa3 ++ fa4 ++ fa5 ++ fa6
def nm0 : List PySem.Str := ["_wall", "CodeError", "InvalidField", "ZeroElement", "InvalidMatrix", "InvalidWord", "InvalidCode", "TooLarge", "InvalidEncoder", "LARGEST_PRIME", "LARGEST_ORDER", "int_power", "is_prime", "base_digits", "integer_remainder", "is_irreducible", "is_modulus", "Field", "check_width", "row_with_pivot"]
def nm1 : List PySem.Str := ["without_multiple", "reduce_rows", "kernel", "check_lengths", "erased_positions", "errors_beside", "is_word", "is_received", "zero_word", "check_words", "add_words", "scale_word", "MOST_ITEMS", "MOST_WORDS", "check_rows", "LinearCode", "is_bit", "has_bits_only", "checked_taps", "message_size"]
def nm2 : List PySem.Str := ["step_table", "Encoder", "received_steps", "Trellis", "costs_to_go", "best_path", "nearest_messages", "is_bound", "check_path", "weighted_steps", "ranks_to_zero", "weights_to_zero", "free_distance", "check_received", "nearest", "common_start", "Summary", "merged", "PathDecoder", "_law_row"]
def nm3 : List PySem.Str := ["_law_numbers", "_law_same", "_law_taps", "_law_count", "_law_step", "_law_word", "_law_messages", "_law_differ", "_law_received", "_law_nearest", "_law_free", "_law_decoded", "_law_small", "_law_pattern"]
def names : List PySem.Str := nm0 ++ nm1 ++ nm2 ++ nm3
/-! ### the addresses that the facts look at (told by a run of the top, checked by the kernel) -/
def ad0 : List Addr := [3, 273, 272, 468, 467, 576, 575, 619, 618, 723, 722, 782, 781, 125, 132, 139, 153, 160, 176, 183, 190, 202, 207, 214, 221, 228, 284, 291, 296, 301]
def ad1 : List Addr := [308, 315, 320, 327, 334, 341, 348, 355, 360, 365, 372, 386, 458, 479, 486, 491, 498, 503, 517, 524, 531, 538, 573, 585, 599, 606, 611, 616, 630, 635]
def ad2 : List Addr := [642, 649, 656, 661, 666, 671, 678, 685, 692, 699, 713, 720, 734, 748, 753, 758, 779, 793, 800, 807, 812, 819, 826, 833, 840, 847, 852, 859, 864, 871]
def ad3 : List Addr := [876, 883, 888, 124, 131, 138, 152, 159, 175, 182, 189, 201, 206, 213, 220, 227, 283, 290, 295, 300, 307, 314, 319, 326, 333, 340, 347, 354, 359, 364]
def ad4 : List Addr := [371, 385, 457, 478, 485, 490, 497, 502, 516, 523, 530, 537, 572, 584, 598, 605, 610, 615, 629, 634, 641, 648, 655, 660, 665, 670, 677, 684, 691, 698]
def ad5 : List Addr := [712, 719, 733, 747, 752, 757, 778, 792, 799, 806, 811, 818, 825, 832, 839, 846, 851, 858, 863, 870, 875, 882, 887, 772, 771, 770, 168, 169]
def addrs : List Addr := ad0 ++ ad1 ++ ad2 ++ ad3 ++ ad4 ++ ad5
/-! ### the head's own Hook: HookD's facts, one property with its getter, the default tuple -/
def propP (K : PySem.W.Frag) : Addr := He.ma K (He.ga K "PathDecoder") "settled"
def propG (K : PySem.W.Frag) : Addr := match PySem.W.recIn K (propP K) "property" with
  | some (.ref g :: _) => g
  | _ => 0
def eqOL (a b : Option Value) : Bool := decide (a = b)
def propB (K : PySem.W.Frag) : Bool :=
  He.eqO (PySem.W.findIn K (.ref (He.ga K "PathDecoder")) "settled") (some (some (.ref (propP K)))) && (He.eqO (PySem.W.specialIn K (.ref (propP K)) "__get__") (some (some (.builtin "property.__get__"))) &&
  (decide (PySem.W.takesIn K (.ref (propP K)) = some true) && ((match PySem.W.recIn K (propP K) "property" with
    | some (.ref _ :: _) => true
    | _ => false) && (PySem.W.keepIn K (.ref (propG K)) && (match K.lookup (propG K) with
    | some ⟨_, _, .func fd, _⟩ => PySem.W.codeIn K fd.code "PathDecoder.settled" && He.dflB K fd.defaults []
    | _ => false)))))
def getW (K : PySem.W.Frag) : He.FnW := match K.lookup (propG K) with
  | some ⟨_, _, .func fd, _⟩ => some (fd.name, fd.qualname, fd.params, fd.body, fd.scope, fd.globals, fd.closure, fd.builtins)
  | _ => none
def getV : He.FnW := some ("settled", "PathDecoder.settled", defArgs s_PathDecoder_settled, .stmts (defBody s_PathDecoder_settled), defScope s_PathDecoder_settled, mainGlobals, [], builtinsNs)
def dflT (K : PySem.W.Frag) : Addr := He.dflAt ("Field", some "__init__") 0 K
def tupB (K : PySem.W.Frag) : Bool := match K.lookup (dflT K) with
  | some ⟨.type c, _, .seq its _, _⟩ => decide (c = "tuple") && (decide (its.size ≤ sizeLine) && He.relAll [.int 0, .int 1] its.toList)
  | _ => false
abbrev AlM : Type := He.AlD × He.FnW × Bool
def obsM (K : PySem.W.Frag) : AlM := (He.obsD fa fn K, getW K, propB K && tupB K)
def valM : AlM := (He.valD fn, getV, true)
def obsMG (g : Addr → Option Obj) : AlM := obsM (He.frG g addrs)
def SaysM (K : PySem.W.Frag) : Prop := obsM K = valM
def hookM : PySem.W.Hook where
  α := AlM
  obs := fun s => obsMG s.heap.get?
  val := fun _ => valM
  says := fun _ h => ∃ K : PySem.W.Frag, K.In h ∧ SaysM K
  of := fun _ _ e => ⟨_, He.frG_in, e⟩
  keeps := fun _ _ _ ⟨K, hK, c⟩ k => ⟨K, PySem.W.Frag.In.keeps hK k, c⟩
theorem obsMG_eq {g : Addr → Option Obj} {s : Shared} (h : ∀ a, g a = s.heap.get? a) : obsMG g = hookM.obs s := by
  have e : g = s.heap.get? := funext h
  rw [e] <;> rfl
abbrev R : PySem.W.OpenRow := PySem.W.OpenLaw.row PySem.Challenge.rw_nearestword_k93_whole_paths
abbrev hk : PySem.W.Hook := hookM
def ob (s : PySem.W.SharedT) : AlM := obsMG (HandSHeadRun.getT s)
theorem ob_eq (s : PySem.W.SharedT) : ob s = hk.obs s.abs := obsMG_eq (HandSHeadRun.getT_eq s)
theorem run (w : World) : HandSHeadRun.RunEq R (PySem.W.view R.prog [85]) hk ob 12000 names w := by
  intro os
  kernel_rfl
end NH
set_option maxHeartbeats 4000000
/-! A typed logic over the layer's readings: a frozen part F of the abstract heap H, relations of values with data, slots with assertions. -/
namespace G
open PySem PySem.Spec PyProof.Rows L2

/-! ### relations of values with data -/
abbrev Rel (A : Type) := Hp → V → A → Prop
class Mn {A : Type} (R : Rel A) : Prop where
  mono : ∀ {F F' : Hp} {v : V} {x : A}, Same F F' → R F v x → R F' v x
/-- never None -/
class Nn {A : Type} (R : Rel A) : Prop where
  nn : ∀ {F : Hp} {v : V} {x : A}, R F v x → v ≠ .non
def rInt : Rel Int := fun _ v i => v = .int i
def rBl : Rel Bool := fun _ v b => v = .bl b
def rNon : Rel Unit := fun _ v _ => v = .non
def rOpt {A : Type} (R : Rel A) : Rel (Option A) := fun F v o => match o with
  | none => v = .non
  | some x => R F v x
def AllR {A : Type} (P : V → A → Prop) (vs : List V) (xs : List A) : Prop := vs.length = xs.length ∧ ∀ (i : Nat) (v : V) (x : A), vs[i]? = some v → xs[i]? = some x → P v x
def rLst {A : Type} (R : Rel A) : Rel (List A) := fun F v xs => ∃ a vs, v = .ref a ∧ F a = some (.lst vs) ∧ AllR (R F) vs xs
def rTup {A : Type} (R : Rel A) : Rel (List A) := fun F v xs => ∃ a vs, v = .ref a ∧ F a = some (.tup vs) ∧ AllR (R F) vs xs
def rPair {A B : Type} (R : Rel A) (S : Rel B) : Rel (A × B) := fun F v x => ∃ a u w, v = .ref a ∧ F a = some (.tup [u, w]) ∧ R F u x.1 ∧ S F w x.2
def rTri {A B C : Type} (R : Rel A) (S : Rel B) (T : Rel C) : Rel (A × B × C) := fun F v x => ∃ a u w z, v = .ref a ∧ F a = some (.tup [u, w, z]) ∧ R F u x.1 ∧ S F w x.2.1 ∧ T F z x.2.2
instance : Mn rInt := ⟨fun _ h => h⟩
instance : Mn rBl := ⟨fun _ h => h⟩
instance : Mn rNon := ⟨fun _ h => h⟩
instance : Nn rInt := ⟨fun h => by rw [h]; exact fun q => nomatch q⟩
theorem AllR.imp {A : Type} {P Q : V → A → Prop} {vs : List V} {xs : List A} (h : AllR P vs xs) (f : ∀ v x, P v x → Q v x) : AllR Q vs xs := ⟨h.1, fun i v x a b => f v x (h.2 i v x a b)⟩
instance {A : Type} {R : Rel A} [Mn R] : Mn (rOpt R) := ⟨fun {F F' v x} s h => by
  cases x with
  | none => exact h
  | some y => exact Mn.mono (R := R) s h⟩
instance {A : Type} {R : Rel A} [Mn R] : Mn (rLst R) := ⟨fun s ⟨a, vs, e, f, r⟩ => ⟨a, vs, e, s _ _ f, r.imp fun _ _ => Mn.mono s⟩⟩
instance {A : Type} {R : Rel A} [Mn R] : Mn (rTup R) := ⟨fun s ⟨a, vs, e, f, r⟩ => ⟨a, vs, e, s _ _ f, r.imp fun _ _ => Mn.mono s⟩⟩
instance {A B : Type} {R : Rel A} {S : Rel B} [Mn R] [Mn S] : Mn (rPair R S) := ⟨fun s ⟨a, u, w, e, f, r, q⟩ => ⟨a, u, w, e, s _ _ f, Mn.mono s r, Mn.mono s q⟩⟩
instance {A B C : Type} {R : Rel A} {S : Rel B} {T : Rel C} [Mn R] [Mn S] [Mn T] : Mn (rTri R S T) := ⟨fun s ⟨a, u, w, z, e, f, r, q, t⟩ => ⟨a, u, w, z, e, s _ _ f, Mn.mono s r, Mn.mono s q, Mn.mono s t⟩⟩
instance {A : Type} {R : Rel A} : Nn (rLst R) := ⟨fun ⟨a, vs, e, _⟩ => by rw [e]; exact fun q => nomatch q⟩
instance {A : Type} {R : Rel A} : Nn (rTup R) := ⟨fun ⟨a, vs, e, _⟩ => by rw [e]; exact fun q => nomatch q⟩
instance {A B : Type} {R : Rel A} {S : Rel B} : Nn (rPair R S) := ⟨fun ⟨a, u, w, e, _⟩ => by rw [e]; exact fun q => nomatch q⟩
instance {A B C : Type} {R : Rel A} {S : Rel B} {T : Rel C} : Nn (rTri R S T) := ⟨fun ⟨a, u, w, z, e, _⟩ => by rw [e]; exact fun q => nomatch q⟩

theorem AllR.nil {A : Type} {P : V → A → Prop} : AllR P [] [] := ⟨rfl, fun i v x h _ => by simp at h⟩
theorem AllR.get {A : Type} {P : V → A → Prop} {vs : List V} {xs : List A} (h : AllR P vs xs) {i : Nat} {x : A} (e : xs[i]? = some x) : ∃ v, vs[i]? = some v ∧ P v x := by
  have hi : i < vs.length := by rw [h.1]; exact (List.getElem?_eq_some_iff.mp e).1
  exact ⟨vs[i], List.getElem?_eq_getElem hi, h.2 i _ x (List.getElem?_eq_getElem hi) e⟩
theorem AllR.getV {A : Type} {P : V → A → Prop} {vs : List V} {xs : List A} (h : AllR P vs xs) {i : Nat} {v : V} (e : vs[i]? = some v) : ∃ x, xs[i]? = some x ∧ P v x := by
  have hi : i < xs.length := by rw [← h.1]; exact (List.getElem?_eq_some_iff.mp e).1
  exact ⟨xs[i], List.getElem?_eq_getElem hi, h.2 i v _ e (List.getElem?_eq_getElem hi)⟩
theorem AllR.append {A : Type} {P : V → A → Prop} {vs ws : List V} {xs ys : List A} (h : AllR P vs xs) (k : AllR P ws ys) : AllR P (vs ++ ws) (xs ++ ys) := by
  refine ⟨by rw [List.length_append, List.length_append, h.1, k.1], fun i v x a b => ?_⟩
  by_cases hi : i < vs.length
  · rw [List.getElem?_append_left hi] at a
    rw [List.getElem?_append_left (by rw [← h.1]; exact hi)] at b
    exact h.2 i v x a b
  · rw [List.getElem?_append_right (by omega)] at a
    rw [List.getElem?_append_right (by rw [← h.1]; omega), ← h.1] at b
    exact k.2 _ v x a b
theorem AllR.one {A : Type} {P : V → A → Prop} {v : V} {x : A} (h : P v x) : AllR P [v] [x] := ⟨rfl, fun i u y a b => by
  cases i with
  | zero => cases a; cases b; exact h
  | succ n => simp at a⟩
theorem AllR.cons {A : Type} {P : V → A → Prop} {v : V} {x : A} {vs : List V} {xs : List A} (h : P v x) (k : AllR P vs xs) : AllR P (v :: vs) (x :: xs) := AllR.append (AllR.one h) k
theorem AllR.set {A : Type} {P : V → A → Prop} {vs : List V} {xs : List A} (h : AllR P vs xs) {v : V} {x : A} (r : P v x) (j : Nat) : AllR P (vs.set j v) (xs.set j x) := by
  refine ⟨by rw [List.length_set, List.length_set, h.1], fun i u y a b => ?_⟩
  by_cases e : j = i
  · subst e
    have hj : j < vs.length := by
      have := (List.getElem?_eq_some_iff.mp a).1
      rwa [List.length_set] at this
    rw [List.getElem?_set_self hj] at a
    rw [List.getElem?_set_self (by rw [← h.1]; exact hj)] at b
    cases a; cases b
    exact r
  · rw [List.getElem?_set_ne e] at a b
    exact h.2 i u y a b
theorem AllR.take {A : Type} {P : V → A → Prop} {vs : List V} {xs : List A} (h : AllR P vs xs) (n : Nat) : AllR P (vs.take n) (xs.take n) := by
  refine ⟨by rw [List.length_take, List.length_take, h.1], fun i v x a b => ?_⟩
  rw [List.getElem?_take] at a b
  split at a
  · rename_i c
    rw [if_pos c] at b
    exact h.2 i v x a b
  · cases a
theorem AllR.drop {A : Type} {P : V → A → Prop} {vs : List V} {xs : List A} (h : AllR P vs xs) (n : Nat) : AllR P (vs.drop n) (xs.drop n) := by
  refine ⟨by rw [List.length_drop, List.length_drop, h.1], fun i v x a b => ?_⟩
  rw [List.getElem?_drop] at a b
  exact h.2 _ v x a b
theorem AllR.reverse {A : Type} {P : V → A → Prop} {vs : List V} {xs : List A} (h : AllR P vs xs) : AllR P vs.reverse xs.reverse := by
  refine ⟨by rw [List.length_reverse, List.length_reverse, h.1], fun i v x a b => ?_⟩
  have hi : i < vs.length := by
    have := (List.getElem?_eq_some_iff.mp a).1
    rwa [List.length_reverse] at this
  rw [List.getElem?_reverse hi] at a
  rw [List.getElem?_reverse (by rw [← h.1]; exact hi), ← h.1] at b
  exact h.2 _ v x a b
theorem AllR.eraseIdx {A : Type} {P : V → A → Prop} {vs : List V} {xs : List A} (h : AllR P vs xs) (n : Nat) : AllR P (vs.eraseIdx n) (xs.eraseIdx n) := by
  refine ⟨by rw [List.length_eraseIdx, List.length_eraseIdx, h.1], fun i v x a b => ?_⟩
  rw [List.getElem?_eraseIdx] at a b
  split at a
  · rename_i c
    rw [if_pos c] at b
    exact h.2 i v x a b
  · rename_i c
    rw [if_neg c] at b
    exact h.2 _ v x a b
theorem AllR.ints {vs : List V} {xs : List Int} {F : Hp} (h : AllR (rInt F) vs xs) : vs = xs.map V.int := by
  refine List.ext_getElem? fun i => ?_
  rw [List.getElem?_map]
  cases e : xs[i]? with
  | none => exact List.getElem?_eq_none_iff.mpr (by rw [h.1]; exact List.getElem?_eq_none_iff.mp e)
  | some x =>
    obtain ⟨v, a, b⟩ := h.get e
    rw [a]
    exact congrArg some b
theorem AllR.rep {A : Type} {P : V → A → Prop} {v : V} {x : A} (h : P v x) (n : Nat) : AllR P (List.replicate n v) (List.replicate n x) := by
  refine ⟨by rw [List.length_replicate, List.length_replicate], fun i u y a b => ?_⟩
  rw [List.getElem?_replicate] at a b
  split at a
  · rename_i c
    rw [if_pos c] at b
    cases a; cases b
    exact h
  · cases a

/-! ### frozen data, instances -/
structure Fz : Type 1 where
  A : Type
  R : Rel A
  h : Mn R
  x : A
abbrev fz' {A : Type} (R : Rel A) [h : Mn R] (x : A) : Fz := ⟨A, R, h, x⟩
def Fz.ok (s : Fz) (F : Hp) (v : V) : Prop := s.R F v s.x
theorem Fz.mono {s : Fz} {F F' : Hp} {v : V} (e : Same F F') (h : s.ok F v) : s.ok F' v := s.h.mono e h
abbrev Fs := List (Str × Fz)
def FsOk (F : Hp) : List (Str × V) → Fs → Prop
  | [], [] => True
  | (f, u) :: r, (g, s) :: t => f = g ∧ s.ok F u ∧ FsOk F r t
  | _, _ => False
theorem FsOk.mono {F F' : Hp} (e : Same F F') : ∀ {vs : List (Str × V)} {fs : Fs}, FsOk F vs fs → FsOk F' vs fs
  | [], [], _ => trivial
  | [], _ :: _, h => h.elim
  | _ :: _, [], h => h.elim
  | (f, u) :: r, (g, s) :: t, ⟨a, b, c⟩ => ⟨a, Fz.mono e b, FsOk.mono e c⟩
theorem FsOk.get {F : Hp} : ∀ {vs : List (Str × V)} {fs : Fs}, FsOk F vs fs → ∀ {f : Str} {s : Fz}, fs.lookup f = some s → ∃ u, vs.lookup f = some u ∧ s.ok F u
  | [], [], _, f, s, e => by cases e
  | [], _ :: _, h, _, _, _ => h.elim
  | _ :: _, [], h, _, _, _ => h.elim
  | (g, u) :: r, (g', s') :: t, ⟨a, b, c⟩, f, s, e => by
    subst a
    rw [List.lookup_cons] at e ⊢
    cases q : (f == g) with
    | true => rw [q] at e; cases e; exact ⟨u, rfl, b⟩
    | false => rw [q] at e; exact FsOk.get c e
theorem FsOk.none {F : Hp} : ∀ {vs : List (Str × V)} {fs : Fs}, FsOk F vs fs → ∀ {f : Str}, fs.lookup f = none → vs.lookup f = none
  | [], [], _, f, e => rfl
  | [], _ :: _, h, _, _ => h.elim
  | _ :: _, [], h, _, _ => h.elim
  | (g, u) :: r, (g', s') :: t, ⟨a, b, c⟩, f, e => by
    subst a
    rw [List.lookup_cons] at e ⊢
    cases q : (f == g) with
    | true => rw [q] at e; cases e
    | false => rw [q] at e; exact FsOk.none c e
theorem FsOk.len {F : Hp} : ∀ {vs : List (Str × V)} {fs : Fs}, FsOk F vs fs → vs.length = fs.length
  | [], [], _ => rfl
  | [], _ :: _, h => h.elim
  | _ :: _, [], h => h.elim
  | _ :: _, _ :: _, ⟨_, _, c⟩ => congrArg (· + 1) (FsOk.len c)
def putS (f : Str) (s : Fz) : Fs → Fs
  | [] => [(f, s)]
  | (g, t) :: r => if g = f then (g, s) :: r else (g, t) :: putS f s r
theorem putF_nil (f : Str) (v : V) : putF f v [] = [(f, v)] := rfl
theorem putF_cons (f g : Str) (v u : V) (r : List (Str × V)) : putF f v ((g, u) :: r) = if g = f then (g, v) :: r else (g, u) :: putF f v r := by
  first | rfl | (unfold putF; rfl)

theorem FsOk.put {F : Hp} {f : Str} {u : V} {s : Fz} (h : s.ok F u) : ∀ {vs : List (Str × V)} {fs : Fs}, FsOk F vs fs → FsOk F (putF f u vs) (putS f s fs)
  | [], [], _ => ⟨rfl, h, trivial⟩
  | [], _ :: _, k => k.elim
  | _ :: _, [], k => k.elim
  | (g, w) :: r, (g', t) :: q, ⟨a, b, c⟩ => by
    subst a
    rw [putF_cons]
    unfold putS
    by_cases e : g = f
    · rw [if_pos e, if_pos e]
      exact ⟨rfl, h, c⟩
    · rw [if_neg e, if_neg e]
      exact ⟨rfl, b, FsOk.put h c⟩
/-- an instance of the class at C with these attributes -/
def rIns (C : Addr) (fs : Fs) : Rel Unit := fun F v _ => ∃ p dx vs, v = .ref p ∧ F p = some (.ins C dx vs) ∧ FsOk F vs fs
instance {C : Addr} {fs : Fs} : Mn (rIns C fs) := ⟨fun s ⟨p, dx, vs, e, f, r⟩ => ⟨p, dx, vs, e, s _ _ f, FsOk.mono s r⟩⟩
instance {C : Addr} {fs : Fs} : Nn (rIns C fs) := ⟨fun ⟨a, _, _, e, _⟩ => by rw [e]; exact fun q => nomatch q⟩
/-- the same, the attributes told by data -/
def rObj {A : Type} (C : Addr) (fs : A → Fs) : Rel A := fun F v x => ∃ p dx vs, v = .ref p ∧ F p = some (.ins C dx vs) ∧ FsOk F vs (fs x)
instance {A : Type} {C : Addr} {fs : A → Fs} : Mn (rObj C fs) := ⟨fun s ⟨p, dx, vs, e, f, r⟩ => ⟨p, dx, vs, e, s _ _ f, FsOk.mono s r⟩⟩
instance {A : Type} {C : Addr} {fs : A → Fs} : Nn (rObj C fs) := ⟨fun ⟨a, _, _, e, _⟩ => by rw [e]; exact fun q => nomatch q⟩

/-! ### growth of a pair: frozen F inside H -/
structure Ex (F H F' H' : Hp) : Prop where
  ff : Same F F'
  hh : Same H H'
  fh : Same F' H'
  fr : ∀ b, F b = none → H b ≠ none → F' b = none
theorem Ex.refl {F H : Hp} (s : Same F H) : Ex F H F H := ⟨Same.refl _, Same.refl _, s, fun _ h _ => h⟩
theorem some_same {H H' : Hp} (s : Same H H') {b : Addr} (h : H b ≠ none) : H' b ≠ none := by
  cases e : H b with
  | none => exact absurd e h
  | some o => rw [s b o e]; exact fun q => nomatch q
theorem Ex.trans {F H F1 H1 F2 H2 : Hp} (a : Ex F H F1 H1) (b : Ex F1 H1 F2 H2) : Ex F H F2 H2 :=
  ⟨a.ff.trans b.ff, a.hh.trans b.hh, b.fh, fun c h k => b.fr c (a.fr c h k) (some_same a.hh k)⟩
theorem Ex.of {F H F' H' : Hp} (e : Ex F H F' H') : Ex F' H' F' H' := Ex.refl e.fh
/-- a new object, frozen at once -/
theorem Ex.new {F H : Hp} (s : Same F H) {p : Addr} {o : HO} (h : H p = none) : Ex F H (upd F p o) (upd H p o) := by
  have hf : F p = none := s.free h
  refine ⟨fun b u e => ?_, fun b u e => ?_, fun b u e => ?_, fun b a c => ?_⟩
  · rw [upd_ne (ne_of_none e hf)]; exact e
  · rw [upd_ne (ne_of_none e h)]; exact e
  · by_cases q : b = p
    · subst q; rw [upd_same] at e ⊢; exact e
    · rw [upd_ne q] at e ⊢; exact s b u e
  · rw [upd_ne (fun q => c (by rw [q]; exact h))]; exact a
/-- a new object, not frozen -/
theorem Ex.own {F H : Hp} (s : Same F H) {p : Addr} {o : HO} (h : H p = none) : Ex F H F (upd H p o) := by
  have hf : F p = none := s.free h
  refine ⟨Same.refl _, fun b u e => ?_, fun b u e => ?_, fun b a _ => a⟩
  · rw [upd_ne (ne_of_none e h)]; exact e
  · rw [upd_ne (ne_of_none e hf)]; exact s b u e
theorem same_upd {H : Hp} {p : Addr} {o : HO} (h : H p = none) : Same H (upd H p o) := fun b x e => by
  rw [upd_ne (ne_of_none e h)]
  exact e

/-! ### slots -/
inductive Sl : Type 1 where
  | any
  | fz (s : Fz)
  | ml {A : Type} (R : Rel A) (h : Mn R) (xs : List A)
  | mo (p C : Addr) (fs : Fs)
  | ro (C : Addr) (fs : Fs)
abbrev sf {A : Type} (R : Rel A) [h : Mn R] (x : A) : Sl := .fz ⟨A, R, h, x⟩
abbrev sm {A : Type} (R : Rel A) [h : Mn R] (xs : List A) : Sl := .ml R h xs
def Sl.own : Sl → Bool
  | .ml _ _ _ => true
  | .mo _ _ _ => true
  | _ => false
def SlOk (H0 F H : Hp) : Sl → Option V → Prop
  | .any, _ => True
  | .fz s, o => ∃ v, o = some v ∧ s.ok F v
  | .ml R _ xs, o => ∃ p vs, o = some (.ref p) ∧ F p = none ∧ H0 p = none ∧ H p = some (.lst vs) ∧ AllR (R F) vs xs
  | .mo p C fs, o => ∃ dx vs, o = some (.ref p) ∧ F p = none ∧ H0 p = none ∧ H p = some (.ins C dx vs) ∧ FsOk F vs fs
  | .ro C fs, o => ∃ p dx vs, o = some (.ref p) ∧ F p = none ∧ H0 p = some (.ins C dx vs) ∧ FsOk F vs fs
/-- where a def began -/
structure Wd where
  F : Hp
  H : Hp
structure EnvOk (B : Wd) (Γ : List Sl) (F H : Hp) (σ : L2.St) : Prop where
  ex : Ex B.F B.H F H
  len : σ.length = Γ.length
  ok : ∀ (i : Nat) (s : Sl), Γ[i]? = some s → ∃ o, σ[i]? = some o ∧ SlOk B.H F H s o
  ap : ∀ (i j : Nat) (s t : Sl), i ≠ j → Γ[i]? = some s → Γ[j]? = some t → s.own = true → t.own = true → σ[i]? ≠ σ[j]?
theorem SlOk.ext {H0 F H F' H' : Hp} {s : Sl} {o : Option V} (e : Ex F H F' H') (h0 : Same H0 H) (h : SlOk H0 F H s o) : SlOk H0 F' H' s o := by
  cases s with
  | any => trivial
  | fz s => obtain ⟨v, a, b⟩ := h; exact ⟨v, a, Fz.mono e.ff b⟩
  | ml R m xs =>
    obtain ⟨p, vs, a, b, c, d, r⟩ := h
    exact ⟨p, vs, a, e.fr p b (by rw [d]; exact fun q => nomatch q), c, e.hh _ _ d, r.imp fun _ _ => m.mono e.ff⟩
  | mo p C fs =>
    obtain ⟨dx, vs, a, b, c, d, r⟩ := h
    exact ⟨dx, vs, a, e.fr p b (by rw [d]; exact fun q => nomatch q), c, e.hh _ _ d, FsOk.mono e.ff r⟩
  | ro C fs =>
    obtain ⟨p, dx, vs, a, b, c, r⟩ := h
    exact ⟨p, dx, vs, a, e.fr p b (by rw [h0 _ _ c]; exact fun q => nomatch q), c, FsOk.mono e.ff r⟩
theorem EnvOk.ext {B : Wd} {Γ : List Sl} {F H F' H' : Hp} {σ : L2.St} (e : Ex F H F' H') (h : EnvOk B Γ F H σ) : EnvOk B Γ F' H' σ :=
  ⟨h.ex.trans e, h.len, fun i s q => by
    obtain ⟨o, a, b⟩ := h.ok i s q
    exact ⟨o, a, b.ext e h.ex.hh⟩, h.ap⟩
theorem EnvOk.fh {B : Wd} {Γ : List Sl} {F H : Hp} {σ : L2.St} (h : EnvOk B Γ F H σ) : Same F H := h.ex.fh
theorem get_set {A : Type _} {l : List A} {i j : Nat} {x y : A} (h : (l.set i x)[j]? = some y) : (i = j ∧ y = x) ∨ (i ≠ j ∧ l[j]? = some y) := by
  by_cases e : i = j
  · subst e
    have hj : i < l.length := by
      have := (List.getElem?_eq_some_iff.mp h).1
      rwa [List.length_set] at this
    rw [List.getElem?_set_self hj] at h
    exact .inl ⟨rfl, (Option.some.inj h).symm⟩
  · rw [List.getElem?_set_ne e] at h
    exact .inr ⟨e, h⟩
/-- a slot is stored that owns nothing -/
theorem EnvOk.set {B : Wd} {Γ : List Sl} {F H : Hp} {σ : L2.St} {i : Nat} {s : Sl} {v : Option V} (h : EnvOk B Γ F H σ) (r : SlOk B.H F H s v) (ho : s.own = false) : EnvOk B (Γ.set i s) F H (σ.set i v) := by
  refine ⟨h.ex, by rw [List.length_set, List.length_set]; exact h.len, fun j t q => ?_, fun j k t u n a b c d => ?_⟩
  · rcases get_set q with ⟨rfl, rfl⟩ | ⟨e, q⟩
    · have hi : i < σ.length := by
        have := (List.getElem?_eq_some_iff.mp q).1
        rw [List.length_set] at this
        rw [h.len]; exact this
      exact ⟨v, List.getElem?_set_self hi, r⟩
    · obtain ⟨o, x, y⟩ := h.ok j t q
      exact ⟨o, by rw [List.getElem?_set_ne e]; exact x, y⟩
  · rcases get_set a with ⟨_, rfl⟩ | ⟨e1, a⟩
    · rw [ho] at c; cases c
    · rcases get_set b with ⟨_, rfl⟩ | ⟨e2, b⟩
      · rw [ho] at d; cases d
      · rw [List.getElem?_set_ne e1, List.getElem?_set_ne e2]
        exact h.ap j k t u n a b c d
theorem EnvOk.setFz {B : Wd} {Γ : List Sl} {F H : Hp} {σ : L2.St} {i : Nat} {A : Type} {R : Rel A} [m : Mn R] {x : A} {v : V} (h : EnvOk B Γ F H σ) (r : R F v x) : EnvOk B (Γ.set i (sf R x)) F H (σ.set i (some v)) :=
  h.set (s := sf R x) ⟨v, rfl, r⟩ rfl
/-- an owned object at p, not held by any slot that owns, is stored -/
theorem EnvOk.setOwn {B : Wd} {Γ : List Sl} {F H : Hp} {σ : L2.St} {i : Nat} {s : Sl} {p : Addr} (h : EnvOk B Γ F H σ) (r : SlOk B.H F H s (some (.ref p)))
    (hp : ∀ (j : Nat) (t : Sl), j ≠ i → Γ[j]? = some t → t.own = true → σ[j]? ≠ some (some (.ref p))) : EnvOk B (Γ.set i s) F H (σ.set i (some (.ref p))) := by
  refine ⟨h.ex, by rw [List.length_set, List.length_set]; exact h.len, fun j t q => ?_, fun j k t u n a b c d => ?_⟩
  · rcases get_set q with ⟨rfl, rfl⟩ | ⟨e, q⟩
    · have hi : i < σ.length := by
        have := (List.getElem?_eq_some_iff.mp q).1
        rw [List.length_set] at this
        rw [h.len]; exact this
      exact ⟨_, List.getElem?_set_self hi, r⟩
    · obtain ⟨o, x, y⟩ := h.ok j t q
      exact ⟨o, by rw [List.getElem?_set_ne e]; exact x, y⟩
  · have bd : ∀ {t : Sl}, (Γ.set i s)[i]? = some t → i < σ.length := fun q => by
      have := (List.getElem?_eq_some_iff.mp q).1
      rw [List.length_set] at this
      rw [h.len]; exact this
    by_cases e1 : i = j
    · subst e1
      rw [List.getElem?_set_self (bd a)]
      have e2 : i ≠ k := n
      rw [List.getElem?_set_ne e2] at b ⊢
      exact fun q => hp k u (Ne.symm e2) b d q.symm
    · rw [List.getElem?_set_ne e1] at a ⊢
      by_cases e2 : i = k
      · subst e2
        rw [List.getElem?_set_self (bd b)]
        exact hp j t (Ne.symm e1) a c
      · rw [List.getElem?_set_ne e2] at b ⊢
        exact h.ap j k t u n a b c d
/-- the object that slot i owns is written -/
theorem EnvOk.write {B : Wd} {Γ : List Sl} {F H : Hp} {σ : L2.St} {i : Nat} {s t : Sl} {p : Addr} {o : HO} (h : EnvOk B Γ F H σ) (hs : Γ[i]? = some s) (hw : s.own = true) (hi : σ[i]? = some (some (.ref p))) (hf : F p = none) (h0 : B.H p = none)
    (r : SlOk B.H F (upd H p o) t (some (.ref p))) (ho : t.own = true) : EnvOk B (Γ.set i t) F (upd H p o) σ := by
  have hne : ∀ b, B.H b ≠ none → b ≠ p := fun b k e => k (by rw [e]; exact h0)
  refine ⟨⟨h.ex.ff, fun b u e => ?_, fun b u e => ?_, h.ex.fr⟩, by rw [List.length_set]; exact h.len, fun j u q => ?_, fun j k t1 t2 n a b c d => ?_⟩
  · rw [upd_ne (hne b (by rw [e]; exact fun q => nomatch q))]
    exact h.ex.hh b u e
  · rw [upd_ne (fun q => by rw [q, hf] at e; cases e)]
    exact h.ex.fh b u e
  · rcases get_set q with ⟨rfl, rfl⟩ | ⟨e, q⟩
    · exact ⟨_, hi, r⟩
    · obtain ⟨x, y, z⟩ := h.ok j u q
      refine ⟨x, y, ?_⟩
      have apart : u.own = true → ∀ p', x = some (.ref p') → p' ≠ p := fun hu p' ex z => h.ap i j s u e hs q hw hu (by rw [hi, y, ex, z])
      cases u with
      | any => trivial
      | fz s => exact z
      | ml R m xs =>
        obtain ⟨p', vs, a1, a2, a3, a4, a5⟩ := z
        exact ⟨p', vs, a1, a2, a3, by rw [upd_ne (apart rfl p' a1)]; exact a4, a5⟩
      | mo p' C fs =>
        obtain ⟨dx, vs, a1, a2, a3, a4, a5⟩ := z
        exact ⟨dx, vs, a1, a2, a3, by rw [upd_ne (apart rfl p' a1)]; exact a4, a5⟩
      | ro C fs => exact z
  · have ow : ∀ {j : Nat} {t1 : Sl}, (Γ.set i t)[j]? = some t1 → t1.own = true → ∃ t2, Γ[j]? = some t2 ∧ t2.own = true := fun {j} {t1} q k => by
      rcases get_set q with ⟨rfl, rfl⟩ | ⟨e, q⟩
      · exact ⟨s, hs, hw⟩
      · exact ⟨_, q, k⟩
    obtain ⟨t3, a3, c3⟩ := ow a c
    obtain ⟨t4, a4, c4⟩ := ow b d
    exact h.ap j k t3 t4 n a3 a4 c3 c4
/-- the list that slot i owns is frozen -/
theorem EnvOk.freeze {B : Wd} {Γ : List Sl} {F H : Hp} {σ : L2.St} {i : Nat} {A : Type} {R : Rel A} {m : Mn R} {xs : List A} (h : EnvOk B Γ F H σ) (hs : Γ[i]? = some (.ml R m xs)) :
    ∃ F', Same F F' ∧ EnvOk B (Γ.set i (sf (rLst R) xs)) F' H σ := by
  obtain ⟨o, ho, p, vs, rfl, hf, h0, hp, r⟩ := h.ok i _ hs
  have sf1 : Same F (upd F p (.lst vs)) := same_upd hf
  have hne : ∀ b, B.H b ≠ none → b ≠ p := fun b k e => k (by rw [e]; exact h0)
  refine ⟨upd F p (.lst vs), sf1, ⟨h.ex.ff.trans sf1, h.ex.hh, fun b u e => ?_, fun b a k => ?_⟩, by rw [List.length_set]; exact h.len, fun j u q => ?_, fun j k t1 t2 n a b c d => ?_⟩
  · by_cases e1 : b = p
    · subst e1; rw [upd_same] at e; rw [← e]; exact hp
    · rw [upd_ne e1] at e; exact h.ex.fh b u e
  · rw [upd_ne (hne b k)]; exact h.ex.fr b a k
  · rcases get_set q with ⟨rfl, rfl⟩ | ⟨e, q⟩
    · exact ⟨_, ho, .ref p, rfl, p, vs, rfl, upd_same, r.imp fun _ _ => m.mono sf1⟩
    · obtain ⟨x, y, z⟩ := h.ok j u q
      refine ⟨x, y, ?_⟩
      have apart : u.own = true → ∀ p', x = some (.ref p') → p' ≠ p := fun hu p' ex z => h.ap i j _ u e hs q rfl hu (by rw [ho, y, ex, z])
      cases u with
      | any => trivial
      | fz s => obtain ⟨v, a1, a2⟩ := z; exact ⟨v, a1, Fz.mono sf1 a2⟩
      | ml R' m' xs' =>
        obtain ⟨p', vs', a1, a2, a3, a4, a5⟩ := z
        exact ⟨p', vs', a1, by rw [upd_ne (apart rfl p' a1)]; exact a2, a3, a4, a5.imp fun _ _ => m'.mono sf1⟩
      | mo p' C fs =>
        obtain ⟨dx, vs', a1, a2, a3, a4, a5⟩ := z
        exact ⟨dx, vs', a1, by rw [upd_ne (apart rfl p' a1)]; exact a2, a3, a4, FsOk.mono sf1 a5⟩
      | ro C fs =>
        obtain ⟨p', dx, vs', a1, a2, a3, a5⟩ := z
        exact ⟨p', dx, vs', a1, by rw [upd_ne (hne p' (by rw [a3]; exact fun q => nomatch q))]; exact a2, a3, FsOk.mono sf1 a5⟩
  · have ow : ∀ {j : Nat} {t1 : Sl}, (Γ.set i (sf (rLst R) xs))[j]? = some t1 → t1.own = true → Γ[j]? = some t1 := fun {j} {t1} q k => by
      rcases get_set q with ⟨rfl, rfl⟩ | ⟨e, q⟩
      · cases k
      · exact q
    exact h.ap j k t1 t2 n (ow a c) (ow b d) c d
end G
set_option maxHeartbeats 4000000
namespace G
open PySem PySem.Spec PyProof.Rows L2
/-! ### judgements: evaluation to data -/
def EvP (B : Wd) (Γ : List Sl) (te : TE) {A : Type} (R : Rel A) (P : A → Prop) : Prop := ∀ F H σ, EnvOk B Γ F H σ → ∀ Q : VK, (∀ F' H' v y, Ex F H F' H' → R F' v y → P y → Q v H') → te σ H Q
def Ev (B : Wd) (Γ : List Sl) (te : TE) {A : Type} (R : Rel A) (x : A) : Prop := ∀ F H σ, EnvOk B Γ F H σ → ∀ Q : VK, (∀ F' H' v, Ex F H F' H' → R F' v x → Q v H') → te σ H Q
def EvL (B : Wd) (Γ : List Sl) (te : TE) {A : Type} (R : Rel A) (xs : List A) : Prop := ∀ F H σ, EnvOk B Γ F H σ → ∀ Q : VK,
  (∀ F' H' p vs, Ex F H F' H' → H p = none → F' p = none → H' p = some (.lst vs) → AllR (R F') vs xs → Q (.ref p) H') → te σ H Q
def EvT (B : Wd) (Γ : List Sl) (tt : TT) (b : Bool) : Prop := ∀ F H σ, EnvOk B Γ F H σ → ∀ Q : Bool → Hp → Prop, (∀ F' H', Ex F H F' H' → Q b H') → tt σ H Q
def ArgOk (F : Hp) : List V → List Fz → Prop
  | [], [] => True
  | v :: vs, s :: ss => s.ok F v ∧ ArgOk F vs ss
  | _, _ => False
theorem ArgOk.mono {F F' : Hp} (e : Same F F') : ∀ {vs : List V} {ss : List Fz}, ArgOk F vs ss → ArgOk F' vs ss
  | [], [], _ => trivial
  | [], _ :: _, h => h.elim
  | _ :: _, [], h => h.elim
  | _ :: _, _ :: _, ⟨a, b⟩ => ⟨Fz.mono e a, ArgOk.mono e b⟩
def EvA (B : Wd) (Γ : List Sl) (ta : TA) (ss : List Fz) : Prop := ∀ F H σ, EnvOk B Γ F H σ → ∀ Q : List V → Hp → Prop, (∀ F' H' vs, Ex F H F' H' → ArgOk F' vs ss → Q vs H') → ta σ H Q
def EvH (B : Wd) (Γ : List Sl) (ta : TA) {A : Type} (R : Rel A) (xs : List A) : Prop := ∀ F H σ, EnvOk B Γ F H σ → ∀ Q : List V → Hp → Prop, (∀ F' H' vs, Ex F H F' H' → AllR (R F') vs xs → Q vs H') → ta σ H Q
def EvO (B : Wd) (Γ : List Sl) (to : TO) (o : Option Int) : Prop := ∀ F H σ, EnvOk B Γ F H σ → ∀ Q : Option Int → Hp → Prop, (∀ F' H', Ex F H F' H' → Q o H') → to σ H Q

theorem mx {A : Type} {R : Rel A} (m : Mn R) {F F' : Hp} {v : V} {x : A} (s : Same F F') (h : R F v x) : R F' v x := m.mono s h
section
variable {B : Wd} {Γ : List Sl} {K : PySem.W.Frag} {ta tb tc te : TE} {A A' A'' : Type} {R : Rel A} {S : Rel A'} {T : Rel A''}
theorem Ev.p {x : A} {P : A → Prop} (h : Ev B Γ te R x) (hp : P x) : EvP B Γ te R P := fun F H σ e Q q => h F H σ e Q fun F' H' v a b => q F' H' v x a b hp
theorem Ev.to {x y : A} (h : Ev B Γ te R x) (e : x = y) : Ev B Γ te R y := e ▸ h
theorem EvT.to {tt : TT} {b c : Bool} (h : EvT B Γ tt b) (e : b = c) : EvT B Γ tt c := e ▸ h
theorem EvL.to {xs ys : List A} (h : EvL B Γ te R xs) (e : xs = ys) : EvL B Γ te R ys := e ▸ h
/-- a new list, frozen at once -/
theorem Ex.frz {F H F' H' : Hp} {p : Addr} {o : HO} (e : Ex F H F' H') (hp : H p = none) (hf : F' p = none) (h : H' p = some o) : Ex F H (upd F' p o) H' :=
  ⟨e.ff.trans (same_upd hf), e.hh, fun b u q => by
    by_cases c : b = p
    · subst c; rw [upd_same] at q; rw [← q]; exact h
    · rw [upd_ne c] at q; exact e.fh b u q, fun b a k => by
    rw [upd_ne (fun z => k (by rw [z]; exact hp))]; exact e.fr b a k⟩
theorem EvL.ev [m : Mn R] {xs : List A} (h : EvL B Γ te R xs) : Ev B Γ te (rLst R) xs := fun F H σ e Q q => h F H σ e Q fun F' H' p vs a hp hf hh r =>
  q (upd F' p (.lst vs)) H' (.ref p) (a.frz hp hf hh) ⟨p, vs, rfl, upd_same, r.imp fun _ _ => m.mono (same_upd hf)⟩
/-! ### names, constants -/
theorem ev_var {i : Nat} {m : Mn R} {x : A} (h : Γ[i]? = some (.fz ⟨A, R, m, x⟩)) : Ev B Γ (tVar i) R x := fun F H σ e Q q => by
  obtain ⟨o, a, v, rfl, r⟩ := e.ok i _ h
  exact ⟨v, a, q F H v (Ex.refl e.fh) r⟩
theorem ev_int {n : Int} : Ev B Γ (tC (.int n)) rInt n := fun F H σ e Q q => q F H _ (Ex.refl e.fh) rfl
theorem ev_bl {b : Bool} : Ev B Γ (tC (.bl b)) rBl b := fun F H σ e Q q => q F H _ (Ex.refl e.fh) rfl
theorem ev_non : Ev B Γ (tC .non) rNon () := fun F H σ e Q q => q F H _ (Ex.refl e.fh) rfl
theorem ev_none : Ev B Γ (tC .non) (rOpt R) none := fun F H σ e Q q => q F H _ (Ex.refl e.fh) rfl
theorem Ev.some {x : A} (h : Ev B Γ te R x) : Ev B Γ te (rOpt R) (Option.some x) := h
theorem Ev.unopt {x : A} (h : Ev B Γ te (rOpt R) (Option.some x)) : Ev B Γ te R x := h
/-! ### two in a row -/
theorem ev2 {x : A} {y : A'} [m : Mn R] (ha : Ev B Γ ta R x) (hb : Ev B Γ tb S y) {F H : Hp} {σ : L2.St} (e : EnvOk B Γ F H σ) {N : V → V → Hp → Prop}
    (k : ∀ F' H' v u, Ex F H F' H' → R F' v x → S F' u y → N v u H') : ta σ H fun v H1 => tb σ H1 fun u H2 => N v u H2 :=
  ha F H σ e _ fun F1 H1 v e1 r1 => hb F1 H1 σ (e.ext e1) _ fun F2 H2 u e2 r2 => k F2 H2 v u (e1.trans e2) (m.mono e2.ff r1) r2
theorem ev_op {x : A} {y : A'} [m : Mn R] {r : R2} {z : A''} (ha : Ev B Γ ta R x) (hb : Ev B Γ tb S y) (hr : ∀ F H v u (Q : VK), Same F H → R F v x → S F u y → (∀ F' H' w, Ex F H F' H' → T F' w z → Q w H') → r v u H Q) :
    Ev B Γ (tOp r ta tb) T z := fun F H σ e Q q => ev2 ha hb e fun F' H' v u e1 r1 r2 => hr F' H' v u Q e1.fh r1 r2 fun F2 H2 w e2 r3 => q F2 H2 w (e1.trans e2) r3
theorem ev_opI0 {i j : Int} {f : Int → Int → Int} (ha : Ev B Γ ta rInt i) (hb : Ev B Γ tb rInt j) : Ev B Γ (tOp (rI0 fun i j => .int (f i j)) ta tb) rInt (f i j) :=
  ev_op ha hb fun F H v u Q s a b q => by
    rw [show v = .int i from a, show u = .int j from b]
    exact ⟨i, j, rfl, rfl, q F H _ (Ex.refl s) rfl⟩
theorem ev_opI {i j : Int} {C : Int → Int → Prop} {f : Int → Int → Int} (ha : Ev B Γ ta rInt i) (hb : Ev B Γ tb rInt j) (hc : C i j) : Ev B Γ (tOp (rI C fun i j => .int (f i j)) ta tb) rInt (f i j) :=
  ev_op ha hb fun F H v u Q s a b q => by
    rw [show v = .int i from a, show u = .int j from b]
    exact ⟨i, j, rfl, rfl, hc, q F H _ (Ex.refl s) rfl⟩
theorem ev_opB0 {i j : Int} {f : Int → Int → Bool} (ha : Ev B Γ ta rInt i) (hb : Ev B Γ tb rInt j) : Ev B Γ (tOp (rI0 fun i j => .bl (f i j)) ta tb) rBl (f i j) :=
  ev_op ha hb fun F H v u Q s a b q => by
    rw [show v = .int i from a, show u = .int j from b]
    exact ⟨i, j, rfl, rfl, q F H _ (Ex.refl s) rfl⟩
theorem dec_vi {i j : Int} : decide (V.int i = V.int j) = decide (i = j) := by
  by_cases e : i = j
  · subst e; rw [decide_eq_true rfl, decide_eq_true rfl]
  · rw [decide_eq_false e, decide_eq_false fun q => e (V.int.inj q)]
theorem ev_eqI {i j : Int} (ha : Ev B Γ ta rInt i) (hb : Ev B Γ tb rInt j) : Ev B Γ (tOp rEq ta tb) rBl (decide (i = j)) :=
  ev_op ha hb fun F H v u Q s a b q => by
    rw [show v = .int i from a, show u = .int j from b]
    exact ⟨rfl, by rw [dec_vi]; exact q F H _ (Ex.refl s) rfl⟩
theorem ev_neI {i j : Int} (ha : Ev B Γ ta rInt i) (hb : Ev B Γ tb rInt j) : Ev B Γ (tOp rNe ta tb) rBl (!decide (i = j)) :=
  ev_op ha hb fun F H v u Q s a b q => by
    rw [show v = .int i from a, show u = .int j from b]
    exact ⟨rfl, by rw [dec_vi]; exact q F H _ (Ex.refl s) rfl⟩
theorem dec_nn {v : V} (h : v ≠ .non) : decide (v = .non) = false := decide_eq_false h
theorem ev_isN [n : Nn R] {o : Option A} (ha : Ev B Γ ta (rOpt R) o) : Ev B Γ (tOp rIsN ta (tC .non)) rBl o.isNone := fun F H σ e Q q =>
  ha F H σ e _ fun F1 H1 v e1 r1 => by
    cases o with
    | none =>
      rw [show v = .non from r1]
      exact ⟨rfl, q F1 H1 _ e1 rfl⟩
    | some x =>
      refine ⟨rfl, ?_⟩
      rw [dec_nn (n.nn (show R F1 v x from r1))]
      exact q F1 H1 _ e1 rfl
theorem ev_notN [n : Nn R] {o : Option A} (ha : Ev B Γ ta (rOpt R) o) : Ev B Γ (tOp rNotN ta (tC .non)) rBl o.isSome := fun F H σ e Q q =>
  ha F H σ e _ fun F1 H1 v e1 r1 => by
    cases o with
    | none =>
      rw [show v = .non from r1]
      exact ⟨rfl, q F1 H1 _ e1 rfl⟩
    | some x =>
      refine ⟨rfl, ?_⟩
      rw [dec_nn (n.nn (show R F1 v x from r1))]
      exact q F1 H1 _ e1 rfl
/-! ### tests -/
variable {tt uu : TT}
theorem et_test {b : Bool} (h : Ev B Γ te rBl b) : EvT B Γ (tTest te) b := fun F H σ e Q q => h F H σ e _ fun F1 H1 v e1 r => ⟨b, r, q F1 H1 e1⟩
theorem et_B {b : Bool} (h : Ev B Γ te rBl b) : EvT B Γ (tB te) b := fun F H σ e Q q => h F H σ e _ fun F1 H1 v e1 r => ⟨b, r, q F1 H1 e1⟩
theorem et_and {a b : Bool} (h1 : EvT B Γ tt a) (h2 : a = true → EvT B Γ uu b) : EvT B Γ (tAnd tt uu) (a && b) := fun F H σ e Q q => h1 F H σ e _ fun F1 H1 e1 => by
  cases a with
  | true =>
    show uu σ H1 Q
    exact h2 rfl F1 H1 σ (e.ext e1) Q fun F2 H2 e2 => q F2 H2 (e1.trans e2)
  | false => exact q F1 H1 e1
theorem et_or {a b : Bool} (h1 : EvT B Γ tt a) (h2 : a = false → EvT B Γ uu b) : EvT B Γ (tOr tt uu) (a || b) := fun F H σ e Q q => h1 F H σ e _ fun F1 H1 e1 => by
  cases a with
  | true => exact q F1 H1 e1
  | false =>
    show uu σ H1 Q
    exact h2 rfl F1 H1 σ (e.ext e1) Q fun F2 H2 e2 => q F2 H2 (e1.trans e2)
theorem et_not {a : Bool} (h : EvT B Γ tt a) : EvT B Γ (tNot tt) (!a) := fun F H σ e Q q => h F H σ e _ fun F1 H1 e1 => q F1 H1 e1
theorem ev_orV {a b : Bool} (h1 : Ev B Γ ta rBl a) (h2 : a = false → Ev B Γ tb rBl b) : Ev B Γ (tOrV ta tb) rBl (a || b) := fun F H σ e Q q => h1 F H σ e _ fun F1 H1 v e1 r1 => ⟨a, r1, by
  cases a with
  | true => exact q F1 H1 _ e1 rfl
  | false =>
    show tb σ H1 Q
    exact h2 rfl F1 H1 σ (e.ext e1) Q fun F2 H2 u e2 r2 => q F2 H2 u (e1.trans e2) r2⟩
theorem ev_andV {a b : Bool} (h1 : Ev B Γ ta rBl a) (h2 : a = true → Ev B Γ tb rBl b) : Ev B Γ (tAndV ta tb) rBl (a && b) := fun F H σ e Q q => h1 F H σ e _ fun F1 H1 v e1 r1 => ⟨a, r1, by
  cases a with
  | true =>
    show tb σ H1 Q
    exact h2 rfl F1 H1 σ (e.ext e1) Q fun F2 H2 u e2 r2 => q F2 H2 u (e1.trans e2) r2
  | false => exact q F1 H1 _ e1 rfl⟩
theorem ev_notV {a : Bool} (h : Ev B Γ ta rBl a) : Ev B Γ (tNotV ta) rBl (!a) := fun F H σ e Q q => h F H σ e _ fun F1 H1 v e1 r => ⟨a, r, q F1 H1 _ e1 rfl⟩
theorem ev_if {b : Bool} {x : A} (h : EvT B Γ tt b) (h1 : b = true → Ev B Γ ta R x) (h2 : b = false → Ev B Γ tb R x) : Ev B Γ (tIf tt ta tb) R x := fun F H σ e Q q => h F H σ e _ fun F1 H1 e1 => by
  cases b with
  | true =>
    show ta σ H1 Q
    exact h1 rfl F1 H1 σ (e.ext e1) Q fun F2 H2 u e2 r2 => q F2 H2 u (e1.trans e2) r2
  | false =>
    show tb σ H1 Q
    exact h2 rfl F1 H1 σ (e.ext e1) Q fun F2 H2 u e2 r2 => q F2 H2 u (e1.trans e2) r2
theorem et_chain {i j k : Int} {f g : Int → Int → Bool} (ha : Ev B Γ ta rInt i) (hb : Ev B Γ tb rInt j) (hc : Ev B Γ tc rInt k) :
    Ev B Γ (tChain (rI0 fun i j => .bl (f i j)) (rI0 fun i j => .bl (g i j)) ta tb tc) rBl (f i j && g j k) := fun F H σ e Q q => by
  refine ev2 ha hb e fun F' H' v u e1 r1 r2 => ?_
  rw [show v = .int i from r1, show u = .int j from r2]
  refine ⟨i, j, rfl, rfl, f i j, rfl, ?_⟩
  cases hf : f i j with
  | true =>
    show tc σ H' _
    refine hc F' H' σ (e.ext e1) _ fun F2 H2 w e2 r3 => ?_
    rw [show w = .int k from r3]
    exact ⟨j, k, rfl, rfl, q F2 H2 _ (e1.trans e2) (by rw [hf]; rfl)⟩
  | false => exact q F' H' _ e1 (by rw [hf]; rfl)
end
end G
set_option maxHeartbeats 4000000
namespace G
open PySem PySem.Spec PyProof.Rows L2
/-! ### named readings of built-ins -/
section
variable {X : Cx}
def rLen (K : PySem.W.Frag) : List V → Hp → VK → Prop := fun xs H Q => ∃ p ys, xs = [.ref p] ∧ (SqL K H p ys ∨ SqT K H p ys) ∧ Q (.int ys.length) H
theorem cl_len : CallR X (.builtin "len") (rLen X.K) := call_len_seq
def rAbs : List V → Hp → VK → Prop := fun xs H Q => ∃ i, xs = [.int i] ∧ Q (.int (if i < 0 then -i else i)) H
theorem cl_abs : CallR X (.builtin "abs") rAbs := call_abs
def rMax2 : List V → Hp → VK → Prop := fun xs H Q => ∃ i j, xs = [.int i, .int j] ∧ Q (.int (if j > i then j else i)) H
def rMin2 : List V → Hp → VK → Prop := fun xs H Q => ∃ i j, xs = [.int i, .int j] ∧ Q (.int (if j < i then j else i)) H
theorem cl_max2 (hc : X.calm = true) : CallR X (.builtin "max") rMax2 := call_max2 hc
theorem cl_min2 (hc : X.calm = true) : CallR X (.builtin "min") rMin2 := call_min2 hc
def rInt1 : List V → Hp → VK → Prop := fun xs H Q => (∃ i, xs = [.int i] ∧ Q (.int i) H) ∨ ∃ k, xs = [.bl k] ∧ Q (.int (if k then 1 else 0)) H
theorem cl_int : CallR X (.type "int") rInt1 := call_int1
def rListOf (K : PySem.W.Frag) : List V → Hp → VK → Prop := fun xs H Q => ∃ p ys, xs = [.ref p] ∧ (SqL K H p ys ∨ SqT K H p ys) ∧ ∀ l, H l = none → Q (.ref l) (upd H l (.lst ys))
theorem cl_list : CallR X (.type "list") (rListOf X.K) := call_list_of
def rTupOf (K : PySem.W.Frag) : List V → Hp → VK → Prop := fun xs H Q => ∃ p ys, xs = [.ref p] ∧ ((SqL K H p ys ∧ ∀ l, H l = none → Q (.ref l) (upd H l (.tup ys))) ∨ (SqT K H p ys ∧ Q (.ref p) H))
theorem cl_tuple : CallR X (.type "tuple") (rTupOf X.K) := call_tuple_of
end
section
variable {X : Cx} {C : Addr} {o e value : Expr} {fl : Str} {pos pos' : Pos} {ta tv : TE}
/-- an attribute, the class's facts given -/
def tF (C : Addr) (ta : TE) (f : Str) : TE := fun σ H Q => ta σ H fun x H1 => ∃ a dx fs v, x = .ref a ∧ H1 a = some (.ins C dx fs) ∧ fs.lookup f = some v ∧ Q v H1
def sF (C : Addr) (ta tv : TE) (f : Str) : TS := fun D σ H => tv σ H fun y H1 => ta σ H1 fun x H2 => ∃ a dx fs, x = .ref a ∧ H2 a = some (.ins C dx fs) ∧ fs.length < 1000 ∧ D.nx σ (upd H2 a (.ins C dx (putF f y fs)))
theorem pe_fT (he : PE X e ta) (c : Cls X.K C) (n : NoAttr X.K C fl) (hb : attributeBase e fl X.env (eval e X.env) = eval e X.env := by rfl) : PE X (.Attribute e fl pos) (tF C ta fl) :=
  ⟨fun pins s σ H Q I h => attr_of hb (thn (he.run pins s σ H _ I h) fun u s1 ⟨x, H1, I1, rx, a, dx, fs, v, ex, ea, l, q⟩ => by
    cases ex
    cases (show u = Value.ref a from rx)
    exact getattr_ok I1 ea c n l fun w s2 I2 ru => ⟨v, H1, I2, ru, q⟩)⟩
theorem ps_fT (ha : PE X o ta) (hv : PE X value tv) (c : Cls X.K C) (n : NoAttr X.K C fl) (hs : swapsWith value (some (.Attribute o fl pos')) pos.line X.env = pure false := by rfl) : PS X (.Assign [.Attribute o fl pos'] value pos) (sF C ta tv fl) :=
  ⟨fun pins s σ H D I h => plainObj_wpAny_Assign_Attribute (thn (hv.run pins s σ H _ I h) fun u s1 ⟨y, H1, I1, ry, q⟩ => thn (ha.run pins s1 σ H1 _ I1 q) fun ov s2 ⟨x, H2, I2, rx, a, dx, fs, ex, ea, l, q2⟩ => by
    cases ex
    cases (show ov = Value.ref a from rx)
    exact setattr_ok I2 ea c n l ry fun s3 I3 => ⟨σ, _, I3, q2⟩) hs⟩
end
theorem sz {n : Nat} (h : n ≤ 10000000) : n ≤ sizeLine := Nat.le_trans h (by decide)
theorem szl {n : Nat} (h : n < 10000000) : n < sizeLine := Nat.lt_of_lt_of_le h (by decide)
section
variable {B : Wd} {Γ : List Sl} {K : PySem.W.Frag} {ta tb tc te : TE} {A A' A'' : Type} {R : Rel A} {S : Rel A'} {T : Rel A''}
/-! ### arguments -/
theorem ea_nil : EvA B Γ tNil [] := fun F H σ e Q q => q F H [] (Ex.refl e.fh) trivial
theorem ea_cons {m : Mn R} {x : A} {tr : TA} {ss : List Fz} (h : Ev B Γ ta R x) (hr : EvA B Γ tr ss) : EvA B Γ (tCons ta tr) (⟨A, R, m, x⟩ :: ss) := fun F H σ e Q q =>
  h F H σ e _ fun F1 H1 v e1 r1 => hr F1 H1 σ (e.ext e1) _ fun F2 H2 vs e2 r2 => q F2 H2 _ (e1.trans e2) ⟨m.mono e2.ff r1, r2⟩
theorem eh_nil : EvH B Γ tNil R [] := fun F H σ e Q q => q F H [] (Ex.refl e.fh) AllR.nil
theorem eh_cons [m : Mn R] {x : A} {tr : TA} {xs : List A} (h : Ev B Γ ta R x) (hr : EvH B Γ tr R xs) : EvH B Γ (tCons ta tr) R (x :: xs) := fun F H σ e Q q =>
  h F H σ e _ fun F1 H1 v e1 r1 => hr F1 H1 σ (e.ext e1) _ fun F2 H2 vs e2 r2 => q F2 H2 _ (e1.trans e2) (AllR.cons (m.mono e2.ff r1) r2)
/-! ### new objects -/
/-- what a rule gives that makes a new list at any free place -/
theorem newL {F H : Hp} {vs : List V} {xs : List A} [m : Mn R] {Q : VK} (s : Same F H) (r : AllR (R F) vs xs) (q : ∀ F' H' p ws, Ex F H F' H' → H p = none → F' p = none → H' p = some (.lst ws) → AllR (R F') ws xs → Q (.ref p) H') :
    ∀ p, H p = none → Q (.ref p) (upd H p (.lst vs)) := fun p hp => q F _ p vs (Ex.own s hp) hp (s.free hp) upd_same r
theorem el_disp [m : Mn R] {t : TA} {xs : List A} (h : EvH B Γ t R xs) (hl : xs.length ≤ 10000000) : EvL B Γ (tLst t) R xs := fun F H σ e Q q =>
  h F H σ e _ fun F1 H1 vs e1 r1 => ⟨sz (by rw [r1.1]; exact hl), newL (R := R) e1.fh r1 fun F' H' p ws e2 h1 h2 h3 h4 => q F' H' p ws (e1.trans e2) (e1.hh.free h1) h2 h3 h4⟩
theorem el_nil [m : Mn R] : EvL B Γ (tLst tNil) R [] := el_disp eh_nil (Nat.zero_le _)
theorem ev_pair [m : Mn R] [n : Mn S] {x : A} {y : A'} (ha : Ev B Γ ta R x) (hb : Ev B Γ tb S y) : Ev B Γ (tTup (tCons ta (tCons tb tNil))) (rPair R S) (x, y) := fun F H σ e Q q =>
  ev2 ha hb e fun F1 H1 v u e1 r1 r2 => ⟨by show 2 ≤ sizeLine; decide, fun p hp => q (upd F1 p (.tup [v, u])) _ (.ref p) (e1.trans (Ex.new e1.fh hp)) ⟨p, v, u, rfl, upd_same, m.mono (same_upd (e1.fh.free hp)) r1, n.mono (same_upd (e1.fh.free hp)) r2⟩⟩
theorem ev_tri [m : Mn R] [n : Mn S] [k : Mn T] {x : A} {y : A'} {z : A''} (ha : Ev B Γ ta R x) (hb : Ev B Γ tb S y) (hc : Ev B Γ tc T z) : Ev B Γ (tTup (tCons ta (tCons tb (tCons tc tNil)))) (rTri R S T) (x, y, z) := fun F H σ e Q q =>
  ev2 ha hb e fun F1 H1 v u e1 r1 r2 => hc F1 H1 σ (e.ext e1) _ fun F2 H2 w e2 r3 => ⟨by show 3 ≤ sizeLine; decide, fun p hp =>
    q (upd F2 p (.tup [v, u, w])) _ (.ref p) ((e1.trans e2).trans (Ex.new e2.fh hp)) ⟨p, v, u, w, rfl, upd_same, m.mono (e2.ff.trans (same_upd (e2.fh.free hp))) r1, n.mono (e2.ff.trans (same_upd (e2.fh.free hp))) r2, k.mono (same_upd (e2.fh.free hp)) r3⟩⟩
theorem el_cat [m : Mn R] {xs ys : List A} (ha : Ev B Γ ta (rLst R) xs) (hb : Ev B Γ tb (rLst R) ys) (hl : xs.length + ys.length ≤ 10000000) : EvL B Γ (tOp rCat ta tb) R (xs ++ ys) := fun F H σ e Q q =>
  ev2 ha hb e fun F1 H1 v u e1 ⟨a, vs, ea, ha, ra⟩ ⟨b, ws, eb, hb, rb⟩ => ⟨a, b, vs, ws, ea, eb, e1.fh _ _ ha, e1.fh _ _ hb, sz (by rw [ra.1, rb.1]; exact hl),
    newL (R := R) e1.fh (ra.append rb) fun F' H' p ws e2 h1 h2 h3 h4 => q F' H' p ws (e1.trans e2) (e1.hh.free h1) h2 h3 h4⟩
theorem rep_one {A : Type} (x : A) : ∀ k : Nat, (List.replicate k [x]).flatten = List.replicate k x
  | 0 => rfl
  | k + 1 => by
    rw [List.replicate_succ, List.flatten_cons, rep_one x k]
    rfl
/-- [x] * k -/
theorem el_rep [m : Mn R] {x : A} {k : Int} (ha : Ev B Γ ta R x) (hb : Ev B Γ tb rInt k) (h0 : 0 ≤ k) (hk : k ≤ 10000000) : EvL B Γ (tOp rRep (tLst (tCons ta tNil)) tb) R (List.replicate k.toNat x) := fun F H σ e Q q => by
  refine ha F H σ e _ fun F1 H1 v e1 r1 => ⟨by show 1 ≤ sizeLine; decide, fun l hl => ?_⟩
  have e2 : Ex F1 H1 F1 (upd H1 l (.lst [v])) := Ex.own e1.fh hl
  refine hb F1 _ σ ((e.ext e1).ext e2) _ fun F3 H3 u e3 r3 => ?_
  rw [show u = .int k from r3]
  refine ⟨l, k, [v], rfl, rfl, e3.hh _ _ upd_same, by omega, by omega, sz (by show 1 * k.toNat ≤ 10000000; omega), ?_⟩
  rw [rep_one]
  have e13 := (e1.trans e2).trans e3
  exact newL (R := R) e3.fh (AllR.rep (m.mono e3.ff r1) k.toNat) fun F' H' p ws e4 h1 h2 h3 h4 => q F' H' p ws (e13.trans e4) (e13.hh.free h1) h2 h3 h4
/-! ### reading lists, tuples -/
theorem AllR.at_ {P : V → A → Prop} {vs : List V} {xs : List A} (h : AllR P vs xs) {i : Int} {x : A} (e : atI xs i = some x) : ∃ v, atI vs i = some v ∧ P v x := by
  unfold atI at e ⊢
  rw [h.1]
  cases q : ixN xs.length i with
  | none => rw [q] at e; cases e
  | some j =>
    rw [q] at e
    obtain ⟨v, a, b⟩ := h.get (show xs[j]? = some x from e)
    exact ⟨v, a, b⟩
theorem ev_ixL {xs : List A} {i : Int} {x : A} (ha : Ev B Γ ta (rLst R) xs) (hb : Ev B Γ tb rInt i) [m : Mn R] (h : atI xs i = some x) : Ev B Γ (tOp (rIxL K) ta tb) R x := fun F H σ e Q q =>
  ev2 ha hb e fun F1 H1 v u e1 ⟨a, vs, ea, ha, ra⟩ r2 => by
    obtain ⟨w, h1, h2⟩ := ra.at_ h
    exact ⟨a, vs, i, w, ea, r2, SqL.of (e1.fh _ _ ha), h1, q F1 H1 w e1 h2⟩
theorem ev_ixT {xs : List A} {i : Int} {x : A} (ha : Ev B Γ ta (rTup R) xs) (hb : Ev B Γ tb rInt i) [m : Mn R] (h : atI xs i = some x) : Ev B Γ (tOp (rIxT K) ta tb) R x := fun F H σ e Q q =>
  ev2 ha hb e fun F1 H1 v u e1 ⟨a, vs, ea, ha, ra⟩ r2 => by
    obtain ⟨w, h1, h2⟩ := ra.at_ h
    exact ⟨a, vs, i, w, ea, r2, SqT.of (e1.fh _ _ ha), h1, q F1 H1 w e1 h2⟩
/-- the list of a slot that owns it -/
theorem ev_ixM {xs : List A} {i : Int} {x : A} {j : Nat} {m : Mn R} (hj : Γ[j]? = some (.ml R m xs)) (hb : Ev B Γ tb rInt i) (h : atI xs i = some x) : Ev B Γ (tOp (rIxL K) (tVar j) tb) R x := fun F H σ e Q q => by
  obtain ⟨o, h1, p, vs, rfl, hf, h0, hp, r⟩ := e.ok j _ hj
  refine ⟨.ref p, h1, hb F H σ e _ fun F1 H1 u e1 r1 => ?_⟩
  obtain ⟨w, h2, h3⟩ := r.at_ h
  exact ⟨p, vs, i, w, rfl, r1, SqL.of (e1.hh _ _ hp), h2, q F1 H1 w e1 (m.mono e1.ff h3)⟩
theorem at2_0 {u w : V} : atI [u, w] 0 = some u := rfl
theorem at2_1 {u w : V} : atI [u, w] 1 = some w := rfl
theorem ev_fst [m : Mn R] [n : Mn S] {x : A × A'} (ha : Ev B Γ ta (rPair R S) x) : Ev B Γ (tOp (rIxT K) ta (tC (.int 0))) R x.1 := fun F H σ e Q q =>
  ha F H σ e _ fun F1 H1 v e1 ⟨a, u, w, ea, ha, r1, r2⟩ => ⟨a, _, 0, u, ea, rfl, SqT.of (e1.fh _ _ ha), at2_0, q F1 H1 u e1 r1⟩
theorem ev_snd [m : Mn R] [n : Mn S] {x : A × A'} (ha : Ev B Γ ta (rPair R S) x) : Ev B Γ (tOp (rIxT K) ta (tC (.int 1))) S x.2 := fun F H σ e Q q =>
  ha F H σ e _ fun F1 H1 v e1 ⟨a, u, w, ea, ha, r1, r2⟩ => ⟨a, _, 1, w, ea, rfl, SqT.of (e1.fh _ _ ha), at2_1, q F1 H1 w e1 r2⟩
theorem ev_tri1 {x : A × A' × A''} (ha : Ev B Γ ta (rTri R S T) x) : Ev B Γ (tOp (rIxT K) ta (tC (.int 1))) S x.2.1 := fun F H σ e Q q =>
  ha F H σ e _ fun F1 H1 v e1 ⟨a, u, w, z, ea, ha, r1, r2, r3⟩ => ⟨a, _, 1, w, ea, rfl, SqT.of (e1.fh _ _ ha), rfl, q F1 H1 w e1 r2⟩
theorem ev_tri2 {x : A × A' × A''} (ha : Ev B Γ ta (rTri R S T) x) : Ev B Γ (tOp (rIxT K) ta (tC (.int 2))) T x.2.2 := fun F H σ e Q q =>
  ha F H σ e _ fun F1 H1 v e1 ⟨a, u, w, z, ea, ha, r1, r2, r3⟩ => ⟨a, _, 2, z, ea, rfl, SqT.of (e1.fh _ _ ha), rfl, q F1 H1 z e1 r3⟩
theorem ev_lenL {xs : List A} (ha : Ev B Γ ta (rLst R) xs) : Ev B Γ (tCB (rLen K) (tCons ta tNil)) rInt (xs.length : Int) := fun F H σ e Q q =>
  ha F H σ e _ fun F1 H1 v e1 ⟨a, vs, ea, ha, ra⟩ => ⟨a, vs, by rw [ea], .inl (SqL.of (e1.fh _ _ ha)), q F1 H1 _ e1 (by rw [ra.1]; rfl)⟩
theorem ev_lenT {xs : List A} (ha : Ev B Γ ta (rTup R) xs) : Ev B Γ (tCB (rLen K) (tCons ta tNil)) rInt (xs.length : Int) := fun F H σ e Q q =>
  ha F H σ e _ fun F1 H1 v e1 ⟨a, vs, ea, ha, ra⟩ => ⟨a, vs, by rw [ea], .inr (SqT.of (e1.fh _ _ ha)), q F1 H1 _ e1 (by rw [ra.1]; rfl)⟩
theorem ev_lenM {xs : List A} {j : Nat} {m : Mn R} (hj : Γ[j]? = some (.ml R m xs)) : Ev B Γ (tCB (rLen K) (tCons (tVar j) tNil)) rInt (xs.length : Int) := fun F H σ e Q q => by
  obtain ⟨o, h1, p, vs, rfl, hf, h0, hp, r⟩ := e.ok j _ hj
  exact ⟨.ref p, h1, p, vs, rfl, .inl (SqL.of hp), q F H _ (Ex.refl e.fh) (by rw [r.1]; rfl)⟩
/-! ### built-ins of ints -/
theorem ev_abs {i : Int} (ha : Ev B Γ ta rInt i) : Ev B Γ (tCB rAbs (tCons ta tNil)) rInt (if i < 0 then -i else i) := fun F H σ e Q q =>
  ha F H σ e _ fun F1 H1 v e1 r1 => ⟨i, by rw [show v = .int i from r1], q F1 H1 _ e1 rfl⟩
theorem ev_int1 {i : Int} (ha : Ev B Γ ta rInt i) : Ev B Γ (tCB rInt1 (tCons ta tNil)) rInt i := fun F H σ e Q q =>
  ha F H σ e _ fun F1 H1 v e1 r1 => .inl ⟨i, by rw [show v = .int i from r1], q F1 H1 _ e1 rfl⟩
theorem ev_intB {b : Bool} (ha : Ev B Γ ta rBl b) : Ev B Γ (tCB rInt1 (tCons ta tNil)) rInt (if b then 1 else 0) := fun F H σ e Q q =>
  ha F H σ e _ fun F1 H1 v e1 r1 => .inr ⟨b, by rw [show v = .bl b from r1], q F1 H1 _ e1 rfl⟩
theorem ev_max2 {i j : Int} (ha : Ev B Γ ta rInt i) (hb : Ev B Γ tb rInt j) : Ev B Γ (tCB rMax2 (tCons ta (tCons tb tNil))) rInt (max i j) := fun F H σ e Q q =>
  ev2 ha hb e fun F1 H1 v u e1 r1 r2 => ⟨i, j, by rw [show v = .int i from r1, show u = .int j from r2], q F1 H1 _ e1 (by show V.int _ = V.int _; congr 1; split <;> omega)⟩
theorem ev_min2 {i j : Int} (ha : Ev B Γ ta rInt i) (hb : Ev B Γ tb rInt j) : Ev B Γ (tCB rMin2 (tCons ta (tCons tb tNil))) rInt (min i j) := fun F H σ e Q q =>
  ev2 ha hb e fun F1 H1 v u e1 r1 r2 => ⟨i, j, by rw [show v = .int i from r1, show u = .int j from r2], q F1 H1 _ e1 (by show V.int _ = V.int _; congr 1; split <;> omega)⟩
theorem ev_sum {xs : List Int} (ha : Ev B Γ ta (rLst rInt) xs) : Ev B Γ (tCB (rSum K) (tCons ta tNil)) rInt xs.sum := fun F H σ e Q q =>
  ha F H σ e _ fun F1 H1 v e1 ⟨a, vs, ea, ha, ra⟩ => ⟨a, xs, by rw [ea], by rw [← ra.ints]; exact SqL.of (e1.fh _ _ ha), q F1 H1 _ e1 rfl⟩
theorem ev_minL {xs : List Int} {z : Int} (ha : Ev B Γ ta (rLst rInt) xs) (hne : 0 < xs.length) (hz : ∀ m, m ∈ xs → (∀ y, y ∈ xs → m ≤ y) → m = z) : Ev B Γ (tCB (rMin K) (tCons ta tNil)) rInt z := fun F H σ e Q q =>
  ha F H σ e _ fun F1 H1 v e1 ⟨a, vs, ea, ha, ra⟩ => ⟨a, xs, by rw [ea], by rw [← ra.ints]; exact SqL.of (e1.fh _ _ ha), hne, fun m h1 h2 => q F1 H1 _ e1 (by rw [hz m h1 h2]; rfl)⟩
theorem ev_maxL {xs : List Int} {z : Int} (ha : Ev B Γ ta (rLst rInt) xs) (hne : 0 < xs.length) (hz : ∀ m, m ∈ xs → (∀ y, y ∈ xs → y ≤ m) → m = z) : Ev B Γ (tCB (rMax K) (tCons ta tNil)) rInt z := fun F H σ e Q q =>
  ha F H σ e _ fun F1 H1 v e1 ⟨a, vs, ea, ha, ra⟩ => ⟨a, xs, by rw [ea], by rw [← ra.ints]; exact SqL.of (e1.fh _ _ ha), hne, fun m h1 h2 => q F1 H1 _ e1 (by rw [hz m h1 h2]; rfl)⟩
/-- a tuple of ints summed -/
theorem el_listL [m : Mn R] {xs : List A} (ha : Ev B Γ ta (rLst R) xs) : EvL B Γ (tCB (rListOf K) (tCons ta tNil)) R xs := fun F H σ e Q q =>
  ha F H σ e _ fun F1 H1 v e1 ⟨a, vs, ea, ha, ra⟩ => ⟨a, vs, by rw [ea], .inl (SqL.of (e1.fh _ _ ha)), newL (R := R) e1.fh ra fun F' H' p ws e2 h1 h2 h3 h4 => q F' H' p ws (e1.trans e2) (e1.hh.free h1) h2 h3 h4⟩
theorem ev_tupL [m : Mn R] {xs : List A} (ha : Ev B Γ ta (rLst R) xs) : Ev B Γ (tCB (rTupOf K) (tCons ta tNil)) (rTup R) xs := fun F H σ e Q q =>
  ha F H σ e _ fun F1 H1 v e1 ⟨a, vs, ea, ha, ra⟩ => ⟨a, vs, by rw [ea], .inl ⟨SqL.of (e1.fh _ _ ha), fun p hp => q (upd F1 p (.tup vs)) _ (.ref p) (e1.trans (Ex.new e1.fh hp)) ⟨p, vs, rfl, upd_same, ra.imp fun _ _ => m.mono (same_upd (e1.fh.free hp))⟩⟩⟩
theorem ev_neg {i : Int} (ha : Ev B Γ ta rInt i) : Ev B Γ (tUn (rU fun i => .int (-i)) ta) rInt (-i) := fun F H σ e Q q =>
  ha F H σ e _ fun F1 H1 v e1 r1 => ⟨i, r1, q F1 H1 _ e1 rfl⟩
/-! ### slices -/
theorem eo_none : EvO B Γ tNoPart none := fun F H σ e Q q => q F H (Ex.refl e.fh)
theorem eo_some {i : Int} (h : Ev B Γ te rInt i) : EvO B Γ (tPart te) (some i) := fun F H σ e Q q => h F H σ e _ fun F1 H1 v e1 r1 => ⟨i, r1, q F1 H1 e1⟩
def cutA {A : Type} (xs : List A) (lo hi : Option Int) : List A := (xs.drop (HT.sIx xs.length 0 lo)).take (HT.sIx xs.length xs.length hi - HT.sIx xs.length 0 lo)
theorem AllR.cut {P : V → A → Prop} {vs : List V} {xs : List A} (h : AllR P vs xs) (lo hi : Option Int) : AllR P (cutV vs lo hi) (cutA xs lo hi) := by
  unfold cutV cutA
  rw [h.1]
  exact (h.drop _).take _
theorem el_slice [m : Mn R] {xs : List A} {tl th : TO} {lo hi : Option Int} (ha : Ev B Γ ta (rLst R) xs) (hl : EvO B Γ tl lo) (hh : EvO B Γ th hi) : EvL B Γ (tSl (rSlL K) ta tl th) R (cutA xs lo hi) := fun F H σ e Q q =>
  ha F H σ e _ fun F1 H1 v e1 ⟨a, vs, ea, ha, ra⟩ => hl F1 H1 σ (e.ext e1) _ fun F2 H2 e2 => hh F2 H2 σ ((e.ext e1).ext e2) _ fun F3 H3 e3 => by
    have e13 := (e1.trans e2).trans e3
    exact ⟨a, vs, ea, SqL.of (e13.fh _ _ ((e2.trans e3).ff _ _ ha)), newL (R := R) e3.fh ((ra.imp fun _ _ => m.mono (e2.trans e3).ff).cut lo hi) fun F' H' p ws e4 h1 h2 h3 h4 => q F' H' p ws (e13.trans e4) (e13.hh.free h1) h2 h3 h4⟩
theorem el_sliceM {xs : List A} {tl th : TO} {lo hi : Option Int} {j : Nat} {m : Mn R} (hj : Γ[j]? = some (.ml R m xs)) (hl : EvO B Γ tl lo) (hh : EvO B Γ th hi) : EvL B Γ (tSl (rSlL K) (tVar j) tl th) R (cutA xs lo hi) := fun F H σ e Q q => by
  obtain ⟨o, h1, p, vs, rfl, hf, h0, hp, r⟩ := e.ok j _ hj
  refine ⟨.ref p, h1, hl F H σ e _ fun F2 H2 e2 => hh F2 H2 σ (e.ext e2) _ fun F3 H3 e3 => ?_⟩
  have e13 := e2.trans e3
  exact ⟨p, vs, rfl, SqL.of (e13.hh _ _ hp), newL (R := R) e3.fh ((r.imp fun _ _ => m.mono e13.ff).cut lo hi) fun F' H' p ws e4 h1 h2 h3 h4 => q F' H' p ws (e13.trans e4) (e13.hh.free h1) h2 h3 h4⟩
/-! ### attributes -/
theorem ev_fld {C : Addr} {fs : A → Fs} {x : A} {f : Str} {m : Mn S} {y : A'} (ha : Ev B Γ ta (rObj C fs) x) (h : (fs x).lookup f = some ⟨A', S, m, y⟩) : Ev B Γ (tF C ta f) S y := fun F H σ e Q q =>
  ha F H σ e _ fun F1 H1 v e1 ⟨p, dx, vs, ea, hp, r⟩ => by
    obtain ⟨u, h1, h2⟩ := r.get h
    exact ⟨p, dx, vs, u, ea, e1.fh _ _ hp, h1, q F1 H1 u e1 h2⟩
theorem ev_fldM {C : Addr} {fs : Fs} {f : Str} {m : Mn S} {y : A'} {j : Nat} {p : Addr} (hj : Γ[j]? = some (.mo p C fs)) (h : fs.lookup f = some ⟨A', S, m, y⟩) : Ev B Γ (tF C (tVar j) f) S y := fun F H σ e Q q => by
  obtain ⟨o, h1, dx, vs, rfl, hf, h0, hp, r⟩ := e.ok j _ hj
  obtain ⟨u, h2, h3⟩ := r.get h
  exact ⟨.ref p, h1, p, dx, vs, u, rfl, hp, h2, q F H u (Ex.refl e.fh) h3⟩
theorem ev_fldR {C : Addr} {fs : Fs} {f : Str} {m : Mn S} {y : A'} {j : Nat} (hj : Γ[j]? = some (.ro C fs)) (h : fs.lookup f = some ⟨A', S, m, y⟩) : Ev B Γ (tF C (tVar j) f) S y := fun F H σ e Q q => by
  obtain ⟨o, h1, p, dx, vs, rfl, hf, h0, r⟩ := e.ok j _ hj
  obtain ⟨u, h2, h3⟩ := r.get h
  exact ⟨.ref p, h1, p, dx, vs, u, rfl, e.ex.hh _ _ h0, h2, q F H u (Ex.refl e.fh) h3⟩
end
end G
set_option maxHeartbeats 4000000
namespace G
open PySem PySem.Spec PyProof.Rows L2
/-! ### targets -/
structure Tgt {A : Type} (g : TG) (R : Rel A) (js : List Nat) (u : A → List Sl → List Sl) : Prop where
  run : ∀ {B : Wd} {Γ : List Sl} {F H : Hp} {σ : L2.St} {v : V} {x : A} {N : L2.St → Hp → Prop}, EnvOk B Γ F H σ → R F v x →
    (∀ σ', EnvOk B (u x Γ) F H σ' → σ'.length = σ.length → (∀ i, i ∉ js → σ'[i]? = σ[i]?) → N σ' H) → g v σ H N
section
variable {K : PySem.W.Frag} {A A' A'' : Type} {R : Rel A} {S : Rel A'} {T : Rel A''}
theorem set_off {σ : L2.St} {j : Nat} {o : Option V} {js : List Nat} (hj : j ∈ js) (i : Nat) (hi : i ∉ js) : (σ.set j o)[i]? = σ[i]? := List.getElem?_set_ne fun e => hi (by rw [← e]; exact hj)
theorem tg_name [m : Mn R] {j : Nat} : Tgt (gName j) R [j] fun x Γ => Γ.set j (sf R x) :=
  ⟨fun {B Γ F H σ v x N} e r k => k _ (e.setFz r) List.length_set (set_off (List.mem_singleton.mpr rfl))⟩
theorem tg_pair [m : Mn R] [n : Mn S] {j k : Nat} : Tgt (gTup K 2 (gCons (gName j) (gCons (gName k) gNil))) (rPair R S) [j, k] fun x Γ => (Γ.set j (sf R x.1)).set k (sf S x.2) :=
  ⟨fun {B Γ F H σ v x N} e ⟨a, u, w, ea, ha, r1, r2⟩ q => ⟨a, [u, w], ea, SqT.of (e.fh _ _ ha), rfl, u, [w], rfl, w, [], rfl, rfl, q _ ((e.setFz r1).setFz r2) (by rw [List.length_set, List.length_set]) fun i hi => by
    rw [set_off (js := [j, k]) (by simp) i hi, set_off (js := [j, k]) (by simp) i hi]⟩⟩
theorem tg_tri [m : Mn R] [n : Mn S] [o : Mn T] {j k l : Nat} : Tgt (gTup K 3 (gCons (gName j) (gCons (gName k) (gCons (gName l) gNil)))) (rTri R S T) [j, k, l] fun x Γ => ((Γ.set j (sf R x.1)).set k (sf S x.2.1)).set l (sf T x.2.2) :=
  ⟨fun {B Γ F H σ v x N} e ⟨a, u, w, z, ea, ha, r1, r2, r3⟩ q => ⟨a, [u, w, z], ea, SqT.of (e.fh _ _ ha), rfl, u, [w, z], rfl, w, [z], rfl, z, [], rfl, rfl, q _ (((e.setFz r1).setFz r2).setFz r3) (by rw [List.length_set, List.length_set, List.length_set]) fun i hi => by
    rw [set_off (js := [j, k, l]) (by simp) i hi, set_off (js := [j, k, l]) (by simp) i hi, set_off (js := [j, k, l]) (by simp) i hi]⟩⟩
end
/-! ### a comprehension's block -/
def wipeG (Γ : List Sl) : List Nat → List Sl
  | [] => Γ
  | v :: vs => (wipeG Γ vs).set v .any
theorem EnvOk.wipe {B : Wd} {Γ : List Sl} {F H : Hp} {σ : L2.St} (h : EnvOk B Γ F H σ) : ∀ vs : List Nat, EnvOk B (wipeG Γ vs) F H (L2.wipe σ vs)
  | [] => h
  | v :: vs => (h.wipe vs).set (s := .any) trivial rfl
theorem wipe_get (σ : L2.St) : ∀ (vs : List Nat) (i : Nat), (L2.wipe σ vs)[i]? = if i ∈ vs ∧ i < σ.length then some none else σ[i]?
  | [], i => by simp [L2.wipe]
  | v :: vs, i => by
    show ((L2.wipe σ vs).set v none)[i]? = _
    by_cases e : v = i
    · subst e
      by_cases hv : v < σ.length
      · rw [List.getElem?_set_self (by rw [wipe_length]; exact hv), if_pos ⟨List.mem_cons_self, hv⟩]
      · rw [if_neg (fun q => hv q.2), List.getElem?_eq_none (by rw [List.length_set, wipe_length]; omega), List.getElem?_eq_none (by omega)]
    · rw [List.getElem?_set_ne e, wipe_get σ vs i]
      by_cases c : i ∈ vs ∧ i < σ.length
      · rw [if_pos c, if_pos ⟨List.mem_cons_of_mem _ c.1, c.2⟩]
      · rw [if_neg c, if_neg (fun q => c ⟨(List.mem_cons.mp q.1).resolve_left (Ne.symm e), q.2⟩)]
theorem wipe_eq {σ σ' : L2.St} {vs js : List Nat} (hj : ∀ j, j ∈ js → j ∈ vs) (hl : σ'.length = σ.length) (h : ∀ i, i ∉ js → σ'[i]? = (L2.wipe σ vs)[i]?) : L2.wipe σ' vs = L2.wipe σ vs := by
  refine List.ext_getElem? fun i => ?_
  rw [wipe_get, hl]
  by_cases c : i ∈ vs ∧ i < σ.length
  · rw [if_pos c, wipe_get, if_pos c]
  · rw [if_neg c]
    by_cases hv : i ∈ vs
    · have hi : ¬ i < σ.length := fun q => c ⟨hv, q⟩
      rw [List.getElem?_eq_none (by omega), List.getElem?_eq_none (by rw [wipe_length]; omega)]
    · exact h i fun q => hv (hj i q)
theorem set_upd {F H : Hp} {p : Addr} {o : HO} (s : Same F H) (hf : F p = none) : Same F (upd H p o) := fun b u e => by
  rw [upd_ne (fun z => by rw [z, hf] at e; cases e)]
  exact s b u e
section
variable {B : Wd} {Γ : List Sl} {K : PySem.W.Frag} {ta tb tc te tl : TE} {A A' A'' : Type} {R : Rel A} {S : Rel A'} {T : Rel A''}
/-- what stands between two turns of a comprehension -/
def LcAt (S : Rel A') (F1 H1 : Hp) (D : Addr) (ys : List A') (H' : Hp) : Prop := ∃ F' acc, Ex F1 H1 F' H' ∧ F' D = none ∧ H' D = some (.lst acc) ∧ AllR (S F') acc ys
theorem lc_turn [m : Mn S] {F1 H1 H' : Hp} {σ : L2.St} {D : Addr} {ys : List A'} {x : A} {v : V} {g : TG} {tt : TT} {vs js : List Nat} {u : A → List Sl → List Sl} {p : A → Bool} {f : A → A'} (e : EnvOk B Γ F1 H1 σ) (hD : H1 D = none)
    (G1 : Tgt g R js u) (hj : ∀ j, j ∈ js → j ∈ vs) (ht : EvT B (u x (wipeG Γ vs)) tt (p x)) (he : p x = true → Ev B (u x (wipeG Γ vs)) te S (f x)) (hL : LcAt S F1 H1 D ys H') (hz : ys.length < 10000000) (r : ∀ F', Same F1 F' → Same F' H' → R F' v x) :
    g v (L2.wipe σ vs) H' fun σ2 H2 => L2.wipe σ2 vs = L2.wipe σ vs ∧ tt σ2 H2 fun b H3 => if b = true then te σ2 H3 fun y H4 => ∃ acc, H4 D = some (.lst acc) ∧ acc.length < sizeLine ∧ LcAt S F1 H1 D (if p x = true then ys ++ [f x] else ys) (upd H4 D (.lst (acc ++ [y]))) else LcAt S F1 H1 D (if p x = true then ys ++ [f x] else ys) H3 := by
  obtain ⟨F', acc, e1, hf, hd, hr⟩ := hL
  refine G1.run (e.ext e1 |>.wipe vs) (r F' e1.ff e1.fh) fun σ2 e2 hl ho => ⟨wipe_eq hj (by rw [hl, wipe_length]) ho, ?_⟩
  refine ht F' H' σ2 e2 _ fun F2 H2 e3 => ?_
  have hf2 : F2 D = none := e3.fr D hf (by rw [hd]; exact fun q => nomatch q)
  have hd2 := e3.hh _ _ hd
  cases hp : p x with
  | true =>
    refine he hp F2 H2 σ2 (e2.ext e3) _ fun F3 H3 w e4 rw' => ?_
    have hf3 : F3 D = none := e4.fr D hf2 (by rw [hd2]; exact fun q => nomatch q)
    refine ⟨acc, e4.hh _ _ hd2, szl (by rw [hr.1]; exact hz), F3, acc ++ [w], ?_, hf3, upd_same, ?_⟩
    · have e5 := (e1.trans e3).trans e4
      exact ⟨e5.ff, set_upd e5.hh hD, set_upd e5.fh hf3, e5.fr⟩
    · exact (hr.imp fun _ _ => m.mono (e3.trans e4).ff).append (AllR.one rw')
  | false =>
    exact ⟨F2, acc, e1.trans e3, hf2, hd2, hr.imp fun _ _ => m.mono e3.ff⟩
theorem filter_take_succ {xs : List A} {p : A → Bool} {f : A → A'} {i : Nat} {x : A} (h : xs[i]? = some x) : (((xs.take (i + 1)).filter p).map f) = (if p x = true then ((xs.take i).filter p).map f ++ [f x] else ((xs.take i).filter p).map f) := by
  rw [List.take_add_one, h]
  show (((xs.take i ++ [x]).filter p).map f) = _
  rw [List.filter_append, List.map_append]
  by_cases c : p x = true
  · rw [if_pos c, List.filter_cons, if_pos c]; rfl
  · rw [if_neg c, List.filter_cons, if_neg c]; exact List.append_nil _
theorem filter_take_le {xs : List A} {p : A → Bool} {f : A → A'} (i : Nat) : (((xs.take i).filter p).map f).length ≤ i := by
  rw [List.length_map]
  refine Nat.le_trans (List.length_filter_le _ _) ?_
  rw [List.length_take]
  exact Nat.min_le_left _ _
theorem Ex.ownD {F H : Hp} (s : Same F H) {p : Addr} {o : HO} (h : H p = none) : Ex F H F (upd H p o) ∧ F p = none := ⟨Ex.own s h, s.free h⟩
/-- [e for x in xs if c] -/
theorem el_lcF [m : Mn R] [n : Mn S] {xs : List A} {g : TG} {tt : TT} {vs js : List Nat} {u : A → List Sl → List Sl} {p : A → Bool} {f : A → A'} (hl : Ev B Γ tl (rLst R) xs) (G1 : Tgt g R js u) (hj : ∀ j, j ∈ js → j ∈ vs) (hz : xs.length ≤ 10000000)
    (ht : ∀ x, x ∈ xs → EvT B (u x (wipeG Γ vs)) tt (p x)) (he : ∀ x, x ∈ xs → p x = true → Ev B (u x (wipeG Γ vs)) te S (f x)) : EvL B Γ (tLc (iList K tl) g tt te vs) S ((xs.filter p).map f) := fun F H σ e Q q =>
  hl F H σ e _ fun F1 H1 v e1 ⟨a, ws, ea, ha, ra⟩ => ⟨a, ea, ⟨ws, SqL.of (e1.fh _ _ ha)⟩, fun D hD => by
    have en := e.ext e1
    refine lc_list (K := K) (a := a) (xs := ws) (fun i H' => LcAt S F1 H1 D (((xs.take i).filter p).map f) H') ?_ (fun i H' hi ⟨F', acc, e2, _⟩ => SqL.of (e2.fh _ _ (e2.ff _ _ ha))) (fun i w H' hi hL => ?_) (fun H' hL => ?_)
    · exact ⟨F1, [], Ex.own e1.fh hD, e1.fh.free hD, upd_same, AllR.nil⟩
    · obtain ⟨x, hx, rx⟩ := ra.getV hi
      rw [filter_take_succ hx]
      have hxm : x ∈ xs := List.mem_of_getElem? hx
      exact lc_turn en hD G1 hj (ht x hxm) (he x hxm) hL (Nat.lt_of_le_of_lt (filter_take_le i) (Nat.lt_of_lt_of_le (List.getElem?_eq_some_iff.mp hx).1 hz)) fun F' s _ => m.mono s rx
    · obtain ⟨F', acc, e2, hf, hd, hr⟩ := hL
      rw [ra.1, List.take_length] at hr
      exact q F' H' D acc (e1.trans e2) (e1.hh.free hD) hf hd hr⟩
theorem et_yes : EvT B Γ tYes true := fun F H σ e Q q => q F H (Ex.refl e.fh)
theorem filter_yes (xs : List A) : xs.filter (fun _ => true) = xs := List.filter_eq_self.mpr fun _ _ => rfl
/-- [e for x in xs] -/
theorem el_lc [m : Mn R] [n : Mn S] {xs : List A} {g : TG} {vs js : List Nat} {u : A → List Sl → List Sl} {f : A → A'} (hl : Ev B Γ tl (rLst R) xs) (G1 : Tgt g R js u) (hj : ∀ j, j ∈ js → j ∈ vs) (hz : xs.length ≤ 10000000)
    (he : ∀ x, x ∈ xs → Ev B (u x (wipeG Γ vs)) te S (f x)) : EvL B Γ (tLc (iList K tl) g tYes te vs) S (xs.map f) :=
  (el_lcF (p := fun _ => true) hl G1 hj hz (fun _ _ => et_yes) fun x h _ => he x h).to (by rw [filter_yes])
/-- [e for i in range(n) if c] -/
theorem el_lcRF [n : Mn S] {k : Int} {j : Nat} {tt : TT} {vs : List Nat} {p : Nat → Bool} {f : Nat → A'} (hl : Ev B Γ ta rInt k) (hj : j ∈ vs) (h0 : 0 ≤ k) (hz : k ≤ 10000000)
    (ht : ∀ i : Nat, (i : Int) < k → EvT B ((wipeG Γ vs).set j (sf rInt (i : Int))) tt (p i)) (he : ∀ i : Nat, (i : Int) < k → p i = true → Ev B ((wipeG Γ vs).set j (sf rInt (i : Int))) te S (f i)) :
    EvL B Γ (tLc (iRng1 (tCons ta tNil)) (gName j) tt te vs) S (((List.range k.toNat).filter p).map f) := fun F H σ e Q q =>
  hl F H σ e _ fun F1 H1 v e1 r1 => ⟨k, by rw [show v = .int k from r1], by omega, by omega, fun D hD => by
    have en := e.ext e1
    refine lc_range (lo := 0) (n := k.toNat) (fun i H' => LcAt S F1 H1 D ((((List.range k.toNat).take i).filter p).map f) H') ?_ (fun i H' hi hL => ?_) (fun H' hL => ?_)
    · exact ⟨F1, [], Ex.own e1.fh hD, e1.fh.free hD, upd_same, AllR.nil⟩
    · have hx : (List.range k.toNat)[i]? = some i := by rw [List.getElem?_range hi]
      rw [filter_take_succ hx, show (0 : Int) + (i : Int) = (i : Int) from Int.zero_add _]
      have hik : (i : Int) < k := by omega
      exact lc_turn (A := Nat) (R := fun _ v (i : Nat) => v = .int (i : Int)) (x := i) (u := fun (i : Nat) Γ => Γ.set j (sf rInt (i : Int))) en hD
        ⟨fun {B Γ F H σ v x N} e r k => k _ (e.setFz (R := rInt) r) List.length_set (set_off (List.mem_singleton.mpr rfl))⟩ (js := [j]) (fun z hz => by rw [List.mem_singleton.mp hz]; exact hj) (ht i hik) (he i hik) hL (Nat.lt_of_le_of_lt (filter_take_le i) (by omega)) fun _ _ _ => rfl
    · obtain ⟨F', acc, e2, hf, hd, hr⟩ := hL
      rw [List.take_of_length_le (by rw [List.length_range]; exact Nat.le_refl _)] at hr
      exact q F' H' D acc (e1.trans e2) (e1.hh.free hD) hf hd hr⟩
theorem el_lcR [n : Mn S] {k : Int} {j : Nat} {vs : List Nat} {f : Nat → A'} (hl : Ev B Γ ta rInt k) (hj : j ∈ vs) (h0 : 0 ≤ k) (hz : k ≤ 10000000)
    (he : ∀ i : Nat, (i : Int) < k → Ev B ((wipeG Γ vs).set j (sf rInt (i : Int))) te S (f i)) :
    EvL B Γ (tLc (iRng1 (tCons ta tNil)) (gName j) tYes te vs) S ((List.range k.toNat).map f) :=
  (el_lcRF (p := fun _ => true) hl hj h0 hz (fun _ _ => et_yes) fun x h _ => he x h).to (by rw [filter_yes])
end
end G
set_option maxHeartbeats 4000000
namespace G
open PySem PySem.Spec PyProof.Rows L2
/-! ### promises -/
def spP1 {A1 Y : Type} (R1 : Rel A1) (pre : A1 → Prop) (R : Rel Y) (post : A1 → Y → Prop) : Sp := fun vs H Q _ =>
  ∃ F v1 x1, vs = [v1] ∧ Same F H ∧ R1 F v1 x1 ∧ pre x1 ∧ ∀ F' H' v y, Ex F H F' H' → R F' v y → post x1 y → Q v H'
def spP2 {A1 A2 Y : Type} (R1 : Rel A1) (R2 : Rel A2) (pre : A1 → A2 → Prop) (R : Rel Y) (post : A1 → A2 → Y → Prop) : Sp := fun vs H Q _ =>
  ∃ F v1 v2 x1 x2, vs = [v1, v2] ∧ Same F H ∧ R1 F v1 x1 ∧ R2 F v2 x2 ∧ pre x1 x2 ∧ ∀ F' H' v y, Ex F H F' H' → R F' v y → post x1 x2 y → Q v H'
def spP3 {A1 A2 A3 Y : Type} (R1 : Rel A1) (R2 : Rel A2) (R3 : Rel A3) (pre : A1 → A2 → A3 → Prop) (R : Rel Y) (post : A1 → A2 → A3 → Y → Prop) : Sp := fun vs H Q _ =>
  ∃ F v1 v2 v3 x1 x2 x3, vs = [v1, v2, v3] ∧ Same F H ∧ R1 F v1 x1 ∧ R2 F v2 x2 ∧ R3 F v3 x3 ∧ pre x1 x2 x3 ∧ ∀ F' H' v y, Ex F H F' H' → R F' v y → post x1 x2 x3 y → Q v H'
def spP4 {A1 A2 A3 A4 Y : Type} (R1 : Rel A1) (R2 : Rel A2) (R3 : Rel A3) (R4 : Rel A4) (pre : A1 → A2 → A3 → A4 → Prop) (R : Rel Y) (post : A1 → A2 → A3 → A4 → Y → Prop) : Sp := fun vs H Q _ =>
  ∃ F v1 v2 v3 v4 x1 x2 x3 x4, vs = [v1, v2, v3, v4] ∧ Same F H ∧ R1 F v1 x1 ∧ R2 F v2 x2 ∧ R3 F v3 x3 ∧ R4 F v4 x4 ∧ pre x1 x2 x3 x4 ∧ ∀ F' H' v y, Ex F H F' H' → R F' v y → post x1 x2 x3 x4 y → Q v H'
def spP5 {A1 A2 A3 A4 A5 Y : Type} (R1 : Rel A1) (R2 : Rel A2) (R3 : Rel A3) (R4 : Rel A4) (R5 : Rel A5) (pre : A1 → A2 → A3 → A4 → A5 → Prop) (R : Rel Y) (post : A1 → A2 → A3 → A4 → A5 → Y → Prop) : Sp := fun vs H Q _ =>
  ∃ F v1 v2 v3 v4 v5 x1 x2 x3 x4 x5, vs = [v1, v2, v3, v4, v5] ∧ Same F H ∧ R1 F v1 x1 ∧ R2 F v2 x2 ∧ R3 F v3 x3 ∧ R4 F v4 x4 ∧ R5 F v5 x5 ∧ pre x1 x2 x3 x4 x5 ∧ ∀ F' H' v y, Ex F H F' H' → R F' v y → post x1 x2 x3 x4 x5 y → Q v H'
/-- told by a function -/
abbrev spD1 {A1 Y : Type} (R1 : Rel A1) (pre : A1 → Prop) (R : Rel Y) (f : A1 → Y) : Sp := spP1 R1 pre R fun a y => y = f a
abbrev spD2 {A1 A2 Y : Type} (R1 : Rel A1) (R2 : Rel A2) (pre : A1 → A2 → Prop) (R : Rel Y) (f : A1 → A2 → Y) : Sp := spP2 R1 R2 pre R fun a b y => y = f a b
abbrev spD3 {A1 A2 A3 Y : Type} (R1 : Rel A1) (R2 : Rel A2) (R3 : Rel A3) (pre : A1 → A2 → A3 → Prop) (R : Rel Y) (f : A1 → A2 → A3 → Y) : Sp := spP3 R1 R2 R3 pre R fun a b c y => y = f a b c
abbrev spD4 {A1 A2 A3 A4 Y : Type} (R1 : Rel A1) (R2 : Rel A2) (R3 : Rel A3) (R4 : Rel A4) (pre : A1 → A2 → A3 → A4 → Prop) (R : Rel Y) (f : A1 → A2 → A3 → A4 → Y) : Sp := spP4 R1 R2 R3 R4 pre R fun a b c d y => y = f a b c d
abbrev spD5 {A1 A2 A3 A4 A5 Y : Type} (R1 : Rel A1) (R2 : Rel A2) (R3 : Rel A3) (R4 : Rel A4) (R5 : Rel A5) (pre : A1 → A2 → A3 → A4 → A5 → Prop) (R : Rel Y) (f : A1 → A2 → A3 → A4 → A5 → Y) : Sp := spP5 R1 R2 R3 R4 R5 pre R fun a b c d e y => y = f a b c d e
section
variable {B : Wd} {Γ : List Sl} {K : PySem.W.Frag} {t1 t2 t3 t4 t5 ts : TE} {A1 A2 A3 A4 A5 Y : Type} {R1 : Rel A1} {R2 : Rel A2} {R3 : Rel A3} {R4 : Rel A4} {R5 : Rel A5} {R : Rel Y} {E : XK}
/-! ### calls -/
theorem cp1 {pre : A1 → Prop} {post : A1 → Y → Prop} {x1 : A1} (h1 : Ev B Γ t1 R1 x1) (hp : pre x1) : EvP B Γ (tCall (spP1 R1 pre R post) [] E (tCons t1 tNil)) R (post x1) := fun F H σ e Q q =>
  h1 F H σ e _ fun F1 H1 v1 e1 r1 => ⟨F1, v1, x1, rfl, e1.fh, r1, hp, fun F' H' v y e2 r p => q F' H' v y (e1.trans e2) r p⟩
theorem cp2 [m1 : Mn R1] {pre : A1 → A2 → Prop} {post : A1 → A2 → Y → Prop} {x1 : A1} {x2 : A2} (h1 : Ev B Γ t1 R1 x1) (h2 : Ev B Γ t2 R2 x2) (hp : pre x1 x2) : EvP B Γ (tCall (spP2 R1 R2 pre R post) [] E (tCons t1 (tCons t2 tNil))) R (post x1 x2) := fun F H σ e Q q =>
  ev2 h1 h2 e fun F2 H2 v1 v2 e2 r1 r2 => ⟨F2, v1, v2, x1, x2, rfl, e2.fh, r1, r2, hp, fun F' H' v y e3 r p => q F' H' v y (e2.trans e3) r p⟩
theorem ev3 [m1 : Mn R1] [m2 : Mn R2] {x1 : A1} {x2 : A2} {x3 : A3} (h1 : Ev B Γ t1 R1 x1) (h2 : Ev B Γ t2 R2 x2) (h3 : Ev B Γ t3 R3 x3) {F H : Hp} {σ : L2.St} (e : EnvOk B Γ F H σ) {N : V → V → V → Hp → Prop}
    (k : ∀ F' H' v1 v2 v3, Ex F H F' H' → R1 F' v1 x1 → R2 F' v2 x2 → R3 F' v3 x3 → N v1 v2 v3 H') : t1 σ H fun v1 H1 => t2 σ H1 fun v2 H2 => t3 σ H2 fun v3 H3 => N v1 v2 v3 H3 :=
  ev2 h1 h2 e fun F2 H2 v1 v2 e2 r1 r2 => h3 F2 H2 σ (e.ext e2) _ fun F3 H3 v3 e3 r3 => k F3 H3 v1 v2 v3 (e2.trans e3) (m1.mono e3.ff r1) (m2.mono e3.ff r2) r3
theorem cp3 [m1 : Mn R1] [m2 : Mn R2] {pre : A1 → A2 → A3 → Prop} {post : A1 → A2 → A3 → Y → Prop} {x1 : A1} {x2 : A2} {x3 : A3} (h1 : Ev B Γ t1 R1 x1) (h2 : Ev B Γ t2 R2 x2) (h3 : Ev B Γ t3 R3 x3) (hp : pre x1 x2 x3) :
    EvP B Γ (tCall (spP3 R1 R2 R3 pre R post) [] E (tCons t1 (tCons t2 (tCons t3 tNil)))) R (post x1 x2 x3) := fun F H σ e Q q =>
  ev3 h1 h2 h3 e fun F2 H2 v1 v2 v3 e2 r1 r2 r3 => ⟨F2, v1, v2, v3, x1, x2, x3, rfl, e2.fh, r1, r2, r3, hp, fun F' H' v y e3 r p => q F' H' v y (e2.trans e3) r p⟩
theorem cp4 [m1 : Mn R1] [m2 : Mn R2] [m3 : Mn R3] {pre : A1 → A2 → A3 → A4 → Prop} {post : A1 → A2 → A3 → A4 → Y → Prop} {x1 : A1} {x2 : A2} {x3 : A3} {x4 : A4} (h1 : Ev B Γ t1 R1 x1) (h2 : Ev B Γ t2 R2 x2) (h3 : Ev B Γ t3 R3 x3) (h4 : Ev B Γ t4 R4 x4) (hp : pre x1 x2 x3 x4) :
    EvP B Γ (tCall (spP4 R1 R2 R3 R4 pre R post) [] E (tCons t1 (tCons t2 (tCons t3 (tCons t4 tNil))))) R (post x1 x2 x3 x4) := fun F H σ e Q q =>
  ev3 h1 h2 h3 e fun F2 H2 v1 v2 v3 e2 r1 r2 r3 => h4 F2 H2 σ (e.ext e2) _ fun F3 H3 v4 e3 r4 => ⟨F3, v1, v2, v3, v4, x1, x2, x3, x4, rfl, e3.fh, m1.mono e3.ff r1, m2.mono e3.ff r2, m3.mono e3.ff r3, r4, hp, fun F' H' v y e4 r p => q F' H' v y ((e2.trans e3).trans e4) r p⟩
theorem cp5 [m1 : Mn R1] [m2 : Mn R2] [m3 : Mn R3] [m4 : Mn R4] {pre : A1 → A2 → A3 → A4 → A5 → Prop} {post : A1 → A2 → A3 → A4 → A5 → Y → Prop} {x1 : A1} {x2 : A2} {x3 : A3} {x4 : A4} {x5 : A5} (h1 : Ev B Γ t1 R1 x1) (h2 : Ev B Γ t2 R2 x2) (h3 : Ev B Γ t3 R3 x3) (h4 : Ev B Γ t4 R4 x4) (h5 : Ev B Γ t5 R5 x5) (hp : pre x1 x2 x3 x4 x5) :
    EvP B Γ (tCall (spP5 R1 R2 R3 R4 R5 pre R post) [] E (tCons t1 (tCons t2 (tCons t3 (tCons t4 (tCons t5 tNil)))))) R (post x1 x2 x3 x4 x5) := fun F H σ e Q q =>
  ev3 h1 h2 h3 e fun F2 H2 v1 v2 v3 e2 r1 r2 r3 => ev2 h4 h5 (e.ext e2) fun F3 H3 v4 v5 e3 r4 r5 => ⟨F3, v1, v2, v3, v4, v5, x1, x2, x3, x4, x5, rfl, e3.fh, m1.mono e3.ff r1, m2.mono e3.ff r2, m3.mono e3.ff r3, r4, r5, hp, fun F' H' v y e4 r p => q F' H' v y ((e2.trans e3).trans e4) r p⟩
theorem EvP.d {x : Y} (h : EvP B Γ ts R (fun y => y = x)) : Ev B Γ ts R x := fun F H σ e Q q => h F H σ e Q fun F' H' v y a b c => q F' H' v a (c ▸ b)
theorem cd1 {pre : A1 → Prop} {f : A1 → Y} {x1 : A1} (h1 : Ev B Γ t1 R1 x1) (hp : pre x1) : Ev B Γ (tCall (spD1 R1 pre R f) [] E (tCons t1 tNil)) R (f x1) := (cp1 h1 hp).d
theorem cd2 [m1 : Mn R1] {pre : A1 → A2 → Prop} {f : A1 → A2 → Y} {x1 : A1} {x2 : A2} (h1 : Ev B Γ t1 R1 x1) (h2 : Ev B Γ t2 R2 x2) (hp : pre x1 x2) : Ev B Γ (tCall (spD2 R1 R2 pre R f) [] E (tCons t1 (tCons t2 tNil))) R (f x1 x2) := (cp2 h1 h2 hp).d
theorem cd3 [m1 : Mn R1] [m2 : Mn R2] {pre : A1 → A2 → A3 → Prop} {f : A1 → A2 → A3 → Y} {x1 : A1} {x2 : A2} {x3 : A3} (h1 : Ev B Γ t1 R1 x1) (h2 : Ev B Γ t2 R2 x2) (h3 : Ev B Γ t3 R3 x3) (hp : pre x1 x2 x3) :
    Ev B Γ (tCall (spD3 R1 R2 R3 pre R f) [] E (tCons t1 (tCons t2 (tCons t3 tNil)))) R (f x1 x2 x3) := (cp3 h1 h2 h3 hp).d
theorem cd4 [m1 : Mn R1] [m2 : Mn R2] [m3 : Mn R3] {pre : A1 → A2 → A3 → A4 → Prop} {f : A1 → A2 → A3 → A4 → Y} {x1 : A1} {x2 : A2} {x3 : A3} {x4 : A4} (h1 : Ev B Γ t1 R1 x1) (h2 : Ev B Γ t2 R2 x2) (h3 : Ev B Γ t3 R3 x3) (h4 : Ev B Γ t4 R4 x4) (hp : pre x1 x2 x3 x4) :
    Ev B Γ (tCall (spD4 R1 R2 R3 R4 pre R f) [] E (tCons t1 (tCons t2 (tCons t3 (tCons t4 tNil))))) R (f x1 x2 x3 x4) := (cp4 h1 h2 h3 h4 hp).d
theorem cd5 [m1 : Mn R1] [m2 : Mn R2] [m3 : Mn R3] [m4 : Mn R4] {pre : A1 → A2 → A3 → A4 → A5 → Prop} {f : A1 → A2 → A3 → A4 → A5 → Y} {x1 : A1} {x2 : A2} {x3 : A3} {x4 : A4} {x5 : A5} (h1 : Ev B Γ t1 R1 x1) (h2 : Ev B Γ t2 R2 x2) (h3 : Ev B Γ t3 R3 x3) (h4 : Ev B Γ t4 R4 x4) (h5 : Ev B Γ t5 R5 x5) (hp : pre x1 x2 x3 x4 x5) :
    Ev B Γ (tCall (spD5 R1 R2 R3 R4 R5 pre R f) [] E (tCons t1 (tCons t2 (tCons t3 (tCons t4 (tCons t5 tNil)))))) R (f x1 x2 x3 x4 x5) := (cp5 h1 h2 h3 h4 h5 hp).d
/-! ### methods of a frozen instance -/
variable {C : Addr} {m : Str} {fs : A1 → Fs}
theorem mp1 {pre : A1 → Prop} {post : A1 → Y → Prop} {x1 : A1} (h1 : Ev B Γ t1 (rObj C fs) x1) (hm : (fs x1).lookup m = none) (hp : pre x1) : EvP B Γ (tMeth C m (spP1 (rObj C fs) pre R post) [] E t1 tNil) R (post x1) := fun F H σ e Q q =>
  h1 F H σ e _ fun F1 H1 v1 e1 r1 => by
    obtain ⟨p, dx, vs, ea, hp', r⟩ := id r1
    exact ⟨p, dx, vs, ea, e1.fh _ _ hp', r.none hm, F1, v1, x1, rfl, e1.fh, r1, hp, fun F' H' v y e2 r p => q F' H' v y (e1.trans e2) r p⟩
theorem mp2 {pre : A1 → A2 → Prop} {post : A1 → A2 → Y → Prop} {x1 : A1} {x2 : A2} (h1 : Ev B Γ t1 (rObj C fs) x1) (h2 : Ev B Γ t2 R2 x2) (hm : (fs x1).lookup m = none) (hp : pre x1 x2) : EvP B Γ (tMeth C m (spP2 (rObj C fs) R2 pre R post) [] E t1 (tCons t2 tNil)) R (post x1 x2) := fun F H σ e Q q =>
  h1 F H σ e _ fun F1 H1 v1 e1 r1 => by
    obtain ⟨p, dx, vs, ea, hp', r⟩ := id r1
    exact ⟨p, dx, vs, ea, e1.fh _ _ hp', r.none hm, h2 F1 H1 σ (e.ext e1) _ fun F2 H2 v2 e2 r2 => ⟨F2, v1, v2, x1, x2, rfl, e2.fh, Mn.mono e2.ff r1, r2, hp, fun F' H' v y e3 r p => q F' H' v y ((e1.trans e2).trans e3) r p⟩⟩
theorem mp3 [m2 : Mn R2] {pre : A1 → A2 → A3 → Prop} {post : A1 → A2 → A3 → Y → Prop} {x1 : A1} {x2 : A2} {x3 : A3} (h1 : Ev B Γ t1 (rObj C fs) x1) (h2 : Ev B Γ t2 R2 x2) (h3 : Ev B Γ t3 R3 x3) (hm : (fs x1).lookup m = none) (hp : pre x1 x2 x3) :
    EvP B Γ (tMeth C m (spP3 (rObj C fs) R2 R3 pre R post) [] E t1 (tCons t2 (tCons t3 tNil))) R (post x1 x2 x3) := fun F H σ e Q q =>
  h1 F H σ e _ fun F1 H1 v1 e1 r1 => by
    obtain ⟨p, dx, vs, ea, hp', r⟩ := id r1
    exact ⟨p, dx, vs, ea, e1.fh _ _ hp', r.none hm, ev2 h2 h3 (e.ext e1) fun F2 H2 v2 v3 e2 r2 r3 => ⟨F2, v1, v2, v3, x1, x2, x3, rfl, e2.fh, Mn.mono e2.ff r1, r2, r3, hp, fun F' H' v y e3 r p => q F' H' v y ((e1.trans e2).trans e3) r p⟩⟩
theorem mp4 [m2 : Mn R2] [m3 : Mn R3] {pre : A1 → A2 → A3 → A4 → Prop} {post : A1 → A2 → A3 → A4 → Y → Prop} {x1 : A1} {x2 : A2} {x3 : A3} {x4 : A4} (h1 : Ev B Γ t1 (rObj C fs) x1) (h2 : Ev B Γ t2 R2 x2) (h3 : Ev B Γ t3 R3 x3) (h4 : Ev B Γ t4 R4 x4) (hm : (fs x1).lookup m = none) (hp : pre x1 x2 x3 x4) :
    EvP B Γ (tMeth C m (spP4 (rObj C fs) R2 R3 R4 pre R post) [] E t1 (tCons t2 (tCons t3 (tCons t4 tNil)))) R (post x1 x2 x3 x4) := fun F H σ e Q q =>
  h1 F H σ e _ fun F1 H1 v1 e1 r1 => by
    obtain ⟨p, dx, vs, ea, hp', r⟩ := id r1
    exact ⟨p, dx, vs, ea, e1.fh _ _ hp', r.none hm, ev3 h2 h3 h4 (e.ext e1) fun F2 H2 v2 v3 v4 e2 r2 r3 r4 => ⟨F2, v1, v2, v3, v4, x1, x2, x3, x4, rfl, e2.fh, Mn.mono e2.ff r1, r2, r3, r4, hp, fun F' H' v y e3 r p => q F' H' v y ((e1.trans e2).trans e3) r p⟩⟩
theorem md1 {pre : A1 → Prop} {f : A1 → Y} {x1 : A1} (h1 : Ev B Γ t1 (rObj C fs) x1) (hm : (fs x1).lookup m = none) (hp : pre x1) : Ev B Γ (tMeth C m (spD1 (rObj C fs) pre R f) [] E t1 tNil) R (f x1) := (mp1 h1 hm hp).d
theorem md2 {pre : A1 → A2 → Prop} {f : A1 → A2 → Y} {x1 : A1} {x2 : A2} (h1 : Ev B Γ t1 (rObj C fs) x1) (h2 : Ev B Γ t2 R2 x2) (hm : (fs x1).lookup m = none) (hp : pre x1 x2) : Ev B Γ (tMeth C m (spD2 (rObj C fs) R2 pre R f) [] E t1 (tCons t2 tNil)) R (f x1 x2) := (mp2 h1 h2 hm hp).d
theorem md3 [m2 : Mn R2] {pre : A1 → A2 → A3 → Prop} {f : A1 → A2 → A3 → Y} {x1 : A1} {x2 : A2} {x3 : A3} (h1 : Ev B Γ t1 (rObj C fs) x1) (h2 : Ev B Γ t2 R2 x2) (h3 : Ev B Γ t3 R3 x3) (hm : (fs x1).lookup m = none) (hp : pre x1 x2 x3) :
    Ev B Γ (tMeth C m (spD3 (rObj C fs) R2 R3 pre R f) [] E t1 (tCons t2 (tCons t3 tNil))) R (f x1 x2 x3) := (mp3 h1 h2 h3 hm hp).d
theorem md4 [m2 : Mn R2] [m3 : Mn R3] {pre : A1 → A2 → A3 → A4 → Prop} {f : A1 → A2 → A3 → A4 → Y} {x1 : A1} {x2 : A2} {x3 : A3} {x4 : A4} (h1 : Ev B Γ t1 (rObj C fs) x1) (h2 : Ev B Γ t2 R2 x2) (h3 : Ev B Γ t3 R3 x3) (h4 : Ev B Γ t4 R4 x4) (hm : (fs x1).lookup m = none) (hp : pre x1 x2 x3 x4) :
    Ev B Γ (tMeth C m (spD4 (rObj C fs) R2 R3 R4 pre R f) [] E t1 (tCons t2 (tCons t3 (tCons t4 tNil)))) R (f x1 x2 x3 x4) := (mp4 h1 h2 h3 h4 hm hp).d
/-! ### made instances -/
def hide (p : Addr) (H : Hp) : Hp := fun b => if b = p then none else H b
theorem hide_same {p : Addr} {H : Hp} : hide p H p = none := by unfold hide; rw [if_pos rfl]
theorem hide_ne {p b : Addr} {H : Hp} (h : b ≠ p) : hide p H b = H b := by unfold hide; rw [if_neg h]
/-- an __init__: self at p, of no attribute, and the arguments ss; behind it an R at p -/
def spI (C : Addr) (R : Rel Y) (ss : List Fz) (y : Y) : Sp := fun vs H Q _ =>
  ∃ F p dx ws, vs = .ref p :: ws ∧ H p = some (.ins C dx []) ∧ F p = none ∧ Same F H ∧ ArgOk F ws ss ∧ ∀ F' H', Ex F (hide p H) F' H' → R F' (.ref p) y → Q .non H'
/-- all that the promise says, over the data -/
def spI' {Z : Type} (C : Addr) (R : Rel Y) (ss : Z → List Fz) (pre : Z → Prop) (f : Z → Y) : Sp := fun vs H Q E => ∃ z, pre z ∧ spI C R (ss z) (f z) vs H Q E
theorem ev_make {Z : Type} {ss : Z → List Fz} {pre : Z → Prop} {f : Z → Y} {t : TA} (z : Z) (h : EvA B Γ t (ss z)) (hp : pre z) : Ev B Γ (tMake C (spI' C R ss pre f) [] E t) R (f z) := fun F H σ e Q q =>
  h F H σ e _ fun F1 H1 vs e1 r1 x dx hx hdx hne => by
    refine ⟨z, hp, F1, x, dx, vs ++ [], rfl, upd_same, e1.fh.free hx, set_upd (set_upd e1.fh (e1.fh.free hdx)) (e1.fh.free hx), by rw [List.append_nil]; exact r1, fun F' H' e2 r => ⟨rfl, q F' H' (.ref x) ?_ r⟩⟩
    have hb : ∀ b o, H1 b = some o → hide x (upd (upd H1 dx (.own x)) x (.ins C dx [])) b = some o := fun b o k => by
      rw [hide_ne (ne_of_none k hx), upd_ne (ne_of_none k hx), upd_ne (ne_of_none k hdx)]; exact k
    exact ⟨e1.ff.trans e2.ff, fun b o k => e2.hh b o (hb b o (e1.hh b o k)), e2.fh, fun b k1 k2 => by
      refine e2.fr b (e1.fr b k1 k2) fun k3 => ?_
      cases k4 : H b with
      | none => exact k2 k4
      | some o => rw [hb b o (e1.hh b o k4)] at k3; cases k3⟩
end
end G
set_option maxHeartbeats 4000000
namespace G
open PySem PySem.Spec PyProof.Rows L2
/-! ### statements -/
abbrev SN := L2.St → Hp → Prop
def Wn (B : Wd) (Γ : List Sl) (N : SN) : Prop := ∀ F H σ, EnvOk B Γ F H σ → N σ H
def RtOk (B : Wd) {Y : Type} (R : Rel Y) (P : Y → Prop) (Q : VK) : Prop := ∀ F' H' v y, Ex B.F B.H F' H' → R F' v y → P y → Q v H'
def Sub (Γ Δ : List Sl) : Prop := Γ.length = Δ.length ∧ ∀ (i : Nat) (t : Sl), Δ[i]? = some t → t = .any ∨ Γ[i]? = some t
theorem Sub.nil : Sub [] [] := ⟨rfl, fun i t h => by simp at h⟩
theorem Sub.same {s : Sl} {Γ Δ : List Sl} (h : Sub Γ Δ) : Sub (s :: Γ) (s :: Δ) := ⟨congrArg (· + 1) h.1, fun i t q => by
  cases i with
  | zero => exact .inr q
  | succ n => exact h.2 n t q⟩
theorem Sub.any {s : Sl} {Γ Δ : List Sl} (h : Sub Γ Δ) : Sub (s :: Γ) (.any :: Δ) := ⟨congrArg (· + 1) h.1, fun i t q => by
  cases i with
  | zero => exact .inl (Option.some.inj q).symm
  | succ n => exact h.2 n t q⟩
theorem Sub.fz {A : Type} {R : Rel A} {m : Mn R} {x y : A} {Γ Δ : List Sl} (e : x = y) (h : Sub Γ Δ) : Sub (.fz ⟨A, R, m, x⟩ :: Γ) (.fz ⟨A, R, m, y⟩ :: Δ) := e ▸ h.same
theorem Sub.ml {A : Type} {R : Rel A} {m : Mn R} {x y : List A} {Γ Δ : List Sl} (e : x = y) (h : Sub Γ Δ) : Sub (.ml R m x :: Γ) (.ml R m y :: Δ) := e ▸ h.same
theorem Sub.refl (Γ : List Sl) : Sub Γ Γ := ⟨rfl, fun _ _ h => .inr h⟩
theorem EnvOk.sub {B : Wd} {Γ Δ : List Sl} {F H : Hp} {σ : L2.St} (h : EnvOk B Γ F H σ) (s : Sub Γ Δ) : EnvOk B Δ F H σ := by
  refine ⟨h.ex, h.len.trans s.1, fun i t q => ?_, fun i j t u n a b c d => ?_⟩
  · rcases s.2 i t q with e | e
    · subst e
      have hi : i < σ.length := by
        have := (List.getElem?_eq_some_iff.mp q).1
        rw [h.len, s.1]; exact this
      exact ⟨σ[i], List.getElem?_eq_getElem hi, trivial⟩
    · exact h.ok i t e
  · rcases s.2 i t a with e | e
    · subst e; cases c
    · rcases s.2 j u b with e2 | e2
      · subst e2; cases d
      · exact h.ap i j t u n e e2 c d
/-- what stands between two turns -/
def Lp (B : Wd) {I : Type} (P : I → Prop) (G : I → List Sl) : SN := fun σ H => ∃ F x, P x ∧ EnvOk B (G x) F H σ
theorem wn_lp {B : Wd} {Γ : List Sl} {I : Type} {P : I → Prop} {G : I → List Sl} (x : I) (h : P x) (s : Sub Γ (G x)) : Wn B Γ (Lp B P G) := fun F H σ e => ⟨F, x, h, e.sub s⟩
theorem Wn.sub {B : Wd} {Γ Δ : List Sl} {N : SN} (s : Sub Γ Δ) (h : Wn B Δ N) : Wn B Γ N := fun F H σ e => h F H σ (e.sub s)
section
variable {B : Wd} {Γ : List Sl} {K : PySem.W.Frag} {ta tb tc te tl tv : TE} {A A' A'' Y : Type} {R : Rel A} {S : Rel A'} {T : Rel A''} {D : Ends} {t u t1 t2 : TS} {tt : TT}
/-- a slot's own list is frozen -/
theorem wn_fz {i : Nat} {m : Mn R} {xs : List A} {N : SN} (h : Γ[i]? = some (.ml R m xs)) (k : Wn B (Γ.set i (sf (rLst R) xs)) N) : Wn B Γ N := fun F H σ e => by
  obtain ⟨F', _, e2⟩ := e.freeze h
  exact k F' H σ e2
theorem s_seq (h : Wn B Γ (t { D with nx := u D })) : Wn B Γ (tSeq t u D) := h
theorem s_next (h : Wn B Γ D.nx) : Wn B Γ (tNext D) := h
theorem s_brk (h : Wn B Γ D.bk) : Wn B Γ (tBreak D) := h
/-- name = e -/
theorem s_asg [m : Mn R] {i : Nat} {x : A} (h : Ev B Γ te R x) (k : Wn B (Γ.set i (sf R x)) D.nx) : Wn B Γ (tAsg te (gName i) D) := fun F H σ e =>
  h F H σ e _ fun F1 H1 v e1 r1 => k F1 H1 _ ((e.ext e1).setFz r1)
theorem q_asg [m : Mn R] {i : Nat} {x : A} (h : Ev B Γ te R x) (k : Wn B (Γ.set i (sf R x)) (u D)) : Wn B Γ (tSeq (tAsg te (gName i)) u D) := s_asg (D := { D with nx := u D }) h k
theorem s_asgP [m : Mn R] {i : Nat} {P : A → Prop} (h : EvP B Γ te R P) (k : ∀ x, P x → Wn B (Γ.set i (sf R x)) D.nx) : Wn B Γ (tAsg te (gName i) D) := fun F H σ e =>
  h F H σ e _ fun F1 H1 v x e1 r1 p => k x p F1 H1 _ ((e.ext e1).setFz r1)
theorem q_asgP [m : Mn R] {i : Nat} {P : A → Prop} (h : EvP B Γ te R P) (k : ∀ x, P x → Wn B (Γ.set i (sf R x)) (u D)) : Wn B Γ (tSeq (tAsg te (gName i)) u D) := s_asgP (D := { D with nx := u D }) h k
/-- name = a new list, owned -/
theorem s_asgL [m : Mn R] {i : Nat} {xs : List A} (h : EvL B Γ te R xs) (k : Wn B (Γ.set i (sm R xs)) D.nx) : Wn B Γ (tAsg te (gName i) D) := fun F H σ e =>
  h F H σ e _ fun F1 H1 p vs e1 hp hf hh r1 => by
    refine k F1 H1 _ ((e.ext e1).setOwn (s := sm R xs) ⟨p, vs, rfl, hf, e.ex.hh.free hp, hh, r1⟩ fun j t hj a b c => ?_)
    obtain ⟨o, h1, h2⟩ := e.ok j t a
    rw [h1] at c
    have c := Option.some.inj c
    subst c
    cases t with
    | any => cases b
    | fz s => cases b
    | ro C fs => cases b
    | ml R' m' xs' => obtain ⟨p', vs', a1, _, _, a4, _⟩ := h2; cases a1; rw [hp] at a4; cases a4
    | mo p' C fs => obtain ⟨dx, vs', a1, _, _, a4, _⟩ := h2; cases a1; rw [hp] at a4; cases a4
theorem q_asgL [m : Mn R] {i : Nat} {xs : List A} (h : EvL B Γ te R xs) (k : Wn B (Γ.set i (sm R xs)) (u D)) : Wn B Γ (tSeq (tAsg te (gName i)) u D) := s_asgL (D := { D with nx := u D }) h k
/-- a, b = e .. -/
theorem s_tgt {g : TG} {js : List Nat} {w : A → List Sl → List Sl} {x : A} (G1 : Tgt g R js w) (h : Ev B Γ te R x) (k : Wn B (w x Γ) D.nx) : Wn B Γ (tAsg te g D) := fun F H σ e =>
  h F H σ e _ fun F1 H1 v e1 r1 => G1.run (e.ext e1) r1 fun σ' e2 _ _ => k F1 H1 σ' e2
theorem q_tgt {g : TG} {js : List Nat} {w : A → List Sl → List Sl} {x : A} (G1 : Tgt g R js w) (h : Ev B Γ te R x) (k : Wn B (w x Γ) (u D)) : Wn B Γ (tSeq (tAsg te g) u D) := s_tgt (D := { D with nx := u D }) G1 h k
theorem s_tgtP {g : TG} {js : List Nat} {w : A → List Sl → List Sl} {P : A → Prop} (G1 : Tgt g R js w) (h : EvP B Γ te R P) (k : ∀ x, P x → Wn B (w x Γ) D.nx) : Wn B Γ (tAsg te g D) := fun F H σ e =>
  h F H σ e _ fun F1 H1 v x e1 r1 p => G1.run (e.ext e1) r1 fun σ' e2 _ _ => k x p F1 H1 σ' e2
theorem q_tgtP {g : TG} {js : List Nat} {w : A → List Sl → List Sl} {P : A → Prop} (G1 : Tgt g R js w) (h : EvP B Γ te R P) (k : ∀ x, P x → Wn B (w x Γ) (u D)) : Wn B Γ (tSeq (tAsg te g) u D) := s_tgtP (D := { D with nx := u D }) G1 h k
theorem s_drop {x : A} (h : Ev B Γ te R x) (k : Wn B Γ D.nx) : Wn B Γ (tDrop te D) := fun F H σ e => h F H σ e _ fun F1 H1 v e1 _ => k F1 H1 σ (e.ext e1)
theorem q_drop {x : A} (h : Ev B Γ te R x) (k : Wn B Γ (u D)) : Wn B Γ (tSeq (tDrop te) u D) := s_drop (D := { D with nx := u D }) h k
/-- xs.append(e) -/
theorem s_app {i : Nat} {m : Mn R} {xs : List A} {x : A} (hi : Γ[i]? = some (.ml R m xs)) (h : Ev B Γ te R x) (hz : xs.length < 10000000) (k : Wn B (Γ.set i (sm R (xs ++ [x]))) D.nx) : Wn B Γ (tDrop (tBM K "list" rAppend (tVar i) (tCons te tNil)) D) := fun F H σ e => by
  obtain ⟨o, ho, p, vs, rfl, hf, h0, hp, r⟩ := e.ok i _ hi
  refine ⟨.ref p, ho, .inl ⟨rfl, vs, SqL.of hp⟩, h F H σ e _ fun F1 H1 v e1 r1 => ?_⟩
  have hp1 := e1.hh _ _ hp
  have hf1 : F1 p = none := e1.fr p hf (by rw [hp]; exact fun q => nomatch q)
  refine ⟨p, vs, v, rfl, rfl, hp1, szl (by rw [r.1]; exact hz), ?_⟩
  exact k F1 _ σ ((e.ext e1).write (t := sm R (xs ++ [x])) hi rfl ho hf1 h0 ⟨p, vs ++ [v], rfl, hf1, h0, upd_same, (r.imp fun _ _ => m.mono e1.ff).append (AllR.one r1)⟩ rfl)
theorem q_app {i : Nat} {m : Mn R} {xs : List A} {x : A} (hi : Γ[i]? = some (.ml R m xs)) (h : Ev B Γ te R x) (hz : xs.length < 10000000) (k : Wn B (Γ.set i (sm R (xs ++ [x]))) (u D)) : Wn B Γ (tSeq (tDrop (tBM K "list" rAppend (tVar i) (tCons te tNil))) u D) := s_app (D := { D with nx := u D }) hi h hz k
/-- xs.reverse() -/
theorem s_rev {i : Nat} {m : Mn R} {xs : List A} (hi : Γ[i]? = some (.ml R m xs)) (k : Wn B (Γ.set i (sm R xs.reverse)) D.nx) : Wn B Γ (tDrop (tBM0 K "list" rReverse (tVar i)) D) := fun F H σ e => by
  obtain ⟨o, ho, p, vs, rfl, hf, h0, hp, r⟩ := e.ok i _ hi
  refine ⟨.ref p, ho, .inl ⟨rfl, vs, SqL.of hp⟩, p, vs, rfl, rfl, hp, ?_⟩
  exact k F _ σ (e.write (t := sm R xs.reverse) hi rfl ho hf h0 ⟨p, vs.reverse, rfl, hf, h0, upd_same, r.reverse⟩ rfl)
theorem q_rev {i : Nat} {m : Mn R} {xs : List A} (hi : Γ[i]? = some (.ml R m xs)) (k : Wn B (Γ.set i (sm R xs.reverse)) (u D)) : Wn B Γ (tSeq (tDrop (tBM0 K "list" rReverse (tVar i))) u D) := s_rev (D := { D with nx := u D }) hi k
/-- xs[j] = e -/
theorem s_set {i : Nat} {m : Mn R} {xs : List A} {x : A} {j : Int} {n : Nat} (hi : Γ[i]? = some (.ml R m xs)) (h : Ev B Γ te R x) (hj : Ev B Γ tb rInt j) (hn : ixN xs.length j = some n) (k : Wn B (Γ.set i (sm R (xs.set n x))) D.nx) : Wn B Γ (tAsg te (gSub (tVar i) tb rSetL) D) := fun F H σ e =>
  h F H σ e _ fun F1 H1 v e1 r1 => by
    have e' := e.ext e1
    obtain ⟨o, ho, p, vs, rfl, hf, h0, hp, r⟩ := e'.ok i _ hi
    refine ⟨.ref p, ho, hj F1 H1 σ e' _ fun F2 H2 w e2 r2 => ?_⟩
    have hp2 := e2.hh _ _ hp
    have hf2 : F2 p = none := e2.fr p hf (by rw [hp]; exact fun q => nomatch q)
    refine ⟨p, vs, j, n, rfl, r2, hp2, by rw [r.1]; exact hn, ?_⟩
    exact k F2 _ σ ((e'.ext e2).write (t := sm R (xs.set n x)) hi rfl ho hf2 h0 ⟨p, vs.set n v, rfl, hf2, h0, upd_same, (r.imp fun _ _ => m.mono e2.ff).set (m.mono e2.ff r1) n⟩ rfl)
theorem q_set {i : Nat} {m : Mn R} {xs : List A} {x : A} {j : Int} {n : Nat} (hi : Γ[i]? = some (.ml R m xs)) (h : Ev B Γ te R x) (hj : Ev B Γ tb rInt j) (hn : ixN xs.length j = some n) (k : Wn B (Γ.set i (sm R (xs.set n x))) (u D)) : Wn B Γ (tSeq (tAsg te (gSub (tVar i) tb rSetL)) u D) :=
  s_set (D := { D with nx := u D }) hi h hj hn k
/-- name = xs.pop(j) -/
theorem s_popAt {i l : Nat} {m : Mn R} {xs : List A} {x : A} {j : Int} {n : Nat} (hi : Γ[i]? = some (.ml R m xs)) (hj : Ev B Γ tb rInt j) (h0j : j = (n : Int)) (hn : xs[n]? = some x) (hz : xs.length ≤ 10000000) (k : Wn B ((Γ.set i (sm R (xs.eraseIdx n))).set l (sf R x)) D.nx) :
    Wn B Γ (tAsg (tBM K "list" rPopAt (tVar i) (tCons tb tNil)) (gName l) D) := fun F H σ e => by
  obtain ⟨o, ho, p, vs, rfl, hf, h0, hp, r⟩ := e.ok i _ hi
  have hlt : n < xs.length := (List.getElem?_eq_some_iff.mp hn).1
  refine ⟨.ref p, ho, .inl ⟨rfl, vs, SqL.of hp⟩, hj F H σ e _ fun F2 H2 w e2 r2 => ?_⟩
  have hp2 := e2.hh _ _ hp
  have hf2 : F2 p = none := e2.fr p hf (by rw [hp]; exact fun q => nomatch q)
  have r' := r.imp fun _ _ => m.mono e2.ff
  obtain ⟨v, hv, rv⟩ := r'.get hn
  have hs : seqIndex? j vs.length = some n := by
    have q : ixN vs.length j = some n := by
      unfold ixN
      rw [r.1, h0j, if_pos (by omega), if_pos (by omega)]
      exact congrArg some (by omega)
    exact (ixN_seq q).1
  refine ⟨p, vs, j, n, v, rfl, by rw [show w = .int j from r2], hp2, by omega, by omega, hs, hv, ?_⟩
  exact k F2 _ _ (((e.ext e2).write (t := sm R (xs.eraseIdx n)) hi rfl ho hf2 h0 ⟨p, vs.eraseIdx n, rfl, hf2, h0, upd_same, r'.eraseIdx n⟩ rfl).setFz rv)
theorem q_popAt {i l : Nat} {m : Mn R} {xs : List A} {x : A} {j : Int} {n : Nat} (hi : Γ[i]? = some (.ml R m xs)) (hj : Ev B Γ tb rInt j) (h0j : j = (n : Int)) (hn : xs[n]? = some x) (hz : xs.length ≤ 10000000) (k : Wn B ((Γ.set i (sm R (xs.eraseIdx n))).set l (sf R x)) (u D)) :
    Wn B Γ (tSeq (tAsg (tBM K "list" rPopAt (tVar i) (tCons tb tNil)) (gName l)) u D) := s_popAt (D := { D with nx := u D }) hi hj h0j hn hz k
/-- name op= e -/
theorem s_aug {i : Nat} {m : Mn rInt} {a b : Int} {f : Int → Int → Int} (hi : Γ[i]? = some (.fz ⟨Int, rInt, m, a⟩)) (h : Ev B Γ te rInt b) (k : Wn B (Γ.set i (sf rInt (f a b))) D.nx) : Wn B Γ (tAug i te (ipI f) D) := fun F H σ e => by
  obtain ⟨o, ho, v, rfl, r⟩ := e.ok i _ hi
  refine ⟨v, ho, h F H σ e _ fun F1 H1 w e1 r1 => ⟨a, b, r, r1, k F1 H1 _ ((e.ext e1).setFz (R := rInt) rfl)⟩⟩
theorem q_aug {i : Nat} {m : Mn rInt} {a b : Int} {f : Int → Int → Int} (hi : Γ[i]? = some (.fz ⟨Int, rInt, m, a⟩)) (h : Ev B Γ te rInt b) (k : Wn B (Γ.set i (sf rInt (f a b))) (u D)) : Wn B Γ (tSeq (tAug i te (ipI f)) u D) := s_aug (D := { D with nx := u D }) hi h k
/-- self.f = e, self an owned instance -/
theorem s_fld {i : Nat} {p C : Addr} {fs : Fs} {f : Str} {m : Mn R} {x : A} (hi : Γ[i]? = some (.mo p C fs)) (h : Ev B Γ tv R x) (hl : fs.length < 900) (k : Wn B (Γ.set i (.mo p C (putS f ⟨A, R, m, x⟩ fs))) D.nx) : Wn B Γ (sF C (tVar i) tv f D) := fun F H σ e =>
  h F H σ e _ fun F1 H1 v e1 r1 => by
    have e' := e.ext e1
    obtain ⟨o, ho, dx, vs, rfl, hf, h0, hp, r⟩ := e'.ok i _ hi
    refine ⟨.ref p, ho, p, dx, vs, rfl, hp, by rw [r.len]; omega, ?_⟩
    exact k F1 _ σ (e'.write (t := .mo p C (putS f ⟨A, R, m, x⟩ fs)) hi rfl ho hf h0 ⟨dx, putF f v vs, rfl, hf, h0, upd_same, r.put (s := ⟨A, R, m, x⟩) r1⟩ rfl)
theorem q_fld {i : Nat} {p C : Addr} {fs : Fs} {f : Str} {m : Mn R} {x : A} (hi : Γ[i]? = some (.mo p C fs)) (h : Ev B Γ tv R x) (hl : fs.length < 900) (k : Wn B (Γ.set i (.mo p C (putS f ⟨A, R, m, x⟩ fs))) (u D)) : Wn B Γ (tSeq (sF C (tVar i) tv f) u D) :=
  s_fld (D := { D with nx := u D }) hi h hl k
theorem putS_new {f : Str} {z : Fz} : ∀ {fs : Fs}, (fs.map (·.1)).contains f = false → putS f z fs = fs ++ [(f, z)]
  | [], _ => rfl
  | (g, t) :: r, h => by
    rw [List.map_cons, List.contains_cons, Bool.or_eq_false_iff] at h
    unfold putS
    rw [if_neg (fun e => by rw [e, beq_self_eq_true] at h; cases h.1), putS_new h.2]
    rfl
/-- the same, a new attribute -/
theorem s_fldN {i : Nat} {p C : Addr} {fs : Fs} {f : Str} [m : Mn R] {x : A} (ks : List Str) (hi : Γ[i]? = some (.mo p C fs)) (h : Ev B Γ tv R x) (hk : fs.map (·.1) = ks) (hn : ks.contains f = false) (hl : ks.length < 900) (k : Wn B (Γ.set i (.mo p C (fs ++ [(f, ⟨A, R, m, x⟩)]))) D.nx) : Wn B Γ (sF C (tVar i) tv f D) := by
  refine s_fld (m := m) hi h (by rw [← List.length_map (f := (·.1)), hk]; exact hl) ?_
  rw [putS_new (by rw [hk]; exact hn)]
  exact k
theorem q_fldN {i : Nat} {p C : Addr} {fs : Fs} {f : Str} [m : Mn R] {x : A} (ks : List Str) (hi : Γ[i]? = some (.mo p C fs)) (h : Ev B Γ tv R x) (hk : fs.map (·.1) = ks) (hn : ks.contains f = false) (hl : ks.length < 900) (k : Wn B (Γ.set i (.mo p C (fs ++ [(f, ⟨A, R, m, x⟩)]))) (u D)) : Wn B Γ (tSeq (sF C (tVar i) tv f) u D) :=
  s_fldN (D := { D with nx := u D }) ks hi h hk hn hl k
/-! ### if -/
theorem s_if {b : Bool} (h : EvT B Γ tt b) (h1 : b = true → Wn B Γ (t1 D)) (h2 : b = false → Wn B Γ (t2 D)) : Wn B Γ (tIfS tt t1 t2 D) := fun F H σ e =>
  h F H σ e _ fun F1 H1 e1 => by
    cases b with
    | true => exact h1 rfl F1 H1 σ (e.ext e1)
    | false => exact h2 rfl F1 H1 σ (e.ext e1)
theorem q_if {b : Bool} (h : EvT B Γ tt b) (h1 : b = true → Wn B Γ (t1 { D with nx := u D })) (h2 : b = false → Wn B Γ (t2 { D with nx := u D })) : Wn B Γ (tSeq (tIfS tt t1 t2) u D) := s_if (D := { D with nx := u D }) h h1 h2
/-- an if without else -/
theorem q_when {b : Bool} (h : EvT B Γ tt b) (h1 : b = true → Wn B Γ (t1 { D with nx := u D })) (h2 : b = false → Wn B Γ (u D)) : Wn B Γ (tSeq (tIfS tt t1 tNext) u D) := s_if (D := { D with nx := u D }) h h1 h2
/-- .. whose test is known to fail -/
theorem q_no {b : Bool} (h : EvT B Γ tt b) (hb : b = false) (k : Wn B Γ (u D)) : Wn B Γ (tSeq (tIfS tt t1 tNext) u D) := q_when h (fun q => by rw [hb] at q; cases q) fun _ => k
theorem s_no {b : Bool} (h : EvT B Γ tt b) (hb : b = false) (k : Wn B Γ D.nx) : Wn B Γ (tIfS tt t1 tNext D) := s_if h (fun q => by rw [hb] at q; cases q) fun _ => k
/-- an if, then on with one word -/
theorem q_cut {Δ : List Sl} {b : Bool} (h : EvT B Γ tt b) (h1 : b = true → ∀ N : SN, Wn B Δ N → Wn B Γ (t1 { D with nx := N })) (h2 : b = false → ∀ N : SN, Wn B Δ N → Wn B Γ (t2 { D with nx := N })) (k : Wn B Δ (u D)) : Wn B Γ (tSeq (tIfS tt t1 t2) u D) :=
  q_if h (fun q => h1 q _ k) fun q => h2 q _ k
/-! ### the end -/
theorem s_ret {P : Y → Prop} {R : Rel Y} {y : Y} (h : Ev B Γ te R y) (rt : RtOk B R P D.rt) (hp : P y) : Wn B Γ (tRet te D) := fun F H σ e => h F H σ e _ fun F1 H1 v e1 r1 => rt F1 H1 v y (e.ex.trans e1) r1 hp
theorem s_retP {P P' : Y → Prop} {R : Rel Y} (h : EvP B Γ te R P') (rt : RtOk B R P D.rt) (hp : ∀ y, P' y → P y) : Wn B Γ (tRet te D) := fun F H σ e => h F H σ e _ fun F1 H1 v y e1 r1 p => rt F1 H1 v y (e.ex.trans e1) r1 (hp y p)
/-- the end of a body without return -/
theorem s_off {P : Unit → Prop} {Q : VK} (rt : RtOk B rNon P Q) (hp : P ()) : Wn B Γ (fun _ H' => Q .non H') := fun F H σ e => rt F H .non () e.ex rfl hp
/-- the end of an __init__: self stands as it is told -/
theorem s_offI {i : Nat} {p C : Addr} {fs : Fs} {R : Rel Y} {y : Y} {Q : VK} (hi : Γ[i]? = some (.mo p C fs)) (rt : ∀ F' H', Ex B.F B.H F' H' → R F' (.ref p) y → Q .non H') (hR : ∀ F v, rIns C fs F v () → R F v y) : Wn B Γ (fun _ H' => Q .non H') := fun F H σ e => by
  obtain ⟨o, ho, dx, vs, rfl, hf, h0, hp, r⟩ := e.ok i _ hi
  refine rt (upd F p (.ins C dx vs)) H (e.ex.frz h0 hf hp) (hR _ _ ⟨p, dx, vs, rfl, upd_same, FsOk.mono (same_upd hf) r⟩)
/-! ### loops -/
theorem s_forR1 {I : Type} (P : Nat → I → Prop) (G : Nat → I → List Sl) {n : Int} {j : Nat} (h : Ev B Γ ta rInt n) (hn : -(2 ^ 62) ≤ n ∧ n < 2 ^ 62) (h0 : ∃ x, P 0 x ∧ Sub Γ (G 0 x))
    (hs : ∀ (i : Nat) x, (i : Int) < n → P i x → Wn B ((G i x).set j (sf rInt (i : Int))) (t { D with nx := Lp B (P (i + 1)) (G (i + 1)), ct := Lp B (P (i + 1)) (G (i + 1)), bk := D.nx })) (hd : ∀ x, P n.toNat x → Wn B (G n.toNat x) D.nx) :
    Wn B Γ (tFor (iRng1 (tCons ta tNil)) (gName j) t D) := fun F H σ e =>
  h F H σ e _ fun F1 H1 v e1 r1 => ⟨n, by rw [show v = .int n from r1], hn.1, hn.2, by
    obtain ⟨x0, p0, s0⟩ := h0
    refine for_range (lo := 0) (n := n.toNat) (fun i => Lp B (P i) (G i)) ⟨F1, x0, p0, (e.ext e1).sub s0⟩ (fun i σ' H' hi ⟨F', x, p, e2⟩ => ?_) (fun σ' H' ⟨F', x, p, e2⟩ => hd x p F' H' σ' e2)
    rw [show (0 : Int) + (i : Int) = (i : Int) from Int.zero_add _]
    exact hs i x (by omega) p F' H' _ (e2.setFz (R := rInt) rfl)⟩
theorem q_forR1 {I : Type} (P : Nat → I → Prop) (G : Nat → I → List Sl) {n : Int} {j : Nat} (h : Ev B Γ ta rInt n) (hn : -(2 ^ 62) ≤ n ∧ n < 2 ^ 62) (h0 : ∃ x, P 0 x ∧ Sub Γ (G 0 x))
    (hs : ∀ (i : Nat) x, (i : Int) < n → P i x → Wn B ((G i x).set j (sf rInt (i : Int))) (t { D with nx := Lp B (P (i + 1)) (G (i + 1)), ct := Lp B (P (i + 1)) (G (i + 1)), bk := u D })) (hd : ∀ x, P n.toNat x → Wn B (G n.toNat x) (u D)) :
    Wn B Γ (tSeq (tFor (iRng1 (tCons ta tNil)) (gName j) t) u D) := s_forR1 (D := { D with nx := u D }) P G h hn h0 hs hd
theorem s_forR2 {I : Type} (P : Nat → I → Prop) (G : Nat → I → List Sl) {lo n : Int} {j : Nat} (ha : Ev B Γ ta rInt lo) (hb : Ev B Γ tb rInt n) (hn : -(2 ^ 62) ≤ lo ∧ lo < 2 ^ 62 ∧ -(2 ^ 62) ≤ n ∧ n < 2 ^ 62) (h0 : ∃ x, P 0 x ∧ Sub Γ (G 0 x))
    (hs : ∀ (i : Nat) x, lo + (i : Int) < n → P i x → Wn B ((G i x).set j (sf rInt (lo + (i : Int)))) (t { D with nx := Lp B (P (i + 1)) (G (i + 1)), ct := Lp B (P (i + 1)) (G (i + 1)), bk := D.nx })) (hd : ∀ x, P (n - lo).toNat x → Wn B (G (n - lo).toNat x) D.nx) :
    Wn B Γ (tFor (iRng2 (tCons ta (tCons tb tNil))) (gName j) t D) := fun F H σ e =>
  ev2 ha hb e fun F1 H1 v w e1 r1 r2 => ⟨lo, n, by rw [show v = .int lo from r1, show w = .int n from r2], hn, by
    obtain ⟨x0, p0, s0⟩ := h0
    refine for_range (lo := lo) (n := (n - lo).toNat) (fun i => Lp B (P i) (G i)) ⟨F1, x0, p0, (e.ext e1).sub s0⟩ (fun i σ' H' hi ⟨F', x, p, e2⟩ => ?_) (fun σ' H' ⟨F', x, p, e2⟩ => hd x p F' H' σ' e2)
    exact hs i x (by omega) p F' H' _ (e2.setFz (R := rInt) rfl)⟩
theorem q_forR2 {I : Type} (P : Nat → I → Prop) (G : Nat → I → List Sl) {lo n : Int} {j : Nat} (ha : Ev B Γ ta rInt lo) (hb : Ev B Γ tb rInt n) (hn : -(2 ^ 62) ≤ lo ∧ lo < 2 ^ 62 ∧ -(2 ^ 62) ≤ n ∧ n < 2 ^ 62) (h0 : ∃ x, P 0 x ∧ Sub Γ (G 0 x))
    (hs : ∀ (i : Nat) x, lo + (i : Int) < n → P i x → Wn B ((G i x).set j (sf rInt (lo + (i : Int)))) (t { D with nx := Lp B (P (i + 1)) (G (i + 1)), ct := Lp B (P (i + 1)) (G (i + 1)), bk := u D })) (hd : ∀ x, P (n - lo).toNat x → Wn B (G (n - lo).toNat x) (u D)) :
    Wn B Γ (tSeq (tFor (iRng2 (tCons ta (tCons tb tNil))) (gName j) t) u D) := s_forR2 (D := { D with nx := u D }) P G ha hb hn h0 hs hd
/-- a later beginning -/
structure Up (B B1 : Wd) : Prop where
  ex : ∀ F' H', Ex B1.F B1.H F' H' → Ex B.F B.H F' H'
theorem RtOk.up {B B1 : Wd} {R : Rel Y} {P : Y → Prop} {Q : VK} (h : RtOk B R P Q) (k : Up B B1) : RtOk B1 R P Q := fun F' H' v y e r p => h F' H' v y (k.ex F' H' e) r p
theorem Up.of {B : Wd} {F1 H1 : Hp} (e : Ex B.F B.H F1 H1) : Up B ⟨F1, B.H⟩ := ⟨fun F' H' k => ⟨e.ff.trans k.ff, k.hh, k.fh, fun b a c => k.fr b (e.fr b a c) c⟩⟩
theorem EnvOk.later {B : Wd} {Γ : List Sl} {F H : Hp} {σ : L2.St} (h : EnvOk B Γ F H σ) : EnvOk ⟨F, B.H⟩ Γ F H σ := ⟨⟨Same.refl _, h.ex.hh, h.ex.fh, fun _ a _ => a⟩, h.len, h.ok, h.ap⟩
theorem EnvOk.back {B : Wd} {Γ : List Sl} {F F1 H : Hp} {σ : L2.St} (k : Up B ⟨F1, B.H⟩) (h : EnvOk ⟨F1, B.H⟩ Γ F H σ) : EnvOk B Γ F H σ := ⟨k.ex _ _ h.ex, h.len, h.ok, h.ap⟩
/-- over a list of data -/
theorem s_forL [m : Mn R] {I : Type} (P : Nat → I → Prop) (G : Nat → I → List Sl) {xs : List A} {g : TG} {js : List Nat} {w : A → List Sl → List Sl} (G1 : Tgt g R js w) (h : Ev B Γ tl (rLst R) xs) (h0 : ∃ x, P 0 x ∧ Sub Γ (G 0 x))
    (hs : ∀ B1, Up B B1 → ∀ (i : Nat) x y, xs[i]? = some y → P i x → Wn B1 (w y (G i x)) (t { D with nx := Lp B1 (P (i + 1)) (G (i + 1)), ct := Lp B1 (P (i + 1)) (G (i + 1)), bk := D.nx })) (hd : ∀ x, P xs.length x → Wn B (G xs.length x) D.nx) :
    Wn B Γ (tFor (iList K tl) g t D) := fun F H σ e =>
  h F H σ e _ fun F1 H1 v e1 ⟨a, ws, ea, ha, ra⟩ => ⟨a, ea, ⟨ws, SqL.of (e1.fh _ _ ha)⟩, by
    obtain ⟨x0, p0, s0⟩ := h0
    have en := e.ext e1
    have up := Up.of en.ex
    refine for_list (K := K) (a := a) (xs := ws) (fun i => Lp ⟨F1, B.H⟩ (P i) (G i)) ⟨F1, x0, p0, (en.sub s0).later⟩ (fun i σ' H' _ ⟨F', x, p, e2⟩ => SqL.of (e2.fh _ _ (e2.ex.ff _ _ ha)))
      (fun i y σ' H' hi ⟨F', x, p, e2⟩ => ?_) (fun σ' H' ⟨F', x, p, e2⟩ => ?_)
    · obtain ⟨y', hy, ry⟩ := ra.getV hi
      exact G1.run e2 (m.mono e2.ex.ff ry) fun σ2 e3 _ _ => hs _ up i x y' hy p F' H' σ2 e3
    · rw [ra.1] at p e2
      exact hd x p F' H' σ' (e2.back up)⟩
theorem q_forL [m : Mn R] {I : Type} (P : Nat → I → Prop) (G : Nat → I → List Sl) {xs : List A} {g : TG} {js : List Nat} {w : A → List Sl → List Sl} (G1 : Tgt g R js w) (h : Ev B Γ tl (rLst R) xs) (h0 : ∃ x, P 0 x ∧ Sub Γ (G 0 x))
    (hs : ∀ B1, Up B B1 → ∀ (i : Nat) x y, xs[i]? = some y → P i x → Wn B1 (w y (G i x)) (t { D with nx := Lp B1 (P (i + 1)) (G (i + 1)), ct := Lp B1 (P (i + 1)) (G (i + 1)), bk := u D })) (hd : ∀ x, P xs.length x → Wn B (G xs.length x) (u D)) :
    Wn B Γ (tSeq (tFor (iList K tl) g t) u D) := s_forL (D := { D with nx := u D }) P G G1 h h0 hs hd
/-- over a tuple of data -/
theorem s_forT [m : Mn R] {I : Type} (P : Nat → I → Prop) (G : Nat → I → List Sl) {xs : List A} {g : TG} {js : List Nat} {w : A → List Sl → List Sl} (G1 : Tgt g R js w) (h : Ev B Γ tl (rTup R) xs) (h0 : ∃ x, P 0 x ∧ Sub Γ (G 0 x))
    (hs : ∀ B1, Up B B1 → ∀ (i : Nat) x y, xs[i]? = some y → P i x → Wn B1 (w y (G i x)) (t { D with nx := Lp B1 (P (i + 1)) (G (i + 1)), ct := Lp B1 (P (i + 1)) (G (i + 1)), bk := D.nx })) (hd : ∀ x, P xs.length x → Wn B (G xs.length x) D.nx) :
    Wn B Γ (tFor (iTup K tl) g t D) := fun F H σ e =>
  h F H σ e _ fun F1 H1 v e1 ⟨a, ws, ea, ha, ra⟩ => ⟨a, ea, ⟨ws, SqT.of (e1.fh _ _ ha)⟩, by
    obtain ⟨x0, p0, s0⟩ := h0
    have en := e.ext e1
    have up := Up.of en.ex
    refine for_tup (K := K) (a := a) (xs := ws) (fun i => Lp ⟨F1, B.H⟩ (P i) (G i)) ⟨F1, x0, p0, (en.sub s0).later⟩ (fun i σ' H' _ ⟨F', x, p, e2⟩ => SqT.of (e2.fh _ _ (e2.ex.ff _ _ ha)))
      (fun i y σ' H' hi ⟨F', x, p, e2⟩ => ?_) (fun σ' H' ⟨F', x, p, e2⟩ => ?_)
    · obtain ⟨y', hy, ry⟩ := ra.getV hi
      exact G1.run e2 (m.mono e2.ex.ff ry) fun σ2 e3 _ _ => hs _ up i x y' hy p F' H' σ2 e3
    · rw [ra.1] at p e2
      exact hd x p F' H' σ' (e2.back up)⟩
theorem q_forT [m : Mn R] {I : Type} (P : Nat → I → Prop) (G : Nat → I → List Sl) {xs : List A} {g : TG} {js : List Nat} {w : A → List Sl → List Sl} (G1 : Tgt g R js w) (h : Ev B Γ tl (rTup R) xs) (h0 : ∃ x, P 0 x ∧ Sub Γ (G 0 x))
    (hs : ∀ B1, Up B B1 → ∀ (i : Nat) x y, xs[i]? = some y → P i x → Wn B1 (w y (G i x)) (t { D with nx := Lp B1 (P (i + 1)) (G (i + 1)), ct := Lp B1 (P (i + 1)) (G (i + 1)), bk := u D })) (hd : ∀ x, P xs.length x → Wn B (G xs.length x) (u D)) :
    Wn B Γ (tSeq (tFor (iTup K tl) g t) u D) := s_forT (D := { D with nx := u D }) P G G1 h h0 hs hd
/-- over reversed(a list of data) -/
theorem s_forRv [m : Mn R] {I : Type} (P : Nat → I → Prop) (G : Nat → I → List Sl) {xs : List A} {g : TG} {js : List Nat} {w : A → List Sl → List Sl} (G1 : Tgt g R js w) (h : Ev B Γ tl (rLst R) xs) (h0 : ∃ x, P 0 x ∧ Sub Γ (G 0 x))
    (hs : ∀ B1, Up B B1 → ∀ (i : Nat) x y, i < xs.length → xs[xs.length - 1 - i]? = some y → P i x → Wn B1 (w y (G i x)) (t { D with nx := Lp B1 (P (i + 1)) (G (i + 1)), ct := Lp B1 (P (i + 1)) (G (i + 1)), bk := D.nx })) (hd : ∀ x, P xs.length x → Wn B (G xs.length x) D.nx) :
    Wn B Γ (tFor (iRev K (tCons tl tNil)) g t D) := fun F H σ e =>
  h F H σ e _ fun F1 H1 v e1 ⟨a, ws, ea, ha, ra⟩ => ⟨a, ws, by rw [ea], SqL.of (e1.fh _ _ ha), by
    obtain ⟨x0, p0, s0⟩ := h0
    have en := e.ext e1
    have up := Up.of en.ex
    refine RT.for_Itv (K := K) (a := a) (xs := ws) (fun i => Lp ⟨F1, B.H⟩ (P i) (G i)) ⟨F1, x0, p0, (en.sub s0).later⟩ (fun i σ' H' ⟨F', x, p, e2⟩ => SqL.of (e2.fh _ _ (e2.ex.ff _ _ ha)))
      (fun i y σ' H' hlt hi ⟨F', x, p, e2⟩ => ?_) (fun σ' H' ⟨F', x, p, e2⟩ => ?_)
    · obtain ⟨y', hy, ry⟩ := ra.getV hi
      rw [ra.1] at hy hlt
      exact G1.run e2 (m.mono e2.ex.ff ry) fun σ2 e3 _ _ => hs _ up i x y' hlt hy p F' H' σ2 e3
    · rw [ra.1] at p e2
      exact hd x p F' H' σ' (e2.back up)⟩
theorem q_forRv [m : Mn R] {I : Type} (P : Nat → I → Prop) (G : Nat → I → List Sl) {xs : List A} {g : TG} {js : List Nat} {w : A → List Sl → List Sl} (G1 : Tgt g R js w) (h : Ev B Γ tl (rLst R) xs) (h0 : ∃ x, P 0 x ∧ Sub Γ (G 0 x))
    (hs : ∀ B1, Up B B1 → ∀ (i : Nat) x y, i < xs.length → xs[xs.length - 1 - i]? = some y → P i x → Wn B1 (w y (G i x)) (t { D with nx := Lp B1 (P (i + 1)) (G (i + 1)), ct := Lp B1 (P (i + 1)) (G (i + 1)), bk := u D })) (hd : ∀ x, P xs.length x → Wn B (G xs.length x) (u D)) :
    Wn B Γ (tSeq (tFor (iRev K (tCons tl tNil)) g t) u D) := s_forRv (D := { D with nx := u D }) P G G1 h h0 hs hd
/-- over reversed(range(n)) -/
theorem s_forRR {I : Type} (P : Nat → I → Prop) (G : Nat → I → List Sl) {n : Int} {j : Nat} (h : Ev B Γ ta rInt n) (hn : 0 ≤ n ∧ n < 2 ^ 62) (h0 : ∃ x, P 0 x ∧ Sub Γ (G 0 x))
    (hs : ∀ (i : Nat) x, (i : Int) < n → P i x → Wn B ((G i x).set j (sf rInt (n - 1 - (i : Int)))) (t { D with nx := Lp B (P (i + 1)) (G (i + 1)), ct := Lp B (P (i + 1)) (G (i + 1)), bk := D.nx })) (hd : ∀ x, P n.toNat x → Wn B (G n.toNat x) D.nx) :
    Wn B Γ (tFor (iRevR (tRg1 ta)) (gName j) t D) := fun F H σ e =>
  h F H σ e _ fun F1 H1 v e1 r1 => ⟨n, r1, by decide, by decide, by omega, by omega, by
    obtain ⟨x0, p0, s0⟩ := h0
    have e0 : (n - 0).toNat = n.toNat := by rw [Int.sub_zero]
    rw [e0]
    refine for_rangeC (n := n.toNat) (fun i => Lp B (P i) (G i)) ⟨F1, x0, p0, (e.ext e1).sub s0⟩ (fun i σ' H' hi ⟨F', x, p, e2⟩ => ?_) (fun σ' H' ⟨F', x, p, e2⟩ => hd x p F' H' σ' e2)
    rw [show (0 : Int) + ((n.toNat : Nat) : Int) - 1 + (i : Nat) * (-1) = n - 1 - (i : Int) by omega]
    exact hs i x (by omega) p F' H' _ (e2.setFz (R := rInt) rfl)⟩
theorem q_forRR {I : Type} (P : Nat → I → Prop) (G : Nat → I → List Sl) {n : Int} {j : Nat} (h : Ev B Γ ta rInt n) (hn : 0 ≤ n ∧ n < 2 ^ 62) (h0 : ∃ x, P 0 x ∧ Sub Γ (G 0 x))
    (hs : ∀ (i : Nat) x, (i : Int) < n → P i x → Wn B ((G i x).set j (sf rInt (n - 1 - (i : Int)))) (t { D with nx := Lp B (P (i + 1)) (G (i + 1)), ct := Lp B (P (i + 1)) (G (i + 1)), bk := u D })) (hd : ∀ x, P n.toNat x → Wn B (G n.toNat x) (u D)) :
    Wn B Γ (tSeq (tFor (iRevR (tRg1 ta)) (gName j) t) u D) := s_forRR (D := { D with nx := u D }) P G h hn h0 hs hd
/-- while -/
theorem s_while {I : Type} (P : I → Prop) (G : I → List Sl) (μ : I → Nat) (b : I → Bool) (h0 : ∃ x, P x ∧ Sub Γ (G x)) (ht : ∀ x, P x → EvT B (G x) tt (b x))
    (hs : ∀ x, P x → b x = true → Wn B (G x) (t { D with nx := Lp B (fun y => P y ∧ μ y < μ x) G, ct := Lp B (fun y => P y ∧ μ y < μ x) G, bk := D.nx })) (hd : ∀ x, P x → b x = false → Wn B (G x) D.nx) : Wn B Γ (tWhile tt t D) := fun F H σ e => by
  obtain ⟨x0, p0, s0⟩ := h0
  refine ⟨fun m σ H => ∃ F x, P x ∧ μ x = m ∧ EnvOk B (G x) F H σ, ⟨_, F, x0, p0, rfl, e.sub s0⟩, fun m σ' H' ⟨F', x, p, hm, e2⟩ => ?_⟩
  refine ht x p F' H' σ' e2 _ fun F1 H1 e1 => ?_
  cases hb : b x with
  | true =>
    refine ⟨Lp B (fun y => P y ∧ μ y < μ x) G, fun σ2 H2 ⟨F2, y, ⟨q1, q2⟩, e3⟩ => ⟨μ y, by omega, F2, y, q1, rfl, e3⟩, ?_⟩
    exact hs x p hb F1 H1 σ' (e2.ext e1)
  | false => exact hd x p hb F1 H1 σ' (e2.ext e1)
theorem q_while {I : Type} (P : I → Prop) (G : I → List Sl) (μ : I → Nat) (b : I → Bool) (h0 : ∃ x, P x ∧ Sub Γ (G x)) (ht : ∀ x, P x → EvT B (G x) tt (b x))
    (hs : ∀ x, P x → b x = true → Wn B (G x) (t { D with nx := Lp B (fun y => P y ∧ μ y < μ x) G, ct := Lp B (fun y => P y ∧ μ y < μ x) G, bk := u D })) (hd : ∀ x, P x → b x = false → Wn B (G x) (u D)) : Wn B Γ (tSeq (tWhile tt t) u D) :=
  s_while (D := { D with nx := u D }) P G μ b h0 ht hs hd
end
/-! ### tuples that may stand in the written part -/
theorem sqt_mono {K : PySem.W.Frag} {F F' : Hp} {a : Addr} {xs : List V} (e : Same F F') (h : SqT K F a xs) : SqT K F' a xs := by
  rcases h with (h | ⟨o, h⟩) | h
  · exact .inl (.inl (e _ _ h))
  · exact .inl (.inr ⟨o, e _ _ h⟩)
  · exact .inr h
def rTupS {A : Type} (K : PySem.W.Frag) (R : Rel A) : Rel (List A) := fun F v xs => ∃ a vs, v = .ref a ∧ SqT K F a vs ∧ AllR (R F) vs xs
instance {A : Type} {K : PySem.W.Frag} {R : Rel A} [Mn R] : Mn (rTupS K R) := ⟨fun s ⟨a, vs, e, f, r⟩ => ⟨a, vs, e, sqt_mono s f, r.imp fun _ _ => Mn.mono s⟩⟩
section
variable {B : Wd} {Γ : List Sl} {K : PySem.W.Frag} {ta tb tl : TE} {A : Type} {R : Rel A} {D : Ends} {t u : TS}
theorem ev_lenS {xs : List A} (ha : Ev B Γ ta (rTupS K R) xs) : Ev B Γ (tCB (rLen K) (tCons ta tNil)) rInt (xs.length : Int) := fun F H σ e Q q =>
  ha F H σ e _ fun F1 H1 v e1 ⟨a, vs, ea, ha, ra⟩ => ⟨a, vs, by rw [ea], .inr (sqt_mono e1.fh ha), q F1 H1 _ e1 (by rw [ra.1]; rfl)⟩
theorem ev_ixS {xs : List A} {i : Int} {x : A} (ha : Ev B Γ ta (rTupS K R) xs) (hb : Ev B Γ tb rInt i) [m : Mn R] (h : atI xs i = some x) : Ev B Γ (tOp (rIxT K) ta tb) R x := fun F H σ e Q q =>
  ev2 ha hb e fun F1 H1 v u e1 ⟨a, vs, ea, ha, ra⟩ r2 => by
    obtain ⟨w, h1, h2⟩ := ra.at_ h
    exact ⟨a, vs, i, w, ea, r2, sqt_mono e1.fh ha, h1, q F1 H1 w e1 h2⟩
theorem q_forS [m : Mn R] {I : Type} (P : Nat → I → Prop) (G : Nat → I → List Sl) {xs : List A} {g : TG} {js : List Nat} {w : A → List Sl → List Sl} (G1 : Tgt g R js w) (h : Ev B Γ tl (rTupS K R) xs) (h0 : ∃ x, P 0 x ∧ Sub Γ (G 0 x))
    (hs : ∀ B1, Up B B1 → ∀ (i : Nat) x y, xs[i]? = some y → P i x → Wn B1 (w y (G i x)) (t { D with nx := Lp B1 (P (i + 1)) (G (i + 1)), ct := Lp B1 (P (i + 1)) (G (i + 1)), bk := u D })) (hd : ∀ x, P xs.length x → Wn B (G xs.length x) (u D)) :
    Wn B Γ (tSeq (tFor (iTup K tl) g t) u D) := fun F H σ e =>
  h F H σ e _ fun F1 H1 v e1 ⟨a, ws, ea, ha, ra⟩ => ⟨a, ea, ⟨ws, sqt_mono e1.fh ha⟩, by
    obtain ⟨x0, p0, s0⟩ := h0
    have en := e.ext e1
    have up := Up.of en.ex
    refine for_tup (K := K) (a := a) (xs := ws) (D := { D with nx := u D }) (fun i => Lp ⟨F1, B.H⟩ (P i) (G i)) ⟨F1, x0, p0, (en.sub s0).later⟩ (fun i σ' H' _ ⟨F', x, p, e2⟩ => sqt_mono (e2.ex.ff.trans e2.fh) ha)
      (fun i y σ' H' hi ⟨F', x, p, e2⟩ => ?_) (fun σ' H' ⟨F', x, p, e2⟩ => ?_)
    · obtain ⟨y', hy, ry⟩ := ra.getV hi
      exact G1.run e2 (m.mono e2.ex.ff ry) fun σ2 e3 _ _ => hs _ up i x y' hy p F' H' σ2 e3
    · rw [ra.1] at p e2
      exact hd x p F' H' σ' (e2.back up)⟩
end
/-! ### a def -/
abbrev Dq (Q : VK) : Ends := { nx := fun _ H' => Q .non H', rt := Q }
theorem env0 {F H : Hp} (s : Same F H) : ∀ {vs : List V} {ss : List Fz} {N : List Str} {n : Nat}, ArgOk F vs ss → N.length = ss.length + n → EnvOk ⟨F, H⟩ (ss.map Sl.fz ++ List.replicate n .any) F H (L2.start N vs) := by
  intro vs ss N n h hN
  have hl : vs.length = ss.length := by
    clear hN
    induction vs generalizing ss with
    | nil => cases ss with
      | nil => rfl
      | cons _ _ => exact h.elim
    | cons v r ih => cases ss with
      | nil => exact h.elim
      | cons s t => exact congrArg (· + 1) (ih h.2)
  have hg : ∀ (i : Nat) (s : Fz), ss[i]? = some s → ∃ v, vs[i]? = some v ∧ s.ok F v := by
    clear hN hl
    induction vs generalizing ss with
    | nil => cases ss with
      | nil => intro i s q; simp at q
      | cons _ _ => exact h.elim
    | cons v r ih => cases ss with
      | nil => exact h.elim
      | cons s t =>
        intro i s' q
        cases i with
        | zero => cases q; exact ⟨v, rfl, h.1⟩
        | succ j => exact ih h.2 j s' q
  have hno : ∀ (i : Nat) (s : Sl), (ss.map Sl.fz ++ List.replicate n .any)[i]? = some s → s.own = false ∧ ∃ o, (L2.start N vs)[i]? = some o ∧ SlOk H F H s o := by
    intro i s q
    unfold L2.start
    by_cases hi : i < ss.length
    · rw [List.getElem?_append_left (by rw [List.length_map]; exact hi), List.getElem?_map] at q
      cases e : ss[i]? with
      | none => rw [e] at q; cases q
      | some t =>
        rw [e] at q
        obtain ⟨v, h1, h2⟩ := hg i t e
        cases (show s = Sl.fz t from (Option.some.inj q).symm)
        refine ⟨rfl, some v, ?_, v, rfl, h2⟩
        rw [List.getElem?_append_left (by rw [List.length_map, hl]; exact hi), List.getElem?_map, h1]
        rfl
    · rw [List.getElem?_append_right (by rw [List.length_map]; omega), List.length_map, List.getElem?_replicate] at q
      split at q
      · rename_i c
        cases (show s = Sl.any from (Option.some.inj q).symm)
        refine ⟨rfl, none, ?_, trivial⟩
        rw [List.getElem?_append_right (by rw [List.length_map, hl]; omega), List.length_map, hl, List.getElem?_replicate, if_pos (by omega)]
      · cases q
  refine ⟨Ex.refl s, ?_, fun i s q => (hno i s q).2, fun i j s t _ a _ c _ => by rw [(hno i s a).1] at c; cases c⟩
  unfold L2.start
  rw [List.length_append, List.length_append, List.length_map, List.length_map, List.length_replicate, List.length_replicate]
  omega
end G
set_option maxHeartbeats 4000000
namespace G
open PySem PySem.Spec PyProof.Rows L2
/-! ### an owned list lent out -/
/-- it leans on no object -/
class Pu {A : Type} (R : Rel A) : Prop where
  pu : ∀ {F F' : Hp} {v : V} {x : A}, R F v x → R F' v x
instance : Pu rInt := ⟨fun h => h⟩
instance : Pu rBl := ⟨fun h => h⟩
instance : Pu rNon := ⟨fun h => h⟩
instance {A : Type} {R : Rel A} [Pu R] : Pu (rOpt R) := ⟨fun {F F' v x} h => by
  cases x with
  | none => exact h
  | some y => exact Pu.pu (R := R) (F := F) h⟩
def cutF (p : Addr) (F : Hp) : Hp := fun b => if b = p then none else F b
theorem cutF_same {p : Addr} {F : Hp} : cutF p F p = none := by unfold cutF; rw [if_pos rfl]
theorem cutF_ne {p b : Addr} {F : Hp} (h : b ≠ p) : cutF p F b = F b := by unfold cutF; rw [if_neg h]
theorem Ex.unfreeze {F H F' H' : Hp} {p : Addr} {o : HO} (hf : F p = none) (hp : H p ≠ none) (e : Ex (upd F p o) H F' H') : Ex F H (cutF p F') H' := by
  refine ⟨fun b u k => ?_, e.hh, fun b u k => ?_, fun b k1 k2 => ?_⟩
  · have hb : b ≠ p := fun z => by rw [z, hf] at k; cases k
    rw [cutF_ne hb]
    exact e.ff b u (by rw [upd_ne hb]; exact k)
  · by_cases hb : b = p
    · rw [hb, cutF_same] at k; cases k
    · rw [cutF_ne hb] at k; exact e.fh b u k
  · by_cases hb : b = p
    · rw [hb]; exact cutF_same
    · rw [cutF_ne hb]; exact e.fr b (by rw [upd_ne hb]; exact k1) k2
/-- freezing, told by the address -/
theorem EnvOk.freezeAt {B : Wd} {Γ : List Sl} {F H : Hp} {σ : L2.St} {i : Nat} {A : Type} {R : Rel A} {m : Mn R} {xs : List A} (h : EnvOk B Γ F H σ) (hs : Γ[i]? = some (.ml R m xs)) :
    ∃ p vs, F p = none ∧ H p = some (.lst vs) ∧ B.H p = none ∧ EnvOk B (Γ.set i (sf (rLst R) xs)) (upd F p (.lst vs)) H σ := by
  obtain ⟨o, ho, p, vs, rfl, hf, h0, hp, r⟩ := h.ok i _ hs
  refine ⟨p, vs, hf, hp, h0, ?_⟩
  have sf1 : Same F (upd F p (.lst vs)) := same_upd hf
  have hne : ∀ b, B.H b ≠ none → b ≠ p := fun b k e => k (by rw [e]; exact h0)
  refine ⟨⟨h.ex.ff.trans sf1, h.ex.hh, fun b u e => ?_, fun b a k => ?_⟩, by rw [List.length_set]; exact h.len, fun j u q => ?_, fun j k t1 t2 n a b c d => ?_⟩
  · by_cases e1 : b = p
    · subst e1; rw [upd_same] at e; rw [← e]; exact hp
    · rw [upd_ne e1] at e; exact h.ex.fh b u e
  · rw [upd_ne (hne b k)]; exact h.ex.fr b a k
  · rcases get_set q with ⟨rfl, rfl⟩ | ⟨e, q⟩
    · exact ⟨_, ho, .ref p, rfl, p, vs, rfl, upd_same, r.imp fun _ _ => m.mono sf1⟩
    · obtain ⟨x, y, z⟩ := h.ok j u q
      refine ⟨x, y, ?_⟩
      have apart : u.own = true → ∀ p', x = some (.ref p') → p' ≠ p := fun hu p' ex z => h.ap i j _ u e hs q rfl hu (by rw [ho, y, ex, z])
      cases u with
      | any => trivial
      | fz s => obtain ⟨v, a1, a2⟩ := z; exact ⟨v, a1, Fz.mono sf1 a2⟩
      | ml R' m' xs' =>
        obtain ⟨p', vs', a1, a2, a3, a4, a5⟩ := z
        exact ⟨p', vs', a1, by rw [upd_ne (apart rfl p' a1)]; exact a2, a3, a4, a5.imp fun _ _ => m'.mono sf1⟩
      | mo p' C fs =>
        obtain ⟨dx, vs', a1, a2, a3, a4, a5⟩ := z
        exact ⟨dx, vs', a1, by rw [upd_ne (apart rfl p' a1)]; exact a2, a3, a4, FsOk.mono sf1 a5⟩
      | ro C fs =>
        obtain ⟨p', dx, vs', a1, a2, a3, a5⟩ := z
        exact ⟨p', dx, vs', a1, by rw [upd_ne (hne p' (by rw [a3]; exact fun q => nomatch q))]; exact a2, a3, FsOk.mono sf1 a5⟩
  · have ow : ∀ {j : Nat} {t1 : Sl}, (Γ.set i (sf (rLst R) xs))[j]? = some t1 → t1.own = true → Γ[j]? = some t1 := fun {j} {t1} q k => by
      rcases get_set q with ⟨rfl, rfl⟩ | ⟨e, q⟩
      · cases k
      · exact q
    exact h.ap j k t1 t2 n (ow a c) (ow b d) c d
section
variable {B : Wd} {Γ : List Sl} {K : PySem.W.Frag} {ta tb te : TE} {A A' : Type} {R : Rel A} {S : Rel A'} {D : Ends} {u : TS} {tt : TT}
theorem lendP [s : Pu S] {i : Nat} {m : Mn R} {xs : List A} {P : A' → Prop} (hi : Γ[i]? = some (.ml R m xs)) (h : EvP B (Γ.set i (sf (rLst R) xs)) te S P) : EvP B Γ te S P := fun F H σ e Q q => by
  obtain ⟨p, vs, hf, hp, _, e2⟩ := e.freezeAt hi
  exact h _ H σ e2 Q fun F' H' v y e3 r k => q (cutF p F') H' v y (e3.unfreeze hf (by rw [hp]; exact fun q => nomatch q)) (s.pu r) k
theorem lend [s : Pu S] {i : Nat} {m : Mn R} {xs : List A} {y : A'} (hi : Γ[i]? = some (.ml R m xs)) (h : Ev B (Γ.set i (sf (rLst R) xs)) te S y) : Ev B Γ te S y := fun F H σ e Q q => by
  obtain ⟨p, vs, hf, hp, _, e2⟩ := e.freezeAt hi
  exact h _ H σ e2 Q fun F' H' v e3 r => q (cutF p F') H' v (e3.unfreeze hf (by rw [hp]; exact fun q => nomatch q)) (s.pu r)
theorem lendT {i : Nat} {m : Mn R} {xs : List A} {b : Bool} (hi : Γ[i]? = some (.ml R m xs)) (h : EvT B (Γ.set i (sf (rLst R) xs)) tt b) : EvT B Γ tt b := fun F H σ e Q q => by
  obtain ⟨p, vs, hf, hp, _, e2⟩ := e.freezeAt hi
  exact h _ H σ e2 Q fun F' H' e3 => q (cutF p F') H' (e3.unfreeze hf (by rw [hp]; exact fun q => nomatch q))
theorem lendL [s : Pu S] {i : Nat} {m : Mn R} {xs : List A} {ys : List A'} (hi : Γ[i]? = some (.ml R m xs)) (h : EvL B (Γ.set i (sf (rLst R) xs)) te S ys) : EvL B Γ te S ys := fun F H σ e Q q => by
  obtain ⟨p, vs, hf, hp, _, e2⟩ := e.freezeAt hi
  exact h _ H σ e2 Q fun F' H' p' ws e3 h1 h2 h3 r => q (cutF p F') H' p' ws (e3.unfreeze hf (by rw [hp]; exact fun q => nomatch q)) h1 (by rw [cutF_ne (fun z => by rw [z, hp] at h1; cases h1)]; exact h2) h3 (r.imp fun _ _ => s.pu)
/-- xs[a], xs[b] = e, an owned list -/
theorem q_swap {i : Nat} {m : Mn R} {xs : List A} {x y : A} {a b : Int} {n k : Nat} (hi : Γ[i]? = some (.ml R m xs)) (he : Ev B Γ te (rPair R R) (x, y)) (hil : i < Γ.length) (ja : Ev B Γ ta rInt a) (hn : ixN xs.length a = some n)
    (jb : Ev B (Γ.set i (sm R (xs.set n x))) tb rInt b) (hk : ixN xs.length b = some k) (w : Wn B (Γ.set i (sm R ((xs.set n x).set k y))) (u D)) :
    Wn B Γ (tSeq (tAsg te (gTup K 2 (gCons (gSub (tVar i) ta rSetL) (gCons (gSub (tVar i) tb rSetL) gNil)))) u D) := fun F H σ e =>
  he F H σ e _ fun F1 H1 v e1 ⟨T, v1, v2, ev, hT, r1, r2⟩ => by
    have e' := e.ext e1
    obtain ⟨o, ho, p, vs, rfl, hf, h0, hp, r⟩ := e'.ok i _ hi
    refine ⟨T, [v1, v2], ev, SqT.of (e1.fh _ _ hT), rfl, v1, [v2], rfl, .ref p, ho, ja F1 H1 σ e' _ fun F2 H2 z e2 rz => ?_⟩
    have hp2 := e2.hh _ _ hp
    have hf2 : F2 p = none := e2.fr p hf (by rw [hp]; exact fun q => nomatch q)
    refine ⟨p, vs, a, n, rfl, rz, hp2, by rw [r.1]; exact hn, ?_⟩
    have e3 := (e'.ext e2).write (t := sm R (xs.set n x)) hi rfl ho hf2 h0 ⟨p, vs.set n v1, rfl, hf2, h0, upd_same, (r.imp fun _ _ => m.mono e2.ff).set (m.mono e2.ff r1) n⟩ rfl
    refine ⟨v2, [], rfl, .ref p, ho, jb F2 _ σ e3 _ fun F4 H4 z4 e4 rz4 => ?_⟩
    have hp4 : H4 p = some (.lst (vs.set n v1)) := e4.hh _ _ upd_same
    have hf4 : F4 p = none := e4.fr p hf2 (by rw [upd_same]; exact fun q => nomatch q)
    refine ⟨p, vs.set n v1, b, k, rfl, rz4, hp4, by rw [List.length_set, r.1]; exact hk, rfl, ?_⟩
    have hi4 : (Γ.set i (sm R (xs.set n x)))[i]? = some (sm R (xs.set n x)) := List.getElem?_set_self hil
    have e5 := (e3.ext e4).write (t := sm R ((xs.set n x).set k y)) hi4 rfl ho hf4 h0 ⟨p, (vs.set n v1).set k v2, rfl, hf4, h0, upd_same, (((r.imp fun _ _ => m.mono (e2.ff.trans e4.ff)).set (m.mono (e2.ff.trans e4.ff) r1) n)).set (m.mono (e2.ff.trans e4.ff) r2) k⟩ rfl
    rw [List.set_set] at e5
    exact w F4 _ σ e5
end
end G
set_option maxHeartbeats 4000000
namespace G
open PySem PySem.Spec PyProof.Rows L2
/-! ### the layer's rules with the part named -/
section
variable {X : Cx} {tg : Expr}
theorem kIxL (K : PySem.W.Frag) (h : X.K = K) : IxR X (rIxL K) := by subst h; exact ix_list
theorem kIxT (K : PySem.W.Frag) (h : X.K = K) : IxR X (rIxT K) := by subst h; exact ix_tup
theorem kSl (K : PySem.W.Frag) (h : X.K = K) : SlR X (rSlL K) := by subst h; exact sl_list
theorem kIn (K : PySem.W.Frag) (h : X.K = K) : OpR X (compareOp .In) (rIn K false) := by subst h; exact op_in_seq
theorem kNotIn (K : PySem.W.Frag) (h : X.K = K) : OpR X (compareOp .NotIn) (rIn K true) := by subst h; exact op_notIn_seq
theorem kEqD (K : PySem.W.Frag) (h : X.K = K) (hu : X.A.units + 64 < cLine) : OpR X (compareOp .Eq) (rEqD K) := by subst h; exact op_eqD hu
theorem kNeD (K : PySem.W.Frag) (h : X.K = K) (hu : X.A.units + 64 < cLine) : OpR X (compareOp .NotEq) (rNeD K) := by subst h; exact op_neD hu
theorem kLtT (K : PySem.W.Frag) (h : X.K = K) (hu : X.A.units < cLine) : OpR X (compareOp .Lt) (rLtT K) := by subst h; exact op_ltT hu
theorem kIsi (K : PySem.W.Frag) (h : X.K = K) : CallR X (.builtin "isinstance") (rIsi K) := by subst h; exact call_isi
theorem kSum (K : PySem.W.Frag) (h : X.K = K) (hc : X.calm = true) : CallR X (.builtin "sum") (rSum K) := by subst h; exact cr_sum hc
theorem kMax (K : PySem.W.Frag) (h : X.K = K) (hc : X.calm = true) : CallR X (.builtin "max") (rMax K) := by subst h; exact cr_max hc
theorem kMin (K : PySem.W.Frag) (h : X.K = K) (hc : X.calm = true) : CallR X (.builtin "min") (rMin K) := by subst h; exact cr_min hc
theorem kLen (K : PySem.W.Frag) (h : X.K = K) : CallR X (.builtin "len") (rLen K) := by subst h; exact cl_len
theorem kList (K : PySem.W.Frag) (h : X.K = K) : CallR X (.type "list") (rListOf K) := by subst h; exact cl_list
theorem kTup (K : PySem.W.Frag) (h : X.K = K) : CallR X (.type "tuple") (rTupOf K) := by subst h; exact cl_tuple
theorem kPiL (K : PySem.W.Frag) (h : X.K = K) {l : Expr} {tl : TE} (hl : PE X l tl) : PI X tg l (iList K tl) := by subst h; exact pi_list hl
theorem kPiT (K : PySem.W.Frag) (h : X.K = K) {l : Expr} {tl : TE} (hl : PE X l tl) : PI X tg l (iTup K tl) := by subst h; exact pi_tup hl
theorem kPgT (K : PySem.W.Frag) (h : X.K = K) {es : List Expr} {k : Nat} {t : TGs} {n : Nat} {pos : Pos} (hc : X.calm = true) (hs : PGs X es t) (hn : (assignEach es X.env).length = n := by rfl)
    (hst : (assignEach es X.env).findIdx? (·.1) = none := by rfl) : PG X (.Tuple es k pos) (gTup K n t) := by subst h; exact pg_tup hc hs hn hst
theorem kPiRev (K : PySem.W.Frag) (h : X.K = K) {e : Expr} {ta : TA} {p pos : Pos} (hg : Gl X "reversed") (hm : X.mg "reversed" = none) (ha : PA X [e] ta) (hs : starEach [e] X.env = [(false, eval e X.env)] := by rfl) :
    PI X tg (.Call (.Name "reversed" p) [e] [] pos) (iRev K ta) := by subst h; exact pi_reversed hg hm ha hs
theorem kPiZip (K : PySem.W.Frag) (h : X.K = K) {e e2 : Expr} {ta : TA} {p pos tpos : Pos} {elts : List Expr} {kk : Nat} (hg : Gl X "zip") (hm : X.mg "zip" = none) (ha : PA X [e, e2] ta)
    (hs : starEach [e, e2] X.env = (false, eval e X.env) :: starEach [e2] X.env := by rfl) (hpl : (backTo pos (starEach [e2] X.env)).any (·.1) = false := by rfl) :
    PI X (.Tuple elts kk tpos) (.Call (.Name "zip" p) [e, e2] [] pos) (iZip K ta) := by subst h; exact pi_zip hg hm ha hs hpl
end
section
variable {B : Wd} {Γ : List Sl} {K : PySem.W.Frag} {ta tb tc te tl tv : TE} {A A' A'' Y : Type} {R : Rel A} {S : Rel A'} {T : Rel A''} {D : Ends} {t u t1 t2 : TS} {tt : TT} {N : SN}
theorem wn_ls {I : Type} {P : I → Prop} {G : I → List Sl} {x : I} (s : Sub Γ (G x)) (h : P x) : Wn B Γ (Lp B P G) := wn_lp x h s
/-- a frozen slot read in another way -/
theorem wn_conv {i : Nat} {s t : Fz} (hi : Γ[i]? = some (.fz s)) (c : ∀ F v, s.ok F v → t.ok F v) (k : Wn B (Γ.set i (.fz t)) N) : Wn B Γ N := fun F H σ e => by
  obtain ⟨o, ho, v, rfl, r⟩ := e.ok i _ hi
  have e2 := e.set (i := i) (s := .fz t) (v := some v) ⟨v, rfl, c F v r⟩ rfl
  have e3 : σ.set i (some v) = σ := by
    refine List.ext_getElem? fun j => ?_
    by_cases q : i = j
    · subst q
      rw [List.getElem?_set_self (List.getElem?_eq_some_iff.mp ho).1, ho]
    · rw [List.getElem?_set_ne q]
  rw [e3] at e2
  exact k F H σ e2
theorem wn_some {i : Nat} {m : Mn (rOpt R)} [n : Mn R] {x : A} (hi : Γ[i]? = some (.fz ⟨Option A, rOpt R, m, some x⟩)) (k : Wn B (Γ.set i (sf R x)) N) : Wn B Γ N := wn_conv (t := ⟨A, R, n, x⟩) hi (fun _ _ h => h) k
theorem cutA_take {xs : List A} {k : Int} (h : 0 ≤ k) : cutA xs none (some k) = xs.take k.toNat := by
  obtain ⟨n, rfl⟩ := Int.eq_ofNat_of_zero_le h
  unfold cutA
  rw [HT.sIx_none, HT.sIx_nat, List.drop_zero, Int.toNat_natCast, Nat.sub_zero]
  by_cases q : n ≤ xs.length
  · rw [Nat.min_eq_left q]
  · rw [Nat.min_eq_right (by omega), List.take_of_length_le (Nat.le_refl _), List.take_of_length_le (by omega)]
theorem cutA_drop {xs : List A} {k : Int} (h : 0 ≤ k) : cutA xs (some k) none = xs.drop k.toNat := by
  obtain ⟨n, rfl⟩ := Int.eq_ofNat_of_zero_le h
  unfold cutA
  rw [HT.sIx_none, HT.sIx_nat, Int.toNat_natCast]
  by_cases q : n ≤ xs.length
  · rw [Nat.min_eq_left q, List.take_of_length_le (by rw [List.length_drop]; exact Nat.le_refl _)]
  · rw [Nat.min_eq_right (by omega), List.drop_eq_nil_of_le (Nat.le_refl _), List.drop_eq_nil_of_le (show xs.length ≤ n by omega), List.take_nil]
theorem cutA_mid {xs : List A} {a b : Int} (h : 0 ≤ a) (hb : a ≤ b) : cutA xs (some a) (some b) = (xs.drop a.toNat).take (b - a).toNat := by
  obtain ⟨n, rfl⟩ := Int.eq_ofNat_of_zero_le h
  obtain ⟨m, rfl⟩ : ∃ m : Nat, b = n + m := ⟨(b - n).toNat, by omega⟩
  unfold cutA
  rw [HT.sIx_nat, show ((n : Int) + (m : Int)) = ((n + m : Nat) : Int) by omega, HT.sIx_nat, Int.toNat_natCast, show (((n + m : Nat) : Int) - (n : Int)).toNat = m by omega]
  by_cases q : n ≤ xs.length
  · rw [Nat.min_eq_left q]
    by_cases p : n + m ≤ xs.length
    · rw [Nat.min_eq_left p, Nat.add_sub_cancel_left]
    · rw [Nat.min_eq_right (by omega), List.take_of_length_le (by rw [List.length_drop]; exact Nat.le_refl _), List.take_of_length_le (by rw [List.length_drop]; omega)]
  · rw [Nat.min_eq_right (show xs.length ≤ n by omega), List.drop_eq_nil_of_le (Nat.le_refl _), List.drop_eq_nil_of_le (show xs.length ≤ n by omega), List.take_nil, List.take_nil]
theorem atI_D {xs : List A} {i : Int} (d : A) (h : 0 ≤ i) (h2 : i < xs.length) : atI xs i = some (xs.getD i.toNat d) := by
  obtain ⟨n, rfl⟩ := Int.eq_ofNat_of_zero_le h
  rw [Int.toNat_natCast, List.getD_eq_getElem?_getD, List.getElem?_eq_getElem (by omega)]
  exact atI_nat (List.getElem?_eq_getElem (by omega))
theorem ixN_D {n : Nat} {i : Int} (h : 0 ≤ i) (h2 : i < n) : ixN n i = some i.toNat := by
  unfold ixN
  rw [if_pos h, if_pos h2]
/-- a turn of a comprehension over new pairs -/
theorem lc_turnZ [m : Mn R] [m2 : Mn S] [n : Mn T] {F1 H1 F' H' : Hp} {σ : L2.St} {C : Addr} {acc : List V} {ys : List A''} {x : A} {y : A'} {v w : V} {p : Addr} {vs : List Nat} {j k : Nat} {z : A''} (e : EnvOk B Γ F1 H1 σ) (hD : H1 C = none) (e1 : Ex F1 H1 F' H') (hf : F' C = none) (hd : H' C = some (.lst acc)) (hr : AllR (T F') acc ys)
    (hp : H' p = none) (hj : j ∈ vs) (hk : k ∈ vs) (rv : R F' v x) (rw' : S F' w y) (he : Ev B (((wipeG Γ vs).set j (sf R x)).set k (sf S y)) te T z) (hz : ys.length < 10000000) :
    gTup K 2 (gCons (gName j) (gCons (gName k) gNil)) (.ref p) (L2.wipe σ vs) (upd H' p (.tup [v, w])) fun σ2 H2 => L2.wipe σ2 vs = L2.wipe σ vs ∧ tYes σ2 H2 fun b H3 => if b = true then te σ2 H3 fun y H4 => ∃ acc, H4 C = some (.lst acc) ∧ acc.length < sizeLine ∧ LcAt T F1 H1 C (ys ++ [z]) (upd H4 C (.lst (acc ++ [y]))) else LcAt T F1 H1 C (ys ++ [z]) H3 := by
  have hpF : F' p = none := e1.fh.free hp
  have hCp : C ≠ p := fun q => by rw [q, hp] at hd; cases hd
  have e2 : Ex F' H' (upd F' p (.tup [v, w])) (upd H' p (.tup [v, w])) := Ex.new e1.fh hp
  have sm1 : Same F' (upd F' p (.tup [v, w])) := same_upd hpF
  have en := ((e.ext e1).ext e2).wipe vs
  refine (tg_pair (K := K) (R := R) (S := S) (j := j) (k := k)).run en (x := (x, y)) ⟨p, v, w, rfl, upd_same, m.mono sm1 rv, m2.mono sm1 rw'⟩ fun σ2 e3 hl ho => ⟨wipe_eq (js := [j, k]) (fun i hi => ?_) (by rw [hl, wipe_length]) ho, ?_⟩
  · rcases List.mem_cons.mp hi with q | q
    · rw [q]; exact hj
    · rw [List.mem_singleton.mp q]; exact hk
  · have hd2 : upd H' p (.tup [v, w]) C = some (.lst acc) := by rw [upd_ne hCp]; exact hd
    have hf2 : upd F' p (.tup [v, w]) C = none := by rw [upd_ne hCp]; exact hf
    refine he _ _ σ2 e3 _ fun F3 H3 u e4 ru => ?_
    have hf3 : F3 C = none := e4.fr C hf2 (by rw [hd2]; exact fun q => nomatch q)
    refine ⟨acc, e4.hh _ _ hd2, szl (by rw [hr.1]; exact hz), F3, acc ++ [u], ?_, hf3, upd_same, ?_⟩
    · have e5 := (e1.trans e2).trans e4
      exact ⟨e5.ff, set_upd e5.hh hD, set_upd e5.fh hf3, e5.fr⟩
    · exact (hr.imp fun _ _ => n.mono (sm1.trans e4.ff)).append (AllR.one ru)
theorem zipWith_take_succ {f : A → A' → A''} {xs : List A} {ys : List A'} {i : Nat} {x : A} {y : A'} (hx : xs[i]? = some x) (hy : ys[i]? = some y) : (List.zipWith f xs ys).take (i + 1) = (List.zipWith f xs ys).take i ++ [f x y] := by
  rw [List.take_add_one, List.getElem?_zipWith, hx, hy]
  rfl
/-- [e for a, b in zip(xs, ys)] -/
theorem el_lcZ [m : Mn R] [m2 : Mn S] [n : Mn T] {xs : List A} {ys : List A'} {f : A → A' → A''} {j k : Nat} {vs : List Nat} (h1 : Ev B Γ ta (rLst R) xs) (h2 : Ev B Γ tb (rLst S) ys) (hj : j ∈ vs) (hk : k ∈ vs) (hl : xs.length = ys.length) (hz : xs.length ≤ 10000000)
    (he : ∀ x y, x ∈ xs → y ∈ ys → Ev B (((wipeG Γ vs).set j (sf R x)).set k (sf S y)) te T (f x y)) : EvL B Γ (tLc (iZip K (tCons ta (tCons tb tNil))) (gTup K 2 (gCons (gName j) (gCons (gName k) gNil))) tYes te vs) T (List.zipWith f xs ys) := fun F H σ e Q q =>
  ev2 h1 h2 e fun F1 H1 v w e1 ⟨a, us, ea, ha, ra⟩ ⟨b, ws, eb, hb, rb⟩ => ⟨a, b, us, ws, by rw [ea, eb], SqL.of (e1.fh _ _ ha), SqL.of (e1.fh _ _ hb), fun C hC => by
    have en := e.ext e1
    have hn : xs.length = min us.length ws.length := by rw [ra.1, rb.1, ← hl, Nat.min_self]
    refine lc_it (walk_zip (K := K) (a := a) (b := b) (xs := us) (ys := ws) hn) (fun i H' => LcAt T F1 H1 C ((List.zipWith f xs ys).take i) H') ?_ (fun i H' hi ⟨F', acc, e2, _⟩ => ⟨SqL.of (e2.fh _ _ (e2.ff _ _ ha)), SqL.of (e2.fh _ _ (e2.ff _ _ hb))⟩) (fun i x H2 H' hi hL hY => ?_) (fun H' hL => ?_)
    · exact ⟨F1, [], Ex.own e1.fh hC, e1.fh.free hC, upd_same, AllR.nil⟩
    · obtain ⟨p, v1, w1, rfl, hp, rfl, hv, hw⟩ := hY
      obtain ⟨F', acc, e2, hf, hd, hr⟩ := hL
      obtain ⟨x1, hx, rx⟩ := ra.getV hv
      obtain ⟨y1, hy, ry⟩ := rb.getV hw
      rw [zipWith_take_succ hx hy]
      exact lc_turnZ en hC e2 hf hd hr hp hj hk (m.mono e2.ff rx) (m2.mono e2.ff ry) (he x1 y1 (List.mem_of_getElem? hx) (List.mem_of_getElem? hy)) (Nat.lt_of_le_of_lt (List.length_take_le _ _) (by omega))
    · obtain ⟨F', acc, e2, hf, hd, hr⟩ := hL
      rw [List.take_of_length_le (by rw [List.length_zipWith, ← hl, Nat.min_self]; exact Nat.le_refl _)] at hr
      exact q F' H' C acc (e1.trans e2) (e1.hh.free hC) hf hd hr⟩
theorem AllR.opts {F : Hp} {vs : List V} {xs : List A} (h : AllR (R F) vs xs) : AllR (rOpt R F) vs (xs.map some) := by
  refine ⟨by rw [List.length_map]; exact h.1, fun i v o a b => ?_⟩
  rw [List.getElem?_map] at b
  cases e : xs[i]? with
  | none => rw [e] at b; cases b
  | some x => rw [e] at b; cases b; exact h.2 i v x a e
/-- a list without None as a list with -/
theorem ev_opts {xs : List A} (h : Ev B Γ te (rLst R) xs) : Ev B Γ te (rLst (rOpt R)) (xs.map some) := fun F H σ e Q q => h F H σ e Q fun F' H' v e1 ⟨a, vs, ea, ha, ra⟩ => q F' H' v e1 ⟨a, vs, ea, ha, ra.opts⟩
theorem ixN_n {n k : Nat} (h : k < n) : ixN n (k : Int) = some k := ixN_D (Int.natCast_nonneg k) (Int.ofNat_lt.mpr h)
theorem ev_notIn {i : Int} {xs : List Int} (ha : Ev B Γ ta rInt i) (hb : Ev B Γ tb (rLst rInt) xs) : Ev B Γ (tOp (rIn K true) ta tb) rBl (!inV (.int i) (xs.map V.int)) := fun F H σ e Q q =>
  ev2 ha hb e fun F1 H1 v w e1 r1 ⟨a, vs, ea, ha, ra⟩ => by
    cases (show v = .int i from r1)
    exact ⟨a, xs.map V.int, ea, .inl (by rw [← ra.ints]; exact SqL.of (e1.fh _ _ ha)), rfl, by simp [flatV], q F1 H1 _ e1 rfl⟩
end
end G
set_option maxHeartbeats 4000000
namespace G
open PySem PySem.Spec PyProof.Rows L2
/-! ### sorted(rows), min(row, row) -/
def dI (ns : List Int) : PyData := .list (ns.map .int)
theorem dI_alike (b c : List Int) : PySem.W.alike (dI b) (dI c) = true := by
  unfold dI
  rw [PySem.W.alike]
  exact PySem.W.alike_ints b c
theorem dI_depth (b : List Int) : (dI b).depth = 1 := by
  unfold dI
  rw [PyData.depth, PySem.W.depth_ints]
def rSortedLL (K : PySem.W.Frag) : List V → Hp → VK → Prop := fun vs H Q => ∃ (a : Addr) (xs : List V) (W : V → List Int → Prop) (bs : List (List Int)), vs = [V.ref a] ∧ SqL K H a xs ∧ AllR W xs bs ∧ (∀ x b, W x b → Dp K H x (dI b)) ∧
  ∀ (zs : List V) (p : Addr), AllR W zs (bs.mergeSort fun p q => decide (p ≤ q)) → H p = none → Q (.ref p) (upd H p (.lst zs))
theorem each_of {W : V → List Int → Prop} : ∀ {xs : List V} {us : List Value} {bs : List (List Int)}, Vals xs us → AllR W xs bs → PySem.W.EachIs (fun v b => ∃ x, RelV x v ∧ W x b) us bs
  | _, _, [], .nil, _ => .nil
  | _, _, _ :: _, .nil, h => nomatch h.1
  | _, _, [], .cons _ _, h => nomatch h.1
  | x :: xs, _ :: us, b :: bs, .cons r t, h => .cons ⟨x, r, h.2 0 x b rfl rfl⟩ (each_of t ⟨Nat.succ.inj h.1, fun i v y p q => h.2 (i + 1) v y p q⟩)
theorem each_to {W : V → List Int → Prop} : ∀ {us : List Value} {bs : List (List Int)}, PySem.W.EachIs (fun v b => ∃ x, RelV x v ∧ W x b) us bs → ∃ zs, Vals zs us ∧ AllR W zs bs
  | _, _, .nil => ⟨[], .nil, AllR.nil⟩
  | _, _, .cons ⟨x, r, w⟩ t => by
    obtain ⟨zs, a, b⟩ := each_to t
    exact ⟨x :: zs, .cons r a, AllR.cons w b⟩
section
variable {X : Cx}
theorem kSorted (K : PySem.W.Frag) (hK : X.K = K) (hu : X.A.units + 64 < cLine) : CallR X (.builtin "sorted") (rSortedLL K) := by
  subst hK
  intro pins s σ H vs us Q I r h
  obtain ⟨a, xs, W, bs, rfl, hs, hW, hd, q⟩ := h
  obtain ⟨its, rv, hl, hz⟩ := I.list hs
  obtain ⟨u, rfl, ru⟩ := vals1 r
  cases (show u = Value.ref a from ru)
  have e := each_of rv hW
  refine PySem.W.sorted_data (enc := dI) hl.isList e (e.mono fun v b ⟨x, rx, wx⟩ => Dp.reads I (dI b) x v (hd x b wx) rx) (PySem.W.AllAlike.of fun b c => dI_alike b c) (PySem.W.Sortable.others fun b => ⟨(fun z => nomatch z), fun _ z => nomatch z⟩) (by rw [← hW.1]; exact hz)
    (fun b _ => by rw [dI_depth]; omega) fun out ho eo => ?_
  obtain ⟨zs, rz, wz⟩ := each_to eo
  obtain ⟨ep, he'⟩ := PyProof.Rows.sortedAll_at s.heap its out.toArray
  rw [show PySem.W.dataLe false dI = fun p q : List Int => decide (p ≤ q) from PySem.W.dataLe_rows fun b => b] at wz
  have hlen : zs.length ≤ sizeLine := by rw [wz.1, List.length_mergeSort, ← hW.1]; exact hz
  exact ⟨.ref (s.heap.objs.size + 1), upd H (s.heap.objs.size + 1) (.lst zs), I.laid (t' := s.toks) (fun _ _ k => PyProof.Rows.sortedAll_old k) (Nat.le_succ _) ⟨hlen, out, ep, rz, he'⟩, rfl, q zs _ wz (I.hok.fresh (Nat.le_succ _))⟩
end
section
variable {prog : Program} {w : World} {A : Around} {E : Value → Shared → Prop} {s : Shared}
theorem min2H {x y : Value} {Q : Value → Shared → Prop}
    (hw : wpAny (model prog w) A.in1 (pyIter (.ref s.heap.objs.size)) (fun it t => ∃ I fp wr G n P St H bt, it = .ref I ∧ WalksS prog w A.in1 I fp wr G n P St ∧ St 0 t ∧ (∀ b ∈ fp, b < t.heap.objs.size) ∧ 0 < n ∧ (∀ b o, H.get? b = some o → b ∉ wr) ∧
      (∀ b o, H.get? b = some o → t.heap.get? b = some o) ∧ CmpIn prog w A.in1 .Lt H P bt ∧ ∀ v s', P (argBest bt (n - 1)) v → Moved wr G t s' → Q v s') E { s with heap := s.heap.push { cls := .type "tuple", data := .seq #[x, y] } }) :
    wpAny (model prog w) A (call (.builtin "min") [x, y]) Q E s := by
  have nm : (toString "min" ++ toString ".loop" : String) = "min.loop" := by decide +kernel
  refine call_function_tree F.kind_min F.plain_min F.entry_min (F.args_min2 x y) (show wpAny _ A.in1 (Builtin.Builtins.bindParams "min" ["key", "default"] 0 ⟨[], []⟩ >>= _) _ _ s from ?_)
  refine wpAny_bind (wpAny_of_eq (show Builtin.Builtins.bindParams "min" ["key", "default"] 0 ⟨[], []⟩ = pure [Option.none, Option.none] from rfl) (show wpAny _ A.in1 (newTuple [x, y] >>= _) _ _ s from wpAny_bind (wpAny_newObj_type ?_)))
  refine wpAny_bind (wpAny_mono hw (fun it t k => ?_) fun _ _ e => e)
  obtain ⟨I, fp, wr, G, n, P, St, H, bt, rfl, W, st, hfp, hn, hwr, hkp, hc, hQ⟩ := k
  refine wpAny_bind (wpAny_newObj_type ?_)
  have nS : t.heap.objs.size ∉ fp := fun z => absurd (hfp _ z) (Nat.lt_irrefl _)
  rw [nm]
  exact wpAny_pure ⟨plainId_quiet F.plain_min_loop _, codeAny_min_loop_firstH W H hwr bt hc t.heap.objs.size nS (fresh_in hkp) _ hn (fun b o e => Heap.get?_push_of_some _ (hkp b o e))
    (W.frame 0 t _ t.toks st (Nat.le_refl _) fun b _ o e => Heap.get?_push_of_some _ e) (Heap.get?_push_size _ rfl) fun v s' hP hm => hQ v s' hP (Moved.drop_new (tk := t.toks) hm (Nat.le_refl _))⟩
end
def rMinLL (K : PySem.W.Frag) : List V → Hp → VK → Prop := fun vs H Q => ∃ (x y : V) (b c : List Int), vs = [x, y] ∧ Dp K H x (dI b) ∧ Dp K H y (dI c) ∧ Q (if c < b then y else x) H
theorem dI_lt (b c : List Int) : PySem.W.dataLt (dI b) (dI c) = decide (b < c) := by
  unfold dI
  rw [PySem.W.dataLt_list]
  exact PySem.W.dataLt_ints b c
theorem kMinLL {X : Cx} (K : PySem.W.Frag) (hK : X.K = K) (hc : X.calm = true) (hu : X.A.units + 64 < cLine) : CallR X (.builtin "min") (rMinLL K) := by
  subst hK
  intro pins s σ H vs us Q I r h
  obtain ⟨x, y, b, c, rfl, hx, hy, q⟩ := h
  obtain ⟨u, v, rfl, rx, ry⟩ := vals2 r
  obtain ⟨as1, r1⟩ := Dp.reads I _ x u hx rx
  obtain ⟨as2, r2⟩ := Dp.reads I _ y v hy ry
  have kp : ∀ d o, s.heap.get? d = some o → (s.heap.push { cls := .type "tuple", data := .seq #[u, v] }).get? d = some o := fun d o e => Heap.get?_push_of_some _ e
  have hT : (s.heap.push { cls := .type "tuple", data := .seq #[u, v] }).IsTuple s.heap.objs.size #[u, v] := ⟨_, Heap.get?_push_size _ rfl, rfl, 0, rfl⟩
  have rd : ReadsAll (s.heap.push { cls := .type "tuple", data := .seq #[u, v] }) [u, v] [dI b, dI c] (as1 ++ (as2 ++ [])) := .cons (PySem.W.reads_keeps kp r1) (.cons (PySem.W.reads_keeps kp r2) .nil)
  have al : PySem.W.AlikeAll [dI b, dI c] := ⟨fun p hp q hq => by
    rcases List.mem_cons.mp hp with e | e
    · rcases List.mem_cons.mp hq with e2 | e2
      · rw [e, e2]; exact dI_alike _ _
      · rw [e, List.mem_singleton.mp e2]; exact dI_alike _ _
    · rcases List.mem_cons.mp hq with e2 | e2
      · rw [List.mem_singleton.mp e, e2]; exact dI_alike _ _
      · rw [List.mem_singleton.mp e, List.mem_singleton.mp e2]; exact dI_alike _ _, fun p hp => by
    rcases List.mem_cons.mp hp with e | e
    · rw [e]; exact fun z => nomatch z
    · rw [List.mem_singleton.mp e]; exact fun z => nomatch z⟩
  have dp : PyData.depthAll [dI b, dI c] = 1 := by
    rw [PyData.depthAll, PyData.depthAll, PyData.depthAll, dI_depth, dI_depth]; rfl
  refine min2H (PySem.W.iter_tupleW (A := X.A.in1) (s := { s with heap := s.heap.push { cls := .type "tuple", data := .seq #[u, v] } }) (I.ok.hd hc) hT fun t e W st hfp hwr hk => ⟨_, _, _, _, _, _, _, s.heap.push { cls := .type "tuple", data := .seq #[u, v] }, _, rfl, W, st, hfp, by show 0 < 2; decide, hwr, hk,
    PySem.W.cmpIn_lt (A := X.A.in1) (s := { s with heap := s.heap.push { cls := .type "tuple", data := .seq #[u, v] } }) rd al (by rw [dp]; show X.A.units + 1 + 1 < cLine; omega), fun z s' hP m => ?_⟩)
  obtain ⟨h', tk, rfl, hk'⟩ := PySem.W.moved_old e rfl m
  have e1 : argBest (fun i j => PySem.W.dataLt ([dI b, dI c].getD i .none) ([dI b, dI c].getD j .none)) (#[u, v].size - 1) = if c < b then 1 else 0 := by
    show (if PySem.W.dataLt (dI c) (dI b) = true then 1 else 0) = _
    rw [dI_lt]
    by_cases k : c < b
    · rw [if_pos k, if_pos (decide_eq_true k)]
    · rw [if_neg k, if_neg (by rw [decide_eq_false k]; exact Bool.false_ne_true)]
  rw [e1] at hP
  refine ⟨if c < b then y else x, H, I.kept (t' := tk) fun d o e => hk' d o (kp d o e), ?_, q⟩
  by_cases k : c < b
  · rw [if_pos k] at hP ⊢
    cases (show some v = some z from hP)
    exact ry
  · rw [if_neg k] at hP ⊢
    cases (show some u = some z from hP)
    exact rx
theorem dp_ints {K : PySem.W.Frag} {F H : Hp} (e : Same F H) {v : V} {b : List Int} (h : rLst rInt F v b) : Dp K H v (dI b) := by
  obtain ⟨a, vs, rfl, ha, r⟩ := h
  refine .lst (SqL.of (e _ _ ha)) ?_
  rw [r.ints]
  clear r ha
  induction b with
  | nil => exact .nil
  | cons x b ih => exact .cons (.int x) ih
section
variable {B : Wd} {Γ : List Sl} {K : PySem.W.Frag} {ta tb : TE}
theorem el_sortLL {xs : List (List Int)} (ha : Ev B Γ ta (rLst (rLst rInt)) xs) : EvL B Γ (tCB (rSortedLL K) (tCons ta tNil)) (rLst rInt) (xs.mergeSort fun p q => decide (p ≤ q)) := fun F H σ e Q q =>
  ha F H σ e _ fun F1 H1 v e1 ⟨a, vs, ea, ha, ra⟩ => ⟨a, vs, rLst rInt F1, xs, by rw [ea], SqL.of (e1.fh _ _ ha), ra, fun x b h => dp_ints e1.fh h, fun zs p r hp => newL (R := rLst rInt) e1.fh r (fun F' H' p ws e2 h1 h2 h3 h4 => q F' H' p ws (e1.trans e2) (e1.hh.free h1) h2 h3 h4) p hp⟩
theorem ev_minLL {b c : List Int} (ha : Ev B Γ ta (rLst rInt) b) (hb : Ev B Γ tb (rLst rInt) c) : Ev B Γ (tCB (rMinLL K) (tCons ta (tCons tb tNil))) (rLst rInt) (if c < b then c else b) := fun F H σ e Q q =>
  ev2 ha hb e fun F1 H1 v u e1 r1 r2 => ⟨v, u, b, c, rfl, dp_ints e1.fh r1, dp_ints e1.fh r2, by
    by_cases k : c < b
    · rw [if_pos k]; exact q F1 H1 u e1 (by rw [if_pos k]; exact r2)
    · rw [if_neg k]; exact q F1 H1 v e1 (by rw [if_neg k]; exact r1)⟩
end
end G
set_option maxHeartbeats 4000000
namespace G
open PySem PySem.Spec PyProof.Rows L2
/-! ### methods that write self; methods that read a self not frozen -/
def spM {Z Y : Type} (C : Addr) (fs fs' : Z → Fs) (ss : Z → List Fz) (pre : Z → Prop) (R : Rel Y) (f : Z → Y) : Sp := fun vs H Q _ => ∃ z, pre z ∧ ∃ F p dx us ws, vs = .ref p :: ws ∧ H p = some (.ins C dx us) ∧ F p = none ∧ Same F H ∧ FsOk F us (fs z) ∧ ArgOk F ws (ss z) ∧
  ∀ F' H' v dx' us', Ex F (hide p H) F' H' → F' p = none → H' p = some (.ins C dx' us') → FsOk F' us' (fs' z) → R F' v (f z) → Q v H'
def spR {Z Y : Type} (C : Addr) (fs : Z → Fs) (ss : Z → List Fz) (pre : Z → Prop) (R : Rel Y) (f : Z → Y) : Sp := fun vs H Q _ => ∃ z, pre z ∧ ∃ F p dx us ws, vs = .ref p :: ws ∧ H p = some (.ins C dx us) ∧ F p = none ∧ Same F H ∧ FsOk F us (fs z) ∧ ArgOk F ws (ss z) ∧
  ∀ F' H' v, Ex F H F' H' → R F' v (f z) → Q v H'
def RtM (B : Wd) {Y : Type} (p C : Addr) (fs : Fs) (R : Rel Y) (y : Y) (Q : VK) : Prop := ∀ F' H' v dx us, Ex B.F B.H F' H' → F' p = none → H' p = some (.ins C dx us) → FsOk F' us fs → R F' v y → Q v H'
section
variable {B : Wd} {Γ : List Sl} {K : PySem.W.Frag} {ta tb te tl tj : TE} {t : TA} {A Y Z : Type} {R : Rel Y} {S : Rel A} {D : Ends} {u : TS} {C : Addr} {E : XK} {m : Str} {fs fs' : Z → Fs} {ss : Z → List Fz} {pre : Z → Prop} {f : Z → Y}
theorem s_retM {i : Nat} {p : Addr} {gs : Fs} {y : Y} (hi : Γ[i]? = some (.mo p C gs)) (h : Ev B Γ te R y) (rt : RtM B p C gs R y D.rt) : Wn B Γ (tRet te D) := fun F H σ e => h F H σ e _ fun F1 H1 v e1 r1 => by
  obtain ⟨o, ho, dx, vs, rfl, hf, h0, hp, r⟩ := (e.ext e1).ok i _ hi
  exact rt F1 H1 v dx vs (e.ex.trans e1) hf hp r r1
theorem s_offM {i : Nat} {p : Addr} {gs : Fs} {Q : VK} (hi : Γ[i]? = some (.mo p C gs)) (rt : RtM B p C gs rNon () Q) : Wn B Γ (fun _ H' => Q .non H') := fun F H σ e => by
  obtain ⟨o, ho, dx, vs, rfl, hf, h0, hp, r⟩ := e.ok i _ hi
  exact rt F H .non dx vs e.ex hf hp r rfl
/-- a call that has written the object at p, seen from outside -/
theorem EnvOk.past {F H F' H' : Hp} {σ : L2.St} {i : Nat} {p dx dx' : Addr} {us us' : List (Str × V)} {gs gs' : Fs} (e : EnvOk B Γ F H σ) (hi : Γ[i]? = some (.mo p C gs)) (ho : σ[i]? = some (some (.ref p))) (h0 : B.H p = none) (hf : F p = none) (hp : H p = some (.ins C dx us))
    (ex : Ex F (hide p H) F' H') (hf' : F' p = none) (hp' : H' p = some (.ins C dx' us')) (r : FsOk F' us' gs') : EnvOk B (Γ.set i (.mo p C gs')) F' H' σ := by
  have e1 : Ex F H F' (upd H' p (.ins C dx us)) := by
    refine ⟨ex.ff, fun b o k => ?_, fun b o k => ?_, fun b k1 k2 => ?_⟩
    · by_cases q : b = p
      · subst q; rw [upd_same, ← hp]; exact k
      · rw [upd_ne q]; exact ex.hh b o (by rw [hide_ne q]; exact k)
    · rw [upd_ne (fun q => by rw [q, hf'] at k; cases k)]; exact ex.fh b o k
    · by_cases q : b = p
      · rw [q]; exact hf'
      · exact ex.fr b k1 (by rw [hide_ne q]; exact k2)
  have e2 := (e.ext e1).write (t := .mo p C gs') (o := .ins C dx' us') hi rfl ho hf' h0 ⟨dx', us', rfl, hf', h0, upd_same, r⟩ rfl
  have e3 : upd (upd H' p (.ins C dx us)) p (.ins C dx' us') = H' := funext fun b => by
    by_cases q : b = p
    · subst q; rw [upd_same, hp']
    · rw [upd_ne q, upd_ne q]
  rw [e3] at e2
  exact e2
/-- o.m(..), o an owned instance that m writes; what m returns is dropped -/
theorem s_methM {i : Nat} {p : Addr} (z : Z) (hi : Γ[i]? = some (.mo p C (fs z))) (hm : (fs z).lookup m = none) (ha : EvA B Γ t (ss z)) (hp : pre z) (k : Wn B (Γ.set i (.mo p C (fs' z))) D.nx) : Wn B Γ (tDrop (tMeth C m (spM C fs fs' ss pre R f) [] E (tVar i) t) D) := fun F H σ e => by
  obtain ⟨o, ho, dx, us, rfl, hf, h0, hH, r⟩ := e.ok i _ hi
  refine ⟨.ref p, ho, p, dx, us, rfl, hH, r.none hm, ha F H σ e _ fun F2 H2 ws e2 r2 => ?_⟩
  have hH2 := e2.hh _ _ hH
  have hf2 : F2 p = none := e2.fr p hf (by rw [hH]; exact fun q => nomatch q)
  exact ⟨z, hp, F2, p, dx, us, ws ++ [], rfl, hH2, hf2, e2.fh, FsOk.mono e2.ff r, by rw [List.append_nil]; exact r2, fun F' H' v dx' us' ex hf' hp' r' _ => k F' H' σ ((e.ext e2).past hi ho h0 hf2 hH2 ex hf' hp' r')⟩
theorem q_methM {i : Nat} {p : Addr} (z : Z) (hi : Γ[i]? = some (.mo p C (fs z))) (hm : (fs z).lookup m = none) (ha : EvA B Γ t (ss z)) (hp : pre z) (k : Wn B (Γ.set i (.mo p C (fs' z))) (u D)) : Wn B Γ (tSeq (tDrop (tMeth C m (spM C fs fs' ss pre R f) [] E (tVar i) t)) u D) := s_methM (D := { D with nx := u D }) z hi hm ha hp k
/-- o.m(..), o an owned instance that m only reads -/
theorem ev_methR {i : Nat} {p : Addr} (z : Z) (hi : Γ[i]? = some (.mo p C (fs z))) (hm : (fs z).lookup m = none) (ha : EvA B Γ t (ss z)) (hp : pre z) : Ev B Γ (tMeth C m (spR C fs ss pre R f) [] E (tVar i) t) R (f z) := fun F H σ e Q q => by
  obtain ⟨o, ho, dx, us, rfl, hf, h0, hH, r⟩ := e.ok i _ hi
  refine ⟨.ref p, ho, p, dx, us, rfl, hH, r.none hm, ha F H σ e _ fun F2 H2 ws e2 r2 => ?_⟩
  exact ⟨z, hp, F2, p, dx, us, ws ++ [], rfl, e2.hh _ _ hH, e2.fr p hf (by rw [hH]; exact fun q => nomatch q), e2.fh, FsOk.mono e2.ff r, by rw [List.append_nil]; exact r2, fun F' H' v ex rv => q F' H' v (e2.trans ex) rv⟩
/-- o.f, f a property -/
theorem ev_propR {i : Nat} {p : Addr} (z : Z) (hi : Γ[i]? = some (.mo p C (fs z))) (hs : ss z = []) (hp : pre z) : Ev B Γ (tProp C (spR C fs ss pre R f) [] E (tVar i)) R (f z) := fun F H σ e Q q => by
  obtain ⟨o, ho, dx, us, rfl, hf, h0, hH, r⟩ := e.ok i _ hi
  exact ⟨.ref p, ho, p, dx, us, rfl, hH, z, hp, F, p, dx, us, [], rfl, hH, hf, e.fh, r, by rw [hs]; trivial, fun F' H' v ex rv => q F' H' v ex rv⟩
/-- self.f = [..]; self.f[j] = e, f a new attribute -/
theorem s_fldSet {i : Nat} {p : Addr} {gs : Fs} {f : Str} {g : Fz} [n : Mn S] {xs : List A} {x : A} {j : Int} {k : Nat} (hg : ∀ F v, g.ok F v) (ks : List Str) (hk : gs.map (·.1) = ks) (hn : ks.contains f = false) (hl : ks.length < 900) (hi : Γ[i]? = some (.mo p C gs)) (hil : i < Γ.length)
    (h : EvL B Γ tl S xs) (he : Ev B (Γ.set i (.mo p C (gs ++ [(f, g)]))) te S x) (hj : Ev B (Γ.set i (.mo p C (gs ++ [(f, g)]))) tj rInt j) (hx : ixN xs.length j = some k) (w : Wn B (Γ.set i (.mo p C (gs ++ [(f, ⟨List A, rLst S, inferInstance, xs.set k x⟩)]))) D.nx) :
    Wn B Γ (tSeq (sF C (tVar i) tl f) (tAsg te (gSub (tF C (tVar i) f) tj rSetL)) D) := fun F H σ e =>
  h F H σ e _ fun F1 H1 q vs e1 hq hqf hqh r1 => by
    have en := e.ext e1
    obtain ⟨o, ho, dx, us, rfl, hf, h0, hp, r⟩ := en.ok i _ hi
    have hqp : q ≠ p := fun z => by
      obtain ⟨o', ho', dx', us', e', _, _, hp', _⟩ := e.ok i _ hi
      rw [ho] at ho'
      cases ho'
      cases e'
      rw [z, hp'] at hq; cases hq
    have hul : us.length < 1000 := by rw [r.len, ← List.length_map (f := (·.1)), hk]; omega
    refine ⟨.ref p, ho, p, dx, us, rfl, hp, hul, ?_⟩
    have pn : ∀ {a : Fz}, putS f a gs = gs ++ [(f, a)] := fun {a} => putS_new (by rw [hk]; exact hn)
    have r2 : FsOk F1 (putF f (.ref q) us) (gs ++ [(f, g)]) := by rw [← pn]; exact r.put (hg F1 (.ref q))
    have e2 := en.write (t := .mo p C (gs ++ [(f, g)])) hi rfl ho hf h0 ⟨dx, putF f (.ref q) us, rfl, hf, h0, upd_same, r2⟩ rfl
    refine he F1 _ σ e2 _ fun F2 H2 v e3 rv => ?_
    have en3 := e2.ext e3
    have hi3 : (Γ.set i (.mo p C (gs ++ [(f, g)])))[i]? = some (.mo p C (gs ++ [(f, g)])) := List.getElem?_set_self hil
    have hp2 : H2 p = some (.ins C dx (putF f (.ref q) us)) := e3.hh _ _ upd_same
    have hq2 : H2 q = some (.lst vs) := e3.hh _ _ (by rw [upd_ne hqp]; exact hqh)
    have lk : (putF f (.ref q) us).lookup f = some (.ref q) := by
      have : ∀ (l : List (Str × V)), (putF f (.ref q) l).lookup f = some (.ref q) := by
        intro l
        induction l with
        | nil => rw [putF_nil, List.lookup_cons, beq_self_eq_true]
        | cons a l ih =>
          obtain ⟨a1, a2⟩ := a
          rw [putF_cons]
          by_cases z : a1 = f
          · rw [if_pos z, List.lookup_cons, z, beq_self_eq_true]
          · rw [if_neg z, List.lookup_cons, show (f == a1) = false from beq_eq_false_iff_ne.mpr (Ne.symm z)]
            exact ih
      exact this us
    refine ⟨.ref p, ho, p, dx, _, .ref q, rfl, hp2, lk, ?_⟩
    refine hj F2 H2 σ en3 _ fun F4 H4 z e5 rz => ?_
    have e35 := e3.trans e5
    have en5 := en3.ext e5
    have hq4 : H4 q = some (.lst vs) := e5.hh _ _ hq2
    have hp4 := e5.hh _ _ hp2
    have hqf4 : F4 q = none := e35.fr q hqf (by rw [upd_ne hqp, hqh]; exact fun z => nomatch z)
    have hpf4 : F4 p = none := e35.fr p hf (by rw [upd_same]; exact fun z => nomatch z)
    refine ⟨q, vs, j, k, rfl, rz, hq4, by rw [r1.1]; exact hx, ?_⟩
    have r4 : AllR (S F4) (vs.set k v) (xs.set k x) := (r1.imp fun _ _ => n.mono e35.ff).set (n.mono e5.ff rv) k
    -- freeze the list at once
    have hq0 : B.H q = none := e.ex.hh.free hq
    have sm1 : Same F4 (upd F4 q (.lst (vs.set k v))) := same_upd hqf4
    have own : ∀ (a : Nat) (s : Sl), (Γ.set i (.mo p C (gs ++ [(f, g)])))[a]? = some s → s.own = true → σ[a]? ≠ some (some (.ref q)) := fun a s hs hw hc => by
      have old : ∀ (s' : Sl), Γ[a]? = some s' → s'.own = true → False := fun s' hs' hw' => by
        obtain ⟨o', h1, h2⟩ := e.ok a s' hs'
        rw [hc] at h1
        cases h1
        cases s' with
        | any => cases hw'
        | fz s => cases hw'
        | ro C' fs' => cases hw'
        | ml R' m' xs' => obtain ⟨p', vs', a1, _, _, a4, _⟩ := h2; cases a1; rw [hq] at a4; cases a4
        | mo p' C' fs' => obtain ⟨dx', vs', a1, _, _, a4, _⟩ := h2; cases a1; rw [hq] at a4; cases a4
      rcases get_set hs with ⟨rfl, rfl⟩ | ⟨_, hs'⟩
      · exact old _ hi rfl
      · exact old s hs' hw
    have en6 : EnvOk B (Γ.set i (.mo p C (gs ++ [(f, g)]))) (upd F4 q (.lst (vs.set k v))) (upd H4 q (.lst (vs.set k v))) σ := by
      refine ⟨⟨en5.ex.ff.trans sm1, fun b ob hb => ?_, fun b ob hb => ?_, fun b k1 k2 => ?_⟩, en5.len, fun a s hs => ?_, en5.ap⟩
      · rw [upd_ne (fun z => by rw [z, hq0] at hb; cases hb)]; exact en5.ex.hh b ob hb
      · by_cases z : b = q
        · subst z; rw [upd_same] at hb ⊢; exact hb
        · rw [upd_ne z] at hb ⊢; exact en5.ex.fh b ob hb
      · rw [upd_ne (fun z => k2 (by rw [z]; exact hq0))]; exact en5.ex.fr b k1 k2
      · obtain ⟨o', h1, h2⟩ := en5.ok a s hs
        refine ⟨o', h1, ?_⟩
        cases s with
        | any => trivial
        | fz s => obtain ⟨v', a1, a2⟩ := h2; exact ⟨v', a1, Fz.mono sm1 a2⟩
        | ml R' m' xs' =>
          obtain ⟨p', vs', a1, a2, a3, a4, a5⟩ := h2
          have np : p' ≠ q := fun z => own a _ hs rfl (by rw [h1, a1, z])
          exact ⟨p', vs', a1, by rw [upd_ne np]; exact a2, a3, by rw [upd_ne np]; exact a4, a5.imp fun _ _ => m'.mono sm1⟩
        | mo p' C' fs' =>
          obtain ⟨dx', vs', a1, a2, a3, a4, a5⟩ := h2
          have np : p' ≠ q := fun z => own a _ hs rfl (by rw [h1, a1, z])
          exact ⟨dx', vs', a1, by rw [upd_ne np]; exact a2, a3, by rw [upd_ne np]; exact a4, FsOk.mono sm1 a5⟩
        | ro C' fs' =>
          obtain ⟨p', dx', vs', a1, a2, a3, a5⟩ := h2
          exact ⟨p', dx', vs', a1, by rw [upd_ne (fun z => by rw [z, hq0] at a3; cases a3)]; exact a2, a3, FsOk.mono sm1 a5⟩
    have rq : rLst S (upd F4 q (.lst (vs.set k v))) (.ref q) (xs.set k x) := ⟨q, _, rfl, upd_same, r4.imp fun _ _ => n.mono sm1⟩
    have rfin : FsOk (upd F4 q (.lst (vs.set k v))) (putF f (.ref q) us) (gs ++ [(f, ⟨List A, rLst S, inferInstance, xs.set k x⟩)]) := by
      rw [← pn]
      exact (FsOk.mono (((e35.ff).trans sm1)) r).put (s := ⟨List A, rLst S, inferInstance, xs.set k x⟩) rq
    have hp6 : upd H4 q (.lst (vs.set k v)) p = some (.ins C dx (putF f (.ref q) us)) := by rw [upd_ne (Ne.symm hqp)]; exact hp4
    have pf6 : upd F4 q (.lst (vs.set k v)) p = none := by rw [upd_ne (Ne.symm hqp)]; exact hpf4
    have e7 := en6.write (t := .mo p C (gs ++ [(f, ⟨List A, rLst S, inferInstance, xs.set k x⟩)])) (o := .ins C dx (putF f (.ref q) us)) hi3 rfl ho pf6 h0 ⟨dx, _, rfl, pf6, h0, upd_same, rfin⟩ rfl
    rw [List.set_set, show upd (upd H4 q (.lst (vs.set k v))) p (.ins C dx (putF f (.ref q) us)) = upd H4 q (.lst (vs.set k v)) from funext fun b => by
      by_cases z : b = p
      · subst z; rw [upd_same, hp6]
      · rw [upd_ne z]] at e7
    exact w _ _ σ e7
/-- name = C(..), a new instance that this frame owns -/
theorem q_asgMake {i : Nat} (z : Z) (ha : EvA B Γ t (ss z)) (hp : pre z) (k : ∀ p, Wn B (Γ.set i (.mo p C (fs' z))) (u D)) : Wn B Γ (tSeq (tAsg (tMake C (spM C (fun _ => []) fs' ss pre rNon (fun _ => ())) [] E t) (gName i)) u D) := fun F H σ e =>
  ha F H σ e _ fun F1 H1 ws e1 r1 x dx hx hdx hne => by
    have hb : ∀ b o, H1 b = some o → hide x (upd (upd H1 dx (.own x)) x (.ins C dx [])) b = some o := fun b o q => by
      rw [hide_ne (ne_of_none q hx), upd_ne (ne_of_none q hx), upd_ne (ne_of_none q hdx)]; exact q
    refine ⟨z, hp, F1, x, dx, [], ws ++ [], rfl, upd_same, e1.fh.free hx, set_upd (set_upd e1.fh (e1.fh.free hdx)) (e1.fh.free hx), trivial, by rw [List.append_nil]; exact r1, fun F' H' v dx' us' ex hf' hp' r' rv => ⟨rv, ?_⟩⟩
    have e2 : Ex F1 H1 F' H' := ⟨ex.ff, fun b o q => ex.hh b o (hb b o q), ex.fh, fun b k1 k2 => by
      refine ex.fr b k1 fun k3 => ?_
      cases k4 : H1 b with
      | none => exact k2 k4
      | some o => rw [hb b o k4] at k3; cases k3⟩
    have hx0 : H x = none := e1.hh.free hx
    refine k x F' H' _ (((e.ext e1).ext e2).setOwn (s := .mo x C (fs' z)) ⟨dx', us', rfl, hf', e.ex.hh.free hx0, hp', r'⟩ fun j s hj a b c => ?_)
    obtain ⟨o, h1, h2⟩ := (e.ext e1).ok j s a
    rw [h1] at c
    have c := Option.some.inj c
    subst c
    cases s with
    | any => cases b
    | fz s => cases b
    | ro C' fs' => cases b
    | ml R' m' xs' => obtain ⟨p', vs', a1, _, _, a4, _⟩ := h2; cases a1; rw [hx] at a4; cases a4
    | mo p' C' fs' => obtain ⟨dx2, vs', a1, _, _, a4, _⟩ := h2; cases a1; rw [hx] at a4; cases a4
end
section
variable {B : Wd} {Γ : List Sl} {K : PySem.W.Frag} {ta tb : TE}
theorem lex_pair (a b c d : Int) : HT.lexLt [a, b] [c, d] = (decide (a < c) || (decide (a = c) && decide (b < d))) := by
  rw [HT.lexLt_cons, HT.lexLt_cons, HT.lexLt_nil_nil]
  by_cases h1 : a = c
  · rw [if_pos h1, decide_eq_true h1, decide_eq_false (show ¬ a < c by omega)]
    by_cases h2 : b = d
    · rw [if_pos h2, decide_eq_false (show ¬ b < d by omega)]; rfl
    · rw [if_neg h2]; simp
  · rw [if_neg h1, decide_eq_false h1]; simp
/-- pairs of ints compared -/
theorem ev_ltP {x y : Int × Int} (ha : Ev B Γ ta (rPair rInt rInt) x) (hb : Ev B Γ tb (rPair rInt rInt) y) : Ev B Γ (tOp (rLtT K) ta tb) rBl (decide (x.1 < y.1) || (decide (x.1 = y.1) && decide (x.2 < y.2))) := fun F H σ e Q q =>
  ev2 ha hb e fun F1 H1 v w e1 ⟨a, u1, u2, ea, ha, r1, r2⟩ ⟨b, w1, w2, eb, hb, s1, s2⟩ => by
    cases (show u1 = _ from r1); cases (show u2 = _ from r2); cases (show w1 = _ from s1); cases (show w2 = _ from s2)
    exact ⟨a, b, [x.1, x.2], [y.1, y.2], ea, eb, SqT.of (e1.fh _ _ ha), SqT.of (e1.fh _ _ hb), q F1 H1 _ e1 (by rw [lex_pair]; rfl)⟩
end
end G
set_option maxHeartbeats 4000000
namespace G
open PySem PySem.Spec PyProof.Rows L2
/-! ### generators -/
def tGIf (tc : TT) (t u : TGn) : TGn := fun D ys σ H => tc σ H fun d H1 => if d = true then t D ys σ H1 else u D ys σ H1
theorem gs_if {X : Cx} {c : Expr} {a b : List Stmt} {pos : Pos} {tc : TT} {t u : TGn} (hc : PT X c tc) (ha : GSs X a t) (hb : GSs X b u) : GS X (.If c a b pos) (tGIf tc t u) := by
  refine ⟨fun A S ip R n ys z cd fs kk J gd lv s σ H D g hn k hI ht => ?_⟩
  obtain ⟨acc, cc, r, I⟩ := hI
  show Seg _ _ _ _ _ _ _ (.at pos fun _ => ((isTrue c X.env (eval c X.env)) >>= fun d => if d = true then execs a X.env else execs b X.env).wrap kk J gd lv) _ _
  refine seg_at (seg_bind_wrap ?_)
  rw [g.over]
  refine wpAny_mono (hc.run _ s σ H _ I ht) (fun d s1 hd => ?_) fun e s1 he => k.exc n z e s1 he
  obtain ⟨H1, I1, q⟩ := hd
  cases d with
  | true => exact ha.run A S ip R n ys z cd fs kk J gd lv s1 σ H1 D g hn k ⟨acc, cc, r, I1⟩ q
  | false => exact hb.run A S ip R n ys z cd fs kk J gd lv s1 σ H1 D g hn k ⟨acc, cc, r, I1⟩ q
def spG2 {A1 A2 Y : Type} (R1 : Rel A1) (R2 : Rel A2) (pre : A1 → A2 → Prop) (R : Rel Y) (f : A1 → A2 → List Y) : SpG := fun vs H Q _ =>
  ∃ F v1 v2 x1 x2, vs = [v1, v2] ∧ Same F H ∧ R1 F v1 x1 ∧ R2 F v2 x2 ∧ pre x1 x2 ∧ ∀ F' H' ys, Ex F H F' H' → AllR (R F') ys (f x1 x2) → Q ys H'
section
variable {B : Wd} {Γ : List Sl} {K : PySem.W.Frag} {t1 t2 te : TE} {A1 A2 Y I : Type} {R1 : Rel A1} {R2 : Rel A2} {R : Rel Y} {E : XK} {D : GEnds} {t u : TGn} {tt : TT}
/-- list(f(a, b)), f a generator -/
theorem el_listG2 [m1 : Mn R1] [m : Mn R] {pre : A1 → A2 → Prop} {f : A1 → A2 → List Y} {x1 : A1} {x2 : A2} (h1 : Ev B Γ t1 R1 x1) (h2 : Ev B Γ t2 R2 x2) (hp : pre x1 x2) : EvL B Γ (tListG (tCallG (spG2 R1 R2 pre R f) [] E (tCons t1 (tCons t2 tNil)))) R (f x1 x2) := fun F H σ e Q q =>
  ev2 h1 h2 e fun F1 H1 v1 v2 e1 r1 r2 => ⟨F1, v1, v2, x1, x2, rfl, e1.fh, r1, r2, hp, fun F2 H2 ys e2 r => newL (R := R) e2.fh r fun F' H' p ws e3 k1 k2 k3 k4 => q F' H' p ws ((e1.trans e2).trans e3) ((e1.trans e2).hh.free k1) k2 k3 k4⟩
/-- what a turn of a generator's while leaves: what is out so far is R's -/
def Lg (B : Wd) (R : Rel Y) (P : I → Prop) (out : I → List Y) (G : I → List Sl) : List V → L2.St → Hp → Prop := fun ys σ H => ∃ F x, P x ∧ AllR (R F) ys (out x) ∧ EnvOk B (G x) F H σ
/-- a statement of a generator, with what is out -/
def Wg (B : Wd) (Γ : List Sl) (R : Rel Y) (o : List Y) (N : List V → L2.St → Hp → Prop) : Prop := ∀ F H σ ys, EnvOk B Γ F H σ → AllR (R F) ys o → N ys σ H
theorem g_lg {P : I → Prop} {out : I → List Y} {G : I → List Sl} {o : List Y} (x : I) (h : P x) (ho : out x = o) (s : Sub Γ (G x)) : Wg B Γ R o (Lg B R P out G) := fun F H σ ys e r => ⟨F, x, h, by rw [ho]; exact r, e.sub s⟩
theorem g_then {o : List Y} (h : Wg B Γ R o (t { D with nx := fun ys' σ' H' => u D ys' σ' H' })) : Wg B Γ R o (tGThen t u D) := h
theorem g_nil {o : List Y} (h : Wg B Γ R o D.nx) : Wg B Γ R o (tG0 D) := h
/-- plain statements: as elsewhere, what is out carried along -/
theorem g_plain [m : Mn R] {o : List Y} {s : TS} (h : ∀ F1, Up B ⟨F1, B.H⟩ → ∀ ys, (∀ F, Same F1 F → AllR (R F) ys o) → Wn ⟨F1, B.H⟩ Γ (s (D.at ys))) : Wg B Γ R o (tPlain s D) := fun F H σ ys e r =>
  h F (Up.of e.ex) ys (fun F' k => r.imp fun _ _ => m.mono k) F H σ e.later
theorem g_back {Δ : List Sl} {o : List Y} {N : List V → SN} {F1 : Hp} {ys : List V} (up : Up B ⟨F1, B.H⟩) (hr : ∀ F, Same F1 F → AllR (R F) ys o) (k : Wg B Δ R o N) : Wn ⟨F1, B.H⟩ Δ (N ys) := fun F H σ e => k F H σ ys (e.back up) (hr F e.ex.ff)
theorem g_step [m : Mn R] {o : List Y} {s : TS} (h : ∀ (F1 : Hp) (E : Ends), Up B ⟨F1, B.H⟩ → (∀ Δ, Wg B Δ R o (u D) → Wn ⟨F1, B.H⟩ Δ E.nx) → Wn ⟨F1, B.H⟩ Γ (s E)) : Wg B Γ R o (tGThen (tPlain s) u D) := fun F H σ ys e r =>
  h F (({ D with nx := fun ys' σ' H' => u D ys' σ' H' } : GEnds).at ys) (Up.of e.ex) (fun Δ k F' H' σ' e' => k F' H' σ' ys (e'.back (Up.of e.ex)) (r.imp fun _ _ => m.mono e'.ex.ff)) F H σ e.later
theorem g_done {o : List Y} {Q : List V → Hp → Prop} (rt : ∀ F' H' ys, Ex B.F B.H F' H' → AllR (R F') ys o → Q ys H') : Wg B Γ R o (fun ys _ H' => Q ys H') := fun F H σ ys e r => rt F H ys e.ex r
theorem g_if {o : List Y} {b : Bool} (h : EvT B Γ tt b) [m : Mn R] (h1 : b = true → Wg B Γ R o (t D)) (h2 : b = false → Wg B Γ R o (u D)) : Wg B Γ R o (tGIf tt t u D) := fun F H σ ys e r => h F H σ e _ fun F1 H1 e1 => by
  have r1 := r.imp fun _ _ => m.mono e1.ff
  cases b with
  | true => rw [if_pos rfl]; exact h1 rfl F1 H1 σ ys (e.ext e1) r1
  | false => rw [if_neg Bool.false_ne_true]; exact h2 rfl F1 H1 σ ys (e.ext e1) r1
theorem g_yield [m : Mn R] {o : List Y} {x : Y} (h : Ev B Γ te R x) (hz : o.length < 10000000) (k : Wg B Γ R (o ++ [x]) D.nx) : Wg B Γ R o (tGYield te D) := fun F H σ ys e r => ⟨szl (by rw [r.1]; exact hz), h F H σ e _ fun F1 H1 v e1 r1 => k F1 H1 σ _ (e.ext e1) ((r.imp fun _ _ => m.mono e1.ff).append (AllR.one r1))⟩
theorem g_while [m : Mn R] {o : List Y} (P : I → Prop) (out : I → List Y) (G : I → List Sl) (μ : I → Nat) (b : I → Bool) (h0 : ∃ x, P x ∧ out x = o ∧ Sub Γ (G x)) (ht : ∀ x, P x → EvT B (G x) tt (b x))
    (hs : ∀ x, P x → b x = true → Wg B (G x) R (out x) (t { D with nx := Lg B R (fun y => P y ∧ μ y < μ x) out G, ct := Lg B R (fun y => P y ∧ μ y < μ x) out G, bk := D.nx })) (hd : ∀ x, P x → b x = false → Wg B (G x) R (out x) D.nx) : Wg B Γ R o (tGWhile tt t D) := fun F H σ ys e r => by
  obtain ⟨x0, p0, o0, s0⟩ := h0
  refine ⟨fun n ys σ H => ∃ F x, P x ∧ μ x = n ∧ AllR (R F) ys (out x) ∧ EnvOk B (G x) F H σ, ⟨_, F, x0, p0, rfl, by rw [o0]; exact r, e.sub s0⟩, fun n ys' σ' H' ⟨F', x, p, hm, ra, e2⟩ => ?_⟩
  refine ht x p F' H' σ' e2 _ fun F1 H1 e1 => ?_
  have r1 := ra.imp fun _ _ => m.mono e1.ff
  cases hb : b x with
  | true =>
    rw [if_pos rfl]
    refine ⟨Lg B R (fun y => P y ∧ μ y < μ x) out G, fun ys2 σ2 H2 ⟨F2, y, ⟨q1, q2⟩, q3, e3⟩ => ⟨μ y, by omega, F2, y, q1, rfl, q3, e3⟩, ?_⟩
    exact hs x p hb F1 H1 σ' ys' (e2.ext e1) r1
  | false =>
    rw [if_neg Bool.false_ne_true]
    exact hd x p hb F1 H1 σ' ys' (e2.ext e1) r1
end
section
variable {B : Wd} {Γ : List Sl} {K : PySem.W.Frag} {A : Type} {S : Rel A} {D : Ends} {u : TS}
/-- a, b = xs.pop() -/
theorem s_popT {i : Nat} {m : Mn S} {xs : List A} {x : A} {g : TG} {js : List Nat} {w : A → List Sl → List Sl} (G1 : Tgt g S js w) (hi : Γ[i]? = some (.ml S m (xs ++ [x]))) (k : Wn B (w x (Γ.set i (sm S xs))) D.nx) :
    Wn B Γ (tAsg (tBM0 K "list" rPop (tVar i)) g D) := fun F H σ e => by
  obtain ⟨o, ho, p, vs, rfl, hf, h0, hp, r⟩ := e.ok i _ hi
  have hl : vs.length = xs.length + 1 := by rw [r.1, List.length_append]; rfl
  obtain ⟨v, hv, rv⟩ := r.get (show (xs ++ [x])[xs.length]? = some x by rw [List.getElem?_append_right (Nat.le_refl _), Nat.sub_self]; rfl)
  have rt : AllR (S F) (vs.take xs.length) xs := by
    have := r.take xs.length
    rwa [List.take_append_of_le_length (Nat.le_refl _), List.take_length] at this
  refine ⟨.ref p, ho, .inl ⟨rfl, vs, SqL.of hp⟩, ?_⟩
  refine ⟨p, vs, v, rfl, rfl, hp, by rw [hl]; exact hv, ?_⟩
  rw [List.dropLast_eq_take, hl, Nat.add_sub_cancel]
  have e2 := e.write (t := sm S xs) hi rfl ho hf h0 ⟨p, vs.take xs.length, rfl, hf, h0, upd_same, rt⟩ rfl
  exact G1.run e2 rv fun σ' e3 _ _ => k F _ σ' e3
end
section
variable {B : Wd} {Γ : List Sl} {K : PySem.W.Frag} {D : Ends} {t1 t2 u : TS} {tt : TT} {I : Type}
/-- an if whose branches meet in one shape -/
theorem q_meet (P : I → Prop) (G : I → List Sl) {b : Bool} (h : EvT B Γ tt b) (h1 : b = true → ∀ E : Ends, (∀ x, P x → Wn B (G x) E.nx) → Wn B Γ (t1 E)) (h2 : b = false → ∀ E : Ends, (∀ x, P x → Wn B (G x) E.nx) → Wn B Γ (t2 E)) (k : ∀ x, P x → Wn B (G x) (u D)) : Wn B Γ (tSeq (tIfS tt t1 t2) u D) :=
  q_if h (fun q => h1 q { D with nx := u D } k) fun q => h2 q { D with nx := u D } k
end
section
variable {B : Wd} {Γ : List Sl} {K : PySem.W.Frag} {D : Ends} {t u : TS} {A : Type} {R : Rel A} {tl : TE} {g : TG} {N : SN}
theorem wn_up {F1 : Hp} (up : Up B ⟨F1, B.H⟩) (h : Wn B Γ N) : Wn ⟨F1, B.H⟩ Γ N := fun F H σ e => h F H σ (e.back up)
/-- over a list told by a property -/
theorem s_forLP [m : Mn R] {Q : List A → Prop} (h : EvP B Γ tl (rLst R) Q) (k : ∀ F1, Up B ⟨F1, B.H⟩ → ∀ xs, Q xs → ∀ tl', Ev ⟨F1, B.H⟩ Γ tl' (rLst R) xs → Wn ⟨F1, B.H⟩ Γ (tFor (iList K tl') g t D)) : Wn B Γ (tFor (iList K tl) g t D) := fun F H σ e =>
  h F H σ e _ fun F1 H1 v xs e1 rv q => k F1 (Up.of (e.ext e1).ex) xs q (fun _ H Q => Q v H) (fun F' H' σ' e' Q' q' => q' F' H' v (Ex.refl e'.fh) (Mn.mono e'.ex.ff rv)) F1 H1 σ (e.ext e1).later
end
end G
set_option maxHeartbeats 4000000
namespace G
open PySem PySem.Spec PyProof.Rows L2
section
variable {B : Wd} {Γ : List Sl} {K : PySem.W.Frag} {ta tb te tl : TE} {A A' : Type} {R : Rel A} {S : Rel A'} {D : Ends} {t u : TS} {tt : TT}
/-- the same value read in another way -/
theorem ev_conv {x : A} {y : A'} (h : Ev B Γ te R x) (c : ∀ F v, R F v x → S F v y) : Ev B Γ te S y := fun F H σ e Q q => h F H σ e Q fun F' H' v e1 r => q F' H' v e1 (c F' v r)
/-- a for with break: behind it one shape -/
theorem q_forR1K {I : Type} (P : Nat → I → Prop) (G : Nat → I → List Sl) {Δ : List Sl} {n : Int} {j : Nat} (h : Ev B Γ ta rInt n) (hn : -(2 ^ 62) ≤ n ∧ n < 2 ^ 62) (h0 : ∃ x, P 0 x ∧ Sub Γ (G 0 x))
    (hs : ∀ N : SN, Wn B Δ N → ∀ (i : Nat) x, (i : Int) < n → P i x → Wn B ((G i x).set j (sf rInt (i : Int))) (t { D with nx := Lp B (P (i + 1)) (G (i + 1)), ct := Lp B (P (i + 1)) (G (i + 1)), bk := N })) (hd : ∀ x, P n.toNat x → Sub (G n.toNat x) Δ) (k : Wn B Δ (u D)) :
    Wn B Γ (tSeq (tFor (iRng1 (tCons ta tNil)) (gName j) t) u D) := q_forR1 P G h hn h0 (fun i x => hs _ k i x) fun x hx => Wn.sub (hd x hx) k
/-! ### == and != of lists of ints, of ints and None -/
def dO : Option Int → PyData
  | none => .none
  | some i => .int i
theorem dO_eqv : ∀ a b : Option Int, PyData.eqv (dO a) (dO b) = decide (a = b)
  | none, none => by simp [dO, PyData.eqv]
  | none, some _ => by simp [dO, PyData.eqv]
  | some _, none => by simp [dO, PyData.eqv]
  | some a, some b => by
    show PyData.eqv (.int a) (.int b) = _
    rw [PyData.eqv]
    by_cases h : a = b
    · subst h; simp
    · rw [decide_eq_false (fun q => h (Option.some.inj q))]; exact beq_eq_false_iff_ne.mpr h
theorem dO_eqvAll : ∀ a b : List (Option Int), PyData.eqvAll (a.map dO) (b.map dO) = decide (a = b)
  | [], [] => by simp [PyData.eqvAll]
  | [], _ :: _ => by simp [PyData.eqvAll]
  | _ :: _, [] => by simp [PyData.eqvAll]
  | x :: a, y :: b => by
    rw [List.map_cons, List.map_cons, PyData.eqvAll, dO_eqv, dO_eqvAll a b, ← Bool.decide_and]
    exact decide_eq_decide.mpr (by rw [List.cons.injEq])
theorem dO_lay : ∀ a : List (Option Int), PyData.canLayAll0 (a.map dO) = true
  | [] => by rw [List.map_nil, PyData.canLayAll0]
  | x :: a => by
    rw [List.map_cons, PyData.canLayAll0, dO_lay a]
    cases x <;> simp [dO, PyData.canLay0]
theorem dO_depth : ∀ a : List (Option Int), PyData.depthAll (a.map dO) = 0
  | [] => by rw [List.map_nil, PyData.depthAll]
  | x :: a => by
    rw [List.map_cons, PyData.depthAll, dO_depth a]
    cases x <;> simp [dO, PyData.depth]
theorem dO_shaped (a : List (Option Int)) : SeqAt.shaped (.list (a.map dO)) = true := by
  unfold SeqAt.shaped
  rw [PyData.canLay0, dO_lay, PyData.depth, dO_depth]; rfl
theorem dp_opt {K : PySem.W.Frag} {F H : Hp} {v : V} {o : Option Int} (h : rOpt rInt F v o) : Dp K H v (dO o) := by
  cases o with
  | none => rw [show v = .non from h]; exact .non
  | some i => rw [show v = .int i from h]; exact .int i
theorem dp_opts {K : PySem.W.Frag} {F H : Hp} : ∀ {vs : List V} {xs : List (Option Int)}, AllR (rOpt rInt F) vs xs → DpAll K H vs (xs.map dO)
  | [], [], _ => .nil
  | [], _ :: _, h => nomatch h.1
  | _ :: _, [], h => nomatch h.1
  | v :: vs, x :: xs, h => .cons (dp_opt (h.2 0 v x rfl rfl)) (dp_opts ⟨Nat.succ.inj h.1, fun i w y a b => h.2 (i + 1) w y a b⟩)
theorem dp_rec {F H : Hp} (e : Same F H) {v : V} {b : List (Option Int)} (h : rLst (rOpt rInt) F v b) : Dp K H v (.list (b.map dO)) := by
  obtain ⟨a, vs, rfl, ha, r⟩ := h
  exact .lst (SqL.of (e _ _ ha)) (dp_opts r)
theorem ev_eqO {xs ys : List (Option Int)} (ha : Ev B Γ ta (rLst (rOpt rInt)) xs) (hb : Ev B Γ tb (rLst (rOpt rInt)) ys) : Ev B Γ (tOp (rEqD K) ta tb) rBl (decide (xs = ys)) := fun F H σ e Q q =>
  ev2 ha hb e fun F1 H1 v w e1 r1 r2 => ⟨_, _, dp_rec e1.fh r1, dp_rec e1.fh r2, dO_shaped _, dO_shaped _, by
    rw [PyData.eqv, dO_eqvAll]; exact q F1 H1 _ e1 rfl⟩
theorem ev_neO {xs ys : List (Option Int)} (ha : Ev B Γ ta (rLst (rOpt rInt)) xs) (hb : Ev B Γ tb (rLst (rOpt rInt)) ys) : Ev B Γ (tOp (rNeD K) ta tb) rBl (!decide (xs = ys)) := fun F H σ e Q q =>
  ev2 ha hb e fun F1 H1 v w e1 r1 r2 => ⟨_, _, dp_rec e1.fh r1, dp_rec e1.fh r2, dO_shaped _, dO_shaped _, by
    rw [PyData.eqv, dO_eqvAll]; exact q F1 H1 _ e1 rfl⟩
theorem map_some_eq {xs ys : List Int} : decide (xs.map some = ys.map some) = decide (xs = ys) := decide_eq_decide.mpr ⟨fun h => (List.map_inj_right fun _ _ h => Option.some.inj h).mp h, fun h => by rw [h]⟩
theorem ev_neL {xs ys : List Int} (ha : Ev B Γ ta (rLst rInt) xs) (hb : Ev B Γ tb (rLst rInt) ys) : Ev B Γ (tOp (rNeD K) ta tb) rBl (!decide (xs = ys)) := (ev_neO (ev_opts ha) (ev_opts hb)).to (by rw [map_some_eq])
/-! ### new lists, told with their places -/
def rNA (B : Wd) : Rel (Addr × List Int) := fun F v x => v = .ref x.1 ∧ F x.1 = some (.lst (x.2.map V.int)) ∧ B.F x.1 = none ∧ B.H x.1 = none
instance {B : Wd} : Mn (rNA B) := ⟨fun s ⟨a, b, c⟩ => ⟨a, s _ _ b, c⟩⟩
theorem ints_ok {F : Hp} (l : List Int) : AllR (rInt F) (l.map V.int) l := ⟨List.length_map _, fun i v x a b => by
  rw [List.getElem?_map, b] at a
  exact (Option.some.inj a).symm⟩
theorem rNA_lst {B : Wd} {F : Hp} {v : V} {x : Addr × List Int} (h : rNA B F v x) : rLst rInt F v x.2 := ⟨x.1, _, h.1, h.2.1, ints_ok _⟩
/-- xs.append(a new list) -/
theorem s_appN {i : Nat} {m : Mn (rNA B)} {xs : List (Addr × List Int)} {ys : List Int} (hi : Γ[i]? = some (.ml (rNA B) m xs)) (h : EvL B Γ te rInt ys) (hz : xs.length < 10000000) (k : ∀ q, (∀ x, x ∈ xs → x.1 ≠ q) → Wn B (Γ.set i (sm (rNA B) (xs ++ [(q, ys)]))) D.nx) :
    Wn B Γ (tDrop (tBM K "list" rAppend (tVar i) (tCons te tNil)) D) := fun F H σ e => by
  obtain ⟨o, ho, p, vs, rfl, hf, h0, hp, r⟩ := e.ok i _ hi
  refine ⟨.ref p, ho, .inl ⟨rfl, vs, SqL.of hp⟩, h F H σ e _ fun F1 H1 q ws e1 hq hqf hqh rq => ?_⟩
  have e2 : Ex F H (upd F1 q (.lst ws)) H1 := e1.frz hq hqf hqh
  have hp1 := e2.hh _ _ hp
  have hf1 : upd F1 q (.lst ws) p = none := e2.fr p hf (by rw [hp]; exact fun z => nomatch z)
  have far : ∀ x, x ∈ xs → x.1 ≠ q := fun x hx z => by
    obtain ⟨n, hn, rfl⟩ := List.mem_iff_getElem.mp hx
    obtain ⟨v, hv, hr⟩ := r.get (List.getElem?_eq_getElem hn)
    have := e.fh _ _ hr.2.1
    rw [z, hq] at this; cases this
  refine ⟨p, vs, .ref q, rfl, rfl, hp1, szl (by rw [r.1]; exact hz), ?_⟩
  have rn : rNA B (upd F1 q (.lst ws)) (.ref q) (q, ys) := ⟨rfl, by rw [upd_same, rq.ints], (e.ex.ff.trans e1.ff).free hqf, e.ex.hh.free hq⟩
  exact k q far _ _ σ ((e.ext e2).write (t := sm (rNA B) (xs ++ [(q, ys)])) hi rfl ho hf1 h0 ⟨p, vs ++ [.ref q], rfl, hf1, h0, upd_same, (r.imp fun _ _ => m.mono e2.ff).append (AllR.one rn)⟩ rfl)
/-- xs[0][j] = e, the rows new and apart; behind it the rows are read as lists -/
theorem s_set0 {i : Nat} {m : Mn (rNA B)} {q0 : Addr} {l0 : List Int} {xs : List (Addr × List Int)} {j v : Int} {n : Nat} (hi : Γ[i]? = some (.ml (rNA B) m ((q0, l0) :: xs))) (hnd : (((q0, l0) :: xs).map (·.1)).Nodup) (h : Ev B Γ te rInt v) (hj : Ev B Γ tb rInt j) (hn : ixN l0.length j = some n)
    (k : Wn B ((List.replicate Γ.length Sl.any).set i (sm (rLst rInt) (l0.set n v :: xs.map (·.2)))) D.nx) : Wn B Γ (tAsg te (gSub (tOp (rIxL K) (tVar i) (tC (.int 0))) tb rSetL) D) := fun F H σ e =>
  h F H σ e _ fun F1 H1 w e1 r1 => by
    cases (show w = .int v from r1)
    have e' := e.ext e1
    obtain ⟨o, ho, p, vs, rfl, hf, h0, hp, r⟩ := e'.ok i _ hi
    obtain ⟨v0, hv0, rv0⟩ := r.get (show ((q0, l0) :: xs)[0]? = some (q0, l0) from rfl)
    refine ⟨.ref p, ho, p, vs, 0, v0, rfl, rfl, SqL.of hp, atI_nat hv0, hj F1 H1 σ e' _ fun F2 H2 z e2 r2 => ?_⟩
    cases (show z = .int j from r2)
    have e'' := e'.ext e2
    have hp2 := e2.hh _ _ hp
    have hf2 : F2 p = none := e2.fr p hf (by rw [hp]; exact fun q => nomatch q)
    have r' := r.imp fun _ _ => m.mono e2.ff
    have a1 : v0 = .ref q0 := rv0.1
    have a2 : F2 q0 = some (.lst (l0.map V.int)) := e2.ff _ _ rv0.2.1
    have hq2 : H2 q0 = some (.lst (l0.map V.int)) := e''.fh _ _ a2
    refine ⟨q0, l0.map V.int, j, n, a1, rfl, hq2, by rw [List.length_map]; exact hn, ?_⟩
    have row : ∀ x, x ∈ (q0, l0) :: xs → F2 x.1 = some (.lst (x.2.map V.int)) ∧ B.F x.1 = none ∧ B.H x.1 = none := fun x hx => by
      obtain ⟨c, hc, rfl⟩ := List.mem_iff_getElem.mp hx
      obtain ⟨w, hw, rw'⟩ := r'.get (List.getElem?_eq_getElem hc)
      exact rw'.2
    have hr : ∀ b, b ∈ ((q0, l0) :: xs).map (·.1) → F2 b ≠ none ∧ B.F b = none ∧ B.H b = none := fun b hb => by
      obtain ⟨x, hx, rfl⟩ := List.mem_map.mp hb
      have := row x hx
      exact ⟨by rw [this.1]; exact fun z => (nomatch z), this.2⟩
    have hq0m : q0 ∈ ((q0, l0) :: xs).map (·.1) := List.mem_cons_self
    have hpr : p ∉ ((q0, l0) :: xs).map (·.1) := fun z => (hr p z).1 hf2
    let H3 : Hp := upd H2 q0 (.lst ((l0.map V.int).set n (.int v)))
    let F3 : Hp := fun b => if b ∈ ((q0, l0) :: xs).map (·.1) then H3 b else F2 b
    have f3 : ∀ {b}, b ∈ ((q0, l0) :: xs).map (·.1) → F3 b = H3 b := fun hb => if_pos hb
    have f3' : ∀ {b}, b ∉ ((q0, l0) :: xs).map (·.1) → F3 b = F2 b := fun hb => if_neg hb
    have h3 : ∀ {b}, b ≠ q0 → H3 b = H2 b := fun hb => upd_ne hb
    have hil : i < Γ.length := (List.getElem?_eq_some_iff.mp hi).1
    have hv0' : vs[0]? = some (.ref q0) := by rw [← a1]; exact hv0
    have env : EnvOk B ((List.replicate Γ.length Sl.any).set i (sm (rLst rInt) (l0.set n v :: xs.map (·.2)))) F3 H3 σ := by
      refine ⟨⟨fun b u hb => ?_, fun b u hb => ?_, fun b u hb => ?_, fun b k1 k2 => ?_⟩, by rw [List.length_set, List.length_replicate]; exact e''.len, fun a s hs => ?_, fun a b s t nn a1 b1 c d => ?_⟩
      · rw [f3' (fun z => by rw [(hr b z).2.1] at hb; cases hb)]; exact e''.ex.ff _ _ hb
      · rw [h3 (fun z => by rw [z, (hr q0 hq0m).2.2] at hb; cases hb)]; exact e''.ex.hh _ _ hb
      · by_cases z : b ∈ ((q0, l0) :: xs).map (·.1)
        · rw [f3 z] at hb; exact hb
        · rw [f3' z] at hb
          rw [h3 (fun y => z (by rw [y]; exact hq0m))]
          exact e''.fh _ _ hb
      · rw [f3' (fun z => k2 (hr b z).2.2)]; exact e''.ex.fr b k1 k2
      · rcases get_set hs with ⟨rfl, rfl⟩ | ⟨_, hs⟩
        · refine ⟨_, ho, p, vs, rfl, by rw [f3' hpr]; exact hf2, h0, by rw [h3 (fun z => hpr (by rw [z]; exact hq0m))]; exact hp2, ?_⟩
          refine ⟨by rw [r'.1, List.length_cons, List.length_cons, List.length_map], fun c w x hw hx => ?_⟩
          cases c with
          | zero =>
            rw [hv0'] at hw
            cases hw
            cases (Option.some.inj (show some (l0.set n v) = some x from hx))
            refine ⟨q0, _, rfl, (f3 hq0m).trans (upd_same.trans ?_), ints_ok _⟩
            rw [List.map_set]
          | succ c =>
            have hx : (xs.map (·.2))[c]? = some x := hx
            rw [List.getElem?_map] at hx
            cases hy : xs[c]? with
            | none => rw [hy] at hx; cases hx
            | some y =>
              rw [hy] at hx
              cases (Option.some.inj hx)
              have hym : y ∈ xs := List.mem_of_getElem? hy
              have ry := r'.2 (c + 1) w y hw hy
              have hyq : y.1 ≠ q0 := fun z => (List.nodup_cons.mp hnd).1 (z ▸ List.mem_map.mpr ⟨y, hym, rfl⟩)
              have hyr : y.1 ∈ ((q0, l0) :: xs).map (·.1) := List.mem_map.mpr ⟨y, List.mem_cons_of_mem _ hym, rfl⟩
              exact ⟨y.1, _, ry.1, (f3 hyr).trans ((h3 hyq).trans (e''.fh _ _ ry.2.1)), ints_ok _⟩
        · rw [List.getElem?_replicate] at hs
          split at hs
          · cases hs
            have hal : a < σ.length := by rw [e''.len]; assumption
            exact ⟨σ[a], List.getElem?_eq_getElem hal, trivial⟩
          · cases hs
      · have ow : ∀ (a : Nat) (s : Sl), ((List.replicate Γ.length Sl.any).set i (sm (rLst rInt) (l0.set n v :: xs.map (·.2))))[a]? = some s → s.own = true → a = i := fun a s hs hw => by
          rcases get_set hs with ⟨rfl, _⟩ | ⟨_, hs⟩
          · rfl
          · rw [List.getElem?_replicate] at hs
            split at hs
            · cases hs; cases hw
            · cases hs
        exact absurd ((ow a s a1 c).trans (ow b t b1 d).symm) nn
    exact k F3 H3 σ env
end
/-! ### a list that may stand in the written part -/
section
variable {B : Wd} {Γ : List Sl} {K : PySem.W.Frag} {ta : TE} {A : Type} {R : Rel A}
theorem sql_mono {F F' : Hp} {a : Addr} {xs : List V} (e : Same F F') (h : SqL K F a xs) : SqL K F' a xs := by
  rcases h with (h | ⟨o, h⟩) | h
  · exact .inl (.inl (e _ _ h))
  · exact .inl (.inr ⟨o, e _ _ h⟩)
  · exact .inr h
def rLstS {A : Type} (K : PySem.W.Frag) (R : Rel A) : Rel (List A) := fun F v xs => ∃ a vs, v = .ref a ∧ SqL K F a vs ∧ AllR (R F) vs xs
instance {A : Type} {K : PySem.W.Frag} {R : Rel A} [Mn R] : Mn (rLstS K R) := ⟨fun s ⟨a, vs, e, f, r⟩ => ⟨a, vs, e, sql_mono s f, r.imp fun _ _ => Mn.mono s⟩⟩
theorem el_sliceS [m : Mn R] {xs : List A} {tl th : TO} {lo hi : Option Int} (ha : Ev B Γ ta (rLstS K R) xs) (hl : EvO B Γ tl lo) (hh : EvO B Γ th hi) : EvL B Γ (tSl (rSlL K) ta tl th) R (cutA xs lo hi) := fun F H σ e Q q =>
  ha F H σ e _ fun F1 H1 v e1 ⟨a, vs, ea, ha, ra⟩ => hl F1 H1 σ (e.ext e1) _ fun F2 H2 e2 => hh F2 H2 σ ((e.ext e1).ext e2) _ fun F3 H3 e3 => by
    have e13 := (e1.trans e2).trans e3
    exact ⟨a, vs, ea, sql_mono e13.fh (sql_mono (e2.trans e3).ff ha), newL (R := R) e3.fh ((ra.imp fun _ _ => m.mono (e2.trans e3).ff).cut lo hi) fun F' H' p ws e4 h1 h2 h3 h4 => q F' H' p ws (e13.trans e4) (e13.hh.free h1) h2 h3 h4⟩
end
end G
/-! Plain mathematics: bits, sums, spans. No program here. -/
namespace MX
def Bit (x : Int) : Prop := x = 0 ∨ x = 1
def Bits (l : List Int) : Prop := ∀ x, x ∈ l → Bit x
theorem Bit.le {x : Int} (h : Bit x) : 0 ≤ x ∧ x ≤ 1 := by rcases h with h | h <;> omega
theorem bit_mod (x : Int) : Bit (x % 2) := by
  have := Int.emod_nonneg x (show (2 : Int) ≠ 0 by decide)
  have := Int.emod_lt_of_pos x (show (0 : Int) < 2 by decide)
  unfold Bit; omega
theorem Bits.get {l : List Int} (h : Bits l) {i : Nat} {x : Int} (e : l[i]? = some x) : Bit x := h x (List.mem_of_getElem? e)
theorem Bits.getD {l : List Int} (h : Bits l) (i : Nat) : Bit (l.getD i 0) := by
  rw [List.getD_eq_getElem?_getD]
  cases e : l[i]? with
  | none => exact Or.inl rfl
  | some x => exact h.get e
theorem Bits.nil : Bits [] := fun x h => by cases h
theorem Bits.append {a b : List Int} (h : Bits a) (k : Bits b) : Bits (a ++ b) := fun x hx => by
  rcases List.mem_append.mp hx with q | q
  · exact h x q
  · exact k x q
theorem Bits.cons {a : Int} {b : List Int} (h : Bit a) (k : Bits b) : Bits (a :: b) := fun x hx => by
  rcases List.mem_cons.mp hx with q | q
  · rw [q]; exact h
  · exact k x q
theorem Bits.zeros (n : Nat) : Bits (List.replicate n 0) := fun x hx => Or.inl (List.mem_replicate.mp hx).2
theorem Bits.take {a : List Int} (h : Bits a) (n : Nat) : Bits (a.take n) := fun x hx => h x (List.mem_of_mem_take hx)
theorem Bits.drop {a : List Int} (h : Bits a) (n : Nat) : Bits (a.drop n) := fun x hx => h x (List.mem_of_mem_drop hx)
/-! ### sums over the first n numbers -/
def sm : Nat → (Nat → Int) → Int
  | 0, _ => 0
  | n + 1, f => sm n f + f n
theorem sm_congr {f g : Nat → Int} : ∀ {n : Nat}, (∀ i, i < n → f i = g i) → sm n f = sm n g
  | 0, _ => rfl
  | n + 1, h => by
    show sm n f + f n = sm n g + g n
    rw [sm_congr fun i hi => h i (Nat.lt_succ_of_lt hi), h n (Nat.lt_succ_self n)]
theorem sm_zero : ∀ n : Nat, sm n (fun _ => 0) = 0
  | 0 => rfl
  | n + 1 => by show sm n _ + 0 = 0; rw [sm_zero n]; rfl
theorem sm_add (f g : Nat → Int) : ∀ n : Nat, sm n (fun i => f i + g i) = sm n f + sm n g
  | 0 => rfl
  | n + 1 => by
    show sm n _ + (f n + g n) = sm n f + f n + (sm n g + g n)
    rw [sm_add f g n]; omega
theorem sm_mul (c : Int) (f : Nat → Int) : ∀ n : Nat, sm n (fun i => c * f i) = c * sm n f
  | 0 => (Int.mul_zero c).symm
  | n + 1 => by
    show sm n _ + c * f n = c * (sm n f + f n)
    rw [sm_mul c f n, Int.mul_add]
/-- only one place is not zero -/
theorem sm_one {k : Nat} {v : Int} : ∀ {n : Nat}, sm n (fun i => if i = k then v else 0) = if k < n then v else 0
  | 0 => rfl
  | n + 1 => by
    show sm n _ + (if n = k then v else 0) = _
    rw [sm_one]
    by_cases h : n = k
    · subst h; rw [if_neg (Nat.lt_irrefl _), if_pos rfl, if_pos (Nat.lt_succ_self _)]; exact Int.zero_add v
    · rw [if_neg h]
      by_cases h2 : k < n
      · rw [if_pos h2, if_pos (by omega)]; exact Int.add_zero v
      · rw [if_neg h2, if_neg (by omega)]; rfl
theorem sm_mod {f g : Nat → Int} : ∀ {n : Nat}, (∀ i, i < n → f i % 2 = g i % 2) → sm n f % 2 = sm n g % 2
  | 0, _ => rfl
  | n + 1, h => by
    have a := sm_mod (n := n) fun i hi => h i (Nat.lt_succ_of_lt hi)
    have b := h n (Nat.lt_succ_self n)
    show (sm n f + f n) % 2 = (sm n g + g n) % 2
    omega
theorem sm_succ' (f : Nat → Int) : ∀ n : Nat, sm (n + 1) f = f 0 + sm n fun i => f (i + 1)
  | 0 => by show 0 + f 0 = f 0 + 0; omega
  | n + 1 => by
    show sm (n + 1) f + f (n + 1) = f 0 + (sm n _ + f (n + 1))
    rw [sm_succ' f n]; omega

/-! ### rows of bits, what they span -/
def at2 (rows : List (List Int)) (i j : Nat) : Int := (rows.getD i []).getD j 0
def Mat (w : Nat) (rows : List (List Int)) : Prop := ∀ r, r ∈ rows → r.length = w ∧ Bits r
theorem getD_mem {A : Type} {l : List A} {d : A} {i : Nat} (h : i < l.length) : l.getD i d ∈ l := by
  rw [List.getD_eq_getElem?_getD, List.getElem?_eq_getElem h]
  exact List.getElem_mem h
theorem Mat.row {w : Nat} {rows : List (List Int)} (h : Mat w rows) {i : Nat} (hi : i < rows.length) : (rows.getD i []).length = w ∧ Bits (rows.getD i []) := h _ (getD_mem hi)
theorem Mat.bit {w : Nat} {rows : List (List Int)} (h : Mat w rows) (i j : Nat) : Bit (at2 rows i j) := by
  unfold at2
  by_cases hi : i < rows.length
  · exact (h.row hi).2.getD j
  · have e : rows.getD i [] = [] := by
      rw [List.getD_eq_getElem?_getD, List.getElem?_eq_none (Nat.le_of_not_lt hi)]; rfl
    rw [e]
    exact Or.inl rfl
theorem Mat.set {w : Nat} {rows : List (List Int)} (h : Mat w rows) {r : List Int} (hr : r.length = w ∧ Bits r) (k : Nat) : Mat w (rows.set k r) := fun x hx => by
  rcases List.mem_or_eq_of_mem_set hx with q | q
  · exact h x q
  · rw [q]; exact hr
theorem Mat.take {w : Nat} {rows : List (List Int)} (h : Mat w rows) (n : Nat) : Mat w (rows.take n) := fun r hr => h r (List.mem_of_mem_take hr)
theorem getD_set {A : Type} {l : List A} {d r : A} {k i : Nat} (hk : k < l.length) : (l.set k r).getD i d = if i = k then r else l.getD i d := by
  rw [List.getD_eq_getElem?_getD, List.getD_eq_getElem?_getD]
  by_cases e : i = k
  · subst e; rw [if_pos rfl, List.getElem?_set_self hk]; rfl
  · rw [if_neg e, List.getElem?_set_ne (Ne.symm e)]
theorem at2_set {rows : List (List Int)} {r : List Int} {k : Nat} (hk : k < rows.length) (i j : Nat) : at2 (rows.set k r) i j = if i = k then r.getD j 0 else at2 rows i j := by
  unfold at2
  rw [getD_set hk]
  by_cases e : i = k
  · rw [if_pos e, if_pos e]
  · rw [if_neg e, if_neg e]
def SpanC (w : Nat) (rows : List (List Int)) (v : List Int) : Prop := v.length = w ∧ ∃ c : Nat → Int, ∀ j, j < w → v.getD j 0 = sm rows.length (fun i => c i * at2 rows i j) % 2
/-- every row of the first is spanned as before: the coefficients told anew -/
theorem SpanC.of {w : Nat} {rows rows' : List (List Int)} {v : List Int} (h : SpanC w rows v) (f : (Nat → Int) → Nat → Int) (hf : ∀ c j, j < w → sm rows.length (fun i => c i * at2 rows i j) % 2 = sm rows'.length (fun i => f c i * at2 rows' i j) % 2) : SpanC w rows' v := by
  obtain ⟨h1, c, h2⟩ := h
  exact ⟨h1, f c, fun j hj => by rw [h2 j hj, hf c j hj]⟩
theorem mul_mod2 {a b : Int} (c : Int) (h : a % 2 = b % 2) : (c * a) % 2 = (c * b) % 2 := by
  rw [Int.mul_emod, h, ← Int.mul_emod]
/-- a row is added to another -/
theorem SpanC.add {w k p : Nat} {rows : List (List Int)} {r v : List Int} (h : SpanC w rows v) (hk : k < rows.length) (hp : p < rows.length) (hkp : k ≠ p) (hr : ∀ j, j < w → r.getD j 0 % 2 = (at2 rows k j + at2 rows p j) % 2) : SpanC w (rows.set k r) v := by
  refine h.of (fun c i => if i = p then c p + c k else c i) fun c j hj => ?_
  rw [List.length_set]
  have e1 : sm rows.length (fun i => (if i = p then c p + c k else c i) * at2 (rows.set k r) i j) % 2 =
      sm rows.length (fun i => c i * at2 rows i j + ((if i = k then c k * at2 rows p j else 0) + (if i = p then c k * at2 rows p j else 0))) % 2 := by
    refine sm_mod fun i hi => ?_
    rw [at2_set hk]
    by_cases a : i = k
    · subst a
      rw [if_neg hkp, if_pos rfl, if_pos rfl, if_neg hkp, Int.add_zero, mul_mod2 _ (hr j hj), Int.mul_add]
    · rw [if_neg a, if_neg a]
      by_cases b : i = p
      · subst b
        rw [if_pos rfl, if_pos rfl, Int.add_mul]; omega
      · rw [if_neg b, if_neg b]; omega
  rw [e1, sm_add, sm_add, sm_one, sm_one, if_pos hk, if_pos hp]
  omega
/-- two rows change places -/
theorem sm_swap {f : Nat → Int} {n a b : Nat} (ha : a < n) (hb : b < n) (hab : a ≠ b) : sm n (fun i => if i = a then f b else if i = b then f a else f i) = sm n f := by
  have e : sm n (fun i => if i = a then f b else if i = b then f a else f i) = sm n (fun i => f i + ((if i = a then f b - f a else 0) + (if i = b then f a - f b else 0))) := by
    refine sm_congr fun i _ => ?_
    by_cases h1 : i = a
    · subst h1
      rw [if_pos rfl, if_pos rfl, if_neg hab]; omega
    · rw [if_neg h1, if_neg h1]
      by_cases h2 : i = b
      · subst h2
        rw [if_pos rfl, if_pos rfl]; omega
      · rw [if_neg h2, if_neg h2]; omega
  rw [e, sm_add, sm_add, sm_one, sm_one, if_pos ha, if_pos hb]; omega
theorem SpanC.swap {w a b : Nat} {rows : List (List Int)} {v : List Int} (h : SpanC w rows v) (ha : a < rows.length) (hb : b < rows.length) : SpanC w ((rows.set a (rows.getD b [])).set b (rows.getD a [])) v := by
  by_cases hab : a = b
  · subst hab
    have e : (rows.set a (rows.getD a [])).set a (rows.getD a []) = rows := by
      rw [List.set_set]
      refine List.ext_getElem? fun i => ?_
      by_cases e : a = i
      · subst e
        rw [List.getElem?_set_self ha, List.getD_eq_getElem?_getD, List.getElem?_eq_getElem ha]; rfl
      · rw [List.getElem?_set_ne e]
    rw [e]; exact h
  · refine h.of (fun c i => if i = a then c b else if i = b then c a else c i) fun c j _ => ?_
    rw [List.length_set, List.length_set, ← sm_swap (f := fun i => c i * at2 rows i j) ha hb hab]
    refine congrArg (· % 2) (sm_congr fun i _ => ?_)
    rw [at2_set (by rw [List.length_set]; exact hb), at2_set ha]
    by_cases h1 : i = a
    · subst h1
      rw [if_pos rfl, if_pos rfl, if_neg hab, if_pos rfl]; rfl
    · rw [if_neg h1, if_neg h1, if_neg h1]
      by_cases h2 : i = b
      · subst h2
        rw [if_pos rfl, if_pos rfl, if_pos rfl]; rfl
      · rw [if_neg h2, if_neg h2, if_neg h2]
/-! ### the elimination -/
/-- where it stands: col columns seen, place pivots found -/
structure Elim (w : Nat) (rows work : List (List Int)) (place col : Nat) : Prop where
  len : work.length = rows.length
  mat : Mat w work
  span : ∀ v, SpanC w rows v → SpanC w work v
  zero : ∀ i, place ≤ i → i < rows.length → ∀ j, j < col → at2 work i j = 0
theorem Elim.start {w : Nat} {rows : List (List Int)} (h : Mat w rows) : Elim w rows rows 0 0 := ⟨rfl, h, fun _ q => q, fun _ _ _ j hj => absurd hj (Nat.not_lt_zero j)⟩
theorem Elim.skip {w : Nat} {rows work : List (List Int)} {place col : Nat} (e : Elim w rows work place col) (h : ∀ k, place ≤ k → k < work.length → at2 work k col = 0) : Elim w rows work place (col + 1) :=
  ⟨e.len, e.mat, e.span, fun i h1 h2 j h3 => by
    by_cases hj : j = col
    · rw [hj]; exact h i h1 (by rw [e.len]; exact h2)
    · exact e.zero i h1 h2 j (by omega)⟩
/-- amid a column: the rows ahead of k are cleared -/
structure Elim2 (w : Nat) (rows work : List (List Int)) (place col k : Nat) : Prop where
  el : Elim w rows work place col
  pl : place < rows.length
  one : at2 work place col = 1
  clr : ∀ i, i < k → i < rows.length → i ≠ place → at2 work i col = 0
theorem Elim.swap {w : Nat} {rows work : List (List Int)} {place col f : Nat} (e : Elim w rows work place col) (h1 : place ≤ f) (h2 : f < work.length) (hn : at2 work f col ≠ 0) : Elim2 w rows ((work.set place (work.getD f [])).set f (work.getD place [])) place col 0 := by
  have hp : place < work.length := by omega
  have hlen : ((work.set place (work.getD f [])).set f (work.getD place [])).length = rows.length := by rw [List.length_set, List.length_set]; exact e.len
  have ha : ∀ i j, at2 ((work.set place (work.getD f [])).set f (work.getD place [])) i j = if i = f then at2 work place j else if i = place then at2 work f j else at2 work i j := fun i j => by
    rw [at2_set (by rw [List.length_set]; exact h2), at2_set hp]; rfl
  refine ⟨⟨hlen, (e.mat.set (e.mat.row h2) _).set (e.mat.row hp) _, fun v q => (e.span v q).swap hp h2, fun i a b j c => ?_⟩, by rw [← e.len]; exact hp, ?_, fun i h => absurd h (Nat.not_lt_zero i)⟩
  · rw [ha]
    by_cases h3 : i = f
    · rw [if_pos h3]; exact e.zero place (Nat.le_refl _) (by rw [← e.len]; exact hp) j c
    · rw [if_neg h3]
      by_cases h4 : i = place
      · rw [if_pos h4]; exact e.zero f h1 (by rw [← e.len]; exact h2) j c
      · rw [if_neg h4]; exact e.zero i a b j c
  · rw [ha]
    have hb := e.mat.bit f col
    have h5 : at2 work f col = 1 := by rcases hb with q | q; exact absurd q hn; exact q
    by_cases h3 : place = f
    · rw [if_pos h3, h3]; exact h5
    · rw [if_neg h3, if_pos rfl]; exact h5
/-- a row minus a multiple of another, as the program does it -/
def wom (row : List Int) (f : Int) (other : List Int) : List Int := (List.range row.length).map fun k => (row.getD k 0 + (0 - (f * other.getD k 0 % 2) % 2) % 2) % 2
theorem getD_map_range {n : Nat} {f : Nat → Int} {j : Nat} (h : j < n) : ((List.range n).map f).getD j 0 = f j := by
  rw [List.getD_eq_getElem?_getD, List.getElem?_map, List.getElem?_range h]; rfl
theorem wom_ok {w : Nat} {row other : List Int} {f : Int} (h : row.length = w) : (wom row f other).length = w ∧ Bits (wom row f other) := by
  unfold wom
  refine ⟨by rw [List.length_map, List.length_range]; exact h, fun x hx => ?_⟩
  obtain ⟨k, _, rfl⟩ := List.mem_map.mp hx
  exact bit_mod _
theorem Elim2.same {w : Nat} {rows work : List (List Int)} {place col k : Nat} (e : Elim2 w rows work place col k) (h : k = place ∨ at2 work k col = 0) : Elim2 w rows work place col (k + 1) :=
  ⟨e.el, e.pl, e.one, fun i h1 h2 h3 => by
    by_cases hi : i = k
    · subst hi
      rcases h with h | h
      · exact absurd h h3
      · exact h
    · exact e.clr i (by omega) h2 h3⟩
theorem Elim2.add {w : Nat} {rows work : List (List Int)} {place col k : Nat} (e : Elim2 w rows work place col k) (hk : k < work.length) (hkp : k ≠ place) (hc : col < w) (hn : at2 work k col ≠ 0) :
    Elim2 w rows (work.set k (wom (work.getD k []) (at2 work k col) (work.getD place []))) place col (k + 1) := by
  have hp : place < work.length := by rw [e.el.len]; exact e.pl
  have h1 : at2 work k col = 1 := by rcases e.el.mat.bit k col with q | q; exact absurd q hn; exact q
  have hr := e.el.mat.row hk
  have hg : ∀ j, j < w → (wom (work.getD k []) (at2 work k col) (work.getD place [])).getD j 0 = (at2 work k j + at2 work place j) % 2 := fun j hj => by
    unfold wom
    rw [getD_map_range (by rw [hr.1]; exact hj), h1]
    show (at2 work k j + (0 - (1 * at2 work place j % 2) % 2) % 2) % 2 = _
    omega
  have ha : ∀ i j, j < w → at2 (work.set k (wom (work.getD k []) (at2 work k col) (work.getD place []))) i j = if i = k then (at2 work k j + at2 work place j) % 2 else at2 work i j := fun i j hj => by
    rw [at2_set hk]
    by_cases h : i = k
    · rw [if_pos h, if_pos h, hg j hj]
    · rw [if_neg h, if_neg h]
  refine ⟨⟨by rw [List.length_set]; exact e.el.len, e.el.mat.set (wom_ok hr.1) _, fun v q => (e.el.span v q).add hk hp hkp fun j hj => by rw [hg j hj]; omega, fun i a b j c => ?_⟩, e.pl, ?_, fun i a b c => ?_⟩
  · rw [ha i j (by omega)]
    by_cases h : i = k
    · rw [if_pos h, e.el.zero k (by omega) (by rw [← e.el.len]; exact hk) j c, e.el.zero place (Nat.le_refl _) e.pl j c]; rfl
    · rw [if_neg h]; exact e.el.zero i a b j c
  · rw [ha _ _ hc, if_neg (Ne.symm hkp)]; exact e.one
  · rw [ha _ _ hc]
    by_cases h : i = k
    · rw [if_pos h, h1, e.one]; rfl
    · rw [if_neg h]; exact e.clr i (by omega) b c
theorem Elim2.done {w : Nat} {rows work : List (List Int)} {place col : Nat} (e : Elim2 w rows work place col rows.length) : Elim w rows work (place + 1) (col + 1) :=
  ⟨e.el.len, e.el.mat, e.el.span, fun i a b j c => by
    by_cases hj : j = col
    · rw [hj]; exact e.clr i b b (by omega)
    · exact e.el.zero i (by omega) b j (by omega)⟩
theorem sm_cut {f : Nat → Int} {n : Nat} : ∀ {m : Nat}, n ≤ m → (∀ i, n ≤ i → i < m → f i = 0) → sm m f = sm n f
  | 0, h, _ => by
    obtain rfl : n = 0 := by omega
    rfl
  | m + 1, h, z => by
    by_cases e : n = m + 1
    · rw [e]
    · show sm m f + f m = sm n f
      rw [sm_cut (m := m) (by omega) (fun i a b => z i a (by omega)), z m (by omega) (by omega)]; omega
theorem Elim.fin {w : Nat} {rows work : List (List Int)} {place : Nat} (e : Elim w rows work place w) (hp : place ≤ rows.length) {v : List Int} (h : SpanC w rows v) : SpanC w (work.take place) v := by
  refine (e.span v h).of (fun c => c) fun c j hj => ?_
  rw [List.length_take, e.len, Nat.min_eq_left hp, sm_cut hp fun i a b => by rw [e.zero i a b j hj, Int.mul_zero]]
  refine congrArg (· % 2) (sm_congr fun i hi => ?_)
  unfold at2
  rw [List.getD_eq_getElem?_getD (l := work.take place), List.getElem?_take, if_pos hi, List.getD_eq_getElem?_getD (l := work)]
/-! ### all sums of rows, as the program lists them -/
def xorL (a b : List Int) : List Int := List.zipWith (fun x y => (x + y) % 2) a b
def allsums (w : Nat) : List (List Int) → List (List Int)
  | [] => [List.replicate w 0]
  | r :: rs => ((allsums w rs).map fun v => xorL (r.map fun x => 0 * x % 2) v) ++ (allsums w rs).map fun v => xorL (r.map fun x => 1 * x % 2) v
theorem allsums_length (w : Nat) : ∀ rows : List (List Int), (allsums w rows).length = 2 ^ rows.length
  | [] => rfl
  | r :: rs => by
    show (_ ++ _ : List (List Int)).length = _
    rw [List.length_append, List.length_map, List.length_map, allsums_length w rs, List.length_cons, Nat.pow_succ]; omega
theorem getD_zip {a b : List Int} {j w : Nat} (ha : a.length = w) (hb : b.length = w) (hj : j < w) : (xorL a b).getD j 0 = (a.getD j 0 + b.getD j 0) % 2 := by
  unfold xorL
  rw [List.getD_eq_getElem?_getD, List.getElem?_zipWith, List.getElem?_eq_getElem (by omega), List.getElem?_eq_getElem (by omega), List.getD_eq_getElem?_getD, List.getD_eq_getElem?_getD, List.getElem?_eq_getElem (by omega), List.getElem?_eq_getElem (by omega)]
  rfl
theorem ext_getD {a b : List Int} (h : a.length = b.length) (k : ∀ j, j < a.length → a.getD j 0 = b.getD j 0) : a = b := by
  refine List.ext_getElem h fun j h1 h2 => ?_
  have := k j h1
  rw [List.getD_eq_getElem?_getD, List.getD_eq_getElem?_getD, List.getElem?_eq_getElem h1, List.getElem?_eq_getElem h2] at this
  exact this
theorem allsums_ok {w : Nat} : ∀ {rows : List (List Int)}, Mat w rows → ∀ v, v ∈ allsums w rows → v.length = w ∧ Bits v
  | [], _, v, h => by
    rw [List.mem_singleton.mp h]
    exact ⟨List.length_replicate, Bits.zeros w⟩
  | r :: rs, hm, v, h => by
    have hr := hm r List.mem_cons_self
    have ih := allsums_ok (w := w) (rows := rs) fun x hx => hm x (List.mem_cons_of_mem _ hx)
    have key : ∀ (g : Int → Int) (u : List Int), u ∈ allsums w rs → (xorL (r.map g) u).length = w ∧ Bits (xorL (r.map g) u) := fun g u hu => by
      refine ⟨by unfold xorL; rw [List.length_zipWith, List.length_map, hr.1, (ih u hu).1, Nat.min_self], fun x hx => ?_⟩
      unfold xorL at hx
      obtain ⟨i, hi, rfl⟩ := List.mem_iff_getElem.mp hx
      rw [List.getElem_zipWith]
      exact bit_mod _
    rcases List.mem_append.mp h with q | q <;> (obtain ⟨u, hu, rfl⟩ := List.mem_map.mp q; exact key _ u hu)
theorem getD_map {l : List Int} {g : Int → Int} {j : Nat} (h : j < l.length) : (l.map g).getD j 0 = g (l.getD j 0) := by
  rw [List.getD_eq_getElem?_getD, List.getElem?_map, List.getElem?_eq_getElem h, List.getD_eq_getElem?_getD, List.getElem?_eq_getElem h]; rfl
/-- what is spanned is listed -/
theorem span_mem {w : Nat} : ∀ {rows : List (List Int)}, Mat w rows → ∀ v, SpanC w rows v → v ∈ allsums w rows
  | [], _, v, ⟨h1, c, h2⟩ => by
    refine List.mem_singleton.mpr (ext_getD (by rw [h1, List.length_replicate]) fun j hj => ?_)
    rw [h2 j (by omega), List.getD_eq_getElem?_getD, List.getElem?_replicate, if_pos (by omega)]; rfl
  | r :: rs, hm, v, ⟨h1, c, h2⟩ => by
    have hr := hm r List.mem_cons_self
    have hm' : Mat w rs := fun x hx => hm x (List.mem_cons_of_mem _ hx)
    obtain ⟨u, hu1, hu2⟩ : ∃ u : List Int, u.length = w ∧ ∀ j, j < w → u.getD j 0 = sm rs.length (fun i => c (i + 1) * at2 rs i j) % 2 :=
      ⟨(List.range w).map fun j => sm rs.length (fun i => c (i + 1) * at2 rs i j) % 2, by rw [List.length_map, List.length_range], fun j hj => getD_map_range hj⟩
    have hmem : u ∈ allsums w rs := span_mem hm' u ⟨hu1, fun i => c (i + 1), hu2⟩
    have hsum : ∀ j, j < w → v.getD j 0 = (c 0 * r.getD j 0 + sm rs.length (fun i => c (i + 1) * at2 rs i j)) % 2 := fun j hj => by
      rw [h2 j hj]
      show sm (rs.length + 1) _ % 2 = _
      rw [sm_succ']; rfl
    have fin : ∀ e : Int, c 0 % 2 = e % 2 → v = xorL (r.map fun x => e * x % 2) u := fun e he => by
      refine ext_getD ?_ fun j hj => ?_
      · unfold xorL; rw [List.length_zipWith, List.length_map, hr.1, hu1, Nat.min_self, h1]
      · rw [h1] at hj
        rw [getD_zip (by rw [List.length_map]; exact hr.1) hu1 hj, getD_map (by rw [hr.1]; exact hj), hu2 j hj, hsum j hj]
        have := mul_mod2 (r.getD j 0) he
        rw [Int.mul_comm, Int.mul_comm _ e] at this
        omega
    refine List.mem_append.mpr ?_
    by_cases h : c 0 % 2 = 0
    · exact Or.inl (List.mem_map.mpr ⟨u, hmem, (fin 0 (by omega)).symm⟩)
    · exact Or.inr (List.mem_map.mpr ⟨u, hmem, (fin 1 (by omega)).symm⟩)
/-- a list without repetition within another that is no longer: the same, in another order -/
theorem perm_of_sub {A : Type} [DecidableEq A] : ∀ {l m : List A}, l.Nodup → (∀ x, x ∈ l → x ∈ m) → m.length ≤ l.length → l.Perm m
  | [], m, _, _, h => by
    cases m with
    | nil => exact List.Perm.refl _
    | cons a m => exact absurd h (by simp)
  | a :: l, m, hn, hs, h => by
    have ha : a ∈ m := hs a List.mem_cons_self
    have hn' := List.nodup_cons.mp hn
    have p : m.Perm (a :: m.erase a) := List.perm_cons_erase ha
    refine List.Perm.trans (List.Perm.cons a ?_) p.symm
    refine perm_of_sub hn'.2 (fun x hx => ?_) ?_
    · have : x ≠ a := fun e => hn'.1 (by rw [← e]; exact hx)
      exact (List.mem_erase_of_ne this).mpr (hs x (List.mem_cons_of_mem _ hx))
    · rw [List.length_erase_of_mem ha]
      have : m.length ≤ l.length + 1 := h
      omega
end MX
set_option maxHeartbeats 4000000
namespace MX
/-! ### distance to a received word -/
def er1 (x : Int) : Option Int → Int
  | none => 0
  | some y => if y = x then 0 else 1
def dst : List Int → List (Option Int) → Int
  | x :: w, o :: r => er1 x o + dst w r
  | _, _ => 0
theorem er1_le (x : Int) (o : Option Int) : 0 ≤ er1 x o ∧ er1 x o ≤ 1 := by
  cases o with
  | none => exact ⟨Int.le_refl (0 : Int), show (0 : Int) ≤ 1 by decide⟩
  | some y => unfold er1; by_cases h : y = x <;> simp [h]
theorem dst_append {b : List Int} {d : List (Option Int)} : ∀ {a : List Int} {c : List (Option Int)}, a.length = c.length → dst (a ++ b) (c ++ d) = dst a c + dst b d
  | [], [], _ => (Int.zero_add _).symm
  | x :: a, o :: c, h => by
    show er1 x o + dst (a ++ b) (c ++ d) = er1 x o + dst a c + dst b d
    rw [dst_append (Nat.succ.inj h)]; omega
theorem dst_nonneg : ∀ (w : List Int) (r : List (Option Int)), 0 ≤ dst w r
  | [], _ => Int.le_refl _
  | _ :: _, [] => Int.le_refl _
  | x :: w, o :: r => by
    have := (er1_le x o).1
    have := dst_nonneg w r
    show 0 ≤ er1 x o + dst w r
    omega
theorem dst_le : ∀ (w : List Int) (r : List (Option Int)), dst w r ≤ r.length
  | [], r => Int.natCast_nonneg _
  | _ :: _, [] => Int.le_refl _
  | x :: w, o :: r => by
    have := (er1_le x o).2
    have := dst_le w r
    show er1 x o + dst w r ≤ ((r.length + 1 : Nat) : Int)
    omega
theorem dst_step {w : List Int} {r : List (Option Int)} {i : Nat} (hw : i < w.length) (h : w.length = r.length) : dst (w.take (i + 1)) (r.take (i + 1)) = dst (w.take i) (r.take i) + er1 (w.getD i 0) (r.getD i none) := by
  rw [List.take_add_one, List.take_add_one, List.getElem?_eq_getElem hw, List.getElem?_eq_getElem (show i < r.length by omega)]
  show dst (w.take i ++ [w[i]]) (r.take i ++ [r[i]]) = _
  rw [dst_append (by rw [List.length_take, List.length_take, h]), List.getD_eq_getElem?_getD, List.getD_eq_getElem?_getD, List.getElem?_eq_getElem hw, List.getElem?_eq_getElem (show i < r.length by omega)]
  show _ + (er1 _ _ + 0) = _
  rw [Int.add_zero]; rfl
def OBits (r : List (Option Int)) : Prop := ∀ b, some b ∈ r → Bit b
theorem Bits.obits {w : List Int} (h : Bits w) : OBits (w.map some) := fun b hb => by
  obtain ⟨x, hx, e⟩ := List.mem_map.mp hb
  exact (Option.some.inj e) ▸ h x hx
end MX
set_option maxHeartbeats 4000000
namespace MX
/-! ### the encoder -/
def mem (t : List (List Int)) : Nat := (t.headD []).length - 1
structure GT (t : List (List Int)) : Prop where
  lo : 1 ≤ t.length
  hi : t.length ≤ 4
  len : ∀ p, p ∈ t → p.length = mem t + 1
  me : mem t ≤ 5
  bits : ∀ p, p ∈ t → Bits p
  ones : 0 < (t.map List.sum).sum
def fed (s : Nat) (b : Int) : Nat := b.toNat + 2 * s
def nx (m s : Nat) (b : Int) : Nat := fed s b % 2 ^ m
def dig (f d : Nat) : Int := ((f / 2 ^ d % 2 : Nat) : Int)
def ou1 (p : List Int) (f : Nat) : Int := sm p.length (fun d => p.getD d 0 * dig f d) % 2
def ou (t : List (List Int)) (s : Nat) (b : Int) : List Int := t.map fun p => ou1 p (fed s b)
theorem ou_length (t : List (List Int)) (s : Nat) (b : Int) : (ou t s b).length = t.length := List.length_map _
theorem ou_bits (t : List (List Int)) (s : Nat) (b : Int) : Bits (ou t s b) := fun x hx => by
  obtain ⟨p, _, rfl⟩ := List.mem_map.mp hx
  exact bit_mod _
theorem nx_lt (m s : Nat) (b : Int) : nx m s b < 2 ^ m := Nat.mod_lt _ (Nat.two_pow_pos m)
def run (m : Nat) : Nat → List Int → Nat
  | s, [] => s
  | s, b :: r => run m (nx m s b) r
def wd (t : List (List Int)) : Nat → List Int → List Int
  | _, [] => []
  | s, b :: r => ou t s b ++ wd t (nx (mem t) s b) r
theorem run_append (m : Nat) : ∀ (s : Nat) (a b : List Int), run m s (a ++ b) = run m (run m s a) b
  | _, [], _ => rfl
  | s, x :: a, b => run_append m (nx m s x) a b
theorem wd_append (t : List (List Int)) : ∀ (s : Nat) (a b : List Int), wd t s (a ++ b) = wd t s a ++ wd t (run (mem t) s a) b
  | _, [], _ => rfl
  | s, x :: a, b => by
    show ou t s x ++ wd t _ (a ++ b) = ou t s x ++ wd t _ a ++ _
    rw [wd_append t _ a b, List.append_assoc]; rfl
theorem run_lt {m : Nat} : ∀ {s : Nat} {a : List Int}, s < 2 ^ m → run m s a < 2 ^ m
  | _, [], h => h
  | s, x :: a, _ => run_lt (s := nx m s x) (nx_lt m s x)
theorem wd_length (t : List (List Int)) : ∀ (s : Nat) (a : List Int), (wd t s a).length = t.length * a.length
  | _, [] => (Nat.mul_zero _).symm
  | s, x :: a => by
    show (ou t s x ++ wd t _ a).length = t.length * (a.length + 1)
    rw [List.length_append, ou_length, wd_length t _ a, Nat.mul_succ, Nat.add_comm]
theorem wd_bits (t : List (List Int)) : ∀ (s : Nat) (a : List Int), Bits (wd t s a)
  | _, [] => Bits.nil
  | s, x :: a => (ou_bits t s x).append (wd_bits t _ a)
/-- the word of a message -/
def fm (t : List (List Int)) (msg : List Int) : List Int := msg ++ List.replicate (mem t) 0
def word (t : List (List Int)) (msg : List Int) : List Int := wd t 0 (fm t msg)
theorem word_length (t : List (List Int)) (msg : List Int) : (word t msg).length = t.length * (msg.length + mem t) := by
  unfold word fm
  rw [wd_length, List.length_append, List.length_replicate]
theorem word_bits (t : List (List Int)) (msg : List Int) : Bits (word t msg) := wd_bits t _ _
def tabOf (t : List (List Int)) : List (List (Int × List Int)) := (List.range (2 ^ mem t)).map fun s => [((nx (mem t) s 0 : Int), ou t s 0), ((nx (mem t) s 1 : Int), ou t s 1)]
theorem fed_dig {s : Nat} {b : Int} (hb : Bit b) (d : Nat) : dig (fed s b) (d + 1) = dig s d := by
  unfold dig fed
  rw [Nat.pow_succ', ← Nat.div_div_eq_div_mul]
  have : (b.toNat + 2 * s) / 2 = s := by rcases hb with h | h <;> rw [h] <;> omega
  rw [this]
theorem fed_dig0 {s : Nat} {b : Int} (hb : Bit b) : dig (fed s b) 0 = b := by
  unfold dig fed
  rw [Nat.pow_zero, Nat.div_one]
  rcases hb with h | h <;> rw [h] <;> omega
/-- the digits that the program lists -/
theorem digs {s m : Nat} {b : Int} (hb : Bit b) {d : Nat} (h : d ≤ m) : (b :: (List.range m).map (fun k => dig s k)).getD d 0 = dig (fed s b) d := by
  cases d with
  | zero => exact (fed_dig0 hb).symm
  | succ d =>
    rw [fed_dig hb]
    show ((List.range m).map (fun k => dig s k)).getD d 0 = _
    rw [getD_map_range (show d < m by omega)]
theorem mod_nx {m s : Nat} {b : Int} (hb : Bit b) : (b + 2 * (s : Int)) % 2 ^ m = (nx m s b : Int) := by
  unfold nx fed
  obtain ⟨k, hk⟩ : ∃ k : Nat, b = k := by rcases hb with h | h; exact ⟨0, h⟩; exact ⟨1, h⟩
  rw [hk, Int.toNat_natCast, Int.natCast_emod, Int.natCast_pow]
  rfl
/-- sums of rows, as the program lists them -/
theorem allsums_cons (w : Nat) (r : List Int) (rs : List (List Int)) : allsums w (r :: rs) = (List.range 2).flatMap fun k : Nat => (allsums w rs).map fun v => xorL (r.map fun x => (k : Int) * x % 2) v := by
  show _ = ([0, 1] : List Nat).flatMap _
  rw [List.flatMap_cons, List.flatMap_cons, List.flatMap_nil, List.append_nil]
  rfl
theorem drop_rev {A : Type} {l : List A} {i : Nat} {x : A} (h : i < l.length) (e : l[l.length - 1 - i]? = some x) : l.drop (l.length - (i + 1)) = x :: l.drop (l.length - i) := by
  rw [show l.length - (i + 1) = l.length - 1 - i by omega, show l.length - i = l.length - 1 - i + 1 by omega]
  have hl : l.length - 1 - i < l.length := by omega
  rw [List.drop_eq_getElem_cons hl]
  rw [List.getElem?_eq_getElem hl] at e
  rw [Option.some.inj e]
theorem xorL_length {a b : List Int} (h : a.length = b.length) : (xorL a b).length = b.length := by
  unfold xorL
  rw [List.length_zipWith, h, Nat.min_self]
theorem map_bits {f : Int} {w : List Int} : Bits (w.map fun x => f * x % 2) := fun x hx => by
  obtain ⟨p, _, rfl⟩ := List.mem_map.mp hx
  exact bit_mod _
theorem range_flat_succ {A : Type} {g : Nat → List A} {n : Nat} : (List.range (n + 1)).flatMap g = (List.range n).flatMap g ++ g n := by
  rw [List.range_succ, List.flatMap_append, List.flatMap_cons, List.flatMap_nil, List.append_nil]
theorem map_take_succ {A C : Type} {g : A → C} {l : List A} {i : Nat} {x : A} (e : l[i]? = some x) : (l.take (i + 1)).map g = (l.take i).map g ++ [g x] := by
  rw [List.take_add_one, e]
  show (l.take i ++ [x]).map g = _
  rw [List.map_append]; rfl
theorem allsums_le (w : Nat) (rows : List (List Int)) (i : Nat) (h : rows.length ≤ 12) : (allsums w (rows.drop i)).length ≤ 4096 := by
  rw [allsums_length, List.length_drop]
  exact Nat.pow_le_pow_right (by decide) (show rows.length - i ≤ 12 by omega)
theorem sum_step {l : List (List Int)} {i : Nat} {x : List Int} (e : l[i]? = some x) : ((l.take (i + 1)).map List.sum).sum = ((l.take i).map List.sum).sum + x.sum := by
  rw [map_take_succ e, List.sum_append]
  show _ + (_ + 0) = _
  rw [Int.add_zero]
/-! ### a code's words -/
def unitv (n k : Nat) : List Int := List.replicate k 0 ++ [1] ++ List.replicate (n - k - 1) 0
theorem unitv_bits (n k : Nat) : Bits (unitv n k) := ((Bits.zeros k).append (Bits.cons (Or.inr rfl) Bits.nil)).append (Bits.zeros _)
theorem unitv_length {n k : Nat} (h : k < n) : (unitv n k).length = n := by
  unfold unitv
  rw [List.length_append, List.length_append, List.length_replicate, List.length_replicate, List.length_singleton]; omega
abbrev sortL (xs : List (List Int)) : List (List Int) := xs.mergeSort fun p q => decide (p ≤ q)
/-- the least distance so far and the words at it -/
structure NearP (ws : List (List Int)) (r : List (Option Int)) (b0 b : Int) : Prop where
  le : ∀ v, v ∈ ws → b ≤ dst v r
  at_ : b = b0 ∨ ∃ v, v ∈ ws ∧ dst v r = b
  b0 : b ≤ b0
theorem NearP.nil (r : List (Option Int)) (b0 : Int) : NearP [] r b0 b0 := ⟨fun _ h => (by cases h), Or.inl rfl, Int.le_refl _⟩
theorem NearP.less {ws : List (List Int)} {r : List (Option Int)} {b0 b : Int} {w : List Int} (h : NearP ws r b0 b) (k : dst w r < b) : NearP (ws ++ [w]) r b0 (dst w r) ∧ (ws ++ [w]).filter (fun v => decide (dst v r = dst w r)) = [] ++ [w] := by
  refine ⟨⟨fun v hv => ?_, Or.inr ⟨w, by simp, rfl⟩, by have := h.b0; omega⟩, ?_⟩
  · rcases List.mem_append.mp hv with q | q
    · have := h.le v q; omega
    · rw [List.mem_singleton.mp q]; exact Int.le_refl _
  · rw [List.filter_append, List.filter_eq_nil_iff.mpr (fun v hv => by have := h.le v hv; simp; omega), List.filter_cons, if_pos (by simp)]; rfl
theorem NearP.same {ws : List (List Int)} {r : List (Option Int)} {b0 b : Int} {w : List Int} (h : NearP ws r b0 b) (k : dst w r = b) : NearP (ws ++ [w]) r b0 b ∧ (ws ++ [w]).filter (fun v => decide (dst v r = b)) = ws.filter (fun v => decide (dst v r = b)) ++ [w] := by
  refine ⟨⟨fun v hv => ?_, Or.inr ⟨w, by simp, k⟩, h.b0⟩, ?_⟩
  · rcases List.mem_append.mp hv with q | q
    · exact h.le v q
    · rw [List.mem_singleton.mp q, k]; exact Int.le_refl _
  · rw [List.filter_append, List.filter_cons, if_pos (by simp [k])]; rfl
theorem NearP.more {ws : List (List Int)} {r : List (Option Int)} {b0 b : Int} {w : List Int} (h : NearP ws r b0 b) (k : b < dst w r) : NearP (ws ++ [w]) r b0 b ∧ (ws ++ [w]).filter (fun v => decide (dst v r = b)) = ws.filter (fun v => decide (dst v r = b)) := by
  refine ⟨⟨fun v hv => ?_, ?_, h.b0⟩, ?_⟩
  · rcases List.mem_append.mp hv with q | q
    · exact h.le v q
    · rw [List.mem_singleton.mp q]; omega
  · rcases h.at_ with q | ⟨v, q, e⟩
    · exact Or.inl q
    · exact Or.inr ⟨v, List.mem_append_left _ q, e⟩
  · rw [List.filter_append, List.filter_cons, if_neg (by simp; omega), List.filter_nil, List.append_nil]
/-! ### common starts -/
def cst : List Int → List Int → List Int
  | x :: a, y :: b => if x = y then x :: cst a b else []
  | _, _ => []
theorem cst_take : ∀ {a b : List Int} {k : Nat}, k ≤ a.length → k ≤ b.length → (∀ i, i < k → a.getD i 0 = b.getD i 0) → (k < a.length → k < b.length → a.getD k 0 ≠ b.getD k 0) → cst a b = a.take k
  | [], _, 0, _, _, _, _ => rfl
  | _ :: _, [], 0, _, _, _, _ => rfl
  | x :: a, y :: b, 0, _, _, _, h => by
    have : x ≠ y := h (Nat.zero_lt_succ _) (Nat.zero_lt_succ _)
    show (if x = y then _ else _) = _
    rw [if_neg this]; rfl
  | x :: a, y :: b, k + 1, h1, h2, h3, h4 => by
    have e : x = y := h3 0 (Nat.zero_lt_succ _)
    show (if x = y then x :: cst a b else []) = x :: a.take k
    rw [if_pos e, cst_take (k := k) (Nat.le_of_succ_le_succ h1) (Nat.le_of_succ_le_succ h2) (fun i hi => h3 (i + 1) (Nat.succ_lt_succ hi)) fun p q => h4 (Nat.succ_lt_succ p) (Nat.succ_lt_succ q)]
  | [], _, _ + 1, h, _, _, _ => absurd h (Nat.not_succ_le_zero _)
  | _ :: _, [], _ + 1, _, h, _, _ => absurd h (Nat.not_succ_le_zero _)
end MX
set_option maxHeartbeats 4000000
namespace MX
/-! ### the trellis -/
abbrev Rc := List (Option Int)
abbrev Tp := List (List Int)
def chs (w : Nat) (r : Rc) : List Rc := (List.range (r.length / w)).map fun k => (r.drop (k * w)).take w
structure WT (t : Tp) (r : Rc) : Prop where
  g : GT t
  dv : r.length % t.length = 0
  me : mem t ≤ r.length / t.length
  ob : OBits r
  le : r.length ≤ 10000
def ml (t : Tp) (r : Rc) : Nat := r.length / t.length - mem t
theorem chs_length (w : Nat) (r : Rc) : (chs w r).length = r.length / w := by
  unfold chs; rw [List.length_map, List.length_range]
theorem chs_mem {w : Nat} {r : Rc} : ∀ c, c ∈ chs w r → c.length = w := fun c hc => by
  obtain ⟨k, hk, rfl⟩ := List.mem_map.mp hc
  have hk := List.mem_range.mp hk
  rw [List.length_take, List.length_drop]
  have h1 : (k + 1) * w ≤ r.length / w * w := Nat.mul_le_mul_right w hk
  have h2 := Nat.div_mul_le_self r.length w
  rw [Nat.succ_mul] at h1
  omega
abbrev Mv := Int × Int × Int
def mv (t : Tp) (r : Rc) (s : Nat) (b : Int) : Mv := (b, dst (ou t s b) r, (nx (mem t) s b : Int))
def mv1 (t : Tp) (f : Nat) (r : Rc) (s : Nat) : List Mv := mv t r s 0 :: if 0 < f then [mv t r s 1] else []
def ctg (t : Tp) : Nat → List Rc → Nat → Int
  | _, [], _ => 0
  | f, r :: rs, s => if f = 0 then dst (ou t s 0) r + ctg t (f - 1) rs (nx (mem t) s 0) else min (dst (ou t s 0) r + ctg t (f - 1) rs (nx (mem t) s 0)) (dst (ou t s 1) r + ctg t (f - 1) rs (nx (mem t) s 1))
theorem ctg_cons (t : Tp) (f : Nat) (r : Rc) (rs : List Rc) (s : Nat) : ctg t f (r :: rs) s = if f = 0 then dst (ou t s 0) r + ctg t (f - 1) rs (nx (mem t) s 0) else min (dst (ou t s 0) r + ctg t (f - 1) rs (nx (mem t) s 0)) (dst (ou t s 1) r + ctg t (f - 1) rs (nx (mem t) s 1)) := rfl
theorem mv1_mem {t : Tp} {f : Nat} {r : Rc} {s : Nat} {m : Mv} (h : m ∈ mv1 t f r s) : m = mv t r s 0 ∨ (m = mv t r s 1 ∧ 0 < f) := by
  rcases List.mem_cons.mp h with q | q
  · exact Or.inl q
  · by_cases hf : 0 < f
    · rw [if_pos hf] at q; exact Or.inr ⟨List.mem_singleton.mp q, hf⟩
    · rw [if_neg hf] at q; cases q
/-- what a move costs in all -/
def mval (t : Tp) (f : Nat) (rs : List Rc) (m : Mv) : Int := m.2.1 + ctg t (f - 1) rs m.2.2.toNat
theorem mval_mv (t : Tp) (f : Nat) (r : Rc) (rs : List Rc) (s : Nat) (b : Int) : mval t f rs (mv t r s b) = dst (ou t s b) r + ctg t (f - 1) rs (nx (mem t) s b) := by
  unfold mval mv
  rw [Int.toNat_natCast]
theorem ctg_le {t : Tp} {f : Nat} {r : Rc} {rs : List Rc} {s : Nat} {m : Mv} (h : m ∈ mv1 t f r s) : ctg t f (r :: rs) s ≤ mval t f rs m := by
  rw [ctg_cons]
  rcases mv1_mem h with q | ⟨q, hf⟩
  · rw [q, mval_mv]
    split
    · exact Int.le_refl _
    · exact Int.min_le_left _ _
  · rw [q, mval_mv, if_neg (by omega)]
    exact Int.min_le_right _ _
theorem ctg_at (t : Tp) (f : Nat) (r : Rc) (rs : List Rc) (s : Nat) : ∃ m, m ∈ mv1 t f r s ∧ ctg t f (r :: rs) s = mval t f rs m := by
  rw [ctg_cons]
  by_cases hf : f = 0
  · rw [if_pos hf]
    exact ⟨mv t r s 0, List.mem_cons_self, (mval_mv t f r rs s 0).symm⟩
  · rw [if_neg hf]
    by_cases h : dst (ou t s 0) r + ctg t (f - 1) rs (nx (mem t) s 0) ≤ dst (ou t s 1) r + ctg t (f - 1) rs (nx (mem t) s 1)
    · rw [Int.min_eq_left h]
      exact ⟨mv t r s 0, List.mem_cons_self, (mval_mv t f r rs s 0).symm⟩
    · rw [Int.min_eq_right (by omega)]
      refine ⟨mv t r s 1, List.mem_cons_of_mem _ ?_, (mval_mv t f r rs s 1).symm⟩
      rw [if_pos (by omega)]
      exact List.mem_singleton.mpr rfl
def crow (t : Tp) (st : List Rc) (n p : Nat) : List Int := (List.range (2 ^ mem t)).map fun s => ctg t (n - p) (st.drop p) s
def ctab (t : Tp) (st : List Rc) (n : Nat) : List (List Int) := (List.range (st.length + 1)).map fun p => crow t st n p
theorem crow_length (t : Tp) (st : List Rc) (n p : Nat) : (crow t st n p).length = 2 ^ mem t := by unfold crow; rw [List.length_map, List.length_range]
theorem crow_at {t : Tp} {st : List Rc} {n p s : Nat} (h : s < 2 ^ mem t) : (crow t st n p).getD s 0 = ctg t (n - p) (st.drop p) s := getD_map_range h
theorem ctab_length (t : Tp) (st : List Rc) (n : Nat) : (ctab t st n).length = st.length + 1 := by unfold ctab; rw [List.length_map, List.length_range]
theorem getD_mapR {A : Type} {n : Nat} {f : Nat → A} {d : A} {j : Nat} (h : j < n) : ((List.range n).map f).getD j d = f j := by
  rw [List.getD_eq_getElem?_getD, List.getElem?_map, List.getElem?_range h]; rfl
theorem ctab_at {t : Tp} {st : List Rc} {n p : Nat} (h : p ≤ st.length) : (ctab t st n).getD p [] = crow t st n p := getD_mapR (show p < st.length + 1 by omega)
theorem drop_at {A : Type} {st : List A} {p : Nat} (d : A) (h : p < st.length) : st.drop p = st.getD p d :: st.drop (p + 1) := by
  rw [List.drop_eq_getElem_cons h, List.getD_eq_getElem?_getD, List.getElem?_eq_getElem h]; rfl
theorem tab_at {t : Tp} {s : Nat} (h : s < 2 ^ mem t) : (tabOf t).getD s [] = [((nx (mem t) s 0 : Int), ou t s 0), ((nx (mem t) s 1 : Int), ou t s 1)] := getD_mapR h
theorem tab_length (t : Tp) : (tabOf t).length = 2 ^ mem t := by unfold tabOf; rw [List.length_map, List.length_range]
/-- the best moves -/
def bm1 (t : Tp) (f : Nat) (r : Rc) (rs : List Rc) (s : Nat) : List Mv := (mv1 t f r s).filter fun m => decide (mval t f rs m = ctg t f (r :: rs) s)
theorem bm1_ne (t : Tp) (f : Nat) (r : Rc) (rs : List Rc) (s : Nat) : 0 < (bm1 t f r rs s).length := by
  obtain ⟨m, h1, h2⟩ := ctg_at t f r rs s
  exact List.length_pos_of_mem (List.mem_filter.mpr ⟨h1, by simp [h2]⟩)
/-- the first best path, the number of all -/
def gr (t : Tp) : Nat → List Rc → Nat → List Int
  | _, [], _ => []
  | f, r :: rs, s => if f = 0 then [] else ((bm1 t f r rs s).getD 0 (mv t r s 0)).1 :: gr t (f - 1) rs ((bm1 t f r rs s).getD 0 (mv t r s 0)).2.2.toNat
theorem gr_zero (t : Tp) : ∀ (rs : List Rc) (s : Nat), gr t 0 rs s = []
  | [], _ => rfl
  | _ :: _, _ => rfl
theorem gr_succ {t : Tp} {f : Nat} {r : Rc} {rs : List Rc} {s : Nat} (h : 0 < f) : gr t f (r :: rs) s = ((bm1 t f r rs s).getD 0 (mv t r s 0)).1 :: gr t (f - 1) rs ((bm1 t f r rs s).getD 0 (mv t r s 0)).2.2.toNat := by
  show (if f = 0 then _ else _) = _
  rw [if_neg (by omega)]
def cnt (t : Tp) : Nat → List Rc → Nat → Int
  | _, [], _ => 1
  | f, r :: rs, s => ((bm1 t f r rs s).map fun m => cnt t (f - 1) rs m.2.2.toNat).sum
theorem mv_bit {t : Tp} {f : Nat} {r : Rc} {s : Nat} {m : Mv} (h : m ∈ mv1 t f r s) : Bit m.1 ∧ 0 ≤ m.2.2 ∧ m.2.2 < ((2 ^ mem t : Nat) : Int) ∧ m.2.2 = (m.2.2.toNat : Int) ∧ m.2.2.toNat < 2 ^ mem t := by
  have q : ∀ b : Int, Bit b → Bit (mv t r s b).1 ∧ 0 ≤ (mv t r s b).2.2 ∧ (mv t r s b).2.2 < ((2 ^ mem t : Nat) : Int) ∧ (mv t r s b).2.2 = ((mv t r s b).2.2.toNat : Int) ∧ (mv t r s b).2.2.toNat < 2 ^ mem t := fun b hb => by
    have h := nx_lt (mem t) s b
    unfold mv
    exact ⟨hb, Int.natCast_nonneg _, Int.ofNat_lt.mpr h, by rw [Int.toNat_natCast], by rw [Int.toNat_natCast]; exact h⟩
  rcases mv1_mem h with e | ⟨e, _⟩
  · rw [e]; exact q 0 (Or.inl rfl)
  · rw [e]; exact q 1 (Or.inr rfl)
theorem mv1_length (t : Tp) (f : Nat) (r : Rc) (s : Nat) : (mv1 t f r s).length ≤ 2 := by
  unfold mv1
  split <;> simp
theorem map_const_row (t : Tp) (st : List Rc) (n : Nat) : (tabOf t).map (fun _ => (0 : Int)) = crow t st n st.length := by
  unfold tabOf crow
  rw [List.map_map]
  refine List.map_congr_left fun s _ => ?_
  rw [List.drop_length]; rfl
def krow (t : Tp) (st : List Rc) (n p : Nat) : List Int := (List.range (2 ^ mem t)).map fun s => cnt t (n - p) (st.drop p) s
theorem krow_one (t : Tp) (st : List Rc) (n : Nat) : (tabOf t).map (fun _ => (1 : Int)) = krow t st n st.length := by
  unfold tabOf krow
  rw [List.map_map]
  refine List.map_congr_left fun s _ => ?_
  rw [List.drop_length]; rfl
theorem krow_at {t : Tp} {st : List Rc} {n p s : Nat} (h : s < 2 ^ mem t) : (krow t st n p).getD s 0 = cnt t (n - p) (st.drop p) s := getD_map_range h
theorem krow_length (t : Tp) (st : List Rc) (n p : Nat) : (krow t st n p).length = 2 ^ mem t := by unfold krow; rw [List.length_map, List.length_range]
theorem rev_range_map {A : Type} (f : Nat → A) (T : Nat) : ((List.range (T + 1)).map fun k => f (T - k)).reverse = (List.range (T + 1)).map f := by
  refine List.ext_getElem (by simp) fun i h1 h2 => ?_
  simp at h1 h2
  simp
  congr 1
  omega
theorem bm1_mem {t : Tp} {f : Nat} {r : Rc} {rs : List Rc} {s : Nat} {m : Mv} (h : m ∈ bm1 t f r rs s) : m ∈ mv1 t f r s := (List.mem_filter.mp h).1
theorem bm1_length (t : Tp) (f : Nat) (r : Rc) (rs : List Rc) (s : Nat) : (bm1 t f r rs s).length ≤ 2 := Nat.le_trans (List.length_filter_le _ _) (mv1_length _ _ _ _)
theorem crow_zero {t : Tp} {st : List Rc} {n : Nat} : ∀ x, x ∈ crow t st n st.length → x = 0 := fun x hx => by
  obtain ⟨s, _, rfl⟩ := List.mem_map.mp hx
  rw [List.drop_length]; rfl
end MX
set_option maxHeartbeats 4000000
namespace MX
theorem map_none {A C : Type} : ∀ W : List A, W.map (fun _ => (none : Option C)) = List.replicate W.length none
  | [] => rfl
  | _ :: W => congrArg (none :: ·) (map_none W)
/-! ### folds by turns -/
theorem fold_step {A C : Type} {f : C → A → C} {c : C} {l : List A} {i : Nat} {x : A} (e : l[i]? = some x) : (l.take (i + 1)).foldl f c = f ((l.take i).foldl f c) x := by
  rw [List.take_add_one, e, List.foldl_append]; rfl
theorem fold_range {C : Type} {f : C → Nat → C} {c : C} {n : Nat} : (List.range (n + 1)).foldl f c = f ((List.range n).foldl f c) n := by
  rw [List.range_succ, List.foldl_append]; rfl
/-! ### the free distance, as the program finds it -/
abbrev WTb := List (List (Int × Int))
abbrev Rk := List (Option (Int × Int))
def wtb (t : Tp) : WTb := (tabOf t).map fun row => row.map fun e => (e.1, e.2.sum)
abbrev ltP (a b : Int × Int) : Bool := decide (a.1 < b.1) || (decide (a.1 = b.1) && decide (a.2 < b.2))
def rk1 (s : Nat) (L : Rk) (e : Int × Int) : Rk := match L.getD e.1.toNat none with
  | none => L
  | some a => match L.getD s none with
    | none => L.set s (some (e.2 + a.1, 1 + a.2))
    | some c => if ltP (e.2 + a.1, 1 + a.2) c then L.set s (some (e.2 + a.1, 1 + a.2)) else L
def rkS (W : WTb) (L : Rk) (i : Nat) : Rk := (W.getD (i + 1) []).foldl (rk1 (i + 1)) L
def rkT (W : WTb) (L : Rk) : Rk := (List.range (W.length - 1)).foldl (rkS W) L
def rk0 (n : Nat) : Rk := (List.replicate n none).set 0 (some (0, 0))
def rkN (W : WTb) : Rk := W.foldl (fun L _ => rkT W L) (rk0 W.length)
theorem rk1_length (s : Nat) (L : Rk) (e : Int × Int) : (rk1 s L e).length = L.length := by
  unfold rk1
  split
  · rfl
  · split
    · exact List.length_set
    · split
      · exact List.length_set
      · rfl
theorem foldl_inv {A C : Type} {f : C → A → C} (P : C → Prop) : ∀ {l : List A} {c : C}, P c → (∀ c x, x ∈ l → P c → P (f c x)) → P (l.foldl f c)
  | [], _, h, _ => h
  | x :: l, c, h, k => foldl_inv (l := l) P (k c x List.mem_cons_self h) fun c y hy => k c y (List.mem_cons_of_mem _ hy)
theorem rkS_length (W : WTb) (L : Rk) (i : Nat) : (rkS W L i).length = L.length := foldl_inv (fun M : Rk => M.length = L.length) rfl fun c x _ h => (rk1_length _ _ _).trans h
theorem rkT_length (W : WTb) (L : Rk) : (rkT W L).length = L.length := foldl_inv (fun M : Rk => M.length = L.length) rfl fun c x _ h => (rkS_length _ _ _).trans h
theorem rk0_length (n : Nat) : (rk0 n).length = n := by unfold rk0; rw [List.length_set, List.length_replicate]
theorem rkN_length (W : WTb) : (rkN W).length = W.length := foldl_inv (fun M : Rk => M.length = W.length) (rk0_length _) fun c x _ h => (rkT_length _ _).trans h
/-- the table is right: two edges at each state, to states -/
structure WOk (W : WTb) : Prop where
  pos : 1 ≤ W.length
  le : W.length ≤ 32
  two : ∀ r, r ∈ W → r.length = 2 ∧ ∀ e, e ∈ r → 0 ≤ e.1 ∧ e.1 < (W.length : Int)
theorem wtb_ok {t : Tp} (g : GT t) : WOk (wtb t) := by
  have hl : (wtb t).length = 2 ^ mem t := by unfold wtb; rw [List.length_map, tab_length]
  refine ⟨by rw [hl]; exact Nat.two_pow_pos _, by rw [hl]; exact Nat.pow_le_pow_right (by decide) (show mem t ≤ 5 from g.me), fun r hr => ?_⟩
  obtain ⟨row, h1, rfl⟩ := List.mem_map.mp hr
  obtain ⟨s, _, rfl⟩ := List.mem_map.mp h1
  refine ⟨rfl, fun e he => ?_⟩
  obtain ⟨x, hx, rfl⟩ := List.mem_map.mp he
  rw [hl]
  rcases List.mem_cons.mp hx with q | q
  · rw [q]; exact ⟨Int.natCast_nonneg _, Int.ofNat_lt.mpr (nx_lt _ _ _)⟩
  · rw [List.mem_singleton.mp q]; exact ⟨Int.natCast_nonneg _, Int.ofNat_lt.mpr (nx_lt _ _ _)⟩
def wz (t : Tp) : List Int := (rkN (wtb t)).map fun o => (o.getD (0, 0)).1
def frd (t : Tp) : Int := (((wtb t).getD 0 []).getD 1 (0, 0)).2 + (wz t).getD (((wtb t).getD 0 []).getD 1 (0, 0)).1.toNat 0
/-! ### the path decoder's summaries -/
structure Sm where
  cost : Int
  cnt : Int
  first : List Int
  start : List Int
def gwn (x : Sm) (b c : Int) : Sm := ⟨x.cost + c, x.cnt, x.first ++ [b], if x.cnt = 1 then x.first ++ [b] else x.start⟩
def mgd : Option Sm → Sm → Sm
  | none, y => y
  | some x, y => if x.cost < y.cost then x else if y.cost < x.cost then y else ⟨x.cost, x.cnt + y.cnt, if y.first < x.first then y.first else x.first, cst x.start y.start⟩
def up1 (t : Tp) (it : Rc) (s : Nat) (x : Sm) (L : List (Option Sm)) (b : Int) : List (Option Sm) := L.set (nx (mem t) s b) (some (mgd (L.getD (nx (mem t) s b) none) (gwn x b (dst (ou t s b) it))))
def tkS (t : Tp) (it : Rc) (sums : List (Option Sm)) (L : List (Option Sm)) (s : Nat) : List (Option Sm) := match sums.getD s none with
  | none => L
  | some x => ([0, 1] : List Int).foldl (up1 t it s x) L
def tkN (t : Tp) (it : Rc) (sums : List (Option Sm)) : List (Option Sm) := (List.range (2 ^ mem t)).foldl (tkS t it sums) (List.replicate (2 ^ mem t) none)
def stt (sums : List (Option Sm)) : Option (List Int) := sums.foldl (fun o s => match s with
  | none => o
  | some x => some (match o with
    | none => x.start
    | some y => cst y x.start)) none
def ini (t : Tp) : List (Option Sm) := (List.replicate (2 ^ mem t) none).set 0 (some ⟨0, 1, [], []⟩)
theorem up1_length (t : Tp) (it : Rc) (s : Nat) (x : Sm) (L : List (Option Sm)) (b : Int) : (up1 t it s x L b).length = L.length := List.length_set
theorem tkS_length (t : Tp) (it : Rc) (sums : List (Option Sm)) (L : List (Option Sm)) (s : Nat) : (tkS t it sums L s).length = L.length := by
  unfold tkS
  split
  · rfl
  · exact foldl_inv (fun M : List (Option Sm) => M.length = L.length) rfl fun c y _ h => (up1_length _ _ _ _ _ _).trans h
theorem tkN_length (t : Tp) (it : Rc) (sums : List (Option Sm)) : (tkN t it sums).length = 2 ^ mem t := foldl_inv (fun M : List (Option Sm) => M.length = 2 ^ mem t) List.length_replicate fun c y _ h => (tkS_length _ _ _ _ _).trans h
theorem ini_length (t : Tp) : (ini t).length = 2 ^ mem t := by unfold ini; rw [List.length_set, List.length_replicate]
theorem cst_length (a b : List Int) : (cst a b).length ≤ a.length := by
  induction a generalizing b with
  | nil => exact Nat.le_refl _
  | cons x a ih => cases b with
    | nil => exact Nat.zero_le _
    | cons y b =>
      show (if x = y then x :: cst a b else []).length ≤ _
      split
      · exact Nat.succ_le_succ (ih b)
      · exact Nat.zero_le _
/-- no list in the summaries is longer than n -/
def SmB (n : Nat) (x : Sm) : Prop := x.first.length ≤ n ∧ x.start.length ≤ n
def SmsB (n : Nat) (L : List (Option Sm)) : Prop := ∀ x, some x ∈ L → SmB n x
theorem gwn_b {n : Nat} {x : Sm} (h : SmB n x) (b c : Int) : SmB (n + 1) (gwn x b c) := by
  obtain ⟨h1, h2⟩ := h
  refine ⟨by show (x.first ++ [b]).length ≤ _; rw [List.length_append]; exact Nat.succ_le_succ h1, ?_⟩
  show (if x.cnt = 1 then x.first ++ [b] else x.start).length ≤ _
  split
  · rw [List.length_append]; exact Nat.succ_le_succ h1
  · omega
theorem mgd_b {n : Nat} {o : Option Sm} {y : Sm} (h : ∀ x, o = some x → SmB n x) (k : SmB n y) : SmB n (mgd o y) := by
  cases o with
  | none => exact k
  | some x =>
    have hx := h x rfl
    unfold mgd
    dsimp only
    split
    · exact hx
    · split
      · exact k
      · refine ⟨?_, Nat.le_trans (cst_length _ _) hx.2⟩
        dsimp only
        split
        · exact k.1
        · exact hx.1
theorem getD_none_mem {L : List (Option Sm)} {i : Nat} {x : Sm} (h : L.getD i none = some x) : some x ∈ L := by
  rw [List.getD_eq_getElem?_getD] at h
  cases e : L[i]? with
  | none => rw [e] at h; cases h
  | some o => rw [e] at h; exact (show o = some x from h) ▸ List.mem_of_getElem? e
theorem up1_b {n : Nat} {t : Tp} {it : Rc} {s : Nat} {x : Sm} {L : List (Option Sm)} {b : Int} (h : SmsB (n + 1) L) (k : SmB n x) : SmsB (n + 1) (up1 t it s x L b) := fun y hy => by
  rcases List.mem_or_eq_of_mem_set hy with q | q
  · exact h y q
  · rw [Option.some.inj q]
    exact mgd_b (fun z e => h z (getD_none_mem e)) (gwn_b k _ _)
theorem tkS_b {n : Nat} {t : Tp} {it : Rc} {sums L : List (Option Sm)} {s : Nat} (h : SmsB (n + 1) L) (k : SmsB n sums) : SmsB (n + 1) (tkS t it sums L s) := by
  unfold tkS
  split
  · exact h
  · rename_i x e
    exact foldl_inv (SmsB (n + 1)) h fun c y _ hc => up1_b hc (k x (getD_none_mem e))
theorem none_b (n k : Nat) : SmsB n (List.replicate k none) := fun x hx => by
  have := (List.mem_replicate.mp hx).2
  cases this
theorem tkN_b {n : Nat} {t : Tp} {it : Rc} {sums : List (Option Sm)} (k : SmsB n sums) : SmsB (n + 1) (tkN t it sums) := foldl_inv (SmsB (n + 1)) (none_b _ _) fun c y _ hc => tkS_b hc k
theorem ini_b (t : Tp) : SmsB 0 (ini t) := fun x hx => by
  rcases List.mem_or_eq_of_mem_set hx with q | q
  · have := (List.mem_replicate.mp q).2
    cases this
  · rw [Option.some.inj q]; exact ⟨Nat.le_refl _, Nat.le_refl _⟩
/-! ### the nearest messages, one by one -/
def bst (t : Tp) : Nat → List Rc → Nat → List (List Int)
  | _, [], _ => [[]]
  | f, r :: rs, s => if f = 0 then [[]] else (bm1 t f r rs s).flatMap fun m => (bst t (f - 1) rs m.2.2.toNat).map (m.1 :: ·)
theorem bst_zero (t : Tp) : ∀ (rs : List Rc) (s : Nat), bst t 0 rs s = [[]]
  | [], _ => rfl
  | _ :: _, _ => rfl
theorem bst_succ {t : Tp} {f : Nat} {r : Rc} {rs : List Rc} {s : Nat} (h : 0 < f) : bst t f (r :: rs) s = (bm1 t f r rs s).flatMap fun m => (bst t (f - 1) rs m.2.2.toNat).map (m.1 :: ·) := by
  show (if f = 0 then _ else _) = _
  rw [if_neg (by omega)]
/-- what an entry of the stack still gives -/
def ent (t : Tp) (st : List Rc) (n : Nat) (e : Int × List Int) : List (List Int) := (bst t (n - e.2.length) (st.drop e.2.length) e.1.toNat).map (e.2 ++ ·)
def stk (t : Tp) (st : List Rc) (n : Nat) (S : List (Int × List Int)) : List (List Int) := S.reverse.flatMap (ent t st n)
def stm (n : Nat) (S : List (Int × List Int)) : Nat := (S.map fun e => 3 ^ (n - e.2.length + 1)).sum
structure StkOk (t : Tp) (n : Nat) (S : List (Int × List Int)) : Prop where
  ent : ∀ (i : Nat) (e : Int × List Int), S[i]? = some e → i ≤ e.2.length ∧ e.2.length ≤ n ∧ 0 ≤ e.1 ∧ e.1 < ((2 ^ mem t : Nat) : Int)
theorem stk_snoc (t : Tp) (st : List Rc) (n : Nat) (S : List (Int × List Int)) (e : Int × List Int) : stk t st n (S ++ [e]) = ent t st n e ++ stk t st n S := by
  unfold stk
  rw [List.reverse_append]; rfl
theorem stk_push (t : Tp) (st : List Rc) (n : Nat) (S L : List (Int × List Int)) : stk t st n (S ++ L.reverse) = L.flatMap (ent t st n) ++ stk t st n S := by
  unfold stk
  rw [List.reverse_append, List.reverse_reverse, List.flatMap_append]
theorem stm_snoc (n : Nat) (S L : List (Int × List Int)) : stm n (S ++ L) = stm n S + stm n L := by
  unfold stm
  rw [List.map_append, List.sum_append]
/-- an entry is replaced by its best moves -/
def nexts (t : Tp) (st : List Rc) (n : Nat) (e : Int × List Int) : List (Int × List Int) := (bm1 t (n - e.2.length) (st.getD e.2.length []) (st.drop (e.2.length + 1)) e.1.toNat).map fun m => (m.2.2, e.2 ++ [m.1])
theorem ent_step {t : Tp} {st : List Rc} {n : Nat} {e : Int × List Int} (h1 : e.2.length < n) (h2 : n ≤ st.length) : ent t st n e = (nexts t st n e).flatMap (ent t st n) := by
  obtain ⟨s, msg⟩ := e
  dsimp only at h1
  unfold nexts ent
  dsimp only
  rw [drop_at [] (show msg.length < st.length by omega), bst_succ (by omega), List.map_flatMap, List.flatMap_map]
  congr 1
  funext m
  rw [List.map_map, List.length_append, List.length_singleton, show n - (msg.length + 1) = n - msg.length - 1 by omega]
  congr 1
  funext l
  simp
theorem ent_end {t : Tp} {st : List Rc} {n : Nat} {e : Int × List Int} (h1 : e.2.length = n) : ent t st n e = [e.2] := by
  unfold ent
  rw [h1, Nat.sub_self, bst_zero]
  simp
theorem StkOk.pop {t : Tp} {n : Nat} {S : List (Int × List Int)} {e : Int × List Int} (h : StkOk t n (S ++ [e])) : StkOk t n S ∧ S.length ≤ e.2.length ∧ e.2.length ≤ n ∧ 0 ≤ e.1 ∧ e.1 < ((2 ^ mem t : Nat) : Int) := by
  refine ⟨⟨fun i x hx => h.ent i x (by rw [List.getElem?_append_left (List.getElem?_eq_some_iff.mp hx).1]; exact hx)⟩, ?_⟩
  exact h.ent S.length e (by rw [List.getElem?_append_right (Nat.le_refl _), Nat.sub_self]; rfl)
theorem nexts_length (t : Tp) (st : List Rc) (n : Nat) (e : Int × List Int) : (nexts t st n e).length ≤ 2 := by
  unfold nexts
  rw [List.length_map]; exact bm1_length _ _ _ _ _
theorem StkOk.push {t : Tp} {st : List Rc} {n : Nat} {S : List (Int × List Int)} {e : Int × List Int} (h : StkOk t n S) (h1 : S.length ≤ e.2.length) (h2 : e.2.length < n) : StkOk t n (S ++ (nexts t st n e).reverse) := by
  refine ⟨fun i x hx => ?_⟩
  by_cases hi : i < S.length
  · rw [List.getElem?_append_left hi] at hx
    exact h.ent i x hx
  · rw [List.getElem?_append_right (by omega)] at hx
    have hl := nexts_length t st n e
    have hi2 := (List.getElem?_eq_some_iff.mp hx).1
    rw [List.length_reverse] at hi2
    have hm := List.mem_reverse.mp (List.mem_of_getElem? hx)
    obtain ⟨m, hm1, rfl⟩ := List.mem_map.mp hm
    have hb := mv_bit (bm1_mem hm1)
    refine ⟨?_, ?_, hb.2.1, hb.2.2.1⟩
    · show i ≤ (e.2 ++ [m.1]).length
      rw [List.length_append, List.length_singleton]; omega
    · show (e.2 ++ [m.1]).length ≤ n
      rw [List.length_append, List.length_singleton]; omega
theorem stm_nexts {t : Tp} {st : List Rc} {n : Nat} {S : List (Int × List Int)} {e : Int × List Int} (h2 : e.2.length < n) : stm n (S ++ (nexts t st n e).reverse) < stm n (S ++ [e]) := by
  rw [stm_snoc, stm_snoc]
  have h3 : stm n [e] = 3 ^ (n - e.2.length + 1) := by unfold stm; simp
  have h4 : ∀ L : List (Int × List Int), L.length ≤ 2 → (∀ x, x ∈ L → x.2.length = e.2.length + 1) → stm n L ≤ 2 * 3 ^ (n - e.2.length) := fun L hL hx => by
    have hone : ∀ x, x ∈ L → 3 ^ (n - x.2.length + 1) = 3 ^ (n - e.2.length) := fun x hm => by rw [hx x hm, show n - (e.2.length + 1) + 1 = n - e.2.length by omega]
    unfold stm
    match L, hL, hone with
    | [], _, _ => exact Nat.zero_le _
    | [a], _, ho =>
      show 3 ^ _ + 0 ≤ _
      rw [ho a (by simp)]; omega
    | [a, b], _, ho =>
      show 3 ^ _ + (3 ^ _ + 0) ≤ _
      rw [ho a (by simp), ho b (by simp)]; omega
  have h5 := h4 (nexts t st n e).reverse (by rw [List.length_reverse]; exact nexts_length _ _ _ _) fun x hx => by
    obtain ⟨m, _, rfl⟩ := List.mem_map.mp (List.mem_reverse.mp hx)
    show (e.2 ++ [m.1]).length = _
    rw [List.length_append]; rfl
  rw [h3, Nat.pow_succ]
  have : 0 < 3 ^ (n - e.2.length) := Nat.pow_pos (by decide)
  omega
end MX
set_option maxHeartbeats 4000000
namespace MX
/-! ### the law's own functions -/
def cv1 (p m : List Int) (i : Nat) : Int := sm p.length (fun j => if j ≤ i ∧ i - j < m.length then p.getD j 0 * m.getD (i - j) 0 else 0) % 2
def cw (t : Tp) (m : List Int) : List Int := (List.range (m.length + mem t)).flatMap fun i => t.map fun p => cv1 p m i
def msgA : Nat → List (List Int)
  | 0 => [[]]
  | k + 1 => (msgA k).flatMap fun m => [m ++ [0], m ++ [1]]
theorem msgA_length : ∀ k, (msgA k).length = 2 ^ k
  | 0 => rfl
  | k + 1 => by
    show ((msgA k).flatMap _).length = _
    have : ∀ l : List (List Int), (l.flatMap fun m => [m ++ [0], m ++ [1]]).length = l.length * 2 := fun l => by
      induction l with
      | nil => rfl
      | cons a l ih => rw [List.flatMap_cons, List.length_append, ih]; show 2 + _ = (l.length + 1) * 2; omega
    rw [this, msgA_length k, Nat.pow_succ]
theorem msgA_mem : ∀ {k : Nat} {m : List Int}, m ∈ msgA k → m.length = k ∧ Bits m
  | 0, m, h => by rw [List.mem_singleton.mp h]; exact ⟨rfl, Bits.nil⟩
  | k + 1, m, h => by
    obtain ⟨x, hx, hm⟩ := List.mem_flatMap.mp h
    obtain ⟨h1, h2⟩ := msgA_mem hx
    rcases List.mem_cons.mp hm with q | q
    · rw [q, List.length_append]; exact ⟨by rw [h1]; rfl, h2.append (Bits.cons (Or.inl rfl) Bits.nil)⟩
    · rw [List.mem_singleton.mp q, List.length_append]; exact ⟨by rw [h1]; rfl, h2.append (Bits.cons (Or.inr rfl) Bits.nil)⟩
/-- the least so far and all at it -/
structure NearG {A : Type} (d : A → Int) (ms : List A) (b0 b : Int) : Prop where
  le : ∀ m, m ∈ ms → b ≤ d m
  at_ : b = b0 ∨ ∃ m, m ∈ ms ∧ d m = b
  b0 : b ≤ b0
def fil {A : Type} (d : A → Int) (ms : List A) (b : Int) : List A := ms.filter fun m => decide (d m = b)
section
variable {A : Type} {d : A → Int} {ms : List A} {b0 b : Int} {m : A}
theorem NearG.nil (d : A → Int) (b0 : Int) : NearG d [] b0 b0 := ⟨fun _ h => (by cases h), Or.inl rfl, Int.le_refl _⟩
theorem NearG.less (h : NearG d ms b0 b) (k : d m < b) : NearG d (ms ++ [m]) b0 (d m) ∧ fil d (ms ++ [m]) (d m) = [] ++ [m] := by
  refine ⟨⟨fun v hv => ?_, Or.inr ⟨m, by simp, rfl⟩, by have := h.b0; omega⟩, ?_⟩
  · rcases List.mem_append.mp hv with q | q
    · have := h.le v q; omega
    · rw [List.mem_singleton.mp q]; exact Int.le_refl _
  · unfold fil
    rw [List.filter_append, List.filter_eq_nil_iff.mpr (fun v hv => by have := h.le v hv; simp; omega), List.filter_cons, if_pos (by simp)]; rfl
theorem NearG.same (h : NearG d ms b0 b) (k : d m = b) : NearG d (ms ++ [m]) b0 b ∧ fil d (ms ++ [m]) b = fil d ms b ++ [m] := by
  refine ⟨⟨fun v hv => ?_, Or.inr ⟨m, by simp, k⟩, h.b0⟩, ?_⟩
  · rcases List.mem_append.mp hv with q | q
    · exact h.le v q
    · rw [List.mem_singleton.mp q, k]; exact Int.le_refl _
  · unfold fil
    rw [List.filter_append, List.filter_cons, if_pos (by simp [k])]; rfl
theorem NearG.more (h : NearG d ms b0 b) (k : b < d m) : NearG d (ms ++ [m]) b0 b ∧ fil d (ms ++ [m]) b = fil d ms b := by
  refine ⟨⟨fun v hv => ?_, ?_, h.b0⟩, ?_⟩
  · rcases List.mem_append.mp hv with q | q
    · exact h.le v q
    · rw [List.mem_singleton.mp q]; omega
  · rcases h.at_ with q | ⟨v, q, e⟩
    · exact Or.inl q
    · exact Or.inr ⟨v, List.mem_append_left _ q, e⟩
  · unfold fil
    rw [List.filter_append, List.filter_cons, if_neg (by simp; omega), List.filter_nil, List.append_nil]
end
/-- numbers drawn from the script -/
def Nums (n : Nat) (l : List Int) : Prop := l.length = n ∧ ∀ x, x ∈ l → 0 ≤ x ∧ x < 1009
theorem pow_list {m : Nat} (h : m ≤ 5) : ([1, 2, 4, 8, 16, 32] : List Int).getD m 0 = 2 ^ m := by
  have : m = 0 ∨ m = 1 ∨ m = 2 ∨ m = 3 ∨ m = 4 ∨ m = 5 := by omega
  rcases this with q | q | q | q | q | q <;> subst q <;> rfl
theorem dig_div {f d : Nat} : ((f : Int) / 2 ^ d) % 2 = dig f d := by
  unfold dig
  rw [Int.natCast_emod, Int.natCast_ediv, Int.natCast_pow]; rfl
end MX
set_option maxHeartbeats 4000000
namespace MX
/-! ### digits of states -/
theorem dig_mod {f k d : Nat} (h : d < k) : dig (f % 2 ^ k) d = dig f d := by
  unfold dig
  have e : 2 ^ k = 2 ^ d * 2 ^ (k - d) := by rw [← Nat.pow_add]; congr 1; omega
  rw [e, Nat.mod_mul_right_div_self, Nat.mod_mod_of_dvd]
  exact Nat.pow_dvd_pow 2 (show 1 ≤ k - d by omega)
theorem dig_big {s k d : Nat} (h : s < 2 ^ k) (hd : k ≤ d) : dig s d = 0 := by
  unfold dig
  rw [Nat.div_eq_of_lt (Nat.lt_of_lt_of_le h (Nat.pow_le_pow_right (by decide) hd))]; rfl
theorem dig_all0 : ∀ {k s : Nat}, s < 2 ^ k → (∀ d, d < k → dig s d = 0) → s = 0
  | 0, s, h, _ => by simpa using h
  | k + 1, s, h, z => by
    have h0 := z 0 (Nat.zero_lt_succ k)
    have h1 : s / 2 = 0 := dig_all0 (k := k) (by rw [Nat.pow_succ] at h; omega) fun d hd => by
      have := z (d + 1) (by omega)
      unfold dig at this ⊢
      rw [Nat.pow_succ', ← Nat.div_div_eq_div_mul] at this
      exact this
    unfold dig at h0
    rw [Nat.pow_zero, Nat.div_one] at h0
    omega
theorem run_dig {k : Nat} : ∀ {a : List Int} {s d : Nat}, Bits a → d < k → dig (run k s a) d = if d < a.length then a.getD (a.length - 1 - d) 0 else dig s (d - a.length)
  | [], s, d, _, hd => by rw [if_neg (by simp)]; rfl
  | b :: a, s, d, hb, hd => by
    have hb0 : Bit b := hb b List.mem_cons_self
    show dig (run k (nx k s b) a) d = _
    rw [run_dig (fun x hx => hb x (List.mem_cons_of_mem _ hx)) hd]
    by_cases h1 : d < a.length
    · rw [if_pos h1, if_pos (by rw [List.length_cons]; omega), List.length_cons, show a.length + 1 - 1 - d = (a.length - 1 - d) + 1 by omega]; rfl
    · rw [if_neg h1]
      unfold nx
      rw [dig_mod (by omega)]
      by_cases h2 : d = a.length
      · rw [if_pos (by rw [List.length_cons]; omega), h2, Nat.sub_self, fed_dig0 hb0, List.length_cons, show a.length + 1 - 1 - a.length = 0 by omega]; rfl
      · rw [if_neg (by rw [List.length_cons]; omega), show d - a.length = (d - (b :: a).length) + 1 by rw [List.length_cons]; omega, fed_dig hb0]
theorem wd_flat (t : Tp) : ∀ (a : List Int) (s : Nat), wd t s a = (List.range a.length).flatMap fun i => ou t (run (mem t) s (a.take i)) (a.getD i 0)
  | [], _ => rfl
  | b :: a, s => by
    show ou t s b ++ wd t (nx (mem t) s b) a = _
    rw [List.length_cons, List.range_succ_eq_map, List.flatMap_cons, List.flatMap_map, wd_flat t a]
    rfl
theorem fm_getD (t : Tp) (m : List Int) (i : Nat) : (fm t m).getD i 0 = if i < m.length then m.getD i 0 else 0 := by
  unfold fm
  rw [List.getD_eq_getElem?_getD]
  by_cases h : i < m.length
  · rw [if_pos h, List.getElem?_append_left h, List.getD_eq_getElem?_getD]
  · rw [if_neg h, List.getElem?_append_right (by omega), List.getElem?_replicate]
    split <;> rfl
theorem fm_bits {t : Tp} {m : List Int} (h : Bits m) : Bits (fm t m) := h.append (Bits.zeros _)
theorem fm_length (t : Tp) (m : List Int) : (fm t m).length = m.length + mem t := by unfold fm; rw [List.length_append, List.length_replicate]
theorem flat_congr {A C : Type} {f g : A → List C} : ∀ {l : List A}, (∀ x, x ∈ l → f x = g x) → l.flatMap f = l.flatMap g
  | [], _ => rfl
  | a :: l, h => by
    rw [List.flatMap_cons, List.flatMap_cons, h a List.mem_cons_self, flat_congr fun x hx => h x (List.mem_cons_of_mem _ hx)]
theorem word_cw {t : Tp} (g : GT t) {m : List Int} (hm : Bits m) : word t m = cw t m := by
  unfold word cw
  rw [wd_flat, fm_length]
  refine flat_congr fun i hi => ?_
  have hi := List.mem_range.mp hi
  unfold ou
  refine List.map_congr_left fun p hp => ?_
  have hpl := g.len p hp
  have hb : Bits (fm t m) := fm_bits hm
  unfold ou1 cv1
  refine congrArg (· % 2) (sm_congr fun j hj => ?_)
  rw [hpl] at hj
  have hd : dig (fed (run (mem t) 0 ((fm t m).take i)) ((fm t m).getD i 0)) j = if j ≤ i then (fm t m).getD (i - j) 0 else 0 := by
    cases j with
    | zero => rw [fed_dig0 (hb.getD i), if_pos (Nat.zero_le _), Nat.sub_zero]
    | succ j =>
      rw [fed_dig (hb.getD i), run_dig (hb.take i) (by omega)]
      have hl : ((fm t m).take i).length = i := by rw [List.length_take, fm_length]; omega
      rw [hl]
      by_cases h : j < i
      · rw [if_pos h, if_pos (by omega), List.getD_eq_getElem?_getD, List.getElem?_take, if_pos (by omega), List.getD_eq_getElem?_getD, show i - 1 - j = i - (j + 1) by omega]
      · rw [if_neg h, if_neg (by omega)]
        unfold dig; rw [Nat.zero_div]; rfl
  rw [hd]
  by_cases h1 : j ≤ i
  · rw [if_pos h1, fm_getD]
    by_cases h2 : i - j < m.length
    · rw [if_pos h2, if_pos ⟨h1, h2⟩]
    · rw [if_neg h2, if_neg (fun q => h2 q.2), Int.mul_zero]
  · rw [if_neg h1, if_neg (fun q => h1 q.1), Int.mul_zero]
/-! ### linear -/
theorem cv_rw (p m : List Int) (i : Nat) : cv1 p m i = sm p.length (fun j => if j ≤ i then p.getD j 0 * m.getD (i - j) 0 else 0) % 2 := by
  unfold cv1
  refine congrArg (· % 2) (sm_congr fun j _ => ?_)
  by_cases h1 : j ≤ i
  · rw [if_pos h1]
    by_cases h2 : i - j < m.length
    · rw [if_pos ⟨h1, h2⟩]
    · rw [if_neg (fun q => h2 q.2), List.getD_eq_getElem?_getD (l := m), List.getElem?_eq_none (by omega)]
      exact (Int.mul_zero _).symm
  · rw [if_neg h1, if_neg (fun q => h1 q.1)]
theorem flat_getD {A : Type} {w : Nat} (hw : 0 < w) {f : Nat → List A} {d : A} (hf : ∀ i, (f i).length = w) : ∀ {n j : Nat}, j < n * w → ((List.range n).flatMap f).getD j d = (f (j / w)).getD (j % w) d
  | 0, j, h => absurd h (by omega)
  | n + 1, j, h => by
    have hl : ((List.range n).flatMap f).length = n * w := by
      clear h
      induction n with
      | zero => simp
      | succ n ih => rw [range_flat_succ, List.length_append, ih, hf, Nat.succ_mul]
    rw [range_flat_succ, List.getD_eq_getElem?_getD]
    by_cases h1 : j < n * w
    · rw [List.getElem?_append_left (by rw [hl]; exact h1), ← List.getD_eq_getElem?_getD, flat_getD hw hf h1]
    · rw [List.getElem?_append_right (by rw [hl]; omega), hl, ← List.getD_eq_getElem?_getD]
      rw [Nat.succ_mul] at h
      have e : j = j - n * w + w * n := by rw [Nat.mul_comm w n]; omega
      have e1 : j / w = n := by
        rw [e, Nat.add_mul_div_left _ _ hw, Nat.div_eq_of_lt (by omega), Nat.zero_add]
      have e2 : j % w = j - n * w := by
        rw [e, Nat.add_mul_mod_self_left, Nat.mod_eq_of_lt (by omega)]; rw [Nat.mul_comm w n]; omega
      rw [e1, e2]
theorem cw_length (t : Tp) (m : List Int) : (cw t m).length = t.length * (m.length + mem t) := by
  unfold cw
  generalize m.length + mem t = n
  induction n with
  | zero => rfl
  | succ n ih => rw [range_flat_succ, List.length_append, ih, List.length_map, Nat.mul_succ]
theorem getD_mapT {A : Type} {l : List A} {f : A → Int} {d : A} {i : Nat} (h : i < l.length) : (l.map f).getD i 0 = f (l.getD i d) := by
  rw [List.getD_eq_getElem?_getD, List.getElem?_map, List.getElem?_eq_getElem h, List.getD_eq_getElem?_getD, List.getElem?_eq_getElem h]; rfl
theorem cw_getD {t : Tp} (g : 0 < t.length) {m : List Int} {j : Nat} (h : j < t.length * (m.length + mem t)) : (cw t m).getD j 0 = cv1 (t.getD (j % t.length) []) m (j / t.length) := by
  unfold cw
  rw [flat_getD g (fun i => List.length_map _) (by rw [Nat.mul_comm]; exact h)]
  exact getD_mapT (Nat.mod_lt _ g)
theorem cv_xor {p a b : List Int} (h : a.length = b.length) (i : Nat) : cv1 p (xorL a b) i = (cv1 p a i + cv1 p b i) % 2 := by
  rw [cv_rw, cv_rw, cv_rw, ← Int.add_emod, ← sm_add]
  refine sm_mod fun j hj => ?_
  by_cases h1 : j ≤ i
  · rw [if_pos h1, if_pos h1, if_pos h1, ← Int.mul_add]
    refine mul_mod2 _ ?_
    by_cases h2 : i - j < b.length
    · rw [getD_zip (w := b.length) h rfl h2]; omega
    · have z : ∀ l : List Int, l.length ≤ i - j → l.getD (i - j) 0 = 0 := fun l hl => by rw [List.getD_eq_getElem?_getD, List.getElem?_eq_none hl]; rfl
      rw [z _ (by rw [xorL_length h]; omega), z a (by omega), z b (by omega)]; rfl
  · rw [if_neg h1, if_neg h1, if_neg h1]; rfl
theorem cw_xor {t : Tp} (g : 0 < t.length) {a b : List Int} (h : a.length = b.length) : cw t (xorL a b) = xorL (cw t a) (cw t b) := by
  have hx : (xorL a b).length = b.length := xorL_length h
  refine ext_getD ?_ fun j hj => ?_
  · rw [xorL_length (by rw [cw_length, cw_length, h]), cw_length, cw_length, hx]
  · rw [cw_length, hx] at hj
    rw [cw_getD g (by rw [hx]; exact hj), getD_zip (w := t.length * (b.length + mem t)) (by rw [cw_length, h]) (cw_length _ _) hj, cw_getD g (by rw [h]; exact hj), cw_getD g hj, cv_xor h]
theorem xor_bits (a b : List Int) : Bits (xorL a b) := fun x hx => by
  unfold xorL at hx
  obtain ⟨i, hi, rfl⟩ := List.mem_iff_getElem.mp hx
  rw [List.getElem_zipWith]
  exact bit_mod _
theorem least {P : Nat → Prop} {n : Nat} (h : P n) : ∃ k, P k ∧ ∀ i, i < k → ¬ P i := by
  induction n using Nat.strongRecOn with
  | ind n ih =>
    by_cases q : ∃ i, i < n ∧ P i
    · obtain ⟨i, hi, hp⟩ := q; exact ih i hi hp
    · exact ⟨n, h, fun i hi hp => q ⟨i, hi, hp⟩⟩
/-- a list of bits that is not all 0 has a first 1 -/
theorem lead {l : List Int} (hb : Bits l) (h : ∃ x, x ∈ l ∧ x ≠ 0) : ∃ k, k < l.length ∧ l.getD k 0 = 1 ∧ ∀ i, i < k → l.getD i 0 = 0 := by
  obtain ⟨x, hx, h0⟩ := h
  obtain ⟨n, hn, rfl⟩ := List.mem_iff_getElem.mp hx
  obtain ⟨k, hk, hl⟩ := least (P := fun k => l.getD k 0 ≠ 0) (n := n) (by rw [List.getD_eq_getElem?_getD, List.getElem?_eq_getElem hn]; exact h0)
  refine ⟨k, ?_, ?_, fun i hi => Classical.not_not.mp (hl i hi)⟩
  · refine Classical.byContradiction fun q => hk ?_
    rw [List.getD_eq_getElem?_getD, List.getElem?_eq_none (by omega)]; rfl
  · rcases hb.getD k with q | q
    · exact absurd q hk
    · exact q
theorem sum_pos_mem {A : Type} {f : A → Int} : ∀ {l : List A}, 0 < (l.map f).sum → ∃ x, x ∈ l ∧ 0 < f x
  | [], h => absurd h (by simp)
  | a :: l, h => by
    rw [List.map_cons, List.sum_cons] at h
    by_cases q : 0 < f a
    · exact ⟨a, List.mem_cons_self, q⟩
    · obtain ⟨x, hx, hf⟩ := sum_pos_mem (l := l) (f := f) (by omega)
      exact ⟨x, List.mem_cons_of_mem _ hx, hf⟩
theorem tap_one {t : Tp} (g : GT t) : ∃ q j, q < t.length ∧ j ≤ mem t ∧ (t.getD q []).getD j 0 = 1 ∧ ∀ i, i < j → (t.getD q []).getD i 0 = 0 := by
  obtain ⟨p, hp, h1⟩ := sum_pos_mem (f := List.sum) g.ones
  obtain ⟨x, hx, h2⟩ := sum_pos_mem (f := fun x => x) (l := p) (by rw [List.map_id']; exact h1)
  obtain ⟨j, hj, h3, h4⟩ := lead (g.bits p hp) ⟨x, hx, by omega⟩
  obtain ⟨q, hq, rfl⟩ := List.mem_iff_getElem.mp hp
  have e : t.getD q [] = t[q] := by rw [List.getD_eq_getElem?_getD, List.getElem?_eq_getElem hq]; rfl
  have := g.len _ hp
  exact ⟨q, j, hq, by omega, by rw [e]; exact h3, by rw [e]; exact h4⟩
theorem getD_lt {A : Type} {l : List A} {d : A} {i : Nat} (h : i < l.length) : l.getD i d = l[i] := by rw [List.getD_eq_getElem?_getD, List.getElem?_eq_getElem h]; rfl
/-- a message that is not all 0 has a word that is not all 0 -/
theorem cw_ne {t : Tp} (g : GT t) {m : List Int} (hb : Bits m) (h : ∃ x, x ∈ m ∧ x ≠ 0) : ∃ j, j < t.length * (m.length + mem t) ∧ (cw t m).getD j 0 = 1 := by
  obtain ⟨k, hk, k1, k2⟩ := lead hb h
  obtain ⟨q, j, hq, hj, j1, j2⟩ := tap_one g
  have hw : 0 < t.length := by omega
  have hlt : (k + j) * t.length + q < t.length * (m.length + mem t) := by
    have := Nat.mul_le_mul_left t.length (show k + j + 1 ≤ m.length + mem t by omega)
    rw [Nat.mul_succ, Nat.mul_comm] at this
    omega
  refine ⟨(k + j) * t.length + q, hlt, ?_⟩
  rw [cw_getD hw hlt]
  have e1 : ((k + j) * t.length + q) % t.length = q := by rw [Nat.mul_comm, Nat.mul_add_mod, Nat.mod_eq_of_lt hq]
  have e2 : ((k + j) * t.length + q) / t.length = k + j := by rw [Nat.mul_comm, Nat.mul_add_div hw, Nat.div_eq_of_lt hq, Nat.add_zero]
  rw [e1, e2, cv_rw]
  have hpl : (t.getD q []).length = mem t + 1 := g.len _ (getD_mem hq)
  have : sm (t.getD q []).length (fun i => if i ≤ k + j then (t.getD q []).getD i 0 * m.getD (k + j - i) 0 else 0) = sm (t.getD q []).length (fun i => if i = j then 1 else 0) := by
    refine sm_congr fun i hi => ?_
    by_cases a : i = j
    · subst a
      rw [if_pos (by omega), if_pos rfl, j1, show k + i - i = k by omega, k1]; rfl
    · rw [if_neg a]
      by_cases b : i < j
      · rw [j2 i b, Int.zero_mul]; split <;> rfl
      · by_cases c : i ≤ k + j
        · rw [if_pos c, k2 _ (by omega), Int.mul_zero]
        · rw [if_neg c]
  rw [this, sm_one, if_pos (by rw [hpl]; omega)]; rfl
theorem xor_ne {a b : List Int} (ha : Bits a) (hb : Bits b) (h : a.length = b.length) (n : a ≠ b) : ∃ x, x ∈ xorL a b ∧ x ≠ 0 := by
  refine Classical.byContradiction fun q => n (ext_getD h fun j hj => ?_)
  have hx : (xorL a b).length = b.length := xorL_length h
  have : (xorL a b).getD j 0 = 0 := Classical.byContradiction fun z => q ⟨_, getD_mem (by rw [hx, ← h]; exact hj), z⟩
  rw [getD_zip (w := b.length) h rfl (by omega)] at this
  have h1 := ha.getD j
  have h2 := hb.getD j
  rcases h1 with e | e <;> rcases h2 with e' | e' <;> rw [e, e'] at this ⊢ <;> first | rfl | cases this
theorem word_inj {t : Tp} (g : GT t) {a b : List Int} (ha : Bits a) (hb : Bits b) (h : a.length = b.length) (e : word t a = word t b) : a = b := by
  refine Classical.byContradiction fun n => ?_
  have hw : 0 < t.length := g.lo
  obtain ⟨j, h1, h2⟩ := cw_ne g (xor_bits a b) (xor_ne ha hb h n)
  rw [xorL_length h] at h1
  rw [cw_xor hw h, ← word_cw g ha, ← word_cw g hb, e, getD_zip (w := t.length * (b.length + mem t)) (word_length _ _) (word_length _ _) h1] at h2
  omega
/-- the distance of two words is the weight of a word -/
theorem dst_xor : ∀ {a b : List Int}, Bits a → Bits b → a.length = b.length → dst a (b.map some) = (xorL a b).sum
  | [], [], _, _, _ => rfl
  | x :: a, y :: b, ha, hb, h => by
    show er1 x (some y) + dst a (b.map some) = ((x + y) % 2 :: xorL a b).sum
    rw [List.sum_cons, dst_xor (fun z hz => ha z (List.mem_cons_of_mem _ hz)) (fun z hz => hb z (List.mem_cons_of_mem _ hz)) (Nat.succ.inj h)]
    have e : er1 x (some y) = (x + y) % 2 := by
      rcases ha x List.mem_cons_self with q | q <;> rcases hb y List.mem_cons_self with q' | q' <;> rw [q, q'] <;> decide
    rw [e]
theorem word_dst {t : Tp} (g : GT t) {a b : List Int} (ha : Bits a) (hb : Bits b) (h : a.length = b.length) : dst (word t a) ((word t b).map some) = (word t (xorL a b)).sum := by
  rw [dst_xor (word_bits _ _) (word_bits _ _) (by rw [word_length, word_length, h]), word_cw g ha, word_cw g hb, word_cw g (xor_bits a b), cw_xor g.lo h]
/-! ### the code of the words -/
theorem unitv_getD {n k : Nat} (hk : k < n) (i : Nat) : (unitv n k).getD i 0 = if i = k then 1 else 0 := by
  unfold unitv
  rw [List.append_assoc, List.getD_eq_getElem?_getD]
  by_cases h1 : i < k
  · rw [List.getElem?_append_left (by rw [List.length_replicate]; exact h1), List.getElem?_replicate, if_pos h1, if_neg (by omega)]; rfl
  · rw [List.getElem?_append_right (by rw [List.length_replicate]; omega), List.length_replicate]
    by_cases h2 : i = k
    · rw [h2, Nat.sub_self, if_pos rfl]; rfl
    · rw [if_neg h2, show i - k = (i - k - 1) + 1 by omega]
      show ((List.replicate (n - k - 1) (0 : Int))[i - k - 1]?).getD 0 = 0
      rw [List.getElem?_replicate]; split <;> rfl
theorem sm_swap2 (f : Nat → Nat → Int) : ∀ (n m : Nat), sm n (fun i => sm m (fun j => f i j)) = sm m (fun j => sm n (fun i => f i j))
  | 0, m => (sm_zero m).symm
  | n + 1, m => by
    show sm n _ + sm m _ = sm m (fun j => sm n _ + f n j)
    rw [sm_add, sm_swap2 f n m]
theorem cv_units {p m : List Int} (i : Nat) : cv1 p m i = sm m.length (fun k => m.getD k 0 * cv1 p (unitv m.length k) i) % 2 := by
  have e : sm m.length (fun k => m.getD k 0 * cv1 p (unitv m.length k) i) % 2 = sm m.length (fun k => m.getD k 0 * sm p.length (fun j => if j ≤ i then p.getD j 0 * (unitv m.length k).getD (i - j) 0 else 0)) % 2 := by
    refine sm_mod fun k _ => ?_
    rw [cv_rw]
    exact mul_mod2 _ (by omega)
  rw [e, cv_rw]
  congr 1
  have e2 : sm m.length (fun k => m.getD k 0 * sm p.length (fun j => if j ≤ i then p.getD j 0 * (unitv m.length k).getD (i - j) 0 else 0)) = sm m.length (fun k => sm p.length (fun j => m.getD k 0 * (if j ≤ i then p.getD j 0 * (unitv m.length k).getD (i - j) 0 else 0))) := sm_congr fun k _ => (sm_mul _ _ _).symm
  rw [e2, sm_swap2]
  refine sm_congr fun j _ => ?_
  by_cases h1 : j ≤ i
  · rw [if_pos h1]
    have e3 : sm m.length (fun k => m.getD k 0 * (if j ≤ i then p.getD j 0 * (unitv m.length k).getD (i - j) 0 else 0)) = sm m.length (fun k => if k = i - j then p.getD j 0 * m.getD (i - j) 0 else 0) := by
      refine sm_congr fun k hk => ?_
      rw [if_pos h1, unitv_getD hk]
      by_cases h2 : k = i - j
      · rw [if_pos h2.symm, if_pos h2, h2, Int.mul_one, Int.mul_comm]
      · rw [if_neg (Ne.symm h2), if_neg h2, Int.mul_zero, Int.mul_zero]
    rw [e3, sm_one]
    by_cases h3 : i - j < m.length
    · rw [if_pos h3]
    · rw [if_neg h3, List.getD_eq_getElem?_getD (l := m), List.getElem?_eq_none (by omega)]; exact Int.mul_zero _
  · rw [if_neg h1]
    have e3 : sm m.length (fun k => m.getD k 0 * (if j ≤ i then p.getD j 0 * (unitv m.length k).getD (i - j) 0 else 0)) = sm m.length (fun _ => 0) := sm_congr fun k _ => by rw [if_neg h1, Int.mul_zero]
    rw [e3, sm_zero]
theorem word_span {t : Tp} (g : GT t) {m : List Int} (hm : Bits m) : SpanC (t.length * (m.length + mem t)) ((List.range m.length).map fun k => word t (unitv m.length k)) (word t m) := by
  refine ⟨word_length _ _, fun k => m.getD k 0, fun j hj => ?_⟩
  rw [List.length_map, List.length_range, word_cw g hm, cw_getD g.lo hj, cv_units]
  refine congrArg (· % 2) (sm_congr fun k hk => ?_)
  unfold at2
  rw [getD_mapR hk, word_cw g (unitv_bits _ _), cw_getD g.lo (by rw [unitv_length hk]; exact hj)]
end MX
set_option maxHeartbeats 4000000
namespace MX
/-! ### all messages; what a path costs -/
def msgC : Nat → List (List Int)
  | 0 => [[]]
  | k + 1 => (msgC k).map (0 :: ·) ++ (msgC k).map (1 :: ·)
theorem flat_map_cons (b : Int) : ∀ l : List (List Int), (l.flatMap fun m => [m ++ [0], m ++ [1]]).map (b :: ·) = (l.map (b :: ·)).flatMap fun m => [m ++ [0], m ++ [1]]
  | [] => rfl
  | a :: l => by
    rw [List.flatMap_cons, List.map_append, flat_map_cons b l]; rfl
theorem msgC_snoc : ∀ k, msgC (k + 1) = (msgC k).flatMap fun m => [m ++ [0], m ++ [1]]
  | 0 => rfl
  | k + 1 => by
    show (msgC (k + 1)).map (0 :: ·) ++ (msgC (k + 1)).map (1 :: ·) = _
    rw [msgC_snoc k, flat_map_cons, flat_map_cons, ← List.flatMap_append, ← msgC_snoc k]; rfl
theorem msgA_C : ∀ k, msgA k = msgC k
  | 0 => rfl
  | k + 1 => by
    show (msgA k).flatMap _ = _
    rw [msgA_C k, msgC_snoc]
theorem msgC_mem {k : Nat} {m : List Int} (h : m ∈ msgC k) : m.length = k ∧ Bits m := msgA_mem (by rw [msgA_C]; exact h)
theorem msgC_all : ∀ {m : List Int}, Bits m → m ∈ msgC m.length
  | [], _ => List.mem_singleton.mpr rfl
  | x :: m, h => by
    have ih := msgC_all (m := m) fun y hy => h y (List.mem_cons_of_mem _ hy)
    refine List.mem_append.mpr ?_
    rcases h x List.mem_cons_self with q | q
    · exact Or.inl (List.mem_map.mpr ⟨m, ih, by rw [q]⟩)
    · exact Or.inr (List.mem_map.mpr ⟨m, ih, by rw [q]⟩)
theorem msgC_length (k : Nat) : (msgC k).length = 2 ^ k := by rw [← msgA_C, msgA_length]
theorem nodup_map {A C : Type} {f : A → C} : ∀ {l : List A}, l.Nodup → (∀ x y, x ∈ l → y ∈ l → f x = f y → x = y) → (l.map f).Nodup
  | [], _, _ => List.nodup_nil
  | a :: l, h, k => by
    have h := List.nodup_cons.mp h
    rw [List.map_cons]
    refine List.nodup_cons.mpr ⟨fun q => ?_, nodup_map h.2 fun x y hx hy => k x y (List.mem_cons_of_mem _ hx) (List.mem_cons_of_mem _ hy)⟩
    obtain ⟨x, hx, e⟩ := List.mem_map.mp q
    have := k x a (List.mem_cons_of_mem _ hx) List.mem_cons_self e
    rw [this] at hx
    exact h.1 hx
theorem msgC_nodup : ∀ k, (msgC k).Nodup
  | 0 => List.nodup_cons.mpr ⟨List.not_mem_nil, List.nodup_nil⟩
  | k + 1 => by
    show ((msgC k).map (0 :: ·) ++ (msgC k).map (1 :: ·)).Nodup
    refine List.nodup_append.mpr ⟨nodup_map (msgC_nodup k) fun x y _ _ e => (List.cons.inj e).2, nodup_map (msgC_nodup k) fun x y _ _ e => (List.cons.inj e).2, fun a ha b hb e => ?_⟩
    obtain ⟨x, _, rfl⟩ := List.mem_map.mp ha
    obtain ⟨y, _, rfl⟩ := List.mem_map.mp hb
    have := (List.cons.inj e).1
    cases this
def pc (t : Tp) : Nat → List Int → List Rc → Int
  | s, b :: a, r :: rs => dst (ou t s b) r + pc t (nx (mem t) s b) a rs
  | _, _, _ => 0
def zs (n : Nat) : List Int := List.replicate n 0
theorem zs_succ (n : Nat) : zs (n + 1) = 0 :: zs n := rfl
theorem ctg_z (t : Tp) : ∀ (st : List Rc) (s : Nat), ctg t 0 st s = pc t s (zs st.length) st
  | [], _ => rfl
  | r :: rs, s => by
    rw [ctg_cons, if_pos rfl, List.length_cons, zs_succ]
    show _ = dst (ou t s 0) r + pc t (nx (mem t) s 0) (zs rs.length) rs
    rw [← ctg_z t rs]
theorem ctg_all (t : Tp) : ∀ (st : List Rc) (f s : Nat), f ≤ st.length → ∀ a, a ∈ msgC f → ctg t f st s ≤ pc t s (a ++ zs (st.length - f)) st
  | st, 0, s, _, a, ha => by
    rw [List.mem_singleton.mp ha, ctg_z, Nat.sub_zero]; exact Int.le_refl _
  | [], f + 1, _, h, _, _ => absurd h (Nat.not_succ_le_zero _)
  | r :: rs, f + 1, s, h, a, ha => by
    have h : f ≤ rs.length := Nat.le_of_succ_le_succ h
    rw [ctg_cons, if_neg (Nat.succ_ne_zero f), Nat.add_sub_cancel, List.length_cons, Nat.add_sub_add_right]
    rcases List.mem_append.mp ha with q | q
    · obtain ⟨x, hx, rfl⟩ := List.mem_map.mp q
      have := ctg_all t rs f (nx (mem t) s 0) h x hx
      show _ ≤ dst (ou t s 0) r + pc t (nx (mem t) s 0) (x ++ zs (rs.length - f)) rs
      omega
    · obtain ⟨x, hx, rfl⟩ := List.mem_map.mp q
      have := ctg_all t rs f (nx (mem t) s 1) h x hx
      show _ ≤ dst (ou t s 1) r + pc t (nx (mem t) s 1) (x ++ zs (rs.length - f)) rs
      omega
theorem flat_filter {A C : Type} {p : A → Bool} {g : A → List C} : ∀ l : List A, (l.filter p).flatMap g = l.flatMap fun x => if p x = true then g x else []
  | [] => rfl
  | a :: l => by
    rw [List.filter_cons, List.flatMap_cons]
    by_cases h : p a = true
    · rw [if_pos h, if_pos h, List.flatMap_cons, flat_filter l]
    · rw [if_neg h, if_neg h, flat_filter l]; rfl
theorem bst_s (t : Tp) (f : Nat) (r : Rc) (rs : List Rc) (s : Nat) : bst t (f + 1) (r :: rs) s = (bm1 t (f + 1) r rs s).flatMap fun m => (bst t f rs m.2.2.toNat).map (m.1 :: ·) := bst_succ (Nat.succ_pos f)
theorem gr_s (t : Tp) (f : Nat) (r : Rc) (rs : List Rc) (s : Nat) : gr t (f + 1) (r :: rs) s = ((bm1 t (f + 1) r rs s).getD 0 (mv t r s 0)).1 :: gr t f rs ((bm1 t (f + 1) r rs s).getD 0 (mv t r s 0)).2.2.toNat := gr_succ (Nat.succ_pos f)
theorem bst_fil (t : Tp) : ∀ (st : List Rc) (f s : Nat), f ≤ st.length → bst t f st s = (msgC f).filter fun a => decide (pc t s (a ++ zs (st.length - f)) st = ctg t f st s)
  | st, 0, s, _ => by
    rw [bst_zero]
    show _ = List.filter _ [[]]
    rw [List.filter_cons, if_pos]
    · rfl
    · rw [decide_eq_true_eq, ctg_z, Nat.sub_zero]; rfl
  | [], f + 1, _, h => absurd h (Nat.not_succ_le_zero _)
  | r :: rs, f + 1, s, h => by
    have h : f ≤ rs.length := Nat.le_of_succ_le_succ h
    rw [bst_s, List.length_cons, Nat.add_sub_add_right]
    have hv : mv1 t (f + 1) r s = [mv t r s 0, mv t r s 1] := by unfold mv1; rw [if_pos (Nat.succ_pos f)]
    have one : ∀ b : Int, Bit b → (if decide (mval t (f + 1) rs (mv t r s b) = ctg t (f + 1) (r :: rs) s) = true then (bst t f rs (mv t r s b).2.2.toNat).map ((mv t r s b).1 :: ·) else []) = ((msgC f).map (b :: ·)).filter fun a => decide (pc t s (a ++ zs (rs.length - f)) (r :: rs) = ctg t (f + 1) (r :: rs) s) := fun b hb => by
      have hle : ctg t (f + 1) (r :: rs) s ≤ mval t (f + 1) rs (mv t r s b) := ctg_le (by
        rw [hv]
        rcases hb with q | q <;> rw [q] <;> simp)
      rw [mval_mv, Nat.add_sub_cancel] at hle ⊢
      rw [List.filter_map]
      have e1 : ((mv t r s b).2.2.toNat) = nx (mem t) s b := Int.toNat_natCast _
      rw [e1, bst_fil t rs f _ h]
      by_cases q : dst (ou t s b) r + ctg t f rs (nx (mem t) s b) = ctg t (f + 1) (r :: rs) s
      · rw [if_pos (decide_eq_true q)]
        refine congrArg (List.map (b :: ·)) (List.filter_congr fun x hx => ?_)
        show decide (pc t (nx (mem t) s b) (x ++ zs (rs.length - f)) rs = _) = decide (dst (ou t s b) r + pc t (nx (mem t) s b) (x ++ zs (rs.length - f)) rs = _)
        rw [← q]
        by_cases z : pc t (nx (mem t) s b) (x ++ zs (rs.length - f)) rs = ctg t f rs (nx (mem t) s b)
        · rw [decide_eq_true z, decide_eq_true (by omega)]
        · rw [decide_eq_false z, decide_eq_false (by omega)]
      · rw [if_neg (by simpa using q), List.filter_eq_nil_iff.mpr]
        · rfl
        · intro x hx
          have := ctg_all t rs f (nx (mem t) s b) h x hx
          show ¬ decide (dst (ou t s b) r + pc t (nx (mem t) s b) (x ++ zs (rs.length - f)) rs = _) = true
          rw [decide_eq_true_eq]
          omega
    unfold bm1
    rw [flat_filter, hv, List.flatMap_cons, List.flatMap_cons, List.flatMap_nil, List.append_nil, one 0 (Or.inl rfl), one 1 (Or.inr rfl), ← List.filter_append]
    rfl
theorem bst_ne (t : Tp) : ∀ (st : List Rc) (f s : Nat), 0 < (bst t f st s).length
  | [], _, _ => Nat.zero_lt_one
  | r :: rs, 0, _ => Nat.zero_lt_one
  | r :: rs, f + 1, s => by
    rw [bst_s]
    have := bm1_ne t (f + 1) r rs s
    cases e : bm1 t (f + 1) r rs s with
    | nil => rw [e] at this; cases this
    | cons m l =>
      rw [List.flatMap_cons, List.length_append, List.length_map]
      have := bst_ne t rs f m.2.2.toNat
      omega
theorem ctg_hit (t : Tp) (st : List Rc) (f s : Nat) (h : f ≤ st.length) : ∃ a, a ∈ msgC f ∧ pc t s (a ++ zs (st.length - f)) st = ctg t f st s := by
  have := bst_ne t st f s
  rw [bst_fil t st f s h] at this
  obtain ⟨a, ha⟩ := List.exists_mem_of_length_pos this
  have := List.mem_filter.mp ha
  exact ⟨a, this.1, by simpa using this.2⟩
theorem headD_flat {A C : Type} {l : List A} {g : A → List C} (d : A) (c : C) (h : 0 < l.length) (k : ∀ x, 0 < (g x).length) : (l.flatMap g).headD c = (g (l.getD 0 d)).headD c := by
  cases l with
  | nil => cases h
  | cons a l =>
    rw [List.flatMap_cons]
    show (g a ++ _).headD c = (g a).headD c
    cases e : g a with
    | nil => have := k a; rw [e] at this; cases this
    | cons x y => rfl
theorem gr_bst (t : Tp) : ∀ (st : List Rc) (f s : Nat), gr t f st s = (bst t f st s).headD []
  | [], _, _ => rfl
  | r :: rs, 0, _ => rfl
  | r :: rs, f + 1, s => by
    rw [gr_s, bst_s, headD_flat (mv t r s 0) [] (bm1_ne _ _ _ _ _) (fun m => by rw [List.length_map]; exact bst_ne _ _ _ _), gr_bst t rs]
    have := bst_ne t rs f ((bm1 t (f + 1) r rs s).getD 0 (mv t r s 0)).2.2.toNat
    cases e : bst t f rs ((bm1 t (f + 1) r rs s).getD 0 (mv t r s 0)).2.2.toNat with
    | nil => rw [e] at this; cases this
    | cons x y => rfl
theorem cnt_zero (t : Tp) : ∀ (st : List Rc) (s : Nat), cnt t 0 st s = 1
  | [], _ => rfl
  | r :: rs, s => by
    have h := bm1_ne t 0 r rs s
    have h2 : (bm1 t 0 r rs s).length ≤ 1 := by
      unfold bm1 mv1
      exact Nat.le_trans (List.length_filter_le _ _) (by rw [if_neg (Nat.lt_irrefl 0)]; exact Nat.le_refl 1)
    show ((bm1 t 0 r rs s).map fun m => cnt t (0 - 1) rs m.2.2.toNat).sum = 1
    match e : bm1 t 0 r rs s with
    | [] => rw [e] at h; cases h
    | [m] =>
      show cnt t 0 rs m.2.2.toNat + 0 = 1
      rw [cnt_zero t rs]; rfl
    | _ :: _ :: _ => rw [e] at h2; simp at h2
theorem cnt_bst (t : Tp) : ∀ (st : List Rc) (f s : Nat), cnt t f st s = ((bst t f st s).length : Int)
  | [], _, _ => rfl
  | r :: rs, 0, s => by rw [cnt_zero, bst_zero]; rfl
  | r :: rs, f + 1, s => by
    rw [bst_s]
    show ((bm1 t (f + 1) r rs s).map fun m => cnt t f rs m.2.2.toNat).sum = _
    generalize bm1 t (f + 1) r rs s = l
    induction l with
    | nil => rfl
    | cons m l ih =>
      rw [List.map_cons, List.sum_cons, ih, List.flatMap_cons, List.length_append, List.length_map, cnt_bst t rs]; omega
/-! ### paths and words -/
theorem chs_nil {w : Nat} {r : Rc} (h : r.length < w) : chs w r = [] := by
  unfold chs; rw [Nat.div_eq_of_lt h]; rfl
theorem chs_cons {w : Nat} {r : Rc} (hw : 0 < w) (h : w ≤ r.length) : chs w r = r.take w :: chs w (r.drop w) := by
  unfold chs
  rw [List.length_drop]
  have e : r.length / w = (r.length - w) / w + 1 := by rw [Nat.div_eq_sub_div hw h]
  rw [e, List.range_succ_eq_map, List.map_cons, List.map_map, Nat.zero_mul, List.drop_zero]
  refine congrArg (r.take w :: ·) (List.map_congr_left fun k _ => ?_)
  show (r.drop ((k + 1) * w)).take w = ((r.drop w).drop (k * w)).take w
  rw [List.drop_drop, Nat.succ_mul, Nat.add_comm]
theorem pc_dst (t : Tp) (hw : 0 < t.length) : ∀ (a : List Int) (s : Nat) (r : Rc), r.length = t.length * a.length → pc t s a (chs t.length r) = dst (wd t s a) r
  | [], s, r, h => by
    have : r = [] := List.eq_nil_of_length_eq_zero (by simpa using h)
    subst this
    unfold pc; rfl
  | b :: a, s, r, h => by
    rw [List.length_cons, Nat.mul_succ] at h
    rw [chs_cons hw (by omega)]
    show dst (ou t s b) (r.take t.length) + pc t (nx (mem t) s b) a (chs t.length (r.drop t.length)) = dst (ou t s b ++ wd t (nx (mem t) s b) a) r
    rw [pc_dst t hw a _ _ (by rw [List.length_drop]; omega)]
    conv => rhs; rw [← List.take_append_drop t.length r]
    rw [dst_append (by rw [ou_length, List.length_take]; omega)]
theorem pc_word {t : Tp} (hw : 0 < t.length) {m : List Int} {r : Rc} (h : r.length = t.length * (m.length + mem t)) : pc t 0 (m ++ zs (mem t)) (chs t.length r) = dst (word t m) r := by
  unfold word
  exact pc_dst t hw _ _ _ (by rw [h]; unfold zs; rw [List.length_append, List.length_replicate])
/-- a received word for messages of n bits -/
structure Rv (t : Tp) (n : Nat) (r : Rc) : Prop where
  g : GT t
  len : r.length = t.length * (n + mem t)
  ob : OBits r
  le : r.length ≤ 10000
theorem Rv.wt {t : Tp} {n : Nat} {r : Rc} (h : Rv t n r) : WT t r := by
  have hw : 0 < t.length := h.g.lo
  exact ⟨h.g, by rw [h.len, Nat.mul_mod_right], by rw [h.len, Nat.mul_div_cancel_left _ hw]; omega, h.ob, h.le⟩
theorem Rv.ml {t : Tp} {n : Nat} {r : Rc} (h : Rv t n r) : ml t r = n := by
  have hw : 0 < t.length := h.g.lo
  unfold MX.ml
  rw [h.len, Nat.mul_div_cancel_left _ hw]; omega
theorem Rv.sl {t : Tp} {n : Nat} {r : Rc} (h : Rv t n r) : (chs t.length r).length = n + mem t := by
  have hw : 0 < t.length := h.g.lo
  rw [chs_length, h.len, Nat.mul_div_cancel_left _ hw]
section
variable {t : Tp} {n : Nat} {r : Rc}
/-- the cost to go: the least distance -/
abbrev lst (t : Tp) (n : Nat) (r : Rc) : Int := ctg t n (chs t.length r) 0
abbrev fnd (t : Tp) (n : Nat) (r : Rc) : List (List Int) := (msgA n).filter fun m => decide (dst (word t m) r = lst t n r)
theorem Rv.pcw (h : Rv t n r) {m : List Int} (hm : m.length = n) : pc t 0 (m ++ zs ((chs t.length r).length - n)) (chs t.length r) = dst (word t m) r := by
  rw [h.sl, show n + mem t - n = mem t by omega]
  exact pc_word h.g.lo (by rw [h.len, hm])
theorem Rv.lst_le (h : Rv t n r) {m : List Int} (hb : Bits m) (hm : m.length = n) : lst t n r ≤ dst (word t m) r := by
  rw [← h.pcw hm]
  exact ctg_all t _ n 0 (by rw [h.sl]; omega) m (hm ▸ msgC_all hb)
theorem Rv.lst_at (h : Rv t n r) : ∃ m, m ∈ msgA n ∧ dst (word t m) r = lst t n r := by
  obtain ⟨a, h1, h2⟩ := ctg_hit t (chs t.length r) n 0 (by rw [h.sl]; omega)
  rw [h.pcw (msgC_mem h1).1] at h2
  exact ⟨a, by rw [msgA_C]; exact h1, h2⟩
theorem Rv.bst (h : Rv t n r) : MX.bst t n (chs t.length r) 0 = fnd t n r := by
  rw [bst_fil t _ n 0 (by rw [h.sl]; omega)]
  unfold fnd
  rw [msgA_C]
  exact List.filter_congr fun m hm => by rw [h.pcw (msgC_mem hm).1]
theorem Rv.ne (h : Rv t n r) : 0 < (fnd t n r).length := by rw [← h.bst]; exact bst_ne _ _ _ _
theorem Rv.gr (h : Rv t n r) : MX.gr t n (chs t.length r) 0 = (fnd t n r).headD [] := by rw [gr_bst, h.bst]
theorem Rv.cnt (h : Rv t n r) : MX.cnt t n (chs t.length r) 0 = ((fnd t n r).length : Int) := by rw [cnt_bst, h.bst]
theorem Rv.nodup (h : Rv t n r) : (fnd t n r).Nodup := by
  unfold fnd
  rw [msgA_C]
  exact (msgC_nodup n).filter _
/-- what the law's own search finds is that -/
theorem Rv.near (h : Rv t n r) {b b0 : Int} (hb0 : b0 = (r.length : Int)) (k : NearG (fun m => dst (word t m) r) (msgA n) b0 b) : b = lst t n r := by
  obtain ⟨m, h1, h2⟩ := h.lst_at
  have h3 := k.le m h1
  have h4 := dst_le (word t m) r
  rcases k.at_ with q | ⟨v, hv, q⟩
  · have h3 : b ≤ dst (word t m) r := h3; omega
  · have := h.lst_le (msgA_mem hv).2 (msgA_mem hv).1
    have h3 : b ≤ dst (word t m) r := h3; have q : dst (word t v) r = b := q; omega
end
end MX
set_option maxHeartbeats 4000000
namespace MX
/-! ### rows in order -/
theorem ll_irr (a : List Int) : ¬ a < a := List.lt_irrefl a
theorem ll_trans {a b c : List Int} (h : a < b) (k : b < c) : a < c := List.lt_trans h k
theorem ll_tri : ∀ (a b : List Int), a < b ∨ a = b ∨ b < a
  | [], [] => Or.inr (Or.inl rfl)
  | [], _ :: _ => Or.inl (List.nil_lt_cons _ _)
  | _ :: _, [] => Or.inr (Or.inr (List.nil_lt_cons _ _))
  | x :: a, y :: b => by
    rw [List.cons_lt_cons_iff, List.cons_lt_cons_iff]
    rcases Int.lt_trichotomy x y with h | h | h
    · exact Or.inl (Or.inl h)
    · rcases ll_tri a b with k | k | k
      · exact Or.inl (Or.inr ⟨h, k⟩)
      · exact Or.inr (Or.inl (by rw [h, k]))
      · exact Or.inr (Or.inr (Or.inr ⟨h.symm, k⟩))
    · exact Or.inr (Or.inr (Or.inl h))
theorem le_nlt {a b : List Int} : a ≤ b ↔ ¬ b < a := Iff.rfl
theorem sortL_perm {l l' : List (List Int)} (h : l.Perm l') : sortL l = sortL l' := by
  have tr : ∀ a b c : List Int, decide (a ≤ b) = true → decide (b ≤ c) = true → decide (a ≤ c) = true := fun a b c h1 h2 => by
    rw [decide_eq_true_eq] at h1 h2 ⊢
    rw [le_nlt] at h1 h2 ⊢
    intro k
    rcases ll_tri a b with q | q | q
    · exact h2 (ll_trans k q)
    · exact h2 (q ▸ k)
    · exact h1 q
  have to : ∀ a b : List Int, (decide (a ≤ b) || decide (b ≤ a)) = true := fun a b => by
    by_cases k : b < a
    · have : b ≤ a := fun z => ll_irr _ (ll_trans k z)
      rw [decide_eq_true this, Bool.or_true]
    · have : a ≤ b := k
      rw [decide_eq_true this, Bool.true_or]
  refine List.Perm.eq_of_pairwise (le := fun p q => decide (p ≤ q) = true) (fun a b _ _ h1 h2 => ?_) (List.pairwise_mergeSort tr to _) (List.pairwise_mergeSort tr to _) (((List.mergeSort_perm _ _).trans h).trans (List.mergeSort_perm _ _).symm)
  rw [decide_eq_true_eq, le_nlt] at h1 h2
  rcases ll_tri a b with q | q | q
  · exact absurd q h2
  · exact q
  · exact absurd q h1
theorem sub_le {A : Type} [DecidableEq A] : ∀ {a b : List A}, a.Nodup → (∀ x, x ∈ a → x ∈ b) → a.length ≤ b.length
  | [], _, _, _ => Nat.zero_le _
  | x :: a, b, h, k => by
    have h := List.nodup_cons.mp h
    have := sub_le (a := a) (b := b.erase x) h.2 fun y hy => (List.mem_erase_of_ne (fun e : y = x => h.1 (e ▸ hy))).mpr (k y (List.mem_cons_of_mem _ hy))
    have hx := k x List.mem_cons_self
    rw [List.length_erase_of_mem hx] at this
    have := List.length_pos_of_mem hx
    rw [List.length_cons]; omega
theorem sub_perm {A : Type} [DecidableEq A] : ∀ {a b : List A}, a.Nodup → (∀ x, x ∈ a → x ∈ b) → b.length ≤ a.length → a.Perm b
  | [], b, _, _, h => by
    rw [List.eq_nil_of_length_eq_zero (Nat.le_zero.mp h)]
  | x :: a, b, h, k, l => by
    have h := List.nodup_cons.mp h
    have hx := k x List.mem_cons_self
    have := sub_perm (a := a) (b := b.erase x) h.2 (fun y hy => (List.mem_erase_of_ne (fun e : y = x => h.1 (e ▸ hy))).mpr (k y (List.mem_cons_of_mem _ hy))) (by
      rw [List.length_erase_of_mem hx]; rw [List.length_cons] at l; omega)
    exact (this.cons x).trans (List.perm_cons_erase hx).symm
theorem words_nodup {t : Tp} (g : GT t) (n : Nat) : ((msgA n).map (word t)).Nodup := by
  rw [msgA_C]
  exact nodup_map (msgC_nodup n) fun x y hx hy e => word_inj g (msgC_mem hx).2 (msgC_mem hy).2 (by rw [(msgC_mem hx).1, (msgC_mem hy).1]) e
abbrev urows (t : Tp) (n : Nat) : List (List Int) := (List.range n).map fun k => word t (unitv n k)
theorem code_perm {t : Tp} (g : GT t) {n w : Nat} {red : List (List Int)} (hw : w = t.length * (n + mem t)) (hm : Mat w red) (hl : red.length ≤ n) (hs : ∀ v, SpanC w (urows t n) v → SpanC w red v) : ((msgA n).map (word t)).Perm (allsums w red) := by
  refine sub_perm (words_nodup g n) (fun v hv => ?_) ?_
  · obtain ⟨m, h1, rfl⟩ := List.mem_map.mp hv
    have h2 := msgA_mem h1
    refine span_mem hm _ (hs _ ?_)
    have := word_span g h2.2
    rw [h2.1] at this
    rw [hw]; exact this
  · rw [allsums_length, List.length_map, msgA_length]
    exact Nat.pow_le_pow_right (by decide) hl
theorem Rv.code {t : Tp} {n w : Nat} {r : Rc} (h : Rv t n r) {red : List (List Int)} (hw : w = t.length * (n + mem t)) (hm : Mat w red) (hl : red.length ≤ n) (hs : ∀ v, SpanC w (urows t n) v → SpanC w red v) {b : Int} (k : NearP (allsums w red) r (w + 1) b) :
    b = lst t n r ∧ sortL ((allsums w red).filter fun v => decide (dst v r = b)) = sortL ((fnd t n r).map (word t)) := by
  have p := code_perm h.g hw hm hl hs
  have hb : b = lst t n r := by
    obtain ⟨m, h1, h2⟩ := h.lst_at
    have h3 := k.le (word t m) (p.mem_iff.mp (List.mem_map.mpr ⟨m, h1, rfl⟩))
    have h4 := dst_le (word t m) r
    have h5 : (w : Int) = (r.length : Int) := by rw [h.len, hw]
    rcases k.at_ with q | ⟨v, hv, q⟩
    · omega
    · obtain ⟨m', h6, rfl⟩ := List.mem_map.mp (p.mem_iff.mpr hv)
      have := h.lst_le (msgA_mem h6).2 (msgA_mem h6).1
      omega
  refine ⟨hb, sortL_perm ((p.symm.filter _).trans ?_)⟩
  rw [List.filter_map, hb]
  exact List.Perm.refl _
/-! ### the free distance -/
abbrev Wl := List (Option Int)
def fr1 (s : Nat) (L : Wl) (e : Int × Int) : Wl := match L.getD e.1.toNat none with
  | none => L
  | some a => match L.getD s none with
    | none => L.set s (some (e.2 + a))
    | some c => if e.2 + a < c then L.set s (some (e.2 + a)) else L
def frS (W : WTb) (L : Wl) (i : Nat) : Wl := (W.getD (i + 1) []).foldl (fr1 (i + 1)) L
def frT (W : WTb) (L : Wl) : Wl := (List.range (W.length - 1)).foldl (frS W) L
def fr0 (n : Nat) : Wl := (List.replicate n none).set 0 (some 0)
def frN (W : WTb) : Nat → Wl
  | 0 => fr0 W.length
  | k + 1 => frT W (frN W k)
theorem frN_stable {W : WTb} {k : Nat} (h : frT W (frN W k) = frN W k) : ∀ {n : Nat}, k ≤ n → frN W n = frN W k
  | 0, hn => by rw [show k = 0 by omega]
  | n + 1, hn => by
    by_cases q : k = n + 1
    · rw [q]
    · show frT W (frN W n) = _
      rw [frN_stable h (n := n) (by omega), h]
theorem fr1_length (s : Nat) (L : Wl) (e : Int × Int) : (fr1 s L e).length = L.length := by
  unfold fr1
  split
  · rfl
  · split
    · exact List.length_set
    · split
      · exact List.length_set
      · rfl
theorem frS_length (W : WTb) (L : Wl) (i : Nat) : (frS W L i).length = L.length := foldl_inv (fun M : Wl => M.length = L.length) rfl fun c x _ h => (fr1_length _ _ _).trans h
theorem frT_length (W : WTb) (L : Wl) : (frT W L).length = L.length := foldl_inv (fun M : Wl => M.length = L.length) rfl fun c x _ h => (frS_length _ _ _).trans h
theorem frN_length (W : WTb) : ∀ k, (frN W k).length = W.length
  | 0 => by show (fr0 _).length = _; unfold fr0; rw [List.length_set, List.length_replicate]
  | k + 1 => (frT_length _ _).trans (frN_length W k)
/-- the program's ranks, the weights alone -/
def pj (L : Rk) : Wl := L.map (Option.map Prod.fst)
theorem pj_getD (L : Rk) (i : Nat) : (pj L).getD i none = (L.getD i none).map Prod.fst := by
  unfold pj
  rw [List.getD_eq_getElem?_getD, List.getElem?_map, List.getD_eq_getElem?_getD]
  cases L[i]? <;> rfl
theorem pj_set (L : Rk) (i : Nat) (o : Option (Int × Int)) : pj (L.set i o) = (pj L).set i (o.map Prod.fst) := by unfold pj; rw [List.map_set]
theorem set_same {A : Type} {L : List (Option A)} {i : Nat} {x : A} (h : L.getD i none = some x) : L.set i (some x) = L := by
  refine List.ext_getElem? fun j => ?_
  by_cases e : i = j
  · subst e
    rw [List.getD_eq_getElem?_getD] at h
    cases q : L[i]? with
    | none => rw [q] at h; cases h
    | some o =>
      rw [q] at h
      rw [List.getElem?_set_self (List.getElem?_eq_some_iff.mp q).1]
      exact congrArg some (show some x = o from h.symm)
  · rw [List.getElem?_set_ne e]
theorem pj_rk1 (s : Nat) (L : Rk) (e : Int × Int) : pj (rk1 s L e) = fr1 s (pj L) e := by
  unfold rk1 fr1
  rw [pj_getD, pj_getD]
  cases h1 : L.getD e.1.toNat none with
  | none => rfl
  | some a =>
    dsimp only [Option.map_some]
    cases h2 : L.getD s none with
    | none => dsimp only [Option.map_none]; rw [pj_set]; rfl
    | some c =>
      dsimp only [Option.map_some]
      by_cases k : e.2 + a.1 < c.1
      · rw [if_pos k, if_pos (by simp [k]), pj_set]; rfl
      · rw [if_neg k]
        split
        · rename_i q
          have q : e.2 + a.1 < c.1 ∨ (e.2 + a.1 = c.1 ∧ 1 + a.2 < c.2) := by simpa using q
          have e1 : e.2 + a.1 = c.1 := by omega
          rw [pj_set]
          refine set_same ?_
          rw [pj_getD, h2]
          exact congrArg some e1.symm
        · rfl
theorem fold_hom {A C D : Type} {f : C → A → C} {g : D → A → D} {h : C → D} (k : ∀ c x, h (f c x) = g (h c) x) : ∀ (l : List A) (c : C), h (l.foldl f c) = l.foldl g (h c)
  | [], _ => rfl
  | x :: l, c => by rw [List.foldl_cons, List.foldl_cons, fold_hom k l, k]
theorem pj_rkT (W : WTb) (L : Rk) : pj (rkT W L) = frT W (pj L) := fold_hom (f := rkS W) (g := frS W) (h := pj) (fun c i => fold_hom (f := rk1 (i + 1)) (g := fr1 (i + 1)) (h := pj) (fun c e => pj_rk1 _ c e) _ c) _ L
theorem fold_const {A C : Type} (f : C → C) : ∀ (l : List A) (c : C), l.foldl (fun c _ => f c) c = (List.range l.length).foldl (fun c _ => f c) c
  | [], _ => rfl
  | x :: l, c => by
    rw [List.foldl_cons, fold_const f l, List.length_cons, List.range_succ_eq_map, List.foldl_cons, List.foldl_map]
theorem frN_fold (W : WTb) : ∀ k, frN W k = (List.range k).foldl (fun L _ => frT W L) (fr0 W.length)
  | 0 => rfl
  | k + 1 => by rw [fold_range, ← frN_fold W k]; rfl
theorem pj_rkN (W : WTb) : pj (rkN W) = frN W W.length := by
  unfold rkN
  rw [frN_fold, fold_hom (g := fun L _ => frT W L) (fun c _ => pj_rkT W c), ← fold_const]
  congr 1
  unfold rk0 fr0
  rw [pj_set]
  unfold pj
  rw [List.map_replicate]; rfl
end MX
set_option maxHeartbeats 4000000
namespace MX
/-! ### the free distance: what the search finds -/
abbrev wt (t : Tp) (s : Nat) (a : List Int) : Int := (wd t s a).sum
theorem wt_cons (t : Tp) (s : Nat) (b : Int) (a : List Int) : wt t s (b :: a) = (ou t s b).sum + wt t (nx (mem t) s b) a := List.sum_append
theorem wt_append (t : Tp) (s : Nat) (a b : List Int) : wt t s (a ++ b) = wt t s a + wt t (run (mem t) s a) b := by
  show (wd t s (a ++ b)).sum = _
  rw [wd_append, List.sum_append]
theorem bits_sum : ∀ {l : List Int}, Bits l → 0 ≤ l.sum
  | [], _ => Int.le_refl _
  | x :: l, h => by
    have := bits_sum (l := l) fun y hy => h y (List.mem_cons_of_mem _ hy)
    have := (h x List.mem_cons_self).le
    rw [List.sum_cons]; omega
theorem wt_nn (t : Tp) (s : Nat) (a : List Int) : 0 ≤ wt t s a := bits_sum (wd_bits t s a)
theorem wtb_length (t : Tp) : (wtb t).length = 2 ^ mem t := by unfold wtb; rw [List.length_map, tab_length]
theorem wtb_at {t : Tp} {s : Nat} (h : s < 2 ^ mem t) : (wtb t).getD s [] = [((nx (mem t) s 0 : Int), (ou t s 0).sum), ((nx (mem t) s 1 : Int), (ou t s 1).sum)] := by
  unfold wtb
  have hl : s < (tabOf t).length := by rw [tab_length]; exact h
  have := tab_at h
  rw [getD_lt hl] at this
  rw [List.getD_eq_getElem?_getD, List.getElem?_map, List.getElem?_eq_getElem hl, this]; rfl
def Ed (t : Tp) (s : Nat) (e : Int × Int) : Prop := ∃ b, Bit b ∧ e = ((nx (mem t) s b : Int), (ou t s b).sum)
theorem ed_of {t : Tp} {s : Nat} (h : s < 2 ^ mem t) {e : Int × Int} (he : e ∈ (wtb t).getD s []) : Ed t s e := by
  rw [wtb_at h] at he
  rcases List.mem_cons.mp he with q | q
  · exact ⟨0, Or.inl rfl, q⟩
  · exact ⟨1, Or.inr rfl, List.mem_singleton.mp q⟩
theorem getD_setW {L : Wl} {s i : Nat} {x : Option Int} : (L.set s x).getD i none = if i = s ∧ s < L.length then x else L.getD i none := by
  rw [List.getD_eq_getElem?_getD, List.getD_eq_getElem?_getD]
  by_cases e : i = s
  · subst e
    by_cases h : i < L.length
    · rw [if_pos ⟨rfl, h⟩, List.getElem?_set_self h]; rfl
    · rw [if_neg (fun q => h q.2), List.getElem?_eq_none (by rw [List.length_set]; omega), List.getElem?_eq_none (by omega)]
  · rw [if_neg (fun q => e q.1), List.getElem?_set_ne (Ne.symm e)]
/-! each value is a way's weight -/
def Snd (t : Tp) (L : Wl) : Prop := ∀ s v, s < 2 ^ mem t → L.getD s none = some v → ∃ a, Bits a ∧ run (mem t) s a = 0 ∧ wt t s a = v
theorem snd_put {t : Tp} {L : Wl} (h : Snd t L) {s : Nat} {b a : Int} (hb : Bit b) (ha : L.getD (nx (mem t) s b) none = some a) : Snd t (L.set s (some ((ou t s b).sum + a))) := fun i v hi hv => by
  rw [getD_setW] at hv
  by_cases k : i = s ∧ s < L.length
  · rw [if_pos k] at hv
    obtain ⟨c, h1, h2, h3⟩ := h _ a (nx_lt (mem t) s b) ha
    rw [k.1]
    exact ⟨b :: c, Bits.cons hb h1, h2, by rw [wt_cons, h3]; exact Option.some.inj hv⟩
  · rw [if_neg k] at hv; exact h i v hi hv
theorem snd_fr1 {t : Tp} {L : Wl} (h : Snd t L) {s : Nat} {e : Int × Int} (he : Ed t s e) : Snd t (fr1 s L e) := by
  obtain ⟨b, hb, rfl⟩ := he
  unfold fr1
  dsimp only
  rw [Int.toNat_natCast]
  cases ha : L.getD (nx (mem t) s b) none with
  | none => exact h
  | some a =>
    dsimp only
    split
    · exact snd_put h hb ha
    · split
      · exact snd_put h hb ha
      · exact h
theorem snd_frN (t : Tp) : ∀ k, Snd t (frN (wtb t) k)
  | 0 => fun s v hs hv => by
    have e : (fr0 (wtb t).length).getD s none = if s = 0 then some 0 else none := by
      unfold fr0
      rw [getD_setW]
      by_cases k : s = 0
      · rw [if_pos k, if_pos ⟨k, by rw [List.length_replicate, wtb_length]; exact Nat.two_pow_pos _⟩]
      · rw [if_neg k, if_neg (fun q => k q.1), List.getD_eq_getElem?_getD, List.getElem?_replicate]; split <;> rfl
    have hv : (fr0 (wtb t).length).getD s none = some v := hv
    rw [e] at hv
    by_cases k : s = 0
    · rw [if_pos k] at hv
      exact ⟨[], Bits.nil, k, Option.some.inj hv⟩
    · rw [if_neg k] at hv; cases hv
  | k + 1 => by
    refine foldl_inv (Snd t) (snd_frN t k) fun L i hi h => foldl_inv (Snd t) h fun L e he h => snd_fr1 h (ed_of ?_ he)
    have := List.mem_range.mp hi
    rw [wtb_length] at this; omega
/-! no way is lighter -/
def Lq (L L' : Wl) : Prop := ∀ s v, L.getD s none = some v → ∃ v', L'.getD s none = some v' ∧ v' ≤ v
theorem Lq.refl (L : Wl) : Lq L L := fun s v h => ⟨v, h, Int.le_refl _⟩
theorem Lq.trans {L M N : Wl} (h : Lq L M) (k : Lq M N) : Lq L N := fun s v hv => by
  obtain ⟨v1, a, b⟩ := h s v hv
  obtain ⟨v2, c, d⟩ := k s v1 a
  exact ⟨v2, c, by omega⟩
theorem lq_set {L : Wl} {s : Nat} {x : Int} (h : ∀ c, L.getD s none = some c → x ≤ c) : Lq L (L.set s (some x)) := fun i v hv => by
  rw [getD_setW]
  by_cases k : i = s ∧ s < L.length
  · rw [if_pos k]
    exact ⟨x, rfl, h v (by rw [← k.1]; exact hv)⟩
  · rw [if_neg k]; exact ⟨v, hv, Int.le_refl _⟩
theorem lq_fr1 (s : Nat) (L : Wl) (e : Int × Int) : Lq L (fr1 s L e) := by
  unfold fr1
  split
  · exact Lq.refl _
  · split
    · rename_i h; exact lq_set fun c k => by rw [h] at k; cases k
    · rename_i c h
      split
      · rename_i z; exact lq_set fun c' k => by rw [h] at k; cases k; omega
      · exact Lq.refl _
theorem fr1_hit {s : Nat} {L : Wl} {e : Int × Int} {a : Int} (hs : s < L.length) (h : L.getD e.1.toNat none = some a) : ∃ v, (fr1 s L e).getD s none = some v ∧ v ≤ e.2 + a := by
  unfold fr1
  rw [h]
  dsimp only
  have hp : ∀ x, (L.set s (some x)).getD s none = some x := fun x => by rw [getD_setW, if_pos ⟨rfl, hs⟩]
  cases h2 : L.getD s none with
  | none => exact ⟨_, hp _, Int.le_refl _⟩
  | some c =>
    dsimp only
    by_cases k : e.2 + a < c
    · rw [if_pos k]; exact ⟨_, hp _, Int.le_refl _⟩
    · rw [if_neg k]; exact ⟨c, h2, by omega⟩
theorem lq_fold {A : Type} {f : Wl → A → Wl} (h : ∀ L x, Lq L (f L x)) (l : List A) (L : Wl) : Lq L (l.foldl f L) := foldl_inv (Lq L) (Lq.refl _) fun c x _ k => k.trans (h c x)
/-- somewhere in the fold the place is bettered -/
theorem fold_hit {A : Type} {f : Wl → A → Wl} (h : ∀ L x, Lq L (f L x)) {s : Nat} {K : Int} {n : Nat} (hl : ∀ L x, (f L x).length = L.length) : ∀ {l : List A} {L : Wl} {x : A}, x ∈ l → L.length = n → (∀ M, M.length = n → Lq L M → ∃ v, (f M x).getD s none = some v ∧ v ≤ K) → ∃ v, (l.foldl f L).getD s none = some v ∧ v ≤ K
  | [], _, _, hx, _, _ => by cases hx
  | y :: l, L, x, hx, hn, k => by
    rw [List.foldl_cons]
    rcases List.mem_cons.mp hx with q | q
    · obtain ⟨v, h1, h2⟩ := k L hn (Lq.refl L)
      rw [q] at h1
      obtain ⟨v', h3, h4⟩ := lq_fold h l (f L y) s v h1
      exact ⟨v', h3, by omega⟩
    · exact fold_hit h hl q (by rw [hl]; exact hn) fun M hM e => k M hM ((h L y).trans e)
def Cpl (t : Tp) (L : Wl) (k : Nat) : Prop := ∀ s a, s < 2 ^ mem t → Bits a → a.length ≤ k → run (mem t) s a = 0 → ∃ v, L.getD s none = some v ∧ v ≤ wt t s a
theorem frS_lq (W : WTb) (L : Wl) (i : Nat) : Lq L (frS W L i) := lq_fold (fun L e => lq_fr1 _ L e) _ L
theorem fr0_zero (t : Tp) : (fr0 (wtb t).length).getD 0 none = some 0 := by
  unfold fr0
  rw [getD_setW, if_pos ⟨rfl, by rw [List.length_replicate, wtb_length]; exact Nat.two_pow_pos _⟩]
theorem cpl_frN (t : Tp) : ∀ k, Cpl t (frN (wtb t) k) k
  | 0 => fun s a hs _ hl hr => by
    have e : a = [] := List.eq_nil_of_length_eq_zero (Nat.le_zero.mp hl)
    subst e
    have hr : s = 0 := hr
    subst hr
    exact ⟨0, fr0_zero t, Int.le_refl _⟩
  | k + 1 => fun s a hs hb hl hr => by
    have lq : Lq (frN (wtb t) k) (frN (wtb t) (k + 1)) := lq_fold (fun L i => frS_lq _ L i) _ _
    have zero : ∀ j, ∃ v, (frN (wtb t) j).getD 0 none = some v ∧ v ≤ 0 := fun j => by
      induction j with
      | zero => exact ⟨0, fr0_zero t, Int.le_refl _⟩
      | succ j ih =>
        obtain ⟨v, h1, h2⟩ := ih
        obtain ⟨v', h3, h4⟩ := (lq_fold (fun L i => frS_lq _ L i) _ _ : Lq (frN (wtb t) j) (frN (wtb t) (j + 1))) 0 v h1
        exact ⟨v', h3, by omega⟩
    by_cases h0 : s = 0
    · subst h0
      obtain ⟨v, h1, h2⟩ := zero (k + 1)
      have := wt_nn t 0 a
      exact ⟨v, h1, by omega⟩
    · cases a with
      | nil => exact absurd hr h0
      | cons b a =>
        have hb0 := hb b List.mem_cons_self
        obtain ⟨v, h1, h2⟩ := cpl_frN t k (nx (mem t) s b) a (nx_lt _ _ _) (fun x hx => hb x (List.mem_cons_of_mem _ hx)) (Nat.le_of_succ_le_succ hl) hr
        show ∃ v, (frT (wtb t) (frN (wtb t) k)).getD s none = some v ∧ v ≤ wt t s (b :: a)
        rw [wt_cons]
        refine fold_hit (n := 2 ^ mem t) (fun L i => frS_lq _ L i) (fun L i => frS_length _ L i) (x := s - 1) (List.mem_range.mpr (by rw [wtb_length]; omega)) (by rw [frN_length, wtb_length]) fun M hM hq => ?_
        obtain ⟨v1, h3, h4⟩ := hq _ v h1
        unfold frS
        rw [show s - 1 + 1 = s by omega]
        refine fold_hit (n := 2 ^ mem t) (fun L e => lq_fr1 _ L e) (fun L e => fr1_length _ L e) (x := ((nx (mem t) s b : Int), (ou t s b).sum)) ?_ hM fun M' hM' hq' => ?_
        · rw [wtb_at hs]
          rcases hb0 with q | q <;> rw [q] <;> simp
        · obtain ⟨v2, h5, h6⟩ := hq' _ v1 h3
          obtain ⟨v3, h7, h8⟩ := fr1_hit (s := s) (L := M') (e := ((nx (mem t) s b : Int), (ou t s b).sum)) (by rw [hM']; exact hs) (by dsimp only; rw [Int.toNat_natCast]; exact h5)
          exact ⟨v3, h7, by dsimp only at h8; omega⟩
/-! a long way has a round -/
theorem lt_nodup {l : List Nat} {N : Nat} (h : l.Nodup) (k : ∀ x, x ∈ l → x < N) : l.length ≤ N := by
  have := sub_le (b := List.range N) h fun x hx => List.mem_range.mpr (k x hx)
  rwa [List.length_range] at this
theorem pigeon {f : Nat → Nat} {N : Nat} (h : ∀ i, i ≤ N → f i < N) : ∃ i j, i < j ∧ j ≤ N ∧ f i = f j := by
  refine Classical.byContradiction fun q => ?_
  have nd : ((List.range (N + 1)).map f).Nodup := nodup_map List.nodup_range fun x y hx hy e => by
    have hx := List.mem_range.mp hx
    have hy := List.mem_range.mp hy
    rcases Nat.lt_trichotomy x y with z | z | z
    · exact absurd ⟨x, y, z, by omega, e⟩ q
    · exact z
    · exact absurd ⟨y, x, z, by omega, e.symm⟩ q
  have := lt_nodup (N := N) nd fun x hx => by
    obtain ⟨i, hi, rfl⟩ := List.mem_map.mp hx
    exact h i (by have := List.mem_range.mp hi; omega)
  rw [List.length_map, List.length_range] at this
  omega
theorem short (t : Tp) : ∀ (n : Nat) (s : Nat) (a : List Int), a.length = n → s < 2 ^ mem t → Bits a → run (mem t) s a = 0 → ∃ a', Bits a' ∧ a'.length ≤ 2 ^ mem t ∧ run (mem t) s a' = 0 ∧ wt t s a' ≤ wt t s a := by
  intro n
  induction n using Nat.strongRecOn with
  | ind n ih =>
    intro s a hn hs hb hr
    by_cases h : a.length ≤ 2 ^ mem t
    · exact ⟨a, hb, h, hr, Int.le_refl _⟩
    · obtain ⟨i, j, hij, hj, e⟩ := pigeon (f := fun i => run (mem t) s (a.take i)) (N := 2 ^ mem t) fun i _ => run_lt hs
      have e : run (mem t) s (a.take i) = run (mem t) s (a.take j) := e
      have e1 : run (mem t) s (a.take i ++ a.drop j) = 0 := by
        rw [run_append, e, ← run_append, List.take_append_drop]; exact hr
      have e2 : wt t s (a.take i ++ a.drop j) ≤ wt t s a := by
        have h1 : wt t s a = wt t s (a.take j) + wt t (run (mem t) s (a.take j)) (a.drop j) := by rw [← wt_append, List.take_append_drop]
        have h2 : wt t s (a.take j) = wt t s (a.take i) + wt t (run (mem t) s (a.take i)) ((a.take j).drop i) := by
          rw [← wt_append]
          congr 1
          have : a.take i = (a.take j).take i := by rw [List.take_take, Nat.min_eq_left (by omega)]
          rw [this, List.take_append_drop]
        rw [wt_append, e, h1, h2]
        have := wt_nn t (run (mem t) s (a.take i)) ((a.take j).drop i)
        omega
      obtain ⟨a', h1, h2, h3, h4⟩ := ih (a.take i ++ a.drop j).length (by rw [List.length_append, List.length_take, List.length_drop]; omega) s (a.take i ++ a.drop j) rfl hs ((hb.take i).append (hb.drop j)) e1
      exact ⟨a', h1, h2, h3, by omega⟩
/-! all in all -/
abbrev frL (t : Tp) : Wl := frN (wtb t) (2 ^ mem t)
theorem pj_frL (t : Tp) : pj (rkN (wtb t)) = frL t := by rw [pj_rkN, wtb_length]
theorem fr_le {t : Tp} {s : Nat} {a : List Int} (hs : s < 2 ^ mem t) (hb : Bits a) (hr : run (mem t) s a = 0) : ∃ v, (frL t).getD s none = some v ∧ v ≤ wt t s a := by
  obtain ⟨a', h1, h2, h3, h4⟩ := short t _ s a rfl hs hb hr
  obtain ⟨v, h5, h6⟩ := cpl_frN t (2 ^ mem t) s a' hs h1 h2 h3
  exact ⟨v, h5, by omega⟩
theorem run_end {k s : Nat} {a : List Int} (hs : s < 2 ^ k) (hb : Bits a) (hl : k ≤ a.length) (h : ∀ d, d < k → a.getD (a.length - 1 - d) 0 = 0) : run k s a = 0 :=
  dig_all0 (run_lt hs) fun d hd => by rw [run_dig hb hd, if_pos (by omega)]; exact h d hd
theorem zs_getD (n i : Nat) : (zs n).getD i 0 = 0 := by
  unfold zs
  rw [List.getD_eq_getElem?_getD, List.getElem?_replicate]; split <;> rfl
theorem run_zs {t : Tp} {s : Nat} (hs : s < 2 ^ mem t) : run (mem t) s (zs (mem t)) = 0 :=
  run_end hs (Bits.zeros _) (by unfold zs; rw [List.length_replicate]; exact Nat.le_refl _) fun d _ => zs_getD _ _
theorem run_fm {t : Tp} {m : List Int} (hb : Bits m) : run (mem t) 0 (fm t m) = 0 :=
  run_end (Nat.two_pow_pos _) (fm_bits hb) (by rw [fm_length]; omega) fun d hd => by rw [fm_getD, fm_length, if_neg (by omega)]
theorem fr_some {t : Tp} {s : Nat} (hs : s < 2 ^ mem t) : ∃ v, (frL t).getD s none = some v := by
  obtain ⟨v, h, _⟩ := fr_le hs (Bits.zeros _) (run_zs hs)
  exact ⟨v, h⟩
theorem frL_length (t : Tp) : (frL t).length = 2 ^ mem t := by rw [frN_length, wtb_length]
theorem rk_ok (t : Tp) : ∀ o, o ∈ rkN (wtb t) → o ≠ none := fun o ho e => by
  subst e
  obtain ⟨i, hi, h⟩ := List.mem_iff_getElem.mp ho
  rw [rkN_length, wtb_length] at hi
  obtain ⟨v, hv⟩ := fr_some (t := t) hi
  rw [← pj_frL, pj_getD, getD_lt (by rw [rkN_length, wtb_length]; exact hi), h] at hv
  cases hv
theorem wz_getD {t : Tp} {s : Nat} {v : Int} (hs : s < 2 ^ mem t) (h : (frL t).getD s none = some v) : (wz t).getD s 0 = v := by
  have hl : s < (rkN (wtb t)).length := by rw [rkN_length, wtb_length]; exact hs
  unfold wz
  rw [List.getD_eq_getElem?_getD, List.getElem?_map, List.getElem?_eq_getElem hl]
  rw [← pj_frL, pj_getD, getD_lt hl] at h
  show ((rkN (wtb t))[s].getD (0, 0)).1 = v
  cases e : (rkN (wtb t))[s] with
  | none => rw [e] at h; cases h
  | some x => rw [e] at h; exact Option.some.inj h
theorem frd_at {t : Tp} {v : Int} (h : (frL t).getD (nx (mem t) 0 1) none = some v) : frd t = (ou t 0 1).sum + v := by
  unfold frd
  rw [wtb_at (Nat.two_pow_pos _)]
  show (ou t 0 1).sum + (wz t).getD ((nx (mem t) 0 1 : Nat) : Int).toNat 0 = _
  rw [Int.toNat_natCast, wz_getD (nx_lt _ _ _) h]
theorem nx00 (m : Nat) : nx m 0 0 = 0 := by unfold nx fed; exact Nat.zero_mod _
theorem run_0zs (m : Nat) : ∀ n, run m 0 (zs n) = 0
  | 0 => rfl
  | n + 1 => by
    show run m (nx m 0 0) (zs n) = 0
    rw [nx00]; exact run_0zs m n
/-- a first 1, what is ahead of it and behind it -/
theorem lead_split {l : List Int} (hb : Bits l) (h : ∃ x, x ∈ l ∧ x ≠ 0) : ∃ k r, l = zs k ++ 1 :: r := by
  obtain ⟨k, h1, h2, h3⟩ := lead hb h
  refine ⟨k, l.drop (k + 1), ?_⟩
  have e : l = l.take k ++ l.drop k := (List.take_append_drop k l).symm
  conv => lhs; rw [e]
  rw [drop_at 0 h1, h2]
  congr 1
  refine ext_getD (by unfold zs; rw [List.length_take, List.length_replicate]; omega) fun j hj => ?_
  rw [List.length_take] at hj
  rw [zs_getD, List.getD_eq_getElem?_getD, List.getElem?_take, if_pos (by omega), ← List.getD_eq_getElem?_getD]
  exact h3 j (by omega)
/-- every word but the zero word is as heavy as the free distance -/
theorem frd_le {t : Tp} {m : List Int} (hb : Bits m) (h : ∃ x, x ∈ m ∧ x ≠ 0) : frd t ≤ (word t m).sum := by
  obtain ⟨x, hx, h0⟩ := h
  obtain ⟨k, r, e⟩ := lead_split (fm_bits (t := t) hb) ⟨x, List.mem_append_left _ hx, h0⟩
  have hf := fm_bits (t := t) hb
  have hr := run_fm (t := t) hb
  rw [e, run_append, run_0zs] at hr
  have hr : run (mem t) (nx (mem t) 0 1) r = 0 := hr
  have hbr : Bits r := fun y hy => hf y (by rw [e]; exact List.mem_append_right _ (List.mem_cons_of_mem _ hy))
  obtain ⟨v, h1, h2⟩ := fr_le (nx_lt _ _ _) hbr hr
  rw [frd_at h1]
  show _ ≤ wt t 0 (fm t m)
  rw [e, wt_append, run_0zs, wt_cons]
  have := wt_nn t 0 (zs k)
  omega
theorem bits_one {l : List Int} (hb : Bits l) : ∀ {j : Nat}, l.getD j 0 = 1 → 1 ≤ l.sum := by
  induction l with
  | nil => intro j h; cases h
  | cons x l ih =>
    intro j h
    have hl : Bits l := fun y hy => hb y (List.mem_cons_of_mem _ hy)
    have h1 := bits_sum hl
    have h2 := (hb x List.mem_cons_self).le
    rw [List.sum_cons]
    cases j with
    | zero => have : x = 1 := h; omega
    | succ j => have := ih hl (j := j) h; omega
theorem sum_zeros {A : Type} : ∀ l : List A, (l.map fun _ => (0 : Int)).sum = 0
  | [] => rfl
  | _ :: l => by rw [List.map_cons, List.sum_cons, sum_zeros l]; rfl
theorem frd_pos {t : Tp} (g : GT t) : 1 ≤ frd t := by
  obtain ⟨v, hv⟩ := fr_some (t := t) (nx_lt (mem t) 0 1)
  obtain ⟨a, h1, h2, h3⟩ := snd_frN t (2 ^ mem t) _ v (nx_lt _ _ _) hv
  rw [frd_at hv, ← h3, ← wt_cons]
  have hb : Bits (1 :: a) := Bits.cons (Or.inr rfl) h1
  obtain ⟨j, h4, h5⟩ := cw_ne g hb ⟨1, List.mem_cons_self, by decide⟩
  have h6 := bits_one (word_bits t (1 :: a)) (by rw [word_cw g hb]; exact h5)
  have h7 : (word t (1 :: a)).sum = wt t 0 (1 :: a) + wt t (run (mem t) 0 (1 :: a)) (zs (mem t)) := wt_append t 0 (1 :: a) (zs (mem t))
  have h8 : run (mem t) 0 (1 :: a) = 0 := h2
  have h9 : ∀ n, wt t 0 (zs n) = 0 := fun n => by
    induction n with
    | zero => rfl
    | succ n ih =>
      rw [zs_succ, wt_cons, nx00, ih, Int.add_zero]
      have : ∀ p, p ∈ t → ou1 p (fed 0 0) = 0 := fun p _ => by
        unfold ou1
        have : sm p.length (fun d => p.getD d 0 * dig (fed 0 0) d) = sm p.length (fun _ => 0) := sm_congr fun d _ => by
          have : dig (fed 0 0) d = 0 := by unfold dig fed; rw [show (0 : Int).toNat + 2 * 0 = 0 from rfl, Nat.zero_div]; rfl
          rw [this, Int.mul_zero]
        rw [this, sm_zero]; rfl
      unfold ou
      rw [List.map_congr_left this]
      exact sum_zeros t
  rw [h8, h9] at h7
  omega
/-- two messages of one length: their words differ in as many items -/
theorem words_apart {t : Tp} (g : GT t) {a b : List Int} (ha : Bits a) (hb : Bits b) (h : a.length = b.length) (n : a ≠ b) : frd t ≤ dst (word t a) ((word t b).map some) := by
  rw [word_dst g ha hb h]
  exact frd_le (xor_bits a b) (xor_ne ha hb h n)
end MX
set_option maxHeartbeats 4000000
namespace MX
/-! ### the path decoder: summaries of beginnings -/
theorem ll_app {c d : List Int} : ∀ {a b : List Int}, a.length = b.length → a < b → a ++ c < b ++ d
  | [], [], _, h => absurd h (ll_irr _)
  | x :: a, y :: b, h, k => by
    rw [List.cons_lt_cons_iff] at k
    show x :: (a ++ c) < y :: (b ++ d)
    rw [List.cons_lt_cons_iff]
    rcases k with q | ⟨q1, q2⟩
    · exact Or.inl q
    · exact Or.inr ⟨q1, ll_app (Nat.succ.inj h) q2⟩
theorem ll_cut {a b c : List Int} (h : a.length = b.length) (k : a ++ c < b ++ c) : a < b := by
  rcases ll_tri a b with q | q | q
  · exact q
  · rw [q] at k; exact absurd k (ll_irr _)
  · exact absurd (ll_trans k (ll_app h.symm q)) (ll_irr _)
theorem cst_l : ∀ a b : List Int, cst a b <+: a
  | [], _ => List.nil_prefix
  | _ :: _, [] => List.nil_prefix
  | x :: a, y :: b => by
    show (if x = y then x :: cst a b else []) <+: _
    split
    · exact List.cons_prefix_cons.mpr ⟨rfl, cst_l a b⟩
    · exact List.nil_prefix
theorem cst_r : ∀ a b : List Int, cst a b <+: b
  | [], _ => List.nil_prefix
  | _ :: _, [] => List.nil_prefix
  | x :: a, y :: b => by
    show (if x = y then x :: cst a b else []) <+: _
    split
    · rename_i e; exact List.cons_prefix_cons.mpr ⟨e, cst_r a b⟩
    · exact List.nil_prefix
structure SumOf (c : List Int → Int) (l : List (List Int)) (x : Sm) : Prop where
  le : ∀ a, a ∈ l → x.cost ≤ c a
  mem : x.first ∈ l
  at_ : c x.first = x.cost
  min : ∀ a, a ∈ l → c a = x.cost → ¬ a < x.first
  cnt : x.cnt = ((l.filter fun a => decide (c a = x.cost)).length : Int)
  start : ∀ a, a ∈ l → c a = x.cost → x.start <+: a
def SumO (c : List Int → Int) (l : List (List Int)) : Option Sm → Prop
  | none => l = []
  | some x => SumOf c l x
theorem sum_gwn {c c' : List Int → Int} {l : List (List Int)} {x : Sm} {b d : Int} {k : Nat} (h : SumOf c l x) (hl : ∀ a, a ∈ l → a.length = k) (hc : ∀ a, a ∈ l → c' (a ++ [b]) = c a + d) : SumOf c' (l.map fun a => a ++ [b]) (gwn x b d) := by
  have hf : ((l.map fun a => a ++ [b]).filter fun a => decide (c' a = x.cost + d)) = (l.filter fun a => decide (c a = x.cost)).map fun a => a ++ [b] := by
    rw [List.filter_map]
    refine congrArg (List.map _) (List.filter_congr fun a ha => ?_)
    show decide (c' (a ++ [b]) = x.cost + d) = decide (c a = x.cost)
    rw [hc a ha]
    by_cases q : c a = x.cost
    · rw [decide_eq_true q, decide_eq_true (by omega)]
    · rw [decide_eq_false q, decide_eq_false (by omega)]
  refine ⟨fun a ha => ?_, List.mem_map.mpr ⟨_, h.mem, rfl⟩, ?_, fun a ha e => ?_, ?_, fun a ha e => ?_⟩
  · obtain ⟨a, ha', rfl⟩ := List.mem_map.mp ha
    have := h.le a ha'
    rw [hc a ha']
    show x.cost + d ≤ _; omega
  · show c' (x.first ++ [b]) = x.cost + d
    rw [hc _ h.mem, h.at_]
  · obtain ⟨a, ha', rfl⟩ := List.mem_map.mp ha
    have e : c' (a ++ [b]) = x.cost + d := e
    rw [hc a ha'] at e
    intro q
    exact h.min a ha' (by omega) (ll_cut (by rw [hl a ha', hl _ h.mem]) q)
  · show x.cnt = ((List.filter (fun a => decide (c' a = x.cost + d)) _).length : Int)
    rw [hf, List.length_map]; exact h.cnt
  · obtain ⟨a, ha', rfl⟩ := List.mem_map.mp ha
    have e : c' (a ++ [b]) = x.cost + d := e
    rw [hc a ha'] at e
    have e : c a = x.cost := by omega
    show (if x.cnt = 1 then x.first ++ [b] else x.start) <+: _
    split
    · rename_i q
      have h1 := h.cnt
      rw [q] at h1
      have m1 : a ∈ l.filter fun a => decide (c a = x.cost) := List.mem_filter.mpr ⟨ha', decide_eq_true e⟩
      have m2 : x.first ∈ l.filter fun a => decide (c a = x.cost) := List.mem_filter.mpr ⟨h.mem, decide_eq_true h.at_⟩
      match hq : l.filter fun a => decide (c a = x.cost) with
      | [] => rw [hq] at m1; cases m1
      | [z] =>
        rw [hq] at m1 m2
        rw [List.mem_singleton.mp m1, List.mem_singleton.mp m2]
        exact List.prefix_refl _
      | _ :: _ :: _ =>
        rw [hq, List.length_cons, List.length_cons] at h1; omega
    · exact (h.start a ha' e).trans (List.prefix_append _ _)
theorem fil_none {c : List Int → Int} {l : List (List Int)} {v w : Int} (h : ∀ a, a ∈ l → w ≤ c a) (k : v < w) : (l.filter fun a => decide (c a = v)) = [] := List.filter_eq_nil_iff.mpr fun a ha => by
  have := h a ha
  rw [decide_eq_true_eq]; omega
theorem sum_mgd {c : List Int → Int} {l m : List (List Int)} {o : Option Sm} {y : Sm} (h : SumO c l o) (k : SumOf c m y) : SumOf c (l ++ m) (mgd o y) := by
  cases o with
  | none =>
    have h : l = [] := h
    subst h
    exact k
  | some x =>
    have h : SumOf c l x := h
    unfold mgd
    dsimp only
    by_cases q : x.cost < y.cost
    · rw [if_pos q]
      refine ⟨fun a ha => ?_, List.mem_append_left _ h.mem, h.at_, fun a ha e => ?_, ?_, fun a ha e => ?_⟩
      · rcases List.mem_append.mp ha with z | z
        · exact h.le a z
        · have := k.le a z; omega
      · rcases List.mem_append.mp ha with z | z
        · exact h.min a z e
        · have := k.le a z; omega
      · rw [List.filter_append, fil_none k.le q, List.append_nil]; exact h.cnt
      · rcases List.mem_append.mp ha with z | z
        · exact h.start a z e
        · have := k.le a z; omega
    · rw [if_neg q]
      by_cases q' : y.cost < x.cost
      · rw [if_pos q']
        refine ⟨fun a ha => ?_, List.mem_append_right _ k.mem, k.at_, fun a ha e => ?_, ?_, fun a ha e => ?_⟩
        · rcases List.mem_append.mp ha with z | z
          · have := h.le a z; omega
          · exact k.le a z
        · rcases List.mem_append.mp ha with z | z
          · have := h.le a z; omega
          · exact k.min a z e
        · rw [List.filter_append, fil_none h.le q', List.nil_append]; exact k.cnt
        · rcases List.mem_append.mp ha with z | z
          · have := h.le a z; omega
          · exact k.start a z e
      · rw [if_neg q']
        have e0 : y.cost = x.cost := by omega
        refine ⟨fun a ha => ?_, ?_, ?_, fun a ha e => ?_, ?_, fun a ha e => ?_⟩
        · rcases List.mem_append.mp ha with z | z
          · exact h.le a z
          · have := k.le a z; show x.cost ≤ _; omega
        · dsimp only
          split
          · exact List.mem_append_right _ k.mem
          · exact List.mem_append_left _ h.mem
        · dsimp only
          split
          · rw [k.at_, e0]
          · exact h.at_
        · dsimp only at e ⊢
          split
          · rename_i z
            rcases List.mem_append.mp ha with p | p
            · intro w; exact h.min a p e (ll_trans w z)
            · exact k.min a p (by omega)
          · rename_i z
            rcases List.mem_append.mp ha with p | p
            · exact h.min a p e
            · intro w
              have := k.min a p (by omega)
              rcases ll_tri a y.first with t | t | t
              · exact this t
              · exact z (t ▸ w)
              · exact z (ll_trans t w)
        · dsimp only
          have hk := k.cnt
          rw [e0] at hk
          rw [List.filter_append, List.length_append, h.cnt, hk]; omega
        · dsimp only at e ⊢
          rcases List.mem_append.mp ha with z | z
          · exact (cst_l _ _).trans (h.start a z e)
          · exact (cst_r _ _).trans (k.start a z (by omega))
/-! the beginnings that end in a state -/
def bl (m : Nat) : Nat → Nat → List (List Int)
  | 0, s => if s = 0 then [[]] else []
  | k + 1, s => (List.range (2 ^ m)).flatMap fun s' => ([0, 1] : List Int).flatMap fun b => if nx m s' b = s then (bl m k s').map fun a => a ++ [b] else []
theorem run_snoc (m s : Nat) (a : List Int) (b : Int) : run m s (a ++ [b]) = nx m (run m s a) b := by rw [run_append]; rfl
theorem bl_mem {m : Nat} : ∀ {k s : Nat} {a : List Int}, s < 2 ^ m → (a ∈ bl m k s ↔ Bits a ∧ a.length = k ∧ run m 0 a = s)
  | 0, s, a, _ => by
    show a ∈ (if s = 0 then [[]] else []) ↔ _
    constructor
    · intro h
      by_cases q : s = 0
      · rw [if_pos q] at h
        rw [List.mem_singleton.mp h]
        exact ⟨Bits.nil, rfl, q.symm⟩
      · rw [if_neg q] at h; cases h
    · rintro ⟨_, h, e⟩
      have : a = [] := List.eq_nil_of_length_eq_zero h
      subst this
      have e : 0 = s := e
      rw [if_pos e.symm]; exact List.mem_singleton.mpr rfl
  | k + 1, s, a, hs => by
    constructor
    · intro h
      obtain ⟨s', h1, h⟩ := List.mem_flatMap.mp h
      obtain ⟨b, hb, h⟩ := List.mem_flatMap.mp h
      have h1 := List.mem_range.mp h1
      have hb : Bit b := by simpa [Bit] using hb
      by_cases q : nx m s' b = s
      · rw [if_pos q] at h
        obtain ⟨x, hx, rfl⟩ := List.mem_map.mp h
        obtain ⟨x1, x2, x3⟩ := (bl_mem h1).mp hx
        exact ⟨x1.append (Bits.cons hb Bits.nil), by rw [List.length_append, x2]; rfl, by rw [run_snoc, x3]; exact q⟩
      · rw [if_neg q] at h; cases h
    · rintro ⟨h1, h2, h3⟩
      rcases List.eq_nil_or_concat a with q | ⟨x, b, q⟩
      · rw [q] at h2; cases h2
      · rw [List.concat_eq_append] at q
        subst q
        rw [run_snoc] at h3
        have hx : Bits x := fun y hy => h1 y (List.mem_append_left _ hy)
        have hb : Bit b := h1 b (List.mem_append_right _ (List.mem_singleton.mpr rfl))
        have hr : run m 0 x < 2 ^ m := run_lt (Nat.two_pow_pos m)
        refine List.mem_flatMap.mpr ⟨run m 0 x, List.mem_range.mpr hr, List.mem_flatMap.mpr ⟨b, by rcases hb with q | q <;> rw [q] <;> simp, ?_⟩⟩
        rw [if_pos h3]
        rw [List.length_append] at h2
        exact List.mem_map.mpr ⟨x, (bl_mem hr).mpr ⟨hx, Nat.succ.inj h2, rfl⟩, rfl⟩
theorem flat_nodup {A C : Type} {f : A → List C} : ∀ {l : List A}, l.Nodup → (∀ x, x ∈ l → (f x).Nodup) → (∀ x y, x ∈ l → y ∈ l → ∀ z, z ∈ f x → z ∈ f y → x = y) → (l.flatMap f).Nodup
  | [], _, _, _ => List.nodup_nil
  | a :: l, h, h1, h2 => by
    have h := List.nodup_cons.mp h
    rw [List.flatMap_cons]
    refine List.nodup_append.mpr ⟨h1 a List.mem_cons_self, flat_nodup h.2 (fun x hx => h1 x (List.mem_cons_of_mem _ hx)) (fun x y hx hy => h2 x y (List.mem_cons_of_mem _ hx) (List.mem_cons_of_mem _ hy)), fun z hz w hw e => ?_⟩
    subst e
    obtain ⟨y, hy, hyz⟩ := List.mem_flatMap.mp hw
    have := h2 a y List.mem_cons_self (List.mem_cons_of_mem _ hy) z hz hyz
    exact h.1 (this ▸ hy)
theorem snoc_inj {a c : List Int} {b d : Int} (e : a ++ [b] = c ++ [d]) : a = c ∧ b = d := by
  have := List.append_inj' e rfl
  exact ⟨this.1, (List.cons.inj this.2).1⟩
theorem bl_nodup {m : Nat} : ∀ {k s : Nat}, s < 2 ^ m → (bl m k s).Nodup
  | 0, s, _ => by
    show (if s = 0 then [[]] else [] : List (List Int)).Nodup
    split
    · exact List.nodup_cons.mpr ⟨List.not_mem_nil, List.nodup_nil⟩
    · exact List.nodup_nil
  | k + 1, s, _ => by
    refine flat_nodup List.nodup_range (fun s' hs' => flat_nodup (by simp) (fun b _ => ?_) fun b b' _ _ z hz hz' => ?_) fun s' s2 hs' hs2 z hz hz' => ?_
    · split
      · exact nodup_map (bl_nodup (List.mem_range.mp hs')) fun x y _ _ e => (snoc_inj e).1
      · exact List.nodup_nil
    · split at hz
      · split at hz'
        · obtain ⟨x, _, rfl⟩ := List.mem_map.mp hz
          obtain ⟨y, _, e⟩ := List.mem_map.mp hz'
          exact (snoc_inj e).2.symm
        · cases hz'
      · cases hz
    · obtain ⟨b, _, hz⟩ := List.mem_flatMap.mp hz
      obtain ⟨b', _, hz'⟩ := List.mem_flatMap.mp hz'
      split at hz
      · split at hz'
        · obtain ⟨x, hx, rfl⟩ := List.mem_map.mp hz
          obtain ⟨y, hy, e⟩ := List.mem_map.mp hz'
          have e := (snoc_inj e).1
          subst e
          rw [← ((bl_mem (List.mem_range.mp hs')).mp hx).2.2, ← ((bl_mem (List.mem_range.mp hs2)).mp hy).2.2]
        · cases hz'
      · cases hz
structure SmsOk (m : Nat) (c : List Int → Int) (P : Nat → List (List Int)) (L : List (Option Sm)) : Prop where
  len : L.length = 2 ^ m
  ok : ∀ s, s < 2 ^ m → SumO c (P s) (L.getD s none)
theorem getD_setS {L : List (Option Sm)} {s i : Nat} {x : Option Sm} (hs : s < L.length) : (L.set s x).getD i none = if i = s then x else L.getD i none := getD_set hs
theorem sms_up {t : Tp} {c c' : List Int → Int} {P : Nat → List (List Int)} {L : List (Option Sm)} {l : List (List Int)} {x : Sm} {it : Rc} {s k : Nat} {b : Int} (h : SmsOk (mem t) c' P L) (hx : SumOf c l x) (hl : ∀ a, a ∈ l → a.length = k) (hc : ∀ a, a ∈ l → c' (a ++ [b]) = c a + dst (ou t s b) it) :
    SmsOk (mem t) c' (fun i => P i ++ if nx (mem t) s b = i then l.map fun a => a ++ [b] else []) (up1 t it s x L b) := by
  have hn := nx_lt (mem t) s b
  refine ⟨(up1_length _ _ _ _ _ _).trans h.len, fun i hi => ?_⟩
  unfold up1
  rw [getD_setS (by rw [h.len]; exact hn)]
  by_cases q : i = nx (mem t) s b
  · rw [if_pos q, if_pos q.symm]
    exact sum_mgd (h.ok i hi |> fun z => by rw [q] at z ⊢; exact z) (sum_gwn hx hl hc)
  · rw [if_neg q, if_neg (Ne.symm q), List.append_nil]
    exact h.ok i hi
theorem SmsOk.congr {m : Nat} {c : List Int → Int} {P Q : Nat → List (List Int)} {L : List (Option Sm)} (h : SmsOk m c P L) (e : ∀ s, s < 2 ^ m → P s = Q s) : SmsOk m c Q L := ⟨h.len, fun s hs => by rw [← e s hs]; exact h.ok s hs⟩
theorem sms_take {t : Tp} {c c' : List Int → Int} {sums : List (Option Sm)} {it : Rc} {k : Nat} (h : SmsOk (mem t) c (bl (mem t) k) sums) (hc : ∀ s a b, s < 2 ^ mem t → a ∈ bl (mem t) k s → Bit b → c' (a ++ [b]) = c a + dst (ou t s b) it) : SmsOk (mem t) c' (bl (mem t) (k + 1)) (tkN t it sums) := by
  have key : ∀ n, n ≤ 2 ^ mem t → SmsOk (mem t) c' (fun i => (List.range n).flatMap fun s' => ([0, 1] : List Int).flatMap fun b => if nx (mem t) s' b = i then (bl (mem t) k s').map fun a => a ++ [b] else []) ((List.range n).foldl (tkS t it sums) (List.replicate (2 ^ mem t) none)) := by
    intro n
    induction n with
    | zero =>
      intro _
      refine ⟨List.length_replicate, fun s hs => ?_⟩
      rw [show (List.range 0).foldl (tkS t it sums) (List.replicate (2 ^ mem t) none) = List.replicate (2 ^ mem t) none from rfl, List.getD_eq_getElem?_getD, List.getElem?_replicate, if_pos hs]
      rfl
    | succ n ih =>
      intro hn
      have ih := ih (by omega)
      rw [fold_range]
      have hs : n < 2 ^ mem t := hn
      have hx := h.ok n hs
      unfold tkS
      cases e : sums.getD n none with
      | none =>
        rw [e] at hx
        have hx : bl (mem t) k n = [] := hx
        refine ih.congr fun i _ => ?_
        rw [range_flat_succ, hx]
        simp
      | some x =>
        rw [e] at hx
        have hx : SumOf c (bl (mem t) k n) x := hx
        have hl : ∀ a, a ∈ bl (mem t) k n → a.length = k := fun a ha => ((bl_mem hs).mp ha).2.1
        refine (sms_up (b := 1) (sms_up (b := 0) ih hx hl fun a ha => hc n a 0 hs ha (Or.inl rfl)) hx hl fun a ha => hc n a 1 hs ha (Or.inr rfl)).congr fun i _ => ?_
        rw [range_flat_succ, List.append_assoc]
        congr 1
        rw [List.flatMap_cons, List.flatMap_cons, List.flatMap_nil, List.append_nil]
  exact key _ (Nat.le_refl _)
/-! what has settled -/
theorem stt_pre : ∀ (l : List (Option Sm)) (o : Option (List Int)), ∃ r, l.foldl (fun o s => match s with
    | none => o
    | some x => some (match o with
      | none => x.start
      | some y => cst y x.start)) o = r ∧ (∀ y, o = some y → ∃ w, r = some w ∧ w <+: y) ∧ ∀ x, some x ∈ l → ∃ w, r = some w ∧ w <+: x.start
  | [], o => ⟨o, rfl, fun y h => ⟨y, h, List.prefix_refl _⟩, fun x h => by cases h⟩
  | none :: l, o => by
    obtain ⟨r, h1, h2, h3⟩ := stt_pre l o
    refine ⟨r, h1, h2, fun x hx => ?_⟩
    rcases List.mem_cons.mp hx with q | q
    · cases q
    · exact h3 x q
  | some z :: l, o => by
    obtain ⟨r, h1, h2, h3⟩ := stt_pre l (some (match o with
      | none => z.start
      | some y => cst y z.start))
    obtain ⟨w, h4, h5⟩ := h2 _ rfl
    refine ⟨r, h1, fun y hy => ?_, fun x hx => ?_⟩
    · subst hy
      exact ⟨w, h4, h5.trans (cst_l _ _)⟩
    · rcases List.mem_cons.mp hx with q | q
      · cases q
        refine ⟨w, h4, h5.trans ?_⟩
        cases o with
        | none => exact List.prefix_refl _
        | some y => exact cst_r _ _
      · exact h3 x q
theorem stt_at {L : List (Option Sm)} {x : Sm} (h : some x ∈ L) : ∃ w, stt L = some w ∧ w <+: x.start := by
  obtain ⟨r, h1, _, h3⟩ := stt_pre L none
  obtain ⟨w, h4, h5⟩ := h3 x h
  exact ⟨w, h1.trans h4, h5⟩
/-! the decoder at work -/
def smk (t : Tp) (st : List Rc) : Nat → List (Option Sm)
  | 0 => ini t
  | k + 1 => tkN t (st.getD k []) (smk t st k)
theorem pc_snoc (t : Tp) : ∀ (a : List Int) (s : Nat) (st : List Rc) (b : Int), a.length < st.length → pc t s (a ++ [b]) st = pc t s a st + dst (ou t (run (mem t) s a) b) (st.getD a.length [])
  | [], s, r :: rs, b, _ => by
    show dst (ou t s b) r + 0 = 0 + dst (ou t s b) r
    omega
  | x :: a, s, r :: rs, b, h => by
    show dst (ou t s x) r + pc t (nx (mem t) s x) (a ++ [b]) rs = dst (ou t s x) r + pc t (nx (mem t) s x) a rs + _
    rw [pc_snoc t a _ rs b (Nat.lt_of_succ_lt_succ h)]
    show _ = _ + dst (ou t (run (mem t) (nx (mem t) s x) a) b) (rs.getD a.length [])
    omega
  | _, _, [], _, h => absurd h (Nat.not_lt_zero _)
theorem pc_app (t : Tp) : ∀ (a c : List Int) (s : Nat) (st : List Rc), a.length ≤ st.length → pc t s (a ++ c) st = pc t s a st + pc t (run (mem t) s a) c (st.drop a.length)
  | [], c, s, st, _ => by
    have : pc t s [] st = 0 := by unfold pc; rfl
    rw [this, Int.zero_add]; rfl
  | x :: a, c, s, r :: rs, h => by
    show dst (ou t s x) r + pc t (nx (mem t) s x) (a ++ c) rs = dst (ou t s x) r + pc t (nx (mem t) s x) a rs + _
    rw [pc_app t a c _ rs (Nat.le_of_succ_le_succ h)]
    show _ = _ + pc t (run (mem t) (nx (mem t) s x) a) c (rs.drop a.length)
    omega
  | _ :: _, _, _, [], h => absurd h (Nat.not_succ_le_zero _)
theorem smk_ok (t : Tp) (st : List Rc) : ∀ k, k ≤ st.length → SmsOk (mem t) (fun a => pc t 0 a st) (bl (mem t) k) (smk t st k)
  | 0, _ => by
    refine ⟨ini_length t, fun s hs => ?_⟩
    have hp := Nat.two_pow_pos (mem t)
    have e : (ini t).getD s none = if s = 0 then some ⟨0, 1, [], []⟩ else none := by
      unfold ini
      rw [getD_setS (by rw [List.length_replicate]; exact hp)]
      by_cases q : s = 0
      · rw [if_pos q, if_pos q]
      · rw [if_neg q, if_neg q, List.getD_eq_getElem?_getD, List.getElem?_replicate]; split <;> rfl
    show SumO _ (if s = 0 then [[]] else []) ((ini t).getD s none)
    rw [e]
    have hz : pc t 0 [] st = 0 := by unfold pc; rfl
    by_cases q : s = 0
    · rw [if_pos q, if_pos q]
      refine ⟨fun a ha => ?_, List.mem_singleton.mpr rfl, hz, fun a ha _ => ?_, ?_, fun a ha _ => List.nil_prefix⟩
      · rw [List.mem_singleton.mp ha, hz]; exact Int.le_refl _
      · rw [List.mem_singleton.mp ha]; exact ll_irr _
      · show (1 : Int) = _
        rw [List.filter_cons, if_pos (decide_eq_true hz)]; rfl
    · rw [if_neg q, if_neg q]; rfl
  | k + 1, h => sms_take (smk_ok t st k (by omega)) fun s a b hs ha hb => by
    obtain ⟨h1, h2, h3⟩ := (bl_mem hs).mp ha
    rw [pc_snoc t a 0 st b (by omega), h3, h2]
theorem smk_length (t : Tp) (st : List Rc) : ∀ k, (smk t st k).length = 2 ^ mem t
  | 0 => ini_length t
  | k + 1 => tkN_length _ _ _
theorem smk_b (t : Tp) (st : List Rc) : ∀ k, SmsB k (smk t st k)
  | 0 => ini_b t
  | k + 1 => tkN_b (smk_b t st k)
theorem smk_some {t : Tp} {st : List Rc} {k : Nat} (h : k ≤ st.length) {a : List Int} (hb : Bits a) (hl : a.length = k) : ∃ x, (smk t st k).getD (run (mem t) 0 a) none = some x ∧ SumOf (fun a => pc t 0 a st) (bl (mem t) k (run (mem t) 0 a)) x := by
  have hr : run (mem t) 0 a < 2 ^ mem t := run_lt (Nat.two_pow_pos _)
  have hk := (smk_ok t st k h).ok _ hr
  have hm : a ∈ bl (mem t) k (run (mem t) 0 a) := (bl_mem hr).mpr ⟨hb, hl, rfl⟩
  cases e : (smk t st k).getD (run (mem t) 0 a) none with
  | none =>
    rw [e] at hk
    have hk : bl (mem t) k (run (mem t) 0 a) = [] := hk
    rw [hk] at hm; cases hm
  | some x => rw [e] at hk; exact ⟨x, rfl, hk⟩
theorem smk_mem {t : Tp} {st : List Rc} {k s : Nat} {x : Sm} (h : (smk t st k).getD s none = some x) : some x ∈ smk t st k := getD_none_mem h
theorem stt_smk {t : Tp} {st : List Rc} {k : Nat} (h : k ≤ st.length) : stt (smk t st k) ≠ none := by
  obtain ⟨x, h1, _⟩ := smk_some (t := t) (st := st) h (Bits.zeros k) List.length_replicate
  obtain ⟨w, h2, _⟩ := stt_at (smk_mem h1)
  rw [h2]; exact fun e => nomatch e
section
variable {t : Tp} {n : Nat} {r : Rc}
/-- a whole way that ends in the state 0 is a message and the zeros -/
theorem way_end {q : List Int} (hb : Bits q) (hl : q.length = n + mem t) (hr : run (mem t) 0 q = 0) : q = q.take n ++ zs (mem t) := by
  refine ext_getD (by unfold zs; rw [List.length_append, List.length_take, List.length_replicate]; omega) fun j hj => ?_
  rw [List.getD_eq_getElem?_getD (l := _ ++ _)]
  by_cases h : j < n
  · rw [List.getElem?_append_left (by rw [List.length_take]; omega), List.getElem?_take, if_pos h, List.getD_eq_getElem?_getD]
  · rw [List.getElem?_append_right (by rw [List.length_take]; omega), ← List.getD_eq_getElem?_getD, zs_getD]
    have h1 := run_dig (k := mem t) (s := 0) (d := q.length - 1 - j) hb (by omega)
    rw [hr, if_pos (by omega), show q.length - 1 - (q.length - 1 - j) = j by omega] at h1
    rw [← h1]
    unfold dig; rw [Nat.zero_div]; rfl
theorem Rv.way (h : Rv t n r) {q : List Int} (hb : Bits q) (hl : q.length = n + mem t) (hr : run (mem t) 0 q = 0) : pc t 0 q (chs t.length r) = dst (word t (q.take n)) r := by
  have e := way_end hb hl hr
  conv => lhs; rw [e]
  exact pc_word h.g.lo (by rw [h.len, List.length_take, hl]; congr 2; omega)
theorem Rv.way_le (h : Rv t n r) {q : List Int} (hb : Bits q) (hl : q.length = n + mem t) (hr : run (mem t) 0 q = 0) : lst t n r ≤ pc t 0 q (chs t.length r) := by
  rw [h.way hb hl hr]
  exact h.lst_le (hb.take n) (by rw [List.length_take]; omega)
theorem fnd_mem {m : List Int} : m ∈ fnd t n r ↔ m.length = n ∧ Bits m ∧ dst (word t m) r = lst t n r := by
  unfold fnd
  rw [List.mem_filter, decide_eq_true_eq]
  constructor
  · rintro ⟨h1, h2⟩; exact ⟨(msgA_mem h1).1, (msgA_mem h1).2, h2⟩
  · rintro ⟨h1, h2, h3⟩
    refine ⟨?_, h3⟩
    rw [msgA_C, ← h1]; exact msgC_all h2
/-- what has settled is the start of every nearest message and the zeros -/
theorem Rv.settled (h : Rv t n r) {k : Nat} (hk : k ≤ n + mem t) {m : List Int} (hm : m ∈ fnd t n r) : (m ++ zs (mem t)).take ((stt (smk t (chs t.length r) k)).getD []).length = (stt (smk t (chs t.length r) k)).getD [] := by
  obtain ⟨m1, m2, m3⟩ := fnd_mem.mp hm
  have hsl := h.sl
  have hb : Bits (fm t m) := fm_bits m2
  have hpl : (fm t m).length = n + mem t := by rw [fm_length, m1]
  have hrun : run (mem t) 0 (fm t m) = 0 := run_fm m2
  have hcost : pc t 0 (fm t m) (chs t.length r) = lst t n r := by
    rw [h.way hb hpl hrun]
    have : (fm t m).take n = m := by unfold fm; rw [← m1, List.take_left]
    rw [this, m3]
  have hal : ((fm t m).take k).length = k := by rw [List.length_take, hpl]; omega
  obtain ⟨x, h1, h2⟩ := smk_some (t := t) (st := chs t.length r) (k := k) (by rw [hsl]; exact hk) (hb.take k) hal
  have hr : run (mem t) 0 ((fm t m).take k) < 2 ^ mem t := run_lt (Nat.two_pow_pos _)
  have ha : (fm t m).take k ∈ bl (mem t) k (run (mem t) 0 ((fm t m).take k)) := (bl_mem hr).mpr ⟨hb.take k, hal, rfl⟩
  have hc : pc t 0 ((fm t m).take k) (chs t.length r) = x.cost := by
    have := h2.le _ ha
    obtain ⟨f1, f2, f3⟩ := (bl_mem hr).mp h2.mem
    have f4 : pc t 0 x.first (chs t.length r) = x.cost := h2.at_
    have e1 := pc_app t ((fm t m).take k) ((fm t m).drop k) 0 (chs t.length r) (by rw [hal, hsl]; exact hk)
    rw [List.take_append_drop, hcost, hal] at e1
    have e2 := pc_app t x.first ((fm t m).drop k) 0 (chs t.length r) (by rw [f2, hsl]; exact hk)
    rw [f2, f3, f4] at e2
    have e3 : lst t n r ≤ pc t 0 (x.first ++ (fm t m).drop k) (chs t.length r) := h.way_le (f1.append (hb.drop k)) (by rw [List.length_append, List.length_drop, f2, hpl]; omega) (by
      rw [run_append, f3, ← run_append, List.take_append_drop]; exact hrun)
    omega
  have hp := h2.start _ ha hc
  obtain ⟨w, h3, h4⟩ := stt_at (smk_mem h1)
  rw [h3]
  show (fm t m).take w.length = w
  have := (h4.trans hp).trans (List.take_prefix k _)
  exact (List.prefix_iff_eq_take.mp this).symm
theorem msgC_sorted : ∀ k, (msgC k).Pairwise (· < ·)
  | 0 => List.pairwise_singleton _ _
  | k + 1 => by
    have h : ∀ b : Int, ((msgC k).map (b :: ·)).Pairwise (· < ·) := fun b => by
      rw [List.pairwise_map]
      exact (msgC_sorted k).imp fun h => List.cons_lt_cons_iff.mpr (Or.inr ⟨rfl, h⟩)
    show ((msgC k).map (0 :: ·) ++ (msgC k).map (1 :: ·)).Pairwise (· < ·)
    refine List.pairwise_append.mpr ⟨h 0, h 1, fun a ha b hb => ?_⟩
    obtain ⟨x, _, rfl⟩ := List.mem_map.mp ha
    obtain ⟨y, _, rfl⟩ := List.mem_map.mp hb
    exact List.cons_lt_cons_iff.mpr (Or.inl (by decide))
theorem fnd_sorted : (fnd t n r).Pairwise (· < ·) := by
  unfold fnd
  rw [msgA_C]
  exact (msgC_sorted n).filter _
/-- the answer -/
theorem Rv.answer (h : Rv t n r) : ∃ y, (smk t (chs t.length r) (n + mem t)).head? = some (some y) ∧ y.cost = lst t n r ∧ y.first.take n = (fnd t n r).headD [] ∧ y.cnt = ((fnd t n r).length : Int) := by
  have hz := run_0zs (mem t) (n + mem t)
  obtain ⟨y, h1, h2⟩ := smk_some (t := t) (st := chs t.length r) (k := n + mem t) (by rw [h.sl]; exact Nat.le_refl _) (Bits.zeros (n + mem t)) List.length_replicate
  have hz : run (mem t) 0 (List.replicate (n + mem t) 0) = 0 := hz
  rw [hz] at h1 h2
  have hp := Nat.two_pow_pos (mem t)
  have mm : ∀ q, q ∈ bl (mem t) (n + mem t) 0 ↔ Bits q ∧ q.length = n + mem t ∧ run (mem t) 0 q = 0 := fun q => bl_mem hp
  have whole : ∀ m, m.length = n → Bits m → (m ++ zs (mem t)) ∈ bl (mem t) (n + mem t) 0 ∧ pc t 0 (m ++ zs (mem t)) (chs t.length r) = dst (word t m) r := fun m m1 m2 => by
    refine ⟨(mm _).mpr ⟨fm_bits (t := t) m2, by have := fm_length t m; rw [m1] at this; exact this, run_fm m2⟩, pc_word h.g.lo (by rw [h.len, m1])⟩
  obtain ⟨f1, f2, f3⟩ := (mm _).mp h2.mem
  have f4 : pc t 0 y.first (chs t.length r) = y.cost := h2.at_
  have hcost : y.cost = lst t n r := by
    have a1 := h.way_le f1 f2 f3
    obtain ⟨m, m1, m2⟩ := h.lst_at
    obtain ⟨w1, w2⟩ := whole m (msgA_mem m1).1 (msgA_mem m1).2
    have a2 := h2.le _ w1
    omega
  have hfirst : y.first = y.first.take n ++ zs (mem t) := way_end f1 f2 f3
  have hfm : y.first.take n ∈ fnd t n r := fnd_mem.mpr ⟨by rw [List.length_take]; omega, f1.take n, by rw [← h.way f1 f2 f3, f4, hcost]⟩
  refine ⟨y, ?_, hcost, ?_, ?_⟩
  · have hl := smk_length t (chs t.length r) (n + mem t)
    cases e : smk t (chs t.length r) (n + mem t) with
    | nil => rw [e] at hl; simp at hl; omega
    | cons a l => rw [e] at h1; exact congrArg some (show a = some y from h1)
  · cases e : fnd t n r with
    | nil => rw [e] at hfm; cases hfm
    | cons a l =>
      have hs := fnd_sorted (t := t) (n := n) (r := r)
      rw [e] at hs hfm
      rcases List.mem_cons.mp hfm with q | q
      · exact q
      · have lt := (List.pairwise_cons.mp hs).1 _ q
        obtain ⟨m1, m2, m3⟩ := fnd_mem.mp (show a ∈ fnd t n r by rw [e]; exact List.mem_cons_self)
        obtain ⟨w1, w2⟩ := whole a m1 m2
        refine absurd ?_ (h2.min _ w1 (by rw [w2, m3, hcost]))
        rw [hfirst]
        exact ll_app (by rw [m1, List.length_take]; omega) lt
  · rw [h2.cnt]
    have p : ((bl (mem t) (n + mem t) 0).filter fun a => decide (pc t 0 a (chs t.length r) = y.cost)).Perm ((fnd t n r).map fun m => m ++ zs (mem t)) := by
      refine (List.perm_ext_iff_of_nodup ((bl_nodup hp).filter _) (nodup_map h.nodup fun a b _ _ e => List.append_cancel_right e)).mpr fun q => ?_
      rw [List.mem_filter, decide_eq_true_eq, List.mem_map, mm]
      constructor
      · rintro ⟨⟨q1, q2, q3⟩, q4⟩
        refine ⟨q.take n, fnd_mem.mpr ⟨by rw [List.length_take]; omega, q1.take n, by rw [← h.way q1 q2 q3, q4, hcost]⟩, (way_end q1 q2 q3).symm⟩
      · rintro ⟨m, hm, rfl⟩
        obtain ⟨m1, m2, m3⟩ := fnd_mem.mp hm
        obtain ⟨w1, w2⟩ := whole m m1 m2
        exact ⟨(mm _).mp w1, by rw [w2, m3, hcost]⟩
    rw [p.length_eq, List.length_map]
end
end MX
set_option maxHeartbeats 4000000
namespace MX
section
variable {t : Tp} {n : Nat} {r : Rc}
/-- within the free distance the message is the only nearest one -/
theorem Rv.only (h : Rv t n r) {m : List Int} {e : Int} {q : Nat} (hl : m.length = n) (hb : Bits m) (hd : dst (word t m) r = e) (hq : ∀ w : List Int, w.length = r.length → dst w ((word t m).map some) - q ≤ dst w r) (hf : e + q + 1 ≤ frd t) : lst t n r = e ∧ fnd t n r = [m] := by
  have far : ∀ m', m'.length = n → Bits m' → m' ≠ m → e + 1 ≤ dst (word t m') r := fun m' h1 h2 h3 => by
    have a := words_apart h.g h2 hb (by rw [h1, hl]) h3
    have b := hq (word t m') (by rw [word_length, h.len, h1])
    omega
  have hle : lst t n r = e := by
    have a := h.lst_le hb hl
    obtain ⟨m', h1, h2⟩ := h.lst_at
    by_cases k : m' = m
    · rw [← h2, k, hd]
    · have := far m' (msgA_mem h1).1 (msgA_mem h1).2 k; omega
  refine ⟨hle, ?_⟩
  have hm : m ∈ fnd t n r := fnd_mem.mpr ⟨hl, hb, by rw [hd, hle]⟩
  have one : ∀ x, x ∈ fnd t n r → x = m := fun x hx => by
    obtain ⟨h1, h2, h3⟩ := fnd_mem.mp hx
    refine Classical.byContradiction fun k => ?_
    have := far x h1 h2 k; omega
  have nd := h.nodup
  match e : fnd t n r with
  | [] => rw [e] at hm; cases hm
  | [x] => rw [one x (by rw [e]; exact List.mem_cons_self)]
  | x :: y :: l =>
    rw [e] at nd
    have h1 := one x (by rw [e]; exact List.mem_cons_self)
    have h2 := one y (by rw [e]; exact List.mem_cons_of_mem _ List.mem_cons_self)
    exact absurd (by rw [h1, h2]; exact List.mem_cons_self) (List.nodup_cons.mp nd).1
theorem dst_none : ∀ (w : List Int) (k : Nat), dst w (List.replicate k none) = 0
  | [], _ => by unfold dst; rfl
  | _ :: _, 0 => rfl
  | x :: w, k + 1 => by
    show er1 x none + dst w (List.replicate k none) = 0
    rw [dst_none w k]; rfl
theorem none_rv (g : GT t) (hn : t.length * (n + mem t) ≤ 10000) : Rv t n (List.replicate (t.length * (n + mem t)) none) := ⟨g, List.length_replicate, fun b hb => (fun q : some b = none => nomatch q) (List.mem_replicate.mp hb).2, by rw [List.length_replicate]; exact hn⟩
theorem msgC_head : ∀ k, (msgC k).headD [] = zs k
  | 0 => rfl
  | k + 1 => by
    have ih := msgC_head k
    have hl := msgC_length k
    show ((msgC k).map (0 :: ·) ++ _).headD [] = _
    cases e : msgC k with
    | nil => rw [e] at hl; have := Nat.two_pow_pos k; simp at hl; omega
    | cons a l =>
      rw [e] at ih
      have ih : a = zs k := ih
      rw [ih]; rfl
/-- if all is erased, all messages are nearest -/
theorem none_all (g : GT t) (hn : t.length * (n + mem t) ≤ 10000) : lst t n (List.replicate (t.length * (n + mem t)) none) = 0 ∧ gr t n (chs t.length (List.replicate (t.length * (n + mem t)) none)) 0 = zs n ∧ cnt t n (chs t.length (List.replicate (t.length * (n + mem t)) none)) 0 = 2 ^ n := by
  have h := none_rv (t := t) (n := n) g hn
  obtain ⟨m, _, h1⟩ := h.lst_at
  rw [dst_none] at h1
  have hf : fnd t n (List.replicate (t.length * (n + mem t)) none) = msgC n := by
    unfold fnd
    rw [msgA_C]
    refine List.filter_eq_self.mpr fun a _ => ?_
    rw [dst_none, ← h1]; rfl
  refine ⟨h1.symm, by rw [h.gr, hf, msgC_head], by rw [h.cnt, hf, msgC_length, Int.natCast_pow]; rfl⟩
end
/-! ### errors and erased positions -/
theorem dst_set : ∀ {w : List Int} {r : Rc} {i : Nat} (o : Option Int), i < r.length → w.length = r.length → dst w (r.set i o) = dst w r - er1 (w.getD i 0) (r.getD i none) + er1 (w.getD i 0) o
  | x :: w, y :: r, 0, o, _, _ => by
    show er1 x o + dst w r = er1 x y + dst w r - er1 x y + er1 x o
    omega
  | x :: w, y :: r, i + 1, o, h, h2 => by
    show er1 x y + dst w (r.set i o) = er1 x y + dst w r - er1 (w.getD i 0) (r.getD i none) + er1 (w.getD i 0) o
    rw [dst_set o (Nat.lt_of_succ_lt_succ h) (Nat.succ.inj h2)]; omega
  | [], _ :: _, _, _, _, h => by cases h
  | _, [], _, _, h, _ => absurd h (Nat.not_lt_zero _)
/-- k places of the word are changed: the first er of them erased -/
structure Pat (w : List Int) (er k : Nat) (pool : List Int) (r : Rc) : Prop where
  pl : pool.length + k = w.length
  nd : pool.Nodup
  at_ : ∀ x, x ∈ pool → 0 ≤ x ∧ x < (w.length : Int) ∧ r.getD x.toNat none = some (w.getD x.toNat 0)
  len : r.length = w.length
  ob : OBits r
  err : dst w r = ((k - er : Nat) : Int)
  far : ∀ v : List Int, v.length = r.length → dst v (w.map some) - k ≤ dst v r
theorem dst_self : ∀ w : List Int, dst w (w.map some) = 0
  | [] => rfl
  | x :: w => by
    show er1 x (some x) + dst w (w.map some) = 0
    rw [dst_self w, Int.add_zero]
    exact if_pos rfl
theorem Pat.start {w : List Int} (hw : Bits w) (er : Nat) : Pat w er 0 ((List.range w.length).map fun i : Nat => (i : Int)) (w.map some) := by
  refine ⟨by rw [List.length_map, List.length_range]; rfl, nodup_map List.nodup_range fun x y _ _ e => Int.ofNat.inj e, fun x hx => ?_, List.length_map _, hw.obits, by rw [dst_self, Nat.zero_sub]; rfl, fun v _ => by omega⟩
  obtain ⟨i, hi, rfl⟩ := List.mem_map.mp hx
  have hi := List.mem_range.mp hi
  refine ⟨Int.natCast_nonneg _, Int.ofNat_lt.mpr hi, ?_⟩
  rw [Int.toNat_natCast, List.getD_eq_getElem?_getD, List.getElem?_map, List.getElem?_eq_getElem hi, getD_lt hi]; rfl
theorem Pat.step {w : List Int} {er k : Nat} {pool : List Int} {r : Rc} (h : Pat w er k pool r) (hw : Bits w) {i : Nat} {x : Int} (hx : pool[i]? = some x) : Pat w er (k + 1) (pool.eraseIdx i) (r.set x.toNat (if k < er then none else some (1 - w.getD x.toNat 0))) := by
  obtain ⟨hi, rfl⟩ := List.getElem?_eq_some_iff.mp hx
  have hm : pool[i] ∈ pool := List.getElem_mem hi
  obtain ⟨x0, x1, x2⟩ := h.at_ _ hm
  have p : (pool[i] :: pool.eraseIdx i).Perm pool := by
    have e : pool = pool.take i ++ pool[i] :: pool.drop (i + 1) := by rw [← List.drop_eq_getElem_cons hi, List.take_append_drop]
    conv => rhs; rw [e]
    rw [List.eraseIdx_eq_take_drop_succ]
    exact List.perm_middle.symm
  have nd := List.nodup_cons.mp (p.symm.nodup h.nd)
  have hxr : pool[i].toNat < r.length := by rw [h.len]; omega
  have hpl := h.pl
  refine ⟨by rw [List.length_eraseIdx, if_pos hi]; omega, nd.2, fun y hy => ?_, by rw [List.length_set]; exact h.len, fun b hb => ?_, ?_, fun v hv => ?_⟩
  · obtain ⟨y0, y1, y2⟩ := h.at_ y (p.mem_iff.mp (List.mem_cons_of_mem _ hy))
    refine ⟨y0, y1, ?_⟩
    rw [getD_set hxr, if_neg]
    · exact y2
    · intro e
      have : y = pool[i] := by omega
      exact nd.1 (this ▸ hy)
  · rcases List.mem_or_eq_of_mem_set hb with q | q
    · exact h.ob b q
    · split at q
      · cases q
      · rw [Option.some.inj q]
        rcases hw.getD pool[i].toNat with z | z <;> rw [z]
        · exact Or.inr rfl
        · exact Or.inl rfl
  · rw [dst_set _ hxr h.len.symm, x2, h.err]
    have e0 : er1 (w.getD pool[i].toNat 0) (some (w.getD pool[i].toNat 0)) = 0 := by unfold er1; exact if_pos rfl
    rw [e0]
    by_cases q : k < er
    · rw [if_pos q]
      show _ - 0 + 0 = _
      omega
    · rw [if_neg q]
      have e1 : er1 (w.getD pool[i].toNat 0) (some (1 - w.getD pool[i].toNat 0)) = 1 := by
        unfold er1
        exact if_neg (by rcases hw.getD pool[i].toNat with z | z <;> rw [z] <;> decide)
      rw [e1]; omega
  · rw [List.length_set] at hv
    have := h.far v hv
    rw [dst_set _ hxr hv]
    have a := (er1_le (v.getD pool[i].toNat 0) (r.getD pool[i].toNat none)).2
    have b := (er1_le (v.getD pool[i].toNat 0) (if k < er then none else some (1 - w.getD pool[i].toNat 0))).1
    omega
/-- the pattern as a whole -/
structure PatP (t : Tp) (m : List Int) (r : Rc) (e : Int) : Prop where
  len : r.length = (word t m).length
  ob : OBits r
  err : dst (word t m) r = e
  near : ∃ q : Nat, (∀ w : List Int, w.length = r.length → dst w ((word t m).map some) - q ≤ dst w r) ∧ e + q + 1 ≤ frd t
theorem Pat.fin {t : Tp} {m : List Int} {er es : Nat} {pool : List Int} {r : Rc} (h : Pat (word t m) er (er + es) pool r) (hf : (2 * es + er + 1 : Int) ≤ frd t) : PatP t m r (es : Int) :=
  ⟨h.len, h.ob, by rw [h.err]; omega, er + es, h.far, by omega⟩
theorem PatP.rv {t : Tp} {m : List Int} {r : Rc} {e : Int} (h : PatP t m r e) (g : GT t) (hl : t.length * (m.length + mem t) ≤ 10000) : Rv t m.length r :=
  ⟨g, by rw [h.len, word_length], h.ob, by rw [h.len, word_length]; exact hl⟩
theorem PatP.only {t : Tp} {m : List Int} {r : Rc} {e : Int} (h : PatP t m r e) (g : GT t) (hl : t.length * (m.length + mem t) ≤ 10000) (hb : Bits m) : lst t m.length r = e ∧ fnd t m.length r = [m] := by
  obtain ⟨q, h1, h2⟩ := h.near
  exact (h.rv g hl).only rfl hb h.err h1 h2
/-- another message lies farther off -/
theorem PatP.other {t : Tp} {m m' : List Int} {r : Rc} {e : Int} (h : PatP t m r e) (g : GT t) (hb : Bits m) (hb' : Bits m') (hl : m'.length = m.length) (hn : m' ≠ m) : dst (word t m') r ≠ e := by
  obtain ⟨q, h1, h2⟩ := h.near
  have a := words_apart g hb' hb hl hn
  have b := h1 (word t m') (by rw [word_length, h.len, word_length, hl])
  omega
end MX
set_option maxHeartbeats 4000000
namespace NW
open PySem PySem.Spec PyProof.Rows L2 G

abbrev aField (K : PySem.W.Frag) : Addr := He.ga K "Field"
abbrev aLinearCode (K : PySem.W.Frag) : Addr := He.ga K "LinearCode"
abbrev aEncoder (K : PySem.W.Frag) : Addr := He.ga K "Encoder"
abbrev aTrellis (K : PySem.W.Frag) : Addr := He.ga K "Trellis"
abbrev aSummary (K : PySem.W.Frag) : Addr := He.ga K "Summary"
abbrev aPathDecoder (K : PySem.W.Frag) : Addr := He.ga K "PathDecoder"
abbrev FunN (K : PySem.W.Frag) (x q : Str) (st : Stmt) (f : Addr) : Prop := ∃ fd, FunD K x q (defArgs st) (defBody st) (defScope st) [] [] f fd
/-- what the top has made, by names -/
structure Tx (K : PySem.W.Frag) (mg : Str → Option Value) : Prop where
  f_range : mg "range" = none
  f_len : mg "len" = none
  f_list : mg "list" = none
  f_tuple : mg "tuple" = none
  f_int : mg "int" = none
  f_bool : mg "bool" = none
  f_abs : mg "abs" = none
  f_min : mg "min" = none
  f_max : mg "max" = none
  f_sum : mg "sum" = none
  f_sorted : mg "sorted" = none
  f_reversed : mg "reversed" = none
  f_zip : mg "zip" = none
  f_isinstance : mg "isinstance" = none
  i_LARGEST_PRIME : ∃ t, mg "LARGEST_PRIME" = some (.int 31 t)
  i_LARGEST_ORDER : ∃ t, mg "LARGEST_ORDER" = some (.int 256 t)
  i_MOST_ITEMS : ∃ t, mg "MOST_ITEMS" = some (.int 255 t)
  i_MOST_WORDS : ∃ t, mg "MOST_WORDS" = some (.int 4096 t)
  g_int_power : mg "int_power" = some (.ref (He.ga K "int_power"))
  g_is_prime : mg "is_prime" = some (.ref (He.ga K "is_prime"))
  g_base_digits : mg "base_digits" = some (.ref (He.ga K "base_digits"))
  g_is_irreducible : mg "is_irreducible" = some (.ref (He.ga K "is_irreducible"))
  g_is_modulus : mg "is_modulus" = some (.ref (He.ga K "is_modulus"))
  g_check_width : mg "check_width" = some (.ref (He.ga K "check_width"))
  g_row_with_pivot : mg "row_with_pivot" = some (.ref (He.ga K "row_with_pivot"))
  g_without_multiple : mg "without_multiple" = some (.ref (He.ga K "without_multiple"))
  g_reduce_rows : mg "reduce_rows" = some (.ref (He.ga K "reduce_rows"))
  g_kernel : mg "kernel" = some (.ref (He.ga K "kernel"))
  g_check_lengths : mg "check_lengths" = some (.ref (He.ga K "check_lengths"))
  g_erased_positions : mg "erased_positions" = some (.ref (He.ga K "erased_positions"))
  g_errors_beside : mg "errors_beside" = some (.ref (He.ga K "errors_beside"))
  g_is_word : mg "is_word" = some (.ref (He.ga K "is_word"))
  g_is_received : mg "is_received" = some (.ref (He.ga K "is_received"))
  g_zero_word : mg "zero_word" = some (.ref (He.ga K "zero_word"))
  g_check_words : mg "check_words" = some (.ref (He.ga K "check_words"))
  g_add_words : mg "add_words" = some (.ref (He.ga K "add_words"))
  g_scale_word : mg "scale_word" = some (.ref (He.ga K "scale_word"))
  g_check_rows : mg "check_rows" = some (.ref (He.ga K "check_rows"))
  g_is_bit : mg "is_bit" = some (.ref (He.ga K "is_bit"))
  g_has_bits_only : mg "has_bits_only" = some (.ref (He.ga K "has_bits_only"))
  g_checked_taps : mg "checked_taps" = some (.ref (He.ga K "checked_taps"))
  g_message_size : mg "message_size" = some (.ref (He.ga K "message_size"))
  g_step_table : mg "step_table" = some (.ref (He.ga K "step_table"))
  g_received_steps : mg "received_steps" = some (.ref (He.ga K "received_steps"))
  g_costs_to_go : mg "costs_to_go" = some (.ref (He.ga K "costs_to_go"))
  g_best_path : mg "best_path" = some (.ref (He.ga K "best_path"))
  g_nearest_messages : mg "nearest_messages" = some (.ref (He.ga K "nearest_messages"))
  g_is_bound : mg "is_bound" = some (.ref (He.ga K "is_bound"))
  g_check_path : mg "check_path" = some (.ref (He.ga K "check_path"))
  g_weighted_steps : mg "weighted_steps" = some (.ref (He.ga K "weighted_steps"))
  g_ranks_to_zero : mg "ranks_to_zero" = some (.ref (He.ga K "ranks_to_zero"))
  g_weights_to_zero : mg "weights_to_zero" = some (.ref (He.ga K "weights_to_zero"))
  g_free_distance : mg "free_distance" = some (.ref (He.ga K "free_distance"))
  g_check_received : mg "check_received" = some (.ref (He.ga K "check_received"))
  g_nearest : mg "nearest" = some (.ref (He.ga K "nearest"))
  g_common_start : mg "common_start" = some (.ref (He.ga K "common_start"))
  g_merged : mg "merged" = some (.ref (He.ga K "merged"))
  g__law_row : mg "_law_row" = some (.ref (He.ga K "_law_row"))
  g__law_numbers : mg "_law_numbers" = some (.ref (He.ga K "_law_numbers"))
  g__law_same : mg "_law_same" = some (.ref (He.ga K "_law_same"))
  g__law_taps : mg "_law_taps" = some (.ref (He.ga K "_law_taps"))
  g__law_count : mg "_law_count" = some (.ref (He.ga K "_law_count"))
  g__law_step : mg "_law_step" = some (.ref (He.ga K "_law_step"))
  g__law_word : mg "_law_word" = some (.ref (He.ga K "_law_word"))
  g__law_messages : mg "_law_messages" = some (.ref (He.ga K "_law_messages"))
  g__law_differ : mg "_law_differ" = some (.ref (He.ga K "_law_differ"))
  g__law_received : mg "_law_received" = some (.ref (He.ga K "_law_received"))
  g__law_nearest : mg "_law_nearest" = some (.ref (He.ga K "_law_nearest"))
  g__law_free : mg "_law_free" = some (.ref (He.ga K "_law_free"))
  g__law_decoded : mg "_law_decoded" = some (.ref (He.ga K "_law_decoded"))
  g__law_small : mg "_law_small" = some (.ref (He.ga K "_law_small"))
  g__law_pattern : mg "_law_pattern" = some (.ref (He.ga K "_law_pattern"))
  g_law : mg "law" = some (.ref (He.ga K "law"))
  gc_Field : mg "Field" = some (.ref (aField K))
  c_Field : Cls K (aField K)
  mk_Field : Mk K (aField K) (He.ma K (aField K) "__init__")
  n_Field_prime : NoAttr K (aField K) "prime"
  n_Field_modulus : NoAttr K (aField K) "modulus"
  n_Field_degree : NoAttr K (aField K) "degree"
  n_Field_order : NoAttr K (aField K) "order"
  m_Field_digits : Meth K (aField K) "digits" (He.ma K (aField K) "digits")
  m_Field_element : Meth K (aField K) "element" (He.ma K (aField K) "element")
  m_Field_plus : Meth K (aField K) "plus" (He.ma K (aField K) "plus")
  m_Field_negative : Meth K (aField K) "negative" (He.ma K (aField K) "negative")
  m_Field_minus : Meth K (aField K) "minus" (He.ma K (aField K) "minus")
  m_Field_times : Meth K (aField K) "times" (He.ma K (aField K) "times")
  m_Field_inverse : Meth K (aField K) "inverse" (He.ma K (aField K) "inverse")
  gc_LinearCode : mg "LinearCode" = some (.ref (aLinearCode K))
  c_LinearCode : Cls K (aLinearCode K)
  mk_LinearCode : Mk K (aLinearCode K) (He.ma K (aLinearCode K) "__init__")
  n_LinearCode_field : NoAttr K (aLinearCode K) "field"
  n_LinearCode_length : NoAttr K (aLinearCode K) "length"
  n_LinearCode_dimension : NoAttr K (aLinearCode K) "dimension"
  n_LinearCode_rows : NoAttr K (aLinearCode K) "_rows"
  n_LinearCode_pivots : NoAttr K (aLinearCode K) "_pivots"
  n_LinearCode_checks : NoAttr K (aLinearCode K) "_checks"
  n_LinearCode_size : NoAttr K (aLinearCode K) "_size"
  m_LinearCode_words : Meth K (aLinearCode K) "words" (He.ma K (aLinearCode K) "words")
  gc_Encoder : mg "Encoder" = some (.ref (aEncoder K))
  c_Encoder : Cls K (aEncoder K)
  mk_Encoder : Mk K (aEncoder K) (He.ma K (aEncoder K) "__init__")
  n_Encoder_taps : NoAttr K (aEncoder K) "taps"
  n_Encoder_memory : NoAttr K (aEncoder K) "memory"
  n_Encoder_outputs : NoAttr K (aEncoder K) "outputs"
  n_Encoder_state_count : NoAttr K (aEncoder K) "state_count"
  m_Encoder_advance : Meth K (aEncoder K) "advance" (He.ma K (aEncoder K) "advance")
  m_Encoder__fed : Meth K (aEncoder K) "_fed" (He.ma K (aEncoder K) "_fed")
  m_Encoder_word_for : Meth K (aEncoder K) "word_for" (He.ma K (aEncoder K) "word_for")
  m_Encoder_linear : Meth K (aEncoder K) "linear" (He.ma K (aEncoder K) "linear")
  gc_Trellis : mg "Trellis" = some (.ref (aTrellis K))
  c_Trellis : Cls K (aTrellis K)
  mk_Trellis : Mk K (aTrellis K) (He.ma K (aTrellis K) "__init__")
  n_Trellis_steps : NoAttr K (aTrellis K) "steps"
  n_Trellis_message_length : NoAttr K (aTrellis K) "message_length"
  n_Trellis_table : NoAttr K (aTrellis K) "table"
  m_Trellis_moves_from : Meth K (aTrellis K) "moves_from" (He.ma K (aTrellis K) "moves_from")
  m_Trellis_costs_table : Meth K (aTrellis K) "costs_table" (He.ma K (aTrellis K) "costs_table")
  m_Trellis_best_moves : Meth K (aTrellis K) "best_moves" (He.ma K (aTrellis K) "best_moves")
  gc_Summary : mg "Summary" = some (.ref (aSummary K))
  c_Summary : Cls K (aSummary K)
  mk_Summary : Mk K (aSummary K) (He.ma K (aSummary K) "__init__")
  n_Summary_cost : NoAttr K (aSummary K) "cost"
  n_Summary_count_of : NoAttr K (aSummary K) "count_of"
  n_Summary_first : NoAttr K (aSummary K) "first"
  n_Summary_start_of : NoAttr K (aSummary K) "start_of"
  m_Summary_grown : Meth K (aSummary K) "grown" (He.ma K (aSummary K) "grown")
  gc_PathDecoder : mg "PathDecoder" = some (.ref (aPathDecoder K))
  c_PathDecoder : Cls K (aPathDecoder K)
  mk_PathDecoder : Mk K (aPathDecoder K) (He.ma K (aPathDecoder K) "__init__")
  n_PathDecoder_encoder : NoAttr K (aPathDecoder K) "encoder"
  n_PathDecoder_table : NoAttr K (aPathDecoder K) "_table"
  n_PathDecoder_steps : NoAttr K (aPathDecoder K) "steps"
  n_PathDecoder_summaries : NoAttr K (aPathDecoder K) "_summaries"
  m_PathDecoder_restart : Meth K (aPathDecoder K) "restart" (He.ma K (aPathDecoder K) "restart")
  m_PathDecoder_take : Meth K (aPathDecoder K) "take" (He.ma K (aPathDecoder K) "take")
  m_PathDecoder_answer : Meth K (aPathDecoder K) "answer" (He.ma K (aPathDecoder K) "answer")
  d_int_power : FunN K "int_power" "int_power" s_int_power (He.ga K "int_power")
  d_is_prime : FunN K "is_prime" "is_prime" s_is_prime (He.ga K "is_prime")
  d_base_digits : FunN K "base_digits" "base_digits" s_base_digits (He.ga K "base_digits")
  d_is_irreducible : FunN K "is_irreducible" "is_irreducible" s_is_irreducible (He.ga K "is_irreducible")
  d_is_modulus : FunN K "is_modulus" "is_modulus" s_is_modulus (He.ga K "is_modulus")
  d_Field_digits : FunN K "digits" "Field.digits" s_Field_digits (He.ma K (aField K) "digits")
  d_Field_element : FunN K "element" "Field.element" s_Field_element (He.ma K (aField K) "element")
  d_Field_plus : FunN K "plus" "Field.plus" s_Field_plus (He.ma K (aField K) "plus")
  d_Field_negative : FunN K "negative" "Field.negative" s_Field_negative (He.ma K (aField K) "negative")
  d_Field_minus : FunN K "minus" "Field.minus" s_Field_minus (He.ma K (aField K) "minus")
  d_Field_times : FunN K "times" "Field.times" s_Field_times (He.ma K (aField K) "times")
  d_Field_inverse : FunN K "inverse" "Field.inverse" s_Field_inverse (He.ma K (aField K) "inverse")
  d_check_width : FunN K "check_width" "check_width" s_check_width (He.ga K "check_width")
  d_row_with_pivot : FunN K "row_with_pivot" "row_with_pivot" s_row_with_pivot (He.ga K "row_with_pivot")
  d_without_multiple : FunN K "without_multiple" "without_multiple" s_without_multiple (He.ga K "without_multiple")
  d_reduce_rows : FunN K "reduce_rows" "reduce_rows" s_reduce_rows (He.ga K "reduce_rows")
  d_kernel : FunN K "kernel" "kernel" s_kernel (He.ga K "kernel")
  d_check_lengths : FunN K "check_lengths" "check_lengths" s_check_lengths (He.ga K "check_lengths")
  d_erased_positions : FunN K "erased_positions" "erased_positions" s_erased_positions (He.ga K "erased_positions")
  d_errors_beside : FunN K "errors_beside" "errors_beside" s_errors_beside (He.ga K "errors_beside")
  d_is_word : FunN K "is_word" "is_word" s_is_word (He.ga K "is_word")
  d_is_received : FunN K "is_received" "is_received" s_is_received (He.ga K "is_received")
  d_zero_word : FunN K "zero_word" "zero_word" s_zero_word (He.ga K "zero_word")
  d_check_words : FunN K "check_words" "check_words" s_check_words (He.ga K "check_words")
  d_add_words : FunN K "add_words" "add_words" s_add_words (He.ga K "add_words")
  d_scale_word : FunN K "scale_word" "scale_word" s_scale_word (He.ga K "scale_word")
  d_check_rows : FunN K "check_rows" "check_rows" s_check_rows (He.ga K "check_rows")
  d_LinearCode___init__ : FunN K "__init__" "LinearCode.__init__" s_LinearCode___init__ (He.ma K (aLinearCode K) "__init__")
  d_LinearCode_words : FunN K "words" "LinearCode.words" s_LinearCode_words (He.ma K (aLinearCode K) "words")
  d_is_bit : FunN K "is_bit" "is_bit" s_is_bit (He.ga K "is_bit")
  d_has_bits_only : FunN K "has_bits_only" "has_bits_only" s_has_bits_only (He.ga K "has_bits_only")
  d_checked_taps : FunN K "checked_taps" "checked_taps" s_checked_taps (He.ga K "checked_taps")
  d_message_size : FunN K "message_size" "message_size" s_message_size (He.ga K "message_size")
  d_step_table : FunN K "step_table" "step_table" s_step_table (He.ga K "step_table")
  d_Encoder___init__ : FunN K "__init__" "Encoder.__init__" s_Encoder___init__ (He.ma K (aEncoder K) "__init__")
  d_Encoder_advance : FunN K "advance" "Encoder.advance" s_Encoder_advance (He.ma K (aEncoder K) "advance")
  d_Encoder__fed : FunN K "_fed" "Encoder._fed" s_Encoder__fed (He.ma K (aEncoder K) "_fed")
  d_Encoder_word_for : FunN K "word_for" "Encoder.word_for" s_Encoder_word_for (He.ma K (aEncoder K) "word_for")
  d_Encoder_linear : FunN K "linear" "Encoder.linear" s_Encoder_linear (He.ma K (aEncoder K) "linear")
  d_received_steps : FunN K "received_steps" "received_steps" s_received_steps (He.ga K "received_steps")
  d_Trellis___init__ : FunN K "__init__" "Trellis.__init__" s_Trellis___init__ (He.ma K (aTrellis K) "__init__")
  d_Trellis_moves_from : FunN K "moves_from" "Trellis.moves_from" s_Trellis_moves_from (He.ma K (aTrellis K) "moves_from")
  d_Trellis_costs_table : FunN K "costs_table" "Trellis.costs_table" s_Trellis_costs_table (He.ma K (aTrellis K) "costs_table")
  d_Trellis_best_moves : FunN K "best_moves" "Trellis.best_moves" s_Trellis_best_moves (He.ma K (aTrellis K) "best_moves")
  d_costs_to_go : FunN K "costs_to_go" "costs_to_go" s_costs_to_go (He.ga K "costs_to_go")
  d_best_path : FunN K "best_path" "best_path" s_best_path (He.ga K "best_path")
  d_nearest_messages : FunN K "nearest_messages" "nearest_messages" s_nearest_messages (He.ga K "nearest_messages")
  d_is_bound : FunN K "is_bound" "is_bound" s_is_bound (He.ga K "is_bound")
  d_check_path : FunN K "check_path" "check_path" s_check_path (He.ga K "check_path")
  d_weighted_steps : FunN K "weighted_steps" "weighted_steps" s_weighted_steps (He.ga K "weighted_steps")
  d_ranks_to_zero : FunN K "ranks_to_zero" "ranks_to_zero" s_ranks_to_zero (He.ga K "ranks_to_zero")
  d_weights_to_zero : FunN K "weights_to_zero" "weights_to_zero" s_weights_to_zero (He.ga K "weights_to_zero")
  d_free_distance : FunN K "free_distance" "free_distance" s_free_distance (He.ga K "free_distance")
  d_check_received : FunN K "check_received" "check_received" s_check_received (He.ga K "check_received")
  d_nearest : FunN K "nearest" "nearest" s_nearest (He.ga K "nearest")
  d_common_start : FunN K "common_start" "common_start" s_common_start (He.ga K "common_start")
  d_Summary___init__ : FunN K "__init__" "Summary.__init__" s_Summary___init__ (He.ma K (aSummary K) "__init__")
  d_Summary_grown : FunN K "grown" "Summary.grown" s_Summary_grown (He.ma K (aSummary K) "grown")
  d_merged : FunN K "merged" "merged" s_merged (He.ga K "merged")
  d_PathDecoder___init__ : FunN K "__init__" "PathDecoder.__init__" s_PathDecoder___init__ (He.ma K (aPathDecoder K) "__init__")
  d_PathDecoder_restart : FunN K "restart" "PathDecoder.restart" s_PathDecoder_restart (He.ma K (aPathDecoder K) "restart")
  d_PathDecoder_take : FunN K "take" "PathDecoder.take" s_PathDecoder_take (He.ma K (aPathDecoder K) "take")
  d_PathDecoder_answer : FunN K "answer" "PathDecoder.answer" s_PathDecoder_answer (He.ma K (aPathDecoder K) "answer")
  d__law_row : FunN K "_law_row" "_law_row" s__law_row (He.ga K "_law_row")
  d__law_numbers : FunN K "_law_numbers" "_law_numbers" s__law_numbers (He.ga K "_law_numbers")
  d__law_same : FunN K "_law_same" "_law_same" s__law_same (He.ga K "_law_same")
  d__law_taps : FunN K "_law_taps" "_law_taps" s__law_taps (He.ga K "_law_taps")
  d__law_count : FunN K "_law_count" "_law_count" s__law_count (He.ga K "_law_count")
  d__law_step : FunN K "_law_step" "_law_step" s__law_step (He.ga K "_law_step")
  d__law_word : FunN K "_law_word" "_law_word" s__law_word (He.ga K "_law_word")
  d__law_messages : FunN K "_law_messages" "_law_messages" s__law_messages (He.ga K "_law_messages")
  d__law_differ : FunN K "_law_differ" "_law_differ" s__law_differ (He.ga K "_law_differ")
  d__law_received : FunN K "_law_received" "_law_received" s__law_received (He.ga K "_law_received")
  d__law_nearest : FunN K "_law_nearest" "_law_nearest" s__law_nearest (He.ga K "_law_nearest")
  d__law_free : FunN K "_law_free" "_law_free" s__law_free (He.ga K "_law_free")
  d__law_decoded : FunN K "_law_decoded" "_law_decoded" s__law_decoded (He.ga K "_law_decoded")
  d__law_small : FunN K "_law_small" "_law_small" s__law_small (He.ga K "_law_small")
  d__law_pattern : FunN K "_law_pattern" "_law_pattern" s__law_pattern (He.ga K "_law_pattern")
  d_law : FunN K "law" "law" s_law (He.ga K "law")
  dF : ∃ fd, FunD K "__init__" "Field.__init__" (defArgs s_Field___init__) (defBody s_Field___init__) (defScope s_Field___init__) [.ref (He.dflAt ("Field", some "__init__") 0 K)] [] (He.ma K (aField K) "__init__") fd
  tF : ∀ H : Hp, SqT K H (He.dflAt ("Field", some "__init__") 0 K) [.int 0, .int 1]
  pS : ∃ p g, PropOf K (aPathDecoder K) "settled" p g ∧ FunN K "settled" "PathDecoder.settled" s_PathDecoder_settled g

/-! ### calls in bundles -/
/-- a def's promise, with how its arguments bind -/
structure Pr (P : Program) (w : World) (K : PySem.W.Frag) (mg : Str → Option Value) (base : Heap) (f : Addr) (k : Nat) (ps : List Str) (sp : Sp) (dvs : List V) : Prop where
  ex : ∃ (fd : FuncData) (ds : List Value), FnOk P w K mg base CX0 k f fd ps sp ∧ Binds K fd ps ds ∧ Vals dvs ds ∧ PySem.W.keepIn K (.ref f) = true
section
variable {P : Program} {w : World} {K : PySem.W.Frag} {mg : Str → Option Value} {base : Heap} {f : Addr} {k : Nat} {ps : List Str} {sp : Sp} {dvs : List V}
noncomputable def Pr.fd (c : Pr P w K mg base f k ps sp dvs) : FuncData := Classical.choose c.ex
noncomputable def Pr.ds (c : Pr P w K mg base f k ps sp dvs) : List Value := Classical.choose (Classical.choose_spec c.ex)
theorem Pr.F (c : Pr P w K mg base f k ps sp dvs) : FnOk P w K mg base CX0 k f c.fd ps sp := (Classical.choose_spec (Classical.choose_spec c.ex)).1
theorem Pr.b (c : Pr P w K mg base f k ps sp dvs) : Binds K c.fd ps c.ds := (Classical.choose_spec (Classical.choose_spec c.ex)).2.1
theorem Pr.v (c : Pr P w K mg base f k ps sp dvs) : Vals dvs c.ds := (Classical.choose_spec (Classical.choose_spec c.ex)).2.2.1
theorem Pr.kp (c : Pr P w K mg base f k ps sp dvs) : PySem.W.keepIn K (.ref f) = true := (Classical.choose_spec (Classical.choose_spec c.ex)).2.2.2
end
section
variable {X : Cx} {k j : Nat} {f C : Addr} {ps : List Str} {sp : Sp} {x m : Str} {p pos apos : Pos} {e o : Expr} {es : List Expr} {ta : TE} {t : TA} {dvs : List V}
theorem pe_cal (c : Pr X.prog X.w X.K X.mg X.base f k ps sp dvs) (hm : X.mg x = some (.ref f)) (hr : Room j X.A) (ha : PA X (e :: es) t) (hk : k ≤ j := by decide) (hg : Gl X x := by rfl) (hdb : (x == ("__debug__" : Str)) = false := by decide)
    (he : starEach (e :: es) X.env = (false, eval e X.env) :: starEach es X.env := by rfl) (hpl : (backTo pos (starEach es X.env)).any (·.1) = false := by rfl) : PE X (.Call (.Name x p) (e :: es) [] pos) (tCall sp dvs E0 t) :=
  pe_call c.F (hr.mono hk) hg hm c.kp c.b c.v pass0 ha hdb he hpl
theorem bb_abs : bootBuiltins "abs" = some (.builtin "abs") := by decide +kernel
theorem bb_min : bootBuiltins "min" = some (.builtin "min") := by decide +kernel
theorem bb_max : bootBuiltins "max" = some (.builtin "max") := by decide +kernel
theorem bb_sum : bootBuiltins "sum" = some (.builtin "sum") := by decide +kernel
theorem bb_sorted : bootBuiltins "sorted" = some (.builtin "sorted") := by decide +kernel
theorem bb_isinstance : bootBuiltins "isinstance" = some (.builtin "isinstance") := by decide +kernel
theorem bb_int : bootBuiltins "int" = some (.type "int") := by decide +kernel
theorem bb_bool : bootBuiltins "bool" = some (.type "bool") := by decide +kernel
theorem bb_list : bootBuiltins "list" = some (.type "list") := by decide +kernel
theorem bb_tuple : bootBuiltins "tuple" = some (.type "tuple") := by decide +kernel
/-- a module's whole number -/
theorem pe_gi {i : Int} (hm : ∃ t, X.mg x = some (.int i t)) (hg : Gl X x := by rfl) (hdb : (x == ("__debug__" : Str)) = false := by decide) : PE X (.Name x pos) (tC (.int i)) := by
  obtain ⟨t, h⟩ := hm
  exact pe_glob hg h ⟨t, rfl⟩ hdb
end
/-! ### a def's promise from its body -/
section
variable {P : Program} {w : World} {K : PySem.W.Frag} {mg : Str → Option Value} {base : Heap} {f : Addr} {x q : Str} {st : Stmt} {N ps : List Str} {k n : Nat} {sp : Sp}
/-- the context of a def's body -/
abbrev bx (P : Program) (w : World) (K : PySem.W.Frag) (mg : Str → Option Value) (base : Heap) (N : List Str) (q : Str) (sc : Scope) (f : Addr) (cdv : Value) (A : Around) (outer : List Env) (s : Shared) (H : Hp) (E : XK) : Cx := (cxOf CX0 P w K mg base N q sc f cdv A outer s H E).nox
theorem pr_of (hF : FunN K x q st f) (S : FnScope N ps (defScope st)) (hb : ∀ (kV doc pm : Value) (an : Option Addr) (cdv ct : Value) (us : List Value), us.length = ps.length → bindArgs (PySem.W.fnOf x q (defArgs st) (defBody st) (defScope st) .none kV doc pm an cdv ct) ⟨us, []⟩ = pure (ps.zip us))
    (len : ∀ vs H Q E, sp vs H Q E → vs.length = ps.length)
    (body : ∀ (cdv : Value) (A : Around) (outer : List Env) (s : Shared) (H : Hp) (E : XK), Room k (A.deeper (envOfC q (defScope st) s.heap.objs.size f cdv)) →
      ∃ t, PSs (bx P w K mg base N q (defScope st) f cdv A outer s H E) (defBody st) t ∧ ∀ vs Q, sp vs H Q E → t (Dq Q) (L2.start N vs) H) : Pr P w K mg base f (k + 1) ps sp [] := by
  obtain ⟨fd, F⟩ := hF
  refine ⟨fd, [], F.ok S len fun cdv A outer s H vs Q E hr h => ?_, ?_, .nil, F.kp⟩
  · obtain ⟨t, h1, h2⟩ := body cdv A outer s H E hr
    exact ⟨t, h1.nox, h2 vs Q h⟩
  · obtain ⟨oc, od, dV, kV, doc, pm, an, cdv, ct, osl, rfl, _, _, dv, _⟩ := F.ex
    rcases dv with ⟨_, rfl⟩ | ⟨z, _⟩
    · exact .all fun us hl => hb kV doc pm an cdv ct us hl
    · exact absurd rfl z
/-- from the logic -/
theorem en1 {A1 Y : Type} {R1 : Rel A1} [m1 : Mn R1] {pre : A1 → Prop} {R : Rel Y} {post : A1 → Y → Prop} {t : TS} {H : Hp} {E : XK} (hN : N.length = 1 + n)
    (h : ∀ B x1 Q, pre x1 → RtOk B R (post x1) Q → Wn B (sf R1 x1 :: List.replicate n .any) (t (Dq Q))) : ∀ vs Q, spP1 R1 pre R post vs H Q E → t (Dq Q) (L2.start N vs) H := by
  rintro vs Q ⟨F, v1, x1, rfl, s, r1, hp, k⟩
  exact h ⟨F, H⟩ x1 Q hp (fun F' H' v y e r p => k F' H' v y e r p) F H _ (env0 (ss := [⟨_, R1, m1, x1⟩]) s ⟨r1, trivial⟩ (by rw [hN]; rfl))
theorem en2 {A1 A2 Y : Type} {R1 : Rel A1} {R2 : Rel A2} [m1 : Mn R1] [m2 : Mn R2] {pre : A1 → A2 → Prop} {R : Rel Y} {post : A1 → A2 → Y → Prop} {t : TS} {H : Hp} {E : XK} (hN : N.length = 2 + n)
    (h : ∀ B x1 x2 Q, pre x1 x2 → RtOk B R (post x1 x2) Q → Wn B (sf R1 x1 :: sf R2 x2 :: List.replicate n .any) (t (Dq Q))) : ∀ vs Q, spP2 R1 R2 pre R post vs H Q E → t (Dq Q) (L2.start N vs) H := by
  rintro vs Q ⟨F, v1, v2, x1, x2, rfl, s, r1, r2, hp, k⟩
  exact h ⟨F, H⟩ x1 x2 Q hp (fun F' H' v y e r p => k F' H' v y e r p) F H _ (env0 (ss := [⟨_, R1, m1, x1⟩, ⟨_, R2, m2, x2⟩]) s ⟨r1, r2, trivial⟩ (by rw [hN]; rfl))
theorem en3 {A1 A2 A3 Y : Type} {R1 : Rel A1} {R2 : Rel A2} {R3 : Rel A3} [m1 : Mn R1] [m2 : Mn R2] [m3 : Mn R3] {pre : A1 → A2 → A3 → Prop} {R : Rel Y} {post : A1 → A2 → A3 → Y → Prop} {t : TS} {H : Hp} {E : XK} (hN : N.length = 3 + n)
    (h : ∀ B x1 x2 x3 Q, pre x1 x2 x3 → RtOk B R (post x1 x2 x3) Q → Wn B (sf R1 x1 :: sf R2 x2 :: sf R3 x3 :: List.replicate n .any) (t (Dq Q))) : ∀ vs Q, spP3 R1 R2 R3 pre R post vs H Q E → t (Dq Q) (L2.start N vs) H := by
  rintro vs Q ⟨F, v1, v2, v3, x1, x2, x3, rfl, s, r1, r2, r3, hp, k⟩
  exact h ⟨F, H⟩ x1 x2 x3 Q hp (fun F' H' v y e r p => k F' H' v y e r p) F H _ (env0 (ss := [⟨_, R1, m1, x1⟩, ⟨_, R2, m2, x2⟩, ⟨_, R3, m3, x3⟩]) s ⟨r1, r2, r3, trivial⟩ (by rw [hN]; rfl))
theorem en4 {A1 A2 A3 A4 Y : Type} {R1 : Rel A1} {R2 : Rel A2} {R3 : Rel A3} {R4 : Rel A4} [m1 : Mn R1] [m2 : Mn R2] [m3 : Mn R3] [m4 : Mn R4] {pre : A1 → A2 → A3 → A4 → Prop} {R : Rel Y} {post : A1 → A2 → A3 → A4 → Y → Prop} {t : TS} {H : Hp} {E : XK} (hN : N.length = 4 + n)
    (h : ∀ B x1 x2 x3 x4 Q, pre x1 x2 x3 x4 → RtOk B R (post x1 x2 x3 x4) Q → Wn B (sf R1 x1 :: sf R2 x2 :: sf R3 x3 :: sf R4 x4 :: List.replicate n .any) (t (Dq Q))) : ∀ vs Q, spP4 R1 R2 R3 R4 pre R post vs H Q E → t (Dq Q) (L2.start N vs) H := by
  rintro vs Q ⟨F, v1, v2, v3, v4, x1, x2, x3, x4, rfl, s, r1, r2, r3, r4, hp, k⟩
  exact h ⟨F, H⟩ x1 x2 x3 x4 Q hp (fun F' H' v y e r p => k F' H' v y e r p) F H _ (env0 (ss := [⟨_, R1, m1, x1⟩, ⟨_, R2, m2, x2⟩, ⟨_, R3, m3, x3⟩, ⟨_, R4, m4, x4⟩]) s ⟨r1, r2, r3, r4, trivial⟩ (by rw [hN]; rfl))
theorem en5 {A1 A2 A3 A4 A5 Y : Type} {R1 : Rel A1} {R2 : Rel A2} {R3 : Rel A3} {R4 : Rel A4} {R5 : Rel A5} [m1 : Mn R1] [m2 : Mn R2] [m3 : Mn R3] [m4 : Mn R4] [m5 : Mn R5] {pre : A1 → A2 → A3 → A4 → A5 → Prop} {R : Rel Y} {post : A1 → A2 → A3 → A4 → A5 → Y → Prop} {t : TS} {H : Hp} {E : XK} (hN : N.length = 5 + n)
    (h : ∀ B x1 x2 x3 x4 x5 Q, pre x1 x2 x3 x4 x5 → RtOk B R (post x1 x2 x3 x4 x5) Q → Wn B (sf R1 x1 :: sf R2 x2 :: sf R3 x3 :: sf R4 x4 :: sf R5 x5 :: List.replicate n .any) (t (Dq Q))) : ∀ vs Q, spP5 R1 R2 R3 R4 R5 pre R post vs H Q E → t (Dq Q) (L2.start N vs) H := by
  rintro vs Q ⟨F, v1, v2, v3, v4, v5, x1, x2, x3, x4, x5, rfl, s, r1, r2, r3, r4, r5, hp, k⟩
  exact h ⟨F, H⟩ x1 x2 x3 x4 x5 Q hp (fun F' H' v y e r p => k F' H' v y e r p) F H _ (env0 (ss := [⟨_, R1, m1, x1⟩, ⟨_, R2, m2, x2⟩, ⟨_, R3, m3, x3⟩, ⟨_, R4, m4, x4⟩, ⟨_, R5, m5, x5⟩]) s ⟨r1, r2, r3, r4, r5, trivial⟩ (by rw [hN]; rfl))
theorem len1 {A1 Y : Type} {R1 : Rel A1} {pre : A1 → Prop} {R : Rel Y} {post : A1 → Y → Prop} {y1 : Str} : ∀ vs H Q E, spP1 R1 pre R post vs H Q E → vs.length = [y1].length := by
  rintro vs H Q E ⟨F, v1, x1, rfl, _⟩; rfl
theorem len2 {A1 A2 Y : Type} {R1 : Rel A1} {R2 : Rel A2} {pre : A1 → A2 → Prop} {R : Rel Y} {post : A1 → A2 → Y → Prop} {y1 y2 : Str} : ∀ vs H Q E, spP2 R1 R2 pre R post vs H Q E → vs.length = [y1, y2].length := by
  rintro vs H Q E ⟨F, v1, v2, x1, x2, rfl, _⟩; rfl
theorem len3 {A1 A2 A3 Y : Type} {R1 : Rel A1} {R2 : Rel A2} {R3 : Rel A3} {pre : A1 → A2 → A3 → Prop} {R : Rel Y} {post : A1 → A2 → A3 → Y → Prop} {y1 y2 y3 : Str} : ∀ vs H Q E, spP3 R1 R2 R3 pre R post vs H Q E → vs.length = [y1, y2, y3].length := by
  rintro vs H Q E ⟨F, v1, v2, v3, x1, x2, x3, rfl, _⟩; rfl
theorem len4 {A1 A2 A3 A4 Y : Type} {R1 : Rel A1} {R2 : Rel A2} {R3 : Rel A3} {R4 : Rel A4} {pre : A1 → A2 → A3 → A4 → Prop} {R : Rel Y} {post : A1 → A2 → A3 → A4 → Y → Prop} {y1 y2 y3 y4 : Str} : ∀ vs H Q E, spP4 R1 R2 R3 R4 pre R post vs H Q E → vs.length = [y1, y2, y3, y4].length := by
  rintro vs H Q E ⟨F, v1, v2, v3, v4, x1, x2, x3, x4, rfl, _⟩; rfl
theorem len5 {A1 A2 A3 A4 A5 Y : Type} {R1 : Rel A1} {R2 : Rel A2} {R3 : Rel A3} {R4 : Rel A4} {R5 : Rel A5} {pre : A1 → A2 → A3 → A4 → A5 → Prop} {R : Rel Y} {post : A1 → A2 → A3 → A4 → A5 → Y → Prop} {y1 y2 y3 y4 y5 : Str} : ∀ vs H Q E, spP5 R1 R2 R3 R4 R5 pre R post vs H Q E → vs.length = [y1, y2, y3, y4, y5].length := by
  rintro vs H Q E ⟨F, v1, v2, v3, v4, v5, x1, x2, x3, x4, x5, rfl, _⟩; rfl
/-- an __init__, from the logic -/
theorem lenI {Z Y : Type} {C : Addr} {R : Rel Y} {ss : Z → List Fz} {pre : Z → Prop} {g : Z → Y} (hl : ∀ z, (ss z).length + 1 = ps.length) : ∀ vs H Q E, spI' C R ss pre g vs H Q E → vs.length = ps.length := by
  rintro vs H Q E ⟨z, _, F, p, dx, ws, rfl, _, _, _, r, _⟩
  have e : ∀ {us : List V} {ts : List Fz}, ArgOk F us ts → us.length = ts.length := by
    intro us
    induction us with
    | nil => intro ts h; cases ts with
      | nil => rfl
      | cons _ _ => exact h.elim
    | cons u us ih => intro ts h; cases ts with
      | nil => exact h.elim
      | cons _ ts => exact congrArg (· + 1) (ih h.2)
  rw [← hl z, ← e r]; rfl
theorem envI {F H : Hp} {p C dx : Addr} {ws : List V} {ss : List Fz} {N : List Str} {x0 : Str} {n : Nat} (hp : H p = some (.ins C dx [])) (hf : F p = none) (s : Same F H) (h : ArgOk F ws ss) (hN : N.length = ss.length + n) :
    EnvOk ⟨F, hide p H⟩ (.mo p C [] :: (ss.map Sl.fz ++ List.replicate n .any)) F H (L2.start (x0 :: N) (.ref p :: ws)) := by
  have e := env0 (n := n) s h hN
  have es : L2.start (x0 :: N) (.ref p :: ws) = some (.ref p) :: L2.start N ws := by
    unfold L2.start
    rw [List.map_cons, List.length_cons, List.length_cons, Nat.add_sub_add_right]
    rfl
  have hs : Same F (hide p H) := fun b o k => by
    rw [hide_ne (fun z => by rw [z, hf] at k; cases k)]
    exact s b o k
  have hno : ∀ (i : Nat) (t : Sl), (ss.map Sl.fz ++ List.replicate n .any)[i]? = some t → t.own = false ∧ ∀ (H1 : Hp) (o : Option V), SlOk H F H t o → SlOk H1 F H t o := fun i t q => by
    rcases List.mem_append.mp (List.mem_of_getElem? q) with q | q
    · obtain ⟨z, _, rfl⟩ := List.mem_map.mp q
      exact ⟨rfl, fun _ _ k => k⟩
    · rw [(List.mem_replicate.mp q).2]
      exact ⟨rfl, fun _ _ k => k⟩
  rw [es]
  refine ⟨⟨Same.refl _, fun b o k => ?_, s, fun b a _ => a⟩, congrArg (· + 1) e.len, fun i t q => ?_, fun i j t u nn a b c d => ?_⟩
  · have k : hide p H b = some o := k
    by_cases z : b = p
    · rw [z, hide_same] at k; cases k
    · rw [hide_ne z] at k; exact k
  · cases i with
    | zero => cases q; exact ⟨_, rfl, dx, [], rfl, hf, hide_same, hp, trivial⟩
    | succ i =>
      obtain ⟨o, a, b⟩ := e.ok i t q
      exact ⟨o, a, (hno i t q).2 _ _ b⟩
  · cases i with
    | zero => cases j with
      | zero => exact absurd rfl nn
      | succ j => rw [(hno j u b).1] at d; cases d
    | succ i => rw [(hno i t a).1] at c; cases c
theorem enI {Z Y : Type} {C : Addr} {R : Rel Y} {ss : Z → List Fz} {pre : Z → Prop} {g : Z → Y} {t : TS} {H : Hp} {E : XK} {x0 : Str} (hN : ∀ z, N.length = (ss z).length + n)
    (h : ∀ B p z Q, pre z → (∀ F' H', Ex B.F B.H F' H' → R F' (.ref p) (g z) → Q .non H') → Wn B (.mo p C [] :: ((ss z).map Sl.fz ++ List.replicate n .any)) (t (Dq Q))) : ∀ vs Q, spI' C R ss pre g vs H Q E → t (Dq Q) (L2.start (x0 :: N) vs) H := by
  rintro vs Q ⟨z, hz, F, p, dx, ws, rfl, hp, hf, s, r, k⟩
  exact h ⟨F, hide p H⟩ p z Q hz (fun F' H' e r => k F' H' e r) F H _ (envI hp hf s r (hN z))
end
section
variable {B : Wd} {Γ : List Sl} {Y Z : Type} {R : Rel Y} {E : XK} {C : Addr}
/-- C(e, ..), the last argument a default -/
theorem ev_makeD {ss : Z → List Fz} {pre : Z → Prop} {g : Z → Y} {t : TA} {d : V} {s1 : List Fz} {s2 : Fz} (z : Z) (h : EvA B Γ t s1) (he : ss z = s1 ++ [s2]) (hd : ∀ F, s2.ok F d) (hp : pre z) : Ev B Γ (tMake C (spI' C R ss pre g) [d] E t) R (g z) := fun F H σ e Q q =>
  h F H σ e _ fun F1 H1 vs e1 r1 x dx hx hdx hne => by
    have r2 : ∀ {us : List V} {ts : List Fz}, ArgOk F1 us ts → ArgOk F1 (us ++ [d]) (ts ++ [s2]) := by
      intro us
      induction us with
      | nil => intro ts h; cases ts with
        | nil => exact ⟨hd F1, trivial⟩
        | cons _ _ => exact h.elim
      | cons u us ih => intro ts h; cases ts with
        | nil => exact h.elim
        | cons _ ts => exact ⟨h.1, ih h.2⟩
    refine ⟨z, hp, F1, x, dx, vs ++ [d], rfl, upd_same, e1.fh.free hx, set_upd (set_upd e1.fh (e1.fh.free hdx)) (e1.fh.free hx), by rw [he]; exact r2 r1, fun F' H' e2 r => ⟨rfl, q F' H' (.ref x) ?_ r⟩⟩
    have hb : ∀ b o, H1 b = some o → hide x (upd (upd H1 dx (.own x)) x (.ins C dx [])) b = some o := fun b o k => by
      rw [hide_ne (ne_of_none k hx), upd_ne (ne_of_none k hx), upd_ne (ne_of_none k hdx)]; exact k
    exact ⟨e1.ff.trans e2.ff, fun b o k => e2.hh b o (hb b o (e1.hh b o k)), e2.fh, fun b k1 k2 => by
      refine e2.fr b (e1.fr b k1 k2) fun k3 => ?_
      cases k4 : H b with
      | none => exact k2 k4
      | some o => rw [hb b o (e1.hh b o k4)] at k3; cases k3⟩
end
section
variable {P : Program} {w : World} {K : PySem.W.Frag} {mg : Str → Option Value} {base : Heap} {f : Addr} {x q : Str} {st : Stmt} {N ps : List Str} {k n : Nat} {sp : Sp} {d : V}
/-- a def with one default, which the call leaves out -/
theorem pr_ofD (hF : ∃ fd, FunD K x q (defArgs st) (defBody st) (defScope st) [d] [] f fd) (S : FnScope N ps (defScope st)) (hps : 1 ≤ ps.length)
    (hb : ∀ (T : Addr) (kV doc pm : Value) (an : Option Addr) (cdv ct : Value) (us its : List Value), us.length = ps.length - 1 → its.length = 1 →
      ∃ k, bindArgs (PySem.W.fnOf x q (defArgs st) (defBody st) (defScope st) (.ref T) kV doc pm an cdv ct) ⟨us, []⟩ = seqItems? (.ref T) >>= k ∧ k (some its.toArray) = pure (ps.zip (us ++ its.drop 0)))
    (len : ∀ vs H Q E, sp vs H Q E → vs.length = ps.length)
    (body : ∀ (cdv : Value) (A : Around) (outer : List Env) (s : Shared) (H : Hp) (E : XK), Room k (A.deeper (envOfC q (defScope st) s.heap.objs.size f cdv)) →
      ∃ t, PSs (bx P w K mg base N q (defScope st) f cdv A outer s H E) (defBody st) t ∧ ∀ vs Q, sp vs H Q E → t (Dq Q) (L2.start N vs) H) : Pr P w K mg base f (k + 1) ps sp [d] := by
  obtain ⟨fd, F⟩ := hF
  obtain ⟨ds, h1, h2⟩ := F.binds1 (ps := ps) (ps.length - 1) 0 (by simp) (by simp; omega) hb
  refine ⟨fd, ds, F.ok S len fun cdv A outer s H vs Q E hr h => ?_, h2, h1, F.kp⟩
  obtain ⟨t, h1, h2⟩ := body cdv A outer s H E hr
  exact ⟨t, h1.nox, h2 vs Q h⟩
end
end NW
set_option maxHeartbeats 4000000
namespace NW
open PySem PySem.Spec PyProof.Rows L2 G
open MX (mem Sm)
theorem atI_0 {l : List Int} {k : Nat} (h : k < l.length) : atI l (k : Int) = some (l.getD k 0) := by
  rw [List.getD_eq_getElem?_getD, List.getElem?_eq_getElem h]
  exact atI_nat (List.getElem?_eq_getElem h)
theorem atI_L {A : Type} {l : List (List A)} {k : Nat} (h : k < l.length) : atI l (k : Int) = some (l.getD k []) := by
  rw [List.getD_eq_getElem?_getD, List.getElem?_eq_getElem h]
  exact atI_nat (List.getElem?_eq_getElem h)
/-! ### the program's data -/
abbrev Taps := List (List Int)
abbrev Tab := List (List (Int × List Int))
structure LC where
  len : Int
  rows : List (List Int)
abbrev Tr := Taps × List (Option Int)
structure PD where
  taps : Taps
  steps : Int
  sums : List (Option Sm)
/-- read as some data of which P tells -/
def rEx {A C : Type} (R : Rel A) (P : C → A → Prop) : Rel C := fun F v b => ∃ a, P b a ∧ R F v a
instance {A C : Type} {R : Rel A} {P : C → A → Prop} [Mn R] : Mn (rEx R P) := ⟨fun s ⟨a, h, r⟩ => ⟨a, h, Mn.mono s r⟩⟩
theorem _root_.G.Ev.exP {B : Wd} {Γ : List Sl} {te : TE} {A C : Type} {R : Rel A} {P : C → A → Prop} {b : C} (h : Ev B Γ te (rEx R P) b) : EvP B Γ te R (P b) := fun F H σ e Q q => h F H σ e Q fun F' H' v e1 ⟨a, p, r⟩ => q F' H' v a e1 r p
/-! ### methods that write or read a self not frozen: entries -/
theorem argLen {F : Hp} : ∀ {us : List V} {ts : List Fz}, ArgOk F us ts → us.length = ts.length
  | [], [], _ => rfl
  | [], _ :: _, h => h.elim
  | _ :: _, [], h => h.elim
  | _ :: _, _ :: _, h => congrArg (· + 1) (argLen h.2)
theorem startS {x0 : Str} {N : List Str} {p : Addr} {ws : List V} : L2.start (x0 :: N) (.ref p :: ws) = some (.ref p) :: L2.start N ws := by
  unfold L2.start
  rw [List.map_cons, List.length_cons, List.length_cons, Nat.add_sub_add_right]
  rfl
theorem envM {F H : Hp} {p C dx : Addr} {us : List (Str × V)} {gs : Fs} {ws : List V} {ss : List Fz} {N : List Str} {x0 : Str} {n : Nat} (hp : H p = some (.ins C dx us)) (hf : F p = none) (s : Same F H) (r : FsOk F us gs) (h : ArgOk F ws ss) (hN : N.length = ss.length + n) :
    EnvOk ⟨F, hide p H⟩ (.mo p C gs :: (ss.map Sl.fz ++ List.replicate n .any)) F H (L2.start (x0 :: N) (.ref p :: ws)) := by
  have e := env0 (n := n) s h hN
  have hno : ∀ (i : Nat) (t : Sl), (ss.map Sl.fz ++ List.replicate n .any)[i]? = some t → t.own = false ∧ ∀ (H1 : Hp) (o : Option V), SlOk H F H t o → SlOk H1 F H t o := fun i t q => by
    rcases List.mem_append.mp (List.mem_of_getElem? q) with q | q
    · obtain ⟨z, _, rfl⟩ := List.mem_map.mp q
      exact ⟨rfl, fun _ _ k => k⟩
    · rw [(List.mem_replicate.mp q).2]
      exact ⟨rfl, fun _ _ k => k⟩
  rw [startS]
  refine ⟨⟨Same.refl _, fun b o k => ?_, s, fun b a _ => a⟩, congrArg (· + 1) e.len, fun i t q => ?_, fun i j t u nn a b c d => ?_⟩
  · have k : hide p H b = some o := k
    by_cases z : b = p
    · rw [z, hide_same] at k; cases k
    · rw [hide_ne z] at k; exact k
  · cases i with
    | zero => cases q; exact ⟨_, rfl, dx, us, rfl, hf, hide_same, hp, r⟩
    | succ i =>
      obtain ⟨o, a, b⟩ := e.ok i t q
      exact ⟨o, a, (hno i t q).2 _ _ b⟩
  · cases i with
    | zero => cases j with
      | zero => exact absurd rfl nn
      | succ j => rw [(hno j u b).1] at d; cases d
    | succ i => rw [(hno i t a).1] at c; cases c
theorem envR {F H : Hp} {p C dx : Addr} {us : List (Str × V)} {gs : Fs} {ws : List V} {ss : List Fz} {N : List Str} {x0 : Str} {n : Nat} (hp : H p = some (.ins C dx us)) (hf : F p = none) (s : Same F H) (r : FsOk F us gs) (h : ArgOk F ws ss) (hN : N.length = ss.length + n) :
    EnvOk ⟨F, H⟩ (.ro C gs :: (ss.map Sl.fz ++ List.replicate n .any)) F H (L2.start (x0 :: N) (.ref p :: ws)) := by
  have e := env0 (n := n) s h hN
  have hno : ∀ (i : Nat) (t : Sl), (ss.map Sl.fz ++ List.replicate n .any)[i]? = some t → t.own = false := fun i t q => by
    rcases List.mem_append.mp (List.mem_of_getElem? q) with q | q
    · obtain ⟨z, _, rfl⟩ := List.mem_map.mp q
      rfl
    · rw [(List.mem_replicate.mp q).2]; rfl
  rw [startS]
  refine ⟨e.ex, congrArg (· + 1) e.len, fun i t q => ?_, fun i j t u nn a b c d => ?_⟩
  · cases i with
    | zero => cases q; exact ⟨_, rfl, p, dx, us, rfl, hf, hp, r⟩
    | succ i => exact e.ok i t q
  · cases i with
    | zero => cases (Option.some.inj a).symm; cases c
    | succ i => rw [hno i t a] at c; cases c
section
variable {Z Y : Type} {C : Addr} {fs fs' : Z → Fs} {ss : Z → List Fz} {pre : Z → Prop} {R : Rel Y} {g : Z → Y} {ps N : List Str} {n : Nat} {x0 : Str} {t : TS} {H : Hp} {E : XK}
theorem lenM (hl : ∀ z, (ss z).length + 1 = ps.length) : ∀ vs H Q E, spM C fs fs' ss pre R g vs H Q E → vs.length = ps.length := by
  rintro vs H Q E ⟨z, _, F, p, dx, us, ws, rfl, _, _, _, _, r, _⟩
  rw [← hl z, ← argLen r]; rfl
theorem lenR (hl : ∀ z, (ss z).length + 1 = ps.length) : ∀ vs H Q E, spR C fs ss pre R g vs H Q E → vs.length = ps.length := by
  rintro vs H Q E ⟨z, _, F, p, dx, us, ws, rfl, _, _, _, _, r, _⟩
  rw [← hl z, ← argLen r]; rfl
theorem enM (hN : ∀ z, N.length = (ss z).length + n) (h : ∀ B p z Q, pre z → RtM B p C (fs' z) R (g z) Q → Wn B (.mo p C (fs z) :: ((ss z).map Sl.fz ++ List.replicate n .any)) (t (Dq Q))) : ∀ vs Q, spM C fs fs' ss pre R g vs H Q E → t (Dq Q) (L2.start (x0 :: N) vs) H := by
  rintro vs Q ⟨z, hz, F, p, dx, us, ws, rfl, hp, hf, s, r0, r, k⟩
  exact h ⟨F, hide p H⟩ p z Q hz k F H _ (envM hp hf s r0 r (hN z))
theorem enR (hN : ∀ z, N.length = (ss z).length + n) (h : ∀ B (p : Unit) z Q, pre z → RtOk B R (fun y => y = g z) Q → Wn B (.ro C (fs z) :: ((ss z).map Sl.fz ++ List.replicate n .any)) (t (Dq Q))) : ∀ vs Q, spR C fs ss pre R g vs H Q E → t (Dq Q) (L2.start (x0 :: N) vs) H := by
  rintro vs Q ⟨z, hz, F, p, dx, us, ws, rfl, hp, hf, s, r0, r, k⟩
  exact h ⟨F, H⟩ () z Q hz (fun F' H' v y e rv hy => k F' H' v e (hy ▸ rv)) F H _ (envR hp hf s r0 r (hN z))
end
/-! ### generators -/
structure PrG (P : Program) (w : World) (K : PySem.W.Frag) (mg : Str → Option Value) (base : Heap) (f : Addr) (k : Nat) (ps : List Str) (sp : SpG) : Prop where
  ex : ∃ (fd : FuncData) (ds : List Value), GFn P w K mg base k f fd ps sp ∧ Binds K fd ps ds ∧ Vals [] ds ∧ PySem.W.keepIn K (.ref f) = true
theorem passG {X : Cx} : Passes (CX X.prog X.w) X E0 := fun _ _ _ _ _ _ _ c => by
  obtain ⟨_, _, _, _, _, _, _, _, _, _, _, _, hW⟩ := c
  exact hW.elim
theorem pe_listN {X : Cx} {k j : Nat} {f : Addr} {ps : List Str} {sp : SpG} {x nm : Str} {p p2 pos pos2 : Pos} {e : Expr} {es : List Expr} {t : TA} (c : PrG X.prog X.w X.K X.mg X.base f k ps sp) (hm : X.mg x = some (.ref f)) (hmg : X.mg nm = none) (hv : bootBuiltins nm = some (.type "list")) (hr : Room j X.A) (ha : PA X (e :: es) t)
    (hk : k + 3 ≤ j := by decide) (hg : Gl X x := by rfl) (hg2 : Gl X nm := by rfl) (hnm : nm ≠ "__name__" := by decide) (hdb : (nm == ("__debug__" : Str)) = false := by decide) (hdx : (x == ("__debug__" : Str)) = false := by decide)
    (he : starEach (e :: es) X.env = (false, eval e X.env) :: starEach es X.env := by rfl) (hpl : (backTo pos2 (starEach es X.env)).any (·.1) = false := by rfl)
    (he2 : starEach [Expr.Call (.Name x p2) (e :: es) [] pos2] X.env = (false, eval (.Call (.Name x p2) (e :: es) [] pos2) X.env) :: starEach [] X.env := by rfl) :
    PE X (.Call (.Name nm p) [.Call (.Name x p2) (e :: es) [] pos2] [] pos) (tListG (tCallG sp [] E0 t)) := by
  obtain ⟨fd, ds, F, hb, hd, hkp⟩ := c.ex
  exact pe_listG (pgen_call F (hr.mono (Nat.le_trans (Nat.le_add_right _ _) hk)) hg hm hkp hb hd ha hdx he hpl) passG (fun _ _ _ h => h.elim) (hr.mono hk) hg2 hmg hv hnm hdb he2
section
variable {P : Program} {w : World} {K : PySem.W.Frag} {mg : Str → Option Value} {base : Heap} {f : Addr} {x q : Str} {st : Stmt} {N ps : List Str} {k n : Nat} {sp : SpG}
theorem pg_of (hF : FunN K x q st f) (S : GScope N ps (defScope st)) (hb : ∀ (kV doc pm : Value) (an : Option Addr) (cdv ct : Value) (us : List Value), us.length = ps.length → bindArgs (PySem.W.fnOf x q (defArgs st) (defBody st) (defScope st) .none kV doc pm an cdv ct) ⟨us, []⟩ = pure (ps.zip us))
    (len : ∀ vs H Q E, sp vs H Q E → vs.length = ps.length)
    (body : ∀ (cdv : Value) (A : Around) (outer : List Env) (s : Shared) (H : Hp) (E : XK) (pn : List (Addr × Obj)), Room k (A.deeper (envOfC q (defScope st) s.heap.objs.size f cdv)) →
      ∃ t, GSs (gcxOf P w K mg base N q (defScope st) f cdv A outer s H E pn) (defBody st) t ∧ ∀ vs Q, sp vs H Q E → t { nx := fun ys _ H' => Q ys H', rt := fun ys v H' => v = .non ∧ Q ys H' } [] (L2.start N vs) H) : PrG P w K mg base f (k + 1) ps sp := by
  obtain ⟨fd, F⟩ := hF
  obtain ⟨oc, od, dV, kV, doc, pm, an, cdv, ct, osl, rfl, lk, hcd, dv, _⟩ := F.ex
  refine ⟨_, [], gfn_of lk hcd S len fun A outer s H vs Q E pn hr h => ?_, ?_, .nil, F.kp⟩
  · obtain ⟨t, h1, h2⟩ := body cdv A outer s H E pn hr
    exact ⟨t, h1, h2 vs Q h⟩
  · rcases dv with ⟨_, rfl⟩ | ⟨z, _⟩
    · exact .all fun us hl => hb kV doc pm an cdv ct us hl
    · exact absurd rfl z
theorem enG2 {A1 A2 Y : Type} {R1 : Rel A1} {R2 : Rel A2} [m1 : Mn R1] [m2 : Mn R2] {pre : A1 → A2 → Prop} {R : Rel Y} {g : A1 → A2 → List Y} {t : TGn} {H : Hp} {E : XK} (hN : N.length = 2 + n)
    (h : ∀ (B : Wd) (x1 : A1) (x2 : A2) (Q : List V → Hp → Prop) (rq : List V → VK), pre x1 x2 → (∀ F' H' ys, Ex B.F B.H F' H' → AllR (R F') ys (g x1 x2) → Q ys H') → Wg B (sf R1 x1 :: sf R2 x2 :: List.replicate n .any) R [] (t { nx := fun ys _ H' => Q ys H', rt := rq })) :
    ∀ vs Q, spG2 R1 R2 pre R g vs H Q E → t { nx := fun ys _ H' => Q ys H', rt := fun ys v H' => v = .non ∧ Q ys H' } [] (L2.start N vs) H := by
  rintro vs Q ⟨F, v1, v2, x1, x2, rfl, s, r1, r2, hp, k⟩
  exact h ⟨F, H⟩ x1 x2 Q _ hp (fun F' H' ys e r => k F' H' ys e r) F H _ [] (env0 (ss := [⟨_, R1, m1, x1⟩, ⟨_, R2, m2, x2⟩]) s ⟨r1, r2, trivial⟩ (by rw [hN]; rfl)) AllR.nil
theorem lenG2 {A1 A2 Y : Type} {R1 : Rel A1} {R2 : Rel A2} {pre : A1 → A2 → Prop} {R : Rel Y} {g : A1 → A2 → List Y} {y1 y2 : Str} : ∀ vs H Q E, spG2 R1 R2 pre R g vs H Q E → vs.length = [y1, y2].length := by
  rintro vs H Q E ⟨F, v1, v2, x1, x2, rfl, _⟩; rfl
end
def rAny : Rel Unit := fun _ _ _ => True
instance : Mn rAny := ⟨fun _ _ => trivial⟩
theorem _root_.G.Ev.any {B : Wd} {Γ : List Sl} {te : TE} {A : Type} {R : Rel A} {x : A} (h : Ev B Γ te R x) : Ev B Γ te rAny () := fun F H σ e Q q => h F H σ e Q fun F' H' v a _ => q F' H' v a trivial
abbrev rRec : Rel (List (Option Int)) := rLst (rOpt rInt)
abbrev rTab : Rel Tab := rLst (rLst (rPair rInt (rLst rInt)))
theorem lk_one {f : Str} {s : Fz} {r : Fs} : ((f, s) :: r : Fs).lookup f = some s := by rw [List.lookup_cons, beq_self_eq_true]
theorem lk_ne {f g : Str} {s : Fz} {r : Fs} (h : (f == g) = false) : ((g, s) :: r : Fs).lookup f = r.lookup f := by rw [List.lookup_cons, h]
theorem lk_no : ∀ (fs : Fs) (m : Str), (fs.map (·.1)).contains m = false → fs.lookup m = none
  | [], _, _ => rfl
  | (g, s) :: r, m, h => by
    rw [List.map_cons, List.contains_cons, Bool.or_eq_false_iff] at h
    rw [lk_ne h.1]
    exact lk_no r m h.2

def fsField (K : PySem.W.Frag) (x : Unit) : Fs := [("prime", fz' rInt 2), ("modulus", fz' (rTupS K rInt) [0, 1]), ("degree", fz' rInt 1), ("order", fz' rInt 2)]
abbrev rField (K : PySem.W.Frag) : Rel Unit := rObj (aField K) (fsField K)
theorem lk_Field_prime (K : PySem.W.Frag) (x : Unit) : (fsField K x).lookup ("prime" : Str) = some (fz' rInt 2) := lk_one
theorem ev_Field_prime {B : Wd} {Γ : List Sl} {K : PySem.W.Frag} {ta : TE} {x : Unit} (h : Ev B Γ ta (rField K) x) : Ev B Γ (tF (aField K) ta "prime") rInt 2 := ev_fld h (lk_Field_prime K x)
theorem lk_Field_modulus (K : PySem.W.Frag) (x : Unit) : (fsField K x).lookup ("modulus" : Str) = some (fz' (rTupS K rInt) [0, 1]) := (lk_ne (by decide +kernel)).trans (lk_one)
theorem ev_Field_modulus {B : Wd} {Γ : List Sl} {K : PySem.W.Frag} {ta : TE} {x : Unit} (h : Ev B Γ ta (rField K) x) : Ev B Γ (tF (aField K) ta "modulus") (rTupS K rInt) [0, 1] := ev_fld h (lk_Field_modulus K x)
theorem lk_Field_degree (K : PySem.W.Frag) (x : Unit) : (fsField K x).lookup ("degree" : Str) = some (fz' rInt 1) := (lk_ne (by decide +kernel)).trans ((lk_ne (by decide +kernel)).trans (lk_one))
theorem ev_Field_degree {B : Wd} {Γ : List Sl} {K : PySem.W.Frag} {ta : TE} {x : Unit} (h : Ev B Γ ta (rField K) x) : Ev B Γ (tF (aField K) ta "degree") rInt 1 := ev_fld h (lk_Field_degree K x)
theorem lk_Field_order (K : PySem.W.Frag) (x : Unit) : (fsField K x).lookup ("order" : Str) = some (fz' rInt 2) := (lk_ne (by decide +kernel)).trans ((lk_ne (by decide +kernel)).trans ((lk_ne (by decide +kernel)).trans (lk_one)))
theorem ev_Field_order {B : Wd} {Γ : List Sl} {K : PySem.W.Frag} {ta : TE} {x : Unit} (h : Ev B Γ ta (rField K) x) : Ev B Γ (tF (aField K) ta "order") rInt 2 := ev_fld h (lk_Field_order K x)
theorem nl_Field_digits (K : PySem.W.Frag) (x : Unit) : (fsField K x).lookup ("digits" : Str) = none := lk_no _ _ (show (["prime", "modulus", "degree", "order"] : List Str).contains "digits" = false by decide +kernel)
theorem nl_Field_element (K : PySem.W.Frag) (x : Unit) : (fsField K x).lookup ("element" : Str) = none := lk_no _ _ (show (["prime", "modulus", "degree", "order"] : List Str).contains "element" = false by decide +kernel)
theorem nl_Field_plus (K : PySem.W.Frag) (x : Unit) : (fsField K x).lookup ("plus" : Str) = none := lk_no _ _ (show (["prime", "modulus", "degree", "order"] : List Str).contains "plus" = false by decide +kernel)
theorem nl_Field_negative (K : PySem.W.Frag) (x : Unit) : (fsField K x).lookup ("negative" : Str) = none := lk_no _ _ (show (["prime", "modulus", "degree", "order"] : List Str).contains "negative" = false by decide +kernel)
theorem nl_Field_minus (K : PySem.W.Frag) (x : Unit) : (fsField K x).lookup ("minus" : Str) = none := lk_no _ _ (show (["prime", "modulus", "degree", "order"] : List Str).contains "minus" = false by decide +kernel)
theorem nl_Field_times (K : PySem.W.Frag) (x : Unit) : (fsField K x).lookup ("times" : Str) = none := lk_no _ _ (show (["prime", "modulus", "degree", "order"] : List Str).contains "times" = false by decide +kernel)
theorem nl_Field_inverse (K : PySem.W.Frag) (x : Unit) : (fsField K x).lookup ("inverse" : Str) = none := lk_no _ _ (show (["prime", "modulus", "degree", "order"] : List Str).contains "inverse" = false by decide +kernel)
def fsLinearCode (K : PySem.W.Frag) (x : LC) : Fs := [("field", fz' (rField K) ()), ("length", fz' rInt x.len), ("dimension", fz' rInt (x.rows.length : Int)), ("_rows", fz' (rLst (rLst rInt)) x.rows), ("_pivots", fz' rAny ()), ("_checks", fz' rAny ()), ("_size", fz' rInt (2 ^ x.rows.length : Int))]
abbrev rLinearCode (K : PySem.W.Frag) : Rel LC := rObj (aLinearCode K) (fsLinearCode K)
theorem lk_LinearCode_field (K : PySem.W.Frag) (x : LC) : (fsLinearCode K x).lookup ("field" : Str) = some (fz' (rField K) ()) := lk_one
theorem ev_LinearCode_field {B : Wd} {Γ : List Sl} {K : PySem.W.Frag} {ta : TE} {x : LC} (h : Ev B Γ ta (rLinearCode K) x) : Ev B Γ (tF (aLinearCode K) ta "field") (rField K) () := ev_fld h (lk_LinearCode_field K x)
theorem lk_LinearCode_length (K : PySem.W.Frag) (x : LC) : (fsLinearCode K x).lookup ("length" : Str) = some (fz' rInt x.len) := (lk_ne (by decide +kernel)).trans (lk_one)
theorem ev_LinearCode_length {B : Wd} {Γ : List Sl} {K : PySem.W.Frag} {ta : TE} {x : LC} (h : Ev B Γ ta (rLinearCode K) x) : Ev B Γ (tF (aLinearCode K) ta "length") rInt x.len := ev_fld h (lk_LinearCode_length K x)
theorem lk_LinearCode_dimension (K : PySem.W.Frag) (x : LC) : (fsLinearCode K x).lookup ("dimension" : Str) = some (fz' rInt (x.rows.length : Int)) := (lk_ne (by decide +kernel)).trans ((lk_ne (by decide +kernel)).trans (lk_one))
theorem ev_LinearCode_dimension {B : Wd} {Γ : List Sl} {K : PySem.W.Frag} {ta : TE} {x : LC} (h : Ev B Γ ta (rLinearCode K) x) : Ev B Γ (tF (aLinearCode K) ta "dimension") rInt (x.rows.length : Int) := ev_fld h (lk_LinearCode_dimension K x)
theorem lk_LinearCode_rows (K : PySem.W.Frag) (x : LC) : (fsLinearCode K x).lookup ("_rows" : Str) = some (fz' (rLst (rLst rInt)) x.rows) := (lk_ne (by decide +kernel)).trans ((lk_ne (by decide +kernel)).trans ((lk_ne (by decide +kernel)).trans (lk_one)))
theorem ev_LinearCode_rows {B : Wd} {Γ : List Sl} {K : PySem.W.Frag} {ta : TE} {x : LC} (h : Ev B Γ ta (rLinearCode K) x) : Ev B Γ (tF (aLinearCode K) ta "_rows") (rLst (rLst rInt)) x.rows := ev_fld h (lk_LinearCode_rows K x)
theorem lk_LinearCode_pivots (K : PySem.W.Frag) (x : LC) : (fsLinearCode K x).lookup ("_pivots" : Str) = some (fz' rAny ()) := (lk_ne (by decide +kernel)).trans ((lk_ne (by decide +kernel)).trans ((lk_ne (by decide +kernel)).trans ((lk_ne (by decide +kernel)).trans (lk_one))))
theorem ev_LinearCode_pivots {B : Wd} {Γ : List Sl} {K : PySem.W.Frag} {ta : TE} {x : LC} (h : Ev B Γ ta (rLinearCode K) x) : Ev B Γ (tF (aLinearCode K) ta "_pivots") rAny () := ev_fld h (lk_LinearCode_pivots K x)
theorem lk_LinearCode_checks (K : PySem.W.Frag) (x : LC) : (fsLinearCode K x).lookup ("_checks" : Str) = some (fz' rAny ()) := (lk_ne (by decide +kernel)).trans ((lk_ne (by decide +kernel)).trans ((lk_ne (by decide +kernel)).trans ((lk_ne (by decide +kernel)).trans ((lk_ne (by decide +kernel)).trans (lk_one)))))
theorem ev_LinearCode_checks {B : Wd} {Γ : List Sl} {K : PySem.W.Frag} {ta : TE} {x : LC} (h : Ev B Γ ta (rLinearCode K) x) : Ev B Γ (tF (aLinearCode K) ta "_checks") rAny () := ev_fld h (lk_LinearCode_checks K x)
theorem lk_LinearCode_size (K : PySem.W.Frag) (x : LC) : (fsLinearCode K x).lookup ("_size" : Str) = some (fz' rInt (2 ^ x.rows.length : Int)) := (lk_ne (by decide +kernel)).trans ((lk_ne (by decide +kernel)).trans ((lk_ne (by decide +kernel)).trans ((lk_ne (by decide +kernel)).trans ((lk_ne (by decide +kernel)).trans ((lk_ne (by decide +kernel)).trans (lk_one))))))
theorem ev_LinearCode_size {B : Wd} {Γ : List Sl} {K : PySem.W.Frag} {ta : TE} {x : LC} (h : Ev B Γ ta (rLinearCode K) x) : Ev B Γ (tF (aLinearCode K) ta "_size") rInt (2 ^ x.rows.length : Int) := ev_fld h (lk_LinearCode_size K x)
theorem nl_LinearCode_words (K : PySem.W.Frag) (x : LC) : (fsLinearCode K x).lookup ("words" : Str) = none := lk_no _ _ (show (["field", "length", "dimension", "_rows", "_pivots", "_checks", "_size"] : List Str).contains "words" = false by decide +kernel)
def fsEncoder (K : PySem.W.Frag) (x : Taps) : Fs := [("taps", fz' (rTup (rTup rInt)) x), ("memory", fz' rInt (mem x : Int)), ("outputs", fz' rInt (x.length : Int)), ("state_count", fz' rInt (2 ^ mem x : Int))]
abbrev rEncoder (K : PySem.W.Frag) : Rel Taps := rObj (aEncoder K) (fsEncoder K)
theorem lk_Encoder_taps (K : PySem.W.Frag) (x : Taps) : (fsEncoder K x).lookup ("taps" : Str) = some (fz' (rTup (rTup rInt)) x) := lk_one
theorem ev_Encoder_taps {B : Wd} {Γ : List Sl} {K : PySem.W.Frag} {ta : TE} {x : Taps} (h : Ev B Γ ta (rEncoder K) x) : Ev B Γ (tF (aEncoder K) ta "taps") (rTup (rTup rInt)) x := ev_fld h (lk_Encoder_taps K x)
theorem lk_Encoder_memory (K : PySem.W.Frag) (x : Taps) : (fsEncoder K x).lookup ("memory" : Str) = some (fz' rInt (mem x : Int)) := (lk_ne (by decide +kernel)).trans (lk_one)
theorem ev_Encoder_memory {B : Wd} {Γ : List Sl} {K : PySem.W.Frag} {ta : TE} {x : Taps} (h : Ev B Γ ta (rEncoder K) x) : Ev B Γ (tF (aEncoder K) ta "memory") rInt (mem x : Int) := ev_fld h (lk_Encoder_memory K x)
theorem lk_Encoder_outputs (K : PySem.W.Frag) (x : Taps) : (fsEncoder K x).lookup ("outputs" : Str) = some (fz' rInt (x.length : Int)) := (lk_ne (by decide +kernel)).trans ((lk_ne (by decide +kernel)).trans (lk_one))
theorem ev_Encoder_outputs {B : Wd} {Γ : List Sl} {K : PySem.W.Frag} {ta : TE} {x : Taps} (h : Ev B Γ ta (rEncoder K) x) : Ev B Γ (tF (aEncoder K) ta "outputs") rInt (x.length : Int) := ev_fld h (lk_Encoder_outputs K x)
theorem lk_Encoder_state_count (K : PySem.W.Frag) (x : Taps) : (fsEncoder K x).lookup ("state_count" : Str) = some (fz' rInt (2 ^ mem x : Int)) := (lk_ne (by decide +kernel)).trans ((lk_ne (by decide +kernel)).trans ((lk_ne (by decide +kernel)).trans (lk_one)))
theorem ev_Encoder_state_count {B : Wd} {Γ : List Sl} {K : PySem.W.Frag} {ta : TE} {x : Taps} (h : Ev B Γ ta (rEncoder K) x) : Ev B Γ (tF (aEncoder K) ta "state_count") rInt (2 ^ mem x : Int) := ev_fld h (lk_Encoder_state_count K x)
theorem nl_Encoder_advance (K : PySem.W.Frag) (x : Taps) : (fsEncoder K x).lookup ("advance" : Str) = none := lk_no _ _ (show (["taps", "memory", "outputs", "state_count"] : List Str).contains "advance" = false by decide +kernel)
theorem nl_Encoder__fed (K : PySem.W.Frag) (x : Taps) : (fsEncoder K x).lookup ("_fed" : Str) = none := lk_no _ _ (show (["taps", "memory", "outputs", "state_count"] : List Str).contains "_fed" = false by decide +kernel)
theorem nl_Encoder_word_for (K : PySem.W.Frag) (x : Taps) : (fsEncoder K x).lookup ("word_for" : Str) = none := lk_no _ _ (show (["taps", "memory", "outputs", "state_count"] : List Str).contains "word_for" = false by decide +kernel)
theorem nl_Encoder_linear (K : PySem.W.Frag) (x : Taps) : (fsEncoder K x).lookup ("linear" : Str) = none := lk_no _ _ (show (["taps", "memory", "outputs", "state_count"] : List Str).contains "linear" = false by decide +kernel)
def fsTrellis (K : PySem.W.Frag) (x : Tr) : Fs := [("steps", fz' (rLst rRec) (MX.chs x.1.length x.2)), ("message_length", fz' rInt (MX.ml x.1 x.2 : Int)), ("table", fz' rTab (MX.tabOf x.1))]
abbrev rTrellis (K : PySem.W.Frag) : Rel Tr := rObj (aTrellis K) (fsTrellis K)
theorem lk_Trellis_steps (K : PySem.W.Frag) (x : Tr) : (fsTrellis K x).lookup ("steps" : Str) = some (fz' (rLst rRec) (MX.chs x.1.length x.2)) := lk_one
theorem ev_Trellis_steps {B : Wd} {Γ : List Sl} {K : PySem.W.Frag} {ta : TE} {x1 : Taps} {x2 : List (Option Int)} (h : Ev B Γ ta (rTrellis K) (x1, x2)) : Ev B Γ (tF (aTrellis K) ta "steps") (rLst rRec) (MX.chs x1.length x2) := ev_fld h (lk_Trellis_steps K (x1, x2))
theorem lk_Trellis_message_length (K : PySem.W.Frag) (x : Tr) : (fsTrellis K x).lookup ("message_length" : Str) = some (fz' rInt (MX.ml x.1 x.2 : Int)) := (lk_ne (by decide +kernel)).trans (lk_one)
theorem ev_Trellis_message_length {B : Wd} {Γ : List Sl} {K : PySem.W.Frag} {ta : TE} {x1 : Taps} {x2 : List (Option Int)} (h : Ev B Γ ta (rTrellis K) (x1, x2)) : Ev B Γ (tF (aTrellis K) ta "message_length") rInt (MX.ml x1 x2 : Int) := ev_fld h (lk_Trellis_message_length K (x1, x2))
theorem lk_Trellis_table (K : PySem.W.Frag) (x : Tr) : (fsTrellis K x).lookup ("table" : Str) = some (fz' rTab (MX.tabOf x.1)) := (lk_ne (by decide +kernel)).trans ((lk_ne (by decide +kernel)).trans (lk_one))
theorem ev_Trellis_table {B : Wd} {Γ : List Sl} {K : PySem.W.Frag} {ta : TE} {x1 : Taps} {x2 : List (Option Int)} (h : Ev B Γ ta (rTrellis K) (x1, x2)) : Ev B Γ (tF (aTrellis K) ta "table") rTab (MX.tabOf x1) := ev_fld h (lk_Trellis_table K (x1, x2))
theorem nl_Trellis_moves_from (K : PySem.W.Frag) (x : Tr) : (fsTrellis K x).lookup ("moves_from" : Str) = none := lk_no _ _ (show (["steps", "message_length", "table"] : List Str).contains "moves_from" = false by decide +kernel)
theorem nl_Trellis_costs_table (K : PySem.W.Frag) (x : Tr) : (fsTrellis K x).lookup ("costs_table" : Str) = none := lk_no _ _ (show (["steps", "message_length", "table"] : List Str).contains "costs_table" = false by decide +kernel)
theorem nl_Trellis_best_moves (K : PySem.W.Frag) (x : Tr) : (fsTrellis K x).lookup ("best_moves" : Str) = none := lk_no _ _ (show (["steps", "message_length", "table"] : List Str).contains "best_moves" = false by decide +kernel)
def fsSummary (K : PySem.W.Frag) (x : Sm) : Fs := [("cost", fz' rInt x.cost), ("count_of", fz' rInt x.cnt), ("first", fz' (rLst rInt) x.first), ("start_of", fz' (rLst rInt) x.start)]
abbrev rSummary (K : PySem.W.Frag) : Rel Sm := rObj (aSummary K) (fsSummary K)
theorem lk_Summary_cost (K : PySem.W.Frag) (x : Sm) : (fsSummary K x).lookup ("cost" : Str) = some (fz' rInt x.cost) := lk_one
theorem ev_Summary_cost {B : Wd} {Γ : List Sl} {K : PySem.W.Frag} {ta : TE} {x : Sm} (h : Ev B Γ ta (rSummary K) x) : Ev B Γ (tF (aSummary K) ta "cost") rInt x.cost := ev_fld h (lk_Summary_cost K x)
theorem lk_Summary_count_of (K : PySem.W.Frag) (x : Sm) : (fsSummary K x).lookup ("count_of" : Str) = some (fz' rInt x.cnt) := (lk_ne (by decide +kernel)).trans (lk_one)
theorem ev_Summary_count_of {B : Wd} {Γ : List Sl} {K : PySem.W.Frag} {ta : TE} {x : Sm} (h : Ev B Γ ta (rSummary K) x) : Ev B Γ (tF (aSummary K) ta "count_of") rInt x.cnt := ev_fld h (lk_Summary_count_of K x)
theorem lk_Summary_first (K : PySem.W.Frag) (x : Sm) : (fsSummary K x).lookup ("first" : Str) = some (fz' (rLst rInt) x.first) := (lk_ne (by decide +kernel)).trans ((lk_ne (by decide +kernel)).trans (lk_one))
theorem ev_Summary_first {B : Wd} {Γ : List Sl} {K : PySem.W.Frag} {ta : TE} {x : Sm} (h : Ev B Γ ta (rSummary K) x) : Ev B Γ (tF (aSummary K) ta "first") (rLst rInt) x.first := ev_fld h (lk_Summary_first K x)
theorem lk_Summary_start_of (K : PySem.W.Frag) (x : Sm) : (fsSummary K x).lookup ("start_of" : Str) = some (fz' (rLst rInt) x.start) := (lk_ne (by decide +kernel)).trans ((lk_ne (by decide +kernel)).trans ((lk_ne (by decide +kernel)).trans (lk_one)))
theorem ev_Summary_start_of {B : Wd} {Γ : List Sl} {K : PySem.W.Frag} {ta : TE} {x : Sm} (h : Ev B Γ ta (rSummary K) x) : Ev B Γ (tF (aSummary K) ta "start_of") (rLst rInt) x.start := ev_fld h (lk_Summary_start_of K x)
theorem nl_Summary_grown (K : PySem.W.Frag) (x : Sm) : (fsSummary K x).lookup ("grown" : Str) = none := lk_no _ _ (show (["cost", "count_of", "first", "start_of"] : List Str).contains "grown" = false by decide +kernel)
def fsPathDecoder (K : PySem.W.Frag) (x : PD) : Fs := [("encoder", fz' (rEncoder K) x.taps), ("_table", fz' rTab (MX.tabOf x.taps)), ("steps", fz' rInt x.steps), ("_summaries", fz' (rLst (rOpt (rSummary K))) x.sums)]
abbrev rPathDecoder (K : PySem.W.Frag) : Rel PD := rObj (aPathDecoder K) (fsPathDecoder K)
theorem lk_PathDecoder_encoder (K : PySem.W.Frag) (x : PD) : (fsPathDecoder K x).lookup ("encoder" : Str) = some (fz' (rEncoder K) x.taps) := lk_one
theorem ev_PathDecoder_encoder {B : Wd} {Γ : List Sl} {K : PySem.W.Frag} {ta : TE} {x : PD} (h : Ev B Γ ta (rPathDecoder K) x) : Ev B Γ (tF (aPathDecoder K) ta "encoder") (rEncoder K) x.taps := ev_fld h (lk_PathDecoder_encoder K x)
theorem lk_PathDecoder_table (K : PySem.W.Frag) (x : PD) : (fsPathDecoder K x).lookup ("_table" : Str) = some (fz' rTab (MX.tabOf x.taps)) := (lk_ne (by decide +kernel)).trans (lk_one)
theorem ev_PathDecoder_table {B : Wd} {Γ : List Sl} {K : PySem.W.Frag} {ta : TE} {x : PD} (h : Ev B Γ ta (rPathDecoder K) x) : Ev B Γ (tF (aPathDecoder K) ta "_table") rTab (MX.tabOf x.taps) := ev_fld h (lk_PathDecoder_table K x)
theorem lk_PathDecoder_steps (K : PySem.W.Frag) (x : PD) : (fsPathDecoder K x).lookup ("steps" : Str) = some (fz' rInt x.steps) := (lk_ne (by decide +kernel)).trans ((lk_ne (by decide +kernel)).trans (lk_one))
theorem ev_PathDecoder_steps {B : Wd} {Γ : List Sl} {K : PySem.W.Frag} {ta : TE} {x : PD} (h : Ev B Γ ta (rPathDecoder K) x) : Ev B Γ (tF (aPathDecoder K) ta "steps") rInt x.steps := ev_fld h (lk_PathDecoder_steps K x)
theorem lk_PathDecoder_summaries (K : PySem.W.Frag) (x : PD) : (fsPathDecoder K x).lookup ("_summaries" : Str) = some (fz' (rLst (rOpt (rSummary K))) x.sums) := (lk_ne (by decide +kernel)).trans ((lk_ne (by decide +kernel)).trans ((lk_ne (by decide +kernel)).trans (lk_one)))
theorem ev_PathDecoder_summaries {B : Wd} {Γ : List Sl} {K : PySem.W.Frag} {ta : TE} {x : PD} (h : Ev B Γ ta (rPathDecoder K) x) : Ev B Γ (tF (aPathDecoder K) ta "_summaries") (rLst (rOpt (rSummary K))) x.sums := ev_fld h (lk_PathDecoder_summaries K x)
theorem nl_PathDecoder_restart (K : PySem.W.Frag) (x : PD) : (fsPathDecoder K x).lookup ("restart" : Str) = none := lk_no _ _ (show (["encoder", "_table", "steps", "_summaries"] : List Str).contains "restart" = false by decide +kernel)
theorem nl_PathDecoder_take (K : PySem.W.Frag) (x : PD) : (fsPathDecoder K x).lookup ("take" : Str) = none := lk_no _ _ (show (["encoder", "_table", "steps", "_summaries"] : List Str).contains "take" = false by decide +kernel)
theorem nl_PathDecoder_answer (K : PySem.W.Frag) (x : PD) : (fsPathDecoder K x).lookup ("answer" : Str) = none := lk_no _ _ (show (["encoder", "_table", "steps", "_summaries"] : List Str).contains "answer" = false by decide +kernel)
end NW
set_option maxHeartbeats 4000000
namespace NW
open PySem PySem.Spec PyProof.Rows L2 G
local macro_rules | `(tactic| wtm_at "nl") => `(tactic| first
  | with_reducible exact nl_Field_digits _ _
  | with_reducible exact nl_Field_element _ _
  | with_reducible exact nl_Field_plus _ _
  | with_reducible exact nl_Field_negative _ _
  | with_reducible exact nl_Field_minus _ _
  | with_reducible exact nl_Field_times _ _
  | with_reducible exact nl_Field_inverse _ _
  | with_reducible exact nl_LinearCode_words _ _
  | with_reducible exact nl_Encoder_advance _ _
  | with_reducible exact nl_Encoder__fed _ _
  | with_reducible exact nl_Encoder_word_for _ _
  | with_reducible exact nl_Encoder_linear _ _
  | with_reducible exact nl_Trellis_moves_from _ _
  | with_reducible exact nl_Trellis_costs_table _ _
  | with_reducible exact nl_Trellis_best_moves _ _
  | with_reducible exact nl_Summary_grown _ _
  | with_reducible exact nl_PathDecoder_restart _ _
  | with_reducible exact nl_PathDecoder_take _ _
  | with_reducible exact nl_PathDecoder_answer _ _)
local macro_rules | `(tactic| wtm_at "side") => `(tactic| first
  | assumption
  | exact rfl
  | exact atI_0 (by omega)
  | exact atI_L (by omega)
  | omega
  | exact trivial
  | exact fun _ h => h
  | exact List.mem_singleton.mpr rfl
  | wtm_at "nl"
  | exact Or.inr ⟨by omega, by omega⟩
  | exact Or.inl ⟨by omega, by omega⟩
  | (show (0 : Int) < _; omega)
  | exact ⟨by omega, by omega⟩
  | exact ⟨rfl, rfl⟩
  | exact MX.Bits.getD (by assumption) _
  | exact ⟨by assumption, by assumption⟩
  | exact ⟨by assumption, by assumption, by assumption⟩
  | exact ⟨by assumption, MX.Bits.getD (by assumption) _⟩
  | decide
  | (show (_ : Nat) ≤ 10000000; (simp only [List.length_cons, List.length_nil, List.length_append]; omega))
  | (show (_ : Nat) < 10000000; (simp only [List.length_cons, List.length_nil, List.length_append]; omega)))
local macro_rules | `(tactic| wtm_at "evop") => `(tactic| first
  | ((with_reducible refine' ev_opI0 _ _) <;> wtm_at "ev2")
  | ((with_reducible refine' ev_opB0 _ _) <;> wtm_at "ev2")
  | ((with_reducible refine' ev_opI _ _ _) <;> wtm_at "ev2")
  | ((with_reducible refine' ev_ixL (m := _) _ _ _) <;> wtm_at "ev2")
  | ((with_reducible show Ev _ _ (tOp (rIxL _) (tVar _) _) _ _); (refine' ev_ixM rfl _ _) <;> wtm_at "ev2")
  | ((with_reducible refine' ev_eqI _ _) <;> wtm_at "ev2")
  | ((with_reducible refine' ev_neI _ _) <;> wtm_at "ev2")
  | ((with_reducible refine' ev_isN (n := _) _) <;> wtm_at "ev2")
  | ((with_reducible refine' ev_notN (n := _) _) <;> wtm_at "ev2")
  | ((with_reducible refine' ev_fst (m := _) (n := _) _) <;> wtm_at "ev2")
  | ((with_reducible refine' ev_snd (m := _) (n := _) _) <;> wtm_at "ev2")
  | ((with_reducible refine' ev_tri1 _) <;> wtm_at "ev2")
  | ((with_reducible refine' ev_tri2 _) <;> wtm_at "ev2")
  | ((with_reducible refine' ev_ixT (m := _) _ _ _) <;> wtm_at "ev2")
  | ((with_reducible refine' ev_ixS (m := _) _ _ _) <;> wtm_at "ev2")
  | ((with_reducible refine' EvL.ev (m := _) _) <;> wtm_at "ev2"))
local macro_rules | `(tactic| wtm_at "evfld") => `(tactic| first
  | ((with_reducible refine' ev_Field_prime _) <;> wtm_at "ev2")
  | ((with_reducible refine' ev_Field_modulus _) <;> wtm_at "ev2")
  | ((with_reducible refine' ev_Field_degree _) <;> wtm_at "ev2")
  | ((with_reducible refine' ev_Field_order _) <;> wtm_at "ev2")
  | ((with_reducible refine' ev_LinearCode_field _) <;> wtm_at "ev2")
  | ((with_reducible refine' ev_LinearCode_length _) <;> wtm_at "ev2")
  | ((with_reducible refine' ev_LinearCode_dimension _) <;> wtm_at "ev2")
  | ((with_reducible refine' ev_LinearCode_rows _) <;> wtm_at "ev2")
  | ((with_reducible refine' ev_LinearCode_pivots _) <;> wtm_at "ev2")
  | ((with_reducible refine' ev_LinearCode_checks _) <;> wtm_at "ev2")
  | ((with_reducible refine' ev_LinearCode_size _) <;> wtm_at "ev2")
  | ((with_reducible refine' ev_Encoder_taps _) <;> wtm_at "ev2")
  | ((with_reducible refine' ev_Encoder_memory _) <;> wtm_at "ev2")
  | ((with_reducible refine' ev_Encoder_outputs _) <;> wtm_at "ev2")
  | ((with_reducible refine' ev_Encoder_state_count _) <;> wtm_at "ev2")
  | ((with_reducible refine' ev_Trellis_steps _) <;> wtm_at "ev2")
  | ((with_reducible refine' ev_Trellis_message_length _) <;> wtm_at "ev2")
  | ((with_reducible refine' ev_Trellis_table _) <;> wtm_at "ev2")
  | ((with_reducible refine' ev_Summary_cost _) <;> wtm_at "ev2")
  | ((with_reducible refine' ev_Summary_count_of _) <;> wtm_at "ev2")
  | ((with_reducible refine' ev_Summary_first _) <;> wtm_at "ev2")
  | ((with_reducible refine' ev_Summary_start_of _) <;> wtm_at "ev2")
  | ((with_reducible refine' ev_PathDecoder_encoder _) <;> wtm_at "ev2")
  | ((with_reducible refine' ev_PathDecoder_table _) <;> wtm_at "ev2")
  | ((with_reducible refine' ev_PathDecoder_steps _) <;> wtm_at "ev2")
  | ((with_reducible refine' ev_PathDecoder_summaries _) <;> wtm_at "ev2"))
local macro_rules | `(tactic| wtm_at "evcb") => `(tactic| first
  | ((with_reducible show Ev _ _ (tCB (rLen _) (tCons (tVar _) tNil)) _ _); exact ev_lenM rfl)
  | ((with_reducible refine' ev_lenL _) <;> wtm_at "ev2")
  | ((with_reducible refine' ev_lenT _) <;> wtm_at "ev2")
  | ((with_reducible refine' ev_lenS _) <;> wtm_at "ev2")
  | ((with_reducible refine' ev_int1 _) <;> wtm_at "ev2")
  | ((with_reducible refine' ev_intB _) <;> wtm_at "ev2")
  | ((with_reducible refine' ev_abs _) <;> wtm_at "ev2")
  | ((with_reducible refine' ev_min2 _ _) <;> wtm_at "ev2")
  | ((with_reducible refine' ev_max2 _ _) <;> wtm_at "ev2")
  | ((with_reducible refine' ev_minLL _ _) <;> wtm_at "ev2")
  | ((with_reducible refine' ev_sum _) <;> wtm_at "ev2")
  | ((with_reducible refine' ev_tupL (m := _) _) <;> wtm_at "ev2")
  | ((with_reducible refine' EvL.ev (m := _) _) <;> wtm_at "ev2"))
local macro_rules | `(tactic| wtm_at "evcall") => `(tactic| first
  | ((with_reducible refine' cd1 _ _) <;> wtm_at "ev2")
  | ((with_reducible refine' cd2 _ _ _) <;> wtm_at "ev2")
  | ((with_reducible refine' cd3 _ _ _ _) <;> wtm_at "ev2")
  | ((with_reducible refine' cd4 _ _ _ _ _) <;> wtm_at "ev2")
  | ((with_reducible refine' cd5 _ _ _ _ _ _) <;> wtm_at "ev2"))
local macro_rules | `(tactic| wtm_at "evmeth") => `(tactic| first
  | ((with_reducible refine' md1 _ _ _) <;> wtm_at "ev2")
  | ((with_reducible refine' md2 _ _ _ _) <;> wtm_at "ev2")
  | ((with_reducible refine' md3 _ _ _ _ _) <;> wtm_at "ev2")
  | ((with_reducible refine' md4 _ _ _ _ _ _) <;> wtm_at "ev2"))
local macro_rules | `(tactic| wtm_at "evx") => `(tactic| first
  | ((with_reducible show Ev _ _ (tVar _) _ _); exact ev_var rfl)
  | ((with_reducible show Ev _ _ (tC _) _ _); first | exact ev_int | exact ev_bl | exact ev_none | exact ev_non)
  | ((with_reducible show Ev _ _ (tOp _ _ _) _ _); wtm_at "evop")
  | ((with_reducible show Ev _ _ (tF _ _ _) _ _); wtm_at "evfld")
  | ((with_reducible show Ev _ _ (tCB _ _) _ _); wtm_at "evcb")
  | ((with_reducible show Ev _ _ (tCall _ _ _ _) _ _); wtm_at "evcall")
  | ((with_reducible show Ev _ _ (tMeth _ _ _ _ _ _ _) _ _); wtm_at "evmeth")
  | ((with_reducible show Ev _ _ (tTup _) _ _); first | ((with_reducible refine' ev_pair (m := _) (n := _) _ _) <;> wtm_at "ev2") | ((with_reducible refine' ev_tri (m := _) (n := _) (k := _) _ _ _) <;> wtm_at "ev2"))
  | ((with_reducible refine' ev_neg _) <;> wtm_at "ev2")
  | ((with_reducible refine' ev_notV _) <;> wtm_at "ev2")
  | ((with_reducible show Ev _ _ (tLc _ _ _ _ _) _ _); (with_reducible refine' EvL.ev (m := _) _) <;> wtm_at "ev2")
  | ((with_reducible refine' EvL.ev (m := _) _) <;> wtm_at "ev2"))
local macro_rules | `(tactic| wtm_at "evt") => `(tactic| first
  | ((with_reducible refine' et_test _) <;> wtm_at "ev2")
  | ((with_reducible refine' et_B _) <;> wtm_at "ev2")
  | ((with_reducible refine' et_not _) <;> wtm_at "ev2"))
local macro_rules | `(tactic| wtm_at "evl") => `(tactic| first
  | exact el_nil
  | ((with_reducible refine' el_rep (m := _) _ _ _ _) <;> wtm_at "ev2")
  | ((with_reducible refine' el_cat (m := _) _ _ _) <;> wtm_at "ev2")
  | ((with_reducible refine' el_slice (m := _) _ _ _) <;> wtm_at "ev2")
  | ((with_reducible show EvL _ _ (tSl _ (tVar _) _ _) _ _); (refine' el_sliceM rfl _ _) <;> wtm_at "ev2")
  | ((with_reducible refine' el_listL (m := _) _) <;> wtm_at "ev2")
  | ((with_reducible refine' el_disp (m := _) _ _) <;> wtm_at "ev2")
  | ((with_reducible refine' el_sortLL _) <;> wtm_at "ev2")
  | ((with_reducible refine' el_lc (m := _) (n := _) _ (tg_name (m := _)) _ _ _) <;> wtm_at "ev2")
  | ((with_reducible refine' el_lcR (n := _) _ _ _ _ _) <;> wtm_at "ev2")
  | ((with_reducible refine' el_lc (m := _) (n := _) _ (tg_pair (m := _) (n := _)) _ _ _) <;> wtm_at "ev2")
  | ((with_reducible refine' el_lc (m := _) (n := _) _ (tg_tri (m := _) (n := _) (o := _)) _ _ _) <;> wtm_at "ev2"))
local macro_rules | `(tactic| wtm_at "ev") => `(tactic| first
  | ((with_reducible show Ev _ _ _ _ _); first | ((with_reducible refine' et_chain _ _ _) <;> wtm_at "ev2") | wtm_at "evx")
  | ((with_reducible show EvT _ _ _ _); wtm_at "evt")
  | ((with_reducible show EvL _ _ _ _ _); wtm_at "evl")
  | exact ea_nil
  | exact eh_nil
  | exact eo_none
  | ((with_reducible refine' ea_cons (m := _) _ _) <;> wtm_at "ev2")
  | ((with_reducible refine' eh_cons (m := _) _ _) <;> wtm_at "ev2")
  | ((with_reducible refine' eo_some _) <;> wtm_at "ev2"))
local macro_rules | `(tactic| wtm_at "no") => `(tactic| ((fail_if_success (with_reducible show Ev _ _ _ _ _)); (fail_if_success (with_reducible show EvL _ _ _ _ _)); (fail_if_success (with_reducible show EvT _ _ _ _)); (fail_if_success (with_reducible show EvA _ _ _ _)); (fail_if_success (with_reducible show EvH _ _ _ _ _)); (fail_if_success (with_reducible show EvO _ _ _ _))))
local macro_rules | `(tactic| wtm_at "ev2") => `(tactic| first | wtm_at "ev" | (wtm_at "no"; first | infer_instance | (intro x hx; wtm_at "ev") | skip))
local macro_rules | `(tactic| wtm_at "E") => `(tactic| ((wtm_at "ev") <;> (try infer_instance)) <;> (try (refine Iff.mp Iff.rfl ?_; wtm_at "side")))
local macro_rules | `(tactic| wtm_at "sub") => `(tactic| repeat' first | exact Sub.nil | apply Sub.any | apply Sub.same | (apply Sub.fz) | (apply Sub.ml))
/-! ### fields -/
abbrev sp_int_power (K : PySem.W.Frag) : Sp := spD2 rInt rInt (fun b e => 0 ≤ b ∧ b ≤ 4 ∧ 0 ≤ e ∧ e ≤ 1000) rInt (fun b e => b ^ e.toNat)
abbrev Pr_int_power (P : Program) (w : World) (K : PySem.W.Frag) (mg : Str → Option Value) (base : Heap) : Prop := Pr P w K mg base (He.ga K "int_power") 1 ["base", "exponent"] (sp_int_power K) []
def nm_int_power : List Str := ["base", "exponent", "result", "_"]
theorem sc_int_power : FnScope nm_int_power ["base", "exponent"] (defScope s_int_power) := ⟨rfl, rfl, rfl, by decide +kernel, rfl, by decide +kernel, by decide +kernel⟩
theorem ok_int_power {P : Program} {w : World} {K : PySem.W.Frag} {mg : Str → Option Value} {base : Heap} (T : Tx K mg)  : Pr_int_power P w K mg base := by
  refine pr_of (N := nm_int_power) (k := 0) T.d_int_power sc_int_power (fun _ _ _ _ _ _ us hl => match us, hl with | [_, _], _ => rfl) len2 fun cdv A outer s H E hr => ⟨_, (pss_cons (ps_set (i := 2) sc_int_power.nd rfl (Or.inl rfl) pe_int)
      (pss_cons (ps_for PassesOwn.never rfl (pi_range1 rfl T.f_range (pa_cons (pv 1) pa_nil)) (pg_name (i := 3) sc_int_power.nd rfl (Or.inl rfl)) (pss_one (ps_set (i := 2) sc_int_power.nd rfl (Or.inl rfl) (pe_op op_mul (pv 2) (pv 0)))))
      (pss_one (ps_ret (pv 2))))), en2 (n := 2) rfl fun B b e Q hp rt => ?_⟩
  refine q_asg (by wtm_at "E") ?_
  refine q_forR1 (I := Unit) (fun i _ => True) (fun i _ => [sf rInt b, sf rInt e, sf rInt (b ^ i), .any]) (by wtm_at "E") (by omega) ⟨(), trivial, by wtm_at "sub"; exact (Int.pow_zero b).symm⟩ (fun i _ hi _ => ?_) (fun _ _ => ?_)
  · refine s_asg (by wtm_at "E") (wn_lp () trivial ?_)
    wtm_at "sub"
    exact (Int.pow_succ b i).symm
  · refine s_ret (by wtm_at "E") rt ?_
    rfl
abbrev sp_is_prime (K : PySem.W.Frag) : Sp := spD1 rInt (fun n => n = 2) rBl (fun _ => true)
abbrev Pr_is_prime (P : Program) (w : World) (K : PySem.W.Frag) (mg : Str → Option Value) (base : Heap) : Prop := Pr P w K mg base (He.ga K "is_prime") 1 ["n"] (sp_is_prime K) []
def nm_is_prime : List Str := ["n", "divisor"]
theorem sc_is_prime : FnScope nm_is_prime ["n"] (defScope s_is_prime) := ⟨rfl, rfl, rfl, by decide +kernel, rfl, by decide +kernel, by decide +kernel⟩
theorem ok_is_prime {P : Program} {w : World} {K : PySem.W.Frag} {mg : Str → Option Value} {base : Heap} (T : Tx K mg)  : Pr_is_prime P w K mg base := by
  refine pr_of (N := nm_is_prime) (k := 0) T.d_is_prime sc_is_prime (fun _ _ _ _ _ _ us hl => match us, hl with | [_], _ => rfl) len1 fun cdv A outer s H E hr => ⟨_, (pss_cons (ps_if (pt_cmpR op_lt (pv 0) pe_int (nomark _)) (pss_one (ps_ret pe_bl)) pss_nil)
      (pss_cons (ps_for PassesOwn.never rfl (pi_range2 rfl T.f_range (pa_cons pe_int (pa_cons (pv 0) pa_nil))) (pg_name (i := 1) sc_is_prime.nd rfl (Or.inl rfl)) (pss_one (ps_if (pt_cmpR op_eq (pe_op op_mod (pv 0) (pv 1)) pe_int (nomark _)) (pss_one (ps_ret pe_bl)) pss_nil)))
      (pss_one (ps_ret pe_bl)))), en1 (n := 1) rfl fun B n Q hp rt => ?_⟩
  subst hp
  refine q_no (by wtm_at "E") (by decide) ?_
  refine q_forR2 (I := Unit) (fun i _ => True) (fun i _ => [sf rInt 2, .any]) (by wtm_at "E") (by wtm_at "E") (by decide) ⟨(), trivial, by wtm_at "sub"⟩ (fun i _ hi _ => by omega) (fun _ _ => ?_)
  refine s_ret (by wtm_at "E") rt ?_
  rfl
abbrev sp_base_digits (K : PySem.W.Frag) : Sp := spD3 rInt rInt rInt (fun n b k => b = 2 ∧ k = 1) (rLst rInt) (fun n _ _ => [n % 2])
abbrev Pr_base_digits (P : Program) (w : World) (K : PySem.W.Frag) (mg : Str → Option Value) (base : Heap) : Prop := Pr P w K mg base (He.ga K "base_digits") 1 ["n", "base", "size"] (sp_base_digits K) []
def nm_base_digits : List Str := ["n", "base", "size", "digits", "_"]
theorem sc_base_digits : FnScope nm_base_digits ["n", "base", "size"] (defScope s_base_digits) := ⟨rfl, rfl, rfl, by decide +kernel, rfl, by decide +kernel, by decide +kernel⟩
theorem ok_base_digits {P : Program} {w : World} {K : PySem.W.Frag} {mg : Str → Option Value} {base : Heap} (T : Tx K mg)  : Pr_base_digits P w K mg base := by
  refine pr_of (N := nm_base_digits) (k := 0) T.d_base_digits sc_base_digits (fun _ _ _ _ _ _ us hl => match us, hl with | [_, _, _], _ => rfl) len3 fun cdv A outer s H E hr => ⟨_, (pss_cons (ps_set (i := 3) sc_base_digits.nd rfl (Or.inl rfl) (pe_lst pa_nil))
      (pss_cons (ps_for PassesOwn.never rfl (pi_range1 rfl T.f_range (pa_cons (pv 2) pa_nil)) (pg_name (i := 4) sc_base_digits.nd rfl (Or.inl rfl)) (pss_cons (ps_expr (pe_bm PySem.F.plainAttrs_list PySem.F.slot_list_append PySem.F.type_list_append mt_append (pv 3) (pa_cons (pe_op op_mod (pv 0) (pv 1)) pa_nil)))
      (pss_one (ps_set (i := 0) sc_base_digits.nd rfl (Or.inl rfl) (pe_op op_fdiv (pv 0) (pv 1))))))
      (pss_one (ps_ret (pv 3))))), en3 (n := 2) rfl fun B n b k Q hp rt => ?_⟩
  obtain ⟨rfl, rfl⟩ := hp
  refine q_asgL (R := rInt) (by wtm_at "E") ?_
  refine q_forR1 (I := Unit) (fun i _ => True) (fun i _ => [if i = 0 then sf rInt n else .any, sf rInt 2, sf rInt 1, sm rInt ([n % 2].take i), .any]) (by wtm_at "E") (by decide) ⟨(), trivial, by wtm_at "sub"⟩ (fun i _ hi _ => ?_) (fun _ _ => ?_)
  · obtain rfl : i = 0 := by omega
    refine q_app rfl (by wtm_at "E") (by show 0 < _; decide) ?_
    refine s_asg (by wtm_at "E") (wn_lp () trivial ?_)
    wtm_at "sub"
  · refine wn_fz (i := 3) rfl ?_
    refine s_ret (by wtm_at "E") rt ?_
    rfl
abbrev rMod (K : PySem.W.Frag) : Rel (List Int) := rTupS K rInt
abbrev sp_is_irreducible (K : PySem.W.Frag) : Sp := spD2 rInt (rMod K) (fun p m => p = 2 ∧ m = [0, 1]) rBl (fun _ _ => true)
abbrev Pr_is_irreducible (P : Program) (w : World) (K : PySem.W.Frag) (mg : Str → Option Value) (base : Heap) : Prop := Pr P w K mg base (He.ga K "is_irreducible") 1 ["prime", "modulus"] (sp_is_irreducible K) []
def nm_is_irreducible : List Str := ["prime", "modulus", "size", "n", "divisor", "rest"]
theorem sc_is_irreducible : FnScope nm_is_irreducible ["prime", "modulus"] (defScope s_is_irreducible) := ⟨rfl, rfl, rfl, by decide +kernel, rfl, by decide +kernel, by decide +kernel⟩
theorem ok_is_irreducible {P : Program} {w : World} {K : PySem.W.Frag} {mg : Str → Option Value} {base : Heap} (T : Tx K mg)  : Pr_is_irreducible P w K mg base := by
  refine pr_of (N := nm_is_irreducible) (k := 0) T.d_is_irreducible sc_is_irreducible (fun _ _ _ _ _ _ us hl => match us, hl with | [_, _], _ => rfl) len2 fun cdv A outer s H E hr => ⟨_, (pss_cons (ps_for PassesOwn.never rfl (pi_range2 rfl T.f_range (pa_cons pe_int (pa_cons (pe_op op_sub (pe_callB (kLen K rfl) (by rfl) T.f_len boot_len (pa_cons (pv 1) pa_nil)) pe_int) pa_nil))) (pg_name (i := 2) sc_is_irreducible.nd rfl (Or.inl rfl)) pss_never)
      (pss_one (ps_ret pe_bl))), en2 (n := 4) rfl fun B p m Q hp rt => ?_⟩
  obtain ⟨rfl, rfl⟩ := hp
  refine q_forR2 (I := Unit) (fun i _ => True) (fun i _ => [sf rInt 2, sf (rMod K) [0, 1], .any, .any, .any, .any]) (by wtm_at "E") (by wtm_at "E") (by decide) ⟨(), trivial, by wtm_at "sub"⟩ (fun i _ hi _ => ?_) (fun _ _ => ?_)
  · exact absurd hi (by show ¬ ((1 : Int) + i < 1); omega)
  · refine s_ret (by wtm_at "E") rt ?_
    rfl
abbrev sp_is_modulus (K : PySem.W.Frag) : Sp := spD2 rInt (rMod K) (fun p m => p = 2 ∧ m = [0, 1]) rBl (fun _ _ => true)
abbrev Pr_is_modulus (P : Program) (w : World) (K : PySem.W.Frag) (mg : Str → Option Value) (base : Heap) : Prop := Pr P w K mg base (He.ga K "is_modulus") 2 ["prime", "modulus"] (sp_is_modulus K) []
def nm_is_modulus : List Str := ["prime", "modulus", "item"]
theorem sc_is_modulus : FnScope nm_is_modulus ["prime", "modulus"] (defScope s_is_modulus) := ⟨rfl, rfl, rfl, by decide +kernel, rfl, by decide +kernel, by decide +kernel⟩
theorem ok_is_modulus {P : Program} {w : World} {K : PySem.W.Frag} {mg : Str → Option Value} {base : Heap} (T : Tx K mg) (cint_power : Pr_int_power P w K mg base) (cis_irreducible : Pr_is_irreducible P w K mg base) : Pr_is_modulus P w K mg base := by
  refine pr_of (N := nm_is_modulus) (k := 1) T.d_is_modulus sc_is_modulus (fun _ _ _ _ _ _ us hl => match us, hl with | [_, _], _ => rfl) len2 fun cdv A outer s H E hr => ⟨_, (pss_cons (ps_if (PW.pt (pw_or (pt_cmpR op_lt (pe_callB (kLen K rfl) (by rfl) T.f_len boot_len (pa_cons (pv 1) pa_nil)) pe_int (nomark _)) (pw_or (pt_cmpR op_gt (pe_callB (kLen K rfl) (by rfl) T.f_len boot_len (pa_cons (pv 1) pa_nil)) pe_int (nomark _)) (pw_or1 (pt_cmpR op_ne (pe_ix (kIxT K rfl) (pv 1) (pe_un un_neg pe_int) (fun _ _ => rfl)) pe_int (nomark _)))))) (pss_one (ps_ret pe_bl)) pss_nil)
      (pss_cons (ps_if (pt_cmpR op_gt (pe_cal cint_power T.g_int_power hr (pa_cons (pv 0) (pa_cons (pe_op op_sub (pe_callB (kLen K rfl) (by rfl) T.f_len boot_len (pa_cons (pv 1) pa_nil)) pe_int) pa_nil))) (pe_gi T.i_LARGEST_ORDER) (nomark _)) (pss_one (ps_ret pe_bl)) pss_nil)
      (pss_cons (ps_for PassesOwn.never rfl (kPiT K rfl (pv 1)) (pg_name (i := 2) sc_is_modulus.nd rfl (Or.inl rfl)) (pss_one (ps_if (PW.pt (pw_or (pt_cmpR op_lt (pv 2) pe_int (nomark _)) (pw_or1 (pt_cmpR op_ge (pv 2) (pv 0) (nomark _))))) (pss_one (ps_ret pe_bl)) pss_nil)))
      (pss_one (ps_ret (pe_cal cis_irreducible T.g_is_irreducible hr (pa_cons (pv 0) (pa_cons (pv 1) pa_nil)))))))), en2 (n := 1) rfl fun B p m Q hp rt => ?_⟩
  obtain ⟨rfl, rfl⟩ := hp
  have h1 : atI ([0, 1] : List Int) (-1) = some 1 := rfl
  refine q_no (et_or (by wtm_at "E") fun _ => et_or (by wtm_at "E") fun _ => by wtm_at "E") (by rfl) ?_
  refine q_no (by wtm_at "E") (by rfl) ?_
  refine q_forS (I := Unit) (fun i _ => True) (fun i _ => [sf rInt 2, sf (rMod K) [0, 1], .any]) tg_name (by wtm_at "E") ⟨(), trivial, by wtm_at "sub"⟩ (fun B1 up i _ y hy _ => ?_) (fun _ _ => ?_)
  · refine s_no (et_or (by wtm_at "E") fun _ => by wtm_at "E") ?_ (wn_lp () trivial (by wtm_at "sub"))
    have hm : y = 0 ∨ y = 1 := by
      have := List.mem_of_getElem? hy
      simpa using this
    rcases hm with rfl | rfl <;> rfl
  · refine s_ret (by wtm_at "E") rt ?_
    rfl
end NW
set_option maxHeartbeats 4000000
namespace NW
open PySem PySem.Spec PyProof.Rows L2 G
local macro_rules | `(tactic| wtm_at "nl") => `(tactic| first
  | with_reducible exact nl_Field_digits _ _
  | with_reducible exact nl_Field_element _ _
  | with_reducible exact nl_Field_plus _ _
  | with_reducible exact nl_Field_negative _ _
  | with_reducible exact nl_Field_minus _ _
  | with_reducible exact nl_Field_times _ _
  | with_reducible exact nl_Field_inverse _ _
  | with_reducible exact nl_LinearCode_words _ _
  | with_reducible exact nl_Encoder_advance _ _
  | with_reducible exact nl_Encoder__fed _ _
  | with_reducible exact nl_Encoder_word_for _ _
  | with_reducible exact nl_Encoder_linear _ _
  | with_reducible exact nl_Trellis_moves_from _ _
  | with_reducible exact nl_Trellis_costs_table _ _
  | with_reducible exact nl_Trellis_best_moves _ _
  | with_reducible exact nl_Summary_grown _ _
  | with_reducible exact nl_PathDecoder_restart _ _
  | with_reducible exact nl_PathDecoder_take _ _
  | with_reducible exact nl_PathDecoder_answer _ _)
local macro_rules | `(tactic| wtm_at "side") => `(tactic| first
  | assumption
  | exact rfl
  | exact atI_0 (by omega)
  | exact atI_L (by omega)
  | omega
  | exact trivial
  | exact fun _ h => h
  | exact List.mem_singleton.mpr rfl
  | wtm_at "nl"
  | exact Or.inr ⟨by omega, by omega⟩
  | exact Or.inl ⟨by omega, by omega⟩
  | (show (0 : Int) < _; omega)
  | exact ⟨by omega, by omega⟩
  | exact ⟨rfl, rfl⟩
  | exact MX.Bits.getD (by assumption) _
  | exact ⟨by assumption, by assumption⟩
  | exact ⟨by assumption, by assumption, by assumption⟩
  | exact ⟨by assumption, MX.Bits.getD (by assumption) _⟩
  | decide
  | (show (_ : Nat) ≤ 10000000; (simp only [List.length_cons, List.length_nil, List.length_append]; omega))
  | (show (_ : Nat) < 10000000; (simp only [List.length_cons, List.length_nil, List.length_append]; omega)))
local macro_rules | `(tactic| wtm_at "evop") => `(tactic| first
  | ((with_reducible refine' ev_opI0 _ _) <;> wtm_at "ev2")
  | ((with_reducible refine' ev_opB0 _ _) <;> wtm_at "ev2")
  | ((with_reducible refine' ev_opI _ _ _) <;> wtm_at "ev2")
  | ((with_reducible refine' ev_ixL (m := _) _ _ _) <;> wtm_at "ev2")
  | ((with_reducible show Ev _ _ (tOp (rIxL _) (tVar _) _) _ _); (refine' ev_ixM rfl _ _) <;> wtm_at "ev2")
  | ((with_reducible refine' ev_eqI _ _) <;> wtm_at "ev2")
  | ((with_reducible refine' ev_neI _ _) <;> wtm_at "ev2")
  | ((with_reducible refine' ev_isN (n := _) _) <;> wtm_at "ev2")
  | ((with_reducible refine' ev_notN (n := _) _) <;> wtm_at "ev2")
  | ((with_reducible refine' ev_fst (m := _) (n := _) _) <;> wtm_at "ev2")
  | ((with_reducible refine' ev_snd (m := _) (n := _) _) <;> wtm_at "ev2")
  | ((with_reducible refine' ev_tri1 _) <;> wtm_at "ev2")
  | ((with_reducible refine' ev_tri2 _) <;> wtm_at "ev2")
  | ((with_reducible refine' ev_ixT (m := _) _ _ _) <;> wtm_at "ev2")
  | ((with_reducible refine' ev_ixS (m := _) _ _ _) <;> wtm_at "ev2")
  | ((with_reducible refine' EvL.ev (m := _) _) <;> wtm_at "ev2"))
local macro_rules | `(tactic| wtm_at "evfld") => `(tactic| first
  | ((with_reducible refine' ev_Field_prime _) <;> wtm_at "ev2")
  | ((with_reducible refine' ev_Field_modulus _) <;> wtm_at "ev2")
  | ((with_reducible refine' ev_Field_degree _) <;> wtm_at "ev2")
  | ((with_reducible refine' ev_Field_order _) <;> wtm_at "ev2")
  | ((with_reducible refine' ev_LinearCode_field _) <;> wtm_at "ev2")
  | ((with_reducible refine' ev_LinearCode_length _) <;> wtm_at "ev2")
  | ((with_reducible refine' ev_LinearCode_dimension _) <;> wtm_at "ev2")
  | ((with_reducible refine' ev_LinearCode_rows _) <;> wtm_at "ev2")
  | ((with_reducible refine' ev_LinearCode_pivots _) <;> wtm_at "ev2")
  | ((with_reducible refine' ev_LinearCode_checks _) <;> wtm_at "ev2")
  | ((with_reducible refine' ev_LinearCode_size _) <;> wtm_at "ev2")
  | ((with_reducible refine' ev_Encoder_taps _) <;> wtm_at "ev2")
  | ((with_reducible refine' ev_Encoder_memory _) <;> wtm_at "ev2")
  | ((with_reducible refine' ev_Encoder_outputs _) <;> wtm_at "ev2")
  | ((with_reducible refine' ev_Encoder_state_count _) <;> wtm_at "ev2")
  | ((with_reducible refine' ev_Trellis_steps _) <;> wtm_at "ev2")
  | ((with_reducible refine' ev_Trellis_message_length _) <;> wtm_at "ev2")
  | ((with_reducible refine' ev_Trellis_table _) <;> wtm_at "ev2")
  | ((with_reducible refine' ev_Summary_cost _) <;> wtm_at "ev2")
  | ((with_reducible refine' ev_Summary_count_of _) <;> wtm_at "ev2")
  | ((with_reducible refine' ev_Summary_first _) <;> wtm_at "ev2")
  | ((with_reducible refine' ev_Summary_start_of _) <;> wtm_at "ev2")
  | ((with_reducible refine' ev_PathDecoder_encoder _) <;> wtm_at "ev2")
  | ((with_reducible refine' ev_PathDecoder_table _) <;> wtm_at "ev2")
  | ((with_reducible refine' ev_PathDecoder_steps _) <;> wtm_at "ev2")
  | ((with_reducible refine' ev_PathDecoder_summaries _) <;> wtm_at "ev2"))
local macro_rules | `(tactic| wtm_at "evcb") => `(tactic| first
  | ((with_reducible show Ev _ _ (tCB (rLen _) (tCons (tVar _) tNil)) _ _); exact ev_lenM rfl)
  | ((with_reducible refine' ev_lenL _) <;> wtm_at "ev2")
  | ((with_reducible refine' ev_lenT _) <;> wtm_at "ev2")
  | ((with_reducible refine' ev_lenS _) <;> wtm_at "ev2")
  | ((with_reducible refine' ev_int1 _) <;> wtm_at "ev2")
  | ((with_reducible refine' ev_intB _) <;> wtm_at "ev2")
  | ((with_reducible refine' ev_abs _) <;> wtm_at "ev2")
  | ((with_reducible refine' ev_min2 _ _) <;> wtm_at "ev2")
  | ((with_reducible refine' ev_max2 _ _) <;> wtm_at "ev2")
  | ((with_reducible refine' ev_minLL _ _) <;> wtm_at "ev2")
  | ((with_reducible refine' ev_sum _) <;> wtm_at "ev2")
  | ((with_reducible refine' ev_tupL (m := _) _) <;> wtm_at "ev2")
  | ((with_reducible refine' EvL.ev (m := _) _) <;> wtm_at "ev2"))
local macro_rules | `(tactic| wtm_at "evcall") => `(tactic| first
  | ((with_reducible refine' cd1 _ _) <;> wtm_at "ev2")
  | ((with_reducible refine' cd2 _ _ _) <;> wtm_at "ev2")
  | ((with_reducible refine' cd3 _ _ _ _) <;> wtm_at "ev2")
  | ((with_reducible refine' cd4 _ _ _ _ _) <;> wtm_at "ev2")
  | ((with_reducible refine' cd5 _ _ _ _ _ _) <;> wtm_at "ev2"))
local macro_rules | `(tactic| wtm_at "evmeth") => `(tactic| first
  | ((with_reducible refine' md1 _ _ _) <;> wtm_at "ev2")
  | ((with_reducible refine' md2 _ _ _ _) <;> wtm_at "ev2")
  | ((with_reducible refine' md3 _ _ _ _ _) <;> wtm_at "ev2")
  | ((with_reducible refine' md4 _ _ _ _ _ _) <;> wtm_at "ev2"))
local macro_rules | `(tactic| wtm_at "evx") => `(tactic| first
  | ((with_reducible show Ev _ _ (tVar _) _ _); exact ev_var rfl)
  | ((with_reducible show Ev _ _ (tC _) _ _); first | exact ev_int | exact ev_bl | exact ev_none | exact ev_non)
  | ((with_reducible show Ev _ _ (tOp _ _ _) _ _); wtm_at "evop")
  | ((with_reducible show Ev _ _ (tF _ _ _) _ _); wtm_at "evfld")
  | ((with_reducible show Ev _ _ (tCB _ _) _ _); wtm_at "evcb")
  | ((with_reducible show Ev _ _ (tCall _ _ _ _) _ _); wtm_at "evcall")
  | ((with_reducible show Ev _ _ (tMeth _ _ _ _ _ _ _) _ _); wtm_at "evmeth")
  | ((with_reducible show Ev _ _ (tTup _) _ _); first | ((with_reducible refine' ev_pair (m := _) (n := _) _ _) <;> wtm_at "ev2") | ((with_reducible refine' ev_tri (m := _) (n := _) (k := _) _ _ _) <;> wtm_at "ev2"))
  | ((with_reducible refine' ev_neg _) <;> wtm_at "ev2")
  | ((with_reducible refine' ev_notV _) <;> wtm_at "ev2")
  | ((with_reducible show Ev _ _ (tLc _ _ _ _ _) _ _); (with_reducible refine' EvL.ev (m := _) _) <;> wtm_at "ev2")
  | ((with_reducible refine' EvL.ev (m := _) _) <;> wtm_at "ev2"))
local macro_rules | `(tactic| wtm_at "evt") => `(tactic| first
  | ((with_reducible refine' et_test _) <;> wtm_at "ev2")
  | ((with_reducible refine' et_B _) <;> wtm_at "ev2")
  | ((with_reducible refine' et_not _) <;> wtm_at "ev2"))
local macro_rules | `(tactic| wtm_at "evl") => `(tactic| first
  | exact el_nil
  | ((with_reducible refine' el_rep (m := _) _ _ _ _) <;> wtm_at "ev2")
  | ((with_reducible refine' el_cat (m := _) _ _ _) <;> wtm_at "ev2")
  | ((with_reducible refine' el_slice (m := _) _ _ _) <;> wtm_at "ev2")
  | ((with_reducible show EvL _ _ (tSl _ (tVar _) _ _) _ _); (refine' el_sliceM rfl _ _) <;> wtm_at "ev2")
  | ((with_reducible refine' el_listL (m := _) _) <;> wtm_at "ev2")
  | ((with_reducible refine' el_disp (m := _) _ _) <;> wtm_at "ev2")
  | ((with_reducible refine' el_sortLL _) <;> wtm_at "ev2")
  | ((with_reducible refine' el_lc (m := _) (n := _) _ (tg_name (m := _)) _ _ _) <;> wtm_at "ev2")
  | ((with_reducible refine' el_lcR (n := _) _ _ _ _ _) <;> wtm_at "ev2")
  | ((with_reducible refine' el_lc (m := _) (n := _) _ (tg_pair (m := _) (n := _)) _ _ _) <;> wtm_at "ev2")
  | ((with_reducible refine' el_lc (m := _) (n := _) _ (tg_tri (m := _) (n := _) (o := _)) _ _ _) <;> wtm_at "ev2"))
local macro_rules | `(tactic| wtm_at "ev") => `(tactic| first
  | ((with_reducible show Ev _ _ _ _ _); first | ((with_reducible refine' et_chain _ _ _) <;> wtm_at "ev2") | wtm_at "evx")
  | ((with_reducible show EvT _ _ _ _); wtm_at "evt")
  | ((with_reducible show EvL _ _ _ _ _); wtm_at "evl")
  | exact ea_nil
  | exact eh_nil
  | exact eo_none
  | ((with_reducible refine' ea_cons (m := _) _ _) <;> wtm_at "ev2")
  | ((with_reducible refine' eh_cons (m := _) _ _) <;> wtm_at "ev2")
  | ((with_reducible refine' eo_some _) <;> wtm_at "ev2"))
local macro_rules | `(tactic| wtm_at "no") => `(tactic| ((fail_if_success (with_reducible show Ev _ _ _ _ _)); (fail_if_success (with_reducible show EvL _ _ _ _ _)); (fail_if_success (with_reducible show EvT _ _ _ _)); (fail_if_success (with_reducible show EvA _ _ _ _)); (fail_if_success (with_reducible show EvH _ _ _ _ _)); (fail_if_success (with_reducible show EvO _ _ _ _))))
local macro_rules | `(tactic| wtm_at "ev2") => `(tactic| first | wtm_at "ev" | (wtm_at "no"; first | infer_instance | (intro x hx; wtm_at "ev") | skip))
local macro_rules | `(tactic| wtm_at "E") => `(tactic| ((wtm_at "ev") <;> (try infer_instance)) <;> (try (refine Iff.mp Iff.rfl ?_; wtm_at "side")))
local macro_rules | `(tactic| wtm_at "sub") => `(tactic| repeat' first | exact Sub.nil | apply Sub.any | apply Sub.same | (apply Sub.fz) | (apply Sub.ml))
abbrev sp_Field___init__ (K : PySem.W.Frag) : Sp := spI' (aField K) (rField K) (fun (z : Unit) => [fz' rInt 2, fz' (rMod K) [0, 1]]) (fun _ => True) (fun _ => ())
abbrev Pr_Field___init__ (P : Program) (w : World) (K : PySem.W.Frag) (mg : Str → Option Value) (base : Heap) : Prop := Pr P w K mg base (He.ma K (aField K) "__init__") 3 ["self", "prime", "modulus"] (sp_Field___init__ K) [.ref (He.dflAt ("Field", some "__init__") 0 K)]
def nm_Field___init__ : List Str := ["self", "prime", "modulus"]
theorem sc_Field___init__ : FnScope nm_Field___init__ ["self", "prime", "modulus"] (defScope s_Field___init__) := ⟨rfl, rfl, rfl, by decide +kernel, rfl, by decide +kernel, by decide +kernel⟩
theorem ok_Field___init__ {P : Program} {w : World} {K : PySem.W.Frag} {mg : Str → Option Value} {base : Heap} (T : Tx K mg) (cis_prime : Pr_is_prime P w K mg base) (cis_modulus : Pr_is_modulus P w K mg base) (cint_power : Pr_int_power P w K mg base) : Pr_Field___init__ P w K mg base := by
  refine pr_ofD (N := nm_Field___init__) (k := 2) T.dF sc_Field___init__ (by decide) (fun _ _ _ _ _ _ _ us its h1 h2 => match us, its, h1, h2 with | [_, _], [_], _, _ => ⟨_, rfl, rfl⟩) (lenI fun _ => rfl) fun cdv A outer s H E hr => ⟨_, (pss_cons (ps_if (PW.pt (pw_or (pt_cmpR op_gt (pv 1) (pe_gi T.i_LARGEST_PRIME) (nomark _)) (pw_or1 (pt_not (pt_val (pe_cal cis_prime T.g_is_prime hr (pa_cons (pv 1) pa_nil))))))) pss_never pss_nil)
      (pss_cons (ps_if (pt_not (pt_val (pe_cal cis_modulus T.g_is_modulus hr (pa_cons (pv 1) (pa_cons (pv 2) pa_nil))))) pss_never pss_nil)
      (pss_cons (ps_fT (pv 0) (pv 1) T.c_Field T.n_Field_prime)
      (pss_cons (ps_fT (pv 0) (pv 2) T.c_Field T.n_Field_modulus)
      (pss_cons (ps_fT (pv 0) (pe_op op_sub (pe_callB (kLen K rfl) (by rfl) T.f_len boot_len (pa_cons (pv 2) pa_nil)) pe_int) T.c_Field T.n_Field_degree)
      (pss_one (ps_fT (pv 0) (pe_cal cint_power T.g_int_power hr (pa_cons (pv 1) (pa_cons (pe_fT (pv 0) T.c_Field T.n_Field_degree) pa_nil))) T.c_Field T.n_Field_order))))))), enI (N := ["prime", "modulus"]) (n := 0) (fun _ => rfl) fun B p z Q hp rt => ?_⟩
  refine q_no (et_or (by wtm_at "E") fun _ => by wtm_at "E") (by rfl) ?_
  refine q_no (by wtm_at "E") (by rfl) ?_
  refine q_fldN [] rfl (by wtm_at "E") rfl (by decide +kernel) (by decide) ?_
  refine q_fldN ["prime"] rfl (by wtm_at "E") rfl (by decide +kernel) (by decide) ?_
  refine q_fldN ["prime", "modulus"] (x := (1 : Int)) rfl (Ev.to (by wtm_at "E") (by decide)) rfl (by decide +kernel) (by decide) ?_
  refine s_fldN ["prime", "modulus", "degree"] (x := (2 : Int)) rfl (Ev.to (cd2 (by wtm_at "E") (ev_fldM rfl ((lk_ne (by decide +kernel)).trans ((lk_ne (by decide +kernel)).trans lk_one))) (by decide)) (by decide)) rfl (by decide +kernel) (by decide) ?_
  exact s_offI (i := 0) (fs := fsField K ()) rfl rt fun F v h => h
abbrev sp_Field_digits (K : PySem.W.Frag) : Sp := spD2 (rField K) rInt (fun _ _ => True) (rLst rInt) (fun _ a => [a % 2])
abbrev Pr_Field_digits (P : Program) (w : World) (K : PySem.W.Frag) (mg : Str → Option Value) (base : Heap) : Prop := Pr P w K mg base (He.ma K (aField K) "digits") 2 ["self", "a"] (sp_Field_digits K) []
def nm_Field_digits : List Str := ["self", "a"]
theorem sc_Field_digits : FnScope nm_Field_digits ["self", "a"] (defScope s_Field_digits) := ⟨rfl, rfl, rfl, by decide +kernel, rfl, by decide +kernel, by decide +kernel⟩
theorem ok_Field_digits {P : Program} {w : World} {K : PySem.W.Frag} {mg : Str → Option Value} {base : Heap} (T : Tx K mg) (cbase_digits : Pr_base_digits P w K mg base) : Pr_Field_digits P w K mg base := by
  refine pr_of (N := nm_Field_digits) (k := 1) T.d_Field_digits sc_Field_digits (fun _ _ _ _ _ _ us hl => match us, hl with | [_, _], _ => rfl) len2 fun cdv A outer s H E hr => ⟨_, (pss_one (ps_ret (pe_cal cbase_digits T.g_base_digits hr (pa_cons (pv 1) (pa_cons (pe_fT (pv 0) T.c_Field T.n_Field_prime) (pa_cons (pe_fT (pv 0) T.c_Field T.n_Field_degree) pa_nil)))))), en2 (n := 0) rfl fun B z a Q hp rt => ?_⟩
  refine s_ret (by wtm_at "E") rt ?_
  rfl
abbrev sp_Field_element (K : PySem.W.Frag) : Sp := spP2 (rField K) (rLst rInt) (fun _ l => l.length = 1) rInt (fun _ l y => ∃ d, l = [d] ∧ y = d)
abbrev Pr_Field_element (P : Program) (w : World) (K : PySem.W.Frag) (mg : Str → Option Value) (base : Heap) : Prop := Pr P w K mg base (He.ma K (aField K) "element") 1 ["self", "digits"] (sp_Field_element K) []
def nm_Field_element : List Str := ["self", "digits", "result", "digit"]
theorem sc_Field_element : FnScope nm_Field_element ["self", "digits"] (defScope s_Field_element) := ⟨rfl, rfl, rfl, by decide +kernel, rfl, by decide +kernel, by decide +kernel⟩
theorem ok_Field_element {P : Program} {w : World} {K : PySem.W.Frag} {mg : Str → Option Value} {base : Heap} (T : Tx K mg)  : Pr_Field_element P w K mg base := by
  refine pr_of (N := nm_Field_element) (k := 0) T.d_Field_element sc_Field_element (fun _ _ _ _ _ _ us hl => match us, hl with | [_, _], _ => rfl) len2 fun cdv A outer s H E hr => ⟨_, (pss_cons (ps_set (i := 2) sc_Field_element.nd rfl (Or.inl rfl) pe_int)
      (pss_cons (ps_for PassesOwn.never rfl (kPiRev K rfl (by rfl) T.f_reversed (pa_cons (pv 1) pa_nil)) (pg_name (i := 3) sc_Field_element.nd rfl (Or.inl rfl)) (pss_one (ps_set (i := 2) sc_Field_element.nd rfl (Or.inl rfl) (pe_op op_add (pe_op op_mul (pv 2) (pe_fT (pv 0) T.c_Field T.n_Field_prime)) (pv 3)))))
      (pss_one (ps_ret (pv 2))))), en2 (n := 2) rfl fun B z l Q hp rt => ?_⟩
  obtain ⟨d, rfl⟩ : ∃ d, l = [d] := by
    cases l with
    | nil => cases hp
    | cons d r => cases r with
      | nil => exact ⟨d, rfl⟩
      | cons _ _ => cases hp
  refine q_asg (by wtm_at "E") ?_
  refine q_forRv (I := Unit) (fun i _ => True) (fun i _ => [sf (rField K) (), sf (rLst rInt) [d], sf rInt (if i = 0 then 0 else d), .any]) tg_name (by wtm_at "E") ⟨(), trivial, by wtm_at "sub"⟩ (fun B1 up i _ y hi hy _ => ?_) (fun _ _ => ?_)
  · obtain rfl : i = 0 := by
      have : i < 1 := hi
      omega
    cases (show some d = some y from hy)
    refine s_asg (by wtm_at "E") (wn_lp () trivial ?_)
    wtm_at "sub"
    show (if 0 = 0 then (0 : Int) else d) * 2 + d = d
    rw [if_pos rfl]; omega
  · refine s_ret (by wtm_at "E") rt ?_
    exact ⟨d, rfl, rfl⟩
abbrev sp_Field_plus (K : PySem.W.Frag) : Sp := spD3 (rField K) rInt rInt (fun _ _ _ => True) rInt (fun _ a b => (a + b) % 2)
abbrev Pr_Field_plus (P : Program) (w : World) (K : PySem.W.Frag) (mg : Str → Option Value) (base : Heap) : Prop := Pr P w K mg base (He.ma K (aField K) "plus") 1 ["self", "a", "b"] (sp_Field_plus K) []
def nm_Field_plus : List Str := ["self", "a", "b", "first", "second", "k"]
theorem sc_Field_plus : FnScope nm_Field_plus ["self", "a", "b"] (defScope s_Field_plus) := ⟨rfl, rfl, rfl, by decide +kernel, rfl, by decide +kernel, by decide +kernel⟩
theorem ok_Field_plus {P : Program} {w : World} {K : PySem.W.Frag} {mg : Str → Option Value} {base : Heap} (T : Tx K mg)  : Pr_Field_plus P w K mg base := by
  refine pr_of (N := nm_Field_plus) (k := 0) T.d_Field_plus sc_Field_plus (fun _ _ _ _ _ _ us hl => match us, hl with | [_, _, _], _ => rfl) len3 fun cdv A outer s H E hr => ⟨_, (pss_cons (ps_if (pt_cmpR op_eq (pe_fT (pv 0) T.c_Field T.n_Field_degree) pe_int (nomark _)) (pss_one (ps_ret (pe_op op_mod (pe_op op_add (pv 1) (pv 2)) (pe_fT (pv 0) T.c_Field T.n_Field_prime)))) pss_nil) pss_never), en3 (n := 3) rfl fun B z a b Q hp rt => ?_⟩
  refine q_if (by wtm_at "E") (fun _ => ?_) (fun h => by cases h)
  refine s_ret (by wtm_at "E") rt ?_
  rfl
end NW
set_option maxHeartbeats 4000000
namespace NW
open PySem PySem.Spec PyProof.Rows L2 G MX
local macro_rules | `(tactic| wtm_at "nl") => `(tactic| first
  | with_reducible exact nl_Field_digits _ _
  | with_reducible exact nl_Field_element _ _
  | with_reducible exact nl_Field_plus _ _
  | with_reducible exact nl_Field_negative _ _
  | with_reducible exact nl_Field_minus _ _
  | with_reducible exact nl_Field_times _ _
  | with_reducible exact nl_Field_inverse _ _
  | with_reducible exact nl_LinearCode_words _ _
  | with_reducible exact nl_Encoder_advance _ _
  | with_reducible exact nl_Encoder__fed _ _
  | with_reducible exact nl_Encoder_word_for _ _
  | with_reducible exact nl_Encoder_linear _ _
  | with_reducible exact nl_Trellis_moves_from _ _
  | with_reducible exact nl_Trellis_costs_table _ _
  | with_reducible exact nl_Trellis_best_moves _ _
  | with_reducible exact nl_Summary_grown _ _
  | with_reducible exact nl_PathDecoder_restart _ _
  | with_reducible exact nl_PathDecoder_take _ _
  | with_reducible exact nl_PathDecoder_answer _ _)
local macro_rules | `(tactic| wtm_at "side") => `(tactic| first
  | assumption
  | exact rfl
  | exact atI_0 (by omega)
  | exact atI_L (by omega)
  | omega
  | exact trivial
  | exact fun _ h => h
  | exact List.mem_singleton.mpr rfl
  | wtm_at "nl"
  | exact Or.inr ⟨by omega, by omega⟩
  | exact Or.inl ⟨by omega, by omega⟩
  | (show (0 : Int) < _; omega)
  | exact ⟨by omega, by omega⟩
  | exact ⟨rfl, rfl⟩
  | exact MX.Bits.getD (by assumption) _
  | exact ⟨by assumption, by assumption⟩
  | exact ⟨by assumption, by assumption, by assumption⟩
  | exact ⟨by assumption, MX.Bits.getD (by assumption) _⟩
  | decide
  | (show (_ : Nat) ≤ 10000000; (simp only [List.length_cons, List.length_nil, List.length_append]; omega))
  | (show (_ : Nat) < 10000000; (simp only [List.length_cons, List.length_nil, List.length_append]; omega)))
local macro_rules | `(tactic| wtm_at "evop") => `(tactic| first
  | ((with_reducible refine' ev_opI0 _ _) <;> wtm_at "ev2")
  | ((with_reducible refine' ev_opB0 _ _) <;> wtm_at "ev2")
  | ((with_reducible refine' ev_opI _ _ _) <;> wtm_at "ev2")
  | ((with_reducible refine' ev_ixL (m := _) _ _ _) <;> wtm_at "ev2")
  | ((with_reducible show Ev _ _ (tOp (rIxL _) (tVar _) _) _ _); (refine' ev_ixM rfl _ _) <;> wtm_at "ev2")
  | ((with_reducible refine' ev_eqI _ _) <;> wtm_at "ev2")
  | ((with_reducible refine' ev_neI _ _) <;> wtm_at "ev2")
  | ((with_reducible refine' ev_isN (n := _) _) <;> wtm_at "ev2")
  | ((with_reducible refine' ev_notN (n := _) _) <;> wtm_at "ev2")
  | ((with_reducible refine' ev_fst (m := _) (n := _) _) <;> wtm_at "ev2")
  | ((with_reducible refine' ev_snd (m := _) (n := _) _) <;> wtm_at "ev2")
  | ((with_reducible refine' ev_tri1 _) <;> wtm_at "ev2")
  | ((with_reducible refine' ev_tri2 _) <;> wtm_at "ev2")
  | ((with_reducible refine' ev_ixT (m := _) _ _ _) <;> wtm_at "ev2")
  | ((with_reducible refine' ev_ixS (m := _) _ _ _) <;> wtm_at "ev2")
  | ((with_reducible refine' EvL.ev (m := _) _) <;> wtm_at "ev2"))
local macro_rules | `(tactic| wtm_at "evfld") => `(tactic| first
  | ((with_reducible refine' ev_Field_prime _) <;> wtm_at "ev2")
  | ((with_reducible refine' ev_Field_modulus _) <;> wtm_at "ev2")
  | ((with_reducible refine' ev_Field_degree _) <;> wtm_at "ev2")
  | ((with_reducible refine' ev_Field_order _) <;> wtm_at "ev2")
  | ((with_reducible refine' ev_LinearCode_field _) <;> wtm_at "ev2")
  | ((with_reducible refine' ev_LinearCode_length _) <;> wtm_at "ev2")
  | ((with_reducible refine' ev_LinearCode_dimension _) <;> wtm_at "ev2")
  | ((with_reducible refine' ev_LinearCode_rows _) <;> wtm_at "ev2")
  | ((with_reducible refine' ev_LinearCode_pivots _) <;> wtm_at "ev2")
  | ((with_reducible refine' ev_LinearCode_checks _) <;> wtm_at "ev2")
  | ((with_reducible refine' ev_LinearCode_size _) <;> wtm_at "ev2")
  | ((with_reducible refine' ev_Encoder_taps _) <;> wtm_at "ev2")
  | ((with_reducible refine' ev_Encoder_memory _) <;> wtm_at "ev2")
  | ((with_reducible refine' ev_Encoder_outputs _) <;> wtm_at "ev2")
  | ((with_reducible refine' ev_Encoder_state_count _) <;> wtm_at "ev2")
  | ((with_reducible refine' ev_Trellis_steps _) <;> wtm_at "ev2")
  | ((with_reducible refine' ev_Trellis_message_length _) <;> wtm_at "ev2")
  | ((with_reducible refine' ev_Trellis_table _) <;> wtm_at "ev2")
  | ((with_reducible refine' ev_Summary_cost _) <;> wtm_at "ev2")
  | ((with_reducible refine' ev_Summary_count_of _) <;> wtm_at "ev2")
  | ((with_reducible refine' ev_Summary_first _) <;> wtm_at "ev2")
  | ((with_reducible refine' ev_Summary_start_of _) <;> wtm_at "ev2")
  | ((with_reducible refine' ev_PathDecoder_encoder _) <;> wtm_at "ev2")
  | ((with_reducible refine' ev_PathDecoder_table _) <;> wtm_at "ev2")
  | ((with_reducible refine' ev_PathDecoder_steps _) <;> wtm_at "ev2")
  | ((with_reducible refine' ev_PathDecoder_summaries _) <;> wtm_at "ev2"))
local macro_rules | `(tactic| wtm_at "evcb") => `(tactic| first
  | ((with_reducible show Ev _ _ (tCB (rLen _) (tCons (tVar _) tNil)) _ _); exact ev_lenM rfl)
  | ((with_reducible refine' ev_lenL _) <;> wtm_at "ev2")
  | ((with_reducible refine' ev_lenT _) <;> wtm_at "ev2")
  | ((with_reducible refine' ev_lenS _) <;> wtm_at "ev2")
  | ((with_reducible refine' ev_int1 _) <;> wtm_at "ev2")
  | ((with_reducible refine' ev_intB _) <;> wtm_at "ev2")
  | ((with_reducible refine' ev_abs _) <;> wtm_at "ev2")
  | ((with_reducible refine' ev_min2 _ _) <;> wtm_at "ev2")
  | ((with_reducible refine' ev_max2 _ _) <;> wtm_at "ev2")
  | ((with_reducible refine' ev_minLL _ _) <;> wtm_at "ev2")
  | ((with_reducible refine' ev_sum _) <;> wtm_at "ev2")
  | ((with_reducible refine' ev_tupL (m := _) _) <;> wtm_at "ev2")
  | ((with_reducible refine' EvL.ev (m := _) _) <;> wtm_at "ev2"))
local macro_rules | `(tactic| wtm_at "evcall") => `(tactic| first
  | ((with_reducible refine' cd1 _ _) <;> wtm_at "ev2")
  | ((with_reducible refine' cd2 _ _ _) <;> wtm_at "ev2")
  | ((with_reducible refine' cd3 _ _ _ _) <;> wtm_at "ev2")
  | ((with_reducible refine' cd4 _ _ _ _ _) <;> wtm_at "ev2")
  | ((with_reducible refine' cd5 _ _ _ _ _ _) <;> wtm_at "ev2"))
local macro_rules | `(tactic| wtm_at "evmeth") => `(tactic| first
  | ((with_reducible refine' md1 _ _ _) <;> wtm_at "ev2")
  | ((with_reducible refine' md2 _ _ _ _) <;> wtm_at "ev2")
  | ((with_reducible refine' md3 _ _ _ _ _) <;> wtm_at "ev2")
  | ((with_reducible refine' md4 _ _ _ _ _ _) <;> wtm_at "ev2"))
local macro_rules | `(tactic| wtm_at "evx") => `(tactic| first
  | ((with_reducible show Ev _ _ (tVar _) _ _); exact ev_var rfl)
  | ((with_reducible show Ev _ _ (tC _) _ _); first | exact ev_int | exact ev_bl | exact ev_none | exact ev_non)
  | ((with_reducible show Ev _ _ (tOp _ _ _) _ _); wtm_at "evop")
  | ((with_reducible show Ev _ _ (tF _ _ _) _ _); wtm_at "evfld")
  | ((with_reducible show Ev _ _ (tCB _ _) _ _); wtm_at "evcb")
  | ((with_reducible show Ev _ _ (tCall _ _ _ _) _ _); wtm_at "evcall")
  | ((with_reducible show Ev _ _ (tMeth _ _ _ _ _ _ _) _ _); wtm_at "evmeth")
  | ((with_reducible show Ev _ _ (tTup _) _ _); first | ((with_reducible refine' ev_pair (m := _) (n := _) _ _) <;> wtm_at "ev2") | ((with_reducible refine' ev_tri (m := _) (n := _) (k := _) _ _ _) <;> wtm_at "ev2"))
  | ((with_reducible refine' ev_neg _) <;> wtm_at "ev2")
  | ((with_reducible refine' ev_notV _) <;> wtm_at "ev2")
  | ((with_reducible show Ev _ _ (tLc _ _ _ _ _) _ _); (with_reducible refine' EvL.ev (m := _) _) <;> wtm_at "ev2")
  | ((with_reducible refine' EvL.ev (m := _) _) <;> wtm_at "ev2"))
local macro_rules | `(tactic| wtm_at "evt") => `(tactic| first
  | ((with_reducible refine' et_test _) <;> wtm_at "ev2")
  | ((with_reducible refine' et_B _) <;> wtm_at "ev2")
  | ((with_reducible refine' et_not _) <;> wtm_at "ev2"))
local macro_rules | `(tactic| wtm_at "evl") => `(tactic| first
  | exact el_nil
  | ((with_reducible refine' el_rep (m := _) _ _ _ _) <;> wtm_at "ev2")
  | ((with_reducible refine' el_cat (m := _) _ _ _) <;> wtm_at "ev2")
  | ((with_reducible refine' el_slice (m := _) _ _ _) <;> wtm_at "ev2")
  | ((with_reducible show EvL _ _ (tSl _ (tVar _) _ _) _ _); (refine' el_sliceM rfl _ _) <;> wtm_at "ev2")
  | ((with_reducible refine' el_listL (m := _) _) <;> wtm_at "ev2")
  | ((with_reducible refine' el_disp (m := _) _ _) <;> wtm_at "ev2")
  | ((with_reducible refine' el_sortLL _) <;> wtm_at "ev2")
  | ((with_reducible refine' el_lc (m := _) (n := _) _ (tg_name (m := _)) _ _ _) <;> wtm_at "ev2")
  | ((with_reducible refine' el_lcR (n := _) _ _ _ _ _) <;> wtm_at "ev2")
  | ((with_reducible refine' el_lc (m := _) (n := _) _ (tg_pair (m := _) (n := _)) _ _ _) <;> wtm_at "ev2")
  | ((with_reducible refine' el_lc (m := _) (n := _) _ (tg_tri (m := _) (n := _) (o := _)) _ _ _) <;> wtm_at "ev2"))
local macro_rules | `(tactic| wtm_at "ev") => `(tactic| first
  | ((with_reducible show Ev _ _ _ _ _); first | ((with_reducible refine' et_chain _ _ _) <;> wtm_at "ev2") | wtm_at "evx")
  | ((with_reducible show EvT _ _ _ _); wtm_at "evt")
  | ((with_reducible show EvL _ _ _ _ _); wtm_at "evl")
  | exact ea_nil
  | exact eh_nil
  | exact eo_none
  | ((with_reducible refine' ea_cons (m := _) _ _) <;> wtm_at "ev2")
  | ((with_reducible refine' eh_cons (m := _) _ _) <;> wtm_at "ev2")
  | ((with_reducible refine' eo_some _) <;> wtm_at "ev2"))
local macro_rules | `(tactic| wtm_at "no") => `(tactic| ((fail_if_success (with_reducible show Ev _ _ _ _ _)); (fail_if_success (with_reducible show EvL _ _ _ _ _)); (fail_if_success (with_reducible show EvT _ _ _ _)); (fail_if_success (with_reducible show EvA _ _ _ _)); (fail_if_success (with_reducible show EvH _ _ _ _ _)); (fail_if_success (with_reducible show EvO _ _ _ _))))
local macro_rules | `(tactic| wtm_at "ev2") => `(tactic| first | wtm_at "ev" | (wtm_at "no"; first | infer_instance | (intro x hx; wtm_at "ev") | skip))
local macro_rules | `(tactic| wtm_at "E") => `(tactic| ((wtm_at "ev") <;> (try infer_instance)) <;> (try (refine Iff.mp Iff.rfl ?_; wtm_at "side")))
local macro_rules | `(tactic| wtm_at "sub") => `(tactic| repeat' first | exact Sub.nil | apply Sub.any | apply Sub.same | (apply Sub.fz) | (apply Sub.ml))
abbrev sp_Field_negative (K : PySem.W.Frag) : Sp := spD2 (rField K) rInt (fun _ _ => True) rInt (fun _ a => (0 - a % 2) % 2)
abbrev Pr_Field_negative (P : Program) (w : World) (K : PySem.W.Frag) (mg : Str → Option Value) (base : Heap) : Prop := Pr P w K mg base (He.ma K (aField K) "negative") 3 ["self", "a"] (sp_Field_negative K) []
def nm_Field_negative : List Str := ["self", "a", "digit"]
theorem sc_Field_negative : FnScope nm_Field_negative ["self", "a"] (defScope s_Field_negative) := ⟨rfl, rfl, rfl, by decide +kernel, rfl, by decide +kernel, by decide +kernel⟩
theorem ok_Field_negative {P : Program} {w : World} {K : PySem.W.Frag} {mg : Str → Option Value} {base : Heap} (T : Tx K mg) (cField_element : Pr_Field_element P w K mg base) (cField_digits : Pr_Field_digits P w K mg base) : Pr_Field_negative P w K mg base := by
  refine pr_of (N := nm_Field_negative) (k := 2) T.d_Field_negative sc_Field_negative (fun _ _ _ _ _ _ us hl => match us, hl with | [_, _], _ => rfl) len2 fun cdv A outer s H E hr => ⟨_, (pss_one (ps_ret (pe_meth (pv 0) T.c_Field T.m_Field_element cField_element.F (hr.mono (by decide)) cField_element.b cField_element.v pass0 (pa_cons (pe_lc (own := [("digit", 2)]) rfl sc_Field_negative.nd (kPiL K rfl (pe_meth (pv 0) T.c_Field T.m_Field_digits cField_digits.F (hr.mono (by decide)) cField_digits.b cField_digits.v pass0 (pa_cons (pv 1) pa_nil))) (blkOk_by (own := [("digit", 2)]) (N := nm_Field_negative) (sc := (defScope s_Field_negative)) (by decide +kernel)) (fun _ _ _ _ _ => (pg_name (i := 2) sc_Field_negative.nd rfl (Or.inl rfl))) (fun _ _ _ _ _ => pts_nil) (fun _ _ _ _ _ => (pe_op op_mod (pe_op op_sub pe_int (pv 2)) (pe_fT (pv 0) T.c_Field T.n_Field_prime)))) pa_nil)))), en2 (n := 1) rfl fun B z a Q hp rt => ?_⟩
  refine s_retP (mp2 (by wtm_at "E") (by wtm_at "E") (by wtm_at "nl") (by simp)) rt (fun y h => ?_)
  obtain ⟨d, h1, h2⟩ := h
  cases h1
  exact h2
abbrev sp_Field_minus (K : PySem.W.Frag) : Sp := spD3 (rField K) rInt rInt (fun _ _ _ => True) rInt (fun _ a b => (a + (0 - b % 2) % 2) % 2)
abbrev Pr_Field_minus (P : Program) (w : World) (K : PySem.W.Frag) (mg : Str → Option Value) (base : Heap) : Prop := Pr P w K mg base (He.ma K (aField K) "minus") 4 ["self", "a", "b"] (sp_Field_minus K) []
def nm_Field_minus : List Str := ["self", "a", "b"]
theorem sc_Field_minus : FnScope nm_Field_minus ["self", "a", "b"] (defScope s_Field_minus) := ⟨rfl, rfl, rfl, by decide +kernel, rfl, by decide +kernel, by decide +kernel⟩
theorem ok_Field_minus {P : Program} {w : World} {K : PySem.W.Frag} {mg : Str → Option Value} {base : Heap} (T : Tx K mg) (cField_plus : Pr_Field_plus P w K mg base) (cField_negative : Pr_Field_negative P w K mg base) : Pr_Field_minus P w K mg base := by
  refine pr_of (N := nm_Field_minus) (k := 3) T.d_Field_minus sc_Field_minus (fun _ _ _ _ _ _ us hl => match us, hl with | [_, _, _], _ => rfl) len3 fun cdv A outer s H E hr => ⟨_, (pss_one (ps_ret (pe_meth (pv 0) T.c_Field T.m_Field_plus cField_plus.F (hr.mono (by decide)) cField_plus.b cField_plus.v pass0 (pa_cons (pv 1) (pa_cons (pe_meth (pv 0) T.c_Field T.m_Field_negative cField_negative.F (hr.mono (by decide)) cField_negative.b cField_negative.v pass0 (pa_cons (pv 2) pa_nil)) pa_nil))))), en3 (n := 0) rfl fun B z a b Q hp rt => ?_⟩
  refine s_ret (by wtm_at "E") rt ?_
  rfl
abbrev sp_Field_times (K : PySem.W.Frag) : Sp := spD3 (rField K) rInt rInt (fun _ a b => Bit a ∧ Bit b) rInt (fun _ a b => a * b % 2)
abbrev Pr_Field_times (P : Program) (w : World) (K : PySem.W.Frag) (mg : Str → Option Value) (base : Heap) : Prop := Pr P w K mg base (He.ma K (aField K) "times") 1 ["self", "a", "b"] (sp_Field_times K) []
def nm_Field_times : List Str := ["self", "a", "b", "first", "second", "product", "i", "j"]
theorem sc_Field_times : FnScope nm_Field_times ["self", "a", "b"] (defScope s_Field_times) := ⟨rfl, rfl, rfl, by decide +kernel, rfl, by decide +kernel, by decide +kernel⟩
theorem ok_Field_times {P : Program} {w : World} {K : PySem.W.Frag} {mg : Str → Option Value} {base : Heap} (T : Tx K mg)  : Pr_Field_times P w K mg base := by
  refine pr_of (N := nm_Field_times) (k := 0) T.d_Field_times sc_Field_times (fun _ _ _ _ _ _ us hl => match us, hl with | [_, _, _], _ => rfl) len3 fun cdv A outer s H E hr => ⟨_, (pss_cons (ps_if (pt_cmpR op_eq (pe_fT (pv 0) T.c_Field T.n_Field_degree) pe_int (nomark _)) (pss_one (ps_ret (pe_op op_mod (pe_op op_mul (pv 1) (pv 2)) (pe_fT (pv 0) T.c_Field T.n_Field_prime)))) pss_nil) pss_never), en3 (n := 5) rfl fun B z a b Q hp rt => ?_⟩
  have ha := hp.1.le
  refine q_if (by wtm_at "E") (fun _ => ?_) (fun h => by cases h)
  refine s_ret (by wtm_at "E") rt ?_
  rfl
abbrev sp_Field_inverse (K : PySem.W.Frag) : Sp := spD2 (rField K) rInt (fun _ a => a = 1) rInt (fun _ a => 1)
abbrev Pr_Field_inverse (P : Program) (w : World) (K : PySem.W.Frag) (mg : Str → Option Value) (base : Heap) : Prop := Pr P w K mg base (He.ma K (aField K) "inverse") 2 ["self", "a"] (sp_Field_inverse K) []
def nm_Field_inverse : List Str := ["self", "a", "b"]
theorem sc_Field_inverse : FnScope nm_Field_inverse ["self", "a"] (defScope s_Field_inverse) := ⟨rfl, rfl, rfl, by decide +kernel, rfl, by decide +kernel, by decide +kernel⟩
theorem ok_Field_inverse {P : Program} {w : World} {K : PySem.W.Frag} {mg : Str → Option Value} {base : Heap} (T : Tx K mg) (cField_times : Pr_Field_times P w K mg base) : Pr_Field_inverse P w K mg base := by
  refine pr_of (N := nm_Field_inverse) (k := 1) T.d_Field_inverse sc_Field_inverse (fun _ _ _ _ _ _ us hl => match us, hl with | [_, _], _ => rfl) len2 fun cdv A outer s H E hr => ⟨_, (pss_cons (ps_if (pt_cmpR op_eq (pv 1) pe_int (nomark _)) pss_never pss_nil)
      (pss_cons (ps_set (i := 2) sc_Field_inverse.nd rfl (Or.inl rfl) pe_int)
      (pss_cons (ps_while PassesOwn.never (pt_cmpR op_ne (pe_meth (pv 0) T.c_Field T.m_Field_times cField_times.F (hr.mono (by decide)) cField_times.b cField_times.v pass0 (pa_cons (pv 1) (pa_cons (pv 2) pa_nil))) pe_int (nomark _)) (pss_one (ps_set (i := 2) sc_Field_inverse.nd rfl (Or.inl rfl) (pe_op op_add (pv 2) pe_int))))
      (pss_one (ps_ret (pv 2)))))), en2 (n := 1) rfl fun B z a Q hp rt => ?_⟩
  subst hp
  have hb : Bit 1 := Or.inr rfl
  refine q_no (by wtm_at "E") (by rfl) ?_
  refine q_asg (by wtm_at "E") ?_
  refine q_while (I := Unit) (fun _ => True) (fun _ => [sf (rField K) (), sf rInt 1, sf rInt 1]) (fun _ => 0) (fun _ => false) ⟨(), trivial, by wtm_at "sub"⟩ (fun _ _ => EvT.to (et_test (ev_neI (md3 (by wtm_at "E") (by wtm_at "E") (by wtm_at "E") (by wtm_at "nl") ⟨hb, hb⟩) ev_int)) (by rfl)) (fun _ _ h => by cases h) (fun _ _ _ => ?_)
  refine s_ret (by wtm_at "E") rt ?_
  rfl
abbrev sp_check_width (K : PySem.W.Frag) : Sp := spD2 (rLst (rLst rInt)) rInt (fun rows n => ∀ r, r ∈ rows → (r.length : Int) = n) rNon (fun _ _ => ())
abbrev Pr_check_width (P : Program) (w : World) (K : PySem.W.Frag) (mg : Str → Option Value) (base : Heap) : Prop := Pr P w K mg base (He.ga K "check_width") 1 ["rows", "width"] (sp_check_width K) []
def nm_check_width : List Str := ["rows", "width", "row"]
theorem sc_check_width : FnScope nm_check_width ["rows", "width"] (defScope s_check_width) := ⟨rfl, rfl, rfl, by decide +kernel, rfl, by decide +kernel, by decide +kernel⟩
theorem ok_check_width {P : Program} {w : World} {K : PySem.W.Frag} {mg : Str → Option Value} {base : Heap} (T : Tx K mg)  : Pr_check_width P w K mg base := by
  refine pr_of (N := nm_check_width) (k := 0) T.d_check_width sc_check_width (fun _ _ _ _ _ _ us hl => match us, hl with | [_, _], _ => rfl) len2 fun cdv A outer s H E hr => ⟨_, (pss_one (ps_for PassesOwn.never rfl (kPiL K rfl (pv 0)) (pg_name (i := 2) sc_check_width.nd rfl (Or.inl rfl)) (pss_one (ps_if (pt_cmpR op_ne (pe_callB (kLen K rfl) (by rfl) T.f_len boot_len (pa_cons (pv 2) pa_nil)) (pv 1) (nomark _)) pss_never pss_nil)))), en2 (n := 1) rfl fun B rows n Q hp rt => ?_⟩
  refine s_forL (I := Unit) (fun i _ => True) (fun i _ => [sf (rLst (rLst rInt)) rows, sf rInt n, .any]) tg_name (by wtm_at "E") ⟨(), trivial, by wtm_at "sub"⟩ (fun B1 up i _ y hy _ => ?_) (fun _ _ => s_off rt rfl)
  have := hp y (List.mem_of_getElem? hy)
  refine s_no (by wtm_at "E") (by simp [this]) (wn_lp () trivial (by wtm_at "sub"))
/-- the first row from begin on that is not 0 in the column -/
def RwP (rows : List (List Int)) (b c : Int) (o : Option Int) : Prop := match o with
  | none => ∀ k : Nat, b ≤ k → k < rows.length → (rows.getD k []).getD c.toNat 0 = 0
  | some k => b ≤ k ∧ k < rows.length ∧ (rows.getD k.toNat []).getD c.toNat 0 ≠ 0
abbrev sp_row_with_pivot (K : PySem.W.Frag) : Sp := spP3 (rLst (rLst rInt)) rInt rInt (fun rows b c => rows.length ≤ 1000 ∧ 0 ≤ b ∧ b ≤ 1000 ∧ 0 ≤ c ∧ ∀ r, r ∈ rows → c < (r.length : Int)) (rOpt rInt) RwP
abbrev Pr_row_with_pivot (P : Program) (w : World) (K : PySem.W.Frag) (mg : Str → Option Value) (base : Heap) : Prop := Pr P w K mg base (He.ga K "row_with_pivot") 1 ["rows", "begin", "column"] (sp_row_with_pivot K) []
def nm_row_with_pivot : List Str := ["rows", "begin", "column", "k"]
theorem sc_row_with_pivot : FnScope nm_row_with_pivot ["rows", "begin", "column"] (defScope s_row_with_pivot) := ⟨rfl, rfl, rfl, by decide +kernel, rfl, by decide +kernel, by decide +kernel⟩
theorem ok_row_with_pivot {P : Program} {w : World} {K : PySem.W.Frag} {mg : Str → Option Value} {base : Heap} (T : Tx K mg)  : Pr_row_with_pivot P w K mg base := by
  refine pr_of (N := nm_row_with_pivot) (k := 0) T.d_row_with_pivot sc_row_with_pivot (fun _ _ _ _ _ _ us hl => match us, hl with | [_, _, _], _ => rfl) len3 fun cdv A outer s H E hr => ⟨_, (pss_cons (ps_for PassesOwn.never rfl (pi_range2 rfl T.f_range (pa_cons (pv 1) (pa_cons (pe_callB (kLen K rfl) (by rfl) T.f_len boot_len (pa_cons (pv 0) pa_nil)) pa_nil))) (pg_name (i := 3) sc_row_with_pivot.nd rfl (Or.inl rfl)) (pss_one (ps_if (pt_cmpR op_ne (pe_ix (kIxL K rfl) (pe_ix (kIxL K rfl) (pv 0) (pv 3) (fun _ _ => rfl)) (pv 2) (fun _ _ => rfl)) pe_int (nomark _)) (pss_one (ps_ret (pv 3))) pss_nil)))
      (pss_one (ps_ret pe_non))), en3 (n := 1) rfl fun B rows b c Q hp rt => ?_⟩
  obtain ⟨h1, h2, h3, h4, h5⟩ := hp
  refine q_forR2 (I := Unit) (fun i _ => ∀ k : Nat, b ≤ k → (k : Int) < b + i → (rows.getD k []).getD c.toNat 0 = 0) (fun i _ => [sf (rLst (rLst rInt)) rows, sf rInt b, sf rInt c, .any]) (by wtm_at "E") (by wtm_at "E") (by omega) ⟨(), fun k _ _ => by omega, by wtm_at "sub"⟩ (fun i _ hi hz => ?_) (fun _ hz => ?_)
  · obtain ⟨k, hk⟩ : ∃ k : Nat, b + (i : Int) = k := ⟨(b + i).toNat, by omega⟩
    obtain ⟨c', rfl⟩ : ∃ c' : Nat, c = c' := ⟨c.toNat, by omega⟩
    rw [hk]
    have hkl : k < rows.length := by omega
    have hr : rows.getD k [] ∈ rows := by
      rw [List.getD_eq_getElem?_getD, List.getElem?_eq_getElem hkl]
      exact List.getElem_mem hkl
    have hc : c' < (rows.getD k []).length := by have := h5 _ hr; omega
    refine s_if (by wtm_at "E") (fun hne => ?_) (fun he => ?_)
    · refine s_ret (Ev.some (by wtm_at "E")) rt ?_
      refine ⟨by omega, by omega, ?_⟩
      simp only [Bool.not_eq_true', decide_eq_false_iff_not] at hne
      simpa using hne
    · refine s_next (wn_lp () (fun j h6 h7 => ?_) (by wtm_at "sub"))
      by_cases hj : j = k
      · subst hj
        simp only [Bool.not_eq_false', decide_eq_true_eq] at he
        simpa using he
      · exact hz j h6 (by omega)
  · refine s_ret ev_none rt ?_
    intro k h6 h7
    exact hz k h6 (by omega)
end NW
set_option maxHeartbeats 4000000
namespace NW
open PySem PySem.Spec PyProof.Rows L2 G MX
local macro_rules | `(tactic| wtm_at "nl") => `(tactic| first
  | with_reducible exact nl_Field_digits _ _
  | with_reducible exact nl_Field_element _ _
  | with_reducible exact nl_Field_plus _ _
  | with_reducible exact nl_Field_negative _ _
  | with_reducible exact nl_Field_minus _ _
  | with_reducible exact nl_Field_times _ _
  | with_reducible exact nl_Field_inverse _ _
  | with_reducible exact nl_LinearCode_words _ _
  | with_reducible exact nl_Encoder_advance _ _
  | with_reducible exact nl_Encoder__fed _ _
  | with_reducible exact nl_Encoder_word_for _ _
  | with_reducible exact nl_Encoder_linear _ _
  | with_reducible exact nl_Trellis_moves_from _ _
  | with_reducible exact nl_Trellis_costs_table _ _
  | with_reducible exact nl_Trellis_best_moves _ _
  | with_reducible exact nl_Summary_grown _ _
  | with_reducible exact nl_PathDecoder_restart _ _
  | with_reducible exact nl_PathDecoder_take _ _
  | with_reducible exact nl_PathDecoder_answer _ _)
local macro_rules | `(tactic| wtm_at "side") => `(tactic| first
  | assumption
  | exact rfl
  | exact atI_0 (by omega)
  | exact atI_L (by omega)
  | omega
  | exact trivial
  | exact fun _ h => h
  | exact List.mem_singleton.mpr rfl
  | wtm_at "nl"
  | exact Or.inr ⟨by omega, by omega⟩
  | exact Or.inl ⟨by omega, by omega⟩
  | (show (0 : Int) < _; omega)
  | exact ⟨by omega, by omega⟩
  | exact ⟨rfl, rfl⟩
  | exact MX.Bits.getD (by assumption) _
  | exact ⟨by assumption, by assumption⟩
  | exact ⟨by assumption, by assumption, by assumption⟩
  | exact ⟨by assumption, MX.Bits.getD (by assumption) _⟩
  | decide
  | (show (_ : Nat) ≤ 10000000; (simp only [List.length_cons, List.length_nil, List.length_append]; omega))
  | (show (_ : Nat) < 10000000; (simp only [List.length_cons, List.length_nil, List.length_append]; omega)))
local macro_rules | `(tactic| wtm_at "evop") => `(tactic| first
  | ((with_reducible refine' ev_opI0 _ _) <;> wtm_at "ev2")
  | ((with_reducible refine' ev_opB0 _ _) <;> wtm_at "ev2")
  | ((with_reducible refine' ev_opI _ _ _) <;> wtm_at "ev2")
  | ((with_reducible refine' ev_ixL (m := _) _ _ _) <;> wtm_at "ev2")
  | ((with_reducible show Ev _ _ (tOp (rIxL _) (tVar _) _) _ _); (refine' ev_ixM rfl _ _) <;> wtm_at "ev2")
  | ((with_reducible refine' ev_eqI _ _) <;> wtm_at "ev2")
  | ((with_reducible refine' ev_neI _ _) <;> wtm_at "ev2")
  | ((with_reducible refine' ev_isN (n := _) _) <;> wtm_at "ev2")
  | ((with_reducible refine' ev_notN (n := _) _) <;> wtm_at "ev2")
  | ((with_reducible refine' ev_fst (m := _) (n := _) _) <;> wtm_at "ev2")
  | ((with_reducible refine' ev_snd (m := _) (n := _) _) <;> wtm_at "ev2")
  | ((with_reducible refine' ev_tri1 _) <;> wtm_at "ev2")
  | ((with_reducible refine' ev_tri2 _) <;> wtm_at "ev2")
  | ((with_reducible refine' ev_ixT (m := _) _ _ _) <;> wtm_at "ev2")
  | ((with_reducible refine' ev_ixS (m := _) _ _ _) <;> wtm_at "ev2")
  | ((with_reducible refine' EvL.ev (m := _) _) <;> wtm_at "ev2"))
local macro_rules | `(tactic| wtm_at "evfld") => `(tactic| first
  | ((with_reducible refine' ev_Field_prime _) <;> wtm_at "ev2")
  | ((with_reducible refine' ev_Field_modulus _) <;> wtm_at "ev2")
  | ((with_reducible refine' ev_Field_degree _) <;> wtm_at "ev2")
  | ((with_reducible refine' ev_Field_order _) <;> wtm_at "ev2")
  | ((with_reducible refine' ev_LinearCode_field _) <;> wtm_at "ev2")
  | ((with_reducible refine' ev_LinearCode_length _) <;> wtm_at "ev2")
  | ((with_reducible refine' ev_LinearCode_dimension _) <;> wtm_at "ev2")
  | ((with_reducible refine' ev_LinearCode_rows _) <;> wtm_at "ev2")
  | ((with_reducible refine' ev_LinearCode_pivots _) <;> wtm_at "ev2")
  | ((with_reducible refine' ev_LinearCode_checks _) <;> wtm_at "ev2")
  | ((with_reducible refine' ev_LinearCode_size _) <;> wtm_at "ev2")
  | ((with_reducible refine' ev_Encoder_taps _) <;> wtm_at "ev2")
  | ((with_reducible refine' ev_Encoder_memory _) <;> wtm_at "ev2")
  | ((with_reducible refine' ev_Encoder_outputs _) <;> wtm_at "ev2")
  | ((with_reducible refine' ev_Encoder_state_count _) <;> wtm_at "ev2")
  | ((with_reducible refine' ev_Trellis_steps _) <;> wtm_at "ev2")
  | ((with_reducible refine' ev_Trellis_message_length _) <;> wtm_at "ev2")
  | ((with_reducible refine' ev_Trellis_table _) <;> wtm_at "ev2")
  | ((with_reducible refine' ev_Summary_cost _) <;> wtm_at "ev2")
  | ((with_reducible refine' ev_Summary_count_of _) <;> wtm_at "ev2")
  | ((with_reducible refine' ev_Summary_first _) <;> wtm_at "ev2")
  | ((with_reducible refine' ev_Summary_start_of _) <;> wtm_at "ev2")
  | ((with_reducible refine' ev_PathDecoder_encoder _) <;> wtm_at "ev2")
  | ((with_reducible refine' ev_PathDecoder_table _) <;> wtm_at "ev2")
  | ((with_reducible refine' ev_PathDecoder_steps _) <;> wtm_at "ev2")
  | ((with_reducible refine' ev_PathDecoder_summaries _) <;> wtm_at "ev2"))
local macro_rules | `(tactic| wtm_at "evcb") => `(tactic| first
  | ((with_reducible show Ev _ _ (tCB (rLen _) (tCons (tVar _) tNil)) _ _); exact ev_lenM rfl)
  | ((with_reducible refine' ev_lenL _) <;> wtm_at "ev2")
  | ((with_reducible refine' ev_lenT _) <;> wtm_at "ev2")
  | ((with_reducible refine' ev_lenS _) <;> wtm_at "ev2")
  | ((with_reducible refine' ev_int1 _) <;> wtm_at "ev2")
  | ((with_reducible refine' ev_intB _) <;> wtm_at "ev2")
  | ((with_reducible refine' ev_abs _) <;> wtm_at "ev2")
  | ((with_reducible refine' ev_min2 _ _) <;> wtm_at "ev2")
  | ((with_reducible refine' ev_max2 _ _) <;> wtm_at "ev2")
  | ((with_reducible refine' ev_minLL _ _) <;> wtm_at "ev2")
  | ((with_reducible refine' ev_sum _) <;> wtm_at "ev2")
  | ((with_reducible refine' ev_tupL (m := _) _) <;> wtm_at "ev2")
  | ((with_reducible refine' EvL.ev (m := _) _) <;> wtm_at "ev2"))
local macro_rules | `(tactic| wtm_at "evcall") => `(tactic| first
  | ((with_reducible refine' cd1 _ _) <;> wtm_at "ev2")
  | ((with_reducible refine' cd2 _ _ _) <;> wtm_at "ev2")
  | ((with_reducible refine' cd3 _ _ _ _) <;> wtm_at "ev2")
  | ((with_reducible refine' cd4 _ _ _ _ _) <;> wtm_at "ev2")
  | ((with_reducible refine' cd5 _ _ _ _ _ _) <;> wtm_at "ev2"))
local macro_rules | `(tactic| wtm_at "evmeth") => `(tactic| first
  | ((with_reducible refine' md1 _ _ _) <;> wtm_at "ev2")
  | ((with_reducible refine' md2 _ _ _ _) <;> wtm_at "ev2")
  | ((with_reducible refine' md3 _ _ _ _ _) <;> wtm_at "ev2")
  | ((with_reducible refine' md4 _ _ _ _ _ _) <;> wtm_at "ev2"))
local macro_rules | `(tactic| wtm_at "evx") => `(tactic| first
  | ((with_reducible show Ev _ _ (tVar _) _ _); exact ev_var rfl)
  | ((with_reducible show Ev _ _ (tC _) _ _); first | exact ev_int | exact ev_bl | exact ev_none | exact ev_non)
  | ((with_reducible show Ev _ _ (tOp _ _ _) _ _); wtm_at "evop")
  | ((with_reducible show Ev _ _ (tF _ _ _) _ _); wtm_at "evfld")
  | ((with_reducible show Ev _ _ (tCB _ _) _ _); wtm_at "evcb")
  | ((with_reducible show Ev _ _ (tCall _ _ _ _) _ _); wtm_at "evcall")
  | ((with_reducible show Ev _ _ (tMeth _ _ _ _ _ _ _) _ _); wtm_at "evmeth")
  | ((with_reducible show Ev _ _ (tTup _) _ _); first | ((with_reducible refine' ev_pair (m := _) (n := _) _ _) <;> wtm_at "ev2") | ((with_reducible refine' ev_tri (m := _) (n := _) (k := _) _ _ _) <;> wtm_at "ev2"))
  | ((with_reducible refine' ev_neg _) <;> wtm_at "ev2")
  | ((with_reducible refine' ev_notV _) <;> wtm_at "ev2")
  | ((with_reducible show Ev _ _ (tLc _ _ _ _ _) _ _); (with_reducible refine' EvL.ev (m := _) _) <;> wtm_at "ev2")
  | ((with_reducible refine' EvL.ev (m := _) _) <;> wtm_at "ev2"))
local macro_rules | `(tactic| wtm_at "evt") => `(tactic| first
  | ((with_reducible refine' et_test _) <;> wtm_at "ev2")
  | ((with_reducible refine' et_B _) <;> wtm_at "ev2")
  | ((with_reducible refine' et_not _) <;> wtm_at "ev2"))
local macro_rules | `(tactic| wtm_at "evl") => `(tactic| first
  | exact el_nil
  | ((with_reducible refine' el_rep (m := _) _ _ _ _) <;> wtm_at "ev2")
  | ((with_reducible refine' el_cat (m := _) _ _ _) <;> wtm_at "ev2")
  | ((with_reducible refine' el_slice (m := _) _ _ _) <;> wtm_at "ev2")
  | ((with_reducible show EvL _ _ (tSl _ (tVar _) _ _) _ _); (refine' el_sliceM rfl _ _) <;> wtm_at "ev2")
  | ((with_reducible refine' el_listL (m := _) _) <;> wtm_at "ev2")
  | ((with_reducible refine' el_disp (m := _) _ _) <;> wtm_at "ev2")
  | ((with_reducible refine' el_sortLL _) <;> wtm_at "ev2")
  | ((with_reducible refine' el_lc (m := _) (n := _) _ (tg_name (m := _)) _ _ _) <;> wtm_at "ev2")
  | ((with_reducible refine' el_lcR (n := _) _ _ _ _ _) <;> wtm_at "ev2")
  | ((with_reducible refine' el_lc (m := _) (n := _) _ (tg_pair (m := _) (n := _)) _ _ _) <;> wtm_at "ev2")
  | ((with_reducible refine' el_lc (m := _) (n := _) _ (tg_tri (m := _) (n := _) (o := _)) _ _ _) <;> wtm_at "ev2"))
local macro_rules | `(tactic| wtm_at "ev") => `(tactic| first
  | ((with_reducible show Ev _ _ _ _ _); first | ((with_reducible refine' et_chain _ _ _) <;> wtm_at "ev2") | wtm_at "evx")
  | ((with_reducible show EvT _ _ _ _); wtm_at "evt")
  | ((with_reducible show EvL _ _ _ _ _); wtm_at "evl")
  | exact ea_nil
  | exact eh_nil
  | exact eo_none
  | ((with_reducible refine' ea_cons (m := _) _ _) <;> wtm_at "ev2")
  | ((with_reducible refine' eh_cons (m := _) _ _) <;> wtm_at "ev2")
  | ((with_reducible refine' eo_some _) <;> wtm_at "ev2"))
local macro_rules | `(tactic| wtm_at "no") => `(tactic| ((fail_if_success (with_reducible show Ev _ _ _ _ _)); (fail_if_success (with_reducible show EvL _ _ _ _ _)); (fail_if_success (with_reducible show EvT _ _ _ _)); (fail_if_success (with_reducible show EvA _ _ _ _)); (fail_if_success (with_reducible show EvH _ _ _ _ _)); (fail_if_success (with_reducible show EvO _ _ _ _))))
local macro_rules | `(tactic| wtm_at "ev2") => `(tactic| first | wtm_at "ev" | (wtm_at "no"; first | infer_instance | (intro x hx; wtm_at "ev") | skip))
local macro_rules | `(tactic| wtm_at "E") => `(tactic| ((wtm_at "ev") <;> (try infer_instance)) <;> (try (refine Iff.mp Iff.rfl ?_; wtm_at "side")))
local macro_rules | `(tactic| wtm_at "sub") => `(tactic| repeat' first | exact Sub.nil | apply Sub.any | apply Sub.same | (apply Sub.fz) | (apply Sub.ml))
abbrev rRows : Rel (List (List Int)) := rLst (rLst rInt)
abbrev sp_without_multiple (K : PySem.W.Frag) : Sp := spD4 (rField K) (rLst rInt) rInt (rLst rInt) (fun _ row f other => row.length = other.length ∧ row.length ≤ 1000 ∧ Bit f ∧ Bits other) (rLst rInt) (fun _ row f other => wom row f other)
abbrev Pr_without_multiple (P : Program) (w : World) (K : PySem.W.Frag) (mg : Str → Option Value) (base : Heap) : Prop := Pr P w K mg base (He.ga K "without_multiple") 5 ["field", "row", "factor", "other"] (sp_without_multiple K) []
def nm_without_multiple : List Str := ["field", "row", "factor", "other", "k"]
theorem sc_without_multiple : FnScope nm_without_multiple ["field", "row", "factor", "other"] (defScope s_without_multiple) := ⟨rfl, rfl, rfl, by decide +kernel, rfl, by decide +kernel, by decide +kernel⟩
theorem ok_without_multiple {P : Program} {w : World} {K : PySem.W.Frag} {mg : Str → Option Value} {base : Heap} (T : Tx K mg) (cField_minus : Pr_Field_minus P w K mg base) (cField_times : Pr_Field_times P w K mg base) : Pr_without_multiple P w K mg base := by
  refine pr_of (N := nm_without_multiple) (k := 4) T.d_without_multiple sc_without_multiple (fun _ _ _ _ _ _ us hl => match us, hl with | [_, _, _, _], _ => rfl) len4 fun cdv A outer s H E hr => ⟨_, (pss_one (ps_ret (pe_lc (own := [("k", 4)]) rfl sc_without_multiple.nd (pi_range1 rfl T.f_range (pa_cons (pe_callB (kLen K rfl) (by rfl) T.f_len boot_len (pa_cons (pv 1) pa_nil)) pa_nil)) (blkOk_by (own := [("k", 4)]) (N := nm_without_multiple) (sc := (defScope s_without_multiple)) (by decide +kernel)) (fun _ _ _ _ _ => (pg_name (i := 4) sc_without_multiple.nd rfl (Or.inl rfl))) (fun _ _ _ _ _ => pts_nil) (fun _ _ _ _ _ => (pe_meth (pv 0) T.c_Field T.m_Field_minus cField_minus.F (hr.mono (by decide)) cField_minus.b cField_minus.v pass0 (pa_cons (pe_ix (kIxL K rfl) (pv 1) (pv 4) (fun _ _ => rfl)) (pa_cons (pe_meth (pv 0) T.c_Field T.m_Field_times cField_times.F (hr.mono (by decide)) cField_times.b cField_times.v pass0 (pa_cons (pv 2) (pa_cons (pe_ix (kIxL K rfl) (pv 3) (pv 4) (fun _ _ => rfl)) pa_nil))) pa_nil))))))), en4 (n := 1) rfl fun B z row f other Q hp rt => ?_⟩
  obtain ⟨h1, h2, h3, h4⟩ := hp
  refine s_ret (by wtm_at "E") rt ?_
  rfl
/-- what is handed back by the reduction -/
structure RedP (w : Nat) (rows red : List (List Int)) (piv : List Int) : Prop where
  mat : Mat w red
  len : red.length = piv.length
  le : red.length ≤ rows.length
  piv : ∀ p, p ∈ piv → 0 ≤ p ∧ p < (w : Int)
  span : ∀ v, SpanC w rows v → SpanC w red v
abbrev sp_reduce_rows (K : PySem.W.Frag) : Sp := spP2 (rField K) rRows (fun _ rows => rows.length ≤ 1000 ∧ ∃ w : Nat, w ≤ 255 ∧ Mat w rows) (rPair rRows (rLst rInt)) (fun _ rows y => ∀ w : Nat, w ≤ 255 → Mat w rows → RedP w rows y.1 y.2)
abbrev Pr_reduce_rows (P : Program) (w : World) (K : PySem.W.Frag) (mg : Str → Option Value) (base : Heap) : Prop := Pr P w K mg base (He.ga K "reduce_rows") 6 ["field", "rows"] (sp_reduce_rows K) []
def nm_reduce_rows : List Str := ["field", "rows", "width", "work", "pivots", "column", "place", "found", "factor", "k", "row", "item"]
theorem sc_reduce_rows : FnScope nm_reduce_rows ["field", "rows"] (defScope s_reduce_rows) := ⟨rfl, rfl, rfl, by decide +kernel, rfl, by decide +kernel, by decide +kernel⟩
theorem ok_reduce_rows {P : Program} {w : World} {K : PySem.W.Frag} {mg : Str → Option Value} {base : Heap} (T : Tx K mg) (ccheck_width : Pr_check_width P w K mg base) (crow_with_pivot : Pr_row_with_pivot P w K mg base) (cField_inverse : Pr_Field_inverse P w K mg base) (cField_times : Pr_Field_times P w K mg base) (cwithout_multiple : Pr_without_multiple P w K mg base) : Pr_reduce_rows P w K mg base := by
  refine pr_of (N := nm_reduce_rows) (k := 5) T.d_reduce_rows sc_reduce_rows (fun _ _ _ _ _ _ us hl => match us, hl with | [_, _], _ => rfl) len2 fun cdv A outer s H E hr => ⟨_, (pss_cons (ps_if (pt_cmpR op_eq (pe_callB (kLen K rfl) (by rfl) T.f_len boot_len (pa_cons (pv 1) pa_nil)) pe_int (nomark _)) (pss_one (ps_ret (pe_tup (pa_cons (pe_lst pa_nil) (pa_cons (pe_lst pa_nil) pa_nil))))) pss_nil)
      (pss_cons (ps_set (i := 2) sc_reduce_rows.nd rfl (Or.inl rfl) (pe_callB (kLen K rfl) (by rfl) T.f_len boot_len (pa_cons (pe_ix (kIxL K rfl) (pv 1) pe_int (fun _ _ => rfl)) pa_nil)))
      (pss_cons (ps_expr (pe_cal ccheck_width T.g_check_width hr (pa_cons (pv 1) (pa_cons (pv 2) pa_nil))))
      (pss_cons (ps_setLc (i := 3) (own := [("row", 10)]) rfl sc_reduce_rows.nd rfl rfl (sw_true rfl rfl rfl (by decide +kernel)) (kPiL K rfl (pv 1)) (blkOk_by (own := [("row", 10)]) (N := nm_reduce_rows) (sc := (defScope s_reduce_rows)) (by decide +kernel)) (fun _ _ _ _ _ => (pg_name (i := 10) sc_reduce_rows.nd rfl (Or.inl rfl))) (fun _ _ _ _ _ => pts_nil) (fun _ _ _ _ _ => (pe_callTy (kList K rfl) (by rfl) T.f_list boot_list (pa_cons (pv 10) pa_nil))))
      (pss_cons (ps_set (i := 4) sc_reduce_rows.nd rfl (Or.inl rfl) (pe_lst pa_nil))
      (pss_cons (ps_for PassesOwn.never rfl (pi_range1 rfl T.f_range (pa_cons (pv 2) pa_nil)) (pg_name (i := 5) sc_reduce_rows.nd rfl (Or.inl rfl)) (pss_cons (ps_set (i := 6) sc_reduce_rows.nd rfl (Or.inl rfl) (pe_callB (kLen K rfl) (by rfl) T.f_len boot_len (pa_cons (pv 4) pa_nil)))
      (pss_cons (ps_set (i := 7) sc_reduce_rows.nd rfl (Or.inl rfl) (pe_cal crow_with_pivot T.g_row_with_pivot hr (pa_cons (pv 3) (pa_cons (pv 6) (pa_cons (pv 5) pa_nil)))))
      (pss_one (ps_if (pt_cmpR op_notN1 (pv 7) pe_non (nomark _)) (pss_cons (ps_asg (pe_tup (pa_cons (pe_ix (kIxL K rfl) (pv 3) (pv 7) (fun _ _ => rfl)) (pa_cons (pe_ix (kIxL K rfl) (pv 3) (pv 6) (fun _ _ => rfl)) pa_nil))) (kPgT (n := 2) K rfl rfl (pgs_cons (pg_sub (pv 3) (pv 6) set_list) (pgs_cons (pg_sub (pv 3) (pv 7) set_list) pgs_nil))))
      (pss_cons (ps_set (i := 8) sc_reduce_rows.nd rfl (Or.inr rfl) (pe_meth (pv 0) T.c_Field T.m_Field_inverse cField_inverse.F (hr.mono (by decide)) cField_inverse.b cField_inverse.v pass0 (pa_cons (pe_ix (kIxL K rfl) (pe_ix (kIxL K rfl) (pv 3) (pv 6) (fun _ _ => rfl)) (pv 5) (fun _ _ => rfl)) pa_nil)))
      (pss_cons (ps_asg (pe_lc (own := [("item", 11)]) rfl sc_reduce_rows.nd (kPiL K rfl (pe_ix (kIxL K rfl) (pv 3) (pv 6) (fun _ _ => rfl))) (blkOk_by (own := [("item", 11)]) (N := nm_reduce_rows) (sc := (defScope s_reduce_rows)) (by decide +kernel)) (fun _ _ _ _ _ => (pg_name (i := 11) sc_reduce_rows.nd rfl (Or.inl rfl))) (fun _ _ _ _ _ => pts_nil) (fun _ _ _ _ _ => (pe_meth (pv 0) T.c_Field T.m_Field_times cField_times.F (hr.mono (by decide)) cField_times.b cField_times.v pass0 (pa_cons (pv 11) (pa_cons (pv 8) pa_nil))))) (pg_sub (pv 3) (pv 6) set_list))
      (pss_cons (ps_for PassesOwn.never rfl (pi_range1 rfl T.f_range (pa_cons (pe_callB (kLen K rfl) (by rfl) T.f_len boot_len (pa_cons (pv 3) pa_nil)) pa_nil)) (pg_name (i := 9) sc_reduce_rows.nd rfl (Or.inl rfl)) (pss_one (ps_if (PW.pt (pw_and (pt_cmpR op_ne (pv 9) (pv 6) (nomark _)) (pw_and1 (pt_cmpR op_ne (pe_ix (kIxL K rfl) (pe_ix (kIxL K rfl) (pv 3) (pv 9) (fun _ _ => rfl)) (pv 5) (fun _ _ => rfl)) pe_int (nomark _))))) (pss_one (ps_asg (pe_cal cwithout_multiple T.g_without_multiple hr (pa_cons (pv 0) (pa_cons (pe_ix (kIxL K rfl) (pv 3) (pv 9) (fun _ _ => rfl)) (pa_cons (pe_ix (kIxL K rfl) (pe_ix (kIxL K rfl) (pv 3) (pv 9) (fun _ _ => rfl)) (pv 5) (fun _ _ => rfl)) (pa_cons (pe_ix (kIxL K rfl) (pv 3) (pv 6) (fun _ _ => rfl)) pa_nil))))) (pg_sub (pv 3) (pv 9) set_list))) pss_nil)))
      (pss_one (ps_expr (pe_bm PySem.F.plainAttrs_list PySem.F.slot_list_append PySem.F.type_list_append mt_append (pv 4) (pa_cons (pv 5) pa_nil)))))))) pss_nil)))))
      (pss_one (ps_ret (pe_tup (pa_cons (pe_slice (kSl K rfl) (pv 3) po_none (po_some (pe_callB (kLen K rfl) (by rfl) T.f_len boot_len (pa_cons (pv 4) pa_nil)))) (pa_cons (pv 4) pa_nil))))))))))), en2 (n := 10) rfl fun B z rows Q hp rt => ?_⟩
  obtain ⟨h1, w, h2, h3⟩ := hp
  refine q_when (by wtm_at "E") (fun he => ?_) (fun he => ?_)
  · have e0 : rows = [] := by
      simp only [decide_eq_true_eq] at he
      exact List.length_eq_zero_iff.mp (by omega)
    subst e0
    refine s_ret (ev_pair (x := ([] : List (List Int))) (y := ([] : List Int)) (by wtm_at "E") (by wtm_at "E")) rt ?_
    exact fun w' _ _ => ⟨fun _ h => (by cases h), rfl, Nat.le_refl _, fun _ h => (by cases h), fun _ h => h⟩
  · have hne : 0 < rows.length := by
      simp only [decide_eq_false_iff_not] at he
      omega
    have hw : (rows.getD 0 []).length = w := (h3.row hne).1
    refine q_asg (x := (w : Int)) ((Ev.to (ev_lenL (ev_ixL (by wtm_at "E") (by wtm_at "E") (atI_L (k := 0) hne)))) (by rw [hw])) ?_
    refine q_drop (cd2 (by wtm_at "E") (by wtm_at "E") (fun r hr => by rw [(h3 r hr).1])) ?_
    refine q_asgL (R := rLst rInt) (xs := rows) (EvL.to (by wtm_at "E") (List.map_id'' (fun _ => rfl) rows)) ?_
    refine q_asgL (R := rInt) (by wtm_at "E") ?_
    refine q_forR1 (I := List (List Int) × List Int) (fun i x => Elim w rows x.1 x.2.length i ∧ x.2.length ≤ rows.length ∧ x.2.length ≤ i ∧ ∀ p, p ∈ x.2 → 0 ≤ p ∧ p < (w : Int)) (fun i x => [sf (rField K) z, sf rRows rows, sf rInt (w : Int), sm (rLst rInt) x.1, sm rInt x.2, .any, .any, .any, .any, .any, .any, .any]) (by wtm_at "E") (by omega)
      ⟨(rows, []), ⟨Elim.start h3, Nat.zero_le _, Nat.le_refl _, fun p hp => by cases hp⟩, by wtm_at "sub"⟩ (fun i x hi hx => ?_) (fun x hx => ?_)
    · obtain ⟨work, piv⟩ := x
      obtain ⟨el, pl, pi, pb⟩ := hx
      dsimp only at el pl pi pb ⊢
      have hlen := el.len
      have hcol : i < w := by omega
      refine q_asg (x := (piv.length : Int)) (by wtm_at "E") ?_
      refine q_asgP (lendP (i := 3) rfl (cp3 (by wtm_at "E") (by wtm_at "E") (by wtm_at "E") ⟨by omega, by omega, by omega, by omega, fun r hr => by rw [(el.mat r hr).1]; omega⟩)) (fun fo hfo => ?_)
      cases fo with
      | none =>
        refine s_if (by wtm_at "E") (fun h => by cases h) (fun _ => s_next (wn_lp (work, piv) ⟨el.skip fun k a b => ?_, pl, Nat.le_succ_of_le pi, pb⟩ (by wtm_at "sub")))
        exact hfo k (by omega) b
      | some fo =>
        obtain ⟨f1, f2, f3⟩ := hfo
        obtain ⟨f, rfl⟩ := Int.eq_ofNat_of_zero_le (show 0 ≤ fo by omega)
        refine s_if (by wtm_at "E") (fun _ => ?_) (fun h => by cases h)
        refine wn_some (i := 7) rfl ?_
        have hf : f < work.length := by omega
        have hp : piv.length < work.length := by omega
        refine q_swap (n := piv.length) (k := f) rfl (x := work.getD f []) (y := work.getD piv.length []) (ev_pair (ev_ixM rfl (by wtm_at "E") (atI_L hf)) (ev_ixM rfl (by wtm_at "E") (atI_L hp))) (by show (3 : Nat) < 12; decide) (by wtm_at "E") (ixN_n hp) (by wtm_at "E") (ixN_n hf) ?_
        have el2 := el.swap (by omega) hf (by simpa [at2] using f3)
        generalize hW : (work.set piv.length (work.getD f [])).set f (work.getD piv.length []) = W at el2 ⊢
        have hWl : W.length = rows.length := el2.el.len
        have hpW : piv.length < W.length := by omega
        have hone : at2 W piv.length i = 1 := el2.one
        have hrow := el2.el.mat.row hpW
        refine q_asg (x := (1 : Int)) (md2 (by wtm_at "E") (ev_ixL (ev_ixM rfl (by wtm_at "E") (atI_L hpW)) (by wtm_at "E") (atI_0 (k := i) (by omega))) (by wtm_at "nl") hone) ?_
        refine q_set (n := piv.length) rfl (x := W.getD piv.length []) (EvL.ev (EvL.to (el_lc (ev_ixM rfl (by wtm_at "E") (atI_L hpW)) tg_name (by wtm_at "side") (by omega) (fun x hx => md3 (by wtm_at "E") (by wtm_at "E") (by wtm_at "E") (by wtm_at "nl") ⟨hrow.2 x hx, Or.inr rfl⟩)) ?_)) (by wtm_at "E") (ixN_n hpW) ?_
        · refine (List.map_congr_left fun x hx => ?_).trans (List.map_id _)
          rcases hrow.2 x hx with q | q <;> rw [q] <;> rfl
        · have hset : W.set piv.length (W.getD piv.length []) = W := by
            refine List.ext_getElem? fun j => ?_
            by_cases q : piv.length = j
            · subst q
              rw [List.getElem?_set_self hpW, List.getD_eq_getElem?_getD, List.getElem?_eq_getElem hpW]; rfl
            · rw [List.getElem?_set_ne q]
          rw [hset]
          refine q_forR1 (I := List (List Int)) (fun k x => Elim2 w rows x piv.length i k) (fun k x => [sf (rField K) z, sf rRows rows, sf rInt (w : Int), sm (rLst rInt) x, sm rInt piv, sf rInt (i : Int), sf rInt (piv.length : Int), sf rInt (f : Int), .any, .any, .any, .any]) (by wtm_at "E") (by omega)
            ⟨W, el2, by wtm_at "sub"⟩ (fun k x hk hx => ?_) (fun x hx => ?_)
          · have hxl : x.length = rows.length := hx.el.len
            have hkl : k < x.length := by omega
            have hkr := hx.el.mat.row hkl
            have hpx : piv.length < x.length := by omega
            have hpr := hx.el.mat.row hpx
            refine s_if (et_and (by wtm_at "E") (fun _ => et_test (ev_neI (ev_ixL (ev_ixM rfl (by wtm_at "E") (atI_L hkl)) (by wtm_at "E") (atI_0 (k := i) (by omega))) (by wtm_at "E")))) (fun hc => ?_) (fun hc => ?_)
            · simp only [Bool.and_eq_true, Bool.not_eq_true', decide_eq_false_iff_not] at hc
              refine s_set (n := k) rfl (cd4 (by wtm_at "E") (ev_ixM rfl (by wtm_at "E") (atI_L hkl)) (ev_ixL (ev_ixM rfl (by wtm_at "E") (atI_L hkl)) (by wtm_at "E") (atI_0 (k := i) (by omega))) (ev_ixM rfl (by wtm_at "E") (atI_L hpx)) ⟨by omega, by omega, hx.el.mat.bit k i, hpr.2⟩) (by wtm_at "E") (ixN_n hkl) (wn_lp _ (hx.add hkl (by omega) hcol hc.2) (by wtm_at "sub"))
            · refine s_next (wn_lp x (hx.same ?_) (by wtm_at "sub"))
              simp only [Bool.and_eq_false_iff, Bool.not_eq_false', decide_eq_true_eq] at hc
              rcases hc with q | q
              · exact Or.inl (by omega)
              · exact Or.inr q
          · rw [show ((W.length : Int)).toNat = rows.length by omega] at hx
            refine s_app rfl (by wtm_at "E") (by omega) (wn_lp (x, piv ++ [(i : Int)]) ⟨?_, ?_, ?_, ?_⟩ (by wtm_at "sub"))
            · rw [List.length_append]; exact hx.done
            · rw [List.length_append]; exact hx.pl
            · rw [List.length_append, List.length_singleton]; omega
            · intro p hp
              rcases List.mem_append.mp hp with q | q
              · exact pb p q
              · rw [List.mem_singleton.mp q]; omega
    · obtain ⟨work, piv⟩ := x
      rw [Int.toNat_natCast] at hx
      obtain ⟨el, pl, pi, pb⟩ := hx
      dsimp only at el pl pi pb ⊢
      refine wn_fz (i := 4) rfl ?_
      refine s_ret (y := (work.take piv.length, piv)) (ev_pair (EvL.ev (EvL.to (el_sliceM rfl (by wtm_at "E") (by wtm_at "E")) ?_)) (by wtm_at "E")) rt ?_
      · rw [cutA_take (by omega), Int.toNat_natCast]
      · intro w' hw' hm
        have e : w' = w := by rw [← (hm.row hne).1]; exact hw
        subst e
        exact ⟨el.mat.take _, by rw [List.length_take, el.len]; dsimp only; omega, by rw [List.length_take]; show min _ _ ≤ _; omega, pb, fun v hv => el.fin pl hv⟩
abbrev sp_kernel (K : PySem.W.Frag) : Sp := spP3 (rField K) rRows rInt (fun _ rows w => rows.length ≤ 1000 ∧ ∃ n : Nat, w = n ∧ n ≤ 255 ∧ Mat n rows) rRows (fun _ _ _ _ => True)
abbrev Pr_kernel (P : Program) (w : World) (K : PySem.W.Frag) (mg : Str → Option Value) (base : Heap) : Prop := Pr P w K mg base (He.ga K "kernel") 7 ["field", "rows", "width"] (sp_kernel K) []
def nm_kernel : List Str := ["field", "rows", "width", "reduced", "pivots", "result", "column", "vector", "k"]
theorem sc_kernel : FnScope nm_kernel ["field", "rows", "width"] (defScope s_kernel) := ⟨rfl, rfl, rfl, by decide +kernel, rfl, by decide +kernel, by decide +kernel⟩
theorem ok_kernel {P : Program} {w : World} {K : PySem.W.Frag} {mg : Str → Option Value} {base : Heap} (T : Tx K mg) (ccheck_width : Pr_check_width P w K mg base) (creduce_rows : Pr_reduce_rows P w K mg base) (cField_negative : Pr_Field_negative P w K mg base) : Pr_kernel P w K mg base := by
  refine pr_of (N := nm_kernel) (k := 6) T.d_kernel sc_kernel (fun _ _ _ _ _ _ us hl => match us, hl with | [_, _, _], _ => rfl) len3 fun cdv A outer s H E hr => ⟨_, (pss_cons (ps_expr (pe_cal ccheck_width T.g_check_width hr (pa_cons (pv 1) (pa_cons (pv 2) pa_nil))))
      (pss_cons (ps_asg (pe_cal creduce_rows T.g_reduce_rows hr (pa_cons (pv 0) (pa_cons (pv 1) pa_nil))) (kPgT (n := 2) K rfl rfl (pgs_cons (pg_name (i := 3) sc_kernel.nd rfl (Or.inl rfl)) (pgs_cons (pg_name (i := 4) sc_kernel.nd rfl (Or.inl rfl)) pgs_nil))))
      (pss_cons (ps_set (i := 5) sc_kernel.nd rfl (Or.inl rfl) (pe_lst pa_nil))
      (pss_cons (ps_for PassesOwn.never rfl (pi_range1 rfl T.f_range (pa_cons (pv 2) pa_nil)) (pg_name (i := 6) sc_kernel.nd rfl (Or.inl rfl)) (pss_one (ps_if (pt_cmpR (kNotIn K rfl) (pv 6) (pv 4) (by rfl)) (pss_cons (ps_set (i := 7) sc_kernel.nd rfl (Or.inl rfl) (pe_op op_rep (pe_lst (pa_cons pe_int pa_nil)) (pv 2)))
      (pss_cons (ps_asg pe_int (pg_sub (pv 7) (pv 6) set_list))
      (pss_cons (ps_for PassesOwn.never rfl (pi_range1 rfl T.f_range (pa_cons (pe_callB (kLen K rfl) (by rfl) T.f_len boot_len (pa_cons (pv 4) pa_nil)) pa_nil)) (pg_name (i := 8) sc_kernel.nd rfl (Or.inl rfl)) (pss_one (ps_asg (pe_meth (pv 0) T.c_Field T.m_Field_negative cField_negative.F (hr.mono (by decide)) cField_negative.b cField_negative.v pass0 (pa_cons (pe_ix (kIxL K rfl) (pe_ix (kIxL K rfl) (pv 3) (pv 8) (fun _ _ => rfl)) (pv 6) (fun _ _ => rfl)) pa_nil)) (pg_sub (pv 7) (pe_ix (kIxL K rfl) (pv 4) (pv 8) (fun _ _ => rfl)) set_list))))
      (pss_one (ps_expr (pe_bm PySem.F.plainAttrs_list PySem.F.slot_list_append PySem.F.type_list_append mt_append (pv 5) (pa_cons (pv 7) pa_nil))))))) pss_nil)))
      (pss_one (ps_ret (pv 5))))))), en3 (n := 6) rfl fun B z rows w Q hp rt => ?_⟩
  obtain ⟨h1, w, rfl, h2, h3⟩ := hp
  refine q_drop (cd2 (by wtm_at "E") (by wtm_at "E") (fun r hr => by rw [(h3 r hr).1])) ?_
  refine q_tgtP tg_pair (cp2 (by wtm_at "E") (by wtm_at "E") ⟨h1, w, h2, h3⟩) (fun y hy => ?_)
  obtain ⟨red, piv⟩ := y
  have hR : RedP w rows red piv := hy w h2 h3
  have e1 : red.length = piv.length := hR.len
  have e2 : red.length ≤ rows.length := hR.le
  refine q_asgL (R := rLst rInt) (by wtm_at "E") ?_
  refine q_forR1 (I := List (List Int)) (fun i x => x.length ≤ i) (fun i x => [sf (rField K) z, sf rRows rows, sf rInt (w : Int), sf rRows red, sf (rLst rInt) piv, sm (rLst rInt) x, .any, .any, .any]) (by wtm_at "E") (by omega) ⟨[], Nat.le_refl _, by wtm_at "sub"⟩ (fun i x hi hx => ?_) (fun x hx => ?_)
  · refine s_if (et_test (ev_notIn (by wtm_at "E") (by wtm_at "E"))) (fun _ => ?_) (fun _ => s_next (wn_lp x (by omega) (by wtm_at "sub")))
    refine q_asgL (R := rInt) (by wtm_at "E") ?_
    have hl : (List.replicate (w : Int).toNat (0 : Int)).length = w := by rw [List.length_replicate, Int.toNat_natCast]
    refine q_set (n := i) rfl (x := (1 : Int)) (by wtm_at "E") (by wtm_at "E") (ixN_n (by rw [hl]; omega)) ?_
    refine q_forR1 (I := List Int) (fun k y => y.length = w) (fun k y => [sf (rField K) z, sf rRows rows, sf rInt (w : Int), sf rRows red, sf (rLst rInt) piv, sm (rLst rInt) x, sf rInt (i : Int), sm rInt y, .any]) (by wtm_at "E") (by omega) ⟨(List.replicate (w : Int).toNat (0 : Int)).set i 1, by rw [List.length_set]; exact hl, by wtm_at "sub"⟩ (fun k y hk hy => ?_) (fun y hy => ?_)
    · have hkp : k < piv.length := by omega
      have hkr : k < red.length := by omega
      have hr := hR.mat.row hkr
      have hpb := hR.piv _ (getD_mem (d := 0) hkp)
      refine s_set (n := (piv.getD k 0).toNat) rfl (md2 (by wtm_at "E") (ev_ixL (ev_ixL (by wtm_at "E") (by wtm_at "E") (atI_L hkr)) (by wtm_at "E") (atI_0 (k := i) (by omega))) (by wtm_at "nl") trivial) (ev_ixL (by wtm_at "E") (by wtm_at "E") (atI_0 hkp)) (ixN_D hpb.1 (by omega)) (wn_ls (by wtm_at "sub") (by rw [List.length_set]; exact hy))
    · refine wn_fz (i := 7) rfl ?_
      refine s_app rfl (by wtm_at "E") (by omega) (wn_ls (by wtm_at "sub") (by rw [List.length_append, List.length_singleton]; omega))
  · refine wn_fz (i := 5) rfl ?_
    refine s_ret (by wtm_at "E") rt trivial
end NW
set_option maxHeartbeats 4000000
namespace NW
open PySem PySem.Spec PyProof.Rows L2 G MX
local macro_rules | `(tactic| wtm_at "nl") => `(tactic| first
  | with_reducible exact nl_Field_digits _ _
  | with_reducible exact nl_Field_element _ _
  | with_reducible exact nl_Field_plus _ _
  | with_reducible exact nl_Field_negative _ _
  | with_reducible exact nl_Field_minus _ _
  | with_reducible exact nl_Field_times _ _
  | with_reducible exact nl_Field_inverse _ _
  | with_reducible exact nl_LinearCode_words _ _
  | with_reducible exact nl_Encoder_advance _ _
  | with_reducible exact nl_Encoder__fed _ _
  | with_reducible exact nl_Encoder_word_for _ _
  | with_reducible exact nl_Encoder_linear _ _
  | with_reducible exact nl_Trellis_moves_from _ _
  | with_reducible exact nl_Trellis_costs_table _ _
  | with_reducible exact nl_Trellis_best_moves _ _
  | with_reducible exact nl_Summary_grown _ _
  | with_reducible exact nl_PathDecoder_restart _ _
  | with_reducible exact nl_PathDecoder_take _ _
  | with_reducible exact nl_PathDecoder_answer _ _)
local macro_rules | `(tactic| wtm_at "side") => `(tactic| first
  | assumption
  | exact rfl
  | exact atI_0 (by omega)
  | exact atI_L (by omega)
  | omega
  | exact trivial
  | exact fun _ h => h
  | exact List.mem_singleton.mpr rfl
  | wtm_at "nl"
  | exact Or.inr ⟨by omega, by omega⟩
  | exact Or.inl ⟨by omega, by omega⟩
  | (show (0 : Int) < _; omega)
  | exact ⟨by omega, by omega⟩
  | exact ⟨rfl, rfl⟩
  | exact MX.Bits.getD (by assumption) _
  | exact ⟨by assumption, by assumption⟩
  | exact ⟨by assumption, by assumption, by assumption⟩
  | exact ⟨by assumption, MX.Bits.getD (by assumption) _⟩
  | decide
  | (show (_ : Nat) ≤ 10000000; (simp only [List.length_cons, List.length_nil, List.length_append]; omega))
  | (show (_ : Nat) < 10000000; (simp only [List.length_cons, List.length_nil, List.length_append]; omega)))
local macro_rules | `(tactic| wtm_at "evop") => `(tactic| first
  | ((with_reducible refine' ev_opI0 _ _) <;> wtm_at "ev2")
  | ((with_reducible refine' ev_opB0 _ _) <;> wtm_at "ev2")
  | ((with_reducible refine' ev_opI _ _ _) <;> wtm_at "ev2")
  | ((with_reducible refine' ev_ixL (m := _) _ _ _) <;> wtm_at "ev2")
  | ((with_reducible show Ev _ _ (tOp (rIxL _) (tVar _) _) _ _); (refine' ev_ixM rfl _ _) <;> wtm_at "ev2")
  | ((with_reducible refine' ev_eqI _ _) <;> wtm_at "ev2")
  | ((with_reducible refine' ev_neI _ _) <;> wtm_at "ev2")
  | ((with_reducible refine' ev_isN (n := _) _) <;> wtm_at "ev2")
  | ((with_reducible refine' ev_notN (n := _) _) <;> wtm_at "ev2")
  | ((with_reducible refine' ev_fst (m := _) (n := _) _) <;> wtm_at "ev2")
  | ((with_reducible refine' ev_snd (m := _) (n := _) _) <;> wtm_at "ev2")
  | ((with_reducible refine' ev_tri1 _) <;> wtm_at "ev2")
  | ((with_reducible refine' ev_tri2 _) <;> wtm_at "ev2")
  | ((with_reducible refine' ev_ixT (m := _) _ _ _) <;> wtm_at "ev2")
  | ((with_reducible refine' ev_ixS (m := _) _ _ _) <;> wtm_at "ev2")
  | ((with_reducible refine' EvL.ev (m := _) _) <;> wtm_at "ev2"))
local macro_rules | `(tactic| wtm_at "evfld") => `(tactic| first
  | ((with_reducible refine' ev_Field_prime _) <;> wtm_at "ev2")
  | ((with_reducible refine' ev_Field_modulus _) <;> wtm_at "ev2")
  | ((with_reducible refine' ev_Field_degree _) <;> wtm_at "ev2")
  | ((with_reducible refine' ev_Field_order _) <;> wtm_at "ev2")
  | ((with_reducible refine' ev_LinearCode_field _) <;> wtm_at "ev2")
  | ((with_reducible refine' ev_LinearCode_length _) <;> wtm_at "ev2")
  | ((with_reducible refine' ev_LinearCode_dimension _) <;> wtm_at "ev2")
  | ((with_reducible refine' ev_LinearCode_rows _) <;> wtm_at "ev2")
  | ((with_reducible refine' ev_LinearCode_pivots _) <;> wtm_at "ev2")
  | ((with_reducible refine' ev_LinearCode_checks _) <;> wtm_at "ev2")
  | ((with_reducible refine' ev_LinearCode_size _) <;> wtm_at "ev2")
  | ((with_reducible refine' ev_Encoder_taps _) <;> wtm_at "ev2")
  | ((with_reducible refine' ev_Encoder_memory _) <;> wtm_at "ev2")
  | ((with_reducible refine' ev_Encoder_outputs _) <;> wtm_at "ev2")
  | ((with_reducible refine' ev_Encoder_state_count _) <;> wtm_at "ev2")
  | ((with_reducible refine' ev_Trellis_steps _) <;> wtm_at "ev2")
  | ((with_reducible refine' ev_Trellis_message_length _) <;> wtm_at "ev2")
  | ((with_reducible refine' ev_Trellis_table _) <;> wtm_at "ev2")
  | ((with_reducible refine' ev_Summary_cost _) <;> wtm_at "ev2")
  | ((with_reducible refine' ev_Summary_count_of _) <;> wtm_at "ev2")
  | ((with_reducible refine' ev_Summary_first _) <;> wtm_at "ev2")
  | ((with_reducible refine' ev_Summary_start_of _) <;> wtm_at "ev2")
  | ((with_reducible refine' ev_PathDecoder_encoder _) <;> wtm_at "ev2")
  | ((with_reducible refine' ev_PathDecoder_table _) <;> wtm_at "ev2")
  | ((with_reducible refine' ev_PathDecoder_steps _) <;> wtm_at "ev2")
  | ((with_reducible refine' ev_PathDecoder_summaries _) <;> wtm_at "ev2"))
local macro_rules | `(tactic| wtm_at "evcb") => `(tactic| first
  | ((with_reducible show Ev _ _ (tCB (rLen _) (tCons (tVar _) tNil)) _ _); exact ev_lenM rfl)
  | ((with_reducible refine' ev_lenL _) <;> wtm_at "ev2")
  | ((with_reducible refine' ev_lenT _) <;> wtm_at "ev2")
  | ((with_reducible refine' ev_lenS _) <;> wtm_at "ev2")
  | ((with_reducible refine' ev_int1 _) <;> wtm_at "ev2")
  | ((with_reducible refine' ev_intB _) <;> wtm_at "ev2")
  | ((with_reducible refine' ev_abs _) <;> wtm_at "ev2")
  | ((with_reducible refine' ev_min2 _ _) <;> wtm_at "ev2")
  | ((with_reducible refine' ev_max2 _ _) <;> wtm_at "ev2")
  | ((with_reducible refine' ev_minLL _ _) <;> wtm_at "ev2")
  | ((with_reducible refine' ev_sum _) <;> wtm_at "ev2")
  | ((with_reducible refine' ev_tupL (m := _) _) <;> wtm_at "ev2")
  | ((with_reducible refine' EvL.ev (m := _) _) <;> wtm_at "ev2"))
local macro_rules | `(tactic| wtm_at "evcall") => `(tactic| first
  | ((with_reducible refine' cd1 _ _) <;> wtm_at "ev2")
  | ((with_reducible refine' cd2 _ _ _) <;> wtm_at "ev2")
  | ((with_reducible refine' cd3 _ _ _ _) <;> wtm_at "ev2")
  | ((with_reducible refine' cd4 _ _ _ _ _) <;> wtm_at "ev2")
  | ((with_reducible refine' cd5 _ _ _ _ _ _) <;> wtm_at "ev2"))
local macro_rules | `(tactic| wtm_at "evmeth") => `(tactic| first
  | ((with_reducible refine' md1 _ _ _) <;> wtm_at "ev2")
  | ((with_reducible refine' md2 _ _ _ _) <;> wtm_at "ev2")
  | ((with_reducible refine' md3 _ _ _ _ _) <;> wtm_at "ev2")
  | ((with_reducible refine' md4 _ _ _ _ _ _) <;> wtm_at "ev2"))
local macro_rules | `(tactic| wtm_at "evx") => `(tactic| first
  | ((with_reducible show Ev _ _ (tVar _) _ _); exact ev_var rfl)
  | ((with_reducible show Ev _ _ (tC _) _ _); first | exact ev_int | exact ev_bl | exact ev_none | exact ev_non)
  | ((with_reducible show Ev _ _ (tOp _ _ _) _ _); wtm_at "evop")
  | ((with_reducible show Ev _ _ (tF _ _ _) _ _); wtm_at "evfld")
  | ((with_reducible show Ev _ _ (tCB _ _) _ _); wtm_at "evcb")
  | ((with_reducible show Ev _ _ (tCall _ _ _ _) _ _); wtm_at "evcall")
  | ((with_reducible show Ev _ _ (tMeth _ _ _ _ _ _ _) _ _); wtm_at "evmeth")
  | ((with_reducible show Ev _ _ (tTup _) _ _); first | ((with_reducible refine' ev_pair (m := _) (n := _) _ _) <;> wtm_at "ev2") | ((with_reducible refine' ev_tri (m := _) (n := _) (k := _) _ _ _) <;> wtm_at "ev2"))
  | ((with_reducible refine' ev_neg _) <;> wtm_at "ev2")
  | ((with_reducible refine' ev_notV _) <;> wtm_at "ev2")
  | ((with_reducible show Ev _ _ (tLc _ _ _ _ _) _ _); (with_reducible refine' EvL.ev (m := _) _) <;> wtm_at "ev2")
  | ((with_reducible refine' EvL.ev (m := _) _) <;> wtm_at "ev2"))
local macro_rules | `(tactic| wtm_at "evt") => `(tactic| first
  | ((with_reducible refine' et_test _) <;> wtm_at "ev2")
  | ((with_reducible refine' et_B _) <;> wtm_at "ev2")
  | ((with_reducible refine' et_not _) <;> wtm_at "ev2"))
local macro_rules | `(tactic| wtm_at "evl") => `(tactic| first
  | exact el_nil
  | ((with_reducible refine' el_rep (m := _) _ _ _ _) <;> wtm_at "ev2")
  | ((with_reducible refine' el_cat (m := _) _ _ _) <;> wtm_at "ev2")
  | ((with_reducible refine' el_slice (m := _) _ _ _) <;> wtm_at "ev2")
  | ((with_reducible show EvL _ _ (tSl _ (tVar _) _ _) _ _); (refine' el_sliceM rfl _ _) <;> wtm_at "ev2")
  | ((with_reducible refine' el_listL (m := _) _) <;> wtm_at "ev2")
  | ((with_reducible refine' el_disp (m := _) _ _) <;> wtm_at "ev2")
  | ((with_reducible refine' el_sortLL _) <;> wtm_at "ev2")
  | ((with_reducible refine' el_lc (m := _) (n := _) _ (tg_name (m := _)) _ _ _) <;> wtm_at "ev2")
  | ((with_reducible refine' el_lcR (n := _) _ _ _ _ _) <;> wtm_at "ev2")
  | ((with_reducible refine' el_lc (m := _) (n := _) _ (tg_pair (m := _) (n := _)) _ _ _) <;> wtm_at "ev2")
  | ((with_reducible refine' el_lc (m := _) (n := _) _ (tg_tri (m := _) (n := _) (o := _)) _ _ _) <;> wtm_at "ev2"))
local macro_rules | `(tactic| wtm_at "ev") => `(tactic| first
  | ((with_reducible show Ev _ _ _ _ _); first | ((with_reducible refine' et_chain _ _ _) <;> wtm_at "ev2") | wtm_at "evx")
  | ((with_reducible show EvT _ _ _ _); wtm_at "evt")
  | ((with_reducible show EvL _ _ _ _ _); wtm_at "evl")
  | exact ea_nil
  | exact eh_nil
  | exact eo_none
  | ((with_reducible refine' ea_cons (m := _) _ _) <;> wtm_at "ev2")
  | ((with_reducible refine' eh_cons (m := _) _ _) <;> wtm_at "ev2")
  | ((with_reducible refine' eo_some _) <;> wtm_at "ev2"))
local macro_rules | `(tactic| wtm_at "no") => `(tactic| ((fail_if_success (with_reducible show Ev _ _ _ _ _)); (fail_if_success (with_reducible show EvL _ _ _ _ _)); (fail_if_success (with_reducible show EvT _ _ _ _)); (fail_if_success (with_reducible show EvA _ _ _ _)); (fail_if_success (with_reducible show EvH _ _ _ _ _)); (fail_if_success (with_reducible show EvO _ _ _ _))))
local macro_rules | `(tactic| wtm_at "ev2") => `(tactic| first | wtm_at "ev" | (wtm_at "no"; first | infer_instance | (intro x hx; wtm_at "ev") | skip))
local macro_rules | `(tactic| wtm_at "E") => `(tactic| ((wtm_at "ev") <;> (try infer_instance)) <;> (try (refine Iff.mp Iff.rfl ?_; wtm_at "side")))
local macro_rules | `(tactic| wtm_at "sub") => `(tactic| repeat' first | exact Sub.nil | apply Sub.any | apply Sub.same | (apply Sub.fz) | (apply Sub.ml))
abbrev rRec0 : Rel (List (Option Int)) := rLst (rOpt rInt)
abbrev sp_check_lengths (K : PySem.W.Frag) : Sp := spD2 (rLst rInt) rRec0 (fun a b => a.length = b.length) rNon (fun _ _ => ())
abbrev Pr_check_lengths (P : Program) (w : World) (K : PySem.W.Frag) (mg : Str → Option Value) (base : Heap) : Prop := Pr P w K mg base (He.ga K "check_lengths") 1 ["first", "second"] (sp_check_lengths K) []
def nm_check_lengths : List Str := ["first", "second"]
theorem sc_check_lengths : FnScope nm_check_lengths ["first", "second"] (defScope s_check_lengths) := ⟨rfl, rfl, rfl, by decide +kernel, rfl, by decide +kernel, by decide +kernel⟩
theorem ok_check_lengths {P : Program} {w : World} {K : PySem.W.Frag} {mg : Str → Option Value} {base : Heap} (T : Tx K mg)  : Pr_check_lengths P w K mg base := by
  refine pr_of (N := nm_check_lengths) (k := 0) T.d_check_lengths sc_check_lengths (fun _ _ _ _ _ _ us hl => match us, hl with | [_, _], _ => rfl) len2 fun cdv A outer s H E hr => ⟨_, (pss_one (ps_if (pt_cmpR op_ne (pe_callB (kLen K rfl) (by rfl) T.f_len boot_len (pa_cons (pv 0) pa_nil)) (pe_callB (kLen K rfl) (by rfl) T.f_len boot_len (pa_cons (pv 1) pa_nil)) (nomark _)) pss_never pss_nil)), en2 (n := 0) rfl fun B a b Q hp rt => ?_⟩
  refine s_no (by wtm_at "E") (by simp [hp]) (s_off rt rfl)
abbrev sp_erased_positions (K : PySem.W.Frag) : Sp := spD1 rRec0 (fun r => r.length ≤ 1000 ∧ ∀ o, o ∈ r → o ≠ none) (rLst rInt) (fun _ => [])
abbrev Pr_erased_positions (P : Program) (w : World) (K : PySem.W.Frag) (mg : Str → Option Value) (base : Heap) : Prop := Pr P w K mg base (He.ga K "erased_positions") 1 ["received"] (sp_erased_positions K) []
def nm_erased_positions : List Str := ["received", "position"]
theorem sc_erased_positions : FnScope nm_erased_positions ["received"] (defScope s_erased_positions) := ⟨rfl, rfl, rfl, by decide +kernel, rfl, by decide +kernel, by decide +kernel⟩
theorem ok_erased_positions {P : Program} {w : World} {K : PySem.W.Frag} {mg : Str → Option Value} {base : Heap} (T : Tx K mg)  : Pr_erased_positions P w K mg base := by
  refine pr_of (N := nm_erased_positions) (k := 0) T.d_erased_positions sc_erased_positions (fun _ _ _ _ _ _ us hl => match us, hl with | [_], _ => rfl) len1 fun cdv A outer s H E hr => ⟨_, (pss_one (ps_ret (pe_lc (own := [("position", 1)]) rfl sc_erased_positions.nd (pi_range1 rfl T.f_range (pa_cons (pe_callB (kLen K rfl) (by rfl) T.f_len boot_len (pa_cons (pv 0) pa_nil)) pa_nil)) (blkOk_by (own := [("position", 1)]) (N := nm_erased_positions) (sc := (defScope s_erased_positions)) (by decide +kernel)) (fun _ _ _ _ _ => (pg_name (i := 1) sc_erased_positions.nd rfl (Or.inl rfl))) (fun _ _ _ _ _ => (pts_one (pt_cmpR op_isN1 (pe_ix (kIxL K rfl) (pv 0) (pv 1) (fun _ _ => rfl)) pe_non (nomark _)))) (fun _ _ _ _ _ => (pv 1))))), en1 (n := 1) rfl fun B r Q hp rt => ?_⟩
  obtain ⟨h1, h2⟩ := hp
  refine s_ret (y := []) (EvL.ev (EvL.to (el_lcRF (p := fun _ => false) (f := fun i => (i : Int)) (by wtm_at "E") (List.mem_singleton.mpr rfl) (by omega) (by omega) (fun i hi => EvT.to (et_test (ev_isN (ev_ixL (by wtm_at "E") (by wtm_at "E") (atI_D none (by omega) hi)))) ?_) (fun i hi hf => by cases hf)) ?_)) rt rfl
  · rw [Int.toNat_natCast]
    have : r.getD i none ∈ r := getD_mem (by omega)
    cases e : r.getD i none with
    | none => exact absurd e (h2 _ this)
    | some x => rfl
  · rw [List.filter_eq_nil_iff.mpr (fun _ _ => by decide)]; rfl
abbrev sp_errors_beside (K : PySem.W.Frag) : Sp := spD2 (rLst rInt) rRec0 (fun a b => a.length = b.length ∧ a.length ≤ 100000) rInt dst
abbrev Pr_errors_beside (P : Program) (w : World) (K : PySem.W.Frag) (mg : Str → Option Value) (base : Heap) : Prop := Pr P w K mg base (He.ga K "errors_beside") 2 ["word", "received"] (sp_errors_beside K) []
def nm_errors_beside : List Str := ["word", "received", "errors", "position"]
theorem sc_errors_beside : FnScope nm_errors_beside ["word", "received"] (defScope s_errors_beside) := ⟨rfl, rfl, rfl, by decide +kernel, rfl, by decide +kernel, by decide +kernel⟩
theorem ok_errors_beside {P : Program} {w : World} {K : PySem.W.Frag} {mg : Str → Option Value} {base : Heap} (T : Tx K mg) (ccheck_lengths : Pr_check_lengths P w K mg base) : Pr_errors_beside P w K mg base := by
  refine pr_of (N := nm_errors_beside) (k := 1) T.d_errors_beside sc_errors_beside (fun _ _ _ _ _ _ us hl => match us, hl with | [_, _], _ => rfl) len2 fun cdv A outer s H E hr => ⟨_, (pss_cons (ps_expr (pe_cal ccheck_lengths T.g_check_lengths hr (pa_cons (pv 0) (pa_cons (pv 1) pa_nil))))
      (pss_cons (ps_set (i := 2) sc_errors_beside.nd rfl (Or.inl rfl) pe_int)
      (pss_cons (ps_for PassesOwn.never rfl (pi_range1 rfl T.f_range (pa_cons (pe_callB (kLen K rfl) (by rfl) T.f_len boot_len (pa_cons (pv 0) pa_nil)) pa_nil)) (pg_name (i := 3) sc_errors_beside.nd rfl (Or.inl rfl)) (pss_one (ps_if (PW.pt (pw_and (pt_cmpR op_notN1 (pe_ix (kIxL K rfl) (pv 1) (pv 3) (fun _ _ => rfl)) pe_non (nomark _)) (pw_and1 (pt_cmpR op_ne (pe_ix (kIxL K rfl) (pv 1) (pv 3) (fun _ _ => rfl)) (pe_ix (kIxL K rfl) (pv 0) (pv 3) (fun _ _ => rfl)) (nomark _))))) (pss_one (ps_aug (i := 2) sc_errors_beside.nd rfl (Or.inl rfl) pe_int ip_add)) pss_nil)))
      (pss_one (ps_ret (pv 2)))))), en2 (n := 2) rfl fun B w r Q hp rt => ?_⟩
  obtain ⟨h1, h2⟩ := hp
  refine q_drop (cd2 (by wtm_at "E") (by wtm_at "E") h1) ?_
  refine q_asg (by wtm_at "E") ?_
  refine q_forR1 (I := Unit) (fun i _ => True) (fun i _ => [sf (rLst rInt) w, sf rRec0 r, sf rInt (dst (w.take i) (r.take i)), .any]) (by wtm_at "E") (by omega) ⟨(), trivial, by wtm_at "sub"⟩ (fun i _ hi _ => ?_) (fun _ _ => ?_)
  · have hw : i < w.length := by omega
    have hr : i < r.length := by omega
    have hs := dst_step hw h1
    have hi1 : atI r (i : Int) = some (r.getD i none) := atI_D none (by omega) (by omega)
    generalize r.getD i none = o at hs hi1
    cases o with
    | none =>
      refine s_no (et_and (et_test (ev_notN (ev_ixL (by wtm_at "E") (by wtm_at "E") hi1))) (fun h => by cases h)) (b := false && false) rfl (wn_lp () trivial (by wtm_at "sub"; rw [hs]; exact (Int.add_zero _).symm))
    | some y =>
      refine s_if (et_and (et_test (ev_notN (ev_ixL (by wtm_at "E") (by wtm_at "E") hi1))) (fun h => et_test (ev_neI (Ev.unopt (ev_ixL (by wtm_at "E") (by wtm_at "E") hi1)) (by wtm_at "E")))) (fun h => ?_) (fun h => ?_)
      · refine s_aug rfl (by wtm_at "E") (wn_lp () trivial (by wtm_at "sub"; rw [hs]; show _ = _ + (if y = w.getD i 0 then (0 : Int) else 1); rw [if_neg (by simpa using h)]))
      · refine s_next (wn_lp () trivial (by wtm_at "sub"; rw [hs]; show _ = _ + (if y = w.getD i 0 then (0 : Int) else 1); rw [if_pos (by simpa using h)]; exact (Int.add_zero _).symm))
  · refine s_ret (by wtm_at "E") rt ?_
    rw [Int.toNat_natCast, List.take_length, h1, List.take_length]
abbrev sp_is_received (K : PySem.W.Frag) : Sp := spD3 (rField K) rInt rRec0 (fun _ n r => (r.length : Int) = n ∧ OBits r) rBl (fun _ _ _ => true)
abbrev Pr_is_received (P : Program) (w : World) (K : PySem.W.Frag) (mg : Str → Option Value) (base : Heap) : Prop := Pr P w K mg base (He.ga K "is_received") 1 ["field", "length", "received"] (sp_is_received K) []
def nm_is_received : List Str := ["field", "length", "received", "item"]
theorem sc_is_received : FnScope nm_is_received ["field", "length", "received"] (defScope s_is_received) := ⟨rfl, rfl, rfl, by decide +kernel, rfl, by decide +kernel, by decide +kernel⟩
theorem ok_is_received {P : Program} {w : World} {K : PySem.W.Frag} {mg : Str → Option Value} {base : Heap} (T : Tx K mg)  : Pr_is_received P w K mg base := by
  refine pr_of (N := nm_is_received) (k := 0) T.d_is_received sc_is_received (fun _ _ _ _ _ _ us hl => match us, hl with | [_, _, _], _ => rfl) len3 fun cdv A outer s H E hr => ⟨_, (pss_cons (ps_if (pt_cmpR op_ne (pe_callB (kLen K rfl) (by rfl) T.f_len boot_len (pa_cons (pv 2) pa_nil)) (pv 1) (nomark _)) (pss_one (ps_ret pe_bl)) pss_nil)
      (pss_cons (ps_for PassesOwn.never rfl (kPiL K rfl (pv 2)) (pg_name (i := 3) sc_is_received.nd rfl (Or.inl rfl)) (pss_one (ps_if (PW.pt (pw_and (pt_cmpR op_notN1 (pv 3) pe_non (nomark _)) (pw_and1 (pt_not (pt_chain op_le op_lt pe_int (pv 3) (pe_fT (pv 0) T.c_Field T.n_Field_order)))))) (pss_one (ps_ret pe_bl)) pss_nil)))
      (pss_one (ps_ret pe_bl)))), en3 (n := 1) rfl fun B z n r Q hp rt => ?_⟩
  obtain ⟨h1, h2⟩ := hp
  refine q_no (by wtm_at "E") (by simp [h1]) ?_
  refine q_forL (I := Unit) (fun i _ => True) (fun i _ => [sf (rField K) z, sf rInt n, sf rRec0 r, .any]) tg_name (by wtm_at "E") ⟨(), trivial, by wtm_at "sub"⟩ (fun B1 up i _ y hy _ => ?_) (fun _ _ => ?_)
  · cases y with
    | none => refine s_no (et_and (EvT.to (b := (none : Option Int).isSome) (by wtm_at "E") rfl) (fun h => by cases h)) (b := false && false) rfl (wn_lp () trivial (by wtm_at "sub"))
    | some b =>
      have hb : Bit b := h2 b (List.mem_of_getElem? hy)
      refine wn_some (i := 3) rfl ?_
      refine s_no (et_and (et_test (ev_notN (Ev.some (by wtm_at "E")))) (fun h => by wtm_at "E")) ?_ (wn_lp () trivial (by wtm_at "sub"))
      rcases hb with q | q <;> rw [q] <;> rfl
  · refine s_ret (by wtm_at "E") rt rfl
abbrev sp_is_word (K : PySem.W.Frag) : Sp := spD3 (rField K) rInt (rLst rInt) (fun _ n w => (w.length : Int) = n ∧ w.length ≤ 1000 ∧ Bits w) rBl (fun _ _ _ => true)
abbrev Pr_is_word (P : Program) (w : World) (K : PySem.W.Frag) (mg : Str → Option Value) (base : Heap) : Prop := Pr P w K mg base (He.ga K "is_word") 2 ["field", "length", "word"] (sp_is_word K) []
def nm_is_word : List Str := ["field", "length", "word"]
theorem sc_is_word : FnScope nm_is_word ["field", "length", "word"] (defScope s_is_word) := ⟨rfl, rfl, rfl, by decide +kernel, rfl, by decide +kernel, by decide +kernel⟩
theorem ok_is_word {P : Program} {w : World} {K : PySem.W.Frag} {mg : Str → Option Value} {base : Heap} (T : Tx K mg) (cis_received : Pr_is_received P w K mg base) (cerased_positions : Pr_erased_positions P w K mg base) : Pr_is_word P w K mg base := by
  refine pr_of (N := nm_is_word) (k := 1) T.d_is_word sc_is_word (fun _ _ _ _ _ _ us hl => match us, hl with | [_, _, _], _ => rfl) len3 fun cdv A outer s H E hr => ⟨_, (pss_one (ps_ret (pe_and (pe_cal cis_received T.g_is_received hr (pa_cons (pv 0) (pa_cons (pv 1) (pa_cons (pv 2) pa_nil)))) (pe_one (pe_cmpR op_eq (pe_callB (kLen K rfl) (by rfl) T.f_len boot_len (pa_cons (pe_cal cerased_positions T.g_erased_positions hr (pa_cons (pv 2) pa_nil)) pa_nil)) pe_int (nomark _)))))), en3 (n := 0) rfl fun B z n w Q hp rt => ?_⟩
  obtain ⟨h1, h2, h3⟩ := hp
  refine s_ret (y := true && decide (((([] : List Int).length : Nat) : Int) = 0)) (ev_andV (cd3 (by wtm_at "E") (by wtm_at "E") (ev_opts (by wtm_at "E")) ⟨by rw [List.length_map]; exact h1, h3.obits⟩) (fun _ => ev_eqI (ev_lenL (cd1 (ev_opts (by wtm_at "E")) ⟨by rw [List.length_map]; exact h2, fun o ho q => ?_⟩)) ev_int)) rt rfl
  obtain ⟨x, _, e⟩ := List.mem_map.mp ho
  rw [q] at e; cases e
abbrev sp_zero_word (K : PySem.W.Frag) : Sp := spD1 rInt (fun n => 0 ≤ n ∧ n ≤ 100000) (rLst rInt) (fun n => List.replicate n.toNat 0)
abbrev Pr_zero_word (P : Program) (w : World) (K : PySem.W.Frag) (mg : Str → Option Value) (base : Heap) : Prop := Pr P w K mg base (He.ga K "zero_word") 1 ["length"] (sp_zero_word K) []
def nm_zero_word : List Str := ["length"]
theorem sc_zero_word : FnScope nm_zero_word ["length"] (defScope s_zero_word) := ⟨rfl, rfl, rfl, by decide +kernel, rfl, by decide +kernel, by decide +kernel⟩
theorem ok_zero_word {P : Program} {w : World} {K : PySem.W.Frag} {mg : Str → Option Value} {base : Heap} (T : Tx K mg)  : Pr_zero_word P w K mg base := by
  refine pr_of (N := nm_zero_word) (k := 0) T.d_zero_word sc_zero_word (fun _ _ _ _ _ _ us hl => match us, hl with | [_], _ => rfl) len1 fun cdv A outer s H E hr => ⟨_, (pss_one (ps_ret (pe_op op_rep (pe_lst (pa_cons pe_int pa_nil)) (pv 0)))), en1 (n := 0) rfl fun B n Q hp rt => ?_⟩
  refine s_ret (by wtm_at "E") rt rfl
abbrev sp_check_words (K : PySem.W.Frag) : Sp := spD3 (rField K) (rLst rInt) (rLst rInt) (fun _ a b => a.length = b.length ∧ a.length ≤ 1000 ∧ Bits a ∧ Bits b) rNon (fun _ _ _ => ())
abbrev Pr_check_words (P : Program) (w : World) (K : PySem.W.Frag) (mg : Str → Option Value) (base : Heap) : Prop := Pr P w K mg base (He.ga K "check_words") 3 ["field", "first", "second"] (sp_check_words K) []
def nm_check_words : List Str := ["field", "first", "second"]
theorem sc_check_words : FnScope nm_check_words ["field", "first", "second"] (defScope s_check_words) := ⟨rfl, rfl, rfl, by decide +kernel, rfl, by decide +kernel, by decide +kernel⟩
theorem ok_check_words {P : Program} {w : World} {K : PySem.W.Frag} {mg : Str → Option Value} {base : Heap} (T : Tx K mg) (ccheck_lengths : Pr_check_lengths P w K mg base) (cis_word : Pr_is_word P w K mg base) : Pr_check_words P w K mg base := by
  refine pr_of (N := nm_check_words) (k := 2) T.d_check_words sc_check_words (fun _ _ _ _ _ _ us hl => match us, hl with | [_, _, _], _ => rfl) len3 fun cdv A outer s H E hr => ⟨_, (pss_cons (ps_expr (pe_cal ccheck_lengths T.g_check_lengths hr (pa_cons (pv 1) (pa_cons (pv 2) pa_nil))))
      (pss_one (ps_if (PW.pt (pw_or (pt_not (pt_val (pe_cal cis_word T.g_is_word hr (pa_cons (pv 0) (pa_cons (pe_callB (kLen K rfl) (by rfl) T.f_len boot_len (pa_cons (pv 1) pa_nil)) (pa_cons (pv 1) pa_nil)))))) (pw_or1 (pt_not (pt_val (pe_cal cis_word T.g_is_word hr (pa_cons (pv 0) (pa_cons (pe_callB (kLen K rfl) (by rfl) T.f_len boot_len (pa_cons (pv 2) pa_nil)) (pa_cons (pv 2) pa_nil))))))))) pss_never pss_nil))), en3 (n := 0) rfl fun B z a b Q hp rt => ?_⟩
  obtain ⟨h1, h2, h3, h4⟩ := hp
  refine q_drop (cd2 (by wtm_at "E") (ev_opts (by wtm_at "E")) (by rw [List.length_map]; exact h1)) ?_
  refine s_no (et_or (et_not (et_B (cd3 (by wtm_at "E") (by wtm_at "E") (by wtm_at "E") ⟨rfl, h2, h3⟩))) (fun _ => et_not (et_B (cd3 (by wtm_at "E") (by wtm_at "E") (by wtm_at "E") ⟨rfl, by omega, h4⟩)))) rfl (s_off rt rfl)
abbrev sp_add_words (K : PySem.W.Frag) : Sp := spD3 (rField K) (rLst rInt) (rLst rInt) (fun _ a b => a.length = b.length ∧ a.length ≤ 1000 ∧ Bits a ∧ Bits b) (rLst rInt) (fun _ a b => xorL a b)
abbrev Pr_add_words (P : Program) (w : World) (K : PySem.W.Frag) (mg : Str → Option Value) (base : Heap) : Prop := Pr P w K mg base (He.ga K "add_words") 4 ["field", "first", "second"] (sp_add_words K) []
def nm_add_words : List Str := ["field", "first", "second", "a", "b"]
theorem sc_add_words : FnScope nm_add_words ["field", "first", "second"] (defScope s_add_words) := ⟨rfl, rfl, rfl, by decide +kernel, rfl, by decide +kernel, by decide +kernel⟩
theorem ok_add_words {P : Program} {w : World} {K : PySem.W.Frag} {mg : Str → Option Value} {base : Heap} (T : Tx K mg) (ccheck_words : Pr_check_words P w K mg base) (cField_plus : Pr_Field_plus P w K mg base) : Pr_add_words P w K mg base := by
  refine pr_of (N := nm_add_words) (k := 3) T.d_add_words sc_add_words (fun _ _ _ _ _ _ us hl => match us, hl with | [_, _, _], _ => rfl) len3 fun cdv A outer s H E hr => ⟨_, (pss_cons (ps_expr (pe_cal ccheck_words T.g_check_words hr (pa_cons (pv 0) (pa_cons (pv 1) (pa_cons (pv 2) pa_nil)))))
      (pss_one (ps_ret (pe_lc (own := [("a", 3), ("b", 4)]) rfl sc_add_words.nd (kPiZip K rfl (by rfl) T.f_zip (pa_cons (pv 1) (pa_cons (pv 2) pa_nil))) (blkOk_by (own := [("a", 3), ("b", 4)]) (N := nm_add_words) (sc := (defScope s_add_words)) (by decide +kernel)) (fun _ _ _ _ _ => (kPgT (n := 2) K rfl rfl (pgs_cons (pg_name (i := 3) sc_add_words.nd rfl (Or.inl rfl)) (pgs_cons (pg_name (i := 4) sc_add_words.nd rfl (Or.inl rfl)) pgs_nil)))) (fun _ _ _ _ _ => pts_nil) (fun _ _ _ _ _ => (pe_meth (pv 0) T.c_Field T.m_Field_plus cField_plus.F (hr.mono (by decide)) cField_plus.b cField_plus.v pass0 (pa_cons (pv 3) (pa_cons (pv 4) pa_nil)))))))), en3 (n := 2) rfl fun B z a b Q hp rt => ?_⟩
  obtain ⟨h1, h2, h3, h4⟩ := hp
  refine q_drop (cd3 (by wtm_at "E") (by wtm_at "E") (by wtm_at "E") ⟨h1, h2, h3, h4⟩) ?_
  refine s_ret (EvL.ev (el_lcZ (by wtm_at "E") (by wtm_at "E") (by decide) (by decide) h1 (by omega) (fun x y hx hy => by wtm_at "E"))) rt rfl
abbrev sp_scale_word (K : PySem.W.Frag) : Sp := spD3 (rField K) rInt (rLst rInt) (fun _ f w => Bit f ∧ w.length ≤ 1000 ∧ Bits w) (rLst rInt) (fun _ f w => w.map fun x => f * x % 2)
abbrev Pr_scale_word (P : Program) (w : World) (K : PySem.W.Frag) (mg : Str → Option Value) (base : Heap) : Prop := Pr P w K mg base (He.ga K "scale_word") 3 ["field", "factor", "word"] (sp_scale_word K) []
def nm_scale_word : List Str := ["field", "factor", "word", "item"]
theorem sc_scale_word : FnScope nm_scale_word ["field", "factor", "word"] (defScope s_scale_word) := ⟨rfl, rfl, rfl, by decide +kernel, rfl, by decide +kernel, by decide +kernel⟩
theorem ok_scale_word {P : Program} {w : World} {K : PySem.W.Frag} {mg : Str → Option Value} {base : Heap} (T : Tx K mg) (cis_word : Pr_is_word P w K mg base) (cField_times : Pr_Field_times P w K mg base) : Pr_scale_word P w K mg base := by
  refine pr_of (N := nm_scale_word) (k := 2) T.d_scale_word sc_scale_word (fun _ _ _ _ _ _ us hl => match us, hl with | [_, _, _], _ => rfl) len3 fun cdv A outer s H E hr => ⟨_, (pss_cons (ps_if (PW.pt (pw_or (pt_not (pt_val (pe_cal cis_word T.g_is_word hr (pa_cons (pv 0) (pa_cons pe_int (pa_cons (pe_lst (pa_cons (pv 1) pa_nil)) pa_nil)))))) (pw_or1 (pt_not (pt_val (pe_cal cis_word T.g_is_word hr (pa_cons (pv 0) (pa_cons (pe_callB (kLen K rfl) (by rfl) T.f_len boot_len (pa_cons (pv 2) pa_nil)) (pa_cons (pv 2) pa_nil))))))))) pss_never pss_nil)
      (pss_one (ps_ret (pe_lc (own := [("item", 3)]) rfl sc_scale_word.nd (kPiL K rfl (pv 2)) (blkOk_by (own := [("item", 3)]) (N := nm_scale_word) (sc := (defScope s_scale_word)) (by decide +kernel)) (fun _ _ _ _ _ => (pg_name (i := 3) sc_scale_word.nd rfl (Or.inl rfl))) (fun _ _ _ _ _ => pts_nil) (fun _ _ _ _ _ => (pe_meth (pv 0) T.c_Field T.m_Field_times cField_times.F (hr.mono (by decide)) cField_times.b cField_times.v pass0 (pa_cons (pv 1) (pa_cons (pv 3) pa_nil)))))))), en3 (n := 1) rfl fun B z f w Q hp rt => ?_⟩
  obtain ⟨h1, h2, h3⟩ := hp
  refine q_no (et_or (et_not (et_B (cd3 (by wtm_at "E") (by wtm_at "E") (by wtm_at "E") ⟨rfl, (by show (1 : Nat) ≤ 1000; decide), Bits.cons h1 Bits.nil⟩))) (fun _ => et_not (et_B (cd3 (by wtm_at "E") (by wtm_at "E") (by wtm_at "E") ⟨rfl, by omega, h3⟩)))) rfl ?_
  refine s_ret (EvL.ev (el_lc (by wtm_at "E") tg_name (by wtm_at "side") (by omega) (fun x hx => md3 (by wtm_at "E") (by wtm_at "E") (by wtm_at "E") (by wtm_at "nl") ⟨h1, h3 x hx⟩))) rt rfl
abbrev sp_check_rows (K : PySem.W.Frag) : Sp := spD3 (rField K) rInt rRows (fun _ n rows => 1 ≤ n ∧ n ≤ 255 ∧ ∃ w : Nat, n = w ∧ Mat w rows) rNon (fun _ _ _ => ())
abbrev Pr_check_rows (P : Program) (w : World) (K : PySem.W.Frag) (mg : Str → Option Value) (base : Heap) : Prop := Pr P w K mg base (He.ga K "check_rows") 3 ["field", "length", "rows"] (sp_check_rows K) []
def nm_check_rows : List Str := ["field", "length", "rows", "row"]
theorem sc_check_rows : FnScope nm_check_rows ["field", "length", "rows"] (defScope s_check_rows) := ⟨rfl, rfl, rfl, by decide +kernel, rfl, by decide +kernel, by decide +kernel⟩
theorem ok_check_rows {P : Program} {w : World} {K : PySem.W.Frag} {mg : Str → Option Value} {base : Heap} (T : Tx K mg) (cis_word : Pr_is_word P w K mg base) : Pr_check_rows P w K mg base := by
  refine pr_of (N := nm_check_rows) (k := 2) T.d_check_rows sc_check_rows (fun _ _ _ _ _ _ us hl => match us, hl with | [_, _, _], _ => rfl) len3 fun cdv A outer s H E hr => ⟨_, (pss_cons (ps_if (pt_not (pt_chain op_le op_le pe_int (pv 1) (pe_gi T.i_MOST_ITEMS))) pss_never pss_nil)
      (pss_one (ps_for PassesOwn.never rfl (kPiL K rfl (pv 2)) (pg_name (i := 3) sc_check_rows.nd rfl (Or.inl rfl)) (pss_one (ps_if (pt_not (pt_val (pe_cal cis_word T.g_is_word hr (pa_cons (pv 0) (pa_cons (pv 1) (pa_cons (pv 3) pa_nil)))))) pss_never pss_nil))))), en3 (n := 1) rfl fun B z n rows Q hp rt => ?_⟩
  obtain ⟨h1, h2, w, rfl, h4⟩ := hp
  refine q_no (by wtm_at "E") (by simp; omega) ?_
  refine s_forL (I := Unit) (fun i _ => True) (fun i _ => [sf (rField K) z, sf rInt (w : Int), sf rRows rows, .any]) tg_name (by wtm_at "E") ⟨(), trivial, by wtm_at "sub"⟩ (fun B1 up i _ y hy _ => ?_) (fun _ _ => s_off rt rfl)
  have hr := h4 y (List.mem_of_getElem? hy)
  refine s_no (et_not (et_B (cd3 (by wtm_at "E") (by wtm_at "E") (by wtm_at "E") ⟨by rw [hr.1], by omega, hr.2⟩))) rfl (wn_lp () trivial (by wtm_at "sub"))
end NW
set_option maxHeartbeats 4000000
namespace NW
open PySem PySem.Spec PyProof.Rows L2 G MX
local macro_rules | `(tactic| wtm_at "nl") => `(tactic| first
  | with_reducible exact nl_Field_digits _ _
  | with_reducible exact nl_Field_element _ _
  | with_reducible exact nl_Field_plus _ _
  | with_reducible exact nl_Field_negative _ _
  | with_reducible exact nl_Field_minus _ _
  | with_reducible exact nl_Field_times _ _
  | with_reducible exact nl_Field_inverse _ _
  | with_reducible exact nl_LinearCode_words _ _
  | with_reducible exact nl_Encoder_advance _ _
  | with_reducible exact nl_Encoder__fed _ _
  | with_reducible exact nl_Encoder_word_for _ _
  | with_reducible exact nl_Encoder_linear _ _
  | with_reducible exact nl_Trellis_moves_from _ _
  | with_reducible exact nl_Trellis_costs_table _ _
  | with_reducible exact nl_Trellis_best_moves _ _
  | with_reducible exact nl_Summary_grown _ _
  | with_reducible exact nl_PathDecoder_restart _ _
  | with_reducible exact nl_PathDecoder_take _ _
  | with_reducible exact nl_PathDecoder_answer _ _)
local macro_rules | `(tactic| wtm_at "side") => `(tactic| first
  | assumption
  | exact rfl
  | exact atI_0 (by omega)
  | exact atI_L (by omega)
  | omega
  | exact trivial
  | exact fun _ h => h
  | exact List.mem_singleton.mpr rfl
  | wtm_at "nl"
  | exact Or.inr ⟨by omega, by omega⟩
  | exact Or.inl ⟨by omega, by omega⟩
  | (show (0 : Int) < _; omega)
  | exact ⟨by omega, by omega⟩
  | exact ⟨rfl, rfl⟩
  | exact MX.Bits.getD (by assumption) _
  | exact ⟨by assumption, by assumption⟩
  | exact ⟨by assumption, by assumption, by assumption⟩
  | exact ⟨by assumption, MX.Bits.getD (by assumption) _⟩
  | decide
  | (show (_ : Nat) ≤ 10000000; (simp only [List.length_cons, List.length_nil, List.length_append]; omega))
  | (show (_ : Nat) < 10000000; (simp only [List.length_cons, List.length_nil, List.length_append]; omega)))
local macro_rules | `(tactic| wtm_at "evop") => `(tactic| first
  | ((with_reducible refine' ev_opI0 _ _) <;> wtm_at "ev2")
  | ((with_reducible refine' ev_opB0 _ _) <;> wtm_at "ev2")
  | ((with_reducible refine' ev_opI _ _ _) <;> wtm_at "ev2")
  | ((with_reducible refine' ev_ixL (m := _) _ _ _) <;> wtm_at "ev2")
  | ((with_reducible show Ev _ _ (tOp (rIxL _) (tVar _) _) _ _); (refine' ev_ixM rfl _ _) <;> wtm_at "ev2")
  | ((with_reducible refine' ev_eqI _ _) <;> wtm_at "ev2")
  | ((with_reducible refine' ev_neI _ _) <;> wtm_at "ev2")
  | ((with_reducible refine' ev_isN (n := _) _) <;> wtm_at "ev2")
  | ((with_reducible refine' ev_notN (n := _) _) <;> wtm_at "ev2")
  | ((with_reducible refine' ev_fst (m := _) (n := _) _) <;> wtm_at "ev2")
  | ((with_reducible refine' ev_snd (m := _) (n := _) _) <;> wtm_at "ev2")
  | ((with_reducible refine' ev_tri1 _) <;> wtm_at "ev2")
  | ((with_reducible refine' ev_tri2 _) <;> wtm_at "ev2")
  | ((with_reducible refine' ev_ixT (m := _) _ _ _) <;> wtm_at "ev2")
  | ((with_reducible refine' ev_ixS (m := _) _ _ _) <;> wtm_at "ev2")
  | ((with_reducible refine' EvL.ev (m := _) _) <;> wtm_at "ev2"))
local macro_rules | `(tactic| wtm_at "evfld") => `(tactic| first
  | ((with_reducible refine' ev_Field_prime _) <;> wtm_at "ev2")
  | ((with_reducible refine' ev_Field_modulus _) <;> wtm_at "ev2")
  | ((with_reducible refine' ev_Field_degree _) <;> wtm_at "ev2")
  | ((with_reducible refine' ev_Field_order _) <;> wtm_at "ev2")
  | ((with_reducible refine' ev_LinearCode_field _) <;> wtm_at "ev2")
  | ((with_reducible refine' ev_LinearCode_length _) <;> wtm_at "ev2")
  | ((with_reducible refine' ev_LinearCode_dimension _) <;> wtm_at "ev2")
  | ((with_reducible refine' ev_LinearCode_rows _) <;> wtm_at "ev2")
  | ((with_reducible refine' ev_LinearCode_pivots _) <;> wtm_at "ev2")
  | ((with_reducible refine' ev_LinearCode_checks _) <;> wtm_at "ev2")
  | ((with_reducible refine' ev_LinearCode_size _) <;> wtm_at "ev2")
  | ((with_reducible refine' ev_Encoder_taps _) <;> wtm_at "ev2")
  | ((with_reducible refine' ev_Encoder_memory _) <;> wtm_at "ev2")
  | ((with_reducible refine' ev_Encoder_outputs _) <;> wtm_at "ev2")
  | ((with_reducible refine' ev_Encoder_state_count _) <;> wtm_at "ev2")
  | ((with_reducible refine' ev_Trellis_steps _) <;> wtm_at "ev2")
  | ((with_reducible refine' ev_Trellis_message_length _) <;> wtm_at "ev2")
  | ((with_reducible refine' ev_Trellis_table _) <;> wtm_at "ev2")
  | ((with_reducible refine' ev_Summary_cost _) <;> wtm_at "ev2")
  | ((with_reducible refine' ev_Summary_count_of _) <;> wtm_at "ev2")
  | ((with_reducible refine' ev_Summary_first _) <;> wtm_at "ev2")
  | ((with_reducible refine' ev_Summary_start_of _) <;> wtm_at "ev2")
  | ((with_reducible refine' ev_PathDecoder_encoder _) <;> wtm_at "ev2")
  | ((with_reducible refine' ev_PathDecoder_table _) <;> wtm_at "ev2")
  | ((with_reducible refine' ev_PathDecoder_steps _) <;> wtm_at "ev2")
  | ((with_reducible refine' ev_PathDecoder_summaries _) <;> wtm_at "ev2"))
local macro_rules | `(tactic| wtm_at "evcb") => `(tactic| first
  | ((with_reducible show Ev _ _ (tCB (rLen _) (tCons (tVar _) tNil)) _ _); exact ev_lenM rfl)
  | ((with_reducible refine' ev_lenL _) <;> wtm_at "ev2")
  | ((with_reducible refine' ev_lenT _) <;> wtm_at "ev2")
  | ((with_reducible refine' ev_lenS _) <;> wtm_at "ev2")
  | ((with_reducible refine' ev_int1 _) <;> wtm_at "ev2")
  | ((with_reducible refine' ev_intB _) <;> wtm_at "ev2")
  | ((with_reducible refine' ev_abs _) <;> wtm_at "ev2")
  | ((with_reducible refine' ev_min2 _ _) <;> wtm_at "ev2")
  | ((with_reducible refine' ev_max2 _ _) <;> wtm_at "ev2")
  | ((with_reducible refine' ev_minLL _ _) <;> wtm_at "ev2")
  | ((with_reducible refine' ev_sum _) <;> wtm_at "ev2")
  | ((with_reducible refine' ev_tupL (m := _) _) <;> wtm_at "ev2")
  | ((with_reducible refine' EvL.ev (m := _) _) <;> wtm_at "ev2"))
local macro_rules | `(tactic| wtm_at "evcall") => `(tactic| first
  | ((with_reducible refine' cd1 _ _) <;> wtm_at "ev2")
  | ((with_reducible refine' cd2 _ _ _) <;> wtm_at "ev2")
  | ((with_reducible refine' cd3 _ _ _ _) <;> wtm_at "ev2")
  | ((with_reducible refine' cd4 _ _ _ _ _) <;> wtm_at "ev2")
  | ((with_reducible refine' cd5 _ _ _ _ _ _) <;> wtm_at "ev2"))
local macro_rules | `(tactic| wtm_at "evmeth") => `(tactic| first
  | ((with_reducible refine' md1 _ _ _) <;> wtm_at "ev2")
  | ((with_reducible refine' md2 _ _ _ _) <;> wtm_at "ev2")
  | ((with_reducible refine' md3 _ _ _ _ _) <;> wtm_at "ev2")
  | ((with_reducible refine' md4 _ _ _ _ _ _) <;> wtm_at "ev2"))
local macro_rules | `(tactic| wtm_at "evx") => `(tactic| first
  | ((with_reducible show Ev _ _ (tVar _) _ _); exact ev_var rfl)
  | ((with_reducible show Ev _ _ (tC _) _ _); first | exact ev_int | exact ev_bl | exact ev_none | exact ev_non)
  | ((with_reducible show Ev _ _ (tOp _ _ _) _ _); wtm_at "evop")
  | ((with_reducible show Ev _ _ (tF _ _ _) _ _); wtm_at "evfld")
  | ((with_reducible show Ev _ _ (tCB _ _) _ _); wtm_at "evcb")
  | ((with_reducible show Ev _ _ (tCall _ _ _ _) _ _); wtm_at "evcall")
  | ((with_reducible show Ev _ _ (tMeth _ _ _ _ _ _ _) _ _); wtm_at "evmeth")
  | ((with_reducible show Ev _ _ (tTup _) _ _); first | ((with_reducible refine' ev_pair (m := _) (n := _) _ _) <;> wtm_at "ev2") | ((with_reducible refine' ev_tri (m := _) (n := _) (k := _) _ _ _) <;> wtm_at "ev2"))
  | ((with_reducible refine' ev_neg _) <;> wtm_at "ev2")
  | ((with_reducible refine' ev_notV _) <;> wtm_at "ev2")
  | ((with_reducible show Ev _ _ (tLc _ _ _ _ _) _ _); (with_reducible refine' EvL.ev (m := _) _) <;> wtm_at "ev2")
  | ((with_reducible refine' EvL.ev (m := _) _) <;> wtm_at "ev2"))
local macro_rules | `(tactic| wtm_at "evt") => `(tactic| first
  | ((with_reducible refine' et_test _) <;> wtm_at "ev2")
  | ((with_reducible refine' et_B _) <;> wtm_at "ev2")
  | ((with_reducible refine' et_not _) <;> wtm_at "ev2"))
local macro_rules | `(tactic| wtm_at "evl") => `(tactic| first
  | exact el_nil
  | ((with_reducible refine' el_rep (m := _) _ _ _ _) <;> wtm_at "ev2")
  | ((with_reducible refine' el_cat (m := _) _ _ _) <;> wtm_at "ev2")
  | ((with_reducible refine' el_slice (m := _) _ _ _) <;> wtm_at "ev2")
  | ((with_reducible show EvL _ _ (tSl _ (tVar _) _ _) _ _); (refine' el_sliceM rfl _ _) <;> wtm_at "ev2")
  | ((with_reducible refine' el_listL (m := _) _) <;> wtm_at "ev2")
  | ((with_reducible refine' el_disp (m := _) _ _) <;> wtm_at "ev2")
  | ((with_reducible refine' el_sortLL _) <;> wtm_at "ev2")
  | ((with_reducible refine' el_lc (m := _) (n := _) _ (tg_name (m := _)) _ _ _) <;> wtm_at "ev2")
  | ((with_reducible refine' el_lcR (n := _) _ _ _ _ _) <;> wtm_at "ev2")
  | ((with_reducible refine' el_lc (m := _) (n := _) _ (tg_pair (m := _) (n := _)) _ _ _) <;> wtm_at "ev2")
  | ((with_reducible refine' el_lc (m := _) (n := _) _ (tg_tri (m := _) (n := _) (o := _)) _ _ _) <;> wtm_at "ev2"))
local macro_rules | `(tactic| wtm_at "ev") => `(tactic| first
  | ((with_reducible show Ev _ _ _ _ _); first | ((with_reducible refine' et_chain _ _ _) <;> wtm_at "ev2") | wtm_at "evx")
  | ((with_reducible show EvT _ _ _ _); wtm_at "evt")
  | ((with_reducible show EvL _ _ _ _ _); wtm_at "evl")
  | exact ea_nil
  | exact eh_nil
  | exact eo_none
  | ((with_reducible refine' ea_cons (m := _) _ _) <;> wtm_at "ev2")
  | ((with_reducible refine' eh_cons (m := _) _ _) <;> wtm_at "ev2")
  | ((with_reducible refine' eo_some _) <;> wtm_at "ev2"))
local macro_rules | `(tactic| wtm_at "no") => `(tactic| ((fail_if_success (with_reducible show Ev _ _ _ _ _)); (fail_if_success (with_reducible show EvL _ _ _ _ _)); (fail_if_success (with_reducible show EvT _ _ _ _)); (fail_if_success (with_reducible show EvA _ _ _ _)); (fail_if_success (with_reducible show EvH _ _ _ _ _)); (fail_if_success (with_reducible show EvO _ _ _ _))))
local macro_rules | `(tactic| wtm_at "ev2") => `(tactic| first | wtm_at "ev" | (wtm_at "no"; first | infer_instance | (intro x hx; wtm_at "ev") | skip))
local macro_rules | `(tactic| wtm_at "E") => `(tactic| ((wtm_at "ev") <;> (try infer_instance)) <;> (try (refine Iff.mp Iff.rfl ?_; wtm_at "side")))
local macro_rules | `(tactic| wtm_at "sub") => `(tactic| repeat' first | exact Sub.nil | apply Sub.any | apply Sub.same | (apply Sub.fz) | (apply Sub.ml))
/-! ### the encoder -/
abbrev sp_is_bit (K : PySem.W.Frag) : Sp := spD1 rInt Bit rBl (fun _ => true)
abbrev Pr_is_bit (P : Program) (w : World) (K : PySem.W.Frag) (mg : Str → Option Value) (base : Heap) : Prop := Pr P w K mg base (He.ga K "is_bit") 1 ["item"] (sp_is_bit K) []
def nm_is_bit : List Str := ["item"]
theorem sc_is_bit : FnScope nm_is_bit ["item"] (defScope s_is_bit) := ⟨rfl, rfl, rfl, by decide +kernel, rfl, by decide +kernel, by decide +kernel⟩
theorem ok_is_bit {P : Program} {w : World} {K : PySem.W.Frag} {mg : Str → Option Value} {base : Heap} (T : Tx K mg)  : Pr_is_bit P w K mg base := by
  refine pr_of (N := nm_is_bit) (k := 0) T.d_is_bit sc_is_bit (fun _ _ _ _ _ _ us hl => match us, hl with | [_], _ => rfl) len1 fun cdv A outer s H E hr => ⟨_, (pss_one (ps_ret (pe_or (pe_cmpR op_eq (pv 0) pe_int (nomark _)) (pe_one (pe_cmpR op_eq (pv 0) pe_int (nomark _)))))), en1 (n := 0) rfl fun B b Q hp rt => ?_⟩
  refine s_ret (y := decide (b = 0) || decide (b = 1)) (ev_orV (by wtm_at "E") (fun _ => by wtm_at "E")) rt ?_
  rcases hp with h | h <;> rw [h] <;> rfl
abbrev sp_has_bits_only (K : PySem.W.Frag) : Sp := spD1 (rLst rInt) Bits rBl (fun _ => true)
abbrev Pr_has_bits_only (P : Program) (w : World) (K : PySem.W.Frag) (mg : Str → Option Value) (base : Heap) : Prop := Pr P w K mg base (He.ga K "has_bits_only") 2 ["items"] (sp_has_bits_only K) []
def nm_has_bits_only : List Str := ["items", "item"]
theorem sc_has_bits_only : FnScope nm_has_bits_only ["items"] (defScope s_has_bits_only) := ⟨rfl, rfl, rfl, by decide +kernel, rfl, by decide +kernel, by decide +kernel⟩
theorem ok_has_bits_only {P : Program} {w : World} {K : PySem.W.Frag} {mg : Str → Option Value} {base : Heap} (T : Tx K mg) (cis_bit : Pr_is_bit P w K mg base) : Pr_has_bits_only P w K mg base := by
  refine pr_of (N := nm_has_bits_only) (k := 1) T.d_has_bits_only sc_has_bits_only (fun _ _ _ _ _ _ us hl => match us, hl with | [_], _ => rfl) len1 fun cdv A outer s H E hr => ⟨_, (pss_cons (ps_for PassesOwn.never rfl (kPiL K rfl (pv 0)) (pg_name (i := 1) sc_has_bits_only.nd rfl (Or.inl rfl)) (pss_one (ps_if (pt_not (pt_val (pe_cal cis_bit T.g_is_bit hr (pa_cons (pv 1) pa_nil)))) (pss_one (ps_ret pe_bl)) pss_nil)))
      (pss_one (ps_ret pe_bl))), en1 (n := 1) rfl fun B l Q hp rt => ?_⟩
  refine q_forL (I := Unit) (fun i _ => True) (fun i _ => [sf (rLst rInt) l, .any]) tg_name (by wtm_at "E") ⟨(), trivial, by wtm_at "sub"⟩ (fun B1 up i _ y hy _ => ?_) (fun _ _ => ?_)
  · have hb : Bit y := hp y (List.mem_of_getElem? hy)
    refine s_no (by wtm_at "E") (by rfl) (wn_lp () trivial (by wtm_at "sub"))
  · refine s_ret (by wtm_at "E") rt rfl
abbrev rTT : Rel (List (List Int)) := rTup (rTup rInt)
abbrev sp_checked_taps (K : PySem.W.Frag) : Sp := spD1 rRows GT rTT (fun t => t)
abbrev Pr_checked_taps (P : Program) (w : World) (K : PySem.W.Frag) (mg : Str → Option Value) (base : Heap) : Prop := Pr P w K mg base (He.ga K "checked_taps") 3 ["taps"] (sp_checked_taps K) []
def nm_checked_taps : List Str := ["taps", "size", "ones", "tap"]
theorem sc_checked_taps : FnScope nm_checked_taps ["taps"] (defScope s_checked_taps) := ⟨rfl, rfl, rfl, by decide +kernel, rfl, by decide +kernel, by decide +kernel⟩
theorem ok_checked_taps {P : Program} {w : World} {K : PySem.W.Frag} {mg : Str → Option Value} {base : Heap} (T : Tx K mg) (chas_bits_only : Pr_has_bits_only P w K mg base) : Pr_checked_taps P w K mg base := by
  refine pr_of (N := nm_checked_taps) (k := 2) T.d_checked_taps sc_checked_taps (fun _ _ _ _ _ _ us hl => match us, hl with | [_], _ => rfl) len1 fun cdv A outer s H E hr => ⟨_, (pss_cons (ps_if (pt_not (pt_chain op_le op_le pe_int (pe_callB (kLen K rfl) (by rfl) T.f_len boot_len (pa_cons (pv 0) pa_nil)) pe_int)) pss_never pss_nil)
      (pss_cons (ps_set (i := 1) sc_checked_taps.nd rfl (Or.inl rfl) (pe_callB (kLen K rfl) (by rfl) T.f_len boot_len (pa_cons (pe_ix (kIxL K rfl) (pv 0) pe_int (fun _ _ => rfl)) pa_nil)))
      (pss_cons (ps_if (pt_not (pt_chain op_le op_le pe_int (pv 1) pe_int)) pss_never pss_nil)
      (pss_cons (ps_set (i := 2) sc_checked_taps.nd rfl (Or.inl rfl) pe_int)
      (pss_cons (ps_for PassesOwn.never rfl (kPiL K rfl (pv 0)) (pg_name (i := 3) sc_checked_taps.nd rfl (Or.inl rfl)) (pss_cons (ps_if (PW.pt (pw_or (pt_cmpR op_ne (pe_callB (kLen K rfl) (by rfl) T.f_len boot_len (pa_cons (pv 3) pa_nil)) (pv 1) (nomark _)) (pw_or1 (pt_not (pt_val (pe_cal chas_bits_only T.g_has_bits_only hr (pa_cons (pv 3) pa_nil))))))) pss_never pss_nil)
      (pss_one (ps_set (i := 2) sc_checked_taps.nd rfl (Or.inl rfl) (pe_op op_add (pv 2) (pe_callB (kSum K rfl rfl) (by rfl) T.f_sum bb_sum (pa_cons (pv 3) pa_nil)))))))
      (pss_cons (ps_if (pt_cmpR op_eq (pv 2) pe_int (nomark _)) pss_never pss_nil)
      (pss_one (ps_ret (pe_callTy (kTup K rfl) (by rfl) T.f_tuple bb_tuple (pa_cons (pe_lc (own := [("tap", 3)]) rfl sc_checked_taps.nd (kPiL K rfl (pv 0)) (blkOk_by (own := [("tap", 3)]) (N := nm_checked_taps) (sc := (defScope s_checked_taps)) (by decide +kernel)) (fun _ _ _ _ _ => (pg_name (i := 3) sc_checked_taps.nd rfl (Or.inl rfl))) (fun _ _ _ _ _ => pts_nil) (fun _ _ _ _ _ => (pe_callTy (kTup K rfl) (by rfl) T.f_tuple bb_tuple (pa_cons (pv 3) pa_nil)))) pa_nil)))))))))), en1 (n := 3) rfl fun B t Q hp rt => ?_⟩
  have g1 := hp.lo
  have g2 := hp.hi
  have g3 := hp.me
  have h0 : (t.getD 0 []).length = mem t + 1 := hp.len _ (getD_mem (by omega))
  refine q_no (by wtm_at "E") (by simp; omega) ?_
  refine q_asg (x := ((mem t + 1 : Nat) : Int)) (Ev.to (ev_lenL (ev_ixL (by wtm_at "E") (by wtm_at "E") (atI_L (k := 0) (by omega)))) (by rw [h0])) ?_
  refine q_no (by wtm_at "E") (by simp; omega) ?_
  refine q_asg (by wtm_at "E") ?_
  refine q_forL (I := Unit) (fun i _ => True) (fun i _ => [sf rRows t, sf rInt ((mem t + 1 : Nat) : Int), sf rInt ((t.take i).map List.sum).sum, .any]) tg_name (by wtm_at "E") ⟨(), trivial, by wtm_at "sub"⟩ (fun B1 up i _ y hy _ => ?_) (fun _ _ => ?_)
  · have hm := List.mem_of_getElem? hy
    have hb : Bits y := hp.bits y hm
    have hl := hp.len y hm
    refine q_no (et_or (by wtm_at "E") (fun _ => by wtm_at "E")) (by simp [hl]) ?_
    refine s_asg (by wtm_at "E") (wn_lp () trivial ?_)
    wtm_at "sub"
    exact (sum_step hy).symm
  · rw [List.take_length]
    have ho := hp.ones
    refine q_no (by wtm_at "E") (by simp; omega) ?_
    refine s_ret (Ev.to (ev_tupL (EvL.ev (el_lc (by wtm_at "E") tg_name (by wtm_at "side") (by omega) (fun x hx => ev_tupL (by wtm_at "E"))))) (List.map_id' t)) rt rfl
abbrev sp_message_size (K : PySem.W.Frag) : Sp := spD2 (rEncoder K) rInt (fun t n => GT t ∧ n % (t.length : Int) = 0 ∧ (mem t : Int) ≤ n / (t.length : Int)) rInt (fun t n => n / (t.length : Int) - mem t)
abbrev Pr_message_size (P : Program) (w : World) (K : PySem.W.Frag) (mg : Str → Option Value) (base : Heap) : Prop := Pr P w K mg base (He.ga K "message_size") 1 ["encoder", "length"] (sp_message_size K) []
def nm_message_size : List Str := ["encoder", "length", "steps"]
theorem sc_message_size : FnScope nm_message_size ["encoder", "length"] (defScope s_message_size) := ⟨rfl, rfl, rfl, by decide +kernel, rfl, by decide +kernel, by decide +kernel⟩
theorem ok_message_size {P : Program} {w : World} {K : PySem.W.Frag} {mg : Str → Option Value} {base : Heap} (T : Tx K mg)  : Pr_message_size P w K mg base := by
  refine pr_of (N := nm_message_size) (k := 0) T.d_message_size sc_message_size (fun _ _ _ _ _ _ us hl => match us, hl with | [_, _], _ => rfl) len2 fun cdv A outer s H E hr => ⟨_, (pss_cons (ps_set (i := 2) sc_message_size.nd rfl (Or.inl rfl) (pe_op op_fdiv (pv 1) (pe_fT (pv 0) T.c_Encoder T.n_Encoder_outputs)))
      (pss_cons (ps_if (PW.pt (pw_or (pt_cmpR op_ne (pe_op op_mod (pv 1) (pe_fT (pv 0) T.c_Encoder T.n_Encoder_outputs)) pe_int (nomark _)) (pw_or1 (pt_cmpR op_lt (pv 2) (pe_fT (pv 0) T.c_Encoder T.n_Encoder_memory) (nomark _))))) (pss_one (ps_ret pe_non)) pss_nil)
      (pss_one (ps_ret (pe_op op_sub (pv 2) (pe_fT (pv 0) T.c_Encoder T.n_Encoder_memory)))))), en2 (n := 1) rfl fun B t n Q hp rt => ?_⟩
  obtain ⟨g, h1, h2⟩ := hp
  have g1 := g.lo
  have g2 := g.hi
  refine q_asg (by wtm_at "E") ?_
  refine q_no (et_or (by wtm_at "E") (fun _ => by wtm_at "E")) (by simp [h1]; omega) ?_
  refine s_ret (by wtm_at "E") rt rfl
abbrev sp_Encoder_advance (K : PySem.W.Frag) : Sp := spD3 (rEncoder K) rInt rInt (fun t s b => GT t ∧ Bit b ∧ 0 ≤ s ∧ s < 2 ^ mem t) (rPair rInt (rLst rInt)) (fun t s b => ((nx (mem t) s.toNat b : Int), ou t s.toNat b))
abbrev Pr_Encoder_advance (P : Program) (w : World) (K : PySem.W.Frag) (mg : Str → Option Value) (base : Heap) : Prop := Pr P w K mg base (He.ma K (aEncoder K) "advance") 2 ["self", "state", "bit"] (sp_Encoder_advance K) []
def nm_Encoder_advance : List Str := ["self", "state", "bit", "digits", "rest", "_", "bits", "tap", "total", "delay"]
theorem sc_Encoder_advance : FnScope nm_Encoder_advance ["self", "state", "bit"] (defScope s_Encoder_advance) := ⟨rfl, rfl, rfl, by decide +kernel, rfl, by decide +kernel, by decide +kernel⟩
theorem ok_Encoder_advance {P : Program} {w : World} {K : PySem.W.Frag} {mg : Str → Option Value} {base : Heap} (T : Tx K mg) (cis_bit : Pr_is_bit P w K mg base) : Pr_Encoder_advance P w K mg base := by
  refine pr_of (N := nm_Encoder_advance) (k := 1) T.d_Encoder_advance sc_Encoder_advance (fun _ _ _ _ _ _ us hl => match us, hl with | [_, _, _], _ => rfl) len3 fun cdv A outer s H E hr => ⟨_, (pss_cons (ps_if (pt_not (pt_chain op_le op_lt pe_int (pv 1) (pe_fT (pv 0) T.c_Encoder T.n_Encoder_state_count))) pss_never pss_nil)
      (pss_cons (ps_if (pt_not (pt_val (pe_cal cis_bit T.g_is_bit hr (pa_cons (pv 2) pa_nil)))) pss_never pss_nil)
      (pss_cons (ps_set (i := 3) sc_Encoder_advance.nd rfl (Or.inl rfl) (pe_lst (pa_cons (pv 2) pa_nil)))
      (pss_cons (ps_set (i := 4) sc_Encoder_advance.nd rfl (Or.inl rfl) (pv 1))
      (pss_cons (ps_for PassesOwn.never rfl (pi_range1 rfl T.f_range (pa_cons (pe_fT (pv 0) T.c_Encoder T.n_Encoder_memory) pa_nil)) (pg_name (i := 5) sc_Encoder_advance.nd rfl (Or.inl rfl)) (pss_cons (ps_expr (pe_bm PySem.F.plainAttrs_list PySem.F.slot_list_append PySem.F.type_list_append mt_append (pv 3) (pa_cons (pe_op op_mod (pv 4) pe_int) pa_nil)))
      (pss_one (ps_set (i := 4) sc_Encoder_advance.nd rfl (Or.inl rfl) (pe_op op_fdiv (pv 4) pe_int)))))
      (pss_cons (ps_set (i := 6) sc_Encoder_advance.nd rfl (Or.inl rfl) (pe_lst pa_nil))
      (pss_cons (ps_for PassesOwn.never rfl (kPiT K rfl (pe_fT (pv 0) T.c_Encoder T.n_Encoder_taps)) (pg_name (i := 7) sc_Encoder_advance.nd rfl (Or.inl rfl)) (pss_cons (ps_set (i := 8) sc_Encoder_advance.nd rfl (Or.inl rfl) pe_int)
      (pss_cons (ps_for PassesOwn.never rfl (pi_range1 rfl T.f_range (pa_cons (pe_callB (kLen K rfl) (by rfl) T.f_len boot_len (pa_cons (pv 7) pa_nil)) pa_nil)) (pg_name (i := 9) sc_Encoder_advance.nd rfl (Or.inl rfl)) (pss_one (ps_set (i := 8) sc_Encoder_advance.nd rfl (Or.inl rfl) (pe_op op_add (pv 8) (pe_op op_mul (pe_ix (kIxT K rfl) (pv 7) (pv 9) (fun _ _ => rfl)) (pe_ix (kIxL K rfl) (pv 3) (pv 9) (fun _ _ => rfl)))))))
      (pss_one (ps_expr (pe_bm PySem.F.plainAttrs_list PySem.F.slot_list_append PySem.F.type_list_append mt_append (pv 6) (pa_cons (pe_op op_mod (pv 8) pe_int) pa_nil)))))))
      (pss_one (ps_ret (pe_tup (pa_cons (pe_op op_mod (pe_op op_add (pv 2) (pe_op op_mul pe_int (pv 1))) (pe_fT (pv 0) T.c_Encoder T.n_Encoder_state_count)) (pa_cons (pv 6) pa_nil)))))))))))), en3 (n := 7) rfl fun B t s b Q hp rt => ?_⟩
  obtain ⟨g, hb, h0, h1⟩ := hp
  obtain ⟨n, rfl⟩ := Int.eq_ofNat_of_zero_le h0
  have g1 := g.lo
  have g2 := g.hi
  have g3 := g.me
  refine q_no (by wtm_at "E") (by simp [h0, h1]) ?_
  refine q_no (by wtm_at "E") (by rfl) ?_
  refine q_asgL (R := rInt) (xs := [b]) (by wtm_at "E") ?_
  refine q_asg (by wtm_at "E") ?_
  refine q_forR1 (I := Unit) (fun i _ => True) (fun i _ => [sf (rEncoder K) t, sf rInt (n : Int), sf rInt b, sm rInt (b :: (List.range i).map (fun k => dig n k)), sf rInt ((n / 2 ^ i : Nat) : Int), .any, .any, .any, .any, .any]) (by wtm_at "E") (by omega) ⟨(), trivial, by wtm_at "sub"; rw [Nat.pow_zero, Nat.div_one]⟩ (fun i _ hi _ => ?_) (fun _ _ => ?_)
  · refine q_app rfl (by wtm_at "E") (by rw [List.length_cons, List.length_map, List.length_range]; omega) ?_
    refine s_asg (by wtm_at "E") (wn_lp () trivial ?_)
    wtm_at "sub"
    · show b :: (_ ++ [_]) = _
      rw [List.range_succ, List.map_append]
      rfl
    · rw [Nat.pow_succ, ← Nat.div_div_eq_div_mul]; rfl
  · rw [Int.toNat_natCast]
    refine wn_fz (i := 3) rfl ?_
    refine q_asgL (R := rInt) (by wtm_at "E") ?_
    refine q_forT (I := Unit) (fun i _ => True) (fun i _ => [sf (rEncoder K) t, sf rInt (n : Int), sf rInt b, sf (rLst rInt) (b :: (List.range (mem t)).map (fun k => dig n k)), .any, .any, sm rInt ((t.take i).map fun p => ou1 p (fed n b)), .any, .any, .any]) tg_name (by wtm_at "E") ⟨(), trivial, by wtm_at "sub"⟩ (fun B1 up i _ y hy _ => ?_) (fun _ _ => ?_)
    · have hm := List.mem_of_getElem? hy
      have hl := g.len y hm
      have hil : i < t.length := (List.getElem?_eq_some_iff.mp hy).1
      refine q_asg (by wtm_at "E") ?_
      refine q_forR1 (I := Unit) (fun d _ => True) (fun d _ => [sf (rEncoder K) t, sf rInt (n : Int), sf rInt b, sf (rLst rInt) (b :: (List.range (mem t)).map (fun k => dig n k)), .any, .any, sm rInt ((t.take i).map fun p => ou1 p (fed n b)), sf (rTup rInt) y, sf rInt (MX.sm d (fun d => y.getD d 0 * dig (fed n b) d)), .any]) (by wtm_at "E") (by omega) ⟨(), trivial, by wtm_at "sub"⟩ (fun d _ hd _ => ?_) (fun _ _ => ?_)
      · have i1 : atI y (d : Int) = some (y.getD d 0) := atI_0 (by omega)
        have i2 : atI (b :: (List.range (mem t)).map (fun k => dig n k)) (d : Int) = some ((b :: (List.range (mem t)).map (fun k => dig n k)).getD d 0) := atI_0 (by rw [List.length_cons, List.length_map, List.length_range]; omega)
        have hyb := ((g.bits y hm).getD d).le
        refine s_asg (by wtm_at "E") (wn_lp () trivial ?_)
        wtm_at "sub"
        rw [digs hb (by omega)]
        rfl
      · refine s_app rfl (by wtm_at "E") (by rw [List.length_map, List.length_take]; omega) (wn_lp () trivial ?_)
        wtm_at "sub"
        exact (map_take_succ hy).symm
    · refine wn_fz (i := 6) rfl ?_
      rw [List.take_length]
      refine s_ret (by wtm_at "E") rt ?_
      show (_, _) = (_, _)
      rw [Int.toNat_natCast, ← mod_nx hb]
      rfl
abbrev sp_step_table (K : PySem.W.Frag) : Sp := spD1 (rEncoder K) GT rTab tabOf
abbrev Pr_step_table (P : Program) (w : World) (K : PySem.W.Frag) (mg : Str → Option Value) (base : Heap) : Prop := Pr P w K mg base (He.ga K "step_table") 3 ["encoder"] (sp_step_table K) []
def nm_step_table : List Str := ["encoder", "state"]
theorem sc_step_table : FnScope nm_step_table ["encoder"] (defScope s_step_table) := ⟨rfl, rfl, rfl, by decide +kernel, rfl, by decide +kernel, by decide +kernel⟩
theorem ok_step_table {P : Program} {w : World} {K : PySem.W.Frag} {mg : Str → Option Value} {base : Heap} (T : Tx K mg) (cEncoder_advance : Pr_Encoder_advance P w K mg base) : Pr_step_table P w K mg base := by
  refine pr_of (N := nm_step_table) (k := 2) T.d_step_table sc_step_table (fun _ _ _ _ _ _ us hl => match us, hl with | [_], _ => rfl) len1 fun cdv A outer s H E hr => ⟨_, (pss_one (ps_ret (pe_lc (own := [("state", 1)]) rfl sc_step_table.nd (pi_range1 rfl T.f_range (pa_cons (pe_fT (pv 0) T.c_Encoder T.n_Encoder_state_count) pa_nil)) (blkOk_by (own := [("state", 1)]) (N := nm_step_table) (sc := (defScope s_step_table)) (by decide +kernel)) (fun _ _ _ _ _ => (pg_name (i := 1) sc_step_table.nd rfl (Or.inl rfl))) (fun _ _ _ _ _ => pts_nil) (fun _ _ _ _ _ => (pe_lst (pa_cons (pe_meth (pv 0) T.c_Encoder T.m_Encoder_advance cEncoder_advance.F (hr.mono (by decide)) cEncoder_advance.b cEncoder_advance.v pass0 (pa_cons (pv 1) (pa_cons pe_int pa_nil))) (pa_cons (pe_meth (pv 0) T.c_Encoder T.m_Encoder_advance cEncoder_advance.F (hr.mono (by decide)) cEncoder_advance.b cEncoder_advance.v pass0 (pa_cons (pv 1) (pa_cons pe_int pa_nil))) pa_nil))))))), en1 (n := 1) rfl fun B t Q hp rt => ?_⟩
  have g3 := hp.me
  have hP : (2 : Int) ^ mem t = ((2 ^ mem t : Nat) : Int) := by rw [Int.natCast_pow]; rfl
  have hQ : 2 ^ mem t ≤ 32 := Nat.pow_le_pow_right (by decide) (show mem t ≤ 5 from g3)
  have q0 : (0 : Int) ≤ 2 ^ mem t := by rw [hP]; exact Int.natCast_nonneg _
  have q1 : (2 : Int) ^ mem t ≤ 32 := by rw [hP]; exact Int.ofNat_le.mpr hQ
  refine s_ret (EvL.ev (EvL.to (el_lcR (f := fun s => [((nx (mem t) s 0 : Int), ou t s 0), ((nx (mem t) s 1 : Int), ou t s 1)]) (by wtm_at "E") (by wtm_at "side") q0 (by omega) (fun s hs => EvL.ev (el_disp (eh_cons (Ev.to (md3 (by wtm_at "E") (by wtm_at "E") (by wtm_at "E") (by wtm_at "nl") ⟨hp, Or.inl rfl, by omega, hs⟩) rfl) (eh_cons (Ev.to (md3 (by wtm_at "E") (by wtm_at "E") (by wtm_at "E") (by wtm_at "nl") ⟨hp, Or.inr rfl, by omega, hs⟩) rfl) eh_nil)) (by show 2 ≤ 10000000; decide)))) (by rw [hP, Int.toNat_natCast]; rfl))) rt rfl
abbrev sp_Encoder___init__ (K : PySem.W.Frag) : Sp := spI' (aEncoder K) (rEncoder K) (fun t => [fz' rRows t]) GT (fun t => t)
abbrev Pr_Encoder___init__ (P : Program) (w : World) (K : PySem.W.Frag) (mg : Str → Option Value) (base : Heap) : Prop := Pr P w K mg base (He.ma K (aEncoder K) "__init__") 4 ["self", "taps"] (sp_Encoder___init__ K) []
def nm_Encoder___init__ : List Str := ["self", "taps"]
theorem sc_Encoder___init__ : FnScope nm_Encoder___init__ ["self", "taps"] (defScope s_Encoder___init__) := ⟨rfl, rfl, rfl, by decide +kernel, rfl, by decide +kernel, by decide +kernel⟩
theorem ok_Encoder___init__ {P : Program} {w : World} {K : PySem.W.Frag} {mg : Str → Option Value} {base : Heap} (T : Tx K mg) (cchecked_taps : Pr_checked_taps P w K mg base) (cint_power : Pr_int_power P w K mg base) : Pr_Encoder___init__ P w K mg base := by
  refine pr_of (N := nm_Encoder___init__) (k := 3) T.d_Encoder___init__ sc_Encoder___init__ (fun _ _ _ _ _ _ us hl => match us, hl with | [_, _], _ => rfl) (lenI fun _ => rfl) fun cdv A outer s H E hr => ⟨_, (pss_cons (ps_fT (pv 0) (pe_cal cchecked_taps T.g_checked_taps hr (pa_cons (pv 1) pa_nil)) T.c_Encoder T.n_Encoder_taps)
      (pss_cons (ps_fT (pv 0) (pe_op op_sub (pe_callB (kLen K rfl) (by rfl) T.f_len boot_len (pa_cons (pe_ix (kIxT K rfl) (pe_fT (pv 0) T.c_Encoder T.n_Encoder_taps) pe_int (fun _ _ => rfl)) pa_nil)) pe_int) T.c_Encoder T.n_Encoder_memory)
      (pss_cons (ps_fT (pv 0) (pe_callB (kLen K rfl) (by rfl) T.f_len boot_len (pa_cons (pe_fT (pv 0) T.c_Encoder T.n_Encoder_taps) pa_nil)) T.c_Encoder T.n_Encoder_outputs)
      (pss_one (ps_fT (pv 0) (pe_cal cint_power T.g_int_power hr (pa_cons pe_int (pa_cons (pe_fT (pv 0) T.c_Encoder T.n_Encoder_memory) pa_nil))) T.c_Encoder T.n_Encoder_state_count))))), enI (N := ["taps"]) (n := 0) (fun _ => rfl) fun B p z Q hp rt => ?_⟩
  have g1 := hp.lo
  have h0 : (z.getD 0 []).length = mem z + 1 := hp.len _ (getD_mem (by omega))
  refine q_fldN [] rfl (by wtm_at "E") rfl (by decide +kernel) (by decide) ?_
  refine q_fldN ["taps"] (x := (mem z : Int)) rfl (Ev.to (ev_opI0 (f := fun i j => i - j) (ev_lenT (ev_ixT (ev_fldM rfl lk_one) ev_int (atI_L (k := 0) (by omega)))) ev_int) (by rw [h0]; show ((mem z + 1 : Nat) : Int) - 1 = mem z; omega)) rfl (by decide +kernel) (by decide) ?_
  refine q_fldN ["taps", "memory"] (x := (z.length : Int)) rfl (ev_lenT (ev_fldM rfl lk_one)) rfl (by decide +kernel) (by decide) ?_
  refine s_fldN ["taps", "memory", "outputs"] (x := (2 ^ mem z : Int)) rfl (Ev.to (cd2 (by wtm_at "E") (ev_fldM rfl ((lk_ne (by decide +kernel)).trans lk_one)) ⟨by decide, by decide, by omega, by have := hp.me; omega⟩) (by rw [Int.toNat_natCast])) rfl (by decide +kernel) (by decide) ?_
  exact s_offI (i := 0) (fs := fsEncoder K z) rfl rt fun F v h => h
abbrev sp_Encoder__fed (K : PySem.W.Frag) : Sp := spD2 (rEncoder K) (rLst rInt) (fun t l => GT t ∧ Bits l ∧ l.length ≤ 20000) (rLst rInt) fm
abbrev Pr_Encoder__fed (P : Program) (w : World) (K : PySem.W.Frag) (mg : Str → Option Value) (base : Heap) : Prop := Pr P w K mg base (He.ma K (aEncoder K) "_fed") 3 ["self", "message"] (sp_Encoder__fed K) []
def nm_Encoder__fed : List Str := ["self", "message"]
theorem sc_Encoder__fed : FnScope nm_Encoder__fed ["self", "message"] (defScope s_Encoder__fed) := ⟨rfl, rfl, rfl, by decide +kernel, rfl, by decide +kernel, by decide +kernel⟩
theorem ok_Encoder__fed {P : Program} {w : World} {K : PySem.W.Frag} {mg : Str → Option Value} {base : Heap} (T : Tx K mg) (chas_bits_only : Pr_has_bits_only P w K mg base) : Pr_Encoder__fed P w K mg base := by
  refine pr_of (N := nm_Encoder__fed) (k := 2) T.d_Encoder__fed sc_Encoder__fed (fun _ _ _ _ _ _ us hl => match us, hl with | [_, _], _ => rfl) len2 fun cdv A outer s H E hr => ⟨_, (pss_cons (ps_if (pt_not (pt_val (pe_cal chas_bits_only T.g_has_bits_only hr (pa_cons (pv 1) pa_nil)))) pss_never pss_nil)
      (pss_one (ps_ret (pe_op op_cat (pe_callTy (kList K rfl) (by rfl) T.f_list boot_list (pa_cons (pv 1) pa_nil)) (pe_op op_rep (pe_lst (pa_cons pe_int pa_nil)) (pe_fT (pv 0) T.c_Encoder T.n_Encoder_memory)))))), en2 (n := 0) rfl fun B t l Q hp rt => ?_⟩
  obtain ⟨g, h1, h2⟩ := hp
  have g3 := g.me
  refine q_no (by wtm_at "E") (by rfl) ?_
  refine s_ret (EvL.ev (EvL.to (el_cat (by wtm_at "E") (by wtm_at "E") (by rw [List.length_replicate, Int.toNat_natCast]; omega)) (by rw [Int.toNat_natCast]; rfl))) rt rfl
abbrev sp_Encoder_word_for (K : PySem.W.Frag) : Sp := spD2 (rEncoder K) (rLst rInt) (fun t l => GT t ∧ Bits l ∧ l.length ≤ 20000) (rLst rInt) word
abbrev Pr_Encoder_word_for (P : Program) (w : World) (K : PySem.W.Frag) (mg : Str → Option Value) (base : Heap) : Prop := Pr P w K mg base (He.ma K (aEncoder K) "word_for") 4 ["self", "message"] (sp_Encoder_word_for K) []
def nm_Encoder_word_for : List Str := ["self", "message", "word", "state", "bit", "after", "bits"]
theorem sc_Encoder_word_for : FnScope nm_Encoder_word_for ["self", "message"] (defScope s_Encoder_word_for) := ⟨rfl, rfl, rfl, by decide +kernel, rfl, by decide +kernel, by decide +kernel⟩
theorem ok_Encoder_word_for {P : Program} {w : World} {K : PySem.W.Frag} {mg : Str → Option Value} {base : Heap} (T : Tx K mg) (cEncoder__fed : Pr_Encoder__fed P w K mg base) (cEncoder_advance : Pr_Encoder_advance P w K mg base) : Pr_Encoder_word_for P w K mg base := by
  refine pr_of (N := nm_Encoder_word_for) (k := 3) T.d_Encoder_word_for sc_Encoder_word_for (fun _ _ _ _ _ _ us hl => match us, hl with | [_, _], _ => rfl) len2 fun cdv A outer s H E hr => ⟨_, (pss_cons (ps_set (i := 2) sc_Encoder_word_for.nd rfl (Or.inl rfl) (pe_lst pa_nil))
      (pss_cons (ps_set (i := 3) sc_Encoder_word_for.nd rfl (Or.inl rfl) pe_int)
      (pss_cons (ps_for PassesOwn.never rfl (kPiL K rfl (pe_meth (pv 0) T.c_Encoder T.m_Encoder__fed cEncoder__fed.F (hr.mono (by decide)) cEncoder__fed.b cEncoder__fed.v pass0 (pa_cons (pv 1) pa_nil))) (pg_name (i := 4) sc_Encoder_word_for.nd rfl (Or.inl rfl)) (pss_cons (ps_asg (pe_meth (pv 0) T.c_Encoder T.m_Encoder_advance cEncoder_advance.F (hr.mono (by decide)) cEncoder_advance.b cEncoder_advance.v pass0 (pa_cons (pv 3) (pa_cons (pv 4) pa_nil))) (kPgT (n := 2) K rfl rfl (pgs_cons (pg_name (i := 5) sc_Encoder_word_for.nd rfl (Or.inl rfl)) (pgs_cons (pg_name (i := 6) sc_Encoder_word_for.nd rfl (Or.inl rfl)) pgs_nil))))
      (pss_cons (ps_set (i := 2) sc_Encoder_word_for.nd rfl (Or.inl rfl) (pe_op op_cat (pv 2) (pv 6)))
      (pss_one (ps_set (i := 3) sc_Encoder_word_for.nd rfl (Or.inl rfl) (pv 5))))))
      (pss_one (ps_ret (pv 2)))))), en2 (n := 5) rfl fun B t l Q hp rt => ?_⟩
  obtain ⟨g, h1, h2⟩ := hp
  have g2 := g.hi
  have g3 := g.me
  have hfb : Bits (fm t l) := h1.append (Bits.zeros _)
  have hfl : (fm t l).length = l.length + mem t := by unfold fm; rw [List.length_append, List.length_replicate]
  refine q_asg (x := ([] : List Int)) (EvL.ev (R := rInt) el_nil) ?_
  refine q_asg (by wtm_at "E") ?_
  refine q_forL (I := Unit) (fun i _ => True) (fun i _ => [sf (rEncoder K) t, sf (rLst rInt) l, sf (rLst rInt) (wd t 0 ((fm t l).take i)), sf rInt (run (mem t) 0 ((fm t l).take i) : Int), .any, .any, .any]) tg_name (by wtm_at "E") ⟨(), trivial, by wtm_at "sub"⟩ (fun B1 up i _ y hy _ => ?_) (fun _ _ => ?_)
  · have hb : Bit y := hfb.get hy
    have hil : i < (fm t l).length := (List.getElem?_eq_some_iff.mp hy).1
    have hs : run (mem t) 0 ((fm t l).take i) < 2 ^ mem t := run_lt (Nat.two_pow_pos _)
    have hst : (fm t l).take (i + 1) = (fm t l).take i ++ [y] := by rw [List.take_add_one, hy]; rfl
    refine q_tgt tg_pair (md3 (by wtm_at "E") (by wtm_at "E") (by wtm_at "E") (by wtm_at "nl") ⟨g, hb, by omega, by exact_mod_cast hs⟩) ?_
    refine q_asg (EvL.ev (el_cat (by wtm_at "E") (by wtm_at "E") ?_)) ?_
    · rw [ou_length, wd_length, List.length_take]
      have := Nat.mul_le_mul g2 (Nat.min_le_left i (fm t l).length)
      omega
    · refine s_asg (by wtm_at "E") (wn_lp () trivial ?_)
      rw [hst]
      wtm_at "sub"
      · rw [wd_append, Int.toNat_natCast]
        show _ = _ ++ (_ ++ [])
        rw [List.append_nil]
      · rw [run_append, Int.toNat_natCast]; rfl
  · rw [List.take_length]
    refine s_ret (by wtm_at "E") rt rfl
end NW
set_option maxHeartbeats 4000000
namespace NW
open PySem PySem.Spec PyProof.Rows L2 G MX
local macro_rules | `(tactic| wtm_at "nl") => `(tactic| first
  | with_reducible exact nl_Field_digits _ _
  | with_reducible exact nl_Field_element _ _
  | with_reducible exact nl_Field_plus _ _
  | with_reducible exact nl_Field_negative _ _
  | with_reducible exact nl_Field_minus _ _
  | with_reducible exact nl_Field_times _ _
  | with_reducible exact nl_Field_inverse _ _
  | with_reducible exact nl_LinearCode_words _ _
  | with_reducible exact nl_Encoder_advance _ _
  | with_reducible exact nl_Encoder__fed _ _
  | with_reducible exact nl_Encoder_word_for _ _
  | with_reducible exact nl_Encoder_linear _ _
  | with_reducible exact nl_Trellis_moves_from _ _
  | with_reducible exact nl_Trellis_costs_table _ _
  | with_reducible exact nl_Trellis_best_moves _ _
  | with_reducible exact nl_Summary_grown _ _
  | with_reducible exact nl_PathDecoder_restart _ _
  | with_reducible exact nl_PathDecoder_take _ _
  | with_reducible exact nl_PathDecoder_answer _ _)
local macro_rules | `(tactic| wtm_at "side") => `(tactic| first
  | assumption
  | exact rfl
  | exact atI_0 (by omega)
  | exact atI_L (by omega)
  | omega
  | exact trivial
  | exact fun _ h => h
  | exact List.mem_singleton.mpr rfl
  | wtm_at "nl"
  | exact Or.inr ⟨by omega, by omega⟩
  | exact Or.inl ⟨by omega, by omega⟩
  | (show (0 : Int) < _; omega)
  | exact ⟨by omega, by omega⟩
  | exact ⟨rfl, rfl⟩
  | exact MX.Bits.getD (by assumption) _
  | exact ⟨by assumption, by assumption⟩
  | exact ⟨by assumption, by assumption, by assumption⟩
  | exact ⟨by assumption, MX.Bits.getD (by assumption) _⟩
  | decide
  | (show (_ : Nat) ≤ 10000000; (simp only [List.length_cons, List.length_nil, List.length_append]; omega))
  | (show (_ : Nat) < 10000000; (simp only [List.length_cons, List.length_nil, List.length_append]; omega)))
local macro_rules | `(tactic| wtm_at "evop") => `(tactic| first
  | ((with_reducible refine' ev_opI0 _ _) <;> wtm_at "ev2")
  | ((with_reducible refine' ev_opB0 _ _) <;> wtm_at "ev2")
  | ((with_reducible refine' ev_opI _ _ _) <;> wtm_at "ev2")
  | ((with_reducible refine' ev_ixL (m := _) _ _ _) <;> wtm_at "ev2")
  | ((with_reducible show Ev _ _ (tOp (rIxL _) (tVar _) _) _ _); (refine' ev_ixM rfl _ _) <;> wtm_at "ev2")
  | ((with_reducible refine' ev_eqI _ _) <;> wtm_at "ev2")
  | ((with_reducible refine' ev_neI _ _) <;> wtm_at "ev2")
  | ((with_reducible refine' ev_isN (n := _) _) <;> wtm_at "ev2")
  | ((with_reducible refine' ev_notN (n := _) _) <;> wtm_at "ev2")
  | ((with_reducible refine' ev_fst (m := _) (n := _) _) <;> wtm_at "ev2")
  | ((with_reducible refine' ev_snd (m := _) (n := _) _) <;> wtm_at "ev2")
  | ((with_reducible refine' ev_tri1 _) <;> wtm_at "ev2")
  | ((with_reducible refine' ev_tri2 _) <;> wtm_at "ev2")
  | ((with_reducible refine' ev_ixT (m := _) _ _ _) <;> wtm_at "ev2")
  | ((with_reducible refine' ev_ixS (m := _) _ _ _) <;> wtm_at "ev2")
  | ((with_reducible refine' EvL.ev (m := _) _) <;> wtm_at "ev2"))
local macro_rules | `(tactic| wtm_at "evfld") => `(tactic| first
  | ((with_reducible refine' ev_Field_prime _) <;> wtm_at "ev2")
  | ((with_reducible refine' ev_Field_modulus _) <;> wtm_at "ev2")
  | ((with_reducible refine' ev_Field_degree _) <;> wtm_at "ev2")
  | ((with_reducible refine' ev_Field_order _) <;> wtm_at "ev2")
  | ((with_reducible refine' ev_LinearCode_field _) <;> wtm_at "ev2")
  | ((with_reducible refine' ev_LinearCode_length _) <;> wtm_at "ev2")
  | ((with_reducible refine' ev_LinearCode_dimension _) <;> wtm_at "ev2")
  | ((with_reducible refine' ev_LinearCode_rows _) <;> wtm_at "ev2")
  | ((with_reducible refine' ev_LinearCode_pivots _) <;> wtm_at "ev2")
  | ((with_reducible refine' ev_LinearCode_checks _) <;> wtm_at "ev2")
  | ((with_reducible refine' ev_LinearCode_size _) <;> wtm_at "ev2")
  | ((with_reducible refine' ev_Encoder_taps _) <;> wtm_at "ev2")
  | ((with_reducible refine' ev_Encoder_memory _) <;> wtm_at "ev2")
  | ((with_reducible refine' ev_Encoder_outputs _) <;> wtm_at "ev2")
  | ((with_reducible refine' ev_Encoder_state_count _) <;> wtm_at "ev2")
  | ((with_reducible refine' ev_Trellis_steps _) <;> wtm_at "ev2")
  | ((with_reducible refine' ev_Trellis_message_length _) <;> wtm_at "ev2")
  | ((with_reducible refine' ev_Trellis_table _) <;> wtm_at "ev2")
  | ((with_reducible refine' ev_Summary_cost _) <;> wtm_at "ev2")
  | ((with_reducible refine' ev_Summary_count_of _) <;> wtm_at "ev2")
  | ((with_reducible refine' ev_Summary_first _) <;> wtm_at "ev2")
  | ((with_reducible refine' ev_Summary_start_of _) <;> wtm_at "ev2")
  | ((with_reducible refine' ev_PathDecoder_encoder _) <;> wtm_at "ev2")
  | ((with_reducible refine' ev_PathDecoder_table _) <;> wtm_at "ev2")
  | ((with_reducible refine' ev_PathDecoder_steps _) <;> wtm_at "ev2")
  | ((with_reducible refine' ev_PathDecoder_summaries _) <;> wtm_at "ev2"))
local macro_rules | `(tactic| wtm_at "evcb") => `(tactic| first
  | ((with_reducible show Ev _ _ (tCB (rLen _) (tCons (tVar _) tNil)) _ _); exact ev_lenM rfl)
  | ((with_reducible refine' ev_lenL _) <;> wtm_at "ev2")
  | ((with_reducible refine' ev_lenT _) <;> wtm_at "ev2")
  | ((with_reducible refine' ev_lenS _) <;> wtm_at "ev2")
  | ((with_reducible refine' ev_int1 _) <;> wtm_at "ev2")
  | ((with_reducible refine' ev_intB _) <;> wtm_at "ev2")
  | ((with_reducible refine' ev_abs _) <;> wtm_at "ev2")
  | ((with_reducible refine' ev_min2 _ _) <;> wtm_at "ev2")
  | ((with_reducible refine' ev_max2 _ _) <;> wtm_at "ev2")
  | ((with_reducible refine' ev_minLL _ _) <;> wtm_at "ev2")
  | ((with_reducible refine' ev_sum _) <;> wtm_at "ev2")
  | ((with_reducible refine' ev_tupL (m := _) _) <;> wtm_at "ev2")
  | ((with_reducible refine' EvL.ev (m := _) _) <;> wtm_at "ev2"))
local macro_rules | `(tactic| wtm_at "evcall") => `(tactic| first
  | ((with_reducible refine' cd1 _ _) <;> wtm_at "ev2")
  | ((with_reducible refine' cd2 _ _ _) <;> wtm_at "ev2")
  | ((with_reducible refine' cd3 _ _ _ _) <;> wtm_at "ev2")
  | ((with_reducible refine' cd4 _ _ _ _ _) <;> wtm_at "ev2")
  | ((with_reducible refine' cd5 _ _ _ _ _ _) <;> wtm_at "ev2"))
local macro_rules | `(tactic| wtm_at "evmeth") => `(tactic| first
  | ((with_reducible refine' md1 _ _ _) <;> wtm_at "ev2")
  | ((with_reducible refine' md2 _ _ _ _) <;> wtm_at "ev2")
  | ((with_reducible refine' md3 _ _ _ _ _) <;> wtm_at "ev2")
  | ((with_reducible refine' md4 _ _ _ _ _ _) <;> wtm_at "ev2"))
local macro_rules | `(tactic| wtm_at "evx") => `(tactic| first
  | ((with_reducible show Ev _ _ (tVar _) _ _); exact ev_var rfl)
  | ((with_reducible show Ev _ _ (tC _) _ _); first | exact ev_int | exact ev_bl | exact ev_none | exact ev_non)
  | ((with_reducible show Ev _ _ (tOp _ _ _) _ _); wtm_at "evop")
  | ((with_reducible show Ev _ _ (tF _ _ _) _ _); wtm_at "evfld")
  | ((with_reducible show Ev _ _ (tCB _ _) _ _); wtm_at "evcb")
  | ((with_reducible show Ev _ _ (tCall _ _ _ _) _ _); wtm_at "evcall")
  | ((with_reducible show Ev _ _ (tMeth _ _ _ _ _ _ _) _ _); wtm_at "evmeth")
  | ((with_reducible show Ev _ _ (tTup _) _ _); first | ((with_reducible refine' ev_pair (m := _) (n := _) _ _) <;> wtm_at "ev2") | ((with_reducible refine' ev_tri (m := _) (n := _) (k := _) _ _ _) <;> wtm_at "ev2"))
  | ((with_reducible refine' ev_neg _) <;> wtm_at "ev2")
  | ((with_reducible refine' ev_notV _) <;> wtm_at "ev2")
  | ((with_reducible show Ev _ _ (tLc _ _ _ _ _) _ _); (with_reducible refine' EvL.ev (m := _) _) <;> wtm_at "ev2")
  | ((with_reducible refine' EvL.ev (m := _) _) <;> wtm_at "ev2"))
local macro_rules | `(tactic| wtm_at "evt") => `(tactic| first
  | ((with_reducible refine' et_test _) <;> wtm_at "ev2")
  | ((with_reducible refine' et_B _) <;> wtm_at "ev2")
  | ((with_reducible refine' et_not _) <;> wtm_at "ev2"))
local macro_rules | `(tactic| wtm_at "evl") => `(tactic| first
  | exact el_nil
  | ((with_reducible refine' el_rep (m := _) _ _ _ _) <;> wtm_at "ev2")
  | ((with_reducible refine' el_cat (m := _) _ _ _) <;> wtm_at "ev2")
  | ((with_reducible refine' el_slice (m := _) _ _ _) <;> wtm_at "ev2")
  | ((with_reducible show EvL _ _ (tSl _ (tVar _) _ _) _ _); (refine' el_sliceM rfl _ _) <;> wtm_at "ev2")
  | ((with_reducible refine' el_listL (m := _) _) <;> wtm_at "ev2")
  | ((with_reducible refine' el_disp (m := _) _ _) <;> wtm_at "ev2")
  | ((with_reducible refine' el_sortLL _) <;> wtm_at "ev2")
  | ((with_reducible refine' el_lc (m := _) (n := _) _ (tg_name (m := _)) _ _ _) <;> wtm_at "ev2")
  | ((with_reducible refine' el_lcR (n := _) _ _ _ _ _) <;> wtm_at "ev2")
  | ((with_reducible refine' el_lc (m := _) (n := _) _ (tg_pair (m := _) (n := _)) _ _ _) <;> wtm_at "ev2")
  | ((with_reducible refine' el_lc (m := _) (n := _) _ (tg_tri (m := _) (n := _) (o := _)) _ _ _) <;> wtm_at "ev2"))
local macro_rules | `(tactic| wtm_at "ev") => `(tactic| first
  | ((with_reducible show Ev _ _ _ _ _); first | ((with_reducible refine' et_chain _ _ _) <;> wtm_at "ev2") | wtm_at "evx")
  | ((with_reducible show EvT _ _ _ _); wtm_at "evt")
  | ((with_reducible show EvL _ _ _ _ _); wtm_at "evl")
  | exact ea_nil
  | exact eh_nil
  | exact eo_none
  | ((with_reducible refine' ea_cons (m := _) _ _) <;> wtm_at "ev2")
  | ((with_reducible refine' eh_cons (m := _) _ _) <;> wtm_at "ev2")
  | ((with_reducible refine' eo_some _) <;> wtm_at "ev2"))
local macro_rules | `(tactic| wtm_at "no") => `(tactic| ((fail_if_success (with_reducible show Ev _ _ _ _ _)); (fail_if_success (with_reducible show EvL _ _ _ _ _)); (fail_if_success (with_reducible show EvT _ _ _ _)); (fail_if_success (with_reducible show EvA _ _ _ _)); (fail_if_success (with_reducible show EvH _ _ _ _ _)); (fail_if_success (with_reducible show EvO _ _ _ _))))
local macro_rules | `(tactic| wtm_at "ev2") => `(tactic| first | wtm_at "ev" | (wtm_at "no"; first | infer_instance | (intro x hx; wtm_at "ev") | skip))
local macro_rules | `(tactic| wtm_at "E") => `(tactic| ((wtm_at "ev") <;> (try infer_instance)) <;> (try (refine Iff.mp Iff.rfl ?_; wtm_at "side")))
local macro_rules | `(tactic| wtm_at "sub") => `(tactic| repeat' first | exact Sub.nil | apply Sub.any | apply Sub.same | (apply Sub.fz) | (apply Sub.ml))
/-! ### linear codes -/
structure LinP (x : Nat × List (List Int)) (y : LC) : Prop where
  len : y.len = (x.1 : Int)
  mat : Mat x.1 y.rows
  le : y.rows.length ≤ x.2.length
  span : ∀ v, SpanC x.1 x.2 v → SpanC x.1 y.rows v
abbrev rLinE (K : PySem.W.Frag) : Rel (Nat × List (List Int)) := rEx (rLinearCode K) LinP
abbrev sp_LinearCode___init__ (K : PySem.W.Frag) : Sp := spI' (aLinearCode K) (rLinE K) (fun (x : Nat × List (List Int)) => [fz' (rField K) (), fz' rInt (x.1 : Int), fz' rRows x.2]) (fun x => 1 ≤ x.1 ∧ x.1 ≤ 255 ∧ x.2.length ≤ 1000 ∧ Mat x.1 x.2) (fun x => x)
abbrev Pr_LinearCode___init__ (P : Program) (w : World) (K : PySem.W.Frag) (mg : Str → Option Value) (base : Heap) : Prop := Pr P w K mg base (He.ma K (aLinearCode K) "__init__") 8 ["self", "field", "length", "rows"] (sp_LinearCode___init__ K) []
def nm_LinearCode___init__ : List Str := ["self", "field", "length", "rows", "reduced", "pivots"]
theorem sc_LinearCode___init__ : FnScope nm_LinearCode___init__ ["self", "field", "length", "rows"] (defScope s_LinearCode___init__) := ⟨rfl, rfl, rfl, by decide +kernel, rfl, by decide +kernel, by decide +kernel⟩
theorem ok_LinearCode___init__ {P : Program} {w : World} {K : PySem.W.Frag} {mg : Str → Option Value} {base : Heap} (T : Tx K mg) (ccheck_rows : Pr_check_rows P w K mg base) (creduce_rows : Pr_reduce_rows P w K mg base) (ckernel : Pr_kernel P w K mg base) (cint_power : Pr_int_power P w K mg base) : Pr_LinearCode___init__ P w K mg base := by
  refine pr_of (N := nm_LinearCode___init__) (k := 7) T.d_LinearCode___init__ sc_LinearCode___init__ (fun _ _ _ _ _ _ us hl => match us, hl with | [_, _, _, _], _ => rfl) (lenI fun _ => rfl) fun cdv A outer s H E hr => ⟨_, (pss_cons (ps_expr (pe_cal ccheck_rows T.g_check_rows hr (pa_cons (pv 1) (pa_cons (pv 2) (pa_cons (pv 3) pa_nil)))))
      (pss_cons (ps_asg (pe_cal creduce_rows T.g_reduce_rows hr (pa_cons (pv 1) (pa_cons (pv 3) pa_nil))) (kPgT (n := 2) K rfl rfl (pgs_cons (pg_name (i := 4) sc_LinearCode___init__.nd rfl (Or.inl rfl)) (pgs_cons (pg_name (i := 5) sc_LinearCode___init__.nd rfl (Or.inl rfl)) pgs_nil))))
      (pss_cons (ps_fT (pv 0) (pv 1) T.c_LinearCode T.n_LinearCode_field)
      (pss_cons (ps_fT (pv 0) (pv 2) T.c_LinearCode T.n_LinearCode_length)
      (pss_cons (ps_fT (pv 0) (pe_callB (kLen K rfl) (by rfl) T.f_len boot_len (pa_cons (pv 4) pa_nil)) T.c_LinearCode T.n_LinearCode_dimension)
      (pss_cons (ps_fT (pv 0) (pv 4) T.c_LinearCode T.n_LinearCode_rows)
      (pss_cons (ps_fT (pv 0) (pv 5) T.c_LinearCode T.n_LinearCode_pivots)
      (pss_cons (ps_fT (pv 0) (pe_cal ckernel T.g_kernel hr (pa_cons (pv 1) (pa_cons (pv 4) (pa_cons (pv 2) pa_nil)))) T.c_LinearCode T.n_LinearCode_checks)
      (pss_one (ps_fT (pv 0) (pe_cal cint_power T.g_int_power hr (pa_cons (pe_fT (pv 1) T.c_Field T.n_Field_order) (pa_cons (pe_callB (kLen K rfl) (by rfl) T.f_len boot_len (pa_cons (pv 4) pa_nil)) pa_nil))) T.c_LinearCode T.n_LinearCode_size)))))))))), enI (N := ["field", "length", "rows", "reduced", "pivots"]) (n := 2) (fun _ => rfl) fun B p z Q hp rt => ?_⟩
  obtain ⟨w, rows⟩ := z
  obtain ⟨h1, h2, h3, h4⟩ := hp
  dsimp only at h1 h2 h3 h4
  refine q_drop (cd3 (by wtm_at "E") (by wtm_at "E") (by wtm_at "E") ⟨by omega, by omega, w, rfl, h4⟩) ?_
  refine q_tgtP tg_pair (cp2 (by wtm_at "E") (by wtm_at "E") ⟨h3, w, h2, h4⟩) (fun y hy => ?_)
  obtain ⟨red, piv⟩ := y
  have hR : RedP w rows red piv := hy w h2 h4
  have e2 : red.length ≤ rows.length := hR.le
  refine q_fldN [] rfl (by wtm_at "E") rfl (by decide +kernel) (by decide) ?_
  refine q_fldN ["field"] rfl (by wtm_at "E") rfl (by decide +kernel) (by decide) ?_
  refine q_fldN ["field", "length"] rfl (x := (red.length : Int)) (by wtm_at "E") rfl (by decide +kernel) (by decide) ?_
  refine q_fldN ["field", "length", "dimension"] rfl (R := rLst (rLst rInt)) (x := red) (by wtm_at "E") rfl (by decide +kernel) (by decide) ?_
  refine q_fldN ["field", "length", "dimension", "_rows"] rfl (R := rAny) (x := ()) (Ev.any (R := rLst rInt) (x := piv) (by wtm_at "E")) rfl (by decide +kernel) (by decide) ?_
  refine q_fldN ["field", "length", "dimension", "_rows", "_pivots"] (R := rAny) (x := ()) rfl ?_ rfl (by decide +kernel) (by decide) ?_
  · intro F H σ e Q' q
    exact cp3 (x1 := ()) (by wtm_at "E") (by wtm_at "E") (by wtm_at "E") ⟨by omega, w, rfl, h2, hR.mat⟩ F H σ e Q' fun F' H' v y a _ _ => q F' H' v a trivial
  refine s_fldN ["field", "length", "dimension", "_rows", "_pivots", "_checks"] rfl (x := (2 ^ red.length : Int)) (Ev.to (cd2 (by wtm_at "E") (by wtm_at "E") ⟨by decide, by decide, by omega, by dsimp only; omega⟩) (by rw [Int.toNat_natCast])) rfl (by decide +kernel) (by decide) ?_
  exact s_offI (i := 0) (fs := fsLinearCode K ⟨(w : Int), red⟩) rfl rt fun F v h => ⟨⟨(w : Int), red⟩, ⟨rfl, hR.mat, hR.le, hR.span⟩, h⟩
abbrev sp_LinearCode_words (K : PySem.W.Frag) : Sp := spD1 (rLinearCode K) (fun x => x.rows.length ≤ 12 ∧ ∃ w : Nat, x.len = (w : Int) ∧ w ≤ 255 ∧ Mat w x.rows) rRows (fun x => allsums x.len.toNat x.rows)
abbrev Pr_LinearCode_words (P : Program) (w : World) (K : PySem.W.Frag) (mg : Str → Option Value) (base : Heap) : Prop := Pr P w K mg base (He.ma K (aLinearCode K) "words") 5 ["self"] (sp_LinearCode_words K) []
def nm_LinearCode_words : List Str := ["self", "words", "row", "longer", "factor", "multiple", "word"]
theorem sc_LinearCode_words : FnScope nm_LinearCode_words ["self"] (defScope s_LinearCode_words) := ⟨rfl, rfl, rfl, by decide +kernel, rfl, by decide +kernel, by decide +kernel⟩
theorem ok_LinearCode_words {P : Program} {w : World} {K : PySem.W.Frag} {mg : Str → Option Value} {base : Heap} (T : Tx K mg) (czero_word : Pr_zero_word P w K mg base) (cscale_word : Pr_scale_word P w K mg base) (cadd_words : Pr_add_words P w K mg base) : Pr_LinearCode_words P w K mg base := by
  refine pr_of (N := nm_LinearCode_words) (k := 4) T.d_LinearCode_words sc_LinearCode_words (fun _ _ _ _ _ _ us hl => match us, hl with | [_], _ => rfl) len1 fun cdv A outer s H E hr => ⟨_, (pss_cons (ps_if (pt_cmpR op_gt (pe_fT (pv 0) T.c_LinearCode T.n_LinearCode_size) (pe_gi T.i_MOST_WORDS) (nomark _)) pss_never pss_nil)
      (pss_cons (ps_set (i := 1) sc_LinearCode_words.nd rfl (Or.inl rfl) (pe_lst (pa_cons (pe_cal czero_word T.g_zero_word hr (pa_cons (pe_fT (pv 0) T.c_LinearCode T.n_LinearCode_length) pa_nil)) pa_nil)))
      (pss_cons (ps_for PassesOwn.never rfl (kPiRev K rfl (by rfl) T.f_reversed (pa_cons (pe_fT (pv 0) T.c_LinearCode T.n_LinearCode_rows) pa_nil)) (pg_name (i := 2) sc_LinearCode_words.nd rfl (Or.inl rfl)) (pss_cons (ps_set (i := 3) sc_LinearCode_words.nd rfl (Or.inl rfl) (pe_lst pa_nil))
      (pss_cons (ps_for PassesOwn.never rfl (pi_range1 rfl T.f_range (pa_cons (pe_fT (pe_fT (pv 0) T.c_LinearCode T.n_LinearCode_field) T.c_Field T.n_Field_order) pa_nil)) (pg_name (i := 4) sc_LinearCode_words.nd rfl (Or.inl rfl)) (pss_cons (ps_set (i := 5) sc_LinearCode_words.nd rfl (Or.inl rfl) (pe_cal cscale_word T.g_scale_word hr (pa_cons (pe_fT (pv 0) T.c_LinearCode T.n_LinearCode_field) (pa_cons (pv 4) (pa_cons (pv 2) pa_nil)))))
      (pss_one (ps_for PassesOwn.never rfl (kPiL K rfl (pv 1)) (pg_name (i := 6) sc_LinearCode_words.nd rfl (Or.inl rfl)) (pss_one (ps_expr (pe_bm PySem.F.plainAttrs_list PySem.F.slot_list_append PySem.F.type_list_append mt_append (pv 3) (pa_cons (pe_cal cadd_words T.g_add_words hr (pa_cons (pe_fT (pv 0) T.c_LinearCode T.n_LinearCode_field) (pa_cons (pv 5) (pa_cons (pv 6) pa_nil)))) pa_nil))))))))
      (pss_one (ps_set (i := 1) sc_LinearCode_words.nd rfl (Or.inl rfl) (pv 3))))))
      (pss_one (ps_ret (pv 1)))))), en1 (n := 6) rfl fun B x Q hp rt => ?_⟩
  obtain ⟨h1, w, h2, h3, h4⟩ := hp
  obtain ⟨len, rows⟩ := x
  dsimp only at h1 h2 h4
  subst h2
  have hsz : (2 : Int) ^ rows.length ≤ 4096 := by
    have : ((2 ^ rows.length : Nat) : Int) ≤ 4096 := Int.ofNat_le.mpr (Nat.pow_le_pow_right (by decide) (show rows.length ≤ 12 from h1))
    rw [Int.natCast_pow] at this
    exact this
  refine q_no (by wtm_at "E") (by simpa using hsz) ?_
  refine q_asg (x := [List.replicate w (0 : Int)]) (EvL.ev (R := rLst rInt) (el_disp (eh_cons (Ev.to (cd1 (ev_LinearCode_length (by wtm_at "E")) ⟨by show (0 : Int) ≤ (w : Int); omega, by show (w : Int) ≤ 100000; omega⟩) (by rw [Int.toNat_natCast])) eh_nil) (by show 1 ≤ 10000000; decide))) ?_
  refine q_forRv (I := Unit) (fun i _ => True) (fun i _ => [sf (rLinearCode K) ⟨(w : Int), rows⟩, sf rRows (allsums w (rows.drop (rows.length - i))), .any, .any, .any, .any, .any]) tg_name (by wtm_at "E") ⟨(), trivial, by wtm_at "sub"; show _ = allsums w (rows.drop (rows.length - 0)); rw [Nat.sub_zero, List.drop_length]; rfl⟩ (fun B1 up i _ y hi hy _ => ?_) (fun _ _ => ?_)
  · have hd := drop_rev hi hy
    have hym : y ∈ rows := List.mem_of_getElem? hy
    have hyr := h4 y hym
    have hall : ∀ v, v ∈ allsums w (rows.drop (rows.length - i)) → v.length = w ∧ Bits v := allsums_ok fun r hr => h4 r (List.mem_of_mem_drop hr)
    have hle := allsums_le w rows (rows.length - i) h1
    generalize hA : allsums w (rows.drop (rows.length - i)) = ws at hall hle
    refine q_asgL (R := rLst rInt) (by wtm_at "E") ?_
    refine q_forR1 (I := Unit) (fun f _ => True) (fun f _ => [sf (rLinearCode K) ⟨(w : Int), rows⟩, sf rRows ws, sf (rLst rInt) y, sm (rLst rInt) ((List.range f).flatMap fun k : Nat => ws.map fun v => xorL (y.map fun x => (k : Int) * x % 2) v), .any, .any, .any]) (by wtm_at "E") (by omega) ⟨(), trivial, by wtm_at "sub"⟩ (fun f _ hf _ => ?_) (fun _ _ => ?_)
    · have hfb : Bit (f : Int) := by unfold Bit; omega
      have hlf : ((List.range f).flatMap fun k : Nat => ws.map fun v => xorL (y.map fun x => (k : Int) * x % 2) v).length ≤ 4096 := by
        have : f = 0 ∨ f = 1 := by omega
        rcases this with e | e
        · subst e; exact Nat.zero_le _
        · subst e
          show (([0] : List Nat).flatMap _).length ≤ _
          rw [List.flatMap_cons, List.flatMap_nil, List.append_nil, List.length_map]; exact hle
      refine q_asg (cd3 (by wtm_at "E") (by wtm_at "E") (by wtm_at "E") ⟨hfb, by omega, hyr.2⟩) ?_
      refine s_forL (I := Unit) (fun i _ => True) (fun i _ => [sf (rLinearCode K) ⟨(w : Int), rows⟩, sf rRows ws, sf (rLst rInt) y, sm (rLst rInt) (((List.range f).flatMap fun k : Nat => ws.map fun v => xorL (y.map fun x => (k : Int) * x % 2) v) ++ (ws.take i).map fun v => xorL (y.map fun x => (f : Int) * x % 2) v), .any, sf (rLst rInt) (y.map fun x => (f : Int) * x % 2), .any]) tg_name (by wtm_at "E") ⟨(), trivial, by wtm_at "sub"; exact (List.append_nil _).symm⟩ (fun B2 up2 j _ v hv _ => ?_) (fun _ _ => ?_)
      · have hvm := hall v (List.mem_of_getElem? hv)
        have hj : j < ws.length := (List.getElem?_eq_some_iff.mp hv).1
        refine s_app rfl (cd3 (by wtm_at "E") (by wtm_at "E") (by wtm_at "E") ⟨by rw [List.length_map, hyr.1, hvm.1], by rw [List.length_map, hyr.1]; omega, map_bits, hvm.2⟩) (by rw [List.length_append, List.length_map, List.length_take]; omega) (wn_lp () trivial ?_)
        wtm_at "sub"
        rw [map_take_succ hv, List.append_assoc]
      · refine wn_lp () trivial ?_
        rw [List.take_length, range_flat_succ]
        wtm_at "sub"
    · refine wn_fz (i := 3) rfl ?_
      refine s_asg (by wtm_at "E") (wn_lp () trivial ?_)
      rw [hd, allsums_cons, hA]
      wtm_at "sub"
  · rw [Nat.sub_self, List.drop_zero]
    refine s_ret (by wtm_at "E") rt ?_
    rfl
abbrev sp_Encoder_linear (K : PySem.W.Frag) : Sp := spD2 (rEncoder K) rInt (fun t n => GT t ∧ 0 ≤ n ∧ 1 ≤ t.length * (n.toNat + mem t) ∧ t.length * (n.toNat + mem t) ≤ 255) (rLinE K) (fun t n => (t.length * (n.toNat + mem t), (List.range n.toNat).map fun k => word t (unitv n.toNat k)))
abbrev Pr_Encoder_linear (P : Program) (w : World) (K : PySem.W.Frag) (mg : Str → Option Value) (base : Heap) : Prop := Pr P w K mg base (He.ma K (aEncoder K) "linear") 10 ["self", "length"] (sp_Encoder_linear K) []
def nm_Encoder_linear : List Str := ["self", "length", "size", "rows", "k"]
theorem sc_Encoder_linear : FnScope nm_Encoder_linear ["self", "length"] (defScope s_Encoder_linear) := ⟨rfl, rfl, rfl, by decide +kernel, rfl, by decide +kernel, by decide +kernel⟩
theorem ok_Encoder_linear {P : Program} {w : World} {K : PySem.W.Frag} {mg : Str → Option Value} {base : Heap} (T : Tx K mg) (cEncoder_word_for : Pr_Encoder_word_for P w K mg base) (cField___init__ : Pr_Field___init__ P w K mg base) (cLinearCode___init__ : Pr_LinearCode___init__ P w K mg base) : Pr_Encoder_linear P w K mg base := by
  refine pr_of (N := nm_Encoder_linear) (k := 9) T.d_Encoder_linear sc_Encoder_linear (fun _ _ _ _ _ _ us hl => match us, hl with | [_, _], _ => rfl) len2 fun cdv A outer s H E hr => ⟨_, (pss_cons (ps_set (i := 2) sc_Encoder_linear.nd rfl (Or.inl rfl) (pe_op op_mul (pe_fT (pv 0) T.c_Encoder T.n_Encoder_outputs) (pe_op op_add (pv 1) (pe_fT (pv 0) T.c_Encoder T.n_Encoder_memory))))
      (pss_cons (ps_if (pt_not (pt_chain op_le op_le pe_int (pv 2) pe_int)) pss_never pss_nil)
      (pss_cons (ps_set (i := 3) sc_Encoder_linear.nd rfl (Or.inl rfl) (pe_lst pa_nil))
      (pss_cons (ps_for PassesOwn.never rfl (pi_range1 rfl T.f_range (pa_cons (pv 1) pa_nil)) (pg_name (i := 4) sc_Encoder_linear.nd rfl (Or.inl rfl)) (pss_one (ps_expr (pe_bm PySem.F.plainAttrs_list PySem.F.slot_list_append PySem.F.type_list_append mt_append (pv 3) (pa_cons (pe_meth (pv 0) T.c_Encoder T.m_Encoder_word_for cEncoder_word_for.F (hr.mono (by decide)) cEncoder_word_for.b cEncoder_word_for.v pass0 (pa_cons (pe_op op_cat (pe_op op_cat (pe_op op_rep (pe_lst (pa_cons pe_int pa_nil)) (pv 4)) (pe_lst (pa_cons pe_int pa_nil))) (pe_op op_rep (pe_lst (pa_cons pe_int pa_nil)) (pe_op op_sub (pe_op op_sub (pv 1) (pv 4)) pe_int))) pa_nil)) pa_nil)))))
      (pss_one (ps_ret (pe_make T.mk_LinearCode cLinearCode___init__.F (hr.mono (by decide)) rfl T.gc_LinearCode cLinearCode___init__.b cLinearCode___init__.v pass0 (pa_cons (pe_make T.mk_Field cField___init__.F (hr.mono (by decide)) rfl T.gc_Field cField___init__.b cField___init__.v pass0 (pa_cons pe_int pa_nil)) (pa_cons (pv 2) (pa_cons (pv 3) pa_nil)))))))))), en2 (n := 3) rfl fun B t n Q hp rt => ?_⟩
  obtain ⟨g, h0, h1, h2⟩ := hp
  obtain ⟨n, rfl⟩ := Int.eq_ofNat_of_zero_le h0
  rw [Int.toNat_natCast] at h1 h2
  have g1 := g.lo
  have g3 := g.me
  have hn : n ≤ 255 := by
    have := Nat.mul_le_mul g1 (Nat.le_refl (n + mem t))
    omega
  refine q_asg (x := ((t.length * (n + mem t) : Nat) : Int)) (Ev.to (by wtm_at "E") (by rw [Int.natCast_mul, Int.natCast_add])) ?_
  generalize hS : t.length * (n + mem t) = S at h1 h2
  refine q_no (by wtm_at "E") (by simp; omega) ?_
  refine q_asgL (R := rLst rInt) (by wtm_at "E") ?_
  refine q_forR1 (I := Unit) (fun i _ => True) (fun i _ => [sf (rEncoder K) t, sf rInt (n : Int), sf rInt (S : Int), sm (rLst rInt) ((List.range i).map fun k => word t (unitv n k)), .any]) (by wtm_at "E") (by omega) ⟨(), trivial, by wtm_at "sub"⟩ (fun i _ hi _ => ?_) (fun _ _ => ?_)
  · have hl := unitv_length (n := n) (k := i) (by omega)
    refine s_app rfl (md2 (x2 := unitv n i) (by wtm_at "E") (Ev.to (EvL.ev (el_cat (EvL.ev (el_cat (by wtm_at "E") (by wtm_at "E") (by rw [List.length_replicate]; show _ + 1 ≤ _; omega))) (by wtm_at "E") (by rw [List.length_append, List.length_replicate, List.length_replicate]; show _ + 1 + _ ≤ _; omega))) ?_) (by wtm_at "nl") ⟨g, unitv_bits n i, by omega⟩) (by rw [List.length_map, List.length_range]; omega) (wn_lp () trivial ?_)
    · unfold unitv
      rw [Int.toNat_natCast, show ((n : Int) - (i : Int) - 1).toNat = n - i - 1 by omega]
    · wtm_at "sub"
      rw [List.range_succ, List.map_append]; rfl
  · refine wn_fz (i := 3) rfl ?_
    rw [Int.toNat_natCast]
    refine s_ret (y := (S, (List.range n).map fun k => word t (unitv n k))) (ev_make (S, (List.range n).map fun k => word t (unitv n k)) (ea_cons (ev_makeD () (ea_cons ev_int ea_nil) rfl (fun F => ?_) trivial) (ea_cons (by wtm_at "E") (ea_cons (by wtm_at "E") ea_nil))) ⟨h1, h2, by rw [List.length_map, List.length_range]; omega, fun r hr => ?_⟩) rt ?_
    · exact ⟨_, [.int 0, .int 1], rfl, T.tF F, AllR.cons rfl (AllR.cons rfl AllR.nil)⟩
    · obtain ⟨k, hk, rfl⟩ := List.mem_map.mp hr
      refine ⟨?_, word_bits _ _⟩
      rw [word_length, unitv_length (List.mem_range.mp hk)]; exact hS
    · dsimp only
      rw [Int.toNat_natCast, hS]
abbrev sp_check_received (K : PySem.W.Frag) : Sp := spD2 (rLinearCode K) rRec0 (fun x r => (r.length : Int) = x.len ∧ OBits r) rNon (fun _ _ => ())
abbrev Pr_check_received (P : Program) (w : World) (K : PySem.W.Frag) (mg : Str → Option Value) (base : Heap) : Prop := Pr P w K mg base (He.ga K "check_received") 2 ["code", "received"] (sp_check_received K) []
def nm_check_received : List Str := ["code", "received"]
theorem sc_check_received : FnScope nm_check_received ["code", "received"] (defScope s_check_received) := ⟨rfl, rfl, rfl, by decide +kernel, rfl, by decide +kernel, by decide +kernel⟩
theorem ok_check_received {P : Program} {w : World} {K : PySem.W.Frag} {mg : Str → Option Value} {base : Heap} (T : Tx K mg) (cis_received : Pr_is_received P w K mg base) : Pr_check_received P w K mg base := by
  refine pr_of (N := nm_check_received) (k := 1) T.d_check_received sc_check_received (fun _ _ _ _ _ _ us hl => match us, hl with | [_, _], _ => rfl) len2 fun cdv A outer s H E hr => ⟨_, (pss_one (ps_if (pt_not (pt_val (pe_cal cis_received T.g_is_received hr (pa_cons (pe_fT (pv 0) T.c_LinearCode T.n_LinearCode_field) (pa_cons (pe_fT (pv 0) T.c_LinearCode T.n_LinearCode_length) (pa_cons (pv 1) pa_nil)))))) pss_never pss_nil)), en2 (n := 0) rfl fun B x r Q hp rt => ?_⟩
  refine s_no (et_not (et_B (cd3 (by wtm_at "E") (by wtm_at "E") (by wtm_at "E") hp))) (by rfl) (s_off rt rfl)
/-- the nearest words of a code -/
def NearR (x : LC) (r : List (Option Int)) (y : Int × List (List Int)) : Prop := NearP (allsums x.len.toNat x.rows) r (x.len + 1) y.1 ∧ y.2 = sortL ((allsums x.len.toNat x.rows).filter fun v => decide (dst v r = y.1))
abbrev sp_nearest (K : PySem.W.Frag) : Sp := spP2 (rLinearCode K) rRec0 (fun x r => x.rows.length ≤ 12 ∧ OBits r ∧ ∃ w : Nat, x.len = (w : Int) ∧ w ≤ 255 ∧ Mat w x.rows ∧ r.length = w) (rPair rInt rRows) NearR
abbrev Pr_nearest (P : Program) (w : World) (K : PySem.W.Frag) (mg : Str → Option Value) (base : Heap) : Prop := Pr P w K mg base (He.ga K "nearest") 6 ["code", "received"] (sp_nearest K) []
def nm_nearest : List Str := ["code", "received", "best", "words", "word", "distance"]
theorem sc_nearest : FnScope nm_nearest ["code", "received"] (defScope s_nearest) := ⟨rfl, rfl, rfl, by decide +kernel, rfl, by decide +kernel, by decide +kernel⟩
theorem ok_nearest {P : Program} {w : World} {K : PySem.W.Frag} {mg : Str → Option Value} {base : Heap} (T : Tx K mg) (ccheck_received : Pr_check_received P w K mg base) (cLinearCode_words : Pr_LinearCode_words P w K mg base) (cerrors_beside : Pr_errors_beside P w K mg base) : Pr_nearest P w K mg base := by
  refine pr_of (N := nm_nearest) (k := 5) T.d_nearest sc_nearest (fun _ _ _ _ _ _ us hl => match us, hl with | [_, _], _ => rfl) len2 fun cdv A outer s H E hr => ⟨_, (pss_cons (ps_expr (pe_cal ccheck_received T.g_check_received hr (pa_cons (pv 0) (pa_cons (pv 1) pa_nil))))
      (pss_cons (ps_set (i := 2) sc_nearest.nd rfl (Or.inl rfl) (pe_op op_add (pe_fT (pv 0) T.c_LinearCode T.n_LinearCode_length) pe_int))
      (pss_cons (ps_set (i := 3) sc_nearest.nd rfl (Or.inl rfl) (pe_lst pa_nil))
      (pss_cons (ps_for PassesOwn.never rfl (kPiL K rfl (pe_meth0 (pv 0) T.c_LinearCode T.m_LinearCode_words cLinearCode_words.F (hr.mono (by decide)) cLinearCode_words.b cLinearCode_words.v pass0)) (pg_name (i := 4) sc_nearest.nd rfl (Or.inl rfl)) (pss_cons (ps_set (i := 5) sc_nearest.nd rfl (Or.inl rfl) (pe_cal cerrors_beside T.g_errors_beside hr (pa_cons (pv 4) (pa_cons (pv 1) pa_nil))))
      (pss_cons (ps_if (pt_cmpR op_lt (pv 5) (pv 2) (nomark _)) (pss_cons (ps_set (i := 2) sc_nearest.nd rfl (Or.inl rfl) (pv 5))
      (pss_one (ps_set (i := 3) sc_nearest.nd rfl (Or.inl rfl) (pe_lst pa_nil)))) pss_nil)
      (pss_one (ps_if (pt_cmpR op_eq (pv 5) (pv 2) (nomark _)) (pss_one (ps_expr (pe_bm PySem.F.plainAttrs_list PySem.F.slot_list_append PySem.F.type_list_append mt_append (pv 3) (pa_cons (pv 4) pa_nil)))) pss_nil)))))
      (pss_one (ps_ret (pe_tup (pa_cons (pv 2) (pa_cons (pe_callB (kSorted K rfl hr.units) (by rfl) T.f_sorted bb_sorted (pa_cons (pv 3) pa_nil)) pa_nil))))))))), en2 (n := 4) rfl fun B x r Q hp rt => ?_⟩
  obtain ⟨h1, h5, w, h2, h3, h4, h6⟩ := hp
  obtain ⟨len, rows⟩ := x
  dsimp only at h1 h2 h4
  subst h2
  have hall := allsums_ok h4
  have hle := allsums_le w rows 0 h1
  rw [List.drop_zero] at hle
  refine q_drop (cd2 (by wtm_at "E") (by wtm_at "E") ⟨by rw [h6], h5⟩) ?_
  refine q_asg (by wtm_at "E") ?_
  refine q_asgL (R := rLst rInt) (by wtm_at "E") ?_
  refine q_forL (I := Int) (xs := allsums w rows) (fun i b => NearP ((allsums w rows).take i) r ((w : Int) + 1) b) (fun i b => [sf (rLinearCode K) ⟨(w : Int), rows⟩, sf rRec0 r, sf rInt b, sm (rLst rInt) (((allsums w rows).take i).filter fun v => decide (dst v r = b)), .any, .any]) tg_name (Ev.to (md1 (by wtm_at "E") (by wtm_at "nl") ⟨h1, w, rfl, h3, h4⟩) (by rw [Int.toNat_natCast])) ⟨(w : Int) + 1, NearP.nil r _, by wtm_at "sub"⟩ (fun B1 up i b v hv hb => ?_) (fun b hb => ?_)
  · have hvm := hall v (List.mem_of_getElem? hv)
    have hil : i < (allsums w rows).length := (List.getElem?_eq_some_iff.mp hv).1
    have ht : (allsums w rows).take (i + 1) = (allsums w rows).take i ++ [v] := by rw [List.take_add_one, hv]; rfl
    have hfl : (((allsums w rows).take i).filter fun v => decide (dst v r = b)).length ≤ 4096 := Nat.le_trans (List.length_filter_le _ _) (by rw [List.length_take]; omega)
    refine q_asg (cd2 (by wtm_at "E") (by wtm_at "E") ⟨by rw [hvm.1, h6], by omega⟩) ?_
    refine q_if (by wtm_at "E") (fun hlt => ?_) (fun hlt => ?_)
    · have hlt : dst v r < b := by simpa using hlt
      refine q_asg (by wtm_at "E") ?_
      refine s_asgL (R := rLst rInt) (by wtm_at "E") ?_
      dsimp only
      refine s_if (by wtm_at "E") (fun _ => ?_) (fun h => by simp at h)
      obtain ⟨k1, k2⟩ := hb.less hlt
      refine s_app rfl (by wtm_at "E") (by show 0 < 10000000; decide) (wn_lp (dst v r) (by rw [ht]; exact k1) ?_)
      rw [ht, k2]
      wtm_at "sub"
    · have hlt : b ≤ dst v r := by simpa using hlt
      refine s_next ?_
      dsimp only
      refine s_if (by wtm_at "E") (fun he => ?_) (fun he => ?_)
      · obtain ⟨k1, k2⟩ := hb.same (by simpa using he)
        refine s_app rfl (by wtm_at "E") (by omega) (wn_lp b (by rw [ht]; exact k1) ?_)
        rw [ht, k2]
        wtm_at "sub"
      · have he : dst v r ≠ b := by simpa using he
        have hgt : b < dst v r := by omega
        obtain ⟨k1, k2⟩ := hb.more hgt
        refine s_next (wn_lp b (by rw [ht]; exact k1) ?_)
        rw [ht, k2]
        wtm_at "sub"
  · rw [List.take_length] at hb
    refine wn_fz (i := 3) rfl ?_
    rw [List.take_length]
    refine s_ret (y := (b, sortL ((allsums w rows).filter fun v => decide (dst v r = b)))) (by wtm_at "E") rt ?_
    show NearP (allsums (w : Int).toNat rows) r ((w : Int) + 1) b ∧ _ = sortL ((allsums (w : Int).toNat rows).filter fun v => decide (dst v r = b))
    rw [Int.toNat_natCast]
    exact ⟨hb, rfl⟩
end NW
set_option maxHeartbeats 4000000
namespace NW
open PySem PySem.Spec PyProof.Rows L2 G MX
local macro_rules | `(tactic| wtm_at "nl") => `(tactic| first
  | with_reducible exact nl_Field_digits _ _
  | with_reducible exact nl_Field_element _ _
  | with_reducible exact nl_Field_plus _ _
  | with_reducible exact nl_Field_negative _ _
  | with_reducible exact nl_Field_minus _ _
  | with_reducible exact nl_Field_times _ _
  | with_reducible exact nl_Field_inverse _ _
  | with_reducible exact nl_LinearCode_words _ _
  | with_reducible exact nl_Encoder_advance _ _
  | with_reducible exact nl_Encoder__fed _ _
  | with_reducible exact nl_Encoder_word_for _ _
  | with_reducible exact nl_Encoder_linear _ _
  | with_reducible exact nl_Trellis_moves_from _ _
  | with_reducible exact nl_Trellis_costs_table _ _
  | with_reducible exact nl_Trellis_best_moves _ _
  | with_reducible exact nl_Summary_grown _ _
  | with_reducible exact nl_PathDecoder_restart _ _
  | with_reducible exact nl_PathDecoder_take _ _
  | with_reducible exact nl_PathDecoder_answer _ _)
local macro_rules | `(tactic| wtm_at "side") => `(tactic| first
  | assumption
  | exact rfl
  | exact atI_0 (by omega)
  | exact atI_L (by omega)
  | omega
  | exact trivial
  | exact fun _ h => h
  | exact List.mem_singleton.mpr rfl
  | wtm_at "nl"
  | exact Or.inr ⟨by omega, by omega⟩
  | exact Or.inl ⟨by omega, by omega⟩
  | (show (0 : Int) < _; omega)
  | exact ⟨by omega, by omega⟩
  | exact ⟨rfl, rfl⟩
  | exact MX.Bits.getD (by assumption) _
  | exact ⟨by assumption, by assumption⟩
  | exact ⟨by assumption, by assumption, by assumption⟩
  | exact ⟨by assumption, MX.Bits.getD (by assumption) _⟩
  | decide
  | (show (_ : Nat) ≤ 10000000; (simp only [List.length_cons, List.length_nil, List.length_append]; omega))
  | (show (_ : Nat) < 10000000; (simp only [List.length_cons, List.length_nil, List.length_append]; omega)))
local macro_rules | `(tactic| wtm_at "evop") => `(tactic| first
  | ((with_reducible refine' ev_opI0 _ _) <;> wtm_at "ev2")
  | ((with_reducible refine' ev_opB0 _ _) <;> wtm_at "ev2")
  | ((with_reducible refine' ev_opI _ _ _) <;> wtm_at "ev2")
  | ((with_reducible refine' ev_ixL (m := _) _ _ _) <;> wtm_at "ev2")
  | ((with_reducible show Ev _ _ (tOp (rIxL _) (tVar _) _) _ _); (refine' ev_ixM rfl _ _) <;> wtm_at "ev2")
  | ((with_reducible refine' ev_eqI _ _) <;> wtm_at "ev2")
  | ((with_reducible refine' ev_neI _ _) <;> wtm_at "ev2")
  | ((with_reducible refine' ev_isN (n := _) _) <;> wtm_at "ev2")
  | ((with_reducible refine' ev_notN (n := _) _) <;> wtm_at "ev2")
  | ((with_reducible refine' ev_fst (m := _) (n := _) _) <;> wtm_at "ev2")
  | ((with_reducible refine' ev_snd (m := _) (n := _) _) <;> wtm_at "ev2")
  | ((with_reducible refine' ev_tri1 _) <;> wtm_at "ev2")
  | ((with_reducible refine' ev_tri2 _) <;> wtm_at "ev2")
  | ((with_reducible refine' ev_ixT (m := _) _ _ _) <;> wtm_at "ev2")
  | ((with_reducible refine' ev_ixS (m := _) _ _ _) <;> wtm_at "ev2")
  | ((with_reducible refine' EvL.ev (m := _) _) <;> wtm_at "ev2"))
local macro_rules | `(tactic| wtm_at "evfld") => `(tactic| first
  | ((with_reducible refine' ev_Field_prime _) <;> wtm_at "ev2")
  | ((with_reducible refine' ev_Field_modulus _) <;> wtm_at "ev2")
  | ((with_reducible refine' ev_Field_degree _) <;> wtm_at "ev2")
  | ((with_reducible refine' ev_Field_order _) <;> wtm_at "ev2")
  | ((with_reducible refine' ev_LinearCode_field _) <;> wtm_at "ev2")
  | ((with_reducible refine' ev_LinearCode_length _) <;> wtm_at "ev2")
  | ((with_reducible refine' ev_LinearCode_dimension _) <;> wtm_at "ev2")
  | ((with_reducible refine' ev_LinearCode_rows _) <;> wtm_at "ev2")
  | ((with_reducible refine' ev_LinearCode_pivots _) <;> wtm_at "ev2")
  | ((with_reducible refine' ev_LinearCode_checks _) <;> wtm_at "ev2")
  | ((with_reducible refine' ev_LinearCode_size _) <;> wtm_at "ev2")
  | ((with_reducible refine' ev_Encoder_taps _) <;> wtm_at "ev2")
  | ((with_reducible refine' ev_Encoder_memory _) <;> wtm_at "ev2")
  | ((with_reducible refine' ev_Encoder_outputs _) <;> wtm_at "ev2")
  | ((with_reducible refine' ev_Encoder_state_count _) <;> wtm_at "ev2")
  | ((with_reducible refine' ev_Trellis_steps _) <;> wtm_at "ev2")
  | ((with_reducible refine' ev_Trellis_message_length _) <;> wtm_at "ev2")
  | ((with_reducible refine' ev_Trellis_table _) <;> wtm_at "ev2")
  | ((with_reducible refine' ev_Summary_cost _) <;> wtm_at "ev2")
  | ((with_reducible refine' ev_Summary_count_of _) <;> wtm_at "ev2")
  | ((with_reducible refine' ev_Summary_first _) <;> wtm_at "ev2")
  | ((with_reducible refine' ev_Summary_start_of _) <;> wtm_at "ev2")
  | ((with_reducible refine' ev_PathDecoder_encoder _) <;> wtm_at "ev2")
  | ((with_reducible refine' ev_PathDecoder_table _) <;> wtm_at "ev2")
  | ((with_reducible refine' ev_PathDecoder_steps _) <;> wtm_at "ev2")
  | ((with_reducible refine' ev_PathDecoder_summaries _) <;> wtm_at "ev2"))
local macro_rules | `(tactic| wtm_at "evcb") => `(tactic| first
  | ((with_reducible show Ev _ _ (tCB (rLen _) (tCons (tVar _) tNil)) _ _); exact ev_lenM rfl)
  | ((with_reducible refine' ev_lenL _) <;> wtm_at "ev2")
  | ((with_reducible refine' ev_lenT _) <;> wtm_at "ev2")
  | ((with_reducible refine' ev_lenS _) <;> wtm_at "ev2")
  | ((with_reducible refine' ev_int1 _) <;> wtm_at "ev2")
  | ((with_reducible refine' ev_intB _) <;> wtm_at "ev2")
  | ((with_reducible refine' ev_abs _) <;> wtm_at "ev2")
  | ((with_reducible refine' ev_min2 _ _) <;> wtm_at "ev2")
  | ((with_reducible refine' ev_max2 _ _) <;> wtm_at "ev2")
  | ((with_reducible refine' ev_minLL _ _) <;> wtm_at "ev2")
  | ((with_reducible refine' ev_sum _) <;> wtm_at "ev2")
  | ((with_reducible refine' ev_tupL (m := _) _) <;> wtm_at "ev2")
  | ((with_reducible refine' EvL.ev (m := _) _) <;> wtm_at "ev2"))
local macro_rules | `(tactic| wtm_at "evcall") => `(tactic| first
  | ((with_reducible refine' cd1 _ _) <;> wtm_at "ev2")
  | ((with_reducible refine' cd2 _ _ _) <;> wtm_at "ev2")
  | ((with_reducible refine' cd3 _ _ _ _) <;> wtm_at "ev2")
  | ((with_reducible refine' cd4 _ _ _ _ _) <;> wtm_at "ev2")
  | ((with_reducible refine' cd5 _ _ _ _ _ _) <;> wtm_at "ev2"))
local macro_rules | `(tactic| wtm_at "evmeth") => `(tactic| first
  | ((with_reducible refine' md1 _ _ _) <;> wtm_at "ev2")
  | ((with_reducible refine' md2 _ _ _ _) <;> wtm_at "ev2")
  | ((with_reducible refine' md3 _ _ _ _ _) <;> wtm_at "ev2")
  | ((with_reducible refine' md4 _ _ _ _ _ _) <;> wtm_at "ev2"))
local macro_rules | `(tactic| wtm_at "evx") => `(tactic| first
  | ((with_reducible show Ev _ _ (tVar _) _ _); exact ev_var rfl)
  | ((with_reducible show Ev _ _ (tC _) _ _); first | exact ev_int | exact ev_bl | exact ev_none | exact ev_non)
  | ((with_reducible show Ev _ _ (tOp _ _ _) _ _); wtm_at "evop")
  | ((with_reducible show Ev _ _ (tF _ _ _) _ _); wtm_at "evfld")
  | ((with_reducible show Ev _ _ (tCB _ _) _ _); wtm_at "evcb")
  | ((with_reducible show Ev _ _ (tCall _ _ _ _) _ _); wtm_at "evcall")
  | ((with_reducible show Ev _ _ (tMeth _ _ _ _ _ _ _) _ _); wtm_at "evmeth")
  | ((with_reducible show Ev _ _ (tTup _) _ _); first | ((with_reducible refine' ev_pair (m := _) (n := _) _ _) <;> wtm_at "ev2") | ((with_reducible refine' ev_tri (m := _) (n := _) (k := _) _ _ _) <;> wtm_at "ev2"))
  | ((with_reducible refine' ev_neg _) <;> wtm_at "ev2")
  | ((with_reducible refine' ev_notV _) <;> wtm_at "ev2")
  | ((with_reducible show Ev _ _ (tLc _ _ _ _ _) _ _); (with_reducible refine' EvL.ev (m := _) _) <;> wtm_at "ev2")
  | ((with_reducible refine' EvL.ev (m := _) _) <;> wtm_at "ev2"))
local macro_rules | `(tactic| wtm_at "evt") => `(tactic| first
  | ((with_reducible refine' et_test _) <;> wtm_at "ev2")
  | ((with_reducible refine' et_B _) <;> wtm_at "ev2")
  | ((with_reducible refine' et_not _) <;> wtm_at "ev2"))
local macro_rules | `(tactic| wtm_at "evl") => `(tactic| first
  | exact el_nil
  | ((with_reducible refine' el_rep (m := _) _ _ _ _) <;> wtm_at "ev2")
  | ((with_reducible refine' el_cat (m := _) _ _ _) <;> wtm_at "ev2")
  | ((with_reducible refine' el_slice (m := _) _ _ _) <;> wtm_at "ev2")
  | ((with_reducible show EvL _ _ (tSl _ (tVar _) _ _) _ _); (refine' el_sliceM rfl _ _) <;> wtm_at "ev2")
  | ((with_reducible refine' el_listL (m := _) _) <;> wtm_at "ev2")
  | ((with_reducible refine' el_disp (m := _) _ _) <;> wtm_at "ev2")
  | ((with_reducible refine' el_sortLL _) <;> wtm_at "ev2")
  | ((with_reducible refine' el_lc (m := _) (n := _) _ (tg_name (m := _)) _ _ _) <;> wtm_at "ev2")
  | ((with_reducible refine' el_lcR (n := _) _ _ _ _ _) <;> wtm_at "ev2")
  | ((with_reducible refine' el_lc (m := _) (n := _) _ (tg_pair (m := _) (n := _)) _ _ _) <;> wtm_at "ev2")
  | ((with_reducible refine' el_lc (m := _) (n := _) _ (tg_tri (m := _) (n := _) (o := _)) _ _ _) <;> wtm_at "ev2"))
local macro_rules | `(tactic| wtm_at "ev") => `(tactic| first
  | ((with_reducible show Ev _ _ _ _ _); first | ((with_reducible refine' et_chain _ _ _) <;> wtm_at "ev2") | wtm_at "evx")
  | ((with_reducible show EvT _ _ _ _); wtm_at "evt")
  | ((with_reducible show EvL _ _ _ _ _); wtm_at "evl")
  | exact ea_nil
  | exact eh_nil
  | exact eo_none
  | ((with_reducible refine' ea_cons (m := _) _ _) <;> wtm_at "ev2")
  | ((with_reducible refine' eh_cons (m := _) _ _) <;> wtm_at "ev2")
  | ((with_reducible refine' eo_some _) <;> wtm_at "ev2"))
local macro_rules | `(tactic| wtm_at "no") => `(tactic| ((fail_if_success (with_reducible show Ev _ _ _ _ _)); (fail_if_success (with_reducible show EvL _ _ _ _ _)); (fail_if_success (with_reducible show EvT _ _ _ _)); (fail_if_success (with_reducible show EvA _ _ _ _)); (fail_if_success (with_reducible show EvH _ _ _ _ _)); (fail_if_success (with_reducible show EvO _ _ _ _))))
local macro_rules | `(tactic| wtm_at "ev2") => `(tactic| first | wtm_at "ev" | (wtm_at "no"; first | infer_instance | (intro x hx; wtm_at "ev") | skip))
local macro_rules | `(tactic| wtm_at "E") => `(tactic| ((wtm_at "ev") <;> (try infer_instance)) <;> (try (refine Iff.mp Iff.rfl ?_; wtm_at "side")))
local macro_rules | `(tactic| wtm_at "sub") => `(tactic| repeat' first | exact Sub.nil | apply Sub.any | apply Sub.same | (apply Sub.fz) | (apply Sub.ml))
/-! ### the trellis -/
abbrev rMv : Rel Mv := rTri rInt rInt rInt
abbrev stp (t : Taps) (r : List (Option Int)) : List Rc := chs t.length r
theorem stp_length {t : Taps} {r : List (Option Int)} (h : WT t r) : (stp t r).length = r.length / t.length ∧ (stp t r).length ≤ 10000 := by
  have e := chs_length t.length r
  exact ⟨e, by rw [e]; exact Nat.le_trans (Nat.div_le_self _ _) h.le⟩
theorem pow_facts {t : Taps} (g : GT t) : ((2 : Int) ^ mem t = ((2 ^ mem t : Nat) : Int)) ∧ 2 ^ mem t ≤ 32 ∧ 1 ≤ 2 ^ mem t := ⟨by rw [Int.natCast_pow]; rfl, Nat.pow_le_pow_right (by decide) (show mem t ≤ 5 from g.me), Nat.two_pow_pos _⟩
abbrev sp_received_steps (K : PySem.W.Frag) : Sp := spD2 (rEncoder K) rRec0 WT (rLst rRec0) stp
abbrev Pr_received_steps (P : Program) (w : World) (K : PySem.W.Frag) (mg : Str → Option Value) (base : Heap) : Prop := Pr P w K mg base (He.ga K "received_steps") 2 ["encoder", "received"] (sp_received_steps K) []
def nm_received_steps : List Str := ["encoder", "received", "item", "width", "k"]
theorem sc_received_steps : FnScope nm_received_steps ["encoder", "received"] (defScope s_received_steps) := ⟨rfl, rfl, rfl, by decide +kernel, rfl, by decide +kernel, by decide +kernel⟩
theorem ok_received_steps {P : Program} {w : World} {K : PySem.W.Frag} {mg : Str → Option Value} {base : Heap} (T : Tx K mg) (cmessage_size : Pr_message_size P w K mg base) (cis_bit : Pr_is_bit P w K mg base) : Pr_received_steps P w K mg base := by
  refine pr_of (N := nm_received_steps) (k := 1) T.d_received_steps sc_received_steps (fun _ _ _ _ _ _ us hl => match us, hl with | [_, _], _ => rfl) len2 fun cdv A outer s H E hr => ⟨_, (pss_cons (ps_if (pt_cmpR op_isN1 (pe_cal cmessage_size T.g_message_size hr (pa_cons (pv 0) (pa_cons (pe_callB (kLen K rfl) (by rfl) T.f_len boot_len (pa_cons (pv 1) pa_nil)) pa_nil))) pe_non (nomark _)) pss_never pss_nil)
      (pss_cons (ps_for PassesOwn.never rfl (kPiL K rfl (pv 1)) (pg_name (i := 2) sc_received_steps.nd rfl (Or.inl rfl)) (pss_one (ps_if (PW.pt (pw_and (pt_cmpR op_notN1 (pv 2) pe_non (nomark _)) (pw_and1 (pt_not (pt_val (pe_cal cis_bit T.g_is_bit hr (pa_cons (pv 2) pa_nil))))))) pss_never pss_nil)))
      (pss_cons (ps_set (i := 3) sc_received_steps.nd rfl (Or.inr rfl) (pe_fT (pv 0) T.c_Encoder T.n_Encoder_outputs))
      (pss_one (ps_ret (pe_lc (own := [("k", 4)]) rfl sc_received_steps.nd (pi_range1 rfl T.f_range (pa_cons (pe_op op_fdiv (pe_callB (kLen K rfl) (by rfl) T.f_len boot_len (pa_cons (pv 1) pa_nil)) (pv 3)) pa_nil)) (blkOk_by (own := [("k", 4)]) (N := nm_received_steps) (sc := (defScope s_received_steps)) (by decide +kernel)) (fun _ _ _ _ _ => (pg_name (i := 4) sc_received_steps.nd rfl (Or.inl rfl))) (fun _ _ _ _ _ => pts_nil) (fun _ _ _ _ _ => (pe_slice (kSl K rfl) (pv 1) (po_some (pe_op op_mul (pv 4) (pv 3))) (po_some (pe_op op_mul (pe_op op_add (pv 4) pe_int) (pv 3))))))))))), en2 (n := 3) rfl fun B t r Q hp rt => ?_⟩
  obtain ⟨g, h1, h2, h3, h4⟩ := hp
  have g1 := g.lo
  have g2 := g.hi
  have h1' : (r.length : Int) % (t.length : Int) = 0 := by rw [← Int.natCast_emod, h1]; rfl
  have h2' : (mem t : Int) ≤ (r.length : Int) / (t.length : Int) := by rw [← Int.natCast_ediv]; exact Int.ofNat_le.mpr h2
  refine q_no (et_test (ev_isN (Ev.some (cd2 (by wtm_at "E") (by wtm_at "E") ⟨g, h1', h2'⟩)))) (by rfl) ?_
  refine q_forL (I := Unit) (fun i _ => True) (fun i _ => [sf (rEncoder K) t, sf rRec0 r, .any, .any, .any]) tg_name (by wtm_at "E") ⟨(), trivial, by wtm_at "sub"⟩ (fun B1 up i _ y hy _ => ?_) (fun _ _ => ?_)
  · cases y with
    | none => refine s_no (et_and (EvT.to (b := (none : Option Int).isSome) (by wtm_at "E") rfl) (fun h => by cases h)) (b := false && false) rfl (wn_lp () trivial (by wtm_at "sub"))
    | some b =>
      have hb : Bit b := h3 b (List.mem_of_getElem? hy)
      refine wn_some (i := 2) rfl ?_
      refine s_no (et_and (et_test (ev_notN (Ev.some (by wtm_at "E")))) (fun h => by wtm_at "E")) (by rfl) (wn_lp () trivial (by wtm_at "sub"))
  · refine q_asg (by wtm_at "E") ?_
    have hdv : (r.length : Int) / (t.length : Int) = ((r.length / t.length : Nat) : Int) := (Int.natCast_ediv _ _).symm
    have hle : r.length / t.length ≤ 10000 := Nat.le_trans (Nat.div_le_self _ _) h4
    refine s_ret (EvL.ev (EvL.to (el_lcR (f := fun k => (r.drop (k * t.length)).take t.length) (by wtm_at "E") (by wtm_at "side") (by rw [hdv]; omega) (by rw [hdv]; omega) (fun k hk => EvL.ev (EvL.to (by wtm_at "E") ?_))) ?_)) rt rfl
    · have e1 : (k : Int) * (t.length : Int) = ((k * t.length : Nat) : Int) := (Int.natCast_mul _ _).symm
      have e2 : ((k : Int) + 1) * (t.length : Int) = ((k * t.length + t.length : Nat) : Int) := by rw [Int.add_mul, e1, Int.one_mul, Int.natCast_add]
      rw [e1, e2, cutA_mid (by omega) (by omega), Int.toNat_natCast]
      congr 1
      omega
    · rw [hdv, Int.toNat_natCast]; rfl
abbrev sp_Trellis___init__ (K : PySem.W.Frag) : Sp := spI' (aTrellis K) (rTrellis K) (fun (x : Tr) => [fz' (rEncoder K) x.1, fz' rRec0 x.2]) (fun x => WT x.1 x.2) (fun x => x)
abbrev Pr_Trellis___init__ (P : Program) (w : World) (K : PySem.W.Frag) (mg : Str → Option Value) (base : Heap) : Prop := Pr P w K mg base (He.ma K (aTrellis K) "__init__") 4 ["self", "encoder", "received"] (sp_Trellis___init__ K) []
def nm_Trellis___init__ : List Str := ["self", "encoder", "received"]
theorem sc_Trellis___init__ : FnScope nm_Trellis___init__ ["self", "encoder", "received"] (defScope s_Trellis___init__) := ⟨rfl, rfl, rfl, by decide +kernel, rfl, by decide +kernel, by decide +kernel⟩
theorem ok_Trellis___init__ {P : Program} {w : World} {K : PySem.W.Frag} {mg : Str → Option Value} {base : Heap} (T : Tx K mg) (creceived_steps : Pr_received_steps P w K mg base) (cstep_table : Pr_step_table P w K mg base) : Pr_Trellis___init__ P w K mg base := by
  refine pr_of (N := nm_Trellis___init__) (k := 3) T.d_Trellis___init__ sc_Trellis___init__ (fun _ _ _ _ _ _ us hl => match us, hl with | [_, _, _], _ => rfl) (lenI fun _ => rfl) fun cdv A outer s H E hr => ⟨_, (pss_cons (ps_fT (pv 0) (pe_cal creceived_steps T.g_received_steps hr (pa_cons (pv 1) (pa_cons (pv 2) pa_nil))) T.c_Trellis T.n_Trellis_steps)
      (pss_cons (ps_fT (pv 0) (pe_op op_sub (pe_callB (kLen K rfl) (by rfl) T.f_len boot_len (pa_cons (pe_fT (pv 0) T.c_Trellis T.n_Trellis_steps) pa_nil)) (pe_fT (pv 1) T.c_Encoder T.n_Encoder_memory)) T.c_Trellis T.n_Trellis_message_length)
      (pss_one (ps_fT (pv 0) (pe_cal cstep_table T.g_step_table hr (pa_cons (pv 1) pa_nil)) T.c_Trellis T.n_Trellis_table)))), enI (N := ["encoder", "received"]) (n := 0) (fun _ => rfl) fun B p z Q hp rt => ?_⟩
  obtain ⟨t, r⟩ := z
  have g : GT t := hp.g
  have hw : WT t r := hp
  have hm := hw.me
  have hl : (stp t r).length = r.length / t.length := (stp_length hw).1
  refine q_fldN [] (x := stp t r) rfl (by wtm_at "E") rfl (by decide +kernel) (by decide) ?_
  refine q_fldN ["steps"] (x := (ml t r : Int)) rfl (Ev.to (ev_opI0 (f := fun i j => i - j) (ev_lenL (ev_fldM rfl lk_one)) (by wtm_at "E")) (by rw [hl]; show ((r.length / t.length : Nat) : Int) - (mem t : Int) = ((r.length / t.length - mem t : Nat) : Int); omega)) rfl (by decide +kernel) (by decide) ?_
  refine s_fldN ["steps", "message_length"] (x := tabOf t) rfl (by wtm_at "E") rfl (by decide +kernel) (by decide) ?_
  exact s_offI (i := 0) (fs := fsTrellis K (t, r)) rfl rt fun F v h => h
abbrev PlP (t : Taps) (r : List (Option Int)) (p s : Int) : Prop := 0 ≤ p ∧ p < ((stp t r).length : Int) ∧ 0 ≤ s ∧ s < ((2 ^ mem t : Nat) : Int)
abbrev sp_Trellis_moves_from (K : PySem.W.Frag) : Sp := spD3 (rTrellis K) rInt rInt (fun x p s => WT x.1 x.2 ∧ PlP x.1 x.2 p s) (rLst rMv) (fun x p s => mv1 x.1 (ml x.1 x.2 - p.toNat) ((stp x.1 x.2).getD p.toNat []) s.toNat)
abbrev Pr_Trellis_moves_from (P : Program) (w : World) (K : PySem.W.Frag) (mg : Str → Option Value) (base : Heap) : Prop := Pr P w K mg base (He.ma K (aTrellis K) "moves_from") 3 ["self", "place", "state"] (sp_Trellis_moves_from K) []
def nm_Trellis_moves_from : List Str := ["self", "place", "state", "found", "bit", "after", "bits"]
theorem sc_Trellis_moves_from : FnScope nm_Trellis_moves_from ["self", "place", "state"] (defScope s_Trellis_moves_from) := ⟨rfl, rfl, rfl, by decide +kernel, rfl, by decide +kernel, by decide +kernel⟩
theorem ok_Trellis_moves_from {P : Program} {w : World} {K : PySem.W.Frag} {mg : Str → Option Value} {base : Heap} (T : Tx K mg) (cerrors_beside : Pr_errors_beside P w K mg base) : Pr_Trellis_moves_from P w K mg base := by
  refine pr_of (N := nm_Trellis_moves_from) (k := 2) T.d_Trellis_moves_from sc_Trellis_moves_from (fun _ _ _ _ _ _ us hl => match us, hl with | [_, _, _], _ => rfl) len3 fun cdv A outer s H E hr => ⟨_, (pss_cons (ps_set (i := 3) sc_Trellis_moves_from.nd rfl (Or.inl rfl) (pe_lst pa_nil))
      (pss_cons (ps_for PassesOwn.never rfl (kPiL K rfl (pe_lst (pa_cons pe_int (pa_cons pe_int pa_nil)))) (pg_name (i := 4) sc_Trellis_moves_from.nd rfl (Or.inl rfl)) (pss_one (ps_if (PW.pt (pw_or (pt_cmpR op_eq (pv 4) pe_int (nomark _)) (pw_or1 (pt_cmpR op_lt (pv 1) (pe_fT (pv 0) T.c_Trellis T.n_Trellis_message_length) (nomark _))))) (pss_cons (ps_asg (pe_ix (kIxL K rfl) (pe_ix (kIxL K rfl) (pe_fT (pv 0) T.c_Trellis T.n_Trellis_table) (pv 2) (fun _ _ => rfl)) (pv 4) (fun _ _ => rfl)) (kPgT (n := 2) K rfl rfl (pgs_cons (pg_name (i := 5) sc_Trellis_moves_from.nd rfl (Or.inl rfl)) (pgs_cons (pg_name (i := 6) sc_Trellis_moves_from.nd rfl (Or.inl rfl)) pgs_nil))))
      (pss_one (ps_expr (pe_bm PySem.F.plainAttrs_list PySem.F.slot_list_append PySem.F.type_list_append mt_append (pv 3) (pa_cons (pe_tup (pa_cons (pv 4) (pa_cons (pe_cal cerrors_beside T.g_errors_beside hr (pa_cons (pv 6) (pa_cons (pe_ix (kIxL K rfl) (pe_fT (pv 0) T.c_Trellis T.n_Trellis_steps) (pv 1) (fun _ _ => rfl)) pa_nil))) (pa_cons (pv 5) pa_nil)))) pa_nil))))) pss_nil)))
      (pss_one (ps_ret (pv 3))))), en3 (n := 4) rfl fun B x p s Q hp rt => ?_⟩
  obtain ⟨t, r⟩ := x
  obtain ⟨hw, h1, h2, h3, h4⟩ := hp
  dsimp only at hw h1 h2 h3 h4 rt
  obtain ⟨p, rfl⟩ := Int.eq_ofNat_of_zero_le h1
  obtain ⟨s, rfl⟩ := Int.eq_ofNat_of_zero_le h3
  rw [Int.toNat_natCast, Int.toNat_natCast] at rt
  have hp : p < (stp t r).length := by omega
  have hs : s < 2 ^ mem t := by omega
  have hc : ((stp t r).getD p []).length = t.length := chs_mem _ (getD_mem hp)
  have g2 := hw.g.hi
  refine q_asgL (R := rMv) (by wtm_at "E") ?_
  refine q_forL (R := rInt) (I := Unit) (xs := [0, 1]) (fun i _ => True) (fun i _ => [sf (rTrellis K) (t, r), sf rInt (p : Int), sf rInt (s : Int), sm rMv ((if 0 < i then [mv t ((stp t r).getD p []) s 0] else []) ++ (if 1 < i ∧ 0 < ml t r - p then [mv t ((stp t r).getD p []) s 1] else [])), .any, .any, .any]) tg_name (by wtm_at "E") ⟨(), trivial, by wtm_at "sub"⟩ (fun B1 up i _ y hy _ => ?_) (fun _ _ => ?_)
  · have hb : Bit y := by
      have := List.mem_of_getElem? hy
      simpa [Bit] using this
    have hat : atI ((tabOf t).getD s []) y = some ((nx (mem t) s y : Int), ou t s y) := by
      rw [tab_at hs]
      rcases hb with q | q <;> rw [q] <;> rfl
    have i1 : atI (stp t r) (p : Int) = some ((stp t r).getD p []) := atI_L hp
    have i2 : atI (tabOf t) (s : Int) = some ((tabOf t).getD s []) := atI_L (by rw [tab_length]; exact hs)
    have hol : (ou t s y).length = ((stp t r).getD p []).length ∧ (ou t s y).length ≤ 100000 := by rw [ou_length, hc]; exact ⟨rfl, by omega⟩
    refine s_if (et_or (by wtm_at "E") (fun _ => by wtm_at "E")) (fun h => ?_) (fun h => ?_)
    · refine q_tgt tg_pair (ev_ixL (ev_ixL (by wtm_at "E") (by wtm_at "E") i2) (by wtm_at "E") hat) ?_
      refine s_app rfl (ev_tri (x := y) (y := dst (ou t s y) ((stp t r).getD p [])) (z := (nx (mem t) s y : Int)) (by wtm_at "E") (cd2 (by wtm_at "E") (by wtm_at "E") hol) (by wtm_at "E")) ?_ (wn_lp () trivial ?_)
      · rw [List.length_append]; split <;> split <;> simp
      · cases i with
        | zero =>
          obtain rfl : 0 = y := Option.some.inj (show some 0 = some y from hy)
          wtm_at "sub"
        | succ i => cases i with
          | zero =>
            obtain rfl : 1 = y := Option.some.inj (show some 1 = some y from hy)
            have hf : 0 < ml t r - p := by
              simp at h
              omega
            wtm_at "sub"
            rw [if_pos (by decide), if_neg (by omega), if_pos (by decide), if_pos ⟨by decide, hf⟩]
            rfl
          | succ i => simp at hy
    · cases i with
      | zero =>
        obtain rfl : 0 = y := Option.some.inj (show some 0 = some y from hy)
        simp at h
      | succ i => cases i with
        | zero =>
          obtain rfl : 1 = y := Option.some.inj (show some 1 = some y from hy)
          have hf : ¬ 0 < ml t r - p := by
            simp at h
            omega
          refine s_next (wn_lp () trivial ?_)
          wtm_at "sub"
          rw [if_pos (by decide), if_neg (by omega), if_pos (by decide), if_neg (fun q => hf q.2)]
        | succ i => simp at hy
  · refine wn_fz (i := 3) rfl ?_
    refine s_ret (by wtm_at "E") rt ?_
    show (if 0 < 2 then _ else _) ++ (if 1 < 2 ∧ _ then _ else _) = mv1 _ _ _ _
    unfold mv1
    rw [if_pos (by decide)]
    by_cases hf : 0 < ml t r - p
    · rw [if_pos ⟨by decide, hf⟩, if_pos hf]; rfl
    · rw [if_neg (fun q => hf q.2), if_neg hf]; rfl
abbrev ctb (t : Taps) (r : List (Option Int)) : List (List Int) := ctab t (stp t r) (ml t r)
abbrev sp_Trellis_costs_table (K : PySem.W.Frag) : Sp := spD1 (rTrellis K) (fun x => WT x.1 x.2) rRows (fun x => ctb x.1 x.2)
abbrev Pr_Trellis_costs_table (P : Program) (w : World) (K : PySem.W.Frag) (mg : Str → Option Value) (base : Heap) : Prop := Pr P w K mg base (He.ma K (aTrellis K) "costs_table") 4 ["self"] (sp_Trellis_costs_table K) []
def nm_Trellis_costs_table : List Str := ["self", "row", "costs", "place", "later", "state", "bit", "cost", "after"]
theorem sc_Trellis_costs_table : FnScope nm_Trellis_costs_table ["self"] (defScope s_Trellis_costs_table) := ⟨rfl, rfl, rfl, by decide +kernel, rfl, by decide +kernel, by decide +kernel⟩
theorem ok_Trellis_costs_table {P : Program} {w : World} {K : PySem.W.Frag} {mg : Str → Option Value} {base : Heap} (T : Tx K mg) (cTrellis_moves_from : Pr_Trellis_moves_from P w K mg base) : Pr_Trellis_costs_table P w K mg base := by
  refine pr_of (N := nm_Trellis_costs_table) (k := 3) T.d_Trellis_costs_table sc_Trellis_costs_table (fun _ _ _ _ _ _ us hl => match us, hl with | [_], _ => rfl) len1 fun cdv A outer s H E hr => ⟨_, (pss_cons (ps_set (i := 2) sc_Trellis_costs_table.nd rfl (Or.inl rfl) (pe_lst (pa_cons (pe_lc (own := [("row", 1)]) rfl sc_Trellis_costs_table.nd (kPiL K rfl (pe_fT (pv 0) T.c_Trellis T.n_Trellis_table)) (blkOk_by (own := [("row", 1)]) (N := nm_Trellis_costs_table) (sc := (defScope s_Trellis_costs_table)) (by decide +kernel)) (fun _ _ _ _ _ => (pg_name (i := 1) sc_Trellis_costs_table.nd rfl (Or.inl rfl))) (fun _ _ _ _ _ => pts_nil) (fun _ _ _ _ _ => pe_int)) pa_nil)))
      (pss_cons (ps_for PassesOwn.never rfl (pi_revR (by rfl) T.f_reversed (prg_1 (by rfl) T.f_range (pe_callB (kLen K rfl) (by rfl) T.f_len boot_len (pa_cons (pe_fT (pv 0) T.c_Trellis T.n_Trellis_steps) pa_nil)))) (pg_name (i := 3) sc_Trellis_costs_table.nd rfl (Or.inl rfl)) (pss_cons (ps_set (i := 4) sc_Trellis_costs_table.nd rfl (Or.inr rfl) (pe_ix (kIxL K rfl) (pv 2) (pe_un un_neg pe_int) (fun _ _ => rfl)))
      (pss_cons (ps_set (i := 1) sc_Trellis_costs_table.nd rfl (Or.inl rfl) (pe_lst pa_nil))
      (pss_cons (ps_for PassesOwn.never rfl (pi_range1 rfl T.f_range (pa_cons (pe_callB (kLen K rfl) (by rfl) T.f_len boot_len (pa_cons (pe_fT (pv 0) T.c_Trellis T.n_Trellis_table) pa_nil)) pa_nil)) (pg_name (i := 5) sc_Trellis_costs_table.nd rfl (Or.inl rfl)) (pss_one (ps_expr (pe_bm PySem.F.plainAttrs_list PySem.F.slot_list_append PySem.F.type_list_append mt_append (pv 1) (pa_cons (pe_callB (kMin K rfl rfl) (by rfl) T.f_min bb_min (pa_cons (pe_lc (own := [("bit", 6), ("cost", 7), ("after", 8)]) rfl sc_Trellis_costs_table.nd (kPiL K rfl (pe_meth (pv 0) T.c_Trellis T.m_Trellis_moves_from cTrellis_moves_from.F (hr.mono (by decide)) cTrellis_moves_from.b cTrellis_moves_from.v pass0 (pa_cons (pv 3) (pa_cons (pv 5) pa_nil)))) (blkOk_by (own := [("bit", 6), ("cost", 7), ("after", 8)]) (N := nm_Trellis_costs_table) (sc := (defScope s_Trellis_costs_table)) (by decide +kernel)) (fun _ _ _ _ _ => (kPgT (n := 3) K rfl rfl (pgs_cons (pg_name (i := 6) sc_Trellis_costs_table.nd rfl (Or.inl rfl)) (pgs_cons (pg_name (i := 7) sc_Trellis_costs_table.nd rfl (Or.inl rfl)) (pgs_cons (pg_name (i := 8) sc_Trellis_costs_table.nd rfl (Or.inl rfl)) pgs_nil))))) (fun _ _ _ _ _ => pts_nil) (fun _ _ _ _ _ => (pe_op op_add (pv 7) (pe_ix (kIxL K rfl) (pv 4) (pv 8) (fun _ _ => rfl))))) pa_nil)) pa_nil)))))
      (pss_one (ps_expr (pe_bm PySem.F.plainAttrs_list PySem.F.slot_list_append PySem.F.type_list_append mt_append (pv 2) (pa_cons (pv 1) pa_nil))))))))
      (pss_cons (ps_expr (pe_bm0 PySem.F.plainAttrs_list PySem.F.slot_list_reverse PySem.F.type_list_reverse mt_reverse (pv 2)))
      (pss_one (ps_ret (pv 2)))))), en1 (n := 8) rfl fun B x Q hp rt => ?_⟩
  obtain ⟨t, r⟩ := x
  have hw : WT t r := hp
  dsimp only at rt
  obtain ⟨hl1, hl2⟩ := stp_length hw
  obtain ⟨p1, p2, p3⟩ := pow_facts hw.g
  have htl := tab_length t
  generalize hS : stp t r = st at hl1 hl2
  generalize hN : ml t r = n
  refine q_asgL (R := rLst rInt) (xs := [crow t st n (st.length - 0)]) (el_disp (eh_cons (EvL.ev (EvL.to (el_lc (R := rLst (rPair rInt (rLst rInt))) (by wtm_at "E") tg_name (by wtm_at "side") (by rw [htl]; omega) (fun x hx => ev_int)) (map_const_row t st n))) eh_nil) (by show 1 ≤ 10000000; decide)) ?_
  refine q_forRR (I := Unit) (fun i _ => True) (fun i _ => [sf (rTrellis K) (t, r), .any, sm (rLst rInt) ((List.range (i + 1)).map fun k => crow t st n (st.length - k)), .any, .any, .any, .any, .any, .any]) (n := (st.length : Int)) (Ev.to (by wtm_at "E") (by rw [← hS])) ⟨by omega, by omega⟩ ⟨(), trivial, by wtm_at "sub"⟩ (fun i _ hi _ => ?_) (fun _ _ => ?_)
  · obtain ⟨p, hp⟩ : ∃ p : Nat, (st.length : Int) - 1 - (i : Int) = (p : Int) := ⟨st.length - 1 - i, by omega⟩
    rw [hp]
    have hpl : p < st.length := by omega
    have hlen : ((List.range (i + 1)).map fun k => crow t st n (st.length - k)).length = i + 1 := by rw [List.length_map, List.length_range]
    have hlast : atI ((List.range (i + 1)).map fun k => crow t st n (st.length - k)) (-1) = some (crow t st n (p + 1)) := by
      rw [List.range_succ, List.map_append, show st.length - i = p + 1 by omega |> fun e => (by rw [← e] : crow t st n (p + 1) = crow t st n (st.length - i))]
      exact atI_last _ _
    refine q_asg (ev_ixM rfl (by wtm_at "E") hlast) ?_
    refine q_asgL (R := rInt) (by wtm_at "E") ?_
    refine q_forR1 (I := Unit) (fun s _ => True) (fun s _ => [sf (rTrellis K) (t, r), sm rInt ((List.range s).map fun s => ctg t (n - p) (st.drop p) s), sm (rLst rInt) ((List.range (i + 1)).map fun k => crow t st n (st.length - k)), sf rInt (p : Int), sf (rLst rInt) (crow t st n (p + 1)), .any, .any, .any, .any]) (by wtm_at "E") (by rw [htl]; omega) ⟨(), trivial, by wtm_at "sub"⟩ (fun s _ hs _ => ?_) (fun _ _ => ?_)
    · have hs2 : s < 2 ^ mem t := by rw [htl] at hs; omega
      have hpl2 : PlP t r (p : Int) (s : Int) := ⟨by omega, by rw [hS]; omega, by omega, by omega⟩
      have hcl := crow_length t st n (p + 1)
      have hdr : st.drop p = st.getD p [] :: st.drop (p + 1) := drop_at [] hpl
      have hval : ∀ m, m ∈ mv1 t (n - p) (st.getD p []) s → m.2.1 + (crow t st n (p + 1)).getD m.2.2.toNat 0 = mval t (n - p) (st.drop (p + 1)) m := fun m hm => by
        rw [crow_at (mv_bit hm).2.2.2.2]
        unfold mval
        rw [show n - (p + 1) = n - p - 1 by omega]
      refine s_app rfl (ev_minL (xs := (mv1 t (n - p) (st.getD p []) s).map fun m => m.2.1 + (crow t st n (p + 1)).getD m.2.2.toNat 0) (z := ctg t (n - p) (st.drop p) s) (EvL.ev (el_lc (Ev.to (md3 (by wtm_at "E") (by wtm_at "E") (by wtm_at "E") (by wtm_at "nl") ⟨hw, hpl2⟩) (by dsimp only; rw [hS, hN, Int.toNat_natCast, Int.toNat_natCast])) tg_tri (by decide) (Nat.le_trans (mv1_length _ _ _ _) (by decide)) (fun m hm => ?_))) ?_ ?_) (by rw [List.length_map, List.length_range]; omega) (wn_lp () trivial ?_)
      · have hb := mv_bit hm
        refine ev_opI0 (f := fun i j => i + j) (by wtm_at "E") (ev_ixL (by wtm_at "E") (by wtm_at "E") (atI_D 0 hb.2.1 (by rw [hcl]; exact hb.2.2.1)))
      · rw [List.length_map]; exact Nat.succ_pos _
      · intro m hm hle
        rw [hdr] at *
        obtain ⟨m0, a0, b0⟩ := ctg_at t (n - p) (st.getD p []) (st.drop (p + 1)) s
        obtain ⟨m1, a1, b1⟩ := List.mem_map.mp hm
        have k1 := hle _ (List.mem_map.mpr ⟨m0, a0, rfl⟩)
        rw [hval m0 a0, ← b0] at k1
        have k2 := ctg_le (rs := st.drop (p + 1)) a1
        rw [hval m1 a1] at b1
        omega
      · wtm_at "sub"
        rw [List.range_succ, List.map_append]; rfl
    · refine wn_fz (i := 1) rfl ?_
      refine s_app rfl (x := crow t st n p) (Ev.to (by wtm_at "E") (by rw [Int.toNat_natCast, htl]; rfl)) (by rw [hlen]; omega) (wn_lp () trivial ?_)
      wtm_at "sub"
      rw [List.range_succ (n := i + 1), List.map_append, show p = st.length - (i + 1) by omega]
      rfl
  · refine q_rev rfl ?_
    refine wn_fz (i := 2) rfl ?_
    refine s_ret (by wtm_at "E") rt ?_
    rw [Int.toNat_natCast, rev_range_map (fun p => crow t st n p) st.length, ← hS, ← hN]
    rfl
abbrev sp_Trellis_best_moves (K : PySem.W.Frag) : Sp := spD4 (rTrellis K) rRows rInt rInt (fun x c p s => WT x.1 x.2 ∧ c = ctb x.1 x.2 ∧ PlP x.1 x.2 p s) (rLst rMv) (fun x _ p s => bm1 x.1 (ml x.1 x.2 - p.toNat) ((stp x.1 x.2).getD p.toNat []) ((stp x.1 x.2).drop (p.toNat + 1)) s.toNat)
abbrev Pr_Trellis_best_moves (P : Program) (w : World) (K : PySem.W.Frag) (mg : Str → Option Value) (base : Heap) : Prop := Pr P w K mg base (He.ma K (aTrellis K) "best_moves") 4 ["self", "costs", "place", "state"] (sp_Trellis_best_moves K) []
def nm_Trellis_best_moves : List Str := ["self", "costs", "place", "state", "least", "later", "move"]
theorem sc_Trellis_best_moves : FnScope nm_Trellis_best_moves ["self", "costs", "place", "state"] (defScope s_Trellis_best_moves) := ⟨rfl, rfl, rfl, by decide +kernel, rfl, by decide +kernel, by decide +kernel⟩
theorem ok_Trellis_best_moves {P : Program} {w : World} {K : PySem.W.Frag} {mg : Str → Option Value} {base : Heap} (T : Tx K mg) (cTrellis_moves_from : Pr_Trellis_moves_from P w K mg base) : Pr_Trellis_best_moves P w K mg base := by
  refine pr_of (N := nm_Trellis_best_moves) (k := 3) T.d_Trellis_best_moves sc_Trellis_best_moves (fun _ _ _ _ _ _ us hl => match us, hl with | [_, _, _, _], _ => rfl) len4 fun cdv A outer s H E hr => ⟨_, (pss_cons (ps_set (i := 4) sc_Trellis_best_moves.nd rfl (Or.inr rfl) (pe_ix (kIxL K rfl) (pe_ix (kIxL K rfl) (pv 1) (pv 2) (fun _ _ => rfl)) (pv 3) (fun _ _ => rfl)))
      (pss_cons (ps_set (i := 5) sc_Trellis_best_moves.nd rfl (Or.inr rfl) (pe_ix (kIxL K rfl) (pv 1) (pe_op op_add (pv 2) pe_int) (fun _ _ => rfl)))
      (pss_one (ps_ret (pe_lc (own := [("move", 6)]) rfl sc_Trellis_best_moves.nd (kPiL K rfl (pe_meth (pv 0) T.c_Trellis T.m_Trellis_moves_from cTrellis_moves_from.F (hr.mono (by decide)) cTrellis_moves_from.b cTrellis_moves_from.v pass0 (pa_cons (pv 2) (pa_cons (pv 3) pa_nil)))) (blkOk_by (own := [("move", 6)]) (N := nm_Trellis_best_moves) (sc := (defScope s_Trellis_best_moves)) (by decide +kernel)) (fun _ _ _ _ _ => (pg_name (i := 6) sc_Trellis_best_moves.nd rfl (Or.inl rfl))) (fun _ _ _ _ _ => (pts_one (pt_cmpR op_eq (pe_op op_add (pe_ix (kIxT K rfl) (pv 6) pe_int (fun _ _ => rfl)) (pe_ix (kIxL K rfl) (pv 5) (pe_ix (kIxT K rfl) (pv 6) pe_int (fun _ _ => rfl)) (fun _ _ => rfl))) (pv 4) (nomark _)))) (fun _ _ _ _ _ => (pv 6))))))), en4 (n := 3) rfl fun B x c p s Q hp rt => ?_⟩
  obtain ⟨t, r⟩ := x
  obtain ⟨hw, hc, h1, h2, h3, h4⟩ := hp
  dsimp only at hw hc h1 h2 h3 h4 rt
  have hpl : PlP t r p s := ⟨h1, h2, h3, h4⟩
  subst hc
  obtain ⟨p, rfl⟩ := Int.eq_ofNat_of_zero_le h1
  obtain ⟨s, rfl⟩ := Int.eq_ofNat_of_zero_le h3
  rw [Int.toNat_natCast, Int.toNat_natCast] at rt
  have hp : p < (stp t r).length := by omega
  have hs : s < 2 ^ mem t := by omega
  have l1 : (ctb t r).length = (stp t r).length + 1 := ctab_length _ _ _
  have r1 : (ctb t r).getD p [] = crow t (stp t r) (ml t r) p := ctab_at (by omega)
  have r2 : (ctb t r).getD (p + 1) [] = crow t (stp t r) (ml t r) (p + 1) := ctab_at (by omega)
  have i1 : atI (ctb t r) (p : Int) = some (crow t (stp t r) (ml t r) p) := by rw [← r1]; exact atI_L (by omega)
  have i2 : atI (crow t (stp t r) (ml t r) p) (s : Int) = some (ctg t (ml t r - p) ((stp t r).drop p) s) := by rw [← crow_at hs]; exact atI_0 (by rw [crow_length]; exact hs)
  have i3 : atI (ctb t r) ((p : Int) + 1) = some (crow t (stp t r) (ml t r) (p + 1)) := by rw [← r2]; exact atI_L (k := p + 1) (by omega)
  have hdr : (stp t r).drop p = (stp t r).getD p [] :: (stp t r).drop (p + 1) := drop_at [] hp
  refine q_asg (x := ctg t (ml t r - p) ((stp t r).drop p) s) (by wtm_at "E") ?_
  refine q_asg (x := crow t (stp t r) (ml t r) (p + 1)) (by wtm_at "E") ?_
  refine s_ret (EvL.ev (EvL.to (el_lcF (xs := mv1 t (ml t r - p) ((stp t r).getD p []) s) (p := fun m => decide (mval t (ml t r - p) ((stp t r).drop (p + 1)) m = ctg t (ml t r - p) ((stp t r).drop p) s)) (f := fun m => m) (Ev.to (md3 (by wtm_at "E") (by wtm_at "E") (by wtm_at "E") (by wtm_at "nl") ⟨hw, hpl⟩) (by dsimp only; rw [Int.toNat_natCast, Int.toNat_natCast])) tg_name (by decide) (Nat.le_trans (mv1_length _ _ _ _) (by decide)) (fun m hm => ?_) (fun m hm _ => by wtm_at "E")) ?_)) rt rfl
  · have hb := mv_bit hm
    refine EvT.to (et_test (ev_eqI (ev_opI0 (f := fun i j => i + j) (by wtm_at "E") (ev_ixL (by wtm_at "E") (by wtm_at "E") (atI_D 0 hb.2.1 (by rw [crow_length]; exact hb.2.2.1)))) (by wtm_at "E"))) ?_
    rw [crow_at hb.2.2.2.2]
    unfold mval
    rw [show ml t r - (p + 1) = ml t r - p - 1 by omega]
  · rw [List.map_id', hdr]; rfl
abbrev sp_costs_to_go (K : PySem.W.Frag) : Sp := spD2 (rEncoder K) rRec0 WT rRows ctb
abbrev Pr_costs_to_go (P : Program) (w : World) (K : PySem.W.Frag) (mg : Str → Option Value) (base : Heap) : Prop := Pr P w K mg base (He.ga K "costs_to_go") 6 ["encoder", "received"] (sp_costs_to_go K) []
def nm_costs_to_go : List Str := ["encoder", "received"]
theorem sc_costs_to_go : FnScope nm_costs_to_go ["encoder", "received"] (defScope s_costs_to_go) := ⟨rfl, rfl, rfl, by decide +kernel, rfl, by decide +kernel, by decide +kernel⟩
theorem ok_costs_to_go {P : Program} {w : World} {K : PySem.W.Frag} {mg : Str → Option Value} {base : Heap} (T : Tx K mg) (cTrellis_costs_table : Pr_Trellis_costs_table P w K mg base) (cTrellis___init__ : Pr_Trellis___init__ P w K mg base) : Pr_costs_to_go P w K mg base := by
  refine pr_of (N := nm_costs_to_go) (k := 5) T.d_costs_to_go sc_costs_to_go (fun _ _ _ _ _ _ us hl => match us, hl with | [_, _], _ => rfl) len2 fun cdv A outer s H E hr => ⟨_, (pss_one (ps_ret (pe_meth0 (pe_make T.mk_Trellis cTrellis___init__.F (hr.mono (by decide)) rfl T.gc_Trellis cTrellis___init__.b cTrellis___init__.v pass0 (pa_cons (pv 0) (pa_cons (pv 1) pa_nil))) T.c_Trellis T.m_Trellis_costs_table cTrellis_costs_table.F (hr.mono (by decide)) cTrellis_costs_table.b cTrellis_costs_table.v pass0))), en2 (n := 0) rfl fun B t r Q hp rt => ?_⟩
  refine s_ret (md1 (ev_make (t, r) (ea_cons (by wtm_at "E") (ea_cons (by wtm_at "E") ea_nil)) hp) (by wtm_at "nl") hp) rt rfl
abbrev sp_best_path (K : PySem.W.Frag) : Sp := spD2 (rEncoder K) rRec0 WT (rTri rInt (rLst rInt) rInt) (fun t r => (ctg t (ml t r) (stp t r) 0, gr t (ml t r) (stp t r) 0, cnt t (ml t r) (stp t r) 0))
abbrev Pr_best_path (P : Program) (w : World) (K : PySem.W.Frag) (mg : Str → Option Value) (base : Heap) : Prop := Pr P w K mg base (He.ga K "best_path") 6 ["encoder", "received"] (sp_best_path K) []
def nm_best_path : List Str := ["encoder", "received", "trellis", "costs", "message", "state", "place", "bit", "_", "after", "row", "ways", "start", "move"]
theorem sc_best_path : FnScope nm_best_path ["encoder", "received"] (defScope s_best_path) := ⟨rfl, rfl, rfl, by decide +kernel, rfl, by decide +kernel, by decide +kernel⟩
theorem ok_best_path {P : Program} {w : World} {K : PySem.W.Frag} {mg : Str → Option Value} {base : Heap} (T : Tx K mg) (cTrellis_costs_table : Pr_Trellis_costs_table P w K mg base) (cTrellis_best_moves : Pr_Trellis_best_moves P w K mg base) (cTrellis___init__ : Pr_Trellis___init__ P w K mg base) : Pr_best_path P w K mg base := by
  refine pr_of (N := nm_best_path) (k := 5) T.d_best_path sc_best_path (fun _ _ _ _ _ _ us hl => match us, hl with | [_, _], _ => rfl) len2 fun cdv A outer s H E hr => ⟨_, (pss_cons (ps_set (i := 2) sc_best_path.nd rfl (Or.inl rfl) (pe_make T.mk_Trellis cTrellis___init__.F (hr.mono (by decide)) rfl T.gc_Trellis cTrellis___init__.b cTrellis___init__.v pass0 (pa_cons (pv 0) (pa_cons (pv 1) pa_nil))))
      (pss_cons (ps_set (i := 3) sc_best_path.nd rfl (Or.inl rfl) (pe_meth0 (pv 2) T.c_Trellis T.m_Trellis_costs_table cTrellis_costs_table.F (hr.mono (by decide)) cTrellis_costs_table.b cTrellis_costs_table.v pass0))
      (pss_cons (ps_set (i := 4) sc_best_path.nd rfl (Or.inl rfl) (pe_lst pa_nil))
      (pss_cons (ps_set (i := 5) sc_best_path.nd rfl (Or.inl rfl) pe_int)
      (pss_cons (ps_for PassesOwn.never rfl (pi_range1 rfl T.f_range (pa_cons (pe_fT (pv 2) T.c_Trellis T.n_Trellis_message_length) pa_nil)) (pg_name (i := 6) sc_best_path.nd rfl (Or.inl rfl)) (pss_cons (ps_asg (pe_ix (kIxL K rfl) (pe_meth (pv 2) T.c_Trellis T.m_Trellis_best_moves cTrellis_best_moves.F (hr.mono (by decide)) cTrellis_best_moves.b cTrellis_best_moves.v pass0 (pa_cons (pv 3) (pa_cons (pv 6) (pa_cons (pv 5) pa_nil)))) pe_int (fun _ _ => rfl)) (kPgT (n := 3) K rfl rfl (pgs_cons (pg_name (i := 7) sc_best_path.nd rfl (Or.inl rfl)) (pgs_cons (pg_name (i := 8) sc_best_path.nd rfl (Or.inl rfl)) (pgs_cons (pg_name (i := 9) sc_best_path.nd rfl (Or.inl rfl)) pgs_nil)))))
      (pss_cons (ps_expr (pe_bm PySem.F.plainAttrs_list PySem.F.slot_list_append PySem.F.type_list_append mt_append (pv 4) (pa_cons (pv 7) pa_nil)))
      (pss_one (ps_set (i := 5) sc_best_path.nd rfl (Or.inl rfl) (pv 9))))))
      (pss_cons (ps_set (i := 11) sc_best_path.nd rfl (Or.inr rfl) (pe_lc (own := [("row", 10)]) rfl sc_best_path.nd (kPiL K rfl (pe_fT (pv 2) T.c_Trellis T.n_Trellis_table)) (blkOk_by (own := [("row", 10)]) (N := nm_best_path) (sc := (defScope s_best_path)) (by decide +kernel)) (fun _ _ _ _ _ => (pg_name (i := 10) sc_best_path.nd rfl (Or.inl rfl))) (fun _ _ _ _ _ => pts_nil) (fun _ _ _ _ _ => pe_int)))
      (pss_cons (ps_for PassesOwn.never rfl (pi_revR (by rfl) T.f_reversed (prg_1 (by rfl) T.f_range (pe_callB (kLen K rfl) (by rfl) T.f_len boot_len (pa_cons (pe_fT (pv 2) T.c_Trellis T.n_Trellis_steps) pa_nil)))) (pg_name (i := 6) sc_best_path.nd rfl (Or.inl rfl)) (pss_cons (ps_set (i := 10) sc_best_path.nd rfl (Or.inl rfl) (pe_lst pa_nil))
      (pss_cons (ps_for PassesOwn.never rfl (pi_range1 rfl T.f_range (pa_cons (pe_callB (kLen K rfl) (by rfl) T.f_len boot_len (pa_cons (pv 11) pa_nil)) pa_nil)) (pg_name (i := 12) sc_best_path.nd rfl (Or.inl rfl)) (pss_one (ps_expr (pe_bm PySem.F.plainAttrs_list PySem.F.slot_list_append PySem.F.type_list_append mt_append (pv 10) (pa_cons (pe_callB (kSum K rfl rfl) (by rfl) T.f_sum bb_sum (pa_cons (pe_lc (own := [("move", 13)]) rfl sc_best_path.nd (kPiL K rfl (pe_meth (pv 2) T.c_Trellis T.m_Trellis_best_moves cTrellis_best_moves.F (hr.mono (by decide)) cTrellis_best_moves.b cTrellis_best_moves.v pass0 (pa_cons (pv 3) (pa_cons (pv 6) (pa_cons (pv 12) pa_nil))))) (blkOk_by (own := [("move", 13)]) (N := nm_best_path) (sc := (defScope s_best_path)) (by decide +kernel)) (fun _ _ _ _ _ => (pg_name (i := 13) sc_best_path.nd rfl (Or.inl rfl))) (fun _ _ _ _ _ => pts_nil) (fun _ _ _ _ _ => (pe_ix (kIxL K rfl) (pv 11) (pe_ix (kIxT K rfl) (pv 13) pe_int (fun _ _ => rfl)) (fun _ _ => rfl)))) pa_nil)) pa_nil)))))
      (pss_one (ps_set (i := 11) sc_best_path.nd rfl (Or.inr rfl) (pv 10))))))
      (pss_one (ps_ret (pe_tup (pa_cons (pe_ix (kIxL K rfl) (pe_ix (kIxL K rfl) (pv 3) pe_int (fun _ _ => rfl)) pe_int (fun _ _ => rfl)) (pa_cons (pv 4) (pa_cons (pe_ix (kIxL K rfl) (pv 11) pe_int (fun _ _ => rfl)) pa_nil))))))))))))), en2 (n := 12) rfl fun B t r Q hp rt => ?_⟩
  have hw : WT t r := hp
  obtain ⟨hl1, hl2⟩ := stp_length hw
  obtain ⟨p1, p2, p3⟩ := pow_facts hw.g
  have htl := tab_length t
  have hml : ml t r ≤ (stp t r).length := by rw [hl1]; exact Nat.sub_le _ _
  refine q_asg (ev_make (t, r) (ea_cons (by wtm_at "E") (ea_cons (by wtm_at "E") ea_nil)) hp) ?_
  refine q_asg (x := ctb t r) (md1 (x1 := (t, r)) (by wtm_at "E") (by wtm_at "nl") hp) ?_
  refine q_asgL (R := rInt) (by wtm_at "E") ?_
  refine q_asg (by wtm_at "E") ?_
  refine q_forR1 (I := List Int × Nat) (fun i x => x.2 < 2 ^ mem t ∧ x.1 ++ gr t (ml t r - i) ((stp t r).drop i) x.2 = gr t (ml t r) (stp t r) 0 ∧ x.1.length = i) (fun i x => [sf (rEncoder K) t, sf rRec0 r, sf (rTrellis K) (t, r), sf rRows (ctb t r), sm rInt x.1, sf rInt (x.2 : Int), .any, .any, .any, .any, .any, .any, .any, .any]) (n := (ml t r : Int)) (by wtm_at "E") (by omega) ⟨([], 0), ⟨by omega, rfl, rfl⟩, by wtm_at "sub"⟩ (fun i x hi hx => ?_) (fun x hx => ?_)
  · obtain ⟨msg, s⟩ := x
    obtain ⟨x1, x2, x3⟩ := hx
    dsimp only at x1 x2 x3 ⊢
    have hip : i < (stp t r).length := by omega
    have hPl : PlP t r (i : Int) (s : Int) := ⟨by omega, by omega, by omega, by omega⟩
    have hdr : (stp t r).drop i = (stp t r).getD i [] :: (stp t r).drop (i + 1) := drop_at [] hip
    have hbl := bm1_ne t (ml t r - i) ((stp t r).getD i []) ((stp t r).drop (i + 1)) s
    have hgm := getD_mem (d := mv t ((stp t r).getD i []) s 0) hbl
    generalize hM : (bm1 t (ml t r - i) ((stp t r).getD i []) ((stp t r).drop (i + 1)) s).getD 0 (mv t ((stp t r).getD i []) s 0) = m at hgm
    have hb := mv_bit (bm1_mem hgm)
    have hat : atI (bm1 t (ml t r - i) ((stp t r).getD i []) ((stp t r).drop (i + 1)) s) 0 = some m := by rw [← hM]; exact atI_D _ (Int.le_refl _) (by omega)
    refine q_tgt tg_tri (ev_ixL (Ev.to (md4 (by wtm_at "E") (by wtm_at "E") (by wtm_at "E") (by wtm_at "E") (by wtm_at "nl") ⟨hp, rfl, hPl⟩) (by dsimp only; rw [Int.toNat_natCast, Int.toNat_natCast])) (by wtm_at "E") hat) ?_
    refine q_app rfl (by wtm_at "E") (by omega) ?_
    refine s_asg (x := ((m.2.2.toNat : Nat) : Int)) (Ev.to (by wtm_at "E") hb.2.2.2.1) (wn_lp (msg ++ [m.1], m.2.2.toNat) ⟨hb.2.2.2.2, ?_, by rw [List.length_append, x3]; rfl⟩ (by wtm_at "sub"))
    rw [← x2, hdr, gr_succ (show 0 < ml t r - i by omega), hM, List.append_assoc, show ml t r - (i + 1) = ml t r - i - 1 by omega]
    rfl
  · obtain ⟨msg, s⟩ := x
    obtain ⟨x1, x2, x3⟩ := hx
    dsimp only at x1 x2 x3 ⊢
    rw [Int.toNat_natCast] at x2 x3
    rw [Nat.sub_self, gr_zero, List.append_nil] at x2
    refine q_asg (x := krow t (stp t r) (ml t r) ((stp t r).length - 0)) (EvL.ev (EvL.to (el_lc (R := rLst (rPair rInt (rLst rInt))) (by wtm_at "E") tg_name (by wtm_at "side") (by rw [htl]; omega) (fun x hx => ev_int)) (krow_one t (stp t r) (ml t r)))) ?_
    refine q_forRR (I := Unit) (fun i _ => True) (fun i _ => [sf (rEncoder K) t, sf rRec0 r, sf (rTrellis K) (t, r), sf rRows (ctb t r), sm rInt msg, .any, .any, .any, .any, .any, .any, sf (rLst rInt) (krow t (stp t r) (ml t r) ((stp t r).length - i)), .any, .any]) (n := ((stp t r).length : Int)) (by wtm_at "E") ⟨by omega, by omega⟩ ⟨(), trivial, by wtm_at "sub"⟩ (fun i _ hi _ => ?_) (fun _ _ => ?_)
    · obtain ⟨p, hp'⟩ : ∃ p : Nat, ((stp t r).length : Int) - 1 - (i : Int) = (p : Int) := ⟨(stp t r).length - 1 - i, by omega⟩
      rw [hp']
      have hpl : p < (stp t r).length := by omega
      have hkl := krow_length t (stp t r) (ml t r) ((stp t r).length - i)
      have hdr : (stp t r).drop p = (stp t r).getD p [] :: (stp t r).drop (p + 1) := drop_at [] hpl
      refine q_asgL (R := rInt) (by wtm_at "E") ?_
      refine q_forR1 (I := Unit) (fun s _ => True) (fun s _ => [sf (rEncoder K) t, sf rRec0 r, sf (rTrellis K) (t, r), sf rRows (ctb t r), sm rInt msg, .any, sf rInt (p : Int), .any, .any, .any, sm rInt ((List.range s).map fun s => cnt t (ml t r - p) ((stp t r).drop p) s), sf (rLst rInt) (krow t (stp t r) (ml t r) ((stp t r).length - i)), .any, .any]) (by wtm_at "E") (by rw [hkl]; omega) ⟨(), trivial, by wtm_at "sub"⟩ (fun s _ hs _ => ?_) (fun _ _ => ?_)
      · have hs2 : s < 2 ^ mem t := by rw [hkl] at hs; omega
        have hPl : PlP t r (p : Int) (s : Int) := ⟨by omega, by omega, by omega, by omega⟩
        refine s_app rfl (x := MX.cnt t (ml t r - p) ((stp t r).drop p) s) (Ev.to (ev_sum (xs := (bm1 t (ml t r - p) ((stp t r).getD p []) ((stp t r).drop (p + 1)) s).map fun m => (krow t (stp t r) (ml t r) ((stp t r).length - i)).getD m.2.2.toNat 0) (EvL.ev (el_lc (xs := bm1 t (ml t r - p) ((stp t r).getD p []) ((stp t r).drop (p + 1)) s) (Ev.to (md4 (by wtm_at "E") (by wtm_at "E") (by wtm_at "E") (by wtm_at "E") (by wtm_at "nl") ⟨hp, rfl, hPl⟩) (by dsimp only; rw [Int.toNat_natCast, Int.toNat_natCast])) tg_name (by decide) (Nat.le_trans (bm1_length _ _ _ _ _) (by decide)) (fun m hm => ?_)))) ?_) (by rw [List.length_map, List.length_range]; omega) (wn_lp () trivial ?_)
        · have hb := mv_bit (bm1_mem hm)
          exact ev_ixL (by wtm_at "E") (ev_tri2 (by wtm_at "E")) (atI_D 0 hb.2.1 (by rw [hkl]; exact hb.2.2.1))
        · rw [hdr]
          show _ = (List.map _ _).sum
          congr 1
          refine List.map_congr_left fun m hm => ?_
          rw [krow_at (mv_bit (bm1_mem hm)).2.2.2.2, show ml t r - ((stp t r).length - i) = ml t r - p - 1 by omega, show (stp t r).length - i = p + 1 by omega]
        · wtm_at "sub"
          rw [List.range_succ, List.map_append]; rfl
      · refine wn_fz (i := 10) rfl ?_
        refine s_asg (x := krow t (stp t r) (ml t r) ((stp t r).length - (i + 1))) (Ev.to (by wtm_at "E") ?_) (wn_lp () trivial (by wtm_at "sub"))
        rw [hkl, Int.toNat_natCast, show (stp t r).length - (i + 1) = p by omega]; rfl
    · rw [Int.toNat_natCast, Nat.sub_self]
      refine wn_fz (i := 4) rfl ?_
      have c1 : (ctb t r).getD 0 [] = crow t (stp t r) (ml t r) 0 := ctab_at (Nat.zero_le _)
      have l1 : (ctb t r).length = (stp t r).length + 1 := ctab_length _ _ _
      have i1 : atI (ctb t r) 0 = some (crow t (stp t r) (ml t r) 0) := by rw [← c1]; exact atI_L (k := 0) (by omega)
      have i2 : atI (crow t (stp t r) (ml t r) 0) 0 = some (ctg t (ml t r) (stp t r) 0) := (atI_0 (k := 0) (by rw [crow_length]; omega)).trans (by rw [crow_at (by omega)]; rfl)
      have i3 : atI (krow t (stp t r) (ml t r) 0) 0 = some (cnt t (ml t r) (stp t r) 0) := (atI_0 (k := 0) (by rw [krow_length]; omega)).trans (by rw [krow_at (by omega)]; rfl)
      refine s_ret (y := (ctg t (ml t r) (stp t r) 0, msg, cnt t (ml t r) (stp t r) 0)) (by wtm_at "E") rt ?_
      rw [x2]
abbrev sp_is_bound (K : PySem.W.Frag) : Sp := spD2 (rTrellis K) rRows (fun x c => WT x.1 x.2 ∧ c = ctb x.1 x.2) rBl (fun _ _ => true)
abbrev Pr_is_bound (P : Program) (w : World) (K : PySem.W.Frag) (mg : Str → Option Value) (base : Heap) : Prop := Pr P w K mg base (He.ga K "is_bound") 4 ["trellis", "costs"] (sp_is_bound K) []
def nm_is_bound : List Str := ["trellis", "costs", "row", "place", "state", "_", "cost", "after"]
theorem sc_is_bound : FnScope nm_is_bound ["trellis", "costs"] (defScope s_is_bound) := ⟨rfl, rfl, rfl, by decide +kernel, rfl, by decide +kernel, by decide +kernel⟩
theorem ok_is_bound {P : Program} {w : World} {K : PySem.W.Frag} {mg : Str → Option Value} {base : Heap} (T : Tx K mg) (cTrellis_moves_from : Pr_Trellis_moves_from P w K mg base) : Pr_is_bound P w K mg base := by
  refine pr_of (N := nm_is_bound) (k := 3) T.d_is_bound sc_is_bound (fun _ _ _ _ _ _ us hl => match us, hl with | [_, _], _ => rfl) len2 fun cdv A outer s H E hr => ⟨_, (pss_cons (ps_if (pt_cmpR op_ne (pe_callB (kLen K rfl) (by rfl) T.f_len boot_len (pa_cons (pv 1) pa_nil)) (pe_op op_add (pe_callB (kLen K rfl) (by rfl) T.f_len boot_len (pa_cons (pe_fT (pv 0) T.c_Trellis T.n_Trellis_steps) pa_nil)) pe_int) (nomark _)) (pss_one (ps_ret pe_bl)) pss_nil)
      (pss_cons (ps_for PassesOwn.never rfl (kPiL K rfl (pv 1)) (pg_name (i := 2) sc_is_bound.nd rfl (Or.inl rfl)) (pss_one (ps_if (pt_cmpR op_ne (pe_callB (kLen K rfl) (by rfl) T.f_len boot_len (pa_cons (pv 2) pa_nil)) (pe_callB (kLen K rfl) (by rfl) T.f_len boot_len (pa_cons (pe_fT (pv 0) T.c_Trellis T.n_Trellis_table) pa_nil)) (nomark _)) (pss_one (ps_ret pe_bl)) pss_nil)))
      (pss_cons (ps_if (pt_cmpR op_gt (pe_callB (kMax K rfl rfl) (by rfl) T.f_max bb_max (pa_cons (pe_ix (kIxL K rfl) (pv 1) (pe_un un_neg pe_int) (fun _ _ => rfl)) pa_nil)) pe_int (nomark _)) (pss_one (ps_ret pe_bl)) pss_nil)
      (pss_cons (ps_for PassesOwn.never rfl (pi_range1 rfl T.f_range (pa_cons (pe_callB (kLen K rfl) (by rfl) T.f_len boot_len (pa_cons (pe_fT (pv 0) T.c_Trellis T.n_Trellis_steps) pa_nil)) pa_nil)) (pg_name (i := 3) sc_is_bound.nd rfl (Or.inl rfl)) (pss_one (ps_for PassesOwn.never rfl (pi_range1 rfl T.f_range (pa_cons (pe_callB (kLen K rfl) (by rfl) T.f_len boot_len (pa_cons (pe_fT (pv 0) T.c_Trellis T.n_Trellis_table) pa_nil)) pa_nil)) (pg_name (i := 4) sc_is_bound.nd rfl (Or.inl rfl)) (pss_one (ps_for PassesOwn.never rfl (kPiL K rfl (pe_meth (pv 0) T.c_Trellis T.m_Trellis_moves_from cTrellis_moves_from.F (hr.mono (by decide)) cTrellis_moves_from.b cTrellis_moves_from.v pass0 (pa_cons (pv 3) (pa_cons (pv 4) pa_nil)))) (kPgT (n := 3) K rfl rfl (pgs_cons (pg_name (i := 5) sc_is_bound.nd rfl (Or.inl rfl)) (pgs_cons (pg_name (i := 6) sc_is_bound.nd rfl (Or.inl rfl)) (pgs_cons (pg_name (i := 7) sc_is_bound.nd rfl (Or.inl rfl)) pgs_nil)))) (pss_one (ps_if (pt_cmpR op_gt (pe_ix (kIxL K rfl) (pe_ix (kIxL K rfl) (pv 1) (pv 3) (fun _ _ => rfl)) (pv 4) (fun _ _ => rfl)) (pe_op op_add (pv 6) (pe_ix (kIxL K rfl) (pe_ix (kIxL K rfl) (pv 1) (pe_op op_add (pv 3) pe_int) (fun _ _ => rfl)) (pv 7) (fun _ _ => rfl))) (nomark _)) (pss_one (ps_ret pe_bl)) pss_nil)))))))
      (pss_one (ps_ret pe_bl)))))), en2 (n := 6) rfl fun B x c Q hp rt => ?_⟩
  obtain ⟨t, r⟩ := x
  obtain ⟨hw, hc⟩ := hp
  dsimp only at hw hc
  subst hc
  obtain ⟨hl1, hl2⟩ := stp_length hw
  obtain ⟨p1, p2, p3⟩ := pow_facts hw.g
  have htl := tab_length t
  have l1 : (ctb t r).length = (stp t r).length + 1 := ctab_length _ _ _
  refine q_no (by wtm_at "E") (by simp [l1]) ?_
  refine q_forL (I := Unit) (fun i _ => True) (fun i _ => [sf (rTrellis K) (t, r), sf rRows (ctb t r), .any, .any, .any, .any, .any, .any]) tg_name (by wtm_at "E") ⟨(), trivial, by wtm_at "sub"⟩ (fun B1 up i _ y hy _ => ?_) (fun _ _ => ?_)
  · obtain ⟨k, hk, rfl⟩ := List.mem_map.mp (List.mem_of_getElem? hy)
    refine s_no (by wtm_at "E") (by simp [htl, crow_length]) (wn_lp () trivial (by wtm_at "sub"))
  · have hlast : atI (ctb t r) (-1) = some (crow t (stp t r) (ml t r) (stp t r).length) := by
      show atI (ctab t (stp t r) (ml t r)) (-1) = _
      unfold ctab
      rw [List.range_succ, List.map_append]
      exact atI_last _ _
    refine q_no (et_test (ev_opB0 (f := fun i j => decide (i > j)) (ev_maxL (z := 0) (ev_ixL (by wtm_at "E") (by wtm_at "E") hlast) (by rw [crow_length]; omega) (fun m hm _ => crow_zero m hm)) (by wtm_at "E"))) (by rfl) ?_
    refine q_forR1 (I := Unit) (fun i _ => True) (fun i _ => [sf (rTrellis K) (t, r), sf rRows (ctb t r), .any, .any, .any, .any, .any, .any]) (n := ((stp t r).length : Int)) (by wtm_at "E") (by omega) ⟨(), trivial, by wtm_at "sub"⟩ (fun p _ hp _ => ?_) (fun _ _ => s_ret (by wtm_at "E") rt rfl)
    refine s_forR1 (I := Unit) (fun i _ => True) (fun i _ => [sf (rTrellis K) (t, r), sf rRows (ctb t r), .any, sf rInt (p : Int), .any, .any, .any, .any]) (by wtm_at "E") (by rw [htl]; omega) ⟨(), trivial, by wtm_at "sub"⟩ (fun s _ hs _ => ?_) (fun _ _ => wn_lp () trivial (by wtm_at "sub"))
    have hpl : p < (stp t r).length := by omega
    have hs2 : s < 2 ^ mem t := by rw [htl] at hs; omega
    have hPl : PlP t r (p : Int) (s : Int) := ⟨by omega, by omega, by omega, by omega⟩
    have hdr : (stp t r).drop p = (stp t r).getD p [] :: (stp t r).drop (p + 1) := drop_at [] hpl
    have r1 : (ctb t r).getD p [] = crow t (stp t r) (ml t r) p := ctab_at (by omega)
    have r2 : (ctb t r).getD (p + 1) [] = crow t (stp t r) (ml t r) (p + 1) := ctab_at (by omega)
    have i1 : atI (ctb t r) (p : Int) = some (crow t (stp t r) (ml t r) p) := by rw [← r1]; exact atI_L (by omega)
    have i2 : atI (crow t (stp t r) (ml t r) p) (s : Int) = some (ctg t (ml t r - p) ((stp t r).drop p) s) := by rw [← crow_at hs2]; exact atI_0 (by rw [crow_length]; exact hs2)
    have i3 : atI (ctb t r) ((p : Int) + 1) = some (crow t (stp t r) (ml t r) (p + 1)) := by rw [← r2]; exact atI_L (k := p + 1) (by omega)
    refine s_forL (I := Unit) (fun i _ => True) (fun i _ => [sf (rTrellis K) (t, r), sf rRows (ctb t r), .any, sf rInt (p : Int), sf rInt (s : Int), .any, .any, .any]) (xs := mv1 t (ml t r - p) ((stp t r).getD p []) s) tg_tri (Ev.to (md3 (by wtm_at "E") (by wtm_at "E") (by wtm_at "E") (by wtm_at "nl") ⟨hw, hPl⟩) (by dsimp only; rw [Int.toNat_natCast, Int.toNat_natCast])) ⟨(), trivial, by wtm_at "sub"⟩ (fun B1 up i _ m hm _ => ?_) (fun _ _ => wn_lp () trivial (by wtm_at "sub"))
    have hmm := List.mem_of_getElem? hm
    have hb := mv_bit hmm
    have hle := ctg_le (rs := (stp t r).drop (p + 1)) hmm
    rw [← hdr] at hle
    have hcr : (crow t (stp t r) (ml t r) (p + 1)).getD m.2.2.toNat 0 = ctg t (ml t r - p - 1) ((stp t r).drop (p + 1)) m.2.2.toNat := by rw [crow_at hb.2.2.2.2, show ml t r - (p + 1) = ml t r - p - 1 by omega]
    have i4 : atI (crow t (stp t r) (ml t r) (p + 1)) m.2.2 = some (ctg t (ml t r - p - 1) ((stp t r).drop (p + 1)) m.2.2.toNat) := by rw [← hcr]; exact atI_D 0 hb.2.1 (by rw [crow_length]; exact hb.2.2.1)
    unfold mval at hle
    refine s_no (by wtm_at "E") (by simpa using hle) (wn_lp () trivial (by wtm_at "sub"))
abbrev sp_check_path (K : PySem.W.Frag) : Sp := spD5 (rEncoder K) rRec0 rInt (rLst rInt) rRows (fun t r _ m c => WT t r ∧ Bits m ∧ m.length = ml t r ∧ c = ctb t r) rBl (fun t r d m _ => decide (dst (word t m) r = d) && decide (d ≤ ctg t (ml t r) (stp t r) 0))
abbrev Pr_check_path (P : Program) (w : World) (K : PySem.W.Frag) (mg : Str → Option Value) (base : Heap) : Prop := Pr P w K mg base (He.ga K "check_path") 6 ["encoder", "received", "distance", "message", "costs"] (sp_check_path K) []
def nm_check_path : List Str := ["encoder", "received", "distance", "message", "costs", "trellis"]
theorem sc_check_path : FnScope nm_check_path ["encoder", "received", "distance", "message", "costs"] (defScope s_check_path) := ⟨rfl, rfl, rfl, by decide +kernel, rfl, by decide +kernel, by decide +kernel⟩
theorem ok_check_path {P : Program} {w : World} {K : PySem.W.Frag} {mg : Str → Option Value} {base : Heap} (T : Tx K mg) (chas_bits_only : Pr_has_bits_only P w K mg base) (cEncoder_word_for : Pr_Encoder_word_for P w K mg base) (cerrors_beside : Pr_errors_beside P w K mg base) (cis_bound : Pr_is_bound P w K mg base) (cTrellis___init__ : Pr_Trellis___init__ P w K mg base) : Pr_check_path P w K mg base := by
  refine pr_of (N := nm_check_path) (k := 5) T.d_check_path sc_check_path (fun _ _ _ _ _ _ us hl => match us, hl with | [_, _, _, _, _], _ => rfl) len5 fun cdv A outer s H E hr => ⟨_, (pss_cons (ps_set (i := 5) sc_check_path.nd rfl (Or.inl rfl) (pe_make T.mk_Trellis cTrellis___init__.F (hr.mono (by decide)) rfl T.gc_Trellis cTrellis___init__.b cTrellis___init__.v pass0 (pa_cons (pv 0) (pa_cons (pv 1) pa_nil))))
      (pss_cons (ps_if (PW.pt (pw_or (pt_cmpR op_ne (pe_callB (kLen K rfl) (by rfl) T.f_len boot_len (pa_cons (pv 3) pa_nil)) (pe_fT (pv 5) T.c_Trellis T.n_Trellis_message_length) (nomark _)) (pw_or1 (pt_not (pt_val (pe_cal chas_bits_only T.g_has_bits_only hr (pa_cons (pv 3) pa_nil))))))) (pss_one (ps_ret pe_bl)) pss_nil)
      (pss_cons (ps_if (pt_cmpR op_ne (pe_cal cerrors_beside T.g_errors_beside hr (pa_cons (pe_meth (pv 0) T.c_Encoder T.m_Encoder_word_for cEncoder_word_for.F (hr.mono (by decide)) cEncoder_word_for.b cEncoder_word_for.v pass0 (pa_cons (pv 3) pa_nil)) (pa_cons (pv 1) pa_nil))) (pv 2) (nomark _)) (pss_one (ps_ret pe_bl)) pss_nil)
      (pss_one (ps_ret (pe_and (pe_cal cis_bound T.g_is_bound hr (pa_cons (pv 5) (pa_cons (pv 4) pa_nil))) (pe_one (pe_cmpR op_ge (pe_ix (kIxL K rfl) (pe_ix (kIxL K rfl) (pv 4) pe_int (fun _ _ => rfl)) pe_int (fun _ _ => rfl)) (pv 2) (nomark _))))))))), en5 (n := 1) rfl fun B t r d m c Q hp rt => ?_⟩
  obtain ⟨hw, h2, h3, h4⟩ := hp
  subst h4
  obtain ⟨hl1, hl2⟩ := stp_length hw
  obtain ⟨p1, p2, p3⟩ := pow_facts hw.g
  have g2 := hw.g.hi
  have hwl : (word t m).length = r.length := by
    rw [word_length, h3]
    have e1 := hw.dv
    have e2 := hw.me
    have e3 := Nat.div_add_mod r.length t.length
    unfold ml
    rw [Nat.sub_add_cancel e2]
    omega
  have l1 : (ctb t r).length = (stp t r).length + 1 := ctab_length _ _ _
  have c1 : (ctb t r).getD 0 [] = crow t (stp t r) (ml t r) 0 := ctab_at (Nat.zero_le _)
  have i1 : atI (ctb t r) 0 = some (crow t (stp t r) (ml t r) 0) := by rw [← c1]; exact atI_L (k := 0) (by omega)
  have i2 : atI (crow t (stp t r) (ml t r) 0) 0 = some (ctg t (ml t r) (stp t r) 0) := (atI_0 (k := 0) (by rw [crow_length]; omega)).trans (by rw [crow_at (by omega)]; rfl)
  have hle := hw.le
  have hml : ml t r ≤ 10000 := by unfold ml; rw [← hl1]; omega
  refine q_asg (ev_make (t, r) (ea_cons (by wtm_at "E") (ea_cons (by wtm_at "E") ea_nil)) hw) ?_
  refine q_no (et_or (by wtm_at "E") (fun _ => by wtm_at "E")) (by simp [h3]) ?_
  refine q_when (et_test (ev_neI (cd2 (md2 (by wtm_at "E") (by wtm_at "E") (by wtm_at "nl") ⟨hw.g, h2, by omega⟩) (by wtm_at "E") ⟨hwl, by omega⟩) (by wtm_at "E"))) (fun h => ?_) (fun h => ?_)
  · refine s_ret (by wtm_at "E") rt ?_
    have : ¬ dst (word t m) r = d := by simpa using h
    show false = (decide (dst (word t m) r = d) && _)
    rw [decide_eq_false this]; rfl
  · have hd : dst (word t m) r = d := by simpa using h
    refine s_ret (y := true && decide (ctg t (ml t r) (stp t r) 0 ≥ d)) (ev_andV (cd2 (by wtm_at "E") (by wtm_at "E") ⟨hw, rfl⟩) (fun _ => by wtm_at "E")) rt ?_
    show _ = (decide (dst (word t m) r = d) && _)
    rw [decide_eq_true hd]
end NW
set_option maxHeartbeats 4000000
namespace NW
open PySem PySem.Spec PyProof.Rows L2 G MX
local macro_rules | `(tactic| wtm_at "nl") => `(tactic| first
  | with_reducible exact nl_Field_digits _ _
  | with_reducible exact nl_Field_element _ _
  | with_reducible exact nl_Field_plus _ _
  | with_reducible exact nl_Field_negative _ _
  | with_reducible exact nl_Field_minus _ _
  | with_reducible exact nl_Field_times _ _
  | with_reducible exact nl_Field_inverse _ _
  | with_reducible exact nl_LinearCode_words _ _
  | with_reducible exact nl_Encoder_advance _ _
  | with_reducible exact nl_Encoder__fed _ _
  | with_reducible exact nl_Encoder_word_for _ _
  | with_reducible exact nl_Encoder_linear _ _
  | with_reducible exact nl_Trellis_moves_from _ _
  | with_reducible exact nl_Trellis_costs_table _ _
  | with_reducible exact nl_Trellis_best_moves _ _
  | with_reducible exact nl_Summary_grown _ _
  | with_reducible exact nl_PathDecoder_restart _ _
  | with_reducible exact nl_PathDecoder_take _ _
  | with_reducible exact nl_PathDecoder_answer _ _)
local macro_rules | `(tactic| wtm_at "side") => `(tactic| first
  | assumption
  | exact rfl
  | exact atI_0 (by omega)
  | exact atI_L (by omega)
  | omega
  | exact trivial
  | exact fun _ h => h
  | exact List.mem_singleton.mpr rfl
  | wtm_at "nl"
  | exact Or.inr ⟨by omega, by omega⟩
  | exact Or.inl ⟨by omega, by omega⟩
  | (show (0 : Int) < _; omega)
  | exact ⟨by omega, by omega⟩
  | exact ⟨rfl, rfl⟩
  | exact MX.Bits.getD (by assumption) _
  | exact ⟨by assumption, by assumption⟩
  | exact ⟨by assumption, by assumption, by assumption⟩
  | exact ⟨by assumption, MX.Bits.getD (by assumption) _⟩
  | decide
  | (show (_ : Nat) ≤ 10000000; (simp only [List.length_cons, List.length_nil, List.length_append]; omega))
  | (show (_ : Nat) < 10000000; (simp only [List.length_cons, List.length_nil, List.length_append]; omega)))
local macro_rules | `(tactic| wtm_at "evop") => `(tactic| first
  | ((with_reducible refine' ev_opI0 _ _) <;> wtm_at "ev2")
  | ((with_reducible refine' ev_opB0 _ _) <;> wtm_at "ev2")
  | ((with_reducible refine' ev_opI _ _ _) <;> wtm_at "ev2")
  | ((with_reducible refine' ev_ixL (m := _) _ _ _) <;> wtm_at "ev2")
  | ((with_reducible show Ev _ _ (tOp (rIxL _) (tVar _) _) _ _); (refine' ev_ixM rfl _ _) <;> wtm_at "ev2")
  | ((with_reducible refine' ev_eqI _ _) <;> wtm_at "ev2")
  | ((with_reducible refine' ev_neI _ _) <;> wtm_at "ev2")
  | ((with_reducible refine' ev_isN (n := _) _) <;> wtm_at "ev2")
  | ((with_reducible refine' ev_notN (n := _) _) <;> wtm_at "ev2")
  | ((with_reducible refine' ev_fst (m := _) (n := _) _) <;> wtm_at "ev2")
  | ((with_reducible refine' ev_snd (m := _) (n := _) _) <;> wtm_at "ev2")
  | ((with_reducible refine' ev_tri1 _) <;> wtm_at "ev2")
  | ((with_reducible refine' ev_tri2 _) <;> wtm_at "ev2")
  | ((with_reducible refine' ev_ixT (m := _) _ _ _) <;> wtm_at "ev2")
  | ((with_reducible refine' ev_ixS (m := _) _ _ _) <;> wtm_at "ev2")
  | ((with_reducible refine' EvL.ev (m := _) _) <;> wtm_at "ev2"))
local macro_rules | `(tactic| wtm_at "evfld") => `(tactic| first
  | ((with_reducible refine' ev_Field_prime _) <;> wtm_at "ev2")
  | ((with_reducible refine' ev_Field_modulus _) <;> wtm_at "ev2")
  | ((with_reducible refine' ev_Field_degree _) <;> wtm_at "ev2")
  | ((with_reducible refine' ev_Field_order _) <;> wtm_at "ev2")
  | ((with_reducible refine' ev_LinearCode_field _) <;> wtm_at "ev2")
  | ((with_reducible refine' ev_LinearCode_length _) <;> wtm_at "ev2")
  | ((with_reducible refine' ev_LinearCode_dimension _) <;> wtm_at "ev2")
  | ((with_reducible refine' ev_LinearCode_rows _) <;> wtm_at "ev2")
  | ((with_reducible refine' ev_LinearCode_pivots _) <;> wtm_at "ev2")
  | ((with_reducible refine' ev_LinearCode_checks _) <;> wtm_at "ev2")
  | ((with_reducible refine' ev_LinearCode_size _) <;> wtm_at "ev2")
  | ((with_reducible refine' ev_Encoder_taps _) <;> wtm_at "ev2")
  | ((with_reducible refine' ev_Encoder_memory _) <;> wtm_at "ev2")
  | ((with_reducible refine' ev_Encoder_outputs _) <;> wtm_at "ev2")
  | ((with_reducible refine' ev_Encoder_state_count _) <;> wtm_at "ev2")
  | ((with_reducible refine' ev_Trellis_steps _) <;> wtm_at "ev2")
  | ((with_reducible refine' ev_Trellis_message_length _) <;> wtm_at "ev2")
  | ((with_reducible refine' ev_Trellis_table _) <;> wtm_at "ev2")
  | ((with_reducible refine' ev_Summary_cost _) <;> wtm_at "ev2")
  | ((with_reducible refine' ev_Summary_count_of _) <;> wtm_at "ev2")
  | ((with_reducible refine' ev_Summary_first _) <;> wtm_at "ev2")
  | ((with_reducible refine' ev_Summary_start_of _) <;> wtm_at "ev2")
  | ((with_reducible refine' ev_PathDecoder_encoder _) <;> wtm_at "ev2")
  | ((with_reducible refine' ev_PathDecoder_table _) <;> wtm_at "ev2")
  | ((with_reducible refine' ev_PathDecoder_steps _) <;> wtm_at "ev2")
  | ((with_reducible refine' ev_PathDecoder_summaries _) <;> wtm_at "ev2"))
local macro_rules | `(tactic| wtm_at "evcb") => `(tactic| first
  | ((with_reducible show Ev _ _ (tCB (rLen _) (tCons (tVar _) tNil)) _ _); exact ev_lenM rfl)
  | ((with_reducible refine' ev_lenL _) <;> wtm_at "ev2")
  | ((with_reducible refine' ev_lenT _) <;> wtm_at "ev2")
  | ((with_reducible refine' ev_lenS _) <;> wtm_at "ev2")
  | ((with_reducible refine' ev_int1 _) <;> wtm_at "ev2")
  | ((with_reducible refine' ev_intB _) <;> wtm_at "ev2")
  | ((with_reducible refine' ev_abs _) <;> wtm_at "ev2")
  | ((with_reducible refine' ev_min2 _ _) <;> wtm_at "ev2")
  | ((with_reducible refine' ev_max2 _ _) <;> wtm_at "ev2")
  | ((with_reducible refine' ev_minLL _ _) <;> wtm_at "ev2")
  | ((with_reducible refine' ev_sum _) <;> wtm_at "ev2")
  | ((with_reducible refine' ev_tupL (m := _) _) <;> wtm_at "ev2")
  | ((with_reducible refine' EvL.ev (m := _) _) <;> wtm_at "ev2"))
local macro_rules | `(tactic| wtm_at "evcall") => `(tactic| first
  | ((with_reducible refine' cd1 _ _) <;> wtm_at "ev2")
  | ((with_reducible refine' cd2 _ _ _) <;> wtm_at "ev2")
  | ((with_reducible refine' cd3 _ _ _ _) <;> wtm_at "ev2")
  | ((with_reducible refine' cd4 _ _ _ _ _) <;> wtm_at "ev2")
  | ((with_reducible refine' cd5 _ _ _ _ _ _) <;> wtm_at "ev2"))
local macro_rules | `(tactic| wtm_at "evmeth") => `(tactic| first
  | ((with_reducible refine' md1 _ _ _) <;> wtm_at "ev2")
  | ((with_reducible refine' md2 _ _ _ _) <;> wtm_at "ev2")
  | ((with_reducible refine' md3 _ _ _ _ _) <;> wtm_at "ev2")
  | ((with_reducible refine' md4 _ _ _ _ _ _) <;> wtm_at "ev2"))
local macro_rules | `(tactic| wtm_at "evx") => `(tactic| first
  | ((with_reducible show Ev _ _ (tVar _) _ _); exact ev_var rfl)
  | ((with_reducible show Ev _ _ (tC _) _ _); first | exact ev_int | exact ev_bl | exact ev_none | exact ev_non)
  | ((with_reducible show Ev _ _ (tOp _ _ _) _ _); wtm_at "evop")
  | ((with_reducible show Ev _ _ (tF _ _ _) _ _); wtm_at "evfld")
  | ((with_reducible show Ev _ _ (tCB _ _) _ _); wtm_at "evcb")
  | ((with_reducible show Ev _ _ (tCall _ _ _ _) _ _); wtm_at "evcall")
  | ((with_reducible show Ev _ _ (tMeth _ _ _ _ _ _ _) _ _); wtm_at "evmeth")
  | ((with_reducible show Ev _ _ (tTup _) _ _); first | ((with_reducible refine' ev_pair (m := _) (n := _) _ _) <;> wtm_at "ev2") | ((with_reducible refine' ev_tri (m := _) (n := _) (k := _) _ _ _) <;> wtm_at "ev2"))
  | ((with_reducible refine' ev_neg _) <;> wtm_at "ev2")
  | ((with_reducible refine' ev_notV _) <;> wtm_at "ev2")
  | ((with_reducible show Ev _ _ (tLc _ _ _ _ _) _ _); (with_reducible refine' EvL.ev (m := _) _) <;> wtm_at "ev2")
  | ((with_reducible refine' EvL.ev (m := _) _) <;> wtm_at "ev2"))
local macro_rules | `(tactic| wtm_at "evt") => `(tactic| first
  | ((with_reducible refine' et_test _) <;> wtm_at "ev2")
  | ((with_reducible refine' et_B _) <;> wtm_at "ev2")
  | ((with_reducible refine' et_not _) <;> wtm_at "ev2"))
local macro_rules | `(tactic| wtm_at "evl") => `(tactic| first
  | exact el_nil
  | ((with_reducible refine' el_rep (m := _) _ _ _ _) <;> wtm_at "ev2")
  | ((with_reducible refine' el_cat (m := _) _ _ _) <;> wtm_at "ev2")
  | ((with_reducible refine' el_slice (m := _) _ _ _) <;> wtm_at "ev2")
  | ((with_reducible show EvL _ _ (tSl _ (tVar _) _ _) _ _); (refine' el_sliceM rfl _ _) <;> wtm_at "ev2")
  | ((with_reducible refine' el_listL (m := _) _) <;> wtm_at "ev2")
  | ((with_reducible refine' el_disp (m := _) _ _) <;> wtm_at "ev2")
  | ((with_reducible refine' el_sortLL _) <;> wtm_at "ev2")
  | ((with_reducible refine' el_lc (m := _) (n := _) _ (tg_name (m := _)) _ _ _) <;> wtm_at "ev2")
  | ((with_reducible refine' el_lcR (n := _) _ _ _ _ _) <;> wtm_at "ev2")
  | ((with_reducible refine' el_lc (m := _) (n := _) _ (tg_pair (m := _) (n := _)) _ _ _) <;> wtm_at "ev2")
  | ((with_reducible refine' el_lc (m := _) (n := _) _ (tg_tri (m := _) (n := _) (o := _)) _ _ _) <;> wtm_at "ev2"))
local macro_rules | `(tactic| wtm_at "ev") => `(tactic| first
  | ((with_reducible show Ev _ _ _ _ _); first | ((with_reducible refine' et_chain _ _ _) <;> wtm_at "ev2") | wtm_at "evx")
  | ((with_reducible show EvT _ _ _ _); wtm_at "evt")
  | ((with_reducible show EvL _ _ _ _ _); wtm_at "evl")
  | exact ea_nil
  | exact eh_nil
  | exact eo_none
  | ((with_reducible refine' ea_cons (m := _) _ _) <;> wtm_at "ev2")
  | ((with_reducible refine' eh_cons (m := _) _ _) <;> wtm_at "ev2")
  | ((with_reducible refine' eo_some _) <;> wtm_at "ev2"))
local macro_rules | `(tactic| wtm_at "no") => `(tactic| ((fail_if_success (with_reducible show Ev _ _ _ _ _)); (fail_if_success (with_reducible show EvL _ _ _ _ _)); (fail_if_success (with_reducible show EvT _ _ _ _)); (fail_if_success (with_reducible show EvA _ _ _ _)); (fail_if_success (with_reducible show EvH _ _ _ _ _)); (fail_if_success (with_reducible show EvO _ _ _ _))))
local macro_rules | `(tactic| wtm_at "ev2") => `(tactic| first | wtm_at "ev" | (wtm_at "no"; first | infer_instance | (intro x hx; wtm_at "ev") | skip))
local macro_rules | `(tactic| wtm_at "E") => `(tactic| ((wtm_at "ev") <;> (try infer_instance)) <;> (try (refine Iff.mp Iff.rfl ?_; wtm_at "side")))
local macro_rules | `(tactic| wtm_at "sub") => `(tactic| repeat' first | exact Sub.nil | apply Sub.any | apply Sub.same | (apply Sub.fz) | (apply Sub.ml))
/-! ### the free distance -/
abbrev rWTb : Rel WTb := rLst (rLst (rPair rInt rInt))
abbrev sp_weighted_steps (K : PySem.W.Frag) : Sp := spD1 (rEncoder K) GT rWTb wtb
abbrev Pr_weighted_steps (P : Program) (w : World) (K : PySem.W.Frag) (mg : Str → Option Value) (base : Heap) : Prop := Pr P w K mg base (He.ga K "weighted_steps") 4 ["encoder"] (sp_weighted_steps K) []
def nm_weighted_steps : List Str := ["encoder", "row", "after", "bits"]
theorem sc_weighted_steps : FnScope nm_weighted_steps ["encoder"] (defScope s_weighted_steps) := ⟨rfl, rfl, rfl, by decide +kernel, rfl, by decide +kernel, by decide +kernel⟩
theorem ok_weighted_steps {P : Program} {w : World} {K : PySem.W.Frag} {mg : Str → Option Value} {base : Heap} (T : Tx K mg) (cstep_table : Pr_step_table P w K mg base) : Pr_weighted_steps P w K mg base := by
  refine pr_of (N := nm_weighted_steps) (k := 3) T.d_weighted_steps sc_weighted_steps (fun _ _ _ _ _ _ us hl => match us, hl with | [_], _ => rfl) len1 fun cdv A outer s H E hr => ⟨_, (pss_one (ps_ret (pe_lc (own := [("row", 1)]) rfl sc_weighted_steps.nd (kPiL K rfl (pe_cal cstep_table T.g_step_table hr (pa_cons (pv 0) pa_nil))) (blkOk_by (own := [("row", 1)]) (N := nm_weighted_steps) (sc := (defScope s_weighted_steps)) (by decide +kernel)) (fun _ _ _ _ _ => (pg_name (i := 1) sc_weighted_steps.nd rfl (Or.inl rfl))) (fun _ _ _ _ _ => pts_nil) (fun _ _ _ _ _ => (pe_lc (own := [("after", 2), ("bits", 3)]) rfl sc_weighted_steps.nd (kPiL K rfl (pv 1)) (blkOk_by (own := [("after", 2), ("bits", 3)]) (N := nm_weighted_steps) (sc := (⟨.function, [(".0", .local), ("row", .local)], false, false, []⟩ : Scope)) (by decide +kernel)) (fun _ _ _ _ _ => (kPgT (n := 2) K rfl rfl (pgs_cons (pg_name (i := 2) sc_weighted_steps.nd rfl (Or.inl rfl)) (pgs_cons (pg_name (i := 3) sc_weighted_steps.nd rfl (Or.inl rfl)) pgs_nil)))) (fun _ _ _ _ _ => pts_nil) (fun _ _ _ _ _ => (pe_tup (pa_cons (pv 2) (pa_cons (pe_callB (kSum K rfl rfl) (by rfl) T.f_sum bb_sum (pa_cons (pv 3) pa_nil)) pa_nil))))))))), en1 (n := 3) rfl fun B t Q hp rt => ?_⟩
  obtain ⟨p1, p2, p3⟩ := pow_facts hp
  have htl := tab_length t
  refine s_ret (EvL.ev (el_lc (R := rLst (rPair rInt (rLst rInt))) (xs := tabOf t) (by wtm_at "E") tg_name (by decide) (by omega) (fun row hrow => EvL.ev (el_lc (R := rPair rInt (rLst rInt)) (xs := row) (by wtm_at "E") tg_pair (by decide) ?_ (fun e he => by wtm_at "E"))))) rt rfl
  obtain ⟨s, _, rfl⟩ := List.mem_map.mp hrow
  show 2 ≤ 10000000
  decide
abbrev rRk : Rel Rk := rLst (rOpt (rPair rInt rInt))
abbrev sp_ranks_to_zero (K : PySem.W.Frag) : Sp := spD1 rWTb WOk rRk rkN
abbrev Pr_ranks_to_zero (P : Program) (w : World) (K : PySem.W.Frag) (mg : Str → Option Value) (base : Heap) : Prop := Pr P w K mg base (He.ga K "ranks_to_zero") 1 ["table"] (sp_ranks_to_zero K) []
def nm_ranks_to_zero : List Str := ["table", "ranks", "_", "state", "after", "weight", "rank", "row"]
theorem sc_ranks_to_zero : FnScope nm_ranks_to_zero ["table"] (defScope s_ranks_to_zero) := ⟨rfl, rfl, rfl, by decide +kernel, rfl, by decide +kernel, by decide +kernel⟩
theorem ok_ranks_to_zero {P : Program} {w : World} {K : PySem.W.Frag} {mg : Str → Option Value} {base : Heap} (T : Tx K mg)  : Pr_ranks_to_zero P w K mg base := by
  refine pr_of (N := nm_ranks_to_zero) (k := 0) T.d_ranks_to_zero sc_ranks_to_zero (fun _ _ _ _ _ _ us hl => match us, hl with | [_], _ => rfl) len1 fun cdv A outer s H E hr => ⟨_, (pss_cons (ps_setLc (i := 1) (own := [("row", 7)]) rfl sc_ranks_to_zero.nd rfl rfl (sw_true rfl rfl rfl (by decide +kernel)) (kPiL K rfl (pv 0)) (blkOk_by (own := [("row", 7)]) (N := nm_ranks_to_zero) (sc := (defScope s_ranks_to_zero)) (by decide +kernel)) (fun _ _ _ _ _ => (pg_name (i := 7) sc_ranks_to_zero.nd rfl (Or.inl rfl))) (fun _ _ _ _ _ => pts_nil) (fun _ _ _ _ _ => pe_non))
      (pss_cons (ps_asg (pe_tup (pa_cons pe_int (pa_cons pe_int pa_nil))) (pg_sub (pv 1) pe_int set_list))
      (pss_cons (ps_for PassesOwn.never rfl (kPiL K rfl (pv 0)) (pg_name (i := 2) sc_ranks_to_zero.nd rfl (Or.inl rfl)) (pss_one (ps_for PassesOwn.never rfl (pi_range2 rfl T.f_range (pa_cons pe_int (pa_cons (pe_callB (kLen K rfl) (by rfl) T.f_len boot_len (pa_cons (pv 0) pa_nil)) pa_nil))) (pg_name (i := 3) sc_ranks_to_zero.nd rfl (Or.inl rfl)) (pss_one (ps_for PassesOwn.never rfl (kPiL K rfl (pe_ix (kIxL K rfl) (pv 0) (pv 3) (fun _ _ => rfl))) (kPgT (n := 2) K rfl rfl (pgs_cons (pg_name (i := 4) sc_ranks_to_zero.nd rfl (Or.inl rfl)) (pgs_cons (pg_name (i := 5) sc_ranks_to_zero.nd rfl (Or.inl rfl)) pgs_nil))) (pss_one (ps_if (pt_cmpR op_notN1 (pe_ix (kIxL K rfl) (pv 1) (pv 4) (fun _ _ => rfl)) pe_non (nomark _)) (pss_cons (ps_set (i := 6) sc_ranks_to_zero.nd rfl (Or.inl rfl) (pe_tup (pa_cons (pe_op op_add (pv 5) (pe_ix (kIxT K rfl) (pe_ix (kIxL K rfl) (pv 1) (pv 4) (fun _ _ => rfl)) pe_int (fun _ _ => rfl))) (pa_cons (pe_op op_add pe_int (pe_ix (kIxT K rfl) (pe_ix (kIxL K rfl) (pv 1) (pv 4) (fun _ _ => rfl)) pe_int (fun _ _ => rfl))) pa_nil))))
      (pss_one (ps_if (PW.pt (pw_or (pt_cmpR op_isN1 (pe_ix (kIxL K rfl) (pv 1) (pv 3) (fun _ _ => rfl)) pe_non (nomark _)) (pw_or1 (pt_cmpR (kLtT K rfl hr.units0) (pv 6) (pe_ix (kIxL K rfl) (pv 1) (pv 3) (fun _ _ => rfl)) (nomark _))))) (pss_one (ps_asg (pv 6) (pg_sub (pv 1) (pv 3) set_list))) pss_nil))) pss_nil)))))))
      (pss_one (ps_ret (pv 1)))))), en1 (n := 7) rfl fun B W Q hp rt => ?_⟩
  have h1 := hp.pos
  have h2 := hp.le
  refine q_asgL (R := rOpt (rPair rInt rInt)) (EvL.to (el_lc (R := rLst (rPair rInt rInt)) (xs := W) (f := fun _ => none) (by wtm_at "E") tg_name (by decide) (by omega) (fun row hrow => ev_none)) (map_none W)) ?_
  refine q_set (n := 0) (x := some (0, 0)) rfl (Ev.some (by wtm_at "E")) (by wtm_at "E") (ixN_D (Int.le_refl _) (by rw [List.length_replicate]; omega)) ?_
  refine q_forL (I := Unit) (fun i _ => True) (fun i _ => [sf rWTb W, sm (rOpt (rPair rInt rInt)) ((W.take i).foldl (fun L _ => rkT W L) (rk0 W.length)), .any, .any, .any, .any, .any, .any]) tg_name (by wtm_at "E") ⟨(), trivial, by wtm_at "sub"⟩ (fun B1 up i _ y hy _ => ?_) (fun _ _ => ?_)
  · rw [fold_step hy]
    have hLl : ((W.take i).foldl (fun L _ => rkT W L) (rk0 W.length)).length = W.length := foldl_inv (fun M : Rk => M.length = W.length) (rk0_length _) fun c x _ h => (rkT_length _ _).trans h
    generalize (W.take i).foldl (fun L _ => rkT W L) (rk0 W.length) = L at hLl
    refine s_forR2 (I := Unit) (fun j _ => True) (fun j _ => [sf rWTb W, sm (rOpt (rPair rInt rInt)) ((List.range j).foldl (rkS W) L), .any, .any, .any, .any, .any, .any]) (by wtm_at "E") (by wtm_at "E") (by omega) ⟨(), trivial, by wtm_at "sub"⟩ (fun j _ hj _ => ?_) (fun _ _ => ?_)
    · have hj1 : ((1 : Int) + (j : Int)) = ((j + 1 : Nat) : Int) := by omega
      rw [hj1]
      have hjl : j + 1 < W.length := by omega
      have hrow := hp.two _ (getD_mem (d := []) hjl)
      rw [fold_range]
      have hMl : ((List.range j).foldl (rkS W) L).length = W.length := foldl_inv (fun M : Rk => M.length = W.length) hLl fun c x _ h => (rkS_length _ _ _).trans h
      generalize (List.range j).foldl (rkS W) L = M at hMl
      have i0 : atI W ((j + 1 : Nat) : Int) = some (W.getD (j + 1) []) := atI_L hjl
      refine s_forL (I := Unit) (xs := W.getD (j + 1) []) (fun k _ => True) (fun k _ => [sf rWTb W, sm (rOpt (rPair rInt rInt)) (((W.getD (j + 1) []).take k).foldl (rk1 (j + 1)) M), .any, sf rInt ((j + 1 : Nat) : Int), .any, .any, .any, .any]) tg_pair (by wtm_at "E") ⟨(), trivial, by wtm_at "sub"⟩ (fun B2 up2 k _ e he _ => ?_) (fun _ _ => ?_)
      · rw [fold_step he]
        have hee := hrow.2 e (List.mem_of_getElem? he)
        have hNl : (((W.getD (j + 1) []).take k).foldl (rk1 (j + 1)) M).length = W.length := foldl_inv (fun M : Rk => M.length = W.length) hMl fun c x _ h => (rk1_length _ _ _).trans h
        generalize ((W.getD (j + 1) []).take k).foldl (rk1 (j + 1)) M = N at hNl
        have i1 : atI N e.1 = some (N.getD e.1.toNat none) := atI_D none hee.1 (by rw [hNl]; exact hee.2)
        have i2 : atI N ((j + 1 : Nat) : Int) = some (N.getD (j + 1) none) := atI_D none (by omega) (by rw [hNl]; omega)
        unfold rk1
        cases hA : N.getD e.1.toNat none with
        | none =>
          rw [hA] at i1
          refine s_if (et_test (ev_notN (ev_ixM rfl (by wtm_at "E") i1))) (fun h => by cases h) (fun _ => s_next (wn_lp () trivial (by wtm_at "sub")))
        | some a =>
          rw [hA] at i1
          refine s_if (et_test (ev_notN (ev_ixM rfl (by wtm_at "E") i1))) (fun _ => ?_) (fun h => by cases h)
          refine q_asg (x := (e.2 + a.1, 1 + a.2)) (ev_pair (ev_opI0 (f := fun i j => i + j) (by wtm_at "E") (ev_fst (Ev.unopt (ev_ixM rfl (by wtm_at "E") i1)))) (ev_opI0 (f := fun i j => i + j) (by wtm_at "E") (ev_snd (Ev.unopt (ev_ixM rfl (by wtm_at "E") i1))))) ?_
          have hset : ixN N.length ((j + 1 : Nat) : Int) = some (j + 1) := ixN_n (by rw [hNl]; exact hjl)
          cases hC : N.getD (j + 1) none with
          | none =>
            rw [hC] at i2
            refine s_if (et_or (et_test (ev_isN (ev_ixM rfl (by wtm_at "E") i2))) (fun h => by cases h)) (b := true || false) (fun _ => ?_) (fun h => by cases h)
            exact s_set (n := j + 1) rfl (Ev.some (by wtm_at "E")) (by wtm_at "E") hset (wn_lp () trivial (by wtm_at "sub"))
          | some c =>
            rw [hC] at i2
            dsimp only
            refine s_if (b := (some c : Option (Int × Int)).isNone || ltP (e.2 + a.1, 1 + a.2) c) (et_or (et_test (ev_isN (ev_ixM rfl (by wtm_at "E") i2))) (fun h => et_test (ev_ltP (by wtm_at "E") (Ev.unopt (ev_ixM rfl (by wtm_at "E") i2))))) (fun h => ?_) (fun h => ?_)
            · rw [if_pos (show ltP (e.2 + a.1, 1 + a.2) c = true from h)]
              exact s_set (n := j + 1) rfl (Ev.some (by wtm_at "E")) (by wtm_at "E") hset (wn_lp () trivial (by wtm_at "sub"))
            · rw [if_neg (by rw [show ltP (e.2 + a.1, 1 + a.2) c = false from h]; exact Bool.false_ne_true)]
              exact s_next (wn_lp () trivial (by wtm_at "sub"))
      · rw [List.take_length]
        exact wn_lp () trivial (by wtm_at "sub")
    · rw [show ((W.length : Int) - 1).toNat = W.length - 1 by omega]
      exact wn_lp () trivial (by wtm_at "sub")
  · rw [List.take_length]
    refine wn_fz (i := 1) rfl ?_
    refine s_ret (by wtm_at "E") rt rfl
abbrev RkOk (t : Taps) : Prop := ∀ o, o ∈ rkN (wtb t) → o ≠ none
abbrev sp_weights_to_zero (K : PySem.W.Frag) : Sp := spD1 (rEncoder K) (fun t => GT t ∧ RkOk t) (rLst rInt) wz
abbrev Pr_weights_to_zero (P : Program) (w : World) (K : PySem.W.Frag) (mg : Str → Option Value) (base : Heap) : Prop := Pr P w K mg base (He.ga K "weights_to_zero") 5 ["encoder"] (sp_weights_to_zero K) []
def nm_weights_to_zero : List Str := ["encoder", "rank"]
theorem sc_weights_to_zero : FnScope nm_weights_to_zero ["encoder"] (defScope s_weights_to_zero) := ⟨rfl, rfl, rfl, by decide +kernel, rfl, by decide +kernel, by decide +kernel⟩
theorem ok_weights_to_zero {P : Program} {w : World} {K : PySem.W.Frag} {mg : Str → Option Value} {base : Heap} (T : Tx K mg) (cweighted_steps : Pr_weighted_steps P w K mg base) (cranks_to_zero : Pr_ranks_to_zero P w K mg base) : Pr_weights_to_zero P w K mg base := by
  refine pr_of (N := nm_weights_to_zero) (k := 4) T.d_weights_to_zero sc_weights_to_zero (fun _ _ _ _ _ _ us hl => match us, hl with | [_], _ => rfl) len1 fun cdv A outer s H E hr => ⟨_, (pss_one (ps_ret (pe_lc (own := [("rank", 1)]) rfl sc_weights_to_zero.nd (kPiL K rfl (pe_cal cranks_to_zero T.g_ranks_to_zero hr (pa_cons (pe_cal cweighted_steps T.g_weighted_steps hr (pa_cons (pv 0) pa_nil)) pa_nil))) (blkOk_by (own := [("rank", 1)]) (N := nm_weights_to_zero) (sc := (defScope s_weights_to_zero)) (by decide +kernel)) (fun _ _ _ _ _ => (pg_name (i := 1) sc_weights_to_zero.nd rfl (Or.inl rfl))) (fun _ _ _ _ _ => pts_nil) (fun _ _ _ _ _ => (pe_ix (kIxT K rfl) (pv 1) pe_int (fun _ _ => rfl)))))), en1 (n := 1) rfl fun B t Q hp rt => ?_⟩
  obtain ⟨g, h⟩ := hp
  have hw := wtb_ok g
  refine s_ret (EvL.ev (EvL.to (el_lc (R := rOpt (rPair rInt rInt)) (xs := rkN (wtb t)) (f := fun o => (o.getD (0, 0)).1) (cd1 (cd1 (by wtm_at "E") g) hw) tg_name (by decide) (by rw [rkN_length]; have := hw.le; omega) (fun o ho => ?_)) rfl)) rt rfl
  cases o with
  | none => exact absurd rfl (h _ ho)
  | some x => exact ev_fst (x := x) (Ev.unopt (by wtm_at "E"))
abbrev sp_free_distance (K : PySem.W.Frag) : Sp := spD1 (rEncoder K) (fun t => GT t ∧ RkOk t) rInt frd
abbrev Pr_free_distance (P : Program) (w : World) (K : PySem.W.Frag) (mg : Str → Option Value) (base : Heap) : Prop := Pr P w K mg base (He.ga K "free_distance") 6 ["encoder"] (sp_free_distance K) []
def nm_free_distance : List Str := ["encoder", "after", "weight"]
theorem sc_free_distance : FnScope nm_free_distance ["encoder"] (defScope s_free_distance) := ⟨rfl, rfl, rfl, by decide +kernel, rfl, by decide +kernel, by decide +kernel⟩
theorem ok_free_distance {P : Program} {w : World} {K : PySem.W.Frag} {mg : Str → Option Value} {base : Heap} (T : Tx K mg) (cweighted_steps : Pr_weighted_steps P w K mg base) (cweights_to_zero : Pr_weights_to_zero P w K mg base) : Pr_free_distance P w K mg base := by
  refine pr_of (N := nm_free_distance) (k := 5) T.d_free_distance sc_free_distance (fun _ _ _ _ _ _ us hl => match us, hl with | [_], _ => rfl) len1 fun cdv A outer s H E hr => ⟨_, (pss_cons (ps_asg (pe_ix (kIxL K rfl) (pe_ix (kIxL K rfl) (pe_cal cweighted_steps T.g_weighted_steps hr (pa_cons (pv 0) pa_nil)) pe_int (fun _ _ => rfl)) pe_int (fun _ _ => rfl)) (kPgT (n := 2) K rfl rfl (pgs_cons (pg_name (i := 1) sc_free_distance.nd rfl (Or.inl rfl)) (pgs_cons (pg_name (i := 2) sc_free_distance.nd rfl (Or.inl rfl)) pgs_nil))))
      (pss_one (ps_ret (pe_op op_add (pv 2) (pe_ix (kIxL K rfl) (pe_cal cweights_to_zero T.g_weights_to_zero hr (pa_cons (pv 0) pa_nil)) (pv 1) (fun _ _ => rfl)))))), en1 (n := 2) rfl fun B t Q hp rt => ?_⟩
  obtain ⟨g, h⟩ := hp
  have hw := wtb_ok g
  have h1 := hw.pos
  have hr := hw.two _ (getD_mem (d := []) (show 0 < (wtb t).length by omega))
  have i0 : atI (wtb t) 0 = some ((wtb t).getD 0 []) := atI_L (k := 0) h1
  have i1 : atI ((wtb t).getD 0 []) 1 = some (((wtb t).getD 0 []).getD 1 (0, 0)) := atI_D (0, 0) (by decide) (by rw [hr.1]; decide)
  have hm : ((wtb t).getD 0 []).getD 1 (0, 0) ∈ (wtb t).getD 0 [] := getD_mem (by rw [hr.1]; decide)
  have he := hr.2 _ hm
  have hz : (wz t).length = (wtb t).length := by unfold wz; rw [List.length_map, rkN_length]
  have i2 : atI (wz t) (((wtb t).getD 0 []).getD 1 (0, 0)).1 = some ((wz t).getD (((wtb t).getD 0 []).getD 1 (0, 0)).1.toNat 0) := atI_D 0 he.1 (by rw [hz]; exact he.2)
  refine q_tgt tg_pair (ev_ixL (ev_ixL (cd1 (by wtm_at "E") g) (by wtm_at "E") i0) (by wtm_at "E") i1) ?_
  refine s_ret (ev_opI0 (f := fun i j => i + j) (by wtm_at "E") (ev_ixL (cd1 (by wtm_at "E") ⟨g, h⟩) (by wtm_at "E") i2)) rt rfl
end NW
set_option maxHeartbeats 4000000
namespace NW
open PySem PySem.Spec PyProof.Rows L2 G MX
local macro_rules | `(tactic| wtm_at "nl") => `(tactic| first
  | with_reducible exact nl_Field_digits _ _
  | with_reducible exact nl_Field_element _ _
  | with_reducible exact nl_Field_plus _ _
  | with_reducible exact nl_Field_negative _ _
  | with_reducible exact nl_Field_minus _ _
  | with_reducible exact nl_Field_times _ _
  | with_reducible exact nl_Field_inverse _ _
  | with_reducible exact nl_LinearCode_words _ _
  | with_reducible exact nl_Encoder_advance _ _
  | with_reducible exact nl_Encoder__fed _ _
  | with_reducible exact nl_Encoder_word_for _ _
  | with_reducible exact nl_Encoder_linear _ _
  | with_reducible exact nl_Trellis_moves_from _ _
  | with_reducible exact nl_Trellis_costs_table _ _
  | with_reducible exact nl_Trellis_best_moves _ _
  | with_reducible exact nl_Summary_grown _ _
  | with_reducible exact nl_PathDecoder_restart _ _
  | with_reducible exact nl_PathDecoder_take _ _
  | with_reducible exact nl_PathDecoder_answer _ _)
local macro_rules | `(tactic| wtm_at "side") => `(tactic| first
  | assumption
  | exact rfl
  | exact atI_0 (by omega)
  | exact atI_L (by omega)
  | omega
  | exact trivial
  | exact fun _ h => h
  | exact List.mem_singleton.mpr rfl
  | wtm_at "nl"
  | exact Or.inr ⟨by omega, by omega⟩
  | exact Or.inl ⟨by omega, by omega⟩
  | (show (0 : Int) < _; omega)
  | exact ⟨by omega, by omega⟩
  | exact ⟨rfl, rfl⟩
  | exact MX.Bits.getD (by assumption) _
  | exact ⟨by assumption, by assumption⟩
  | exact ⟨by assumption, by assumption, by assumption⟩
  | exact ⟨by assumption, MX.Bits.getD (by assumption) _⟩
  | decide
  | (show (_ : Nat) ≤ 10000000; (simp only [List.length_cons, List.length_nil, List.length_append]; omega))
  | (show (_ : Nat) < 10000000; (simp only [List.length_cons, List.length_nil, List.length_append]; omega)))
local macro_rules | `(tactic| wtm_at "evop") => `(tactic| first
  | ((with_reducible refine' ev_opI0 _ _) <;> wtm_at "ev2")
  | ((with_reducible refine' ev_opB0 _ _) <;> wtm_at "ev2")
  | ((with_reducible refine' ev_opI _ _ _) <;> wtm_at "ev2")
  | ((with_reducible refine' ev_ixL (m := _) _ _ _) <;> wtm_at "ev2")
  | ((with_reducible show Ev _ _ (tOp (rIxL _) (tVar _) _) _ _); (refine' ev_ixM rfl _ _) <;> wtm_at "ev2")
  | ((with_reducible refine' ev_eqI _ _) <;> wtm_at "ev2")
  | ((with_reducible refine' ev_neI _ _) <;> wtm_at "ev2")
  | ((with_reducible refine' ev_isN (n := _) _) <;> wtm_at "ev2")
  | ((with_reducible refine' ev_notN (n := _) _) <;> wtm_at "ev2")
  | ((with_reducible refine' ev_fst (m := _) (n := _) _) <;> wtm_at "ev2")
  | ((with_reducible refine' ev_snd (m := _) (n := _) _) <;> wtm_at "ev2")
  | ((with_reducible refine' ev_tri1 _) <;> wtm_at "ev2")
  | ((with_reducible refine' ev_tri2 _) <;> wtm_at "ev2")
  | ((with_reducible refine' ev_ixT (m := _) _ _ _) <;> wtm_at "ev2")
  | ((with_reducible refine' ev_ixS (m := _) _ _ _) <;> wtm_at "ev2")
  | ((with_reducible refine' EvL.ev (m := _) _) <;> wtm_at "ev2"))
local macro_rules | `(tactic| wtm_at "evfld") => `(tactic| first
  | ((with_reducible refine' ev_Field_prime _) <;> wtm_at "ev2")
  | ((with_reducible refine' ev_Field_modulus _) <;> wtm_at "ev2")
  | ((with_reducible refine' ev_Field_degree _) <;> wtm_at "ev2")
  | ((with_reducible refine' ev_Field_order _) <;> wtm_at "ev2")
  | ((with_reducible refine' ev_LinearCode_field _) <;> wtm_at "ev2")
  | ((with_reducible refine' ev_LinearCode_length _) <;> wtm_at "ev2")
  | ((with_reducible refine' ev_LinearCode_dimension _) <;> wtm_at "ev2")
  | ((with_reducible refine' ev_LinearCode_rows _) <;> wtm_at "ev2")
  | ((with_reducible refine' ev_LinearCode_pivots _) <;> wtm_at "ev2")
  | ((with_reducible refine' ev_LinearCode_checks _) <;> wtm_at "ev2")
  | ((with_reducible refine' ev_LinearCode_size _) <;> wtm_at "ev2")
  | ((with_reducible refine' ev_Encoder_taps _) <;> wtm_at "ev2")
  | ((with_reducible refine' ev_Encoder_memory _) <;> wtm_at "ev2")
  | ((with_reducible refine' ev_Encoder_outputs _) <;> wtm_at "ev2")
  | ((with_reducible refine' ev_Encoder_state_count _) <;> wtm_at "ev2")
  | ((with_reducible refine' ev_Trellis_steps _) <;> wtm_at "ev2")
  | ((with_reducible refine' ev_Trellis_message_length _) <;> wtm_at "ev2")
  | ((with_reducible refine' ev_Trellis_table _) <;> wtm_at "ev2")
  | ((with_reducible refine' ev_Summary_cost _) <;> wtm_at "ev2")
  | ((with_reducible refine' ev_Summary_count_of _) <;> wtm_at "ev2")
  | ((with_reducible refine' ev_Summary_first _) <;> wtm_at "ev2")
  | ((with_reducible refine' ev_Summary_start_of _) <;> wtm_at "ev2")
  | ((with_reducible refine' ev_PathDecoder_encoder _) <;> wtm_at "ev2")
  | ((with_reducible refine' ev_PathDecoder_table _) <;> wtm_at "ev2")
  | ((with_reducible refine' ev_PathDecoder_steps _) <;> wtm_at "ev2")
  | ((with_reducible refine' ev_PathDecoder_summaries _) <;> wtm_at "ev2"))
local macro_rules | `(tactic| wtm_at "evcb") => `(tactic| first
  | ((with_reducible show Ev _ _ (tCB (rLen _) (tCons (tVar _) tNil)) _ _); exact ev_lenM rfl)
  | ((with_reducible refine' ev_lenL _) <;> wtm_at "ev2")
  | ((with_reducible refine' ev_lenT _) <;> wtm_at "ev2")
  | ((with_reducible refine' ev_lenS _) <;> wtm_at "ev2")
  | ((with_reducible refine' ev_int1 _) <;> wtm_at "ev2")
  | ((with_reducible refine' ev_intB _) <;> wtm_at "ev2")
  | ((with_reducible refine' ev_abs _) <;> wtm_at "ev2")
  | ((with_reducible refine' ev_min2 _ _) <;> wtm_at "ev2")
  | ((with_reducible refine' ev_max2 _ _) <;> wtm_at "ev2")
  | ((with_reducible refine' ev_minLL _ _) <;> wtm_at "ev2")
  | ((with_reducible refine' ev_sum _) <;> wtm_at "ev2")
  | ((with_reducible refine' ev_tupL (m := _) _) <;> wtm_at "ev2")
  | ((with_reducible refine' EvL.ev (m := _) _) <;> wtm_at "ev2"))
local macro_rules | `(tactic| wtm_at "evcall") => `(tactic| first
  | ((with_reducible refine' cd1 _ _) <;> wtm_at "ev2")
  | ((with_reducible refine' cd2 _ _ _) <;> wtm_at "ev2")
  | ((with_reducible refine' cd3 _ _ _ _) <;> wtm_at "ev2")
  | ((with_reducible refine' cd4 _ _ _ _ _) <;> wtm_at "ev2")
  | ((with_reducible refine' cd5 _ _ _ _ _ _) <;> wtm_at "ev2"))
local macro_rules | `(tactic| wtm_at "evmeth") => `(tactic| first
  | ((with_reducible refine' md1 _ _ _) <;> wtm_at "ev2")
  | ((with_reducible refine' md2 _ _ _ _) <;> wtm_at "ev2")
  | ((with_reducible refine' md3 _ _ _ _ _) <;> wtm_at "ev2")
  | ((with_reducible refine' md4 _ _ _ _ _ _) <;> wtm_at "ev2"))
local macro_rules | `(tactic| wtm_at "evx") => `(tactic| first
  | ((with_reducible show Ev _ _ (tVar _) _ _); exact ev_var rfl)
  | ((with_reducible show Ev _ _ (tC _) _ _); first | exact ev_int | exact ev_bl | exact ev_none | exact ev_non)
  | ((with_reducible show Ev _ _ (tOp _ _ _) _ _); wtm_at "evop")
  | ((with_reducible show Ev _ _ (tF _ _ _) _ _); wtm_at "evfld")
  | ((with_reducible show Ev _ _ (tCB _ _) _ _); wtm_at "evcb")
  | ((with_reducible show Ev _ _ (tCall _ _ _ _) _ _); wtm_at "evcall")
  | ((with_reducible show Ev _ _ (tMeth _ _ _ _ _ _ _) _ _); wtm_at "evmeth")
  | ((with_reducible show Ev _ _ (tTup _) _ _); first | ((with_reducible refine' ev_pair (m := _) (n := _) _ _) <;> wtm_at "ev2") | ((with_reducible refine' ev_tri (m := _) (n := _) (k := _) _ _ _) <;> wtm_at "ev2"))
  | ((with_reducible refine' ev_neg _) <;> wtm_at "ev2")
  | ((with_reducible refine' ev_notV _) <;> wtm_at "ev2")
  | ((with_reducible show Ev _ _ (tLc _ _ _ _ _) _ _); (with_reducible refine' EvL.ev (m := _) _) <;> wtm_at "ev2")
  | ((with_reducible refine' EvL.ev (m := _) _) <;> wtm_at "ev2"))
local macro_rules | `(tactic| wtm_at "evt") => `(tactic| first
  | ((with_reducible refine' et_test _) <;> wtm_at "ev2")
  | ((with_reducible refine' et_B _) <;> wtm_at "ev2")
  | ((with_reducible refine' et_not _) <;> wtm_at "ev2"))
local macro_rules | `(tactic| wtm_at "evl") => `(tactic| first
  | exact el_nil
  | ((with_reducible refine' el_rep (m := _) _ _ _ _) <;> wtm_at "ev2")
  | ((with_reducible refine' el_cat (m := _) _ _ _) <;> wtm_at "ev2")
  | ((with_reducible refine' el_slice (m := _) _ _ _) <;> wtm_at "ev2")
  | ((with_reducible show EvL _ _ (tSl _ (tVar _) _ _) _ _); (refine' el_sliceM rfl _ _) <;> wtm_at "ev2")
  | ((with_reducible refine' el_listL (m := _) _) <;> wtm_at "ev2")
  | ((with_reducible refine' el_disp (m := _) _ _) <;> wtm_at "ev2")
  | ((with_reducible refine' el_sortLL _) <;> wtm_at "ev2")
  | ((with_reducible refine' el_lc (m := _) (n := _) _ (tg_name (m := _)) _ _ _) <;> wtm_at "ev2")
  | ((with_reducible refine' el_lcR (n := _) _ _ _ _ _) <;> wtm_at "ev2")
  | ((with_reducible refine' el_lc (m := _) (n := _) _ (tg_pair (m := _) (n := _)) _ _ _) <;> wtm_at "ev2")
  | ((with_reducible refine' el_lc (m := _) (n := _) _ (tg_tri (m := _) (n := _) (o := _)) _ _ _) <;> wtm_at "ev2"))
local macro_rules | `(tactic| wtm_at "ev") => `(tactic| first
  | ((with_reducible show Ev _ _ _ _ _); first | ((with_reducible refine' et_chain _ _ _) <;> wtm_at "ev2") | wtm_at "evx")
  | ((with_reducible show EvT _ _ _ _); wtm_at "evt")
  | ((with_reducible show EvL _ _ _ _ _); wtm_at "evl")
  | exact ea_nil
  | exact eh_nil
  | exact eo_none
  | ((with_reducible refine' ea_cons (m := _) _ _) <;> wtm_at "ev2")
  | ((with_reducible refine' eh_cons (m := _) _ _) <;> wtm_at "ev2")
  | ((with_reducible refine' eo_some _) <;> wtm_at "ev2"))
local macro_rules | `(tactic| wtm_at "no") => `(tactic| ((fail_if_success (with_reducible show Ev _ _ _ _ _)); (fail_if_success (with_reducible show EvL _ _ _ _ _)); (fail_if_success (with_reducible show EvT _ _ _ _)); (fail_if_success (with_reducible show EvA _ _ _ _)); (fail_if_success (with_reducible show EvH _ _ _ _ _)); (fail_if_success (with_reducible show EvO _ _ _ _))))
local macro_rules | `(tactic| wtm_at "ev2") => `(tactic| first | wtm_at "ev" | (wtm_at "no"; first | infer_instance | (intro x hx; wtm_at "ev") | skip))
local macro_rules | `(tactic| wtm_at "E") => `(tactic| ((wtm_at "ev") <;> (try infer_instance)) <;> (try (refine Iff.mp Iff.rfl ?_; wtm_at "side")))
local macro_rules | `(tactic| wtm_at "sub") => `(tactic| repeat' first | exact Sub.nil | apply Sub.any | apply Sub.same | (apply Sub.fz) | (apply Sub.ml))
/-! ### the path decoder -/
abbrev sp_common_start (K : PySem.W.Frag) : Sp := spD2 (rLst rInt) (rLst rInt) (fun a b => a.length ≤ 100000 ∧ b.length ≤ 100000) (rLst rInt) cst
abbrev Pr_common_start (P : Program) (w : World) (K : PySem.W.Frag) (mg : Str → Option Value) (base : Heap) : Prop := Pr P w K mg base (He.ga K "common_start") 1 ["first", "second"] (sp_common_start K) []
def nm_common_start : List Str := ["first", "second", "size"]
theorem sc_common_start : FnScope nm_common_start ["first", "second"] (defScope s_common_start) := ⟨rfl, rfl, rfl, by decide +kernel, rfl, by decide +kernel, by decide +kernel⟩
theorem ok_common_start {P : Program} {w : World} {K : PySem.W.Frag} {mg : Str → Option Value} {base : Heap} (T : Tx K mg)  : Pr_common_start P w K mg base := by
  refine pr_of (N := nm_common_start) (k := 0) T.d_common_start sc_common_start (fun _ _ _ _ _ _ us hl => match us, hl with | [_, _], _ => rfl) len2 fun cdv A outer s H E hr => ⟨_, (pss_cons (ps_set (i := 2) sc_common_start.nd rfl (Or.inl rfl) pe_int)
      (pss_cons (ps_while PassesOwn.never (PW.pt (pw_and (pt_cmpR op_lt (pv 2) (pe_callB (cl_min2 rfl) (by rfl) T.f_min bb_min (pa_cons (pe_callB (kLen K rfl) (by rfl) T.f_len boot_len (pa_cons (pv 0) pa_nil)) (pa_cons (pe_callB (kLen K rfl) (by rfl) T.f_len boot_len (pa_cons (pv 1) pa_nil)) pa_nil))) (nomark _)) (pw_and1 (pt_cmpR op_eq (pe_ix (kIxL K rfl) (pv 0) (pv 2) (fun _ _ => rfl)) (pe_ix (kIxL K rfl) (pv 1) (pv 2) (fun _ _ => rfl)) (nomark _))))) (pss_one (ps_set (i := 2) sc_common_start.nd rfl (Or.inl rfl) (pe_op op_add (pv 2) pe_int))))
      (pss_one (ps_ret (pe_slice (kSl K rfl) (pv 0) po_none (po_some (pv 2))))))), en2 (n := 1) rfl fun B a b Q hp rt => ?_⟩
  obtain ⟨h1, h2⟩ := hp
  refine q_asg (by wtm_at "E") ?_
  refine q_while (I := Nat) (fun k => k ≤ a.length ∧ k ≤ b.length ∧ ∀ i, i < k → a.getD i 0 = b.getD i 0) (fun k => [sf (rLst rInt) a, sf (rLst rInt) b, sf rInt (k : Int)]) (fun k => a.length - k) (fun k => decide ((k : Int) < min (a.length : Int) (b.length : Int)) && decide (a.getD k 0 = b.getD k 0)) ⟨0, ⟨Nat.zero_le _, Nat.zero_le _, fun i h => absurd h (Nat.not_lt_zero i)⟩, by wtm_at "sub"⟩ (fun k hk => ?_) (fun k hk ht => ?_) (fun k hk ht => ?_)
  · refine et_and (by wtm_at "E") (fun h => ?_)
    have h : (k : Int) < min (a.length : Int) (b.length : Int) := by simpa using h
    have k1 : k < a.length := by omega
    have k2 : k < b.length := by omega
    wtm_at "E"
  · simp only [Bool.and_eq_true, decide_eq_true_eq] at ht
    have q1 : (k : Int) < min (a.length : Int) (b.length : Int) := ht.1
    refine s_asg (by wtm_at "E") (wn_lp (k + 1) ⟨⟨by omega, by omega, fun i hi => ?_⟩, by omega⟩ (by wtm_at "sub"))
    by_cases e : i = k
    · rw [e]; exact ht.2
    · exact hk.2.2 i (by omega)
  · refine s_ret (EvL.ev (EvL.to (by wtm_at "E") (cutA_take (by omega)))) rt ?_
    rw [Int.toNat_natCast]
    refine (cst_take hk.1 hk.2.1 hk.2.2 fun q1 q2 q3 => ?_).symm
    simp only [Bool.and_eq_false_iff, decide_eq_false_iff_not] at ht
    rcases ht with q | q
    · omega
    · exact q q3
abbrev sp_Summary___init__ (K : PySem.W.Frag) : Sp := spI' (aSummary K) (rSummary K) (fun (x : Sm) => [fz' rInt x.cost, fz' rInt x.cnt, fz' (rLst rInt) x.first, fz' (rLst rInt) x.start]) (fun _ => True) (fun x => x)
abbrev Pr_Summary___init__ (P : Program) (w : World) (K : PySem.W.Frag) (mg : Str → Option Value) (base : Heap) : Prop := Pr P w K mg base (He.ma K (aSummary K) "__init__") 1 ["self", "cost", "count", "first", "start"] (sp_Summary___init__ K) []
def nm_Summary___init__ : List Str := ["self", "cost", "count", "first", "start"]
theorem sc_Summary___init__ : FnScope nm_Summary___init__ ["self", "cost", "count", "first", "start"] (defScope s_Summary___init__) := ⟨rfl, rfl, rfl, by decide +kernel, rfl, by decide +kernel, by decide +kernel⟩
theorem ok_Summary___init__ {P : Program} {w : World} {K : PySem.W.Frag} {mg : Str → Option Value} {base : Heap} (T : Tx K mg)  : Pr_Summary___init__ P w K mg base := by
  refine pr_of (N := nm_Summary___init__) (k := 0) T.d_Summary___init__ sc_Summary___init__ (fun _ _ _ _ _ _ us hl => match us, hl with | [_, _, _, _, _], _ => rfl) (lenI fun _ => rfl) fun cdv A outer s H E hr => ⟨_, (pss_cons (ps_fT (pv 0) (pv 1) T.c_Summary T.n_Summary_cost)
      (pss_cons (ps_fT (pv 0) (pv 2) T.c_Summary T.n_Summary_count_of)
      (pss_cons (ps_fT (pv 0) (pv 3) T.c_Summary T.n_Summary_first)
      (pss_one (ps_fT (pv 0) (pv 4) T.c_Summary T.n_Summary_start_of))))), enI (N := ["cost", "count", "first", "start"]) (n := 0) (fun _ => rfl) fun B p z Q hp rt => ?_⟩
  refine q_fldN [] rfl (by wtm_at "E") rfl (by decide +kernel) (by decide) ?_
  refine q_fldN ["cost"] rfl (by wtm_at "E") rfl (by decide +kernel) (by decide) ?_
  refine q_fldN ["cost", "count_of"] rfl (R := rLst rInt) (by wtm_at "E") rfl (by decide +kernel) (by decide) ?_
  refine s_fldN ["cost", "count_of", "first"] rfl (R := rLst rInt) (by wtm_at "E") rfl (by decide +kernel) (by decide) ?_
  exact s_offI (i := 0) (fs := fsSummary K z) rfl rt fun F v h => h
abbrev sp_Summary_grown (K : PySem.W.Frag) : Sp := spD3 (rSummary K) rInt rInt (fun x b c => x.first.length ≤ 100000) (rSummary K) gwn
abbrev Pr_Summary_grown (P : Program) (w : World) (K : PySem.W.Frag) (mg : Str → Option Value) (base : Heap) : Prop := Pr P w K mg base (He.ma K (aSummary K) "grown") 3 ["self", "bit", "cost"] (sp_Summary_grown K) []
def nm_Summary_grown : List Str := ["self", "bit", "cost", "start"]
theorem sc_Summary_grown : FnScope nm_Summary_grown ["self", "bit", "cost"] (defScope s_Summary_grown) := ⟨rfl, rfl, rfl, by decide +kernel, rfl, by decide +kernel, by decide +kernel⟩
theorem ok_Summary_grown {P : Program} {w : World} {K : PySem.W.Frag} {mg : Str → Option Value} {base : Heap} (T : Tx K mg) (cSummary___init__ : Pr_Summary___init__ P w K mg base) : Pr_Summary_grown P w K mg base := by
  refine pr_of (N := nm_Summary_grown) (k := 2) T.d_Summary_grown sc_Summary_grown (fun _ _ _ _ _ _ us hl => match us, hl with | [_, _, _], _ => rfl) len3 fun cdv A outer s H E hr => ⟨_, (pss_cons (ps_set (i := 3) sc_Summary_grown.nd rfl (Or.inl rfl) (pe_fT (pv 0) T.c_Summary T.n_Summary_start_of))
      (pss_cons (ps_if (pt_cmpR op_eq (pe_fT (pv 0) T.c_Summary T.n_Summary_count_of) pe_int (nomark _)) (pss_one (ps_set (i := 3) sc_Summary_grown.nd rfl (Or.inl rfl) (pe_op op_cat (pe_fT (pv 0) T.c_Summary T.n_Summary_first) (pe_lst (pa_cons (pv 1) pa_nil))))) pss_nil)
      (pss_one (ps_ret (pe_make T.mk_Summary cSummary___init__.F (hr.mono (by decide)) rfl T.gc_Summary cSummary___init__.b cSummary___init__.v pass0 (pa_cons (pe_op op_add (pe_fT (pv 0) T.c_Summary T.n_Summary_cost) (pv 2)) (pa_cons (pe_fT (pv 0) T.c_Summary T.n_Summary_count_of) (pa_cons (pe_op op_cat (pe_fT (pv 0) T.c_Summary T.n_Summary_first) (pe_lst (pa_cons (pv 1) pa_nil))) (pa_cons (pv 3) pa_nil))))))))), en3 (n := 1) rfl fun B x b c Q hp rt => ?_⟩
  refine q_asg (by wtm_at "E") ?_
  refine q_when (by wtm_at "E") (fun h => ?_) (fun h => ?_)
  · refine s_asg (x := x.first ++ [b]) (EvL.ev (el_cat (by wtm_at "E") (by wtm_at "E") (by show _ + 1 ≤ _; omega))) ?_
    have h : x.cnt = 1 := by simpa using h
    dsimp only
    refine s_ret (ev_make (gwn x b c) (ea_cons (Ev.to (by wtm_at "E") (by rfl)) (ea_cons (Ev.to (by wtm_at "E") (by rfl)) (ea_cons (EvL.ev (el_cat (by wtm_at "E") (by wtm_at "E") (by show _ + 1 ≤ _; omega))) (ea_cons (Ev.to (by wtm_at "E") (by show _ = if x.cnt = 1 then _ else _; rw [if_pos h])) ea_nil)))) trivial) rt rfl
  · have h : x.cnt ≠ 1 := by simpa using h
    refine s_ret (ev_make (gwn x b c) (ea_cons (Ev.to (by wtm_at "E") (by rfl)) (ea_cons (Ev.to (by wtm_at "E") (by rfl)) (ea_cons (EvL.ev (el_cat (by wtm_at "E") (by wtm_at "E") (by show _ + 1 ≤ _; omega))) (ea_cons (Ev.to (by wtm_at "E") (by show _ = if x.cnt = 1 then _ else _; rw [if_neg h])) ea_nil)))) trivial) rt rfl
abbrev sp_merged (K : PySem.W.Frag) : Sp := spD2 (rOpt (rSummary K)) (rSummary K) (fun o y => (∀ x, o = some x → SmB 100000 x) ∧ SmB 100000 y) (rSummary K) mgd
abbrev Pr_merged (P : Program) (w : World) (K : PySem.W.Frag) (mg : Str → Option Value) (base : Heap) : Prop := Pr P w K mg base (He.ga K "merged") 3 ["one", "other"] (sp_merged K) []
def nm_merged : List Str := ["one", "other", "start"]
theorem sc_merged : FnScope nm_merged ["one", "other"] (defScope s_merged) := ⟨rfl, rfl, rfl, by decide +kernel, rfl, by decide +kernel, by decide +kernel⟩
theorem ok_merged {P : Program} {w : World} {K : PySem.W.Frag} {mg : Str → Option Value} {base : Heap} (T : Tx K mg) (ccommon_start : Pr_common_start P w K mg base) (cSummary___init__ : Pr_Summary___init__ P w K mg base) : Pr_merged P w K mg base := by
  refine pr_of (N := nm_merged) (k := 2) T.d_merged sc_merged (fun _ _ _ _ _ _ us hl => match us, hl with | [_, _], _ => rfl) len2 fun cdv A outer s H E hr => ⟨_, (pss_cons (ps_if (pt_cmpR op_isN1 (pv 0) pe_non (nomark _)) (pss_one (ps_ret (pv 1))) pss_nil)
      (pss_cons (ps_if (PW.pt (pw_or (pt_cmpR op_isN1 (pv 1) pe_non (nomark _)) (pw_or1 (pt_cmpR op_lt (pe_fT (pv 0) T.c_Summary T.n_Summary_cost) (pe_fT (pv 1) T.c_Summary T.n_Summary_cost) (nomark _))))) (pss_one (ps_ret (pv 0))) pss_nil)
      (pss_cons (ps_if (pt_cmpR op_lt (pe_fT (pv 1) T.c_Summary T.n_Summary_cost) (pe_fT (pv 0) T.c_Summary T.n_Summary_cost) (nomark _)) (pss_one (ps_ret (pv 1))) pss_nil)
      (pss_cons (ps_set (i := 2) sc_merged.nd rfl (Or.inl rfl) (pe_cal ccommon_start T.g_common_start hr (pa_cons (pe_fT (pv 0) T.c_Summary T.n_Summary_start_of) (pa_cons (pe_fT (pv 1) T.c_Summary T.n_Summary_start_of) pa_nil))))
      (pss_one (ps_ret (pe_make T.mk_Summary cSummary___init__.F (hr.mono (by decide)) rfl T.gc_Summary cSummary___init__.b cSummary___init__.v pass0 (pa_cons (pe_fT (pv 0) T.c_Summary T.n_Summary_cost) (pa_cons (pe_op op_add (pe_fT (pv 0) T.c_Summary T.n_Summary_count_of) (pe_fT (pv 1) T.c_Summary T.n_Summary_count_of)) (pa_cons (pe_callB (kMinLL K rfl rfl hr.units) (by rfl) T.f_min bb_min (pa_cons (pe_fT (pv 0) T.c_Summary T.n_Summary_first) (pa_cons (pe_fT (pv 1) T.c_Summary T.n_Summary_first) pa_nil))) (pa_cons (pv 2) pa_nil))))))))))), en2 (n := 1) rfl fun B o y Q hp rt => ?_⟩
  obtain ⟨h1, h2⟩ := hp
  cases o with
  | none =>
    refine q_when (b := (none : Option Sm).isNone) (by wtm_at "E") (fun _ => s_ret (by wtm_at "E") rt rfl) (fun h => by cases h)
  | some x =>
    have hx := h1 x rfl
    refine q_no (b := (some x : Option Sm).isNone) (by wtm_at "E") rfl ?_
    refine wn_some (i := 0) rfl ?_
    refine q_when (b := (some y : Option Sm).isNone || decide (x.cost < y.cost)) (et_or (et_test (ev_isN (Ev.some (by wtm_at "E")))) (fun _ => by wtm_at "E")) (fun h => ?_) (fun h => ?_)
    · have h : x.cost < y.cost := by simpa using h
      refine s_ret (by wtm_at "E") rt ?_
      show x = if x.cost < y.cost then x else _
      rw [if_pos h]
    · have h : ¬ x.cost < y.cost := by simpa using h
      refine q_when (by wtm_at "E") (fun h' => ?_) (fun h' => ?_)
      · have h' : y.cost < x.cost := by simpa using h'
        refine s_ret (by wtm_at "E") rt ?_
        show y = if x.cost < y.cost then x else if y.cost < x.cost then y else _
        rw [if_neg h, if_pos h']
      · have h' : ¬ y.cost < x.cost := by simpa using h'
        refine q_asg (cd2 (by wtm_at "E") (by wtm_at "E") ⟨hx.2, h2.2⟩) ?_
        refine s_ret (ev_make ⟨x.cost, x.cnt + y.cnt, if y.first < x.first then y.first else x.first, cst x.start y.start⟩ (ea_cons (Ev.to (by wtm_at "E") (by rfl)) (ea_cons (Ev.to (by wtm_at "E") (by rfl)) (ea_cons (Ev.to (by wtm_at "E") (by rfl)) (ea_cons (Ev.to (by wtm_at "E") (by rfl)) ea_nil)))) trivial) rt ?_
        show _ = if x.cost < y.cost then x else if y.cost < x.cost then y else _
        rw [if_neg h, if_neg h']
abbrev sp_PathDecoder_restart (K : PySem.W.Frag) : Sp := spM (aPathDecoder K) (fun (t : Taps) => [("encoder", fz' (rEncoder K) t), ("_table", fz' rTab (tabOf t))]) (fun t => fsPathDecoder K ⟨t, 0, ini t⟩) (fun _ => []) GT rNon (fun _ => ())
abbrev Pr_PathDecoder_restart (P : Program) (w : World) (K : PySem.W.Frag) (mg : Str → Option Value) (base : Heap) : Prop := Pr P w K mg base (He.ma K (aPathDecoder K) "restart") 3 ["self"] (sp_PathDecoder_restart K) []
def nm_PathDecoder_restart : List Str := ["self", "row"]
theorem sc_PathDecoder_restart : FnScope nm_PathDecoder_restart ["self"] (defScope s_PathDecoder_restart) := ⟨rfl, rfl, rfl, by decide +kernel, rfl, by decide +kernel, by decide +kernel⟩
theorem ok_PathDecoder_restart {P : Program} {w : World} {K : PySem.W.Frag} {mg : Str → Option Value} {base : Heap} (T : Tx K mg) (cSummary___init__ : Pr_Summary___init__ P w K mg base) : Pr_PathDecoder_restart P w K mg base := by
  refine pr_of (N := nm_PathDecoder_restart) (k := 2) T.d_PathDecoder_restart sc_PathDecoder_restart (fun _ _ _ _ _ _ us hl => match us, hl with | [_], _ => rfl) (lenM fun _ => rfl) fun cdv A outer s H E hr => ⟨_, (pss_cons (ps_fT (pv 0) pe_int T.c_PathDecoder T.n_PathDecoder_steps)
      (pss_cons (ps_fT (pv 0) (pe_lc (own := [("row", 1)]) rfl sc_PathDecoder_restart.nd (kPiL K rfl (pe_fT (pv 0) T.c_PathDecoder T.n_PathDecoder_table)) (blkOk_by (own := [("row", 1)]) (N := nm_PathDecoder_restart) (sc := (defScope s_PathDecoder_restart)) (by decide +kernel)) (fun _ _ _ _ _ => (pg_name (i := 1) sc_PathDecoder_restart.nd rfl (Or.inl rfl))) (fun _ _ _ _ _ => pts_nil) (fun _ _ _ _ _ => pe_non)) T.c_PathDecoder T.n_PathDecoder_summaries)
      (pss_one (ps_asg (pe_make T.mk_Summary cSummary___init__.F (hr.mono (by decide)) rfl T.gc_Summary cSummary___init__.b cSummary___init__.v pass0 (pa_cons pe_int (pa_cons pe_int (pa_cons (pe_lst pa_nil) (pa_cons (pe_lst pa_nil) pa_nil))))) (pg_sub (pe_fT (pv 0) T.c_PathDecoder T.n_PathDecoder_summaries) pe_int set_list))))), enM (N := ["row"]) (n := 1) (fun _ => rfl) fun B p z Q hp rt => ?_⟩
  have htl := tab_length z
  obtain ⟨p1, p2, p3⟩ := pow_facts hp
  refine q_fldN ["encoder", "_table"] rfl (by wtm_at "E") rfl (by decide +kernel) (by decide) ?_
  refine s_fldSet (g := fz' rAny ()) (S := rOpt (rSummary K)) (x := some (⟨0, 1, [], []⟩ : Sm)) (k := 0) (j := 0) (xs := List.replicate (2 ^ mem z) none) (fun _ _ => trivial) ["encoder", "_table", "steps"] rfl (by decide +kernel) (by decide) rfl (by show 0 < 2; decide) ?_ ?_ ev_int ?_ ?_
  · refine EvL.to (el_lc (R := rLst (rPair rInt (rLst rInt))) (xs := tabOf z) (f := fun _ => none) (ev_fldM rfl ((lk_ne (by decide +kernel)).trans lk_one)) tg_name (by decide) (by omega) (fun row hrow => ev_none)) ?_
    rw [map_none, htl]
  · exact Ev.some (ev_make (⟨0, 1, [], []⟩ : Sm) (ea_cons (by wtm_at "E") (ea_cons (by wtm_at "E") (ea_cons (EvL.ev el_nil) (ea_cons (EvL.ev el_nil) ea_nil)))) trivial)
  · have h : 0 < (List.replicate (2 ^ mem z) (none : Option Sm)).length := by rw [List.length_replicate]; omega
    exact ixN_n h
  · refine s_offM (i := 0) (gs := fsPathDecoder K ⟨z, 0, ini z⟩) ?_ rt
    show some (Sl.mo p (aPathDecoder K) _) = some (Sl.mo p (aPathDecoder K) _)
    rfl
abbrev sp_PathDecoder___init__ (K : PySem.W.Frag) : Sp := spM (aPathDecoder K) (fun (t : Taps) => []) (fun t => fsPathDecoder K ⟨t, 0, ini t⟩) (fun t => [fz' (rEncoder K) t]) GT rNon (fun _ => ())
abbrev Pr_PathDecoder___init__ (P : Program) (w : World) (K : PySem.W.Frag) (mg : Str → Option Value) (base : Heap) : Prop := Pr P w K mg base (He.ma K (aPathDecoder K) "__init__") 4 ["self", "encoder"] (sp_PathDecoder___init__ K) []
def nm_PathDecoder___init__ : List Str := ["self", "encoder"]
theorem sc_PathDecoder___init__ : FnScope nm_PathDecoder___init__ ["self", "encoder"] (defScope s_PathDecoder___init__) := ⟨rfl, rfl, rfl, by decide +kernel, rfl, by decide +kernel, by decide +kernel⟩
theorem ok_PathDecoder___init__ {P : Program} {w : World} {K : PySem.W.Frag} {mg : Str → Option Value} {base : Heap} (T : Tx K mg) (cstep_table : Pr_step_table P w K mg base) (cPathDecoder_restart : Pr_PathDecoder_restart P w K mg base) : Pr_PathDecoder___init__ P w K mg base := by
  refine pr_of (N := nm_PathDecoder___init__) (k := 3) T.d_PathDecoder___init__ sc_PathDecoder___init__ (fun _ _ _ _ _ _ us hl => match us, hl with | [_, _], _ => rfl) (lenM fun _ => rfl) fun cdv A outer s H E hr => ⟨_, (pss_cons (ps_fT (pv 0) (pv 1) T.c_PathDecoder T.n_PathDecoder_encoder)
      (pss_cons (ps_fT (pv 0) (pe_cal cstep_table T.g_step_table hr (pa_cons (pv 1) pa_nil)) T.c_PathDecoder T.n_PathDecoder_table)
      (pss_one (ps_expr (pe_meth0 (pv 0) T.c_PathDecoder T.m_PathDecoder_restart cPathDecoder_restart.F (hr.mono (by decide)) cPathDecoder_restart.b cPathDecoder_restart.v pass0))))), enM (N := ["encoder"]) (n := 0) (fun _ => rfl) fun B p z Q hp rt => ?_⟩
  refine q_fldN [] rfl (by wtm_at "E") rfl (by decide +kernel) (by decide) ?_
  refine q_fldN ["encoder"] (x := tabOf z) rfl (cd1 (by wtm_at "E") hp) rfl (by decide +kernel) (by decide) ?_
  refine s_methM z rfl (lk_no _ _ (show (["encoder", "_table"] : List Str).contains "restart" = false by decide +kernel)) ea_nil hp (s_offM (i := 0) rfl rt)
abbrev sp_PathDecoder_settled (K : PySem.W.Frag) : Sp := spR (aPathDecoder K) (fun (x : PD) => fsPathDecoder K x) (fun _ => []) (fun x => SmsB 100000 x.sums ∧ stt x.sums ≠ none) (rLst rInt) (fun x => (stt x.sums).getD [])
abbrev Pr_PathDecoder_settled (P : Program) (w : World) (K : PySem.W.Frag) (mg : Str → Option Value) (base : Heap) (g : Addr) : Prop := Pr P w K mg base g 2 ["self"] (sp_PathDecoder_settled K) []
def nm_PathDecoder_settled : List Str := ["self", "start", "summary"]
theorem sc_PathDecoder_settled : FnScope nm_PathDecoder_settled ["self"] (defScope s_PathDecoder_settled) := ⟨rfl, rfl, rfl, by decide +kernel, rfl, by decide +kernel, by decide +kernel⟩
theorem ok_PathDecoder_settled {P : Program} {w : World} {K : PySem.W.Frag} {mg : Str → Option Value} {base : Heap} {gS : Addr} (hF : FunN K "settled" "PathDecoder.settled" s_PathDecoder_settled gS) (T : Tx K mg) (ccommon_start : Pr_common_start P w K mg base) : Pr_PathDecoder_settled P w K mg base gS := by
  refine pr_of (N := nm_PathDecoder_settled) (k := 1) hF sc_PathDecoder_settled (fun _ _ _ _ _ _ us hl => match us, hl with | [_], _ => rfl) (lenR fun _ => rfl) fun cdv A outer s H E hr => ⟨_, (pss_cons (ps_set (i := 1) sc_PathDecoder_settled.nd rfl (Or.inl rfl) pe_non)
      (pss_cons (ps_for PassesOwn.never rfl (kPiL K rfl (pe_fT (pv 0) T.c_PathDecoder T.n_PathDecoder_summaries)) (pg_name (i := 2) sc_PathDecoder_settled.nd rfl (Or.inl rfl)) (pss_one (ps_if (pt_cmpR op_notN1 (pv 2) pe_non (nomark _)) (pss_one (ps_if (pt_cmpR op_isN1 (pv 1) pe_non (nomark _)) (pss_one (ps_set (i := 1) sc_PathDecoder_settled.nd rfl (Or.inl rfl) (pe_fT (pv 2) T.c_Summary T.n_Summary_start_of))) (pss_one (ps_set (i := 1) sc_PathDecoder_settled.nd rfl (Or.inl rfl) (pe_cal ccommon_start T.g_common_start hr (pa_cons (pv 1) (pa_cons (pe_fT (pv 2) T.c_Summary T.n_Summary_start_of) pa_nil))))))) pss_nil)))
      (pss_one (ps_ret (pe_callTy (kList K rfl) (by rfl) T.f_list boot_list (pa_cons (pv 1) pa_nil)))))), enR (N := ["start", "summary"]) (n := 2) (fun _ => rfl) fun B p z Q hp rt => ?_⟩
  obtain ⟨h1, h2⟩ := hp
  refine q_asg (R := rOpt (rLst rInt)) ev_none ?_
  refine q_forL (I := Unit) (fun i _ => ∀ l, stt (z.sums.take i) = some l → l.length ≤ 100000) (fun i _ => [.ro (aPathDecoder K) (fsPathDecoder K z), sf (rOpt (rLst rInt)) (stt (z.sums.take i)), .any]) tg_name (ev_fldR rfl (lk_PathDecoder_summaries K z)) ⟨(), fun l h => (by cases h), by wtm_at "sub"⟩ (fun B1 up i _ y hy hl => ?_) (fun _ hl => ?_)
  · have hst : stt (z.sums.take (i + 1)) = _ := fold_step hy
    cases y with
    | none =>
      have hst : stt (z.sums.take (i + 1)) = stt (z.sums.take i) := hst
      refine s_no (b := (none : Option Sm).isSome) (by wtm_at "E") rfl (wn_lp () (by rw [hst]; exact hl) (by rw [hst]; wtm_at "sub"))
    | some x =>
      have hx := h1 x (List.mem_of_getElem? hy)
      refine s_if (b := (some x : Option Sm).isSome) (by wtm_at "E") (fun _ => ?_) (fun h => by cases h)
      refine wn_some (i := 2) rfl ?_
      have hst : stt (z.sums.take (i + 1)) = some (match stt (z.sums.take i) with
        | none => x.start
        | some y => cst y x.start) := hst
      cases hs : stt (z.sums.take i) with
      | none =>
        rw [hs] at hst
        refine s_if (b := (none : Option (List Int)).isNone) (by wtm_at "E") (fun _ => ?_) (fun h => by cases h)
        refine s_asg (R := rOpt (rLst rInt)) (x := some x.start) (Ev.some (by wtm_at "E")) (wn_lp () (fun l h => ?_) (by rw [hst]; wtm_at "sub"))
        rw [hst] at h; cases h; exact hx.2
      | some w =>
        rw [hs] at hst
        have hw := hl w hs
        refine s_if (b := (some w : Option (List Int)).isNone) (by wtm_at "E") (fun h => by cases h) (fun _ => ?_)
        refine s_asg (R := rOpt (rLst rInt)) (x := some (cst w x.start)) (Ev.some (cd2 (Ev.unopt (ev_var rfl)) (by wtm_at "E") ⟨hw, hx.2⟩)) (wn_lp () (fun l h => ?_) (by rw [hst]; wtm_at "sub"))
        rw [hst] at h; cases h; exact Nat.le_trans (cst_length _ _) hw
  · rw [List.take_length]
    cases hs : stt z.sums with
    | none => exact absurd hs h2
    | some w =>
      refine wn_some (i := 1) rfl ?_
      refine s_ret (by wtm_at "E") rt ?_
      rw [hs]; rfl
theorem putS_eq {f : Str} {s t : Fz} {r : Fs} : putS f s ((f, t) :: r) = (f, s) :: r := by unfold putS; rw [if_pos rfl]
theorem putS_ne {f g : Str} {s t : Fz} {r : Fs} (h : g ≠ f) : putS f s ((g, t) :: r) = (g, t) :: putS f s r := by rw [putS, if_neg h]
theorem put_sums (K : PySem.W.Frag) (x : PD) (L : List (Option Sm)) : putS "_summaries" (fz' (rLst (rOpt (rSummary K))) L) (fsPathDecoder K x) = fsPathDecoder K { x with sums := L } :=
  (putS_ne (by decide +kernel)).trans (congrArg _ ((putS_ne (by decide +kernel)).trans (congrArg _ ((putS_ne (by decide +kernel)).trans (congrArg _ putS_eq)))))
theorem put_steps (K : PySem.W.Frag) (x : PD) (n : Int) : putS "steps" (fz' rInt n) (fsPathDecoder K x) = fsPathDecoder K { x with steps := n } :=
  (putS_ne (by decide +kernel)).trans (congrArg _ ((putS_ne (by decide +kernel)).trans (congrArg _ putS_eq)))
abbrev PdNext (x : PD) (it : Rc) : PD := ⟨x.taps, x.steps + 1, tkN x.taps it x.sums⟩
abbrev sp_PathDecoder_take (K : PySem.W.Frag) : Sp := spM (aPathDecoder K) (fun (x : PD × Rc) => fsPathDecoder K x.1) (fun x => fsPathDecoder K (PdNext x.1 x.2)) (fun x => [fz' rRec0 x.2])
  (fun x => GT x.1.taps ∧ x.2.length = x.1.taps.length ∧ OBits x.2 ∧ SmsB 99999 x.1.sums ∧ x.1.sums.length = 2 ^ mem x.1.taps ∧ stt x.1.sums ≠ none ∧ stt (tkN x.1.taps x.2 x.1.sums) ≠ none) (rLst rInt) (fun x => ((stt (tkN x.1.taps x.2 x.1.sums)).getD []).drop ((stt x.1.sums).getD []).length)
abbrev Pr_PathDecoder_take (P : Program) (w : World) (K : PySem.W.Frag) (mg : Str → Option Value) (base : Heap) : Prop := Pr P w K mg base (He.ma K (aPathDecoder K) "take") 4 ["self", "items"] (sp_PathDecoder_take K) []
def nm_PathDecoder_take : List Str := ["self", "items", "item", "before", "summaries", "state", "bit", "after", "bits", "option", "row"]
theorem sc_PathDecoder_take : FnScope nm_PathDecoder_take ["self", "items"] (defScope s_PathDecoder_take) := ⟨rfl, rfl, rfl, by decide +kernel, rfl, by decide +kernel, by decide +kernel⟩
theorem ok_PathDecoder_take {P : Program} {w : World} {K : PySem.W.Frag} {mg : Str → Option Value} {base : Heap} (T : Tx K mg) (cis_bit : Pr_is_bit P w K mg base) (cSummary_grown : Pr_Summary_grown P w K mg base) (cerrors_beside : Pr_errors_beside P w K mg base) (cmerged : Pr_merged P w K mg base) {pS gS : Addr} (hPS : PropOf K (aPathDecoder K) "settled" pS gS) (cPathDecoder_settled : Pr_PathDecoder_settled P w K mg base gS) : Pr_PathDecoder_take P w K mg base := by
  refine pr_of (N := nm_PathDecoder_take) (k := 3) T.d_PathDecoder_take sc_PathDecoder_take (fun _ _ _ _ _ _ us hl => match us, hl with | [_, _], _ => rfl) (lenM fun _ => rfl) fun cdv A outer s H E hr => ⟨_, (pss_cons (ps_if (pt_cmpR op_ne (pe_callB (kLen K rfl) (by rfl) T.f_len boot_len (pa_cons (pv 1) pa_nil)) (pe_fT (pe_fT (pv 0) T.c_PathDecoder T.n_PathDecoder_encoder) T.c_Encoder T.n_Encoder_outputs) (nomark _)) pss_never pss_nil)
      (pss_cons (ps_for PassesOwn.never rfl (kPiL K rfl (pv 1)) (pg_name (i := 2) sc_PathDecoder_take.nd rfl (Or.inl rfl)) (pss_one (ps_if (PW.pt (pw_and (pt_cmpR op_notN1 (pv 2) pe_non (nomark _)) (pw_and1 (pt_not (pt_val (pe_cal cis_bit T.g_is_bit hr (pa_cons (pv 2) pa_nil))))))) pss_never pss_nil)))
      (pss_cons (ps_set (i := 3) sc_PathDecoder_take.nd rfl (Or.inl rfl) (pe_callB (kLen K rfl) (by rfl) T.f_len boot_len (pa_cons (pe_prop (pv 0) T.c_PathDecoder hPS cPathDecoder_settled.F (hr.mono (by decide)) cPathDecoder_settled.b cPathDecoder_settled.v pass0 rfl) pa_nil)))
      (pss_cons (ps_setLc (i := 4) (own := [("row", 10)]) rfl sc_PathDecoder_take.nd rfl rfl (sw_true rfl rfl rfl (by decide +kernel)) (kPiL K rfl (pe_fT (pv 0) T.c_PathDecoder T.n_PathDecoder_table)) (blkOk_by (own := [("row", 10)]) (N := nm_PathDecoder_take) (sc := (defScope s_PathDecoder_take)) (by decide +kernel)) (fun _ _ _ _ _ => (pg_name (i := 10) sc_PathDecoder_take.nd rfl (Or.inl rfl))) (fun _ _ _ _ _ => pts_nil) (fun _ _ _ _ _ => pe_non))
      (pss_cons (ps_for PassesOwn.never rfl (pi_range1 rfl T.f_range (pa_cons (pe_callB (kLen K rfl) (by rfl) T.f_len boot_len (pa_cons (pe_fT (pv 0) T.c_PathDecoder T.n_PathDecoder_table) pa_nil)) pa_nil)) (pg_name (i := 5) sc_PathDecoder_take.nd rfl (Or.inl rfl)) (pss_one (ps_if (pt_cmpR op_notN1 (pe_ix (kIxL K rfl) (pe_fT (pv 0) T.c_PathDecoder T.n_PathDecoder_summaries) (pv 5) (fun _ _ => rfl)) pe_non (nomark _)) (pss_one (ps_for PassesOwn.never rfl (kPiL K rfl (pe_lst (pa_cons pe_int (pa_cons pe_int pa_nil)))) (pg_name (i := 6) sc_PathDecoder_take.nd rfl (Or.inl rfl)) (pss_cons (ps_asg (pe_ix (kIxL K rfl) (pe_ix (kIxL K rfl) (pe_fT (pv 0) T.c_PathDecoder T.n_PathDecoder_table) (pv 5) (fun _ _ => rfl)) (pv 6) (fun _ _ => rfl)) (kPgT (n := 2) K rfl rfl (pgs_cons (pg_name (i := 7) sc_PathDecoder_take.nd rfl (Or.inl rfl)) (pgs_cons (pg_name (i := 8) sc_PathDecoder_take.nd rfl (Or.inl rfl)) pgs_nil))))
      (pss_cons (ps_set (i := 9) sc_PathDecoder_take.nd rfl (Or.inl rfl) (pe_meth (pe_ix (kIxL K rfl) (pe_fT (pv 0) T.c_PathDecoder T.n_PathDecoder_summaries) (pv 5) (fun _ _ => rfl)) T.c_Summary T.m_Summary_grown cSummary_grown.F (hr.mono (by decide)) cSummary_grown.b cSummary_grown.v pass0 (pa_cons (pv 6) (pa_cons (pe_cal cerrors_beside T.g_errors_beside hr (pa_cons (pv 8) (pa_cons (pv 1) pa_nil))) pa_nil))))
      (pss_one (ps_asg (pe_cal cmerged T.g_merged hr (pa_cons (pe_ix (kIxL K rfl) (pv 4) (pv 7) (fun _ _ => rfl)) (pa_cons (pv 9) pa_nil))) (pg_sub (pv 4) (pv 7) set_list))))))) pss_nil)))
      (pss_cons (ps_fT (pv 0) (pv 4) T.c_PathDecoder T.n_PathDecoder_summaries)
      (pss_cons (ps_fT (pv 0) (pe_op op_add (pe_fT (pv 0) T.c_PathDecoder T.n_PathDecoder_steps) pe_int) T.c_PathDecoder T.n_PathDecoder_steps)
      (pss_one (ps_ret (pe_slice (kSl K rfl) (pe_prop (pv 0) T.c_PathDecoder hPS cPathDecoder_settled.F (hr.mono (by decide)) cPathDecoder_settled.b cPathDecoder_settled.v pass0 rfl) (po_some (pv 3)) po_none)))))))))), enM (N := ["items", "item", "before", "summaries", "state", "bit", "after", "bits", "option", "row"]) (n := 9) (fun _ => rfl) fun B p z Q hp rt => ?_⟩
  obtain ⟨⟨t, n, sums⟩, it⟩ := z
  obtain ⟨g, h1, h2, h3, h4, h5, h6⟩ := hp
  dsimp only at g h1 h2 h3 h4 h5 h6 rt
  have hb0 : SmsB 100000 sums := fun x hx => ⟨Nat.le_trans (h3 x hx).1 (by decide), Nat.le_trans (h3 x hx).2 (by decide)⟩
  have htl := tab_length t
  obtain ⟨p1, p2, p3⟩ := pow_facts g
  have g2 := g.hi
  refine q_no (et_test (ev_neI (by wtm_at "E") (ev_Encoder_outputs (ev_fldM rfl (lk_PathDecoder_encoder K _))))) (by simp [h1]) ?_
  refine q_forL (I := Unit) (fun i _ => True) (fun i _ => [.mo p (aPathDecoder K) (fsPathDecoder K ⟨t, n, sums⟩), sf rRec0 it, .any, .any, .any, .any, .any, .any, .any, .any, .any]) tg_name (by wtm_at "E") ⟨(), trivial, by wtm_at "sub"⟩ (fun B1 up i _ y hy _ => ?_) (fun _ _ => ?_)
  · cases y with
    | none => refine s_no (et_and (EvT.to (b := (none : Option Int).isSome) (by wtm_at "E") rfl) (fun h => by cases h)) (b := false && false) rfl (wn_lp () trivial (by wtm_at "sub"))
    | some b =>
      have hb : Bit b := h2 b (List.mem_of_getElem? hy)
      refine wn_some (i := 2) rfl ?_
      refine s_no (et_and (et_test (ev_notN (Ev.some (by wtm_at "E")))) (fun h => by wtm_at "E")) (by rfl) (wn_lp () trivial (by wtm_at "sub"))
  · refine q_asg (x := (((stt sums).getD []).length : Int)) (ev_lenL (ev_propR (⟨t, n, sums⟩ : PD) rfl rfl ⟨hb0, h5⟩)) ?_
    refine q_asgL (R := rOpt (rSummary K)) (xs := List.replicate (2 ^ mem t) none) (EvL.to (el_lc (R := rLst (rPair rInt (rLst rInt))) (xs := tabOf t) (f := fun _ => none) (ev_fldM rfl (lk_PathDecoder_table K _)) tg_name (by decide) (by omega) (fun row hrow => ev_none)) (by rw [map_none, htl])) ?_
    refine q_forR1 (I := Unit) (fun i _ => True) (fun i _ => [.mo p (aPathDecoder K) (fsPathDecoder K ⟨t, n, sums⟩), sf rRec0 it, .any, sf rInt (((stt sums).getD []).length : Int), sm (rOpt (rSummary K)) ((List.range i).foldl (tkS t it sums) (List.replicate (2 ^ mem t) none)), .any, .any, .any, .any, .any, .any]) (n := ((2 ^ mem t : Nat) : Int)) (Ev.to (ev_lenL (ev_fldM rfl (lk_PathDecoder_table K _))) (by rw [htl])) (by omega) ⟨(), trivial, by wtm_at "sub"⟩ (fun s _ hs _ => ?_) (fun _ _ => ?_)
    · have hs2 : s < 2 ^ mem t := by omega
      have hLl : ((List.range s).foldl (tkS t it sums) (List.replicate (2 ^ mem t) none)).length = 2 ^ mem t := foldl_inv (fun M : List (Option Sm) => M.length = 2 ^ mem t) List.length_replicate fun c y _ h => (tkS_length _ _ _ _ _).trans h
      have hLb : SmsB 100000 ((List.range s).foldl (tkS t it sums) (List.replicate (2 ^ mem t) none)) := foldl_inv (SmsB 100000) (none_b _ _) fun c y _ hc => tkS_b hc h3
      rw [fold_range]
      generalize (List.range s).foldl (tkS t it sums) (List.replicate (2 ^ mem t) none) = L at hLl hLb
      have i1 : atI sums (s : Int) = some (sums.getD s none) := atI_D none (by omega) (by rw [h4]; omega)
      unfold tkS
      cases hx : sums.getD s none with
      | none =>
        rw [hx] at i1
        refine s_no (et_test (ev_notN (ev_ixL (ev_fldM rfl (lk_PathDecoder_summaries K _)) (by wtm_at "E") i1))) rfl (wn_lp () trivial (by wtm_at "sub"))
      | some x =>
        rw [hx] at i1
        have hxb := h3 x (getD_none_mem hx)
        refine s_if (et_test (ev_notN (ev_ixL (ev_fldM rfl (lk_PathDecoder_summaries K _)) (by wtm_at "E") i1))) (fun _ => ?_) (fun h => by cases h)
        refine s_forL (R := rInt) (I := Unit) (xs := [0, 1]) (fun i _ => True) (fun i _ => [.mo p (aPathDecoder K) (fsPathDecoder K ⟨t, n, sums⟩), sf rRec0 it, .any, sf rInt (((stt sums).getD []).length : Int), sm (rOpt (rSummary K)) ((([0, 1] : List Int).take i).foldl (up1 t it s x) L), sf rInt (s : Int), .any, .any, .any, .any, .any]) tg_name (by wtm_at "E") ⟨(), trivial, by wtm_at "sub"⟩ (fun B1 up i _ b hb' _ => ?_) (fun _ _ => wn_lp () trivial (by wtm_at "sub"))
        have hb : Bit b := by
          have := List.mem_of_getElem? hb'
          simpa [Bit] using this
        rw [fold_step hb']
        have hMl : ((([0, 1] : List Int).take i).foldl (up1 t it s x) L).length = 2 ^ mem t := foldl_inv (fun M : List (Option Sm) => M.length = 2 ^ mem t) hLl fun c y _ h => (up1_length _ _ _ _ _ _).trans h
        have hMb : SmsB 100000 ((([0, 1] : List Int).take i).foldl (up1 t it s x) L) := foldl_inv (SmsB 100000) hLb fun c y _ hc => up1_b hc hxb
        generalize (([0, 1] : List Int).take i).foldl (up1 t it s x) L = M at hMl hMb
        have hat : atI ((tabOf t).getD s []) b = some ((nx (mem t) s b : Int), ou t s b) := by
          rw [tab_at hs2]
          rcases hb with q | q <;> rw [q] <;> rfl
        have i2 : atI (tabOf t) (s : Int) = some ((tabOf t).getD s []) := atI_L (by rw [htl]; exact hs2)
        have hol : (ou t s b).length = it.length ∧ (ou t s b).length ≤ 100000 := by rw [ou_length, h1]; exact ⟨rfl, by omega⟩
        have hnx := nx_lt (mem t) s b
        have i3 : atI M ((nx (mem t) s b : Nat) : Int) = some (M.getD (nx (mem t) s b) none) := atI_D none (by omega) (by rw [hMl]; omega)
        refine q_tgt tg_pair (ev_ixL (ev_ixL (ev_fldM rfl (lk_PathDecoder_table K _)) (by wtm_at "E") i2) (by wtm_at "E") hat) ?_
        refine q_asg (x := gwn x b (dst (ou t s b) it)) (md3 (Ev.unopt (ev_ixL (ev_fldM rfl (lk_PathDecoder_summaries K _)) (by wtm_at "E") i1)) (by wtm_at "E") (cd2 (by wtm_at "E") (by wtm_at "E") hol) (by wtm_at "nl") (Nat.le_trans hxb.1 (by decide))) ?_
        refine s_set (n := nx (mem t) s b) rfl (Ev.some (cd2 (ev_ixM rfl (by wtm_at "E") i3) (by wtm_at "E") ⟨fun y e => hMb y (getD_none_mem e), gwn_b hxb _ _⟩)) (by wtm_at "E") (ixN_n (by rw [hMl]; exact hnx)) (wn_lp () trivial (by wtm_at "sub"))
    · rw [Int.toNat_natCast]
      refine wn_fz (i := 4) rfl ?_
      refine q_fld (i := 0) (m := inferInstance) rfl (ev_var (i := 4) rfl) (by show 4 < 900; decide) ?_
      rw [put_sums K ⟨t, n, sums⟩]
      refine q_fld (i := 0) (m := inferInstance) (x := n + 1) rfl (ev_opI0 (f := fun i j => i + j) (ev_fldM rfl (lk_PathDecoder_steps K _)) (by wtm_at "E")) (by show 4 < 900; decide) ?_
      rw [put_steps K]
      have hb1 : SmsB 100000 (tkN t it sums) := tkN_b h3
      refine s_retM (i := 0) (gs := fsPathDecoder K (PdNext ⟨t, n, sums⟩ it)) rfl (EvL.ev (EvL.to (el_slice (ev_propR (PdNext ⟨t, n, sums⟩ it) rfl rfl ⟨hb1, h6⟩) (eo_some (by wtm_at "E")) eo_none) ?_)) rt
      rw [cutA_drop (by omega), Int.toNat_natCast]
abbrev sp_PathDecoder_answer (K : PySem.W.Frag) : Sp := spR (aPathDecoder K) (fun (x : PD) => fsPathDecoder K x) (fun _ => []) (fun x => (mem x.taps : Int) ≤ x.steps ∧ ∃ y, x.sums.head? = some (some y)) (rTri rInt (rLst rInt) rInt) (fun x => match x.sums.head? with
  | some (some y) => (y.cost, y.first.take (x.steps - mem x.taps).toNat, y.cnt)
  | _ => (0, [], 0))
abbrev Pr_PathDecoder_answer (P : Program) (w : World) (K : PySem.W.Frag) (mg : Str → Option Value) (base : Heap) : Prop := Pr P w K mg base (He.ma K (aPathDecoder K) "answer") 1 ["self"] (sp_PathDecoder_answer K) []
def nm_PathDecoder_answer : List Str := ["self", "best"]
theorem sc_PathDecoder_answer : FnScope nm_PathDecoder_answer ["self"] (defScope s_PathDecoder_answer) := ⟨rfl, rfl, rfl, by decide +kernel, rfl, by decide +kernel, by decide +kernel⟩
theorem ok_PathDecoder_answer {P : Program} {w : World} {K : PySem.W.Frag} {mg : Str → Option Value} {base : Heap} (T : Tx K mg)  : Pr_PathDecoder_answer P w K mg base := by
  refine pr_of (N := nm_PathDecoder_answer) (k := 0) T.d_PathDecoder_answer sc_PathDecoder_answer (fun _ _ _ _ _ _ us hl => match us, hl with | [_], _ => rfl) (lenR fun _ => rfl) fun cdv A outer s H E hr => ⟨_, (pss_cons (ps_if (pt_cmpR op_lt (pe_fT (pv 0) T.c_PathDecoder T.n_PathDecoder_steps) (pe_fT (pe_fT (pv 0) T.c_PathDecoder T.n_PathDecoder_encoder) T.c_Encoder T.n_Encoder_memory) (nomark _)) pss_never pss_nil)
      (pss_cons (ps_set (i := 1) sc_PathDecoder_answer.nd rfl (Or.inl rfl) (pe_ix (kIxL K rfl) (pe_fT (pv 0) T.c_PathDecoder T.n_PathDecoder_summaries) pe_int (fun _ _ => rfl)))
      (pss_one (ps_ret (pe_tup (pa_cons (pe_fT (pv 1) T.c_Summary T.n_Summary_cost) (pa_cons (pe_slice (kSl K rfl) (pe_fT (pv 1) T.c_Summary T.n_Summary_first) po_none (po_some (pe_op op_sub (pe_fT (pv 0) T.c_PathDecoder T.n_PathDecoder_steps) (pe_fT (pe_fT (pv 0) T.c_PathDecoder T.n_PathDecoder_encoder) T.c_Encoder T.n_Encoder_memory)))) (pa_cons (pe_fT (pv 1) T.c_Summary T.n_Summary_count_of) pa_nil)))))))), enR (N := ["best"]) (n := 1) (fun _ => rfl) fun B p z Q hp rt => ?_⟩
  obtain ⟨h1, y, h2⟩ := hp
  have i1 : atI z.sums 0 = some (some y) := by
    cases hs : z.sums with
    | nil => rw [hs] at h2; cases h2
    | cons a l => rw [hs] at h2; cases h2; exact (atI_D none (Int.le_refl _) (by rw [List.length_cons]; omega)).trans rfl
  refine q_no (et_test (ev_opB0 (f := fun i j => decide (i < j)) (ev_fldR rfl (lk_PathDecoder_steps K z)) (ev_Encoder_memory (ev_fldR rfl (lk_PathDecoder_encoder K z))))) (by simp; omega) ?_
  refine q_asg (Ev.unopt (ev_ixL (ev_fldR rfl (lk_PathDecoder_summaries K z)) (by wtm_at "E") i1)) ?_
  refine s_ret (y := (y.cost, y.first.take (z.steps - mem z.taps).toNat, y.cnt)) (ev_tri (by wtm_at "E") (EvL.ev (EvL.to (el_slice (by wtm_at "E") eo_none (eo_some (ev_opI0 (f := fun i j => i - j) (ev_fldR rfl (lk_PathDecoder_steps K z)) (ev_Encoder_memory (ev_fldR rfl (lk_PathDecoder_encoder K z)))))) (cutA_take (by omega)))) (by wtm_at "E")) rt ?_
  rw [h2]
end NW
set_option maxHeartbeats 4000000
namespace NW
open PySem PySem.Spec PyProof.Rows L2 G MX
local macro_rules | `(tactic| wtm_at "nl") => `(tactic| first
  | with_reducible exact nl_Field_digits _ _
  | with_reducible exact nl_Field_element _ _
  | with_reducible exact nl_Field_plus _ _
  | with_reducible exact nl_Field_negative _ _
  | with_reducible exact nl_Field_minus _ _
  | with_reducible exact nl_Field_times _ _
  | with_reducible exact nl_Field_inverse _ _
  | with_reducible exact nl_LinearCode_words _ _
  | with_reducible exact nl_Encoder_advance _ _
  | with_reducible exact nl_Encoder__fed _ _
  | with_reducible exact nl_Encoder_word_for _ _
  | with_reducible exact nl_Encoder_linear _ _
  | with_reducible exact nl_Trellis_moves_from _ _
  | with_reducible exact nl_Trellis_costs_table _ _
  | with_reducible exact nl_Trellis_best_moves _ _
  | with_reducible exact nl_Summary_grown _ _
  | with_reducible exact nl_PathDecoder_restart _ _
  | with_reducible exact nl_PathDecoder_take _ _
  | with_reducible exact nl_PathDecoder_answer _ _)
local macro_rules | `(tactic| wtm_at "side") => `(tactic| first
  | assumption
  | exact rfl
  | exact atI_0 (by omega)
  | exact atI_L (by omega)
  | omega
  | exact trivial
  | exact fun _ h => h
  | exact List.mem_singleton.mpr rfl
  | wtm_at "nl"
  | exact Or.inr ⟨by omega, by omega⟩
  | exact Or.inl ⟨by omega, by omega⟩
  | (show (0 : Int) < _; omega)
  | exact ⟨by omega, by omega⟩
  | exact ⟨rfl, rfl⟩
  | exact MX.Bits.getD (by assumption) _
  | exact ⟨by assumption, by assumption⟩
  | exact ⟨by assumption, by assumption, by assumption⟩
  | exact ⟨by assumption, MX.Bits.getD (by assumption) _⟩
  | decide
  | (show (_ : Nat) ≤ 10000000; (simp only [List.length_cons, List.length_nil, List.length_append]; omega))
  | (show (_ : Nat) < 10000000; (simp only [List.length_cons, List.length_nil, List.length_append]; omega)))
local macro_rules | `(tactic| wtm_at "evop") => `(tactic| first
  | ((with_reducible refine' ev_opI0 _ _) <;> wtm_at "ev2")
  | ((with_reducible refine' ev_opB0 _ _) <;> wtm_at "ev2")
  | ((with_reducible refine' ev_opI _ _ _) <;> wtm_at "ev2")
  | ((with_reducible refine' ev_ixL (m := _) _ _ _) <;> wtm_at "ev2")
  | ((with_reducible show Ev _ _ (tOp (rIxL _) (tVar _) _) _ _); (refine' ev_ixM rfl _ _) <;> wtm_at "ev2")
  | ((with_reducible refine' ev_eqI _ _) <;> wtm_at "ev2")
  | ((with_reducible refine' ev_neI _ _) <;> wtm_at "ev2")
  | ((with_reducible refine' ev_isN (n := _) _) <;> wtm_at "ev2")
  | ((with_reducible refine' ev_notN (n := _) _) <;> wtm_at "ev2")
  | ((with_reducible refine' ev_fst (m := _) (n := _) _) <;> wtm_at "ev2")
  | ((with_reducible refine' ev_snd (m := _) (n := _) _) <;> wtm_at "ev2")
  | ((with_reducible refine' ev_tri1 _) <;> wtm_at "ev2")
  | ((with_reducible refine' ev_tri2 _) <;> wtm_at "ev2")
  | ((with_reducible refine' ev_ixT (m := _) _ _ _) <;> wtm_at "ev2")
  | ((with_reducible refine' ev_ixS (m := _) _ _ _) <;> wtm_at "ev2")
  | ((with_reducible refine' EvL.ev (m := _) _) <;> wtm_at "ev2"))
local macro_rules | `(tactic| wtm_at "evfld") => `(tactic| first
  | ((with_reducible refine' ev_Field_prime _) <;> wtm_at "ev2")
  | ((with_reducible refine' ev_Field_modulus _) <;> wtm_at "ev2")
  | ((with_reducible refine' ev_Field_degree _) <;> wtm_at "ev2")
  | ((with_reducible refine' ev_Field_order _) <;> wtm_at "ev2")
  | ((with_reducible refine' ev_LinearCode_field _) <;> wtm_at "ev2")
  | ((with_reducible refine' ev_LinearCode_length _) <;> wtm_at "ev2")
  | ((with_reducible refine' ev_LinearCode_dimension _) <;> wtm_at "ev2")
  | ((with_reducible refine' ev_LinearCode_rows _) <;> wtm_at "ev2")
  | ((with_reducible refine' ev_LinearCode_pivots _) <;> wtm_at "ev2")
  | ((with_reducible refine' ev_LinearCode_checks _) <;> wtm_at "ev2")
  | ((with_reducible refine' ev_LinearCode_size _) <;> wtm_at "ev2")
  | ((with_reducible refine' ev_Encoder_taps _) <;> wtm_at "ev2")
  | ((with_reducible refine' ev_Encoder_memory _) <;> wtm_at "ev2")
  | ((with_reducible refine' ev_Encoder_outputs _) <;> wtm_at "ev2")
  | ((with_reducible refine' ev_Encoder_state_count _) <;> wtm_at "ev2")
  | ((with_reducible refine' ev_Trellis_steps _) <;> wtm_at "ev2")
  | ((with_reducible refine' ev_Trellis_message_length _) <;> wtm_at "ev2")
  | ((with_reducible refine' ev_Trellis_table _) <;> wtm_at "ev2")
  | ((with_reducible refine' ev_Summary_cost _) <;> wtm_at "ev2")
  | ((with_reducible refine' ev_Summary_count_of _) <;> wtm_at "ev2")
  | ((with_reducible refine' ev_Summary_first _) <;> wtm_at "ev2")
  | ((with_reducible refine' ev_Summary_start_of _) <;> wtm_at "ev2")
  | ((with_reducible refine' ev_PathDecoder_encoder _) <;> wtm_at "ev2")
  | ((with_reducible refine' ev_PathDecoder_table _) <;> wtm_at "ev2")
  | ((with_reducible refine' ev_PathDecoder_steps _) <;> wtm_at "ev2")
  | ((with_reducible refine' ev_PathDecoder_summaries _) <;> wtm_at "ev2"))
local macro_rules | `(tactic| wtm_at "evcb") => `(tactic| first
  | ((with_reducible show Ev _ _ (tCB (rLen _) (tCons (tVar _) tNil)) _ _); exact ev_lenM rfl)
  | ((with_reducible refine' ev_lenL _) <;> wtm_at "ev2")
  | ((with_reducible refine' ev_lenT _) <;> wtm_at "ev2")
  | ((with_reducible refine' ev_lenS _) <;> wtm_at "ev2")
  | ((with_reducible refine' ev_int1 _) <;> wtm_at "ev2")
  | ((with_reducible refine' ev_intB _) <;> wtm_at "ev2")
  | ((with_reducible refine' ev_abs _) <;> wtm_at "ev2")
  | ((with_reducible refine' ev_min2 _ _) <;> wtm_at "ev2")
  | ((with_reducible refine' ev_max2 _ _) <;> wtm_at "ev2")
  | ((with_reducible refine' ev_minLL _ _) <;> wtm_at "ev2")
  | ((with_reducible refine' ev_sum _) <;> wtm_at "ev2")
  | ((with_reducible refine' ev_tupL (m := _) _) <;> wtm_at "ev2")
  | ((with_reducible refine' EvL.ev (m := _) _) <;> wtm_at "ev2"))
local macro_rules | `(tactic| wtm_at "evcall") => `(tactic| first
  | ((with_reducible refine' cd1 _ _) <;> wtm_at "ev2")
  | ((with_reducible refine' cd2 _ _ _) <;> wtm_at "ev2")
  | ((with_reducible refine' cd3 _ _ _ _) <;> wtm_at "ev2")
  | ((with_reducible refine' cd4 _ _ _ _ _) <;> wtm_at "ev2")
  | ((with_reducible refine' cd5 _ _ _ _ _ _) <;> wtm_at "ev2"))
local macro_rules | `(tactic| wtm_at "evmeth") => `(tactic| first
  | ((with_reducible refine' md1 _ _ _) <;> wtm_at "ev2")
  | ((with_reducible refine' md2 _ _ _ _) <;> wtm_at "ev2")
  | ((with_reducible refine' md3 _ _ _ _ _) <;> wtm_at "ev2")
  | ((with_reducible refine' md4 _ _ _ _ _ _) <;> wtm_at "ev2"))
local macro_rules | `(tactic| wtm_at "evx") => `(tactic| first
  | ((with_reducible show Ev _ _ (tVar _) _ _); exact ev_var rfl)
  | ((with_reducible show Ev _ _ (tC _) _ _); first | exact ev_int | exact ev_bl | exact ev_none | exact ev_non)
  | ((with_reducible show Ev _ _ (tOp _ _ _) _ _); wtm_at "evop")
  | ((with_reducible show Ev _ _ (tF _ _ _) _ _); wtm_at "evfld")
  | ((with_reducible show Ev _ _ (tCB _ _) _ _); wtm_at "evcb")
  | ((with_reducible show Ev _ _ (tCall _ _ _ _) _ _); wtm_at "evcall")
  | ((with_reducible show Ev _ _ (tMeth _ _ _ _ _ _ _) _ _); wtm_at "evmeth")
  | ((with_reducible show Ev _ _ (tTup _) _ _); first | ((with_reducible refine' ev_pair (m := _) (n := _) _ _) <;> wtm_at "ev2") | ((with_reducible refine' ev_tri (m := _) (n := _) (k := _) _ _ _) <;> wtm_at "ev2"))
  | ((with_reducible refine' ev_neg _) <;> wtm_at "ev2")
  | ((with_reducible refine' ev_notV _) <;> wtm_at "ev2")
  | ((with_reducible show Ev _ _ (tLc _ _ _ _ _) _ _); (with_reducible refine' EvL.ev (m := _) _) <;> wtm_at "ev2")
  | ((with_reducible refine' EvL.ev (m := _) _) <;> wtm_at "ev2"))
local macro_rules | `(tactic| wtm_at "evt") => `(tactic| first
  | ((with_reducible refine' et_test _) <;> wtm_at "ev2")
  | ((with_reducible refine' et_B _) <;> wtm_at "ev2")
  | ((with_reducible refine' et_not _) <;> wtm_at "ev2"))
local macro_rules | `(tactic| wtm_at "evl") => `(tactic| first
  | exact el_nil
  | ((with_reducible refine' el_rep (m := _) _ _ _ _) <;> wtm_at "ev2")
  | ((with_reducible refine' el_cat (m := _) _ _ _) <;> wtm_at "ev2")
  | ((with_reducible refine' el_slice (m := _) _ _ _) <;> wtm_at "ev2")
  | ((with_reducible show EvL _ _ (tSl _ (tVar _) _ _) _ _); (refine' el_sliceM rfl _ _) <;> wtm_at "ev2")
  | ((with_reducible refine' el_listL (m := _) _) <;> wtm_at "ev2")
  | ((with_reducible refine' el_disp (m := _) _ _) <;> wtm_at "ev2")
  | ((with_reducible refine' el_sortLL _) <;> wtm_at "ev2")
  | ((with_reducible refine' el_lc (m := _) (n := _) _ (tg_name (m := _)) _ _ _) <;> wtm_at "ev2")
  | ((with_reducible refine' el_lcR (n := _) _ _ _ _ _) <;> wtm_at "ev2")
  | ((with_reducible refine' el_lc (m := _) (n := _) _ (tg_pair (m := _) (n := _)) _ _ _) <;> wtm_at "ev2")
  | ((with_reducible refine' el_lc (m := _) (n := _) _ (tg_tri (m := _) (n := _) (o := _)) _ _ _) <;> wtm_at "ev2"))
local macro_rules | `(tactic| wtm_at "ev") => `(tactic| first
  | ((with_reducible show Ev _ _ _ _ _); first | ((with_reducible refine' et_chain _ _ _) <;> wtm_at "ev2") | wtm_at "evx")
  | ((with_reducible show EvT _ _ _ _); wtm_at "evt")
  | ((with_reducible show EvL _ _ _ _ _); wtm_at "evl")
  | exact ea_nil
  | exact eh_nil
  | exact eo_none
  | ((with_reducible refine' ea_cons (m := _) _ _) <;> wtm_at "ev2")
  | ((with_reducible refine' eh_cons (m := _) _ _) <;> wtm_at "ev2")
  | ((with_reducible refine' eo_some _) <;> wtm_at "ev2"))
local macro_rules | `(tactic| wtm_at "no") => `(tactic| ((fail_if_success (with_reducible show Ev _ _ _ _ _)); (fail_if_success (with_reducible show EvL _ _ _ _ _)); (fail_if_success (with_reducible show EvT _ _ _ _)); (fail_if_success (with_reducible show EvA _ _ _ _)); (fail_if_success (with_reducible show EvH _ _ _ _ _)); (fail_if_success (with_reducible show EvO _ _ _ _))))
local macro_rules | `(tactic| wtm_at "ev2") => `(tactic| first | wtm_at "ev" | (wtm_at "no"; first | infer_instance | (intro x hx; wtm_at "ev") | skip))
local macro_rules | `(tactic| wtm_at "E") => `(tactic| ((wtm_at "ev") <;> (try infer_instance)) <;> (try (refine Iff.mp Iff.rfl ?_; wtm_at "side")))
local macro_rules | `(tactic| wtm_at "sub") => `(tactic| repeat' first | exact Sub.nil | apply Sub.any | apply Sub.same | (apply Sub.fz) | (apply Sub.ml))
/-! ### the nearest messages -/
abbrev sp_nearest_messages (K : PySem.W.Frag) : SpG := spG2 (rEncoder K) rRec0 (fun t r => WT t r ∧ (bst t (ml t r) (stp t r) 0).length ≤ 100000) (rLst rInt) (fun t r => bst t (ml t r) (stp t r) 0)
abbrev Pr_nearest_messages (P : Program) (w : World) (K : PySem.W.Frag) (mg : Str → Option Value) (base : Heap) : Prop := PrG P w K mg base (He.ga K "nearest_messages") 6 ["encoder", "received"] (sp_nearest_messages K)
def nm_nearest_messages : List Str := ["encoder", "received", "trellis", "costs", "stack", "state", "message", "options", "bit", "_", "after"]
theorem sc_nearest_messages : GScope nm_nearest_messages ["encoder", "received"] (defScope s_nearest_messages) := ⟨rfl, rfl, rfl, by decide +kernel, rfl, by decide +kernel, by decide +kernel⟩
theorem ok_nearest_messages {P : Program} {w : World} {K : PySem.W.Frag} {mg : Str → Option Value} {base : Heap} (T : Tx K mg) (cTrellis_costs_table : Pr_Trellis_costs_table P w K mg base) (cTrellis_best_moves : Pr_Trellis_best_moves P w K mg base) (cTrellis___init__ : Pr_Trellis___init__ P w K mg base) : Pr_nearest_messages P w K mg base := by
  refine pg_of (N := nm_nearest_messages) (k := 5) T.d_nearest_messages sc_nearest_messages (fun _ _ _ _ _ _ us hl => match us, hl with | [_, _], _ => rfl) lenG2 fun cdv A outer s H E pn hr => ⟨_, (gss_cons (gs_ps (ps_set (i := 2) sc_nearest_messages.nd rfl (Or.inl rfl) (pe_make T.mk_Trellis cTrellis___init__.F (hr.mono (by decide)) rfl T.gc_Trellis cTrellis___init__.b cTrellis___init__.v pass0 (pa_cons (pv 0) (pa_cons (pv 1) pa_nil)))))
      (gss_cons (gs_ps (ps_set (i := 3) sc_nearest_messages.nd rfl (Or.inl rfl) (pe_meth0 (pv 2) T.c_Trellis T.m_Trellis_costs_table cTrellis_costs_table.F (hr.mono (by decide)) cTrellis_costs_table.b cTrellis_costs_table.v pass0)))
      (gss_cons (gs_ps (ps_set (i := 4) sc_nearest_messages.nd rfl (Or.inl rfl) (pe_lst (pa_cons (pe_tup (pa_cons pe_int (pa_cons (pe_lst pa_nil) pa_nil))) pa_nil))))
      (gss_cons (gs_while owns_gcx (pt_cmpR op_gt (pe_callB (kLen K rfl) (by rfl) T.f_len boot_len (pa_cons (pv 4) pa_nil)) pe_int (nomark _)) (gss_cons (gs_ps (ps_asg (pe_bm0 PySem.F.plainAttrs_list PySem.F.slot_list_pop PySem.F.type_list_pop mt_pop (pv 4)) (kPgT (n := 2) K rfl rfl (pgs_cons (pg_name (i := 5) sc_nearest_messages.nd rfl (Or.inl rfl)) (pgs_cons (pg_name (i := 6) sc_nearest_messages.nd rfl (Or.inl rfl)) pgs_nil)))))
      (gss_cons (gs_if (pt_cmpR op_eq (pe_callB (kLen K rfl) (by rfl) T.f_len boot_len (pa_cons (pv 6) pa_nil)) (pe_fT (pv 2) T.c_Trellis T.n_Trellis_message_length) (nomark _)) (gss_cons (gs_yield (pv 6))
      gss_nil) (gss_cons (gs_ps (ps_set (i := 7) sc_nearest_messages.nd rfl (Or.inl rfl) (pe_meth (pv 2) T.c_Trellis T.m_Trellis_best_moves cTrellis_best_moves.F (hr.mono (by decide)) cTrellis_best_moves.b cTrellis_best_moves.v pass0 (pa_cons (pv 3) (pa_cons (pe_callB (kLen K rfl) (by rfl) T.f_len boot_len (pa_cons (pv 6) pa_nil)) (pa_cons (pv 5) pa_nil))))))
      (gss_cons (gs_ps (ps_for owns_gcx rfl (kPiRev K rfl (by rfl) T.f_reversed (pa_cons (pv 7) pa_nil)) (kPgT (n := 3) K rfl rfl (pgs_cons (pg_name (i := 8) sc_nearest_messages.nd rfl (Or.inl rfl)) (pgs_cons (pg_name (i := 9) sc_nearest_messages.nd rfl (Or.inl rfl)) (pgs_cons (pg_name (i := 10) sc_nearest_messages.nd rfl (Or.inl rfl)) pgs_nil)))) (pss_one (ps_expr (pe_bm PySem.F.plainAttrs_list PySem.F.slot_list_append PySem.F.type_list_append mt_append (pv 4) (pa_cons (pe_tup (pa_cons (pv 10) (pa_cons (pe_op op_cat (pv 6) (pe_lst (pa_cons (pv 8) pa_nil))) pa_nil))) pa_nil))))))
      gss_nil)))
      gss_nil)))
      gss_nil)))), enG2 (n := 9) rfl fun B t r Q rq hp rt => ?_⟩
  obtain ⟨hw, hbl⟩ := hp
  obtain ⟨hl1, hl2⟩ := stp_length hw
  obtain ⟨p1, p2, p3⟩ := pow_facts hw.g
  have hml : ml t r ≤ (stp t r).length := by rw [hl1]; exact Nat.sub_le _ _
  refine g_step (fun F1 E1 up bk => s_asg (x := (t, r)) (ev_make (t, r) (ea_cons (by wtm_at "E") (ea_cons (by wtm_at "E") ea_nil)) hw) (bk _ ?_))
  refine g_step (fun F1 E1 up bk => s_asg (x := ctb t r) (md1 (x1 := (t, r)) (by wtm_at "E") (by wtm_at "nl") hw) (bk _ ?_))
  refine g_step (fun F1 E1 up bk => s_asgL (R := rPair rInt (rLst rInt)) (xs := [(0, [])]) (el_disp (eh_cons (ev_pair (by wtm_at "E") (EvL.ev el_nil)) eh_nil) (by show 1 ≤ 10000000; decide)) (bk _ ?_))
  refine g_then (g_while (I := List (Int × List Int) × List (List Int)) (fun x => StkOk t (ml t r) x.1 ∧ x.2 ++ stk t (stp t r) (ml t r) x.1 = bst t (ml t r) (stp t r) 0) (fun x => x.2) (fun x => [sf (rEncoder K) t, sf rRec0 r, sf (rTrellis K) (t, r), sf rRows (ctb t r), G.sm (rPair rInt (rLst rInt)) x.1, .any, .any, .any, .any, .any, .any]) (fun x => stm (ml t r) x.1) (fun x => decide ((x.1.length : Int) > 0)) ⟨([(0, [])], []), ⟨⟨fun i e he => ?_⟩, ?_⟩, rfl, by wtm_at "sub"⟩ (fun x hx => by wtm_at "E") (fun x hx hb => ?_) (fun x hx hb => ?_))
  · cases i with
    | zero =>
      cases (Option.some.inj (show some ((0 : Int), ([] : List Int)) = some e from he))
      exact ⟨Nat.le_refl _, Nat.zero_le _, Int.le_refl _, by omega⟩
    | succ i => cases he
  · show stk t (stp t r) (ml t r) ([] ++ [(0, [])]) = _
    rw [stk_snoc]
    show (bst t (ml t r - 0) ((stp t r).drop 0) 0).map (fun l => l) ++ [] = _
    rw [List.map_id', List.append_nil]; rfl
  · obtain ⟨S0, dn⟩ := x
    obtain ⟨hs, ho⟩ := hx
    dsimp only at hs ho hb ⊢
    obtain ⟨S, e, rfl⟩ : ∃ S e, S0 = S ++ [e] := by
      rcases List.eq_nil_or_concat S0 with q | ⟨S, e, q⟩
      · rw [q] at hb; simp at hb
      · exact ⟨S, e, by rw [q, List.concat_eq_append]⟩
    obtain ⟨s, msg⟩ := e
    obtain ⟨k1, k2, k3, k4, k5⟩ := hs.pop
    dsimp only at k2 k3 k4 k5
    rw [stk_snoc] at ho
    refine g_step (fun F1 E1 up bk => s_popT tg_pair rfl (bk _ ?_))
    refine g_then ?_
    refine g_if (by wtm_at "E") (fun he => ?_) (fun he => ?_)
    · have he : msg.length = ml t r := by
        have : (msg.length : Int) = (ml t r : Int) := by simpa using he
        omega
      rw [ent_end (e := (s, msg)) he] at ho
      have hdl : dn.length ≤ 100000 := by
        have := congrArg List.length ho
        rw [List.length_append] at this
        omega
      refine g_then (g_yield (by wtm_at "E") (by omega) (g_nil (g_nil (g_lg (S, dn ++ [msg]) ⟨⟨k1, ?_⟩, ?_⟩ rfl (by wtm_at "sub")))))
      · rw [← ho]; dsimp only; rw [List.append_assoc]
      · dsimp only
        rw [stm_snoc]
        have : stm (ml t r) [(s, msg)] = 3 ^ (ml t r - msg.length + 1) := by unfold stm; simp
        rw [this]
        have : 0 < 3 ^ (ml t r - msg.length + 1) := Nat.pow_pos (by decide)
        omega
    · have he : msg.length < ml t r := by
        have : ¬ (msg.length : Int) = (ml t r : Int) := by simpa using he
        omega
      rw [ent_step (e := (s, msg)) he hml] at ho
      have hPl : PlP t r (msg.length : Int) s := ⟨by omega, by omega, k4, k5⟩
      refine g_step (fun F1 E1 up bk => s_asg (md4 (x1 := (t, r)) (by wtm_at "E") (by wtm_at "E") (by wtm_at "E") (by wtm_at "E") (by wtm_at "nl") ⟨hw, rfl, hPl⟩) (bk _ ?_))
      dsimp only
      rw [Int.toNat_natCast]
      generalize hM : bm1 t (ml t r - msg.length) ((stp t r).getD msg.length []) ((stp t r).drop (msg.length + 1)) s.toNat = M
      have hN : nexts t (stp t r) (ml t r) (s, msg) = M.map fun m => (m.2.2, msg ++ [m.1]) := by rw [← hM]; rfl
      have hMl : M.length ≤ 2 := by rw [← hM]; exact bm1_length _ _ _ _ _
      refine g_step (fun F1 E1 up bk => s_forRv (I := Unit) (fun i _ => True) (fun i _ => [sf (rEncoder K) t, sf rRec0 r, sf (rTrellis K) (t, r), sf rRows (ctb t r), G.sm (rPair rInt (rLst rInt)) (S ++ ((M.reverse.take i).map fun m => (m.2.2, msg ++ [m.1]))), .any, sf (rLst rInt) msg, .any, .any, .any, .any]) tg_tri (by wtm_at "E") ⟨(), trivial, by wtm_at "sub"; exact (List.append_nil _).symm⟩ (fun B1 up1 i _ m hi hm _ => ?_) (fun _ _ => bk _ ?_))
      · have hm2 : M.reverse[i]? = some m := by rw [List.getElem?_reverse hi]; exact hm
        refine s_app rfl (ev_pair (by wtm_at "E") (EvL.ev (el_cat (by wtm_at "E") (by wtm_at "E") (by show _ + 1 ≤ _; omega)))) (by rw [List.length_append, List.length_map, List.length_take, List.length_reverse]; omega) (wn_lp () trivial ?_)
        wtm_at "sub"
        rw [map_take_succ hm2, List.append_assoc]
      · refine g_nil (g_nil (g_lg (S ++ (nexts t (stp t r) (ml t r) (s, msg)).reverse, dn) ⟨⟨k1.push k2 he, ?_⟩, stm_nexts he⟩ rfl ?_))
        · dsimp only
          rw [stk_push, ← ho]
        · rw [← List.length_reverse, List.take_length, hN, List.map_reverse]
          wtm_at "sub"
  · obtain ⟨S0, dn⟩ := x
    obtain ⟨hs, ho⟩ := hx
    dsimp only at hs ho hb ⊢
    have : S0 = [] := by
      cases S0 with
      | nil => rfl
      | cons a l => simp at hb
    subst this
    rw [show stk t (stp t r) (ml t r) [] = [] from rfl, List.append_nil] at ho
    rw [ho]
    exact g_nil (g_done rt)
end NW
set_option maxHeartbeats 4000000
namespace NW
open PySem PySem.Spec PyProof.Rows L2 G MX
local macro_rules | `(tactic| wtm_at "nl") => `(tactic| first
  | with_reducible exact nl_Field_digits _ _
  | with_reducible exact nl_Field_element _ _
  | with_reducible exact nl_Field_plus _ _
  | with_reducible exact nl_Field_negative _ _
  | with_reducible exact nl_Field_minus _ _
  | with_reducible exact nl_Field_times _ _
  | with_reducible exact nl_Field_inverse _ _
  | with_reducible exact nl_LinearCode_words _ _
  | with_reducible exact nl_Encoder_advance _ _
  | with_reducible exact nl_Encoder__fed _ _
  | with_reducible exact nl_Encoder_word_for _ _
  | with_reducible exact nl_Encoder_linear _ _
  | with_reducible exact nl_Trellis_moves_from _ _
  | with_reducible exact nl_Trellis_costs_table _ _
  | with_reducible exact nl_Trellis_best_moves _ _
  | with_reducible exact nl_Summary_grown _ _
  | with_reducible exact nl_PathDecoder_restart _ _
  | with_reducible exact nl_PathDecoder_take _ _
  | with_reducible exact nl_PathDecoder_answer _ _)
local macro_rules | `(tactic| wtm_at "side") => `(tactic| first
  | assumption
  | exact rfl
  | exact atI_0 (by omega)
  | exact atI_L (by omega)
  | omega
  | exact trivial
  | exact fun _ h => h
  | exact List.mem_singleton.mpr rfl
  | wtm_at "nl"
  | exact Or.inr ⟨by omega, by omega⟩
  | exact Or.inl ⟨by omega, by omega⟩
  | (show (0 : Int) < _; omega)
  | exact ⟨by omega, by omega⟩
  | exact ⟨rfl, rfl⟩
  | exact MX.Bits.getD (by assumption) _
  | exact ⟨by assumption, by assumption⟩
  | exact ⟨by assumption, by assumption, by assumption⟩
  | exact ⟨by assumption, MX.Bits.getD (by assumption) _⟩
  | decide
  | (show (_ : Nat) ≤ 10000000; (simp only [List.length_cons, List.length_nil, List.length_append]; omega))
  | (show (_ : Nat) < 10000000; (simp only [List.length_cons, List.length_nil, List.length_append]; omega)))
local macro_rules | `(tactic| wtm_at "evop") => `(tactic| first
  | ((with_reducible refine' ev_opI0 _ _) <;> wtm_at "ev2")
  | ((with_reducible refine' ev_opB0 _ _) <;> wtm_at "ev2")
  | ((with_reducible refine' ev_opI _ _ _) <;> wtm_at "ev2")
  | ((with_reducible refine' ev_ixL (m := _) _ _ _) <;> wtm_at "ev2")
  | ((with_reducible show Ev _ _ (tOp (rIxL _) (tVar _) _) _ _); (refine' ev_ixM rfl _ _) <;> wtm_at "ev2")
  | ((with_reducible refine' ev_eqI _ _) <;> wtm_at "ev2")
  | ((with_reducible refine' ev_neI _ _) <;> wtm_at "ev2")
  | ((with_reducible refine' ev_isN (n := _) _) <;> wtm_at "ev2")
  | ((with_reducible refine' ev_notN (n := _) _) <;> wtm_at "ev2")
  | ((with_reducible refine' ev_fst (m := _) (n := _) _) <;> wtm_at "ev2")
  | ((with_reducible refine' ev_snd (m := _) (n := _) _) <;> wtm_at "ev2")
  | ((with_reducible refine' ev_tri1 _) <;> wtm_at "ev2")
  | ((with_reducible refine' ev_tri2 _) <;> wtm_at "ev2")
  | ((with_reducible refine' ev_ixT (m := _) _ _ _) <;> wtm_at "ev2")
  | ((with_reducible refine' ev_ixS (m := _) _ _ _) <;> wtm_at "ev2")
  | ((with_reducible refine' EvL.ev (m := _) _) <;> wtm_at "ev2"))
local macro_rules | `(tactic| wtm_at "evfld") => `(tactic| first
  | ((with_reducible refine' ev_Field_prime _) <;> wtm_at "ev2")
  | ((with_reducible refine' ev_Field_modulus _) <;> wtm_at "ev2")
  | ((with_reducible refine' ev_Field_degree _) <;> wtm_at "ev2")
  | ((with_reducible refine' ev_Field_order _) <;> wtm_at "ev2")
  | ((with_reducible refine' ev_LinearCode_field _) <;> wtm_at "ev2")
  | ((with_reducible refine' ev_LinearCode_length _) <;> wtm_at "ev2")
  | ((with_reducible refine' ev_LinearCode_dimension _) <;> wtm_at "ev2")
  | ((with_reducible refine' ev_LinearCode_rows _) <;> wtm_at "ev2")
  | ((with_reducible refine' ev_LinearCode_pivots _) <;> wtm_at "ev2")
  | ((with_reducible refine' ev_LinearCode_checks _) <;> wtm_at "ev2")
  | ((with_reducible refine' ev_LinearCode_size _) <;> wtm_at "ev2")
  | ((with_reducible refine' ev_Encoder_taps _) <;> wtm_at "ev2")
  | ((with_reducible refine' ev_Encoder_memory _) <;> wtm_at "ev2")
  | ((with_reducible refine' ev_Encoder_outputs _) <;> wtm_at "ev2")
  | ((with_reducible refine' ev_Encoder_state_count _) <;> wtm_at "ev2")
  | ((with_reducible refine' ev_Trellis_steps _) <;> wtm_at "ev2")
  | ((with_reducible refine' ev_Trellis_message_length _) <;> wtm_at "ev2")
  | ((with_reducible refine' ev_Trellis_table _) <;> wtm_at "ev2")
  | ((with_reducible refine' ev_Summary_cost _) <;> wtm_at "ev2")
  | ((with_reducible refine' ev_Summary_count_of _) <;> wtm_at "ev2")
  | ((with_reducible refine' ev_Summary_first _) <;> wtm_at "ev2")
  | ((with_reducible refine' ev_Summary_start_of _) <;> wtm_at "ev2")
  | ((with_reducible refine' ev_PathDecoder_encoder _) <;> wtm_at "ev2")
  | ((with_reducible refine' ev_PathDecoder_table _) <;> wtm_at "ev2")
  | ((with_reducible refine' ev_PathDecoder_steps _) <;> wtm_at "ev2")
  | ((with_reducible refine' ev_PathDecoder_summaries _) <;> wtm_at "ev2"))
local macro_rules | `(tactic| wtm_at "evcb") => `(tactic| first
  | ((with_reducible show Ev _ _ (tCB (rLen _) (tCons (tVar _) tNil)) _ _); exact ev_lenM rfl)
  | ((with_reducible refine' ev_lenL _) <;> wtm_at "ev2")
  | ((with_reducible refine' ev_lenT _) <;> wtm_at "ev2")
  | ((with_reducible refine' ev_lenS _) <;> wtm_at "ev2")
  | ((with_reducible refine' ev_int1 _) <;> wtm_at "ev2")
  | ((with_reducible refine' ev_intB _) <;> wtm_at "ev2")
  | ((with_reducible refine' ev_abs _) <;> wtm_at "ev2")
  | ((with_reducible refine' ev_min2 _ _) <;> wtm_at "ev2")
  | ((with_reducible refine' ev_max2 _ _) <;> wtm_at "ev2")
  | ((with_reducible refine' ev_minLL _ _) <;> wtm_at "ev2")
  | ((with_reducible refine' ev_sum _) <;> wtm_at "ev2")
  | ((with_reducible refine' ev_tupL (m := _) _) <;> wtm_at "ev2")
  | ((with_reducible refine' EvL.ev (m := _) _) <;> wtm_at "ev2"))
local macro_rules | `(tactic| wtm_at "evcall") => `(tactic| first
  | ((with_reducible refine' cd1 _ _) <;> wtm_at "ev2")
  | ((with_reducible refine' cd2 _ _ _) <;> wtm_at "ev2")
  | ((with_reducible refine' cd3 _ _ _ _) <;> wtm_at "ev2")
  | ((with_reducible refine' cd4 _ _ _ _ _) <;> wtm_at "ev2")
  | ((with_reducible refine' cd5 _ _ _ _ _ _) <;> wtm_at "ev2"))
local macro_rules | `(tactic| wtm_at "evmeth") => `(tactic| first
  | ((with_reducible refine' md1 _ _ _) <;> wtm_at "ev2")
  | ((with_reducible refine' md2 _ _ _ _) <;> wtm_at "ev2")
  | ((with_reducible refine' md3 _ _ _ _ _) <;> wtm_at "ev2")
  | ((with_reducible refine' md4 _ _ _ _ _ _) <;> wtm_at "ev2"))
local macro_rules | `(tactic| wtm_at "evx") => `(tactic| first
  | ((with_reducible show Ev _ _ (tVar _) _ _); exact ev_var rfl)
  | ((with_reducible show Ev _ _ (tC _) _ _); first | exact ev_int | exact ev_bl | exact ev_none | exact ev_non)
  | ((with_reducible show Ev _ _ (tOp _ _ _) _ _); wtm_at "evop")
  | ((with_reducible show Ev _ _ (tF _ _ _) _ _); wtm_at "evfld")
  | ((with_reducible show Ev _ _ (tCB _ _) _ _); wtm_at "evcb")
  | ((with_reducible show Ev _ _ (tCall _ _ _ _) _ _); wtm_at "evcall")
  | ((with_reducible show Ev _ _ (tMeth _ _ _ _ _ _ _) _ _); wtm_at "evmeth")
  | ((with_reducible show Ev _ _ (tTup _) _ _); first | ((with_reducible refine' ev_pair (m := _) (n := _) _ _) <;> wtm_at "ev2") | ((with_reducible refine' ev_tri (m := _) (n := _) (k := _) _ _ _) <;> wtm_at "ev2"))
  | ((with_reducible refine' ev_neg _) <;> wtm_at "ev2")
  | ((with_reducible refine' ev_notV _) <;> wtm_at "ev2")
  | ((with_reducible show Ev _ _ (tLc _ _ _ _ _) _ _); (with_reducible refine' EvL.ev (m := _) _) <;> wtm_at "ev2")
  | ((with_reducible refine' EvL.ev (m := _) _) <;> wtm_at "ev2"))
local macro_rules | `(tactic| wtm_at "evt") => `(tactic| first
  | ((with_reducible refine' et_test _) <;> wtm_at "ev2")
  | ((with_reducible refine' et_B _) <;> wtm_at "ev2")
  | ((with_reducible refine' et_not _) <;> wtm_at "ev2"))
local macro_rules | `(tactic| wtm_at "evl") => `(tactic| first
  | exact el_nil
  | ((with_reducible refine' el_rep (m := _) _ _ _ _) <;> wtm_at "ev2")
  | ((with_reducible refine' el_cat (m := _) _ _ _) <;> wtm_at "ev2")
  | ((with_reducible refine' el_slice (m := _) _ _ _) <;> wtm_at "ev2")
  | ((with_reducible show EvL _ _ (tSl _ (tVar _) _ _) _ _); (refine' el_sliceM rfl _ _) <;> wtm_at "ev2")
  | ((with_reducible refine' el_listL (m := _) _) <;> wtm_at "ev2")
  | ((with_reducible refine' el_disp (m := _) _ _) <;> wtm_at "ev2")
  | ((with_reducible refine' el_sortLL _) <;> wtm_at "ev2")
  | ((with_reducible refine' el_lc (m := _) (n := _) _ (tg_name (m := _)) _ _ _) <;> wtm_at "ev2")
  | ((with_reducible refine' el_lcR (n := _) _ _ _ _ _) <;> wtm_at "ev2")
  | ((with_reducible refine' el_lc (m := _) (n := _) _ (tg_pair (m := _) (n := _)) _ _ _) <;> wtm_at "ev2")
  | ((with_reducible refine' el_lc (m := _) (n := _) _ (tg_tri (m := _) (n := _) (o := _)) _ _ _) <;> wtm_at "ev2"))
local macro_rules | `(tactic| wtm_at "ev") => `(tactic| first
  | ((with_reducible show Ev _ _ _ _ _); first | ((with_reducible refine' et_chain _ _ _) <;> wtm_at "ev2") | wtm_at "evx")
  | ((with_reducible show EvT _ _ _ _); wtm_at "evt")
  | ((with_reducible show EvL _ _ _ _ _); wtm_at "evl")
  | exact ea_nil
  | exact eh_nil
  | exact eo_none
  | ((with_reducible refine' ea_cons (m := _) _ _) <;> wtm_at "ev2")
  | ((with_reducible refine' eh_cons (m := _) _ _) <;> wtm_at "ev2")
  | ((with_reducible refine' eo_some _) <;> wtm_at "ev2"))
local macro_rules | `(tactic| wtm_at "no") => `(tactic| ((fail_if_success (with_reducible show Ev _ _ _ _ _)); (fail_if_success (with_reducible show EvL _ _ _ _ _)); (fail_if_success (with_reducible show EvT _ _ _ _)); (fail_if_success (with_reducible show EvA _ _ _ _)); (fail_if_success (with_reducible show EvH _ _ _ _ _)); (fail_if_success (with_reducible show EvO _ _ _ _))))
local macro_rules | `(tactic| wtm_at "ev2") => `(tactic| first | wtm_at "ev" | (wtm_at "no"; first | infer_instance | (intro x hx; wtm_at "ev") | skip))
local macro_rules | `(tactic| wtm_at "E") => `(tactic| ((wtm_at "ev") <;> (try infer_instance)) <;> (try (refine Iff.mp Iff.rfl ?_; wtm_at "side")))
local macro_rules | `(tactic| wtm_at "sub") => `(tactic| repeat' first | exact Sub.nil | apply Sub.any | apply Sub.same | (apply Sub.fz) | (apply Sub.ml))
/-! ### the law's own defs -/
abbrev sp__law_row (K : PySem.W.Frag) : Sp := spP3 rInt rInt rInt (fun _ many at_ => 0 ≤ many ∧ many ≤ 1000 ∧ 0 ≤ at_ ∧ at_ ≤ 1000) (rLst rInt) (fun _ many _ y => Nums many.toNat y)
abbrev Pr__law_row (P : Program) (w : World) (K : PySem.W.Frag) (mg : Str → Option Value) (base : Heap) : Prop := Pr P w K mg base (He.ga K "_law_row") 1 ["_law_cell", "_law_many", "_law_at"] (sp__law_row K) []
def nm__law_row : List Str := ["_law_cell", "_law_many", "_law_at", "_law_row_here", "_law_rest", "_law_mixed", "_law_k"]
theorem sc__law_row : FnScope nm__law_row ["_law_cell", "_law_many", "_law_at"] (defScope s__law_row) := ⟨rfl, rfl, rfl, by decide +kernel, rfl, by decide +kernel, by decide +kernel⟩
theorem ok__law_row {P : Program} {w : World} {K : PySem.W.Frag} {mg : Str → Option Value} {base : Heap} (T : Tx K mg)  : Pr__law_row P w K mg base := by
  refine pr_of (N := nm__law_row) (k := 0) T.d__law_row sc__law_row (fun _ _ _ _ _ _ us hl => match us, hl with | [_, _, _], _ => rfl) len3 fun cdv A outer s H E hr => ⟨_, (pss_cons (ps_set (i := 3) sc__law_row.nd rfl (Or.inl rfl) (pe_lst pa_nil))
      (pss_cons (ps_set (i := 4) sc__law_row.nd rfl (Or.inl rfl) (pe_callB cl_abs (by rfl) T.f_abs bb_abs (pa_cons (pv 0) pa_nil)))
      (pss_cons (ps_set (i := 5) sc__law_row.nd rfl (Or.inl rfl) (pe_op op_mod (pe_callTy cl_int (by rfl) T.f_int bb_int (pa_cons (pe_op op_add (pv 4) (pe_op op_mul pe_int (pv 2))) pa_nil)) pe_int))
      (pss_cons (ps_if (pt_cmpR op_lt (pv 4) (pe_op op_pow pe_int pe_int) (nomark _)) (pss_one (ps_set (i := 4) sc__law_row.nd rfl (Or.inl rfl) pe_int)) pss_nil)
      (pss_cons (ps_for PassesOwn.never rfl (pi_range1 rfl T.f_range (pa_cons (pv 1) pa_nil)) (pg_name (i := 6) sc__law_row.nd rfl (Or.inl rfl)) (pss_cons (ps_set (i := 5) sc__law_row.nd rfl (Or.inl rfl) (pe_op op_mod (pe_callTy cl_int (by rfl) T.f_int bb_int (pa_cons (pe_op op_add (pe_op op_mul (pv 5) pe_int) pe_int) pa_nil)) pe_int))
      (pss_one (ps_if (pt_cmpR op_gt (pv 4) pe_int (nomark _)) (pss_cons (ps_expr (pe_bm PySem.F.plainAttrs_list PySem.F.slot_list_append PySem.F.type_list_append mt_append (pv 3) (pa_cons (pe_op op_mod (pe_callTy cl_int (by rfl) T.f_int bb_int (pa_cons (pv 4) pa_nil)) pe_int) pa_nil)))
      (pss_one (ps_set (i := 4) sc__law_row.nd rfl (Or.inl rfl) (pe_op op_fdiv (pv 4) pe_int)))) (pss_one (ps_expr (pe_bm PySem.F.plainAttrs_list PySem.F.slot_list_append PySem.F.type_list_append mt_append (pv 3) (pa_cons (pe_op op_mod (pe_callTy cl_int (by rfl) T.f_int bb_int (pa_cons (pe_op op_fdiv (pv 5) pe_int) pa_nil)) pe_int) pa_nil))))))))
      (pss_one (ps_ret (pv 3)))))))), en3 (n := 4) rfl fun B cell many at_ Q hp rt => ?_⟩
  obtain ⟨h1, h2, h3, h4⟩ := hp
  refine q_asgL (R := rInt) (by wtm_at "E") ?_
  refine q_asg (by wtm_at "E") ?_
  have hr0 : 0 ≤ (if cell < 0 then -cell else cell) := by split <;> omega
  generalize (if cell < 0 then -cell else cell) = rest at hr0
  refine q_asg (by wtm_at "E") ?_
  refine q_meet (I := Int) (fun r => 0 ≤ r) (fun r => [sf rInt cell, sf rInt many, sf rInt at_, G.sm rInt [], sf rInt r, sf rInt ((rest + 977 * at_) % 2147483647), .any]) (et_test (ev_opB0 (f := fun i j => decide (i < j)) (by wtm_at "E") (ev_opI (by wtm_at "E") (by wtm_at "E") ⟨by decide, by decide, by decide⟩))) (fun _ E k => s_asg (by wtm_at "E") (Wn.sub (by wtm_at "sub") (k 0 (Int.le_refl _)))) (fun _ E k => s_next (Wn.sub (by wtm_at "sub") (k rest hr0))) (fun r hr => ?_)
  refine q_forR1 (I := List Int × Int × Int) (fun i x => Nums i x.1 ∧ 0 ≤ x.2.1) (fun i x => [sf rInt cell, sf rInt many, sf rInt at_, G.sm rInt x.1, sf rInt x.2.1, sf rInt x.2.2, .any]) (by wtm_at "E") (by omega) ⟨([], r, (rest + 977 * at_) % 2147483647), ⟨⟨rfl, fun x h => by cases h⟩, hr⟩, by wtm_at "sub"⟩ (fun i x hi hx => ?_) (fun x hx => ?_)
  · obtain ⟨l, r, m⟩ := x
    obtain ⟨⟨n1, n2⟩, hr⟩ := hx
    dsimp only at n1 n2 hr ⊢
    have nn : ∀ v : Int, Nums (i + 1) (l ++ [v % 1009]) := fun v => ⟨by rw [List.length_append, n1]; rfl, fun x hx => by
      rcases List.mem_append.mp hx with q | q
      · exact n2 x q
      · rw [List.mem_singleton.mp q]; omega⟩
    refine q_asg (by wtm_at "E") ?_
    refine s_if (by wtm_at "E") (fun _ => ?_) (fun _ => ?_)
    · refine q_app rfl (by wtm_at "E") (by omega) ?_
      refine s_asg (by wtm_at "E") (wn_lp (l ++ [r % 1009], r / 1009, _) ⟨nn _, Int.ediv_nonneg hr (by decide)⟩ (by wtm_at "sub"))
    · refine s_app rfl (by wtm_at "E") (by omega) (wn_lp (l ++ [_ % 1009], r, _) ⟨nn _, hr⟩ (by wtm_at "sub"))
  · refine wn_fz (i := 3) rfl ?_
    exact s_ret (by wtm_at "E") rt hx.1
abbrev sp__law_numbers (K : PySem.W.Frag) : Sp := spP2 (rLstS K rInt) rInt (fun l many => l.length ≤ 63 ∧ many = 80) (rLst rInt) (fun _ _ y => Nums 80 y)
abbrev Pr__law_numbers (P : Program) (w : World) (K : PySem.W.Frag) (mg : Str → Option Value) (base : Heap) : Prop := Pr P w K mg base (He.ga K "_law_numbers") 2 ["_law_script", "_law_many"] (sp__law_numbers K) []
def nm__law_numbers : List Str := ["_law_script", "_law_many", "_law_cells", "_law_each", "_law_numbers_here", "_law_at", "_law_number"]
theorem sc__law_numbers : FnScope nm__law_numbers ["_law_script", "_law_many"] (defScope s__law_numbers) := ⟨rfl, rfl, rfl, by decide +kernel, rfl, by decide +kernel, by decide +kernel⟩
theorem ok__law_numbers {P : Program} {w : World} {K : PySem.W.Frag} {mg : Str → Option Value} {base : Heap} (T : Tx K mg) (c_law_row : Pr__law_row P w K mg base) : Pr__law_numbers P w K mg base := by
  refine pr_of (N := nm__law_numbers) (k := 1) T.d__law_numbers sc__law_numbers (fun _ _ _ _ _ _ us hl => match us, hl with | [_, _], _ => rfl) len2 fun cdv A outer s H E hr => ⟨_, (pss_cons (ps_set (i := 2) sc__law_numbers.nd rfl (Or.inl rfl) (pe_slice (kSl K rfl) (pv 0) po_none (po_some pe_int)))
      (pss_cons (ps_set (i := 3) sc__law_numbers.nd rfl (Or.inl rfl) (pe_op op_add pe_int (pe_op op_fdiv (pv 1) (pe_callB (cl_max2 rfl) (by rfl) T.f_max bb_max (pa_cons pe_int (pa_cons (pe_callB (kLen K rfl) (by rfl) T.f_len boot_len (pa_cons (pv 2) pa_nil)) pa_nil))))))
      (pss_cons (ps_set (i := 4) sc__law_numbers.nd rfl (Or.inl rfl) (pe_lst pa_nil))
      (pss_cons (ps_for PassesOwn.never rfl (pi_range1 rfl T.f_range (pa_cons (pe_callB (kLen K rfl) (by rfl) T.f_len boot_len (pa_cons (pv 2) pa_nil)) pa_nil)) (pg_name (i := 5) sc__law_numbers.nd rfl (Or.inl rfl)) (pss_one (ps_for PassesOwn.never rfl (kPiL K rfl (pe_cal c_law_row T.g__law_row hr (pa_cons (pe_ix (kIxL K rfl) (pv 2) (pv 5) (fun _ _ => rfl)) (pa_cons (pv 3) (pa_cons (pv 5) pa_nil))))) (pg_name (i := 6) sc__law_numbers.nd rfl (Or.inl rfl)) (pss_one (ps_expr (pe_bm PySem.F.plainAttrs_list PySem.F.slot_list_append PySem.F.type_list_append mt_append (pv 4) (pa_cons (pv 6) pa_nil)))))))
      (pss_cons (ps_while PassesOwn.never (pt_cmpR op_lt (pe_callB (kLen K rfl) (by rfl) T.f_len boot_len (pa_cons (pv 4) pa_nil)) (pv 1) (nomark _)) (pss_one (ps_expr (pe_bm PySem.F.plainAttrs_list PySem.F.slot_list_append PySem.F.type_list_append mt_append (pv 4) (pa_cons pe_int pa_nil)))))
      (pss_one (ps_ret (pe_slice (kSl K rfl) (pv 4) po_none (po_some (pv 1)))))))))), en2 (n := 5) rfl fun B l many Q hp rt => ?_⟩
  obtain ⟨h1, rfl⟩ := hp
  refine q_asg (EvL.ev (EvL.to (el_sliceS (by wtm_at "E") eo_none (eo_some (by wtm_at "E"))) (cutA_take (by decide)))) ?_
  have hc : (l.take (63 : Int).toNat).length = l.length := by rw [List.length_take]; show min 63 _ = _; omega
  generalize l.take (63 : Int).toNat = cells at hc
  have hm : 1 ≤ max (1 : Int) (cells.length : Int) ∧ max (1 : Int) (cells.length : Int) < 1000 := by omega
  refine q_asg (x := 1 + 80 / max (1 : Int) (cells.length : Int)) (ev_opI0 (f := fun i j => i + j) ev_int (ev_opI (f := fun i j => i / j) (C := CDiv) (by wtm_at "E") (by wtm_at "E") ⟨by omega, by omega⟩)) ?_
  have he : 0 ≤ 1 + 80 / max (1 : Int) (cells.length : Int) ∧ 1 + 80 / max (1 : Int) (cells.length : Int) ≤ 81 := by
    have a1 : 0 ≤ 80 / max (1 : Int) (cells.length : Int) := Int.ediv_nonneg (by decide) (by omega)
    have a2 : 80 / max (1 : Int) (cells.length : Int) ≤ 80 := Int.ediv_le_self _ (by decide)
    omega
  generalize 1 + 80 / max (1 : Int) (cells.length : Int) = each at he
  refine q_asgL (R := rInt) (by wtm_at "E") ?_
  refine q_forR1 (I := List Int) (fun i x => x.length ≤ 81 * i ∧ ∀ y, y ∈ x → 0 ≤ y ∧ y < 1009) (fun i x => [sf (rLstS K rInt) l, sf rInt 80, sf (rLst rInt) cells, sf rInt each, G.sm rInt x, .any, .any]) (by wtm_at "E") (by omega) ⟨[], ⟨Nat.zero_le _, fun y h => by cases h⟩, by wtm_at "sub"⟩ (fun i x hi hx => ?_) (fun x hx => ?_)
  · have hat : atI cells (i : Int) = some (cells.getD i 0) := atI_0 (by omega)
    refine s_forLP (cp3 (by wtm_at "E") (by wtm_at "E") (by wtm_at "E") ⟨by omega, by omega, by omega, by omega⟩) (fun F1 up ys hys tl' htl => ?_)
    have hyl : ys.length ≤ 81 := by rw [hys.1]; omega
    refine s_forL (I := Unit) (xs := ys) (fun j _ => True) (fun j _ => [sf (rLstS K rInt) l, sf rInt 80, sf (rLst rInt) cells, sf rInt each, G.sm rInt (x ++ ys.take j), .any, .any]) tg_name htl ⟨(), trivial, by wtm_at "sub"; exact (List.append_nil _).symm⟩ (fun B1 up1 j _ y hy _ => ?_) (fun _ _ => wn_up up (wn_lp (x ++ ys.take ys.length) ⟨?_, ?_⟩ (by wtm_at "sub")))
    · refine s_app rfl (by wtm_at "E") (by rw [List.length_append, List.length_take]; omega) (wn_lp () trivial ?_)
      wtm_at "sub"
      rw [List.take_add_one, hy, List.append_assoc]; rfl
    · rw [List.take_length, List.length_append]; omega
    · rw [List.take_length]
      intro y hy
      rcases List.mem_append.mp hy with q | q
      · exact hx.2 y q
      · exact hys.2 y q
  · refine q_while (I := List Int) (fun x => x.length ≤ 81 * 63 + 80 ∧ ∀ y, y ∈ x → 0 ≤ y ∧ y < 1009) (fun x => [sf (rLstS K rInt) l, sf rInt 80, sf (rLst rInt) cells, sf rInt each, G.sm rInt x, .any, .any]) (fun x => 80 - x.length) (fun x => decide ((x.length : Int) < 80)) ⟨x, ⟨by have := hx.1; omega, hx.2⟩, by wtm_at "sub"⟩ (fun x hx => by wtm_at "E") (fun x hx hb => ?_) (fun x hx hb => ?_)
    · have hb : (x.length : Int) < 80 := by simpa using hb
      refine s_app rfl (by wtm_at "E") (by omega) (wn_ls (by wtm_at "sub") ⟨⟨by rw [List.length_append]; show _ + 1 ≤ _; omega, fun y hy => ?_⟩, by rw [List.length_append]; show 80 - (_ + 1) < _; omega⟩)
      rcases List.mem_append.mp hy with q | q
      · exact hx.2 y q
      · rw [List.mem_singleton.mp q]; decide
    · have hb : ¬ (x.length : Int) < 80 := by simpa using hb
      refine s_ret (EvL.ev (EvL.to (el_sliceM rfl eo_none (eo_some (by wtm_at "E"))) (cutA_take (by decide)))) rt ⟨?_, fun y hy => hx.2 y (List.mem_of_mem_take hy)⟩
      rw [List.length_take]
      show min 80 _ = 80
      omega
end NW
set_option maxHeartbeats 4000000
namespace NW
open PySem PySem.Spec PyProof.Rows L2 G MX
local macro_rules | `(tactic| wtm_at "nl") => `(tactic| first
  | with_reducible exact nl_Field_digits _ _
  | with_reducible exact nl_Field_element _ _
  | with_reducible exact nl_Field_plus _ _
  | with_reducible exact nl_Field_negative _ _
  | with_reducible exact nl_Field_minus _ _
  | with_reducible exact nl_Field_times _ _
  | with_reducible exact nl_Field_inverse _ _
  | with_reducible exact nl_LinearCode_words _ _
  | with_reducible exact nl_Encoder_advance _ _
  | with_reducible exact nl_Encoder__fed _ _
  | with_reducible exact nl_Encoder_word_for _ _
  | with_reducible exact nl_Encoder_linear _ _
  | with_reducible exact nl_Trellis_moves_from _ _
  | with_reducible exact nl_Trellis_costs_table _ _
  | with_reducible exact nl_Trellis_best_moves _ _
  | with_reducible exact nl_Summary_grown _ _
  | with_reducible exact nl_PathDecoder_restart _ _
  | with_reducible exact nl_PathDecoder_take _ _
  | with_reducible exact nl_PathDecoder_answer _ _)
local macro_rules | `(tactic| wtm_at "side") => `(tactic| first
  | assumption
  | exact rfl
  | exact atI_0 (by omega)
  | exact atI_L (by omega)
  | omega
  | exact trivial
  | exact fun _ h => h
  | exact List.mem_singleton.mpr rfl
  | wtm_at "nl"
  | exact Or.inr ⟨by omega, by omega⟩
  | exact Or.inl ⟨by omega, by omega⟩
  | (show (0 : Int) < _; omega)
  | exact ⟨by omega, by omega⟩
  | exact ⟨rfl, rfl⟩
  | exact MX.Bits.getD (by assumption) _
  | exact ⟨by assumption, by assumption⟩
  | exact ⟨by assumption, by assumption, by assumption⟩
  | exact ⟨by assumption, MX.Bits.getD (by assumption) _⟩
  | decide
  | (show (_ : Nat) ≤ 10000000; (simp only [List.length_cons, List.length_nil, List.length_append]; omega))
  | (show (_ : Nat) < 10000000; (simp only [List.length_cons, List.length_nil, List.length_append]; omega)))
local macro_rules | `(tactic| wtm_at "evop") => `(tactic| first
  | ((with_reducible refine' ev_opI0 _ _) <;> wtm_at "ev2")
  | ((with_reducible refine' ev_opB0 _ _) <;> wtm_at "ev2")
  | ((with_reducible refine' ev_opI _ _ _) <;> wtm_at "ev2")
  | ((with_reducible refine' ev_ixL (m := _) _ _ _) <;> wtm_at "ev2")
  | ((with_reducible show Ev _ _ (tOp (rIxL _) (tVar _) _) _ _); (refine' ev_ixM rfl _ _) <;> wtm_at "ev2")
  | ((with_reducible refine' ev_eqI _ _) <;> wtm_at "ev2")
  | ((with_reducible refine' ev_neI _ _) <;> wtm_at "ev2")
  | ((with_reducible refine' ev_isN (n := _) _) <;> wtm_at "ev2")
  | ((with_reducible refine' ev_notN (n := _) _) <;> wtm_at "ev2")
  | ((with_reducible refine' ev_fst (m := _) (n := _) _) <;> wtm_at "ev2")
  | ((with_reducible refine' ev_snd (m := _) (n := _) _) <;> wtm_at "ev2")
  | ((with_reducible refine' ev_tri1 _) <;> wtm_at "ev2")
  | ((with_reducible refine' ev_tri2 _) <;> wtm_at "ev2")
  | ((with_reducible refine' ev_ixT (m := _) _ _ _) <;> wtm_at "ev2")
  | ((with_reducible refine' ev_ixS (m := _) _ _ _) <;> wtm_at "ev2")
  | ((with_reducible refine' EvL.ev (m := _) _) <;> wtm_at "ev2"))
local macro_rules | `(tactic| wtm_at "evfld") => `(tactic| first
  | ((with_reducible refine' ev_Field_prime _) <;> wtm_at "ev2")
  | ((with_reducible refine' ev_Field_modulus _) <;> wtm_at "ev2")
  | ((with_reducible refine' ev_Field_degree _) <;> wtm_at "ev2")
  | ((with_reducible refine' ev_Field_order _) <;> wtm_at "ev2")
  | ((with_reducible refine' ev_LinearCode_field _) <;> wtm_at "ev2")
  | ((with_reducible refine' ev_LinearCode_length _) <;> wtm_at "ev2")
  | ((with_reducible refine' ev_LinearCode_dimension _) <;> wtm_at "ev2")
  | ((with_reducible refine' ev_LinearCode_rows _) <;> wtm_at "ev2")
  | ((with_reducible refine' ev_LinearCode_pivots _) <;> wtm_at "ev2")
  | ((with_reducible refine' ev_LinearCode_checks _) <;> wtm_at "ev2")
  | ((with_reducible refine' ev_LinearCode_size _) <;> wtm_at "ev2")
  | ((with_reducible refine' ev_Encoder_taps _) <;> wtm_at "ev2")
  | ((with_reducible refine' ev_Encoder_memory _) <;> wtm_at "ev2")
  | ((with_reducible refine' ev_Encoder_outputs _) <;> wtm_at "ev2")
  | ((with_reducible refine' ev_Encoder_state_count _) <;> wtm_at "ev2")
  | ((with_reducible refine' ev_Trellis_steps _) <;> wtm_at "ev2")
  | ((with_reducible refine' ev_Trellis_message_length _) <;> wtm_at "ev2")
  | ((with_reducible refine' ev_Trellis_table _) <;> wtm_at "ev2")
  | ((with_reducible refine' ev_Summary_cost _) <;> wtm_at "ev2")
  | ((with_reducible refine' ev_Summary_count_of _) <;> wtm_at "ev2")
  | ((with_reducible refine' ev_Summary_first _) <;> wtm_at "ev2")
  | ((with_reducible refine' ev_Summary_start_of _) <;> wtm_at "ev2")
  | ((with_reducible refine' ev_PathDecoder_encoder _) <;> wtm_at "ev2")
  | ((with_reducible refine' ev_PathDecoder_table _) <;> wtm_at "ev2")
  | ((with_reducible refine' ev_PathDecoder_steps _) <;> wtm_at "ev2")
  | ((with_reducible refine' ev_PathDecoder_summaries _) <;> wtm_at "ev2"))
local macro_rules | `(tactic| wtm_at "evcb") => `(tactic| first
  | ((with_reducible show Ev _ _ (tCB (rLen _) (tCons (tVar _) tNil)) _ _); exact ev_lenM rfl)
  | ((with_reducible refine' ev_lenL _) <;> wtm_at "ev2")
  | ((with_reducible refine' ev_lenT _) <;> wtm_at "ev2")
  | ((with_reducible refine' ev_lenS _) <;> wtm_at "ev2")
  | ((with_reducible refine' ev_int1 _) <;> wtm_at "ev2")
  | ((with_reducible refine' ev_intB _) <;> wtm_at "ev2")
  | ((with_reducible refine' ev_abs _) <;> wtm_at "ev2")
  | ((with_reducible refine' ev_min2 _ _) <;> wtm_at "ev2")
  | ((with_reducible refine' ev_max2 _ _) <;> wtm_at "ev2")
  | ((with_reducible refine' ev_minLL _ _) <;> wtm_at "ev2")
  | ((with_reducible refine' ev_sum _) <;> wtm_at "ev2")
  | ((with_reducible refine' ev_tupL (m := _) _) <;> wtm_at "ev2")
  | ((with_reducible refine' EvL.ev (m := _) _) <;> wtm_at "ev2"))
local macro_rules | `(tactic| wtm_at "evcall") => `(tactic| first
  | ((with_reducible refine' cd1 _ _) <;> wtm_at "ev2")
  | ((with_reducible refine' cd2 _ _ _) <;> wtm_at "ev2")
  | ((with_reducible refine' cd3 _ _ _ _) <;> wtm_at "ev2")
  | ((with_reducible refine' cd4 _ _ _ _ _) <;> wtm_at "ev2")
  | ((with_reducible refine' cd5 _ _ _ _ _ _) <;> wtm_at "ev2"))
local macro_rules | `(tactic| wtm_at "evmeth") => `(tactic| first
  | ((with_reducible refine' md1 _ _ _) <;> wtm_at "ev2")
  | ((with_reducible refine' md2 _ _ _ _) <;> wtm_at "ev2")
  | ((with_reducible refine' md3 _ _ _ _ _) <;> wtm_at "ev2")
  | ((with_reducible refine' md4 _ _ _ _ _ _) <;> wtm_at "ev2"))
local macro_rules | `(tactic| wtm_at "evx") => `(tactic| first
  | ((with_reducible show Ev _ _ (tVar _) _ _); exact ev_var rfl)
  | ((with_reducible show Ev _ _ (tC _) _ _); first | exact ev_int | exact ev_bl | exact ev_none | exact ev_non)
  | ((with_reducible show Ev _ _ (tOp _ _ _) _ _); wtm_at "evop")
  | ((with_reducible show Ev _ _ (tF _ _ _) _ _); wtm_at "evfld")
  | ((with_reducible show Ev _ _ (tCB _ _) _ _); wtm_at "evcb")
  | ((with_reducible show Ev _ _ (tCall _ _ _ _) _ _); wtm_at "evcall")
  | ((with_reducible show Ev _ _ (tMeth _ _ _ _ _ _ _) _ _); wtm_at "evmeth")
  | ((with_reducible show Ev _ _ (tTup _) _ _); first | ((with_reducible refine' ev_pair (m := _) (n := _) _ _) <;> wtm_at "ev2") | ((with_reducible refine' ev_tri (m := _) (n := _) (k := _) _ _ _) <;> wtm_at "ev2"))
  | ((with_reducible refine' ev_neg _) <;> wtm_at "ev2")
  | ((with_reducible refine' ev_notV _) <;> wtm_at "ev2")
  | ((with_reducible show Ev _ _ (tLc _ _ _ _ _) _ _); (with_reducible refine' EvL.ev (m := _) _) <;> wtm_at "ev2")
  | ((with_reducible refine' EvL.ev (m := _) _) <;> wtm_at "ev2"))
local macro_rules | `(tactic| wtm_at "evt") => `(tactic| first
  | ((with_reducible refine' et_test _) <;> wtm_at "ev2")
  | ((with_reducible refine' et_B _) <;> wtm_at "ev2")
  | ((with_reducible refine' et_not _) <;> wtm_at "ev2"))
local macro_rules | `(tactic| wtm_at "evl") => `(tactic| first
  | exact el_nil
  | ((with_reducible refine' el_rep (m := _) _ _ _ _) <;> wtm_at "ev2")
  | ((with_reducible refine' el_cat (m := _) _ _ _) <;> wtm_at "ev2")
  | ((with_reducible refine' el_slice (m := _) _ _ _) <;> wtm_at "ev2")
  | ((with_reducible show EvL _ _ (tSl _ (tVar _) _ _) _ _); (refine' el_sliceM rfl _ _) <;> wtm_at "ev2")
  | ((with_reducible refine' el_listL (m := _) _) <;> wtm_at "ev2")
  | ((with_reducible refine' el_disp (m := _) _ _) <;> wtm_at "ev2")
  | ((with_reducible refine' el_sortLL _) <;> wtm_at "ev2")
  | ((with_reducible refine' el_lc (m := _) (n := _) _ (tg_name (m := _)) _ _ _) <;> wtm_at "ev2")
  | ((with_reducible refine' el_lcR (n := _) _ _ _ _ _) <;> wtm_at "ev2")
  | ((with_reducible refine' el_lc (m := _) (n := _) _ (tg_pair (m := _) (n := _)) _ _ _) <;> wtm_at "ev2")
  | ((with_reducible refine' el_lc (m := _) (n := _) _ (tg_tri (m := _) (n := _) (o := _)) _ _ _) <;> wtm_at "ev2"))
local macro_rules | `(tactic| wtm_at "ev") => `(tactic| first
  | ((with_reducible show Ev _ _ _ _ _); first | ((with_reducible refine' et_chain _ _ _) <;> wtm_at "ev2") | wtm_at "evx")
  | ((with_reducible show EvT _ _ _ _); wtm_at "evt")
  | ((with_reducible show EvL _ _ _ _ _); wtm_at "evl")
  | exact ea_nil
  | exact eh_nil
  | exact eo_none
  | ((with_reducible refine' ea_cons (m := _) _ _) <;> wtm_at "ev2")
  | ((with_reducible refine' eh_cons (m := _) _ _) <;> wtm_at "ev2")
  | ((with_reducible refine' eo_some _) <;> wtm_at "ev2"))
local macro_rules | `(tactic| wtm_at "no") => `(tactic| ((fail_if_success (with_reducible show Ev _ _ _ _ _)); (fail_if_success (with_reducible show EvL _ _ _ _ _)); (fail_if_success (with_reducible show EvT _ _ _ _)); (fail_if_success (with_reducible show EvA _ _ _ _)); (fail_if_success (with_reducible show EvH _ _ _ _ _)); (fail_if_success (with_reducible show EvO _ _ _ _))))
local macro_rules | `(tactic| wtm_at "ev2") => `(tactic| first | wtm_at "ev" | (wtm_at "no"; first | infer_instance | (intro x hx; wtm_at "ev") | skip))
local macro_rules | `(tactic| wtm_at "E") => `(tactic| ((wtm_at "ev") <;> (try infer_instance)) <;> (try (refine Iff.mp Iff.rfl ?_; wtm_at "side")))
local macro_rules | `(tactic| wtm_at "sub") => `(tactic| repeat' first | exact Sub.nil | apply Sub.any | apply Sub.same | (apply Sub.fz) | (apply Sub.ml))
theorem pow_at {m : Nat} (h : m ≤ 5) : atI ([1, 2, 4, 8, 16, 32] : List Int) (m : Int) = some (2 ^ m) := (atI_0 (show m < 6 by omega)).trans (congrArg some (pow_list h))
theorem pow_le {m : Nat} (h : m ≤ 5) : (0 : Int) < 2 ^ m ∧ (2 : Int) ^ m ≤ 32 := by
  have e : (2 : Int) ^ m = ((2 ^ m : Nat) : Int) := by rw [Int.natCast_pow]; rfl
  have h1 : 2 ^ m ≤ 2 ^ 5 := Nat.pow_le_pow_right (by decide) h
  have h2 := Nat.two_pow_pos m
  rw [e]; omega
theorem gt_0 {t : Tp} (g : GT t) : (t.getD 0 []).length = mem t + 1 ∧ atI t 0 = some (t.getD 0 []) := ⟨g.len _ (getD_mem g.lo), atI_L (k := 0) g.lo⟩
abbrev sp__law_count (K : PySem.W.Frag) : Sp := spD1 rRows GT rInt (fun t => 2 ^ mem t)
abbrev Pr__law_count (P : Program) (w : World) (K : PySem.W.Frag) (mg : Str → Option Value) (base : Heap) : Prop := Pr P w K mg base (He.ga K "_law_count") 1 ["_law_taps_here"] (sp__law_count K) []
def nm__law_count : List Str := ["_law_taps_here"]
theorem sc__law_count : FnScope nm__law_count ["_law_taps_here"] (defScope s__law_count) := ⟨rfl, rfl, rfl, by decide +kernel, rfl, by decide +kernel, by decide +kernel⟩
theorem ok__law_count {P : Program} {w : World} {K : PySem.W.Frag} {mg : Str → Option Value} {base : Heap} (T : Tx K mg)  : Pr__law_count P w K mg base := by
  refine pr_of (N := nm__law_count) (k := 0) T.d__law_count sc__law_count (fun _ _ _ _ _ _ us hl => match us, hl with | [_], _ => rfl) len1 fun cdv A outer s H E hr => ⟨_, (pss_one (ps_ret (pe_ix (kIxL K rfl) (pe_lst (pa_cons pe_int (pa_cons pe_int (pa_cons pe_int (pa_cons pe_int (pa_cons pe_int (pa_cons pe_int pa_nil))))))) (pe_op op_sub (pe_callB (kLen K rfl) (by rfl) T.f_len boot_len (pa_cons (pe_ix (kIxL K rfl) (pv 0) pe_int (fun _ _ => rfl)) pa_nil)) pe_int) (fun _ _ => rfl)))), en1 (n := 0) rfl fun B t Q hp rt => ?_⟩
  obtain ⟨h0, h1⟩ := gt_0 hp
  have g3 := hp.me
  exact s_ret (y := (2 : Int) ^ mem t) (ev_ixL (R := rInt) (xs := [1, 2, 4, 8, 16, 32]) (i := (mem t : Int)) (by wtm_at "E") (Ev.to (ev_opI0 (f := fun i j => i - j) (ev_lenL (ev_ixL (by wtm_at "E") (by wtm_at "E") h1)) ev_int) (by rw [h0]; omega)) (pow_at g3)) rt rfl
abbrev sp__law_step (K : PySem.W.Frag) : Sp := spD3 rRows rInt rInt (fun t s b => GT t ∧ Bit b ∧ 0 ≤ s ∧ s < 2 ^ mem t) (rPair rInt (rLst rInt)) (fun t s b => ((nx (mem t) s.toNat b : Int), ou t s.toNat b))
abbrev Pr__law_step (P : Program) (w : World) (K : PySem.W.Frag) (mg : Str → Option Value) (base : Heap) : Prop := Pr P w K mg base (He.ga K "_law_step") 2 ["_law_taps_here", "_law_state", "_law_bit"] (sp__law_step K) []
def nm__law_step : List Str := ["_law_taps_here", "_law_state", "_law_bit", "_law_fed", "_law_bits", "_law_tap", "_law_total", "_law_j"]
theorem sc__law_step : FnScope nm__law_step ["_law_taps_here", "_law_state", "_law_bit"] (defScope s__law_step) := ⟨rfl, rfl, rfl, by decide +kernel, rfl, by decide +kernel, by decide +kernel⟩
theorem ok__law_step {P : Program} {w : World} {K : PySem.W.Frag} {mg : Str → Option Value} {base : Heap} (T : Tx K mg) (c_law_count : Pr__law_count P w K mg base) : Pr__law_step P w K mg base := by
  refine pr_of (N := nm__law_step) (k := 1) T.d__law_step sc__law_step (fun _ _ _ _ _ _ us hl => match us, hl with | [_, _, _], _ => rfl) len3 fun cdv A outer s H E hr => ⟨_, (pss_cons (ps_set (i := 3) sc__law_step.nd rfl (Or.inl rfl) (pe_op op_add (pv 2) (pe_op op_mul pe_int (pv 1))))
      (pss_cons (ps_set (i := 4) sc__law_step.nd rfl (Or.inl rfl) (pe_lst pa_nil))
      (pss_cons (ps_for PassesOwn.never rfl (kPiL K rfl (pv 0)) (pg_name (i := 5) sc__law_step.nd rfl (Or.inl rfl)) (pss_cons (ps_set (i := 6) sc__law_step.nd rfl (Or.inl rfl) pe_int)
      (pss_cons (ps_for PassesOwn.never rfl (pi_range1 rfl T.f_range (pa_cons (pe_callB (kLen K rfl) (by rfl) T.f_len boot_len (pa_cons (pv 5) pa_nil)) pa_nil)) (pg_name (i := 7) sc__law_step.nd rfl (Or.inl rfl)) (pss_one (ps_set (i := 6) sc__law_step.nd rfl (Or.inl rfl) (pe_op op_add (pv 6) (pe_op op_mul (pe_ix (kIxL K rfl) (pv 5) (pv 7) (fun _ _ => rfl)) (pe_op op_mod (pe_callTy cl_int (by rfl) T.f_int bb_int (pa_cons (pe_op op_fdiv (pv 3) (pe_ix (kIxL K rfl) (pe_lst (pa_cons pe_int (pa_cons pe_int (pa_cons pe_int (pa_cons pe_int (pa_cons pe_int (pa_cons pe_int pa_nil))))))) (pv 7) (fun _ _ => rfl))) pa_nil)) pe_int))))))
      (pss_one (ps_expr (pe_bm PySem.F.plainAttrs_list PySem.F.slot_list_append PySem.F.type_list_append mt_append (pv 4) (pa_cons (pe_op op_mod (pe_callTy cl_int (by rfl) T.f_int bb_int (pa_cons (pv 6) pa_nil)) pe_int) pa_nil)))))))
      (pss_one (ps_ret (pe_tup (pa_cons (pe_op op_mod (pe_callTy cl_int (by rfl) T.f_int bb_int (pa_cons (pv 3) pa_nil)) (pe_cal c_law_count T.g__law_count hr (pa_cons (pv 0) pa_nil))) (pa_cons (pv 4) pa_nil)))))))), en3 (n := 5) rfl fun B t s b Q hp rt => ?_⟩
  obtain ⟨g, hb, h0, h1⟩ := hp
  obtain ⟨n, rfl⟩ := Int.eq_ofNat_of_zero_le h0
  have g1 := g.lo
  have g2 := g.hi
  have g3 := g.me
  have hfed : ((fed n b : Nat) : Int) = b + 2 * (n : Int) := by
    unfold fed
    rcases hb with q | q <;> rw [q] <;> simp
  have hP := pow_le g3
  have hn : (n : Int) < 32 := by omega
  refine q_asg (x := ((fed n b : Nat) : Int)) (Ev.to (by wtm_at "E") hfed.symm) ?_
  refine q_asgL (R := rInt) (by wtm_at "E") ?_
  refine q_forL (I := Unit) (fun i _ => True) (fun i _ => [sf rRows t, .any, .any, sf rInt ((fed n b : Nat) : Int), G.sm rInt ((t.take i).map fun p => ou1 p (fed n b)), .any, .any, .any]) tg_name (by wtm_at "E") ⟨(), trivial, by wtm_at "sub"⟩ (fun B1 up i _ y hy _ => ?_) (fun _ _ => ?_)
  · have hm := List.mem_of_getElem? hy
    have hl := g.len y hm
    have hil : i < t.length := (List.getElem?_eq_some_iff.mp hy).1
    refine q_asg (by wtm_at "E") ?_
    refine q_forR1 (I := Unit) (fun d _ => True) (fun d _ => [sf rRows t, .any, .any, sf rInt ((fed n b : Nat) : Int), G.sm rInt ((t.take i).map fun p => ou1 p (fed n b)), sf (rLst rInt) y, sf rInt (MX.sm d (fun d => y.getD d 0 * dig (fed n b) d)), .any]) (by wtm_at "E") (by omega) ⟨(), trivial, by wtm_at "sub"⟩ (fun d _ hd _ => ?_) (fun _ _ => ?_)
    · have i1 : atI y (d : Int) = some (y.getD d 0) := atI_0 (by omega)
      have i2 := pow_at (m := d) (by omega)
      have i3 := pow_le (m := d) (by omega)
      have hyb := ((g.bits y hm).getD d).le
      have i4 : CDiv ((fed n b : Nat) : Int) (2 ^ d) := ⟨i3.1, by omega⟩
      refine s_asg (by wtm_at "E") (wn_lp () trivial ?_)
      wtm_at "sub"
    · refine s_app rfl (by wtm_at "E") (by rw [List.length_map, List.length_take]; omega) (wn_lp () trivial ?_)
      wtm_at "sub"
      rw [Int.toNat_natCast]
      exact (map_take_succ hy).symm
  · refine wn_fz (i := 4) rfl ?_
    rw [List.take_length]
    refine s_ret (ev_pair (m := inferInstance) (n := inferInstance) (x := (nx (mem t) n b : Int)) (Ev.to (ev_opI (f := fun i j => i % j) (ev_int1 (ev_var rfl)) (cd1 (ev_var rfl) g) hP.1) (by rw [hfed, ← mod_nx hb])) (ev_var rfl)) rt ?_
    show (_, _) = (_, _)
    rw [Int.toNat_natCast]
    rfl
abbrev sp__law_word (K : PySem.W.Frag) : Sp := spD2 rRows (rLst rInt) (fun t m => GT t ∧ Bits m ∧ m.length ≤ 200) (rLst rInt) (fun t m => word t m)
abbrev Pr__law_word (P : Program) (w : World) (K : PySem.W.Frag) (mg : Str → Option Value) (base : Heap) : Prop := Pr P w K mg base (He.ga K "_law_word") 1 ["_law_taps_here", "_law_message"] (sp__law_word K) []
def nm__law_word : List Str := ["_law_taps_here", "_law_message", "_law_word_here", "_law_t", "_law_tap", "_law_total", "_law_j"]
theorem sc__law_word : FnScope nm__law_word ["_law_taps_here", "_law_message"] (defScope s__law_word) := ⟨rfl, rfl, rfl, by decide +kernel, rfl, by decide +kernel, by decide +kernel⟩
theorem ok__law_word {P : Program} {w : World} {K : PySem.W.Frag} {mg : Str → Option Value} {base : Heap} (T : Tx K mg)  : Pr__law_word P w K mg base := by
  refine pr_of (N := nm__law_word) (k := 0) T.d__law_word sc__law_word (fun _ _ _ _ _ _ us hl => match us, hl with | [_, _], _ => rfl) len2 fun cdv A outer s H E hr => ⟨_, (pss_cons (ps_set (i := 2) sc__law_word.nd rfl (Or.inl rfl) (pe_lst pa_nil))
      (pss_cons (ps_for PassesOwn.never rfl (pi_range1 rfl T.f_range (pa_cons (pe_op op_sub (pe_op op_add (pe_callB (kLen K rfl) (by rfl) T.f_len boot_len (pa_cons (pv 1) pa_nil)) (pe_callB (kLen K rfl) (by rfl) T.f_len boot_len (pa_cons (pe_ix (kIxL K rfl) (pv 0) pe_int (fun _ _ => rfl)) pa_nil))) pe_int) pa_nil)) (pg_name (i := 3) sc__law_word.nd rfl (Or.inl rfl)) (pss_one (ps_for PassesOwn.never rfl (kPiL K rfl (pv 0)) (pg_name (i := 4) sc__law_word.nd rfl (Or.inl rfl)) (pss_cons (ps_set (i := 5) sc__law_word.nd rfl (Or.inl rfl) pe_int)
      (pss_cons (ps_for PassesOwn.never rfl (pi_range1 rfl T.f_range (pa_cons (pe_callB (kLen K rfl) (by rfl) T.f_len boot_len (pa_cons (pv 4) pa_nil)) pa_nil)) (pg_name (i := 6) sc__law_word.nd rfl (Or.inl rfl)) (pss_one (ps_if (pt_chain op_le op_lt pe_int (pe_op op_sub (pv 3) (pv 6)) (pe_callB (kLen K rfl) (by rfl) T.f_len boot_len (pa_cons (pv 1) pa_nil))) (pss_one (ps_set (i := 5) sc__law_word.nd rfl (Or.inl rfl) (pe_op op_add (pv 5) (pe_op op_mul (pe_ix (kIxL K rfl) (pv 4) (pv 6) (fun _ _ => rfl)) (pe_ix (kIxL K rfl) (pv 1) (pe_op op_sub (pv 3) (pv 6)) (fun _ _ => rfl)))))) pss_nil)))
      (pss_one (ps_expr (pe_bm PySem.F.plainAttrs_list PySem.F.slot_list_append PySem.F.type_list_append mt_append (pv 2) (pa_cons (pe_op op_mod (pe_callTy cl_int (by rfl) T.f_int bb_int (pa_cons (pv 5) pa_nil)) pe_int) pa_nil)))))))))
      (pss_one (ps_ret (pv 2))))), en2 (n := 5) rfl fun B t m Q hp rt => ?_⟩
  obtain ⟨g, hb, hm⟩ := hp
  obtain ⟨h0, h1⟩ := gt_0 g
  have g2 := g.hi
  have g3 := g.me
  have rt : RtOk B (rLst rInt) (fun y => y = word t m) Q := rt
  rw [word_cw g hb] at rt
  unfold cw at rt
  refine q_asgL (R := rInt) (by wtm_at "E") ?_
  refine q_forR1 (I := Unit) (fun i _ => True) (fun i _ => [sf rRows t, sf (rLst rInt) m, G.sm rInt ((List.range i).flatMap fun i => t.map fun p => cv1 p m i), .any, .any, .any, .any]) (n := ((m.length + mem t : Nat) : Int)) (Ev.to (ev_opI0 (f := fun i j => i - j) (ev_opI0 (f := fun i j => i + j) (by wtm_at "E") (ev_lenL (ev_ixL (by wtm_at "E") (by wtm_at "E") h1))) ev_int) (by rw [h0]; omega)) (by omega) ⟨(), trivial, by wtm_at "sub"⟩ (fun i _ hi _ => ?_) (fun _ _ => ?_)
  · have hlen : ∀ k, ((List.range k).flatMap fun i => t.map fun p => cv1 p m i).length = k * t.length := fun k => by
      induction k with
      | zero => simp
      | succ k ih => rw [range_flat_succ, List.length_append, ih, List.length_map, Nat.succ_mul]
    have hil : i * t.length ≤ 300 * 4 := Nat.mul_le_mul (by omega) g2
    refine s_forL (I := Unit) (fun k _ => True) (fun k _ => [sf rRows t, sf (rLst rInt) m, G.sm rInt (((List.range i).flatMap fun i => t.map fun p => cv1 p m i) ++ (t.take k).map fun p => cv1 p m i), sf rInt (i : Int), .any, .any, .any]) tg_name (by wtm_at "E") ⟨(), trivial, by wtm_at "sub"; exact (List.append_nil _).symm⟩ (fun B1 up k _ y hy _ => ?_) (fun _ _ => wn_lp () trivial ?_)
    · have hym := List.mem_of_getElem? hy
      have hl := g.len y hym
      have hkl : k < t.length := (List.getElem?_eq_some_iff.mp hy).1
      refine q_asg (by wtm_at "E") ?_
      refine q_forR1 (I := Unit) (fun d _ => True) (fun d _ => [sf rRows t, sf (rLst rInt) m, G.sm rInt (((List.range i).flatMap fun i => t.map fun p => cv1 p m i) ++ (t.take k).map fun p => cv1 p m i), sf rInt (i : Int), sf (rLst rInt) y, sf rInt (MX.sm d (fun j => if j ≤ i ∧ i - j < m.length then y.getD j 0 * m.getD (i - j) 0 else 0)), .any]) (by wtm_at "E") (by omega) ⟨(), trivial, by wtm_at "sub"⟩ (fun d _ hd _ => ?_) (fun _ _ => ?_)
      · have i1 : atI y (d : Int) = some (y.getD d 0) := atI_0 (by omega)
        have hyb := ((g.bits y hym).getD d).le
        refine s_if (et_test (et_chain (f := fun i j => decide (i ≤ j)) (g := fun i j => decide (i < j)) (by wtm_at "E") (by wtm_at "E") (by wtm_at "E"))) (fun hc => ?_) (fun hc => ?_)
        · have hc : (0 : Int) ≤ (i : Int) - d ∧ (i : Int) - d < m.length := by simpa using hc
          have e0 : (i : Int) - d = ((i - d : Nat) : Int) := by omega
          have i2 : atI m ((i : Int) - d) = some (m.getD (i - d) 0) := by rw [e0]; exact atI_0 (by omega)
          refine s_asg (x := MX.sm d (fun j => if j ≤ i ∧ i - j < m.length then y.getD j 0 * m.getD (i - j) 0 else 0) + y.getD d 0 * m.getD (i - d) 0) (by wtm_at "E") (wn_lp () trivial ?_)
          wtm_at "sub"
          show _ = MX.sm d _ + (if d ≤ i ∧ i - d < m.length then _ else _)
          rw [if_pos ⟨by omega, by omega⟩]
        · have hc : ¬ ((0 : Int) ≤ (i : Int) - d ∧ (i : Int) - d < m.length) := by simpa using hc
          refine s_next (wn_lp () trivial ?_)
          wtm_at "sub"
          show _ = MX.sm d _ + (if d ≤ i ∧ i - d < m.length then _ else _)
          rw [if_neg (by omega)]; omega
      · refine s_app rfl (by wtm_at "E") (by rw [List.length_append, hlen, List.length_map, List.length_take]; omega) (wn_lp () trivial ?_)
        wtm_at "sub"
        rw [List.append_assoc, Int.toNat_natCast]
        exact congrArg _ (map_take_succ hy).symm
    · wtm_at "sub"
      rw [List.take_length, range_flat_succ]
  · rw [Int.toNat_natCast]
    refine wn_fz (i := 2) rfl ?_
    exact s_ret (by wtm_at "E") rt rfl
abbrev sp__law_messages (K : PySem.W.Frag) : Sp := spD1 rInt (fun n => 0 ≤ n ∧ n ≤ 4) rRows (fun n => msgA n.toNat)
abbrev Pr__law_messages (P : Program) (w : World) (K : PySem.W.Frag) (mg : Str → Option Value) (base : Heap) : Prop := Pr P w K mg base (He.ga K "_law_messages") 1 ["_law_size"] (sp__law_messages K) []
def nm__law_messages : List Str := ["_law_size", "_law_messages_here", "_law_k", "_law_longer", "_law_message"]
theorem sc__law_messages : FnScope nm__law_messages ["_law_size"] (defScope s__law_messages) := ⟨rfl, rfl, rfl, by decide +kernel, rfl, by decide +kernel, by decide +kernel⟩
theorem ok__law_messages {P : Program} {w : World} {K : PySem.W.Frag} {mg : Str → Option Value} {base : Heap} (T : Tx K mg)  : Pr__law_messages P w K mg base := by
  refine pr_of (N := nm__law_messages) (k := 0) T.d__law_messages sc__law_messages (fun _ _ _ _ _ _ us hl => match us, hl with | [_], _ => rfl) len1 fun cdv A outer s H E hr => ⟨_, (pss_cons (ps_set (i := 1) sc__law_messages.nd rfl (Or.inl rfl) (pe_lst (pa_cons (pe_lst pa_nil) pa_nil)))
      (pss_cons (ps_for PassesOwn.never rfl (pi_range1 rfl T.f_range (pa_cons (pv 0) pa_nil)) (pg_name (i := 2) sc__law_messages.nd rfl (Or.inl rfl)) (pss_cons (ps_set (i := 3) sc__law_messages.nd rfl (Or.inl rfl) (pe_lst pa_nil))
      (pss_cons (ps_for PassesOwn.never rfl (kPiL K rfl (pv 1)) (pg_name (i := 4) sc__law_messages.nd rfl (Or.inl rfl)) (pss_cons (ps_expr (pe_bm PySem.F.plainAttrs_list PySem.F.slot_list_append PySem.F.type_list_append mt_append (pv 3) (pa_cons (pe_op op_cat (pv 4) (pe_lst (pa_cons pe_int pa_nil))) pa_nil)))
      (pss_one (ps_expr (pe_bm PySem.F.plainAttrs_list PySem.F.slot_list_append PySem.F.type_list_append mt_append (pv 3) (pa_cons (pe_op op_cat (pv 4) (pe_lst (pa_cons pe_int pa_nil))) pa_nil))))))
      (pss_one (ps_set (i := 1) sc__law_messages.nd rfl (Or.inl rfl) (pv 3))))))
      (pss_one (ps_ret (pv 1))))), en1 (n := 4) rfl fun B n Q hp rt => ?_⟩
  obtain ⟨h0, h1⟩ := hp
  refine q_asg (x := msgA 0) (EvL.ev (el_disp (R := rLst rInt) (eh_cons (EvL.ev el_nil) eh_nil) (by decide))) ?_
  refine q_forR1 (I := Unit) (fun i _ => True) (fun i _ => [sf rInt n, sf rRows (msgA i), .any, .any, .any]) (by wtm_at "E") (by omega) ⟨(), trivial, by wtm_at "sub"⟩ (fun i _ hi _ => ?_) (fun _ _ => ?_)
  · have hml : (msgA i).length ≤ 16 := by rw [msgA_length]; exact Nat.pow_le_pow_right (by decide) (show i ≤ 4 by omega)
    refine q_asgL (R := rLst rInt) (by wtm_at "E") ?_
    refine q_forL (I := Unit) (fun k _ => True) (fun k _ => [sf rInt n, sf rRows (msgA i), .any, G.sm (rLst rInt) (((msgA i).take k).flatMap fun m => [m ++ [0], m ++ [1]]), .any]) tg_name (by wtm_at "E") ⟨(), trivial, by wtm_at "sub"⟩ (fun B1 up k _ y hy _ => ?_) (fun _ _ => ?_)
    · have hy1 := (msgA_mem (List.mem_of_getElem? hy)).1
      have hk : k < (msgA i).length := (List.getElem?_eq_some_iff.mp hy).1
      have hfl : (((msgA i).take k).flatMap fun m => [m ++ [(0 : Int)], m ++ [1]]).length ≤ 2 * k := by
        have : ∀ l : List (List Int), (l.flatMap fun m => [m ++ [(0 : Int)], m ++ [1]]).length = 2 * l.length := fun l => by
          induction l with
          | nil => rfl
          | cons a l ih => rw [List.flatMap_cons, List.length_append, ih, List.length_cons, List.length_cons, List.length_cons, List.length_nil]; omega
        rw [this, List.length_take]; omega
      refine q_app rfl (EvL.ev (el_cat (by wtm_at "E") (by wtm_at "E") (by show _ + 1 ≤ _; omega))) (by omega) ?_
      refine s_app rfl (EvL.ev (el_cat (by wtm_at "E") (by wtm_at "E") (by show _ + 1 ≤ _; omega))) (by rw [List.length_append]; show _ + 1 < _; omega) (wn_lp () trivial ?_)
      wtm_at "sub"
      rw [List.take_add_one, hy, List.flatMap_append, List.append_assoc]; rfl
    · rw [List.take_length]
      refine wn_fz (i := 3) rfl ?_
      exact s_asg (by wtm_at "E") (wn_lp () trivial (by wtm_at "sub"))
  · exact s_ret (by wtm_at "E") rt rfl
abbrev sp__law_differ (K : PySem.W.Frag) : Sp := spD2 (rLst rInt) rRec0 (fun w r => w.length = r.length ∧ w.length ≤ 10000) rInt dst
abbrev Pr__law_differ (P : Program) (w : World) (K : PySem.W.Frag) (mg : Str → Option Value) (base : Heap) : Prop := Pr P w K mg base (He.ga K "_law_differ") 1 ["_law_bits", "_law_items"] (sp__law_differ K) []
def nm__law_differ : List Str := ["_law_bits", "_law_items", "_law_found", "_law_k"]
theorem sc__law_differ : FnScope nm__law_differ ["_law_bits", "_law_items"] (defScope s__law_differ) := ⟨rfl, rfl, rfl, by decide +kernel, rfl, by decide +kernel, by decide +kernel⟩
theorem ok__law_differ {P : Program} {w : World} {K : PySem.W.Frag} {mg : Str → Option Value} {base : Heap} (T : Tx K mg)  : Pr__law_differ P w K mg base := by
  refine pr_of (N := nm__law_differ) (k := 0) T.d__law_differ sc__law_differ (fun _ _ _ _ _ _ us hl => match us, hl with | [_, _], _ => rfl) len2 fun cdv A outer s H E hr => ⟨_, (pss_cons (ps_set (i := 2) sc__law_differ.nd rfl (Or.inl rfl) pe_int)
      (pss_cons (ps_for PassesOwn.never rfl (pi_range1 rfl T.f_range (pa_cons (pe_callB (kLen K rfl) (by rfl) T.f_len boot_len (pa_cons (pv 0) pa_nil)) pa_nil)) (pg_name (i := 3) sc__law_differ.nd rfl (Or.inl rfl)) (pss_one (ps_if (PW.pt (pw_and (pt_cmpR op_notN1 (pe_ix (kIxL K rfl) (pv 1) (pv 3) (fun _ _ => rfl)) pe_non (nomark _)) (pw_and1 (pt_cmpR op_ne (pe_ix (kIxL K rfl) (pv 1) (pv 3) (fun _ _ => rfl)) (pe_ix (kIxL K rfl) (pv 0) (pv 3) (fun _ _ => rfl)) (nomark _))))) (pss_one (ps_set (i := 2) sc__law_differ.nd rfl (Or.inl rfl) (pe_op op_add (pv 2) pe_int))) pss_nil)))
      (pss_one (ps_ret (pv 2))))), en2 (n := 2) rfl fun B w r Q hp rt => ?_⟩
  obtain ⟨h1, h2⟩ := hp
  refine q_asg (by wtm_at "E") ?_
  refine q_forR1 (I := Unit) (fun i _ => True) (fun i _ => [sf (rLst rInt) w, sf rRec0 r, sf rInt (dst (w.take i) (r.take i)), .any]) (by wtm_at "E") (by omega) ⟨(), trivial, by wtm_at "sub"⟩ (fun i _ hi _ => ?_) (fun _ _ => ?_)
  · have hi2 : i < w.length := by omega
    have i1 : atI w (i : Int) = some (w.getD i 0) := atI_0 hi2
    have i2 : atI r (i : Int) = some (r.getD i none) := atI_D none (by omega) (by omega)
    rw [dst_step hi2 h1]
    cases e : r.getD i none with
    | none =>
      rw [e] at i2
      refine s_no (b := false && false) (et_and (EvT.to (b := (none : Option Int).isSome) (et_test (ev_notN (ev_ixL (by wtm_at "E") (by wtm_at "E") i2))) rfl) (fun h => by cases h)) rfl (wn_lp () trivial ?_)
      wtm_at "sub"
      exact (Int.add_zero _).symm
    | some y =>
      rw [e] at i2
      have iy : ∀ {Δ : List Sl}, Δ[1]? = some (sf rRec0 r) → Δ[3]? = some (sf rInt (i : Int)) → Ev B Δ (tOp (rIxL K) (tVar 1) (tVar 3)) rInt y := fun a b => Ev.unopt (ev_ixL (ev_var a) (ev_var b) i2)
      refine s_if (b := true && !decide (y = w.getD i 0)) (et_and (EvT.to (b := (some y : Option Int).isSome) (et_test (ev_notN (ev_ixL (by wtm_at "E") (by wtm_at "E") i2))) rfl) (fun _ => et_test (ev_neI (iy rfl rfl) (by wtm_at "E")))) (fun hc => ?_) (fun hc => ?_)
      · have hc : ¬ y = w.getD i 0 := by simpa using hc
        refine s_asg (by wtm_at "E") (wn_lp () trivial ?_)
        wtm_at "sub"
        unfold er1; dsimp only; rw [if_neg hc]
      · have hc : y = w.getD i 0 := by simpa using hc
        refine s_next (wn_lp () trivial ?_)
        wtm_at "sub"
        unfold er1; dsimp only; rw [if_pos hc]; exact (Int.add_zero _).symm
  · refine s_ret (by wtm_at "E") rt ?_
    rw [Int.toNat_natCast, List.take_length, h1, List.take_length]
end NW
set_option maxHeartbeats 4000000
namespace NW
open PySem PySem.Spec PyProof.Rows L2 G MX
local macro_rules | `(tactic| wtm_at "nl") => `(tactic| first
  | with_reducible exact nl_Field_digits _ _
  | with_reducible exact nl_Field_element _ _
  | with_reducible exact nl_Field_plus _ _
  | with_reducible exact nl_Field_negative _ _
  | with_reducible exact nl_Field_minus _ _
  | with_reducible exact nl_Field_times _ _
  | with_reducible exact nl_Field_inverse _ _
  | with_reducible exact nl_LinearCode_words _ _
  | with_reducible exact nl_Encoder_advance _ _
  | with_reducible exact nl_Encoder__fed _ _
  | with_reducible exact nl_Encoder_word_for _ _
  | with_reducible exact nl_Encoder_linear _ _
  | with_reducible exact nl_Trellis_moves_from _ _
  | with_reducible exact nl_Trellis_costs_table _ _
  | with_reducible exact nl_Trellis_best_moves _ _
  | with_reducible exact nl_Summary_grown _ _
  | with_reducible exact nl_PathDecoder_restart _ _
  | with_reducible exact nl_PathDecoder_take _ _
  | with_reducible exact nl_PathDecoder_answer _ _)
local macro_rules | `(tactic| wtm_at "side") => `(tactic| first
  | assumption
  | exact rfl
  | exact atI_0 (by omega)
  | exact atI_L (by omega)
  | omega
  | exact trivial
  | exact fun _ h => h
  | exact List.mem_singleton.mpr rfl
  | wtm_at "nl"
  | exact Or.inr ⟨by omega, by omega⟩
  | exact Or.inl ⟨by omega, by omega⟩
  | (show (0 : Int) < _; omega)
  | exact ⟨by omega, by omega⟩
  | exact ⟨rfl, rfl⟩
  | exact MX.Bits.getD (by assumption) _
  | exact ⟨by assumption, by assumption⟩
  | exact ⟨by assumption, by assumption, by assumption⟩
  | exact ⟨by assumption, MX.Bits.getD (by assumption) _⟩
  | decide
  | (show (_ : Nat) ≤ 10000000; (simp only [List.length_cons, List.length_nil, List.length_append]; omega))
  | (show (_ : Nat) < 10000000; (simp only [List.length_cons, List.length_nil, List.length_append]; omega)))
local macro_rules | `(tactic| wtm_at "evop") => `(tactic| first
  | ((with_reducible refine' ev_opI0 _ _) <;> wtm_at "ev2")
  | ((with_reducible refine' ev_opB0 _ _) <;> wtm_at "ev2")
  | ((with_reducible refine' ev_opI _ _ _) <;> wtm_at "ev2")
  | ((with_reducible refine' ev_ixL (m := _) _ _ _) <;> wtm_at "ev2")
  | ((with_reducible show Ev _ _ (tOp (rIxL _) (tVar _) _) _ _); (refine' ev_ixM rfl _ _) <;> wtm_at "ev2")
  | ((with_reducible refine' ev_eqI _ _) <;> wtm_at "ev2")
  | ((with_reducible refine' ev_neI _ _) <;> wtm_at "ev2")
  | ((with_reducible refine' ev_isN (n := _) _) <;> wtm_at "ev2")
  | ((with_reducible refine' ev_notN (n := _) _) <;> wtm_at "ev2")
  | ((with_reducible refine' ev_fst (m := _) (n := _) _) <;> wtm_at "ev2")
  | ((with_reducible refine' ev_snd (m := _) (n := _) _) <;> wtm_at "ev2")
  | ((with_reducible refine' ev_tri1 _) <;> wtm_at "ev2")
  | ((with_reducible refine' ev_tri2 _) <;> wtm_at "ev2")
  | ((with_reducible refine' ev_ixT (m := _) _ _ _) <;> wtm_at "ev2")
  | ((with_reducible refine' ev_ixS (m := _) _ _ _) <;> wtm_at "ev2")
  | ((with_reducible refine' EvL.ev (m := _) _) <;> wtm_at "ev2"))
local macro_rules | `(tactic| wtm_at "evfld") => `(tactic| first
  | ((with_reducible refine' ev_Field_prime _) <;> wtm_at "ev2")
  | ((with_reducible refine' ev_Field_modulus _) <;> wtm_at "ev2")
  | ((with_reducible refine' ev_Field_degree _) <;> wtm_at "ev2")
  | ((with_reducible refine' ev_Field_order _) <;> wtm_at "ev2")
  | ((with_reducible refine' ev_LinearCode_field _) <;> wtm_at "ev2")
  | ((with_reducible refine' ev_LinearCode_length _) <;> wtm_at "ev2")
  | ((with_reducible refine' ev_LinearCode_dimension _) <;> wtm_at "ev2")
  | ((with_reducible refine' ev_LinearCode_rows _) <;> wtm_at "ev2")
  | ((with_reducible refine' ev_LinearCode_pivots _) <;> wtm_at "ev2")
  | ((with_reducible refine' ev_LinearCode_checks _) <;> wtm_at "ev2")
  | ((with_reducible refine' ev_LinearCode_size _) <;> wtm_at "ev2")
  | ((with_reducible refine' ev_Encoder_taps _) <;> wtm_at "ev2")
  | ((with_reducible refine' ev_Encoder_memory _) <;> wtm_at "ev2")
  | ((with_reducible refine' ev_Encoder_outputs _) <;> wtm_at "ev2")
  | ((with_reducible refine' ev_Encoder_state_count _) <;> wtm_at "ev2")
  | ((with_reducible refine' ev_Trellis_steps _) <;> wtm_at "ev2")
  | ((with_reducible refine' ev_Trellis_message_length _) <;> wtm_at "ev2")
  | ((with_reducible refine' ev_Trellis_table _) <;> wtm_at "ev2")
  | ((with_reducible refine' ev_Summary_cost _) <;> wtm_at "ev2")
  | ((with_reducible refine' ev_Summary_count_of _) <;> wtm_at "ev2")
  | ((with_reducible refine' ev_Summary_first _) <;> wtm_at "ev2")
  | ((with_reducible refine' ev_Summary_start_of _) <;> wtm_at "ev2")
  | ((with_reducible refine' ev_PathDecoder_encoder _) <;> wtm_at "ev2")
  | ((with_reducible refine' ev_PathDecoder_table _) <;> wtm_at "ev2")
  | ((with_reducible refine' ev_PathDecoder_steps _) <;> wtm_at "ev2")
  | ((with_reducible refine' ev_PathDecoder_summaries _) <;> wtm_at "ev2"))
local macro_rules | `(tactic| wtm_at "evcb") => `(tactic| first
  | ((with_reducible show Ev _ _ (tCB (rLen _) (tCons (tVar _) tNil)) _ _); exact ev_lenM rfl)
  | ((with_reducible refine' ev_lenL _) <;> wtm_at "ev2")
  | ((with_reducible refine' ev_lenT _) <;> wtm_at "ev2")
  | ((with_reducible refine' ev_lenS _) <;> wtm_at "ev2")
  | ((with_reducible refine' ev_int1 _) <;> wtm_at "ev2")
  | ((with_reducible refine' ev_intB _) <;> wtm_at "ev2")
  | ((with_reducible refine' ev_abs _) <;> wtm_at "ev2")
  | ((with_reducible refine' ev_min2 _ _) <;> wtm_at "ev2")
  | ((with_reducible refine' ev_max2 _ _) <;> wtm_at "ev2")
  | ((with_reducible refine' ev_minLL _ _) <;> wtm_at "ev2")
  | ((with_reducible refine' ev_sum _) <;> wtm_at "ev2")
  | ((with_reducible refine' ev_tupL (m := _) _) <;> wtm_at "ev2")
  | ((with_reducible refine' EvL.ev (m := _) _) <;> wtm_at "ev2"))
local macro_rules | `(tactic| wtm_at "evcall") => `(tactic| first
  | ((with_reducible refine' cd1 _ _) <;> wtm_at "ev2")
  | ((with_reducible refine' cd2 _ _ _) <;> wtm_at "ev2")
  | ((with_reducible refine' cd3 _ _ _ _) <;> wtm_at "ev2")
  | ((with_reducible refine' cd4 _ _ _ _ _) <;> wtm_at "ev2")
  | ((with_reducible refine' cd5 _ _ _ _ _ _) <;> wtm_at "ev2"))
local macro_rules | `(tactic| wtm_at "evmeth") => `(tactic| first
  | ((with_reducible refine' md1 _ _ _) <;> wtm_at "ev2")
  | ((with_reducible refine' md2 _ _ _ _) <;> wtm_at "ev2")
  | ((with_reducible refine' md3 _ _ _ _ _) <;> wtm_at "ev2")
  | ((with_reducible refine' md4 _ _ _ _ _ _) <;> wtm_at "ev2"))
local macro_rules | `(tactic| wtm_at "evx") => `(tactic| first
  | ((with_reducible show Ev _ _ (tVar _) _ _); exact ev_var rfl)
  | ((with_reducible show Ev _ _ (tC _) _ _); first | exact ev_int | exact ev_bl | exact ev_none | exact ev_non)
  | ((with_reducible show Ev _ _ (tOp _ _ _) _ _); wtm_at "evop")
  | ((with_reducible show Ev _ _ (tF _ _ _) _ _); wtm_at "evfld")
  | ((with_reducible show Ev _ _ (tCB _ _) _ _); wtm_at "evcb")
  | ((with_reducible show Ev _ _ (tCall _ _ _ _) _ _); wtm_at "evcall")
  | ((with_reducible show Ev _ _ (tMeth _ _ _ _ _ _ _) _ _); wtm_at "evmeth")
  | ((with_reducible show Ev _ _ (tTup _) _ _); first | ((with_reducible refine' ev_pair (m := _) (n := _) _ _) <;> wtm_at "ev2") | ((with_reducible refine' ev_tri (m := _) (n := _) (k := _) _ _ _) <;> wtm_at "ev2"))
  | ((with_reducible refine' ev_neg _) <;> wtm_at "ev2")
  | ((with_reducible refine' ev_notV _) <;> wtm_at "ev2")
  | ((with_reducible show Ev _ _ (tLc _ _ _ _ _) _ _); (with_reducible refine' EvL.ev (m := _) _) <;> wtm_at "ev2")
  | ((with_reducible refine' EvL.ev (m := _) _) <;> wtm_at "ev2"))
local macro_rules | `(tactic| wtm_at "evt") => `(tactic| first
  | ((with_reducible refine' et_test _) <;> wtm_at "ev2")
  | ((with_reducible refine' et_B _) <;> wtm_at "ev2")
  | ((with_reducible refine' et_not _) <;> wtm_at "ev2"))
local macro_rules | `(tactic| wtm_at "evl") => `(tactic| first
  | exact el_nil
  | ((with_reducible refine' el_rep (m := _) _ _ _ _) <;> wtm_at "ev2")
  | ((with_reducible refine' el_cat (m := _) _ _ _) <;> wtm_at "ev2")
  | ((with_reducible refine' el_slice (m := _) _ _ _) <;> wtm_at "ev2")
  | ((with_reducible show EvL _ _ (tSl _ (tVar _) _ _) _ _); (refine' el_sliceM rfl _ _) <;> wtm_at "ev2")
  | ((with_reducible refine' el_listL (m := _) _) <;> wtm_at "ev2")
  | ((with_reducible refine' el_disp (m := _) _ _) <;> wtm_at "ev2")
  | ((with_reducible refine' el_sortLL _) <;> wtm_at "ev2")
  | ((with_reducible refine' el_lc (m := _) (n := _) _ (tg_name (m := _)) _ _ _) <;> wtm_at "ev2")
  | ((with_reducible refine' el_lcR (n := _) _ _ _ _ _) <;> wtm_at "ev2")
  | ((with_reducible refine' el_lc (m := _) (n := _) _ (tg_pair (m := _) (n := _)) _ _ _) <;> wtm_at "ev2")
  | ((with_reducible refine' el_lc (m := _) (n := _) _ (tg_tri (m := _) (n := _) (o := _)) _ _ _) <;> wtm_at "ev2"))
local macro_rules | `(tactic| wtm_at "ev") => `(tactic| first
  | ((with_reducible show Ev _ _ _ _ _); first | ((with_reducible refine' et_chain _ _ _) <;> wtm_at "ev2") | wtm_at "evx")
  | ((with_reducible show EvT _ _ _ _); wtm_at "evt")
  | ((with_reducible show EvL _ _ _ _ _); wtm_at "evl")
  | exact ea_nil
  | exact eh_nil
  | exact eo_none
  | ((with_reducible refine' ea_cons (m := _) _ _) <;> wtm_at "ev2")
  | ((with_reducible refine' eh_cons (m := _) _ _) <;> wtm_at "ev2")
  | ((with_reducible refine' eo_some _) <;> wtm_at "ev2"))
local macro_rules | `(tactic| wtm_at "no") => `(tactic| ((fail_if_success (with_reducible show Ev _ _ _ _ _)); (fail_if_success (with_reducible show EvL _ _ _ _ _)); (fail_if_success (with_reducible show EvT _ _ _ _)); (fail_if_success (with_reducible show EvA _ _ _ _)); (fail_if_success (with_reducible show EvH _ _ _ _ _)); (fail_if_success (with_reducible show EvO _ _ _ _))))
local macro_rules | `(tactic| wtm_at "ev2") => `(tactic| first | wtm_at "ev" | (wtm_at "no"; first | infer_instance | (intro x hx; wtm_at "ev") | skip))
local macro_rules | `(tactic| wtm_at "E") => `(tactic| ((wtm_at "ev") <;> (try infer_instance)) <;> (try (refine Iff.mp Iff.rfl ?_; wtm_at "side")))
local macro_rules | `(tactic| wtm_at "sub") => `(tactic| repeat' first | exact Sub.nil | apply Sub.any | apply Sub.same | (apply Sub.fz) | (apply Sub.ml))
theorem nums_at {l : List Int} (h : Nums 80 l) {i : Int} (h0 : 0 ≤ i) (h1 : i < 80) : atI l i = some (l.getD i.toNat 0) := atI_D 0 h0 (by rw [h.1]; exact h1)
theorem nums_ge {l : List Int} (h : Nums 80 l) {i : Int} (h0 : 0 ≤ i) (h1 : i < 80) : 0 ≤ l.getD i.toNat 0 ∧ l.getD i.toNat 0 < 1009 := h.2 _ (MX.getD_mem (by rw [h.1]; omega))
theorem obits_snoc {r : Rc} {o : Option Int} (h : OBits r) (k : ∀ b, o = some b → Bit b) : OBits (r ++ [o]) := fun b hb => by
  rcases List.mem_append.mp hb with q | q
  · exact h b q
  · exact k b (List.mem_singleton.mp q).symm
theorem not_bit {b : Int} (h : Bit b) : Bit (1 - b) := by
  rcases h with q | q <;> rw [q]
  · exact Or.inr rfl
  · exact Or.inl rfl
abbrev sp__law_received (K : PySem.W.Frag) : Sp := spP4 rRows (rLst rInt) rInt rInt (fun t l a n => GT t ∧ Nums 80 l ∧ a = 8 ∧ 0 ≤ n ∧ n ≤ 4) rRec0 (fun t _ _ n r => r.length = t.length * (n.toNat + mem t) ∧ OBits r)
abbrev Pr__law_received (P : Program) (w : World) (K : PySem.W.Frag) (mg : Str → Option Value) (base : Heap) : Prop := Pr P w K mg base (He.ga K "_law_received") 2 ["_law_taps_here", "_law_numbers_here", "_law_at", "_law_size"] (sp__law_received K) []
def nm__law_received : List Str := ["_law_taps_here", "_law_numbers_here", "_law_at", "_law_size", "_law_k", "_law_word_here", "_law_mode", "_law_received_here", "_law_number", "_law_item"]
theorem sc__law_received : FnScope nm__law_received ["_law_taps_here", "_law_numbers_here", "_law_at", "_law_size"] (defScope s__law_received) := ⟨rfl, rfl, rfl, by decide +kernel, rfl, by decide +kernel, by decide +kernel⟩
theorem ok__law_received {P : Program} {w : World} {K : PySem.W.Frag} {mg : Str → Option Value} {base : Heap} (T : Tx K mg) (c_law_word : Pr__law_word P w K mg base) : Pr__law_received P w K mg base := by
  refine pr_of (N := nm__law_received) (k := 1) T.d__law_received sc__law_received (fun _ _ _ _ _ _ us hl => match us, hl with | [_, _, _, _], _ => rfl) len4 fun cdv A outer s H E hr => ⟨_, (pss_cons (ps_set (i := 5) sc__law_received.nd rfl (Or.inl rfl) (pe_cal c_law_word T.g__law_word hr (pa_cons (pv 0) (pa_cons (pe_lc (own := [("_law_k", 4)]) rfl sc__law_received.nd (pi_range1 rfl T.f_range (pa_cons (pv 3) pa_nil)) (blkOk_by (own := [("_law_k", 4)]) (N := nm__law_received) (sc := (defScope s__law_received)) (by decide +kernel)) (fun _ _ _ _ _ => (pg_name (i := 4) sc__law_received.nd rfl (Or.inl rfl))) (fun _ _ _ _ _ => pts_nil) (fun _ _ _ _ _ => (pe_op op_mod (pe_callTy cl_int (by rfl) T.f_int bb_int (pa_cons (pe_op op_fdiv (pe_ix (kIxL K rfl) (pv 1) (pe_op op_add (pv 2) (pe_op op_mod (pe_callTy cl_int (by rfl) T.f_int bb_int (pa_cons (pv 4) pa_nil)) pe_int)) (fun _ _ => rfl)) (pe_op op_add pe_int (pe_op op_fdiv (pv 4) pe_int))) pa_nil)) pe_int))) pa_nil))))
      (pss_cons (ps_set (i := 6) sc__law_received.nd rfl (Or.inl rfl) (pe_ix (kIxL K rfl) (pe_lst (pa_cons pe_int (pa_cons pe_int (pa_cons pe_int (pa_cons pe_int (pa_cons pe_int (pa_cons pe_int (pa_cons pe_int (pa_cons pe_int (pa_cons pe_int pa_nil)))))))))) (pe_op op_mod (pe_callTy cl_int (by rfl) T.f_int bb_int (pa_cons (pe_ix (kIxL K rfl) (pv 1) (pe_op op_add (pv 2) pe_int) (fun _ _ => rfl)) pa_nil)) pe_int) (fun _ _ => rfl)))
      (pss_cons (ps_set (i := 7) sc__law_received.nd rfl (Or.inl rfl) (pe_lst pa_nil))
      (pss_cons (ps_for PassesOwn.never rfl (pi_range1 rfl T.f_range (pa_cons (pe_callB (kLen K rfl) (by rfl) T.f_len boot_len (pa_cons (pv 5) pa_nil)) pa_nil)) (pg_name (i := 4) sc__law_received.nd rfl (Or.inl rfl)) (pss_cons (ps_set (i := 8) sc__law_received.nd rfl (Or.inl rfl) (pe_op op_add (pe_ix (kIxL K rfl) (pv 1) (pe_op op_add (pe_op op_add (pv 2) pe_int) (pe_op op_mod (pe_callTy cl_int (by rfl) T.f_int bb_int (pa_cons (pv 4) pa_nil)) pe_int)) (fun _ _ => rfl)) (pe_op op_mul pe_int (pe_op op_fdiv (pv 4) pe_int))))
      (pss_cons (ps_set (i := 9) sc__law_received.nd rfl (Or.inl rfl) (pe_ix (kIxL K rfl) (pv 5) (pv 4) (fun _ _ => rfl)))
      (pss_cons (ps_if (pt_cmpR op_eq (pv 6) pe_int (nomark _)) (pss_one (ps_set (i := 9) sc__law_received.nd rfl (Or.inl rfl) (pe_op op_mod (pe_callTy cl_int (by rfl) T.f_int bb_int (pa_cons (pv 8) pa_nil)) pe_int))) pss_nil)
      (pss_cons (ps_if (PW.pt (pw_and (pt_cmpR op_eq (pv 6) pe_int (nomark _)) (pw_and1 (pt_cmpR op_eq (pe_op op_mod (pe_callTy cl_int (by rfl) T.f_int bb_int (pa_cons (pv 8) pa_nil)) pe_int) pe_int (nomark _))))) (pss_one (ps_set (i := 9) sc__law_received.nd rfl (Or.inl rfl) (pe_op op_sub pe_int (pv 9)))) pss_nil)
      (pss_cons (ps_if (PW.pt (pw_and (pt_cmpR op_eq (pv 6) pe_int (nomark _)) (pw_and1 (pt_cmpR op_eq (pe_op op_mod (pe_callTy cl_int (by rfl) T.f_int bb_int (pa_cons (pv 8) pa_nil)) pe_int) pe_int (nomark _))))) (pss_one (ps_set (i := 9) sc__law_received.nd rfl (Or.inl rfl) (pe_ix (kIxL K rfl) (pe_lst (pa_cons pe_non (pa_cons (pe_op op_sub pe_int (pv 9)) pa_nil))) (pe_op op_mod (pe_callTy cl_int (by rfl) T.f_int bb_int (pa_cons (pe_op op_fdiv (pv 8) pe_int) pa_nil)) pe_int) (fun _ _ => rfl)))) pss_nil)
      (pss_cons (ps_if (PW.pt (pw_or (pt_cmpR op_eq (pv 6) pe_int (nomark _)) (pw_or1 (PW.pt (pw_and (pt_cmpR op_eq (pv 6) pe_int (nomark _)) (pw_and1 (pt_cmpR op_eq (pe_op op_mod (pe_callTy cl_int (by rfl) T.f_int bb_int (pa_cons (pv 8) pa_nil)) pe_int) pe_int (nomark _)))))))) (pss_one (ps_set (i := 9) sc__law_received.nd rfl (Or.inl rfl) pe_non)) pss_nil)
      (pss_one (ps_expr (pe_bm PySem.F.plainAttrs_list PySem.F.slot_list_append PySem.F.type_list_append mt_append (pv 7) (pa_cons (pv 9) pa_nil)))))))))))
      (pss_one (ps_ret (pv 7))))))), en4 (n := 6) rfl fun B t l a n Q hp rt => ?_⟩
  obtain ⟨g, hl, rfl, h0, h1⟩ := hp
  have g2 := g.hi
  have g3 := g.me
  obtain ⟨m, hm, hmb, hml⟩ : ∃ m : List Int, m = (List.range n.toNat).map (fun k : Nat => (l.getD (8 + (k : Int) % 6).toNat 0) / (1 + (k : Int) / 6) % 2) ∧ Bits m ∧ m.length = n.toNat := ⟨_, rfl, fun x hx => by
    obtain ⟨k, _, rfl⟩ := List.mem_map.mp hx
    exact bit_mod _, by rw [List.length_map, List.length_range]⟩
  refine q_asg (x := word t m) (cd2 (by wtm_at "E") (EvL.ev (EvL.to (el_lcR (S := rInt) (f := fun k : Nat => (l.getD (8 + (k : Int) % 6).toNat 0) / (1 + (k : Int) / 6) % 2) (by wtm_at "E") (by wtm_at "side") h0 (by omega) (fun k hk => ?_)) hm.symm)) ⟨g, hmb, by omega⟩) ?_
  · have i1 := nums_at hl (i := 8 + (k : Int) % 6) (by omega) (by omega)
    wtm_at "E"
  have hwl : (word t m).length = t.length * (n.toNat + mem t) := by rw [word_length, hml]
  have hwb := word_bits t m
  have hw4 : (word t m).length ≤ 4 * 9 := by rw [hwl]; exact Nat.mul_le_mul g2 (by omega)
  rw [← hwl] at rt
  generalize word t m = w at hwl hwb hw4 rt
  have i2 := nums_at hl (i := 8 + 6) (by omega) (by omega)
  refine q_asg (x := ([0, 1, 1, 2, 3, 3, 0, 2, 4] : List Int).getD (l.getD (8 + 6 : Int).toNat 0 % 9).toNat 0) (ev_ixL (R := rInt) (xs := [0, 1, 1, 2, 3, 3, 0, 2, 4]) (by wtm_at "E") (by wtm_at "E") (atI_D 0 (by omega) (by show _ < (9 : Int); omega))) ?_
  generalize ([0, 1, 1, 2, 3, 3, 0, 2, 4] : List Int).getD (l.getD (8 + 6 : Int).toNat 0 % 9).toNat 0 = md
  refine q_asgL (R := rOpt rInt) (by wtm_at "E") ?_
  refine q_forR1 (I := Rc) (fun i x => x.length = i ∧ OBits x) (fun i x => [.any, sf (rLst rInt) l, sf rInt 8, .any, .any, sf (rLst rInt) w, sf rInt md, G.sm (rOpt rInt) x, .any, .any]) (by wtm_at "E") (by omega) ⟨[], ⟨rfl, fun b h => by cases h⟩, by wtm_at "sub"⟩ (fun i x hi hx => ?_) (fun x hx => ?_)
  · have i3 := nums_at hl (i := 8 + 7 + (i : Int) % 28) (by omega) (by omega)
    have i4 : atI w (i : Int) = some (w.getD i 0) := atI_0 (by omega)
    have hb := hwb.getD i
    refine q_asg (x := l.getD (8 + 7 + (i : Int) % 28).toNat 0 + 13 * ((i : Int) / 28)) (by wtm_at "E") ?_
    generalize l.getD (8 + 7 + (i : Int) % 28).toNat 0 + 13 * ((i : Int) / 28) = nu
    refine q_asg (by wtm_at "E") ?_
    generalize w.getD i 0 = b at hb
    refine q_meet (I := Int) Bit (fun b => [.any, sf (rLst rInt) l, sf rInt 8, .any, sf rInt (i : Int), sf (rLst rInt) w, sf rInt md, G.sm (rOpt rInt) x, sf rInt nu, sf rInt b]) (by wtm_at "E") (fun _ E k => s_asg (by wtm_at "E") (Wn.sub (by wtm_at "sub") (k _ (bit_mod nu)))) (fun _ E k => s_next (Wn.sub (by wtm_at "sub") (k b hb))) (fun b hb => ?_)
    refine q_meet (I := Int) Bit (fun b => [.any, sf (rLst rInt) l, sf rInt 8, .any, sf rInt (i : Int), sf (rLst rInt) w, sf rInt md, G.sm (rOpt rInt) x, sf rInt nu, sf rInt b]) (et_and (by wtm_at "E") (fun _ => by wtm_at "E")) (fun _ E k => s_asg (by wtm_at "E") (Wn.sub (by wtm_at "sub") (k _ (not_bit hb)))) (fun _ E k => s_next (Wn.sub (by wtm_at "sub") (k b hb))) (fun b hb => ?_)
    refine q_meet (I := Option Int) (fun o => ∀ b, o = some b → Bit b) (fun o => [.any, sf (rLst rInt) l, sf rInt 8, .any, sf rInt (i : Int), sf (rLst rInt) w, sf rInt md, G.sm (rOpt rInt) x, sf rInt nu, sf (rOpt rInt) o]) (et_and (by wtm_at "E") (fun _ => by wtm_at "E"))
      (fun _ E k => s_asg (x := ([none, some (1 - b)] : List (Option Int)).getD (nu / 4 % 2).toNat none) (ev_ixL (R := rOpt rInt) (xs := [none, some (1 - b)]) (EvL.ev (el_disp (eh_cons ev_none (eh_cons (Ev.some (by wtm_at "E")) eh_nil)) (by show 2 ≤ 10000000; decide))) (by wtm_at "E") (atI_D none (by omega) (by show _ < (2 : Int); omega))) (Wn.sub (by wtm_at "sub") (k _ ?_)))
      (fun _ E k => s_next (wn_conv (i := 9) (t := fz' (rOpt rInt) (some b)) rfl (fun _ _ h => h) (Wn.sub (by wtm_at "sub") (k (some b) (fun c e => (Option.some.inj e) ▸ hb))))) (fun o ho => ?_)
    · intro c e
      have q : nu / 4 % 2 = 0 ∨ nu / 4 % 2 = 1 := by omega
      rcases q with q | q <;> rw [q] at e
      · cases e
      · rw [← Option.some.inj (show some (1 - b) = some c from e)]; exact not_bit hb
    refine q_meet (I := Option Int) (fun o => ∀ b, o = some b → Bit b) (fun o => [.any, sf (rLst rInt) l, sf rInt 8, .any, sf rInt (i : Int), sf (rLst rInt) w, sf rInt md, G.sm (rOpt rInt) x, sf rInt nu, sf (rOpt rInt) o]) (et_or (by wtm_at "E") (fun _ => et_and (by wtm_at "E") (fun _ => by wtm_at "E")))
      (fun _ E k => s_asg (x := (none : Option Int)) ev_none (Wn.sub (by wtm_at "sub") (k none (fun c e => by cases e)))) (fun _ E k => s_next (Wn.sub (by wtm_at "sub") (k o ho))) (fun o ho => ?_)
    exact s_app rfl (by wtm_at "E") (by omega) (wn_lp (x ++ [o]) ⟨by rw [List.length_append, hx.1]; rfl, obits_snoc hx.2 ho⟩ (by wtm_at "sub"))
  · refine wn_fz (i := 7) rfl ?_
    exact s_ret (by wtm_at "E") rt ⟨by rw [hx.1, Int.toNat_natCast], hx.2⟩
abbrev sp__law_nearest (K : PySem.W.Frag) : Sp := spD3 rRows rRec0 rInt (fun t r n => 0 ≤ n ∧ n ≤ 4 ∧ Rv t n.toNat r) (rPair rInt rRows) (fun t r n => (lst t n.toNat r, fnd t n.toNat r))
abbrev Pr__law_nearest (P : Program) (w : World) (K : PySem.W.Frag) (mg : Str → Option Value) (base : Heap) : Prop := Pr P w K mg base (He.ga K "_law_nearest") 2 ["_law_taps_here", "_law_received_here", "_law_size"] (sp__law_nearest K) []
def nm__law_nearest : List Str := ["_law_taps_here", "_law_received_here", "_law_size", "_law_found", "_law_least", "_law_message", "_law_distance"]
theorem sc__law_nearest : FnScope nm__law_nearest ["_law_taps_here", "_law_received_here", "_law_size"] (defScope s__law_nearest) := ⟨rfl, rfl, rfl, by decide +kernel, rfl, by decide +kernel, by decide +kernel⟩
theorem ok__law_nearest {P : Program} {w : World} {K : PySem.W.Frag} {mg : Str → Option Value} {base : Heap} (T : Tx K mg) (c_law_messages : Pr__law_messages P w K mg base) (c_law_word : Pr__law_word P w K mg base) (c_law_differ : Pr__law_differ P w K mg base) : Pr__law_nearest P w K mg base := by
  refine pr_of (N := nm__law_nearest) (k := 1) T.d__law_nearest sc__law_nearest (fun _ _ _ _ _ _ us hl => match us, hl with | [_, _, _], _ => rfl) len3 fun cdv A outer s H E hr => ⟨_, (pss_cons (ps_set (i := 3) sc__law_nearest.nd rfl (Or.inl rfl) (pe_lst pa_nil))
      (pss_cons (ps_set (i := 4) sc__law_nearest.nd rfl (Or.inl rfl) (pe_callB (kLen K rfl) (by rfl) T.f_len boot_len (pa_cons (pv 1) pa_nil)))
      (pss_cons (ps_for PassesOwn.never rfl (kPiL K rfl (pe_cal c_law_messages T.g__law_messages hr (pa_cons (pv 2) pa_nil))) (pg_name (i := 5) sc__law_nearest.nd rfl (Or.inl rfl)) (pss_cons (ps_set (i := 6) sc__law_nearest.nd rfl (Or.inl rfl) (pe_cal c_law_differ T.g__law_differ hr (pa_cons (pe_cal c_law_word T.g__law_word hr (pa_cons (pv 0) (pa_cons (pv 5) pa_nil))) (pa_cons (pv 1) pa_nil))))
      (pss_cons (ps_if (pt_cmpR op_lt (pv 6) (pv 4) (nomark _)) (pss_one (ps_set (i := 3) sc__law_nearest.nd rfl (Or.inl rfl) (pe_lst pa_nil))) pss_nil)
      (pss_cons (ps_set (i := 4) sc__law_nearest.nd rfl (Or.inl rfl) (pe_callB (cl_min2 rfl) (by rfl) T.f_min bb_min (pa_cons (pv 4) (pa_cons (pv 6) pa_nil))))
      (pss_one (ps_if (pt_cmpR op_eq (pv 6) (pv 4) (nomark _)) (pss_one (ps_expr (pe_bm PySem.F.plainAttrs_list PySem.F.slot_list_append PySem.F.type_list_append mt_append (pv 3) (pa_cons (pv 5) pa_nil)))) pss_nil))))))
      (pss_one (ps_ret (pe_tup (pa_cons (pv 4) (pa_cons (pv 3) pa_nil)))))))), en3 (n := 4) rfl fun B t r n Q hp rt => ?_⟩
  obtain ⟨h0, h1, hv⟩ := hp
  have g := hv.g
  have hml : (msgA n.toNat).length ≤ 16 := by rw [msgA_length]; exact Nat.pow_le_pow_right (by decide) (show n.toNat ≤ 4 by omega)
  refine q_asgL (R := rLst rInt) (by wtm_at "E") ?_
  refine q_asg (by wtm_at "E") ?_
  refine q_forL (I := Int) (xs := msgA n.toNat) (fun i b => NearG (fun m => dst (word t m) r) ((msgA n.toNat).take i) (r.length : Int) b) (fun i b => [sf rRows t, sf rRec0 r, sf rInt n, G.sm (rLst rInt) (fil (fun m => dst (word t m) r) ((msgA n.toNat).take i) b), sf rInt b, .any, .any]) tg_name (cd1 (by wtm_at "E") ⟨h0, h1⟩) ⟨(r.length : Int), NearG.nil _ _, by wtm_at "sub"⟩ (fun B1 up i b m hm hb => ?_) (fun b hb => ?_)
  · obtain ⟨m1, m2⟩ := msgA_mem (List.mem_of_getElem? hm)
    have hwl : (word t m).length = r.length := by rw [word_length, hv.len, m1]
    have hrl := hv.le
    have ht : (msgA n.toNat).take (i + 1) = (msgA n.toNat).take i ++ [m] := by rw [List.take_add_one, hm]; rfl
    have hfl : (fil (fun m => dst (word t m) r) ((msgA n.toNat).take i) b).length ≤ 16 := Nat.le_trans (List.length_filter_le _ _) (by rw [List.length_take]; omega)
    refine q_asg (x := dst (word t m) r) (cd2 (cd2 (by wtm_at "E") (by wtm_at "E") ⟨g, m2, by omega⟩) (by wtm_at "E") ⟨hwl, by omega⟩) ?_
    rcases Int.lt_trichotomy (dst (word t m) r) b with hlt | heq | hgt
    · refine q_if (by wtm_at "E") (fun _ => ?_) (fun h => absurd hlt (by simpa using h))
      refine s_asgL (R := rLst rInt) (by wtm_at "E") ?_
      dsimp only
      refine q_asg (x := dst (word t m) r) (Ev.to (by wtm_at "E") (show min b _ = _ by omega)) ?_
      refine s_if (by wtm_at "E") (fun _ => ?_) (fun h => by simp at h)
      obtain ⟨k1, k2⟩ := hb.less (m := m) hlt
      refine s_app rfl (by wtm_at "E") (by show 0 < 10000000; decide) (wn_lp (dst (word t m) r) (by rw [ht]; exact k1) ?_)
      rw [ht, k2]
      wtm_at "sub"
    · refine q_if (by wtm_at "E") (fun h => absurd (show dst (word t m) r < b by simpa using h) (by omega)) (fun _ => ?_)
      refine s_next ?_
      dsimp only
      refine q_asg (x := b) (Ev.to (by wtm_at "E") (show min b _ = _ by omega)) ?_
      refine s_if (by wtm_at "E") (fun _ => ?_) (fun h => absurd heq (by simpa using h))
      obtain ⟨k1, k2⟩ := hb.same (m := m) heq
      refine s_app rfl (by wtm_at "E") (by omega) (wn_lp b (by rw [ht]; exact k1) ?_)
      rw [ht, k2]
      wtm_at "sub"
    · refine q_if (by wtm_at "E") (fun h => absurd (show dst (word t m) r < b by simpa using h) (by omega)) (fun _ => ?_)
      refine s_next ?_
      dsimp only
      refine q_asg (x := b) (Ev.to (by wtm_at "E") (show min b _ = _ by omega)) ?_
      refine s_if (by wtm_at "E") (fun h => absurd (show dst (word t m) r = b by simpa using h) (by omega)) (fun _ => ?_)
      obtain ⟨k1, k2⟩ := hb.more (m := m) hgt
      refine s_next (wn_lp b (by rw [ht]; exact k1) ?_)
      rw [ht, k2]
      wtm_at "sub"
  · rw [List.take_length] at hb
    have hb' := hv.near rfl hb
    rw [List.take_length]
    refine wn_fz (i := 3) rfl ?_
    refine s_ret (y := (b, fil (fun m => dst (word t m) r) (msgA n.toNat) b)) (by wtm_at "E") rt ?_
    rw [hb']; rfl
theorem tab_row {t : Tp} (s : Nat) (hs : s < 2 ^ mem t) : (wtb t).getD s [] = ((tabOf t).getD s []).map fun e => (e.1, e.2.sum) := by rw [wtb_at hs, tab_at hs]; rfl
abbrev sp__law_free (K : PySem.W.Frag) : Sp := spD1 rRows GT rInt frd
abbrev Pr__law_free (P : Program) (w : World) (K : PySem.W.Frag) (mg : Str → Option Value) (base : Heap) : Prop := Pr P w K mg base (He.ga K "_law_free") 3 ["_law_taps_here"] (sp__law_free K) []
def nm__law_free : List Str := ["_law_taps_here", "_law_state", "_law_table", "_law_least", "_law_turn", "_law_before", "_law_after", "_law_bits"]
theorem sc__law_free : FnScope nm__law_free ["_law_taps_here"] (defScope s__law_free) := ⟨rfl, rfl, rfl, by decide +kernel, rfl, by decide +kernel, by decide +kernel⟩
theorem ok__law_free {P : Program} {w : World} {K : PySem.W.Frag} {mg : Str → Option Value} {base : Heap} (T : Tx K mg) (c_law_count : Pr__law_count P w K mg base) (c_law_step : Pr__law_step P w K mg base) : Pr__law_free P w K mg base := by
  refine pr_of (N := nm__law_free) (k := 2) T.d__law_free sc__law_free (fun _ _ _ _ _ _ us hl => match us, hl with | [_], _ => rfl) len1 fun cdv A outer s H E hr => ⟨_, (pss_cons (ps_setLc (i := 2) (own := [("_law_state", 1)]) rfl sc__law_free.nd rfl rfl (sw_true rfl rfl rfl (by decide +kernel)) (pi_range1 rfl T.f_range (pa_cons (pe_cal c_law_count T.g__law_count hr (pa_cons (pv 0) pa_nil)) pa_nil)) (blkOk_by (own := [("_law_state", 1)]) (N := nm__law_free) (sc := (defScope s__law_free)) (by decide +kernel)) (fun _ _ _ _ _ => (pg_name (i := 1) sc__law_free.nd rfl (Or.inl rfl))) (fun _ _ _ _ _ => pts_nil) (fun _ _ _ _ _ => (pe_lst (pa_cons (pe_cal c_law_step T.g__law_step hr (pa_cons (pv 0) (pa_cons (pv 1) (pa_cons pe_int pa_nil)))) (pa_cons (pe_cal c_law_step T.g__law_step hr (pa_cons (pv 0) (pa_cons (pv 1) (pa_cons pe_int pa_nil)))) pa_nil)))))
      (pss_cons (ps_set (i := 3) sc__law_free.nd rfl (Or.inl rfl) (pe_op op_rep (pe_lst (pa_cons pe_non pa_nil)) (pe_callB (kLen K rfl) (by rfl) T.f_len boot_len (pa_cons (pv 2) pa_nil))))
      (pss_cons (ps_asg pe_int (pg_sub (pv 3) pe_int set_list))
      (pss_cons (ps_for PassesOwn.never rfl (pi_range1 rfl T.f_range (pa_cons (pe_callB (kLen K rfl) (by rfl) T.f_len boot_len (pa_cons (pv 2) pa_nil)) pa_nil)) (pg_name (i := 4) sc__law_free.nd rfl (Or.inl rfl)) (pss_cons (ps_set (i := 5) sc__law_free.nd rfl (Or.inl rfl) (pe_callTy (kList K rfl) (by rfl) T.f_list boot_list (pa_cons (pv 3) pa_nil)))
      (pss_cons (ps_for PassesOwn.never rfl (pi_range2 rfl T.f_range (pa_cons pe_int (pa_cons (pe_callB (kLen K rfl) (by rfl) T.f_len boot_len (pa_cons (pv 2) pa_nil)) pa_nil))) (pg_name (i := 1) sc__law_free.nd rfl (Or.inl rfl)) (pss_one (ps_for PassesOwn.never rfl (kPiL K rfl (pe_ix (kIxL K rfl) (pv 2) (pv 1) (fun _ _ => rfl))) (kPgT (n := 2) K rfl rfl (pgs_cons (pg_name (i := 6) sc__law_free.nd rfl (Or.inl rfl)) (pgs_cons (pg_name (i := 7) sc__law_free.nd rfl (Or.inl rfl)) pgs_nil))) (pss_one (ps_if (pt_cmpR op_notN1 (pe_ix (kIxL K rfl) (pv 3) (pv 6) (fun _ _ => rfl)) pe_non (nomark _)) (pss_one (ps_if (PW.pt (pw_or (pt_cmpR op_isN1 (pe_ix (kIxL K rfl) (pv 3) (pv 1) (fun _ _ => rfl)) pe_non (nomark _)) (pw_or1 (pt_cmpR op_lt (pe_op op_add (pe_callB (kSum K rfl rfl) (by rfl) T.f_sum bb_sum (pa_cons (pv 7) pa_nil)) (pe_ix (kIxL K rfl) (pv 3) (pv 6) (fun _ _ => rfl))) (pe_ix (kIxL K rfl) (pv 3) (pv 1) (fun _ _ => rfl)) (nomark _))))) (pss_one (ps_asg (pe_op op_add (pe_callB (kSum K rfl rfl) (by rfl) T.f_sum bb_sum (pa_cons (pv 7) pa_nil)) (pe_ix (kIxL K rfl) (pv 3) (pv 6) (fun _ _ => rfl))) (pg_sub (pv 3) (pv 1) set_list))) pss_nil)) pss_nil)))))
      (pss_one (ps_if (pt_cmpR (kEqD K rfl hr.units) (pv 5) (pv 3) (nomark _)) (pss_one ps_break) pss_nil)))))
      (pss_cons (ps_asg (pe_cal c_law_step T.g__law_step hr (pa_cons (pv 0) (pa_cons pe_int (pa_cons pe_int pa_nil)))) (kPgT (n := 2) K rfl rfl (pgs_cons (pg_name (i := 6) sc__law_free.nd rfl (Or.inl rfl)) (pgs_cons (pg_name (i := 7) sc__law_free.nd rfl (Or.inl rfl)) pgs_nil))))
      (pss_one (ps_ret (pe_op op_add (pe_callB (kSum K rfl rfl) (by rfl) T.f_sum bb_sum (pa_cons (pv 7) pa_nil)) (pe_ix (kIxL K rfl) (pv 3) (pv 6) (fun _ _ => rfl)))))))))), en1 (n := 7) rfl fun B t Q hp rt => ?_⟩
  obtain ⟨p1, p2, p3⟩ := pow_facts hp
  have htl := tab_length t
  have hW : (wtb t).length = 2 ^ mem t := wtb_length t
  obtain ⟨v, hv⟩ := fr_some (t := t) (nx_lt (mem t) 0 1)
  have hfin : atI (frL t) ((nx (mem t) 0 1 : Nat) : Int) = some (some v) := (atI_D none (by omega) (by rw [frL_length]; exact Int.ofNat_lt.mpr (nx_lt _ _ _))).trans (by rw [Int.toNat_natCast, hv])
  have hP := pow_le hp.me
  have hP2 : (2 : Int) ^ mem t = ((2 ^ mem t : Nat) : Int) := by rw [Int.natCast_pow]; rfl
  have q0 : (0 : Int) ≤ 2 ^ mem t := by omega
  have q1 : (2 : Int) ^ mem t ≤ 10000000 := by omega
  refine q_asg (x := tabOf t) (EvL.ev (EvL.to (el_lcR (f := fun s => [((nx (mem t) s 0 : Int), ou t s 0), ((nx (mem t) s 1 : Int), ou t s 1)]) (cd1 (by wtm_at "E") hp) (by wtm_at "side") q0 q1 (fun s hs => EvL.ev (el_disp (eh_cons (Ev.to (cd3 (by wtm_at "E") (by wtm_at "E") (by wtm_at "E") ⟨hp, Or.inl rfl, Int.natCast_nonneg _, hs⟩) rfl) (eh_cons (Ev.to (cd3 (by wtm_at "E") (by wtm_at "E") (by wtm_at "E") ⟨hp, Or.inr rfl, Int.natCast_nonneg _, hs⟩) rfl) eh_nil)) (by show 2 ≤ 10000000; decide)))) (by rw [hP2, Int.toNat_natCast]; rfl))) ?_
  refine q_asgL (R := rOpt rInt) (xs := List.replicate (2 ^ mem t) none) (EvL.to (el_rep (R := rOpt rInt) (x := none) ev_none (by wtm_at "E") (by omega) (by omega)) (by rw [htl, Int.toNat_natCast])) ?_
  refine q_set (n := 0) (x := some 0) rfl (Ev.some (by wtm_at "E")) (by wtm_at "E") (ixN_D (Int.le_refl _) (by rw [List.length_replicate]; omega)) ?_
  refine q_forR1K (I := Unit) (Δ := [sf rRows t, .any, sf rTab (tabOf t), G.sm (rOpt rInt) (frL t), .any, .any, .any, .any]) (n := ((2 ^ mem t : Nat) : Int)) (fun i _ => True) (fun i _ => [sf rRows t, .any, sf rTab (tabOf t), G.sm (rOpt rInt) (frN (wtb t) i), .any, .any, .any, .any]) (Ev.to (by wtm_at "E") (by rw [htl])) (by omega) ⟨(), trivial, ?_⟩ (fun N hN i _ hi _ => ?_) (fun _ _ => by rw [Int.toNat_natCast]; wtm_at "sub") ?_
  · wtm_at "sub"
    show _ = fr0 (wtb t).length
    rw [hW]; rfl
  · have hFl : (frN (wtb t) i).length = 2 ^ mem t := by rw [frN_length, hW]
    refine q_asg (x := frN (wtb t) i) (EvL.ev (lendL (i := 3) rfl (el_listL (ev_var rfl)))) ?_
    refine q_forR2 (I := Unit) (fun j _ => True) (fun j _ => [sf rRows t, .any, sf rTab (tabOf t), G.sm (rOpt rInt) ((List.range j).foldl (frS (wtb t)) (frN (wtb t) i)), .any, sf rRec0 (frN (wtb t) i), .any, .any]) (n := ((2 ^ mem t : Nat) : Int)) (by wtm_at "E") (Ev.to (by wtm_at "E") (by rw [htl])) (by omega) ⟨(), trivial, by wtm_at "sub"⟩ (fun j _ hj _ => ?_) (fun _ _ => ?_)
    · have hj1 : ((1 : Int) + (j : Int)) = ((j + 1 : Nat) : Int) := by omega
      rw [hj1]
      have hjl : j + 1 < 2 ^ mem t := by omega
      rw [fold_range]
      have hMl : ((List.range j).foldl (frS (wtb t)) (frN (wtb t) i)).length = 2 ^ mem t := foldl_inv (fun M : Wl => M.length = 2 ^ mem t) hFl fun c x _ h => (frS_length _ _ _).trans h
      generalize (List.range j).foldl (frS (wtb t)) (frN (wtb t) i) = M at hMl
      have i0 : atI (tabOf t) ((j + 1 : Nat) : Int) = some ((tabOf t).getD (j + 1) []) := atI_L (by rw [htl]; exact hjl)
      have hrow : ∀ e, e ∈ (tabOf t).getD (j + 1) [] → 0 ≤ e.1 ∧ e.1 < ((2 ^ mem t : Nat) : Int) ∧ e.2.length ≤ 4 := fun e he => by
        rw [tab_at hjl] at he
        have g2 := hp.hi
        rcases List.mem_cons.mp he with q | q
        · rw [q]; exact ⟨Int.natCast_nonneg _, Int.ofNat_lt.mpr (nx_lt _ _ _), by rw [ou_length]; exact g2⟩
        · rw [List.mem_singleton.mp q]; exact ⟨Int.natCast_nonneg _, Int.ofNat_lt.mpr (nx_lt _ _ _), by rw [ou_length]; exact g2⟩
      unfold frS
      rw [tab_row _ hjl, List.foldl_map]
      refine s_forL (I := Unit) (xs := (tabOf t).getD (j + 1) []) (fun k _ => True) (fun k _ => [sf rRows t, sf rInt ((j + 1 : Nat) : Int), sf rTab (tabOf t), G.sm (rOpt rInt) ((((tabOf t).getD (j + 1) []).take k).foldl (fun L e => fr1 (j + 1) L (e.1, e.2.sum)) M), .any, sf rRec0 (frN (wtb t) i), .any, .any]) tg_pair (by wtm_at "E") ⟨(), trivial, by wtm_at "sub"⟩ (fun B2 up2 k _ e he _ => ?_) (fun _ _ => ?_)
      · rw [fold_step he]
        have hee := hrow e (List.mem_of_getElem? he)
        have hNl : ((((tabOf t).getD (j + 1) []).take k).foldl (fun L e => fr1 (j + 1) L (e.1, e.2.sum)) M).length = 2 ^ mem t := foldl_inv (fun M : Wl => M.length = 2 ^ mem t) hMl fun c x _ h => (fr1_length _ _ _).trans h
        generalize (((tabOf t).getD (j + 1) []).take k).foldl (fun L e => fr1 (j + 1) L (e.1, e.2.sum)) M = N at hNl
        have i1 : atI N e.1 = some (N.getD e.1.toNat none) := atI_D none hee.1 (by rw [hNl]; exact hee.2.1)
        have i2 : atI N ((j + 1 : Nat) : Int) = some (N.getD (j + 1) none) := atI_D none (by omega) (by rw [hNl]; omega)
        unfold fr1
        dsimp only
        cases hA : N.getD e.1.toNat none with
        | none =>
          rw [hA] at i1
          refine s_if (et_test (ev_notN (ev_ixM rfl (by wtm_at "E") i1))) (fun h => by cases h) (fun _ => s_next (wn_lp () trivial (by wtm_at "sub")))
        | some a =>
          rw [hA] at i1
          refine s_if (et_test (ev_notN (ev_ixM rfl (by wtm_at "E") i1))) (fun _ => ?_) (fun h => by cases h)
          have hset : ixN N.length ((j + 1 : Nat) : Int) = some (j + 1) := ixN_n (by rw [hNl]; exact hjl)
          cases hC : N.getD (j + 1) none with
          | none =>
            rw [hC] at i2
            refine s_if (et_or (et_test (ev_isN (ev_ixM rfl (by wtm_at "E") i2))) (fun h => by cases h)) (b := true || false) (fun _ => ?_) (fun h => by cases h)
            exact s_set (n := j + 1) (x := some (e.2.sum + a)) rfl (Ev.some (ev_opI0 (f := fun i j => i + j) (by wtm_at "E") (Ev.unopt (ev_ixM rfl (by wtm_at "E") i1)))) (by wtm_at "E") hset (wn_lp () trivial (by wtm_at "sub"))
          | some c =>
            rw [hC] at i2
            dsimp only
            refine s_if (b := (some c : Option Int).isNone || decide (e.2.sum + a < c)) (et_or (et_test (ev_isN (ev_ixM rfl (by wtm_at "E") i2))) (fun h => et_test (ev_opB0 (f := fun i j => decide (i < j)) (ev_opI0 (f := fun i j => i + j) (by wtm_at "E") (Ev.unopt (ev_ixM rfl (by wtm_at "E") i1))) (Ev.unopt (ev_ixM rfl (by wtm_at "E") i2))))) (fun h => ?_) (fun h => ?_)
            · rw [if_pos (show e.2.sum + a < c by simpa using h)]
              exact s_set (n := j + 1) (x := some (e.2.sum + a)) rfl (Ev.some (ev_opI0 (f := fun i j => i + j) (by wtm_at "E") (Ev.unopt (ev_ixM rfl (by wtm_at "E") i1)))) (by wtm_at "E") hset (wn_lp () trivial (by wtm_at "sub"))
            · rw [if_neg (show ¬ e.2.sum + a < c by simpa using h)]
              exact s_next (wn_lp () trivial (by wtm_at "sub"))
      · rw [List.take_length]
        exact wn_lp () trivial (by wtm_at "sub")
    · have e1 : (List.range (((2 ^ mem t : Nat) : Int) - 1).toNat).foldl (frS (wtb t)) (frN (wtb t) i) = frN (wtb t) (i + 1) := by
        show _ = (List.range ((wtb t).length - 1)).foldl (frS (wtb t)) (frN (wtb t) i)
        rw [hW, show (((2 ^ mem t : Nat) : Int) - 1).toNat = 2 ^ mem t - 1 by omega]
      rw [e1]
      refine s_if (lendT (i := 3) rfl (et_test (ev_eqO (ev_var rfl) (ev_var rfl)))) (fun h => ?_) (fun _ => s_next (wn_lp () trivial (by wtm_at "sub")))
      have h : frN (wtb t) i = frN (wtb t) (i + 1) := by simpa using h
      have e2 : frL t = frN (wtb t) (i + 1) := (frN_stable (W := wtb t) (k := i) h.symm (by omega)).trans h
      refine s_brk (Wn.sub ?_ hN)
      rw [e2]
      wtm_at "sub"
  · refine q_tgt tg_pair (cd3 (by wtm_at "E") (by wtm_at "E") (by wtm_at "E") ⟨hp, Or.inr rfl, Int.le_refl _, by omega⟩) ?_
    dsimp only
    refine s_ret (y := (ou t 0 1).sum + v) (ev_opI0 (f := fun i j => i + j) (by wtm_at "E") (Ev.unopt (ev_ixM rfl (ev_var rfl) hfin))) rt ?_
    exact (frd_at hv).symm
theorem gt_of {t : Tp} {s : Nat} (h1 : 1 ≤ t.length ∧ t.length ≤ 4) (h2 : 1 ≤ s ∧ s ≤ 6) (h3 : ∀ p, p ∈ t → p.length = s ∧ Bits p) (h4 : 0 < (t.map List.sum).sum) : GT t ∧ mem t + 1 = s := by
  cases t with
  | nil => exact absurd h1.1 (by decide)
  | cons p l =>
    have e : mem (p :: l) + 1 = s := by
      have := (h3 p List.mem_cons_self).1
      show p.length - 1 + 1 = s
      omega
    exact ⟨⟨h1.1, h1.2, fun q hq => by rw [(h3 q hq).1, e], by omega, fun q hq => (h3 q hq).2, h4⟩, e⟩
theorem rNA_rows {B : Wd} {F : Hp} {v : V} {x : List (Addr × List Int)} (h : rLst (rNA B) F v x) : rRows F v (x.map (·.2)) := by
  obtain ⟨a, vs, e1, e2, r⟩ := h
  refine ⟨a, vs, e1, e2, by rw [List.length_map]; exact r.1, fun i w y hw hy => ?_⟩
  rw [List.getElem?_map] at hy
  cases e : x[i]? with
  | none => rw [e] at hy; cases hy
  | some z =>
    rw [e] at hy
    rw [← Option.some.inj hy]
    exact rNA_lst (r.2 i w z hw e)
theorem bits_set {l : List Int} (h : Bits l) (n : Nat) : Bits (l.set n 1) := fun x hx => by
  rcases List.mem_or_eq_of_mem_set hx with q | q
  · exact h x q
  · rw [q]; exact Or.inr rfl
theorem sums_nn : ∀ {l : List (List Int)}, (∀ p, p ∈ l → Bits p) → 0 ≤ (l.map List.sum).sum
  | [], _ => Int.le_refl _
  | p :: l, h => by
    have := sums_nn (l := l) fun q hq => h q (List.mem_cons_of_mem _ hq)
    have := bits_sum (h p List.mem_cons_self)
    rw [List.map_cons, List.sum_cons]; omega
abbrev sp__law_taps (K : PySem.W.Frag) : Sp := spP3 (rLst rInt) rInt rInt (fun l a k => Nums 80 l ∧ a = 0 ∧ 1 ≤ k ∧ k ≤ 6) rRows (fun _ _ _ t => GT t)
abbrev Pr__law_taps (P : Program) (w : World) (K : PySem.W.Frag) (mg : Str → Option Value) (base : Heap) : Prop := Pr P w K mg base (He.ga K "_law_taps") 1 ["_law_numbers_here", "_law_at", "_law_most"] (sp__law_taps K) []
def nm__law_taps : List Str := ["_law_numbers_here", "_law_at", "_law_most", "_law_size", "_law_taps_here", "_law_k", "_law_j", "_law_tap"]
theorem sc__law_taps : FnScope nm__law_taps ["_law_numbers_here", "_law_at", "_law_most"] (defScope s__law_taps) := ⟨rfl, rfl, rfl, by decide +kernel, rfl, by decide +kernel, by decide +kernel⟩
theorem ok__law_taps {P : Program} {w : World} {K : PySem.W.Frag} {mg : Str → Option Value} {base : Heap} (T : Tx K mg)  : Pr__law_taps P w K mg base := by
  refine pr_of (N := nm__law_taps) (k := 0) T.d__law_taps sc__law_taps (fun _ _ _ _ _ _ us hl => match us, hl with | [_, _, _], _ => rfl) len3 fun cdv A outer s H E hr => ⟨_, (pss_cons (ps_set (i := 3) sc__law_taps.nd rfl (Or.inl rfl) (pe_op op_add pe_int (pe_op op_mod (pe_callTy cl_int (by rfl) T.f_int bb_int (pa_cons (pe_ix (kIxL K rfl) (pv 0) (pv 1) (fun _ _ => rfl)) pa_nil)) (pv 2))))
      (pss_cons (ps_set (i := 4) sc__law_taps.nd rfl (Or.inl rfl) (pe_lst pa_nil))
      (pss_cons (ps_for PassesOwn.never rfl (pi_range1 rfl T.f_range (pa_cons (pe_op op_add pe_int (pe_op op_mod (pe_callTy cl_int (by rfl) T.f_int bb_int (pa_cons (pe_ix (kIxL K rfl) (pv 0) (pe_op op_add (pv 1) pe_int) (fun _ _ => rfl)) pa_nil)) pe_int)) pa_nil)) (pg_name (i := 5) sc__law_taps.nd rfl (Or.inr rfl)) (pss_one (ps_expr (pe_bm PySem.F.plainAttrs_list PySem.F.slot_list_append PySem.F.type_list_append mt_append (pv 4) (pa_cons (pe_lc (own := [("_law_j", 6)]) rfl sc__law_taps.nd (pi_range1 rfl T.f_range (pa_cons (pv 3) pa_nil)) (blkOk_by (own := [("_law_j", 6)]) (N := nm__law_taps) (sc := (defScope s__law_taps)) (by decide +kernel)) (fun _ _ _ _ _ => (pg_name (i := 6) sc__law_taps.nd rfl (Or.inl rfl))) (fun _ _ _ _ _ => pts_nil) (fun _ _ _ _ _ => (pe_op op_mod (pe_callTy cl_int (by rfl) T.f_int bb_int (pa_cons (pe_op op_fdiv (pe_ix (kIxL K rfl) (pv 0) (pe_op op_add (pe_op op_add (pv 1) pe_int) (pv 5)) (fun _ _ => rfl)) (pe_ix (kIxL K rfl) (pe_lst (pa_cons pe_int (pa_cons pe_int (pa_cons pe_int (pa_cons pe_int (pa_cons pe_int (pa_cons pe_int pa_nil))))))) (pv 6) (fun _ _ => rfl))) pa_nil)) pe_int))) pa_nil)))))
      (pss_cons (ps_if (pt_cmpR op_eq (pe_callB (kSum K rfl rfl) (by rfl) T.f_sum bb_sum (pa_cons (pe_lc (own := [("_law_tap", 7)]) rfl sc__law_taps.nd (kPiL K rfl (pv 4)) (blkOk_by (own := [("_law_tap", 7)]) (N := nm__law_taps) (sc := (defScope s__law_taps)) (by decide +kernel)) (fun _ _ _ _ _ => (pg_name (i := 7) sc__law_taps.nd rfl (Or.inl rfl))) (fun _ _ _ _ _ => pts_nil) (fun _ _ _ _ _ => (pe_callB (kSum K rfl rfl) (by rfl) T.f_sum bb_sum (pa_cons (pv 7) pa_nil)))) pa_nil)) pe_int (nomark _)) (pss_one (ps_asg pe_int (pg_sub (pe_ix (kIxL K rfl) (pv 4) pe_int (fun _ _ => rfl)) (pe_op op_mod (pe_callTy cl_int (by rfl) T.f_int bb_int (pa_cons (pe_ix (kIxL K rfl) (pv 0) (pe_op op_add (pv 1) pe_int) (fun _ _ => rfl)) pa_nil)) (pv 3)) set_list))) pss_nil)
      (pss_one (ps_ret (pv 4))))))), en3 (n := 5) rfl fun B l a k Q hp rt => ?_⟩
  obtain ⟨hl, rfl, h1, h2⟩ := hp
  have i0 := nums_at hl (i := 0) (by omega) (by omega)
  have i1 := nums_at hl (i := 0 + 1) (by omega) (by omega)
  have i6 := nums_at hl (i := 0 + 6) (by omega) (by omega)
  have m0 : 0 ≤ l.getD (0 : Int).toNat 0 % k ∧ l.getD (0 : Int).toNat 0 % k < k := ⟨Int.emod_nonneg _ (by omega), Int.emod_lt_of_pos _ (by omega)⟩
  obtain ⟨s, hs⟩ : ∃ s : Nat, (s : Int) = 1 + l.getD (0 : Int).toNat 0 % k := ⟨(1 + l.getD (0 : Int).toNat 0 % k).toNat, by omega⟩
  refine q_asg (x := (s : Int)) (Ev.to (by wtm_at "E") hs.symm) ?_
  have hs1 : 1 ≤ s ∧ s ≤ 6 := by omega
  refine q_asgL (R := rNA B) (xs := []) el_nil ?_
  obtain ⟨c, hc⟩ : ∃ c : Nat, (c : Int) = 1 + l.getD (0 + 1 : Int).toNat 0 % 4 := ⟨(1 + l.getD (0 + 1 : Int).toNat 0 % 4).toNat, by omega⟩
  have hc1 : 1 ≤ c ∧ c ≤ 4 := by omega
  refine q_forR1 (I := List (Addr × List Int)) (fun i x => x.length = i ∧ (∀ y, y ∈ x → y.2.length = s ∧ Bits y.2) ∧ (x.map (·.1)).Nodup) (fun i x => [sf (rLst rInt) l, sf rInt 0, .any, sf rInt (s : Int), G.sm (rNA B) x, .any, .any, .any]) (n := (c : Int)) (Ev.to (by wtm_at "E") hc.symm) (by omega) ⟨[], ⟨rfl, (fun y h => by cases h), List.nodup_nil⟩, by wtm_at "sub"⟩ (fun i x hi hx => ?_) (fun x hx => ?_)
  · obtain ⟨x1, x2, x3⟩ := hx
    have i2 := nums_at hl (i := 0 + 2 + (i : Int)) (by omega) (by omega)
    refine s_appN (ys := (List.range s).map fun j => l.getD (0 + 2 + (i : Int)).toNat 0 / 2 ^ j % 2) rfl (EvL.to (el_lcR (S := rInt) (k := (s : Int)) (f := fun j : Nat => l.getD (0 + 2 + (i : Int)).toNat 0 / 2 ^ j % 2) (by wtm_at "E") (by wtm_at "side") (by omega) (by omega) (fun j hj => ?_)) (by rw [Int.toNat_natCast])) (by omega) (fun q hq => wn_lp (x ++ [(q, (List.range s).map fun j => l.getD (0 + 2 + (i : Int)).toNat 0 / 2 ^ j % 2)]) ⟨by rw [List.length_append, x1]; rfl, fun y hy => ?_, ?_⟩ (by wtm_at "sub"))
    · have j1 := pow_at (m := j) (by omega)
      have j2 := pow_le (m := j) (by omega)
      have j3 : CDiv (l.getD (0 + 2 + (i : Int)).toNat 0) (2 ^ j) := ⟨j2.1, by omega⟩
      wtm_at "E"
    · rcases List.mem_append.mp hy with z | z
      · exact x2 y z
      · rw [List.mem_singleton.mp z]
        refine ⟨by rw [List.length_map, List.length_range], fun w hw => ?_⟩
        obtain ⟨j, _, rfl⟩ := List.mem_map.mp hw
        exact bit_mod _
    · rw [List.map_append]
      refine List.nodup_append.mpr ⟨x3, by simp, fun a ha b hb e => ?_⟩
      obtain ⟨y, hy, rfl⟩ := List.mem_map.mp ha
      have : b = q := by simpa using hb
      exact hq y hy (e.trans this)
  · obtain ⟨x1, x2, x3⟩ := hx
    rw [Int.toNat_natCast] at x1
    have hrow : ∀ p, p ∈ x.map (·.2) → p.length = s ∧ Bits p := fun p hp => by
      obtain ⟨y, hy, rfl⟩ := List.mem_map.mp hp
      exact x2 y hy
    refine q_if (b := decide ((x.map fun y => y.2.sum).sum = 0)) (lendT (i := 4) rfl (et_test (ev_eqI (ev_sum (EvL.ev (el_lc (R := rNA B) (xs := x) (f := fun y => y.2.sum) (ev_var rfl) tg_name (by wtm_at "side") (by omega) (fun y hy => ev_sum (ev_conv (ev_var rfl) (fun F v h => rNA_lst h)))))) ev_int))) (fun hz => ?_) (fun hz => ?_)
    · have m6 : 0 ≤ l.getD (0 + 6 : Int).toNat 0 % (s : Int) ∧ l.getD (0 + 6 : Int).toNat 0 % (s : Int) < (s : Int) := ⟨Int.emod_nonneg _ (by omega), Int.emod_lt_of_pos _ (by omega)⟩
      cases x with
      | nil => simp at x1; omega
      | cons y xs =>
        obtain ⟨q0, l0⟩ := y
        have hl0 := x2 (q0, l0) List.mem_cons_self
        dsimp only at hl0
        refine s_set0 (n := (l.getD (0 + 6 : Int).toNat 0 % (s : Int)).toNat) rfl x3 (by wtm_at "E") (by wtm_at "E") (ixN_D m6.1 (by rw [hl0.1]; exact m6.2)) ?_
        refine wn_fz (i := 4) rfl ?_
        refine s_ret (y := l0.set (l.getD (0 + 6 : Int).toNat 0 % (s : Int)).toNat 1 :: xs.map (·.2)) (ev_var rfl) rt ?_
        refine (gt_of (s := s) ⟨by rw [List.length_cons]; omega, by rw [List.length_cons, List.length_map]; rw [List.length_cons] at x1; omega⟩ hs1 (fun p hp => ?_) ?_).1
        · rcases List.mem_cons.mp hp with z | z
          · rw [z]; exact ⟨by rw [List.length_set]; exact hl0.1, bits_set hl0.2 _⟩
          · exact hrow p (List.mem_cons_of_mem _ z)
        · have a1 : 0 ≤ ((xs.map (·.2)).map List.sum).sum := sums_nn fun p hp => (hrow p (List.mem_cons_of_mem _ hp)).2
          have a2 : 1 ≤ (l0.set (l.getD (0 + 6 : Int).toNat 0 % (s : Int)).toNat 1).sum := bits_one (bits_set hl0.2 _) (j := (l.getD (0 + 6 : Int).toNat 0 % (s : Int)).toNat) (by rw [getD_set (by rw [hl0.1]; omega), if_pos rfl])
          rw [List.map_cons, List.sum_cons]; omega
    · have hz : ¬ (x.map fun y => y.2.sum).sum = 0 := by simpa using hz
      refine s_next ?_
      refine wn_fz (i := 4) rfl ?_
      refine s_ret (y := x.map (·.2)) (ev_conv (ev_var rfl) (fun F v h => rNA_rows h)) rt ?_
      have a1 : 0 ≤ ((x.map (·.2)).map List.sum).sum := sums_nn fun p hp => (hrow p hp).2
      have a2 : ((x.map (·.2)).map List.sum).sum = (x.map fun y => y.2.sum).sum := by rw [List.map_map]; rfl
      exact (gt_of (s := s) ⟨by rw [List.length_map]; omega, by rw [List.length_map]; omega⟩ hs1 hrow (by omega)).1
end NW
set_option maxHeartbeats 4000000
namespace NW
open PySem PySem.Spec PyProof.Rows L2 G MX
local macro_rules | `(tactic| wtm_at "nl") => `(tactic| first
  | with_reducible exact nl_Field_digits _ _
  | with_reducible exact nl_Field_element _ _
  | with_reducible exact nl_Field_plus _ _
  | with_reducible exact nl_Field_negative _ _
  | with_reducible exact nl_Field_minus _ _
  | with_reducible exact nl_Field_times _ _
  | with_reducible exact nl_Field_inverse _ _
  | with_reducible exact nl_LinearCode_words _ _
  | with_reducible exact nl_Encoder_advance _ _
  | with_reducible exact nl_Encoder__fed _ _
  | with_reducible exact nl_Encoder_word_for _ _
  | with_reducible exact nl_Encoder_linear _ _
  | with_reducible exact nl_Trellis_moves_from _ _
  | with_reducible exact nl_Trellis_costs_table _ _
  | with_reducible exact nl_Trellis_best_moves _ _
  | with_reducible exact nl_Summary_grown _ _
  | with_reducible exact nl_PathDecoder_restart _ _
  | with_reducible exact nl_PathDecoder_take _ _
  | with_reducible exact nl_PathDecoder_answer _ _)
local macro_rules | `(tactic| wtm_at "side") => `(tactic| first
  | assumption
  | exact rfl
  | exact atI_0 (by omega)
  | exact atI_L (by omega)
  | omega
  | exact trivial
  | exact fun _ h => h
  | exact List.mem_singleton.mpr rfl
  | wtm_at "nl"
  | exact Or.inr ⟨by omega, by omega⟩
  | exact Or.inl ⟨by omega, by omega⟩
  | (show (0 : Int) < _; omega)
  | exact ⟨by omega, by omega⟩
  | exact ⟨rfl, rfl⟩
  | exact MX.Bits.getD (by assumption) _
  | exact ⟨by assumption, by assumption⟩
  | exact ⟨by assumption, by assumption, by assumption⟩
  | exact ⟨by assumption, MX.Bits.getD (by assumption) _⟩
  | decide
  | (show (_ : Nat) ≤ 10000000; (simp only [List.length_cons, List.length_nil, List.length_append]; omega))
  | (show (_ : Nat) < 10000000; (simp only [List.length_cons, List.length_nil, List.length_append]; omega)))
local macro_rules | `(tactic| wtm_at "evop") => `(tactic| first
  | ((with_reducible refine' ev_opI0 _ _) <;> wtm_at "ev2")
  | ((with_reducible refine' ev_opB0 _ _) <;> wtm_at "ev2")
  | ((with_reducible refine' ev_opI _ _ _) <;> wtm_at "ev2")
  | ((with_reducible refine' ev_ixL (m := _) _ _ _) <;> wtm_at "ev2")
  | ((with_reducible show Ev _ _ (tOp (rIxL _) (tVar _) _) _ _); (refine' ev_ixM rfl _ _) <;> wtm_at "ev2")
  | ((with_reducible refine' ev_eqI _ _) <;> wtm_at "ev2")
  | ((with_reducible refine' ev_neI _ _) <;> wtm_at "ev2")
  | ((with_reducible refine' ev_isN (n := _) _) <;> wtm_at "ev2")
  | ((with_reducible refine' ev_notN (n := _) _) <;> wtm_at "ev2")
  | ((with_reducible refine' ev_fst (m := _) (n := _) _) <;> wtm_at "ev2")
  | ((with_reducible refine' ev_snd (m := _) (n := _) _) <;> wtm_at "ev2")
  | ((with_reducible refine' ev_tri1 _) <;> wtm_at "ev2")
  | ((with_reducible refine' ev_tri2 _) <;> wtm_at "ev2")
  | ((with_reducible refine' ev_ixT (m := _) _ _ _) <;> wtm_at "ev2")
  | ((with_reducible refine' ev_ixS (m := _) _ _ _) <;> wtm_at "ev2")
  | ((with_reducible refine' EvL.ev (m := _) _) <;> wtm_at "ev2"))
local macro_rules | `(tactic| wtm_at "evfld") => `(tactic| first
  | ((with_reducible refine' ev_Field_prime _) <;> wtm_at "ev2")
  | ((with_reducible refine' ev_Field_modulus _) <;> wtm_at "ev2")
  | ((with_reducible refine' ev_Field_degree _) <;> wtm_at "ev2")
  | ((with_reducible refine' ev_Field_order _) <;> wtm_at "ev2")
  | ((with_reducible refine' ev_LinearCode_field _) <;> wtm_at "ev2")
  | ((with_reducible refine' ev_LinearCode_length _) <;> wtm_at "ev2")
  | ((with_reducible refine' ev_LinearCode_dimension _) <;> wtm_at "ev2")
  | ((with_reducible refine' ev_LinearCode_rows _) <;> wtm_at "ev2")
  | ((with_reducible refine' ev_LinearCode_pivots _) <;> wtm_at "ev2")
  | ((with_reducible refine' ev_LinearCode_checks _) <;> wtm_at "ev2")
  | ((with_reducible refine' ev_LinearCode_size _) <;> wtm_at "ev2")
  | ((with_reducible refine' ev_Encoder_taps _) <;> wtm_at "ev2")
  | ((with_reducible refine' ev_Encoder_memory _) <;> wtm_at "ev2")
  | ((with_reducible refine' ev_Encoder_outputs _) <;> wtm_at "ev2")
  | ((with_reducible refine' ev_Encoder_state_count _) <;> wtm_at "ev2")
  | ((with_reducible refine' ev_Trellis_steps _) <;> wtm_at "ev2")
  | ((with_reducible refine' ev_Trellis_message_length _) <;> wtm_at "ev2")
  | ((with_reducible refine' ev_Trellis_table _) <;> wtm_at "ev2")
  | ((with_reducible refine' ev_Summary_cost _) <;> wtm_at "ev2")
  | ((with_reducible refine' ev_Summary_count_of _) <;> wtm_at "ev2")
  | ((with_reducible refine' ev_Summary_first _) <;> wtm_at "ev2")
  | ((with_reducible refine' ev_Summary_start_of _) <;> wtm_at "ev2")
  | ((with_reducible refine' ev_PathDecoder_encoder _) <;> wtm_at "ev2")
  | ((with_reducible refine' ev_PathDecoder_table _) <;> wtm_at "ev2")
  | ((with_reducible refine' ev_PathDecoder_steps _) <;> wtm_at "ev2")
  | ((with_reducible refine' ev_PathDecoder_summaries _) <;> wtm_at "ev2"))
local macro_rules | `(tactic| wtm_at "evcb") => `(tactic| first
  | ((with_reducible show Ev _ _ (tCB (rLen _) (tCons (tVar _) tNil)) _ _); exact ev_lenM rfl)
  | ((with_reducible refine' ev_lenL _) <;> wtm_at "ev2")
  | ((with_reducible refine' ev_lenT _) <;> wtm_at "ev2")
  | ((with_reducible refine' ev_lenS _) <;> wtm_at "ev2")
  | ((with_reducible refine' ev_int1 _) <;> wtm_at "ev2")
  | ((with_reducible refine' ev_intB _) <;> wtm_at "ev2")
  | ((with_reducible refine' ev_abs _) <;> wtm_at "ev2")
  | ((with_reducible refine' ev_min2 _ _) <;> wtm_at "ev2")
  | ((with_reducible refine' ev_max2 _ _) <;> wtm_at "ev2")
  | ((with_reducible refine' ev_minLL _ _) <;> wtm_at "ev2")
  | ((with_reducible refine' ev_sum _) <;> wtm_at "ev2")
  | ((with_reducible refine' ev_tupL (m := _) _) <;> wtm_at "ev2")
  | ((with_reducible refine' EvL.ev (m := _) _) <;> wtm_at "ev2"))
local macro_rules | `(tactic| wtm_at "evcall") => `(tactic| first
  | ((with_reducible refine' cd1 _ _) <;> wtm_at "ev2")
  | ((with_reducible refine' cd2 _ _ _) <;> wtm_at "ev2")
  | ((with_reducible refine' cd3 _ _ _ _) <;> wtm_at "ev2")
  | ((with_reducible refine' cd4 _ _ _ _ _) <;> wtm_at "ev2")
  | ((with_reducible refine' cd5 _ _ _ _ _ _) <;> wtm_at "ev2"))
local macro_rules | `(tactic| wtm_at "evmeth") => `(tactic| first
  | ((with_reducible refine' md1 _ _ _) <;> wtm_at "ev2")
  | ((with_reducible refine' md2 _ _ _ _) <;> wtm_at "ev2")
  | ((with_reducible refine' md3 _ _ _ _ _) <;> wtm_at "ev2")
  | ((with_reducible refine' md4 _ _ _ _ _ _) <;> wtm_at "ev2"))
local macro_rules | `(tactic| wtm_at "evx") => `(tactic| first
  | ((with_reducible show Ev _ _ (tVar _) _ _); exact ev_var rfl)
  | ((with_reducible show Ev _ _ (tC _) _ _); first | exact ev_int | exact ev_bl | exact ev_none | exact ev_non)
  | ((with_reducible show Ev _ _ (tOp _ _ _) _ _); wtm_at "evop")
  | ((with_reducible show Ev _ _ (tF _ _ _) _ _); wtm_at "evfld")
  | ((with_reducible show Ev _ _ (tCB _ _) _ _); wtm_at "evcb")
  | ((with_reducible show Ev _ _ (tCall _ _ _ _) _ _); wtm_at "evcall")
  | ((with_reducible show Ev _ _ (tMeth _ _ _ _ _ _ _) _ _); wtm_at "evmeth")
  | ((with_reducible show Ev _ _ (tTup _) _ _); first | ((with_reducible refine' ev_pair (m := _) (n := _) _ _) <;> wtm_at "ev2") | ((with_reducible refine' ev_tri (m := _) (n := _) (k := _) _ _ _) <;> wtm_at "ev2"))
  | ((with_reducible refine' ev_neg _) <;> wtm_at "ev2")
  | ((with_reducible refine' ev_notV _) <;> wtm_at "ev2")
  | ((with_reducible show Ev _ _ (tLc _ _ _ _ _) _ _); (with_reducible refine' EvL.ev (m := _) _) <;> wtm_at "ev2")
  | ((with_reducible refine' EvL.ev (m := _) _) <;> wtm_at "ev2"))
local macro_rules | `(tactic| wtm_at "evt") => `(tactic| first
  | ((with_reducible refine' et_test _) <;> wtm_at "ev2")
  | ((with_reducible refine' et_B _) <;> wtm_at "ev2")
  | ((with_reducible refine' et_not _) <;> wtm_at "ev2"))
local macro_rules | `(tactic| wtm_at "evl") => `(tactic| first
  | exact el_nil
  | ((with_reducible refine' el_rep (m := _) _ _ _ _) <;> wtm_at "ev2")
  | ((with_reducible refine' el_cat (m := _) _ _ _) <;> wtm_at "ev2")
  | ((with_reducible refine' el_slice (m := _) _ _ _) <;> wtm_at "ev2")
  | ((with_reducible show EvL _ _ (tSl _ (tVar _) _ _) _ _); (refine' el_sliceM rfl _ _) <;> wtm_at "ev2")
  | ((with_reducible refine' el_listL (m := _) _) <;> wtm_at "ev2")
  | ((with_reducible refine' el_disp (m := _) _ _) <;> wtm_at "ev2")
  | ((with_reducible refine' el_sortLL _) <;> wtm_at "ev2")
  | ((with_reducible refine' el_lc (m := _) (n := _) _ (tg_name (m := _)) _ _ _) <;> wtm_at "ev2")
  | ((with_reducible refine' el_lcR (n := _) _ _ _ _ _) <;> wtm_at "ev2")
  | ((with_reducible refine' el_lc (m := _) (n := _) _ (tg_pair (m := _) (n := _)) _ _ _) <;> wtm_at "ev2")
  | ((with_reducible refine' el_lc (m := _) (n := _) _ (tg_tri (m := _) (n := _) (o := _)) _ _ _) <;> wtm_at "ev2"))
local macro_rules | `(tactic| wtm_at "ev") => `(tactic| first
  | ((with_reducible show Ev _ _ _ _ _); first | ((with_reducible refine' et_chain _ _ _) <;> wtm_at "ev2") | wtm_at "evx")
  | ((with_reducible show EvT _ _ _ _); wtm_at "evt")
  | ((with_reducible show EvL _ _ _ _ _); wtm_at "evl")
  | exact ea_nil
  | exact eh_nil
  | exact eo_none
  | ((with_reducible refine' ea_cons (m := _) _ _) <;> wtm_at "ev2")
  | ((with_reducible refine' eh_cons (m := _) _ _) <;> wtm_at "ev2")
  | ((with_reducible refine' eo_some _) <;> wtm_at "ev2"))
local macro_rules | `(tactic| wtm_at "no") => `(tactic| ((fail_if_success (with_reducible show Ev _ _ _ _ _)); (fail_if_success (with_reducible show EvL _ _ _ _ _)); (fail_if_success (with_reducible show EvT _ _ _ _)); (fail_if_success (with_reducible show EvA _ _ _ _)); (fail_if_success (with_reducible show EvH _ _ _ _ _)); (fail_if_success (with_reducible show EvO _ _ _ _))))
local macro_rules | `(tactic| wtm_at "ev2") => `(tactic| first | wtm_at "ev" | (wtm_at "no"; first | infer_instance | (intro x hx; wtm_at "ev") | skip))
local macro_rules | `(tactic| wtm_at "E") => `(tactic| ((wtm_at "ev") <;> (try infer_instance)) <;> (try (refine Iff.mp Iff.rfl ?_; wtm_at "side")))
local macro_rules | `(tactic| wtm_at "sub") => `(tactic| repeat' first | exact Sub.nil | apply Sub.any | apply Sub.same | (apply Sub.fz) | (apply Sub.ml))
/-! ### data that the law compares -/
inductive Dt where
  | non
  | int (i : Int)
  | lst (l : List Dt)
  | tup (l : List Dt)
inductive RD (F : Hp) : Nat → V → Dt → Prop
  | non (n : Nat) : RD F (n + 1) .non .non
  | int (n : Nat) (i : Int) : RD F (n + 1) (.int i) (.int i)
  | lst (n : Nat) (a : Addr) (vs : List V) (xs : List Dt) : F a = some (.lst vs) → xs.length ≤ 100000 → vs.length = xs.length → (∀ (i : Nat) (v : V) (x : Dt), vs[i]? = some v → xs[i]? = some x → RD F n v x) → RD F (n + 1) (.ref a) (.lst xs)
  | tup (n : Nat) (a : Addr) (vs : List V) (xs : List Dt) : F a = some (.tup vs) → xs.length ≤ 100000 → vs.length = xs.length → (∀ (i : Nat) (v : V) (x : Dt), vs[i]? = some v → xs[i]? = some x → RD F n v x) → RD F (n + 1) (.ref a) (.tup xs)
def rDt (n : Nat) : Rel Dt := fun F v d => RD F n v d
theorem rd_mono {F F' : Hp} (s : Same F F') {n : Nat} {v : V} {d : Dt} (h : RD F n v d) : RD F' n v d := by
  induction h with
  | non n => exact .non n
  | int n i => exact .int n i
  | lst n a vs xs e z l _ ih => exact .lst n a vs xs (s _ _ e) z l ih
  | tup n a vs xs e z l _ ih => exact .tup n a vs xs (s _ _ e) z l ih
instance {n : Nat} : Mn (rDt n) := ⟨fun s h => rd_mono s h⟩
theorem rd_0 (F : Hp) (v : V) (d : Dt) : ¬ rDt 0 F v d := fun h => by cases h
def tyN : Dt → String
  | .non => "NoneType"
  | .int _ => "int"
  | .lst _ => "list"
  | .tup _ => "tuple"
theorem rd_ty {K : PySem.W.Frag} {F H : Hp} (s : Same F H) {n : Nat} {v : V} {d : Dt} (h : RD F n v d) : TyX K H v (.type (tyN d)) := by
  cases h with
  | non n => exact .base .non
  | int n i => exact .base (.int i)
  | lst n a vs xs e z l _ => exact .base (.lst (s _ _ e))
  | tup n a vs xs e z l _ => exact .base (.tup (s _ _ e))
def Dt.isN : Dt → Bool
  | .non => true
  | _ => false
theorem rd_lst {n : Nat} {F : Hp} {v : V} {xs : List Dt} (h : rDt (n + 1) F v (.lst xs)) : rLst (rDt n) F v xs := by
  cases h with
  | lst n a vs xs e z l k => exact ⟨a, vs, rfl, e, l, k⟩
theorem rd_tup {n : Nat} {F : Hp} {v : V} {xs : List Dt} (h : rDt (n + 1) F v (.tup xs)) : rTup (rDt n) F v xs := by
  cases h with
  | tup n a vs xs e z l k => exact ⟨a, vs, rfl, e, l, k⟩
theorem rd_lstZ {n : Nat} {F : Hp} {v : V} {xs : List Dt} (h : rDt n F v (.lst xs)) : xs.length ≤ 100000 := by
  cases h with
  | lst n a vs xs e z l k => exact z
theorem rd_tupZ {n : Nat} {F : Hp} {v : V} {xs : List Dt} (h : rDt n F v (.tup xs)) : xs.length ≤ 100000 := by
  cases h with
  | tup n a vs xs e z l k => exact z
theorem wn_know {B : Wd} {Γ : List Sl} {N : SN} {i : Nat} {s : Fz} {C : Prop} (hi : Γ[i]? = some (.fz s)) (h : ∀ F v, s.ok F v → C) (k : C → Wn B Γ N) : Wn B Γ N := fun F H σ e => by
  obtain ⟨o, _, v, _, r⟩ := e.ok i _ hi
  exact k (h F v r) F H σ e
theorem rd_int {n : Nat} {F : Hp} {v : V} {i : Int} (h : rDt n F v (.int i)) : rInt F v i := by
  cases h with
  | int n i => rfl
section
variable {B : Wd} {Γ : List Sl} {K : PySem.W.Frag} {te : TE} {n : Nat} {d : Dt}
theorem ev_isi {nm : String} {b : Bool} (h : Ev B Γ te (rDt n) d) (hb : kitB (tyN d) nm = some b) : Ev B Γ (tCB (rIsi K) (tCons te (tCons (tC (.ty nm)) tNil))) rBl b := fun F H σ e Q q =>
  h F H σ e _ fun F1 H1 v e1 r1 => ⟨v, .ty nm, _, _, b, rfl, .ty nm, rd_ty e1.fh r1, kit_ty hb, q F1 H1 _ e1 rfl⟩
theorem ev_isND (h : Ev B Γ te (rDt n) d) : Ev B Γ (tOp rIsN te (tC .non)) rBl d.isN := fun F H σ e Q q => h F H σ e _ fun F1 H1 v e1 r1 => by
  refine ⟨rfl, ?_⟩
  cases (show RD F1 n v d from r1) with
  | non n => exact q F1 H1 _ e1 rfl
  | int n i => exact q F1 H1 _ e1 rfl
  | lst n a vs xs _ _ _ _ => exact q F1 H1 _ e1 rfl
  | tup n a vs xs _ _ _ _ => exact q F1 H1 _ e1 rfl
end
abbrev sp_same (K : PySem.W.Frag) (n : Nat) : Sp := spD2 (rDt n) (rDt n) (fun a b => a = b) rBl (fun _ _ => true)
def nm__law_same : List Str := ["_law_actual", "_law_due", "_law_k"]
theorem sc__law_same : FnScope nm__law_same ["_law_actual", "_law_due"] (defScope s__law_same) := ⟨rfl, rfl, rfl, by decide +kernel, rfl, by decide +kernel, by decide +kernel⟩
theorem ok_same0 {P : Program} {w : World} {K : PySem.W.Frag} {mg : Str → Option Value} {base : Heap} (T : Tx K mg) : Pr P w K mg base (He.ga K "_law_same") 1 ["_law_actual", "_law_due"] (sp_same K 0) [] := by
  refine pr_of (N := nm__law_same) (k := 0) T.d__law_same sc__law_same (fun _ _ _ _ _ _ us hl => match us, hl with | [_, _], _ => rfl) len2 fun cdv A outer s H E hr => ⟨_, pss_never, fun vs Q h => ?_⟩
  obtain ⟨F, v1, v2, x1, x2, _, _, r1, _⟩ := h
  exact absurd r1 (rd_0 F v1 x1)
theorem ok_sameS {P : Program} {w : World} {K : PySem.W.Frag} {mg : Str → Option Value} {base : Heap} (T : Tx K mg) {k n : Nat} (c_law_same : Pr P w K mg base (He.ga K "_law_same") (k + 1) ["_law_actual", "_law_due"] (sp_same K n) []) : Pr P w K mg base (He.ga K "_law_same") (k + 2) ["_law_actual", "_law_due"] (sp_same K (n + 1)) [] := by
  refine pr_of (N := nm__law_same) (k := k + 1) T.d__law_same sc__law_same (fun _ _ _ _ _ _ us hl => match us, hl with | [_, _], _ => rfl) len2 fun cdv A outer s H E hr => ⟨_, (pss_cons (ps_if (pt_cmpR op_isN1 (pv 1) pe_non (nomark _)) (pss_one (ps_ret (pe_cmpR op_isN1 (pv 0) pe_non (nomark _)))) pss_nil)
      (pss_cons (ps_if (pt_val (pe_callB (kIsi K rfl) (by rfl) T.f_isinstance bb_isinstance (pa_cons (pv 1) (pa_cons (pe_bltn (by rfl) T.f_list bb_list (v := .ty "list") rfl) pa_nil)))) (pss_cons (ps_if (PW.pt (pw_or (pt_not (pt_val (pe_callB (kIsi K rfl) (by rfl) T.f_isinstance bb_isinstance (pa_cons (pv 0) (pa_cons (pe_bltn (by rfl) T.f_list bb_list (v := .ty "list") rfl) pa_nil))))) (pw_or1 (pt_cmpR op_ne (pe_callB (kLen K rfl) (by rfl) T.f_len boot_len (pa_cons (pv 0) pa_nil)) (pe_callB (kLen K rfl) (by rfl) T.f_len boot_len (pa_cons (pv 1) pa_nil)) (nomark _))))) (pss_one (ps_ret pe_bl)) pss_nil)
      (pss_cons (ps_for PassesOwn.never rfl (pi_range1 rfl T.f_range (pa_cons (pe_callB (kLen K rfl) (by rfl) T.f_len boot_len (pa_cons (pv 1) pa_nil)) pa_nil)) (pg_name (i := 2) sc__law_same.nd rfl (Or.inl rfl)) (pss_one (ps_if (pt_not (pt_val (pe_cal c_law_same T.g__law_same hr (pa_cons (pe_ix (kIxL K rfl) (pv 0) (pv 2) (fun _ _ => rfl)) (pa_cons (pe_ix (kIxL K rfl) (pv 1) (pv 2) (fun _ _ => rfl)) pa_nil)) (Nat.le_refl _)))) (pss_one (ps_ret pe_bl)) pss_nil)))
      (pss_one (ps_ret pe_bl)))) pss_nil)
      (pss_cons (ps_if (pt_val (pe_callB (kIsi K rfl) (by rfl) T.f_isinstance bb_isinstance (pa_cons (pv 1) (pa_cons (pe_bltn (by rfl) T.f_tuple bb_tuple (v := .ty "tuple") rfl) pa_nil)))) (pss_cons (ps_if (PW.pt (pw_or (pt_not (pt_val (pe_callB (kIsi K rfl) (by rfl) T.f_isinstance bb_isinstance (pa_cons (pv 0) (pa_cons (pe_bltn (by rfl) T.f_tuple bb_tuple (v := .ty "tuple") rfl) pa_nil))))) (pw_or1 (pt_cmpR op_ne (pe_callB (kLen K rfl) (by rfl) T.f_len boot_len (pa_cons (pv 0) pa_nil)) (pe_callB (kLen K rfl) (by rfl) T.f_len boot_len (pa_cons (pv 1) pa_nil)) (nomark _))))) (pss_one (ps_ret pe_bl)) pss_nil)
      (pss_cons (ps_for PassesOwn.never rfl (pi_range1 rfl T.f_range (pa_cons (pe_callB (kLen K rfl) (by rfl) T.f_len boot_len (pa_cons (pv 1) pa_nil)) pa_nil)) (pg_name (i := 2) sc__law_same.nd rfl (Or.inl rfl)) (pss_one (ps_if (pt_not (pt_val (pe_cal c_law_same T.g__law_same hr (pa_cons (pe_ix (kIxT K rfl) (pv 0) (pv 2) (fun _ _ => rfl)) (pa_cons (pe_ix (kIxT K rfl) (pv 1) (pv 2) (fun _ _ => rfl)) pa_nil)) (Nat.le_refl _)))) (pss_one (ps_ret pe_bl)) pss_nil)))
      (pss_one (ps_ret pe_bl)))) pss_nil)
      (pss_one (ps_ret (pe_and (pe_callB (kIsi K rfl) (by rfl) T.f_isinstance bb_isinstance (pa_cons (pv 0) (pa_cons (pe_bltn (by rfl) T.f_int bb_int (v := .ty "int") rfl) pa_nil))) (pe_and (pe_not (pe_callB (kIsi K rfl) (by rfl) T.f_isinstance bb_isinstance (pa_cons (pv 0) (pa_cons (pe_bltn (by rfl) T.f_bool bb_bool (v := .ty "bool") rfl) pa_nil)))) (pe_one (pe_cmpR op_eq (pv 0) (pv 1) (nomark _)))))))))), en2 (n := 1) rfl fun B x y Q hp rt => ?_⟩
  subst hp
  cases x with
  | non =>
    refine q_when (b := true) (et_test (ev_isND (d := .non) (ev_var rfl))) (fun _ => s_ret (ev_isND (d := .non) (ev_var rfl)) rt rfl) (fun h => by cases h)
  | int i =>
    refine q_no (et_test (ev_isND (d := .int i) (ev_var rfl))) rfl ?_
    refine q_no (et_test (ev_isi (b := false) (ev_var rfl) (show kitB "int" "list" = some false by decide +kernel))) rfl ?_
    refine q_no (et_test (ev_isi (b := false) (ev_var rfl) (show kitB "int" "tuple" = some false by decide +kernel))) rfl ?_
    refine s_ret (y := true && (!false && decide (i = i))) (ev_andV (ev_isi (ev_var rfl) (show kitB "int" "int" = some true by decide +kernel)) (fun _ => ev_andV (ev_notV (ev_isi (ev_var rfl) (show kitB "int" "bool" = some false by decide +kernel))) (fun _ => ev_eqI (ev_conv (ev_var rfl) fun _ _ h => rd_int h) (ev_conv (ev_var rfl) fun _ _ h => rd_int h)))) rt (by simp)
  | lst xs =>
    refine wn_know (i := 0) rfl (fun _ _ h => rd_lstZ h) fun hz => ?_
    have hat : ∀ k : Nat, (k : Int) < xs.length → atI xs (k : Int) = some (xs.getD k .non) := fun k hk => (atI_D .non (by omega) hk).trans (by rw [Int.toNat_natCast])
    have cv : ∀ F v, rDt (n + 1) F v (.lst xs) → rLst (rDt n) F v xs := fun _ _ h => rd_lst h
    refine q_no (et_test (ev_isND (d := .lst xs) (ev_var rfl))) rfl ?_
    refine q_when (et_test (ev_isi (b := true) (ev_var rfl) (show kitB "list" "list" = some true by decide +kernel))) (fun _ => ?_) (fun h => by cases h)
    refine q_no (et_or (et_not (et_test (ev_isi (b := true) (ev_var rfl) (show kitB "list" "list" = some true by decide +kernel)))) (fun _ => et_test (ev_neI (ev_lenL (ev_conv (ev_var rfl) cv)) (ev_lenL (ev_conv (ev_var rfl) cv))))) (by simp) ?_
    refine q_forR1 (I := Unit) (fun i _ => True) (fun i _ => [sf (rDt (n + 1)) (.lst xs), sf (rDt (n + 1)) (.lst xs), .any]) (n := (xs.length : Int)) (ev_lenL (ev_conv (ev_var rfl) cv)) ?_ ⟨(), trivial, by wtm_at "sub"⟩ (fun i _ hi _ => ?_) (fun _ _ => s_ret ev_bl rt rfl)
    · omega
    · have i1 := hat i hi
      exact s_no (et_not (et_test (cd2 (ev_ixL (ev_conv (ev_var rfl) cv) (ev_var rfl) i1) (ev_ixL (ev_conv (ev_var rfl) cv) (ev_var rfl) i1) rfl))) rfl (wn_lp () trivial (by wtm_at "sub"))
  | tup xs =>
    refine wn_know (i := 0) rfl (fun _ _ h => rd_tupZ h) fun hz => ?_
    have hat : ∀ k : Nat, (k : Int) < xs.length → atI xs (k : Int) = some (xs.getD k .non) := fun k hk => (atI_D .non (by omega) hk).trans (by rw [Int.toNat_natCast])
    have cv : ∀ F v, rDt (n + 1) F v (.tup xs) → rTup (rDt n) F v xs := fun _ _ h => rd_tup h
    refine q_no (et_test (ev_isND (d := .tup xs) (ev_var rfl))) rfl ?_
    refine q_no (et_test (ev_isi (b := false) (ev_var rfl) (show kitB "tuple" "list" = some false by decide +kernel))) rfl ?_
    refine q_when (et_test (ev_isi (b := true) (ev_var rfl) (show kitB "tuple" "tuple" = some true by decide +kernel))) (fun _ => ?_) (fun h => by cases h)
    refine q_no (et_or (et_not (et_test (ev_isi (b := true) (ev_var rfl) (show kitB "tuple" "tuple" = some true by decide +kernel)))) (fun _ => et_test (ev_neI (ev_lenT (ev_conv (ev_var rfl) cv)) (ev_lenT (ev_conv (ev_var rfl) cv))))) (by simp) ?_
    refine q_forR1 (I := Unit) (fun i _ => True) (fun i _ => [sf (rDt (n + 1)) (.tup xs), sf (rDt (n + 1)) (.tup xs), .any]) (n := (xs.length : Int)) (ev_lenT (ev_conv (ev_var rfl) cv)) ?_ ⟨(), trivial, by wtm_at "sub"⟩ (fun i _ hi _ => ?_) (fun _ _ => s_ret ev_bl rt rfl)
    · omega
    · have i1 := hat i hi
      exact s_no (et_not (et_test (cd2 (ev_ixT (ev_conv (ev_var rfl) cv) (ev_var rfl) i1) (ev_ixT (ev_conv (ev_var rfl) cv) (ev_var rfl) i1) rfl))) rfl (wn_lp () trivial (by wtm_at "sub"))
abbrev sp__law_same (K : PySem.W.Frag) : Sp := sp_same K 5
abbrev Pr__law_same (P : Program) (w : World) (K : PySem.W.Frag) (mg : Str → Option Value) (base : Heap) : Prop := Pr P w K mg base (He.ga K "_law_same") 6 ["_law_actual", "_law_due"] (sp__law_same K) []
theorem ok__law_same {P : Program} {w : World} {K : PySem.W.Frag} {mg : Str → Option Value} {base : Heap} (T : Tx K mg) : Pr__law_same P w K mg base := ok_sameS T (ok_sameS T (ok_sameS T (ok_sameS T (ok_sameS T (ok_same0 T)))))
end NW
set_option maxHeartbeats 4000000
namespace NW
open PySem PySem.Spec PyProof.Rows L2 G MX
local macro_rules | `(tactic| wtm_at "nl") => `(tactic| first
  | with_reducible exact nl_Field_digits _ _
  | with_reducible exact nl_Field_element _ _
  | with_reducible exact nl_Field_plus _ _
  | with_reducible exact nl_Field_negative _ _
  | with_reducible exact nl_Field_minus _ _
  | with_reducible exact nl_Field_times _ _
  | with_reducible exact nl_Field_inverse _ _
  | with_reducible exact nl_LinearCode_words _ _
  | with_reducible exact nl_Encoder_advance _ _
  | with_reducible exact nl_Encoder__fed _ _
  | with_reducible exact nl_Encoder_word_for _ _
  | with_reducible exact nl_Encoder_linear _ _
  | with_reducible exact nl_Trellis_moves_from _ _
  | with_reducible exact nl_Trellis_costs_table _ _
  | with_reducible exact nl_Trellis_best_moves _ _
  | with_reducible exact nl_Summary_grown _ _
  | with_reducible exact nl_PathDecoder_restart _ _
  | with_reducible exact nl_PathDecoder_take _ _
  | with_reducible exact nl_PathDecoder_answer _ _)
local macro_rules | `(tactic| wtm_at "side") => `(tactic| first
  | assumption
  | exact rfl
  | exact atI_0 (by omega)
  | exact atI_L (by omega)
  | omega
  | exact trivial
  | exact fun _ h => h
  | exact List.mem_singleton.mpr rfl
  | wtm_at "nl"
  | exact Or.inr ⟨by omega, by omega⟩
  | exact Or.inl ⟨by omega, by omega⟩
  | (show (0 : Int) < _; omega)
  | exact ⟨by omega, by omega⟩
  | exact ⟨rfl, rfl⟩
  | exact MX.Bits.getD (by assumption) _
  | exact ⟨by assumption, by assumption⟩
  | exact ⟨by assumption, by assumption, by assumption⟩
  | exact ⟨by assumption, MX.Bits.getD (by assumption) _⟩
  | decide
  | (show (_ : Nat) ≤ 10000000; (simp only [List.length_cons, List.length_nil, List.length_append]; omega))
  | (show (_ : Nat) < 10000000; (simp only [List.length_cons, List.length_nil, List.length_append]; omega)))
local macro_rules | `(tactic| wtm_at "evop") => `(tactic| first
  | ((with_reducible refine' ev_opI0 _ _) <;> wtm_at "ev2")
  | ((with_reducible refine' ev_opB0 _ _) <;> wtm_at "ev2")
  | ((with_reducible refine' ev_opI _ _ _) <;> wtm_at "ev2")
  | ((with_reducible refine' ev_ixL (m := _) _ _ _) <;> wtm_at "ev2")
  | ((with_reducible show Ev _ _ (tOp (rIxL _) (tVar _) _) _ _); (refine' ev_ixM rfl _ _) <;> wtm_at "ev2")
  | ((with_reducible refine' ev_eqI _ _) <;> wtm_at "ev2")
  | ((with_reducible refine' ev_neI _ _) <;> wtm_at "ev2")
  | ((with_reducible refine' ev_isN (n := _) _) <;> wtm_at "ev2")
  | ((with_reducible refine' ev_notN (n := _) _) <;> wtm_at "ev2")
  | ((with_reducible refine' ev_fst (m := _) (n := _) _) <;> wtm_at "ev2")
  | ((with_reducible refine' ev_snd (m := _) (n := _) _) <;> wtm_at "ev2")
  | ((with_reducible refine' ev_tri1 _) <;> wtm_at "ev2")
  | ((with_reducible refine' ev_tri2 _) <;> wtm_at "ev2")
  | ((with_reducible refine' ev_ixT (m := _) _ _ _) <;> wtm_at "ev2")
  | ((with_reducible refine' ev_ixS (m := _) _ _ _) <;> wtm_at "ev2")
  | ((with_reducible refine' EvL.ev (m := _) _) <;> wtm_at "ev2"))
local macro_rules | `(tactic| wtm_at "evfld") => `(tactic| first
  | ((with_reducible refine' ev_Field_prime _) <;> wtm_at "ev2")
  | ((with_reducible refine' ev_Field_modulus _) <;> wtm_at "ev2")
  | ((with_reducible refine' ev_Field_degree _) <;> wtm_at "ev2")
  | ((with_reducible refine' ev_Field_order _) <;> wtm_at "ev2")
  | ((with_reducible refine' ev_LinearCode_field _) <;> wtm_at "ev2")
  | ((with_reducible refine' ev_LinearCode_length _) <;> wtm_at "ev2")
  | ((with_reducible refine' ev_LinearCode_dimension _) <;> wtm_at "ev2")
  | ((with_reducible refine' ev_LinearCode_rows _) <;> wtm_at "ev2")
  | ((with_reducible refine' ev_LinearCode_pivots _) <;> wtm_at "ev2")
  | ((with_reducible refine' ev_LinearCode_checks _) <;> wtm_at "ev2")
  | ((with_reducible refine' ev_LinearCode_size _) <;> wtm_at "ev2")
  | ((with_reducible refine' ev_Encoder_taps _) <;> wtm_at "ev2")
  | ((with_reducible refine' ev_Encoder_memory _) <;> wtm_at "ev2")
  | ((with_reducible refine' ev_Encoder_outputs _) <;> wtm_at "ev2")
  | ((with_reducible refine' ev_Encoder_state_count _) <;> wtm_at "ev2")
  | ((with_reducible refine' ev_Trellis_steps _) <;> wtm_at "ev2")
  | ((with_reducible refine' ev_Trellis_message_length _) <;> wtm_at "ev2")
  | ((with_reducible refine' ev_Trellis_table _) <;> wtm_at "ev2")
  | ((with_reducible refine' ev_Summary_cost _) <;> wtm_at "ev2")
  | ((with_reducible refine' ev_Summary_count_of _) <;> wtm_at "ev2")
  | ((with_reducible refine' ev_Summary_first _) <;> wtm_at "ev2")
  | ((with_reducible refine' ev_Summary_start_of _) <;> wtm_at "ev2")
  | ((with_reducible refine' ev_PathDecoder_encoder _) <;> wtm_at "ev2")
  | ((with_reducible refine' ev_PathDecoder_table _) <;> wtm_at "ev2")
  | ((with_reducible refine' ev_PathDecoder_steps _) <;> wtm_at "ev2")
  | ((with_reducible refine' ev_PathDecoder_summaries _) <;> wtm_at "ev2"))
local macro_rules | `(tactic| wtm_at "evcb") => `(tactic| first
  | ((with_reducible show Ev _ _ (tCB (rLen _) (tCons (tVar _) tNil)) _ _); exact ev_lenM rfl)
  | ((with_reducible refine' ev_lenL _) <;> wtm_at "ev2")
  | ((with_reducible refine' ev_lenT _) <;> wtm_at "ev2")
  | ((with_reducible refine' ev_lenS _) <;> wtm_at "ev2")
  | ((with_reducible refine' ev_int1 _) <;> wtm_at "ev2")
  | ((with_reducible refine' ev_intB _) <;> wtm_at "ev2")
  | ((with_reducible refine' ev_abs _) <;> wtm_at "ev2")
  | ((with_reducible refine' ev_min2 _ _) <;> wtm_at "ev2")
  | ((with_reducible refine' ev_max2 _ _) <;> wtm_at "ev2")
  | ((with_reducible refine' ev_minLL _ _) <;> wtm_at "ev2")
  | ((with_reducible refine' ev_sum _) <;> wtm_at "ev2")
  | ((with_reducible refine' ev_tupL (m := _) _) <;> wtm_at "ev2")
  | ((with_reducible refine' EvL.ev (m := _) _) <;> wtm_at "ev2"))
local macro_rules | `(tactic| wtm_at "evcall") => `(tactic| first
  | ((with_reducible refine' cd1 _ _) <;> wtm_at "ev2")
  | ((with_reducible refine' cd2 _ _ _) <;> wtm_at "ev2")
  | ((with_reducible refine' cd3 _ _ _ _) <;> wtm_at "ev2")
  | ((with_reducible refine' cd4 _ _ _ _ _) <;> wtm_at "ev2")
  | ((with_reducible refine' cd5 _ _ _ _ _ _) <;> wtm_at "ev2"))
local macro_rules | `(tactic| wtm_at "evmeth") => `(tactic| first
  | ((with_reducible refine' md1 _ _ _) <;> wtm_at "ev2")
  | ((with_reducible refine' md2 _ _ _ _) <;> wtm_at "ev2")
  | ((with_reducible refine' md3 _ _ _ _ _) <;> wtm_at "ev2")
  | ((with_reducible refine' md4 _ _ _ _ _ _) <;> wtm_at "ev2"))
local macro_rules | `(tactic| wtm_at "evx") => `(tactic| first
  | ((with_reducible show Ev _ _ (tVar _) _ _); exact ev_var rfl)
  | ((with_reducible show Ev _ _ (tC _) _ _); first | exact ev_int | exact ev_bl | exact ev_none | exact ev_non)
  | ((with_reducible show Ev _ _ (tOp _ _ _) _ _); wtm_at "evop")
  | ((with_reducible show Ev _ _ (tF _ _ _) _ _); wtm_at "evfld")
  | ((with_reducible show Ev _ _ (tCB _ _) _ _); wtm_at "evcb")
  | ((with_reducible show Ev _ _ (tCall _ _ _ _) _ _); wtm_at "evcall")
  | ((with_reducible show Ev _ _ (tMeth _ _ _ _ _ _ _) _ _); wtm_at "evmeth")
  | ((with_reducible show Ev _ _ (tTup _) _ _); first | ((with_reducible refine' ev_pair (m := _) (n := _) _ _) <;> wtm_at "ev2") | ((with_reducible refine' ev_tri (m := _) (n := _) (k := _) _ _ _) <;> wtm_at "ev2"))
  | ((with_reducible refine' ev_neg _) <;> wtm_at "ev2")
  | ((with_reducible refine' ev_notV _) <;> wtm_at "ev2")
  | ((with_reducible show Ev _ _ (tLc _ _ _ _ _) _ _); (with_reducible refine' EvL.ev (m := _) _) <;> wtm_at "ev2")
  | ((with_reducible refine' EvL.ev (m := _) _) <;> wtm_at "ev2"))
local macro_rules | `(tactic| wtm_at "evt") => `(tactic| first
  | ((with_reducible refine' et_test _) <;> wtm_at "ev2")
  | ((with_reducible refine' et_B _) <;> wtm_at "ev2")
  | ((with_reducible refine' et_not _) <;> wtm_at "ev2"))
local macro_rules | `(tactic| wtm_at "evl") => `(tactic| first
  | exact el_nil
  | ((with_reducible refine' el_rep (m := _) _ _ _ _) <;> wtm_at "ev2")
  | ((with_reducible refine' el_cat (m := _) _ _ _) <;> wtm_at "ev2")
  | ((with_reducible refine' el_slice (m := _) _ _ _) <;> wtm_at "ev2")
  | ((with_reducible show EvL _ _ (tSl _ (tVar _) _ _) _ _); (refine' el_sliceM rfl _ _) <;> wtm_at "ev2")
  | ((with_reducible refine' el_listL (m := _) _) <;> wtm_at "ev2")
  | ((with_reducible refine' el_disp (m := _) _ _) <;> wtm_at "ev2")
  | ((with_reducible refine' el_sortLL _) <;> wtm_at "ev2")
  | ((with_reducible refine' el_lc (m := _) (n := _) _ (tg_name (m := _)) _ _ _) <;> wtm_at "ev2")
  | ((with_reducible refine' el_lcR (n := _) _ _ _ _ _) <;> wtm_at "ev2")
  | ((with_reducible refine' el_lc (m := _) (n := _) _ (tg_pair (m := _) (n := _)) _ _ _) <;> wtm_at "ev2")
  | ((with_reducible refine' el_lc (m := _) (n := _) _ (tg_tri (m := _) (n := _) (o := _)) _ _ _) <;> wtm_at "ev2"))
local macro_rules | `(tactic| wtm_at "ev") => `(tactic| first
  | ((with_reducible show Ev _ _ _ _ _); first | ((with_reducible refine' et_chain _ _ _) <;> wtm_at "ev2") | wtm_at "evx")
  | ((with_reducible show EvT _ _ _ _); wtm_at "evt")
  | ((with_reducible show EvL _ _ _ _ _); wtm_at "evl")
  | exact ea_nil
  | exact eh_nil
  | exact eo_none
  | ((with_reducible refine' ea_cons (m := _) _ _) <;> wtm_at "ev2")
  | ((with_reducible refine' eh_cons (m := _) _ _) <;> wtm_at "ev2")
  | ((with_reducible refine' eo_some _) <;> wtm_at "ev2"))
local macro_rules | `(tactic| wtm_at "no") => `(tactic| ((fail_if_success (with_reducible show Ev _ _ _ _ _)); (fail_if_success (with_reducible show EvL _ _ _ _ _)); (fail_if_success (with_reducible show EvT _ _ _ _)); (fail_if_success (with_reducible show EvA _ _ _ _)); (fail_if_success (with_reducible show EvH _ _ _ _ _)); (fail_if_success (with_reducible show EvO _ _ _ _))))
local macro_rules | `(tactic| wtm_at "ev2") => `(tactic| first | wtm_at "ev" | (wtm_at "no"; first | infer_instance | (intro x hx; wtm_at "ev") | skip))
local macro_rules | `(tactic| wtm_at "E") => `(tactic| ((wtm_at "ev") <;> (try infer_instance)) <;> (try (refine Iff.mp Iff.rfl ?_; wtm_at "side")))
local macro_rules | `(tactic| wtm_at "sub") => `(tactic| repeat' first | exact Sub.nil | apply Sub.any | apply Sub.same | (apply Sub.fz) | (apply Sub.ml))
section
variable {B : Wd} {Γ : List Sl} {K : PySem.W.Frag} {ta tb te : TE} {A A' A'' : Type} {R : Rel A} {S : Rel A'} {T : Rel A''} {n : Nat} {E : XK}
theorem cv_int {F : Hp} {v : V} {i : Int} (h : rInt F v i) : rDt (n + 1) F v (.int i) := by
  rw [show v = .int i from h]; exact .int n i
theorem cv_lst {en : A → Dt} {xs : List A} {F : Hp} {v : V} (c : ∀ F v x, x ∈ xs → R F v x → rDt n F v (en x)) (hz : xs.length ≤ 100000) (h : rLst R F v xs) : rDt (n + 1) F v (.lst (xs.map en)) := by
  obtain ⟨a, vs, rfl, e, r⟩ := h
  refine .lst n a vs _ e (by rw [List.length_map]; exact hz) (by rw [List.length_map]; exact r.1) fun i w x hw hx => ?_
  rw [List.getElem?_map] at hx
  cases q : xs[i]? with
  | none => rw [q] at hx; cases hx
  | some y => rw [q] at hx; rw [← Option.some.inj hx]; exact c F w y (List.mem_of_getElem? q) (r.2 i w y hw q)
theorem cv_pair {e1 : A → Dt} {e2 : A' → Dt} {x : A × A'} {F : Hp} {v : V} (c1 : ∀ F v, R F v x.1 → rDt n F v (e1 x.1)) (c2 : ∀ F v, S F v x.2 → rDt n F v (e2 x.2)) (h : rPair R S F v x) : rDt (n + 1) F v (.tup [e1 x.1, e2 x.2]) := by
  obtain ⟨a, u, w, rfl, e, r1, r2⟩ := h
  refine .tup n a _ _ e (by decide : 2 ≤ 100000) rfl fun i v y hv hy => ?_
  match i, hv, hy with
  | 0, hv, hy => cases hv; cases hy; exact c1 _ _ r1
  | 1, hv, hy => cases hv; cases hy; exact c2 _ _ r2
  | _ + 2, hv, _ => cases hv
theorem cv_tri {e1 : A → Dt} {e2 : A' → Dt} {e3 : A'' → Dt} {x : A × A' × A''} {F : Hp} {v : V} (c1 : ∀ F v, R F v x.1 → rDt n F v (e1 x.1)) (c2 : ∀ F v, S F v x.2.1 → rDt n F v (e2 x.2.1)) (c3 : ∀ F v, T F v x.2.2 → rDt n F v (e3 x.2.2)) (h : rTri R S T F v x) : rDt (n + 1) F v (.tup [e1 x.1, e2 x.2.1, e3 x.2.2]) := by
  obtain ⟨a, u, w, z, rfl, e, r1, r2, r3⟩ := h
  refine .tup n a _ _ e (by decide : 3 ≤ 100000) rfl fun i v y hv hy => ?_
  match i, hv, hy with
  | 0, hv, hy => cases hv; cases hy; exact c1 _ _ r1
  | 1, hv, hy => cases hv; cases hy; exact c2 _ _ r2
  | 2, hv, hy => cases hv; cases hy; exact c3 _ _ r3
  | _ + 3, hv, _ => cases hv
def oDt : Option Int → Dt
  | none => .non
  | some i => .int i
theorem cv_opt {F : Hp} {v : V} {o : Option Int} (h : rOpt rInt F v o) : rDt (n + 1) F v (oDt o) := by
  cases o with
  | none => rw [show v = .non from h]; exact .non n
  | some i => exact cv_int h
abbrev lDt (l : List Int) : Dt := .lst (l.map Dt.int)
abbrev llDt (l : List (List Int)) : Dt := .lst (l.map lDt)
theorem cv_ints {F : Hp} {v : V} {l : List Int} (hz : l.length ≤ 100000) (h : rLst rInt F v l) : rDt (n + 2) F v (lDt l) := cv_lst (fun _ _ _ _ h => cv_int h) hz h
theorem cv_rows {F : Hp} {v : V} {l : List (List Int)} (hz : l.length ≤ 100000) (hy : ∀ x, x ∈ l → x.length ≤ 100000) (h : rRows F v l) : rDt (n + 3) F v (llDt l) := cv_lst (fun _ _ x hx h => cv_ints (hy x hx) h) hz h
theorem cv_rec {F : Hp} {v : V} {l : Rc} (hz : l.length ≤ 100000) (h : rRec0 F v l) : rDt (n + 2) F v (.lst (l.map oDt)) := cv_lst (fun _ _ _ _ h => cv_opt h) hz h
theorem cv_due {F : Hp} {v : V} {x : Int × List Int × Int} (hz : x.2.1.length ≤ 100000) (h : rTri rInt (rLst rInt) rInt F v x) : rDt (n + 3) F v (.tup [.int x.1, lDt x.2.1, .int x.2.2]) := cv_tri (e1 := Dt.int) (e2 := lDt) (e3 := Dt.int) (fun _ _ h => cv_int h) (fun _ _ h => cv_ints hz h) (fun _ _ h => cv_int h) h
theorem cv_near {F : Hp} {v : V} {x : Int × List (List Int)} (hz : x.2.length ≤ 100000) (hy : ∀ z, z ∈ x.2 → z.length ≤ 100000) (h : rPair rInt rRows F v x) : rDt (n + 4) F v (.tup [.int x.1, llDt x.2]) := cv_pair (e1 := Dt.int) (e2 := llDt) (fun _ _ h => cv_int h) (fun _ _ h => cv_rows hz hy h) h
/-- the law compares two of one kind that are the same -/
theorem ev_same {x y : A} {d : Dt} (hx : Ev B Γ ta R x) (hy : Ev B Γ tb R y) (e : x = y) (c : ∀ F v, R F v y → rDt 5 F v d) : Ev B Γ (tCall (sp__law_same K) [] E (tCons ta (tCons tb tNil))) rBl true :=
  cd2 (ev_conv (hx.to e) c) (ev_conv hy c) rfl
theorem ev_isiL {xs : List A} (h : Ev B Γ te (rLst R) xs) : Ev B Γ (tCB (rIsi K) (tCons te (tCons (tC (.ty "list")) tNil))) rBl true := fun F H σ e Q q =>
  h F H σ e _ fun F1 H1 v e1 ⟨a, vs, ea, ha, _⟩ => ⟨v, .ty "list", _, _, true, rfl, .ty "list", by rw [ea]; exact .base (.lst (e1.fh _ _ ha)), kit_ty (show kitB "list" "list" = some true by decide +kernel), q F1 H1 _ e1 rfl⟩
end
theorem smsB_mono {a b : Nat} {L : List (Option Sm)} (h : SmsB a L) (k : a ≤ b) : SmsB b L := fun x hx => ⟨Nat.le_trans (h x hx).1 k, Nat.le_trans (h x hx).2 k⟩
abbrev sp__law_decoded (K : PySem.W.Frag) : Sp := spD4 (rEncoder K) rRows rRec0 rRows (fun e t r f => e = t ∧ Rv t (ml t r) r ∧ f = fnd t (ml t r) r) (rTri rInt (rLst rInt) rInt) (fun _ t r f => (lst t (ml t r) r, f.headD [], (f.length : Int)))
abbrev Pr__law_decoded (P : Program) (w : World) (K : PySem.W.Frag) (mg : Str → Option Value) (base : Heap) : Prop := Pr P w K mg base (He.ga K "_law_decoded") 6 ["_law_encoder", "_law_taps_here", "_law_received_here", "_law_found"] (sp__law_decoded K) []
def nm__law_decoded : List Str := ["_law_encoder", "_law_taps_here", "_law_received_here", "_law_found", "_law_memory", "_law_decoder", "_law_step_here", "_law_told", "_law_message"]
theorem sc__law_decoded : FnScope nm__law_decoded ["_law_encoder", "_law_taps_here", "_law_received_here", "_law_found"] (defScope s__law_decoded) := ⟨rfl, rfl, rfl, by decide +kernel, rfl, by decide +kernel, by decide +kernel⟩
theorem ok__law_decoded {P : Program} {w : World} {K : PySem.W.Frag} {mg : Str → Option Value} {base : Heap} (T : Tx K mg) (cPathDecoder_take : Pr_PathDecoder_take P w K mg base) (cPathDecoder_answer : Pr_PathDecoder_answer P w K mg base) (cPathDecoder___init__ : Pr_PathDecoder___init__ P w K mg base) {pS gS : Addr} (hPS : PropOf K (aPathDecoder K) "settled" pS gS) (cPathDecoder_settled : Pr_PathDecoder_settled P w K mg base gS) : Pr__law_decoded P w K mg base := by
  refine pr_of (N := nm__law_decoded) (k := 5) T.d__law_decoded sc__law_decoded (fun _ _ _ _ _ _ us hl => match us, hl with | [_, _, _, _], _ => rfl) len4 fun cdv A outer s H E hr => ⟨_, (pss_cons (ps_set (i := 4) sc__law_decoded.nd rfl (Or.inl rfl) (pe_op op_sub (pe_callB (kLen K rfl) (by rfl) T.f_len boot_len (pa_cons (pe_ix (kIxL K rfl) (pv 1) pe_int (fun _ _ => rfl)) pa_nil)) pe_int))
      (pss_cons (ps_set (i := 5) sc__law_decoded.nd rfl (Or.inl rfl) (pe_make T.mk_PathDecoder cPathDecoder___init__.F (hr.mono (by decide)) rfl T.gc_PathDecoder cPathDecoder___init__.b cPathDecoder___init__.v pass0 (pa_cons (pv 0) pa_nil)))
      (pss_cons (ps_for PassesOwn.never rfl (pi_range1 rfl T.f_range (pa_cons (pe_op op_fdiv (pe_callB (kLen K rfl) (by rfl) T.f_len boot_len (pa_cons (pv 2) pa_nil)) (pe_callB (kLen K rfl) (by rfl) T.f_len boot_len (pa_cons (pv 1) pa_nil))) pa_nil)) (pg_name (i := 6) sc__law_decoded.nd rfl (Or.inl rfl)) (pss_cons (ps_set (i := 7) sc__law_decoded.nd rfl (Or.inl rfl) (pe_prop (pv 5) T.c_PathDecoder hPS cPathDecoder_settled.F (hr.mono (by decide)) cPathDecoder_settled.b cPathDecoder_settled.v pass0 rfl))
      (pss_cons (ps_if (pt_not (pt_val (pe_callB (kIsi K rfl) (by rfl) T.f_isinstance bb_isinstance (pa_cons (pv 7) (pa_cons (pe_bltn (by rfl) T.f_list bb_list (v := .ty "list") rfl) pa_nil))))) (pss_one (ps_ret pe_non)) pss_nil)
      (pss_cons (ps_for PassesOwn.never rfl (kPiL K rfl (pv 3)) (pg_name (i := 8) sc__law_decoded.nd rfl (Or.inl rfl)) (pss_one (ps_if (pt_cmpR (kNeD K rfl hr.units) (pe_slice (kSl K rfl) (pe_op op_cat (pv 8) (pe_op op_rep (pe_lst (pa_cons pe_int pa_nil)) (pv 4))) po_none (po_some (pe_callB (kLen K rfl) (by rfl) T.f_len boot_len (pa_cons (pv 7) pa_nil)))) (pv 7) (nomark _)) (pss_one (ps_ret pe_non)) pss_nil)))
      (pss_one (ps_expr (pe_meth (pv 5) T.c_PathDecoder T.m_PathDecoder_take cPathDecoder_take.F (hr.mono (by decide)) cPathDecoder_take.b cPathDecoder_take.v pass0 (pa_cons (pe_slice (kSl K rfl) (pv 2) (po_some (pe_op op_mul (pv 6) (pe_callB (kLen K rfl) (by rfl) T.f_len boot_len (pa_cons (pv 1) pa_nil)))) (po_some (pe_op op_mul (pe_op op_add (pv 6) pe_int) (pe_callB (kLen K rfl) (by rfl) T.f_len boot_len (pa_cons (pv 1) pa_nil))))) pa_nil))))))))
      (pss_one (ps_ret (pe_meth0 (pv 5) T.c_PathDecoder T.m_PathDecoder_answer cPathDecoder_answer.F (hr.mono (by decide)) cPathDecoder_answer.b cPathDecoder_answer.v pass0)))))), en4 (n := 5) rfl fun B e t r f Q hp rt => ?_⟩
  obtain ⟨rfl, hv, rfl⟩ := hp
  obtain ⟨n, hn⟩ : ∃ n, n = ml e r := ⟨_, rfl⟩
  rw [← hn] at hv rt ⊢
  have g := hv.g
  obtain ⟨h0, h1⟩ := gt_0 g
  have g1 := g.lo
  have g2 := g.hi
  have g3 := g.me
  have hlen := hv.len
  have hle := hv.le
  have hsl := hv.sl
  have hst : n + mem e ≤ 10000 := by
    have := Nat.mul_le_mul_right (n + mem e) g1
    rw [← hlen] at this; omega
  have hb : ∀ i, i ≤ n + mem e → SmsB 99999 (smk e (chs e.length r) i) ∧ SmsB 100000 (smk e (chs e.length r) i) := fun i hi => ⟨smsB_mono (smk_b _ _ i) (by omega), smsB_mono (smk_b _ _ i) (by omega)⟩
  refine q_asg (x := (mem e : Int)) (Ev.to (ev_opI0 (f := fun i j => i - j) (ev_lenL (ev_ixL (by wtm_at "E") (by wtm_at "E") h1)) ev_int) (by rw [h0]; omega)) ?_
  refine q_asgMake e (ea_cons (by wtm_at "E") ea_nil) g (fun p => ?_)
  refine q_forR1 (I := Unit) (fun i _ => True) (fun i _ => [sf (rEncoder K) e, sf rRows e, sf rRec0 r, sf rRows (fnd e n r), sf rInt (mem e : Int), .mo p (aPathDecoder K) (fsPathDecoder K ⟨e, (i : Int), smk e (chs e.length r) i⟩), .any, .any, .any]) (n := ((n + mem e : Nat) : Int)) ?_ (by omega) ⟨(), trivial, ?_⟩ (fun i _ hi _ => ?_) (fun _ _ => ?_)
  · refine Ev.to (by wtm_at "E") ?_
    rw [hlen, Int.natCast_mul, Int.mul_ediv_cancel_left _ (by omega)]
  · wtm_at "sub"
  · have hi2 : i ≤ n + mem e := by omega
    have hi3 : i < n + mem e := by omega
    obtain ⟨b1, b2⟩ := hb i hi2
    obtain ⟨b3, b4⟩ := hb (i + 1) (by omega)
    have s1 := stt_smk (t := e) (st := chs e.length r) (k := i) (by omega)
    have s2 := stt_smk (t := e) (st := chs e.length r) (k := i + 1) (by omega)
    have hset := fun m hm => hv.settled (k := i) hi2 (m := m) hm
    have hfl : (fnd e n r).length ≤ 100000 ∨ True := Or.inr trivial
    refine q_asg (x := (stt (smk e (chs e.length r) i)).getD []) (ev_propR (⟨e, (i : Int), smk e (chs e.length r) i⟩ : PD) rfl rfl ⟨b2, s1⟩) ?_
    refine q_no (et_not (et_test (ev_isiL (ev_var rfl)))) rfl ?_
    refine q_forL (I := Unit) (xs := fnd e n r) (fun _ _ => True) (fun _ _ => [sf (rEncoder K) e, sf rRows e, sf rRec0 r, sf rRows (fnd e n r), sf rInt (mem e : Int), .mo p (aPathDecoder K) (fsPathDecoder K ⟨e, (i : Int), smk e (chs e.length r) i⟩), sf rInt (i : Int), sf (rLst rInt) ((stt (smk e (chs e.length r) i)).getD []), .any]) tg_name (by wtm_at "E") ⟨(), trivial, by wtm_at "sub"⟩ (fun B1 up j _ m hm _ => ?_) (fun _ _ => ?_)
    · have hmm := List.mem_of_getElem? hm
      have hml := (fnd_mem.mp hmm).1
      refine s_no (et_test (ev_neL (xs := (stt (smk e (chs e.length r) i)).getD []) (EvL.ev (EvL.to (el_slice (xs := m ++ zs (mem e)) (EvL.ev (EvL.to (el_cat (by wtm_at "E") (EvL.ev (el_rep (by wtm_at "E") (by wtm_at "E") (by omega) (by omega))) (by rw [List.length_replicate, Int.toNat_natCast]; omega)) (by rw [Int.toNat_natCast]; rfl))) eo_none (eo_some (by wtm_at "E"))) ?_)) (ev_var rfl))) (by simp) (wn_lp () trivial (by wtm_at "sub"))
      rw [cutA_take (by omega), Int.toNat_natCast]
      exact hset m hmm
    · have hch : (chs e.length r).getD i [] = (r.drop (i * e.length)).take e.length := by
        unfold chs
        exact getD_mapR (by rw [chs_length] at hsl; omega)
      have hcl : ((chs e.length r).getD i []).length = e.length := chs_mem _ (MX.getD_mem (by omega))
      have hob : OBits ((chs e.length r).getD i []) := fun b hb' => by
        rw [hch] at hb'
        exact hv.ob b (List.mem_of_mem_drop (List.mem_of_mem_take hb'))
      refine s_methM ((⟨e, (i : Int), smk e (chs e.length r) i⟩, (chs e.length r).getD i []) : PD × Rc) rfl (nl_PathDecoder_take K _) (ea_cons (EvL.ev (EvL.to (el_slice (by wtm_at "E") (eo_some (by wtm_at "E")) (eo_some (by wtm_at "E"))) ?_)) ea_nil) ⟨g, hcl, hob, b1, smk_length _ _ _, s1, s2⟩ (wn_lp () trivial ?_)
      · have hil : 0 ≤ (i : Int) * (e.length : Int) := Int.mul_nonneg (Int.natCast_nonneg _) (Int.natCast_nonneg _)
        rw [hch, cutA_mid hil (by rw [Int.add_mul]; omega)]
        congr 1
        rw [Int.add_mul]; omega
      · show Sub [sf (rEncoder K) e, sf rRows e, sf rRec0 r, sf rRows (fnd e n r), sf rInt (mem e : Int), .mo p (aPathDecoder K) (fsPathDecoder K ⟨e, ((i + 1 : Nat) : Int), smk e (chs e.length r) (i + 1)⟩), sf rInt (i : Int), sf (rLst rInt) ((stt (smk e (chs e.length r) i)).getD []), .any] _
        wtm_at "sub"
  · rw [Int.toNat_natCast]
    obtain ⟨y, y1, y2, y3, y4⟩ := hv.answer
    refine s_ret (ev_methR (⟨e, ((n + mem e : Nat) : Int), smk e (chs e.length r) (n + mem e)⟩ : PD) rfl (nl_PathDecoder_answer K _) ea_nil ⟨by show (mem e : Int) ≤ ((n + mem e : Nat) : Int); omega, y, y1⟩) rt ?_
    dsimp only
    rw [y1]
    dsimp only
    rw [← hn, y2, y4, show (((n + mem e : Nat) : Int) - (mem e : Int)).toNat = n by omega, y3]
section
variable {B : Wd} {Γ : List Sl} {K : PySem.W.Frag} {ta tb te : TE} {A1 A2 Y : Type} {R1 : Rel A1} {R2 : Rel A2} {R : Rel Y} {E : XK}
/-- a call whose first argument is known by a property -/
theorem cpE2 [m1 : Mn R1] {pre : A1 → A2 → Prop} {post : A1 → A2 → Y → Prop} {P : A1 → Prop} {x2 : A2} {z : Y} (h1 : EvP B Γ ta R1 P) (h2 : Ev B Γ tb R2 x2) (hp : ∀ a, P a → pre a x2) (hz : ∀ a y, P a → post a x2 y → y = z) : Ev B Γ (tCall (spP2 R1 R2 pre R post) [] E (tCons ta (tCons tb tNil))) R z := fun F H σ e Q q =>
  h1 F H σ e _ fun F1 H1 v1 a e1 r1 pa => h2 F1 H1 σ (e.ext e1) _ fun F2 H2 v2 e2 r2 => ⟨F2, v1, v2, a, x2, rfl, e2.fh, m1.mono e2.ff r1, r2, hp a pa, fun F' H' v y e3 r p => q F' H' v ((e1.trans e2).trans e3) (hz a y pa p ▸ r)⟩
theorem el_opts {xs : List Int} (h : EvL B Γ te rInt xs) : EvL B Γ te (rOpt rInt) (xs.map some) := fun F H σ e Q q => h F H σ e Q fun F' H' p vs e1 h1 h2 h3 r => q F' H' p vs e1 h1 h2 h3 r.opts
theorem el_listRg {n : Int} (h : Ev B Γ ta rInt n) (h0 : 0 ≤ n) (h1 : n ≤ 10000000) : EvL B Γ (tLstRg (tRg1 ta)) rInt ((List.range n.toNat).map fun i : Nat => (i : Int)) := fun F H σ e Q q =>
  h F H σ e _ fun F1 H1 v e1 r1 => ⟨n, r1, RgOk.of_le (Int.le_refl _) (by omega) (by decide) h0, by
    have e0 : rgV 0 n = ((List.range n.toNat).map fun i : Nat => (i : Int)).map V.int := by
      unfold rgV
      rw [List.map_map, Int.sub_zero]
      exact List.map_congr_left fun i _ => congrArg V.int (Int.zero_add _)
    rw [e0]
    exact newL (R := rInt) e1.fh (ints_ok _) fun F' H' p ws e2 k1 k2 k3 k4 => q F' H' p ws (e1.trans e2) (e1.hh.free k1) k2 k3 k4⟩
end
theorem fnd_pos {t : Tp} {n : Nat} {r : Rc} (h : Rv t n r) : atI (fnd t n r) 0 = some ((fnd t n r).headD []) := by
  have h := h.ne
  cases e : fnd t n r with
  | nil => rw [e] at h; cases h
  | cons a l => exact (atI_L (l := a :: l) (k := 0) (Nat.zero_lt_succ _)).trans rfl
theorem sortL_mem {l : List (List Int)} {x : List Int} (h : x ∈ sortL l) : x ∈ l := (List.mergeSort_perm _ _).mem_iff.mp h
abbrev sp__law_small (K : PySem.W.Frag) : Sp := spD4 (rEncoder K) rRows rRec0 rInt (fun e t r n => e = t ∧ 0 ≤ n ∧ n ≤ 4 ∧ Rv t n.toNat r) rBl (fun _ _ _ _ => true)
abbrev Pr__law_small (P : Program) (w : World) (K : PySem.W.Frag) (mg : Str → Option Value) (base : Heap) : Prop := Pr P w K mg base (He.ga K "_law_small") 11 ["_law_encoder", "_law_taps_here", "_law_received_here", "_law_size"] (sp__law_small K) []
def nm__law_small : List Str := ["_law_encoder", "_law_taps_here", "_law_received_here", "_law_size", "_law_least", "_law_found", "_law_words", "_law_due", "_law_message"]
theorem sc__law_small : FnScope nm__law_small ["_law_encoder", "_law_taps_here", "_law_received_here", "_law_size"] (defScope s__law_small) := ⟨rfl, rfl, rfl, by decide +kernel, rfl, by decide +kernel, by decide +kernel⟩
theorem ok__law_small {P : Program} {w : World} {K : PySem.W.Frag} {mg : Str → Option Value} {base : Heap} (T : Tx K mg) (c_law_nearest : Pr__law_nearest P w K mg base) (c_law_word : Pr__law_word P w K mg base) (cEncoder_linear : Pr_Encoder_linear P w K mg base) (cnearest : Pr_nearest P w K mg base) (c_law_same : Pr__law_same P w K mg base) (cbest_path : Pr_best_path P w K mg base) (cnearest_messages : Pr_nearest_messages P w K mg base) (c_law_decoded : Pr__law_decoded P w K mg base) : Pr__law_small P w K mg base := by
  refine pr_of (N := nm__law_small) (k := 10) T.d__law_small sc__law_small (fun _ _ _ _ _ _ us hl => match us, hl with | [_, _, _, _], _ => rfl) len4 fun cdv A outer s H E hr => ⟨_, (pss_cons (ps_asg (pe_cal c_law_nearest T.g__law_nearest hr (pa_cons (pv 1) (pa_cons (pv 2) (pa_cons (pv 3) pa_nil)))) (kPgT (n := 2) K rfl rfl (pgs_cons (pg_name (i := 4) sc__law_small.nd rfl (Or.inl rfl)) (pgs_cons (pg_name (i := 5) sc__law_small.nd rfl (Or.inl rfl)) pgs_nil))))
      (pss_cons (ps_if (pt_cmpR op_gt (pe_callB (kLen K rfl) (by rfl) T.f_len boot_len (pa_cons (pv 2) pa_nil)) pe_int (nomark _)) (pss_cons (ps_set (i := 6) sc__law_small.nd rfl (Or.inl rfl) (pe_callB (kSorted K rfl hr.units) (by rfl) T.f_sorted bb_sorted (pa_cons (pe_lc (own := [("_law_message", 8)]) rfl sc__law_small.nd (kPiL K rfl (pv 5)) (blkOk_by (own := [("_law_message", 8)]) (N := nm__law_small) (sc := (defScope s__law_small)) (by decide +kernel)) (fun _ _ _ _ _ => (pg_name (i := 8) sc__law_small.nd rfl (Or.inl rfl))) (fun _ _ _ _ _ => pts_nil) (fun _ _ _ _ _ => (pe_cal c_law_word T.g__law_word hr (pa_cons (pv 1) (pa_cons (pv 8) pa_nil))))) pa_nil)))
      (pss_one (ps_if (pt_not (pt_val (pe_cal c_law_same T.g__law_same hr (pa_cons (pe_cal cnearest T.g_nearest hr (pa_cons (pe_meth (pv 0) T.c_Encoder T.m_Encoder_linear cEncoder_linear.F (hr.mono (by decide)) cEncoder_linear.b cEncoder_linear.v pass0 (pa_cons (pv 3) pa_nil)) (pa_cons (pe_callTy (kList K rfl) (by rfl) T.f_list boot_list (pa_cons (pv 2) pa_nil)) pa_nil))) (pa_cons (pe_tup (pa_cons (pv 4) (pa_cons (pv 6) pa_nil))) pa_nil))))) (pss_one (ps_ret pe_bl)) pss_nil))) pss_nil)
      (pss_cons (ps_set (i := 7) sc__law_small.nd rfl (Or.inl rfl) (pe_tup (pa_cons (pv 4) (pa_cons (pe_ix (kIxL K rfl) (pv 5) pe_int (fun _ _ => rfl)) (pa_cons (pe_callB (kLen K rfl) (by rfl) T.f_len boot_len (pa_cons (pv 5) pa_nil)) pa_nil)))))
      (pss_cons (ps_if (pt_not (pt_val (pe_cal c_law_same T.g__law_same hr (pa_cons (pe_cal cbest_path T.g_best_path hr (pa_cons (pv 0) (pa_cons (pe_callTy (kList K rfl) (by rfl) T.f_list boot_list (pa_cons (pv 2) pa_nil)) pa_nil))) (pa_cons (pv 7) pa_nil))))) (pss_one (ps_ret pe_bl)) pss_nil)
      (pss_cons (ps_if (pt_not (pt_val (pe_cal c_law_same T.g__law_same hr (pa_cons (pe_listN cnearest_messages T.g_nearest_messages T.f_list boot_list hr (pa_cons (pv 0) (pa_cons (pe_callTy (kList K rfl) (by rfl) T.f_list boot_list (pa_cons (pv 2) pa_nil)) pa_nil))) (pa_cons (pv 5) pa_nil))))) (pss_one (ps_ret pe_bl)) pss_nil)
      (pss_one (ps_ret (pe_cal c_law_same T.g__law_same hr (pa_cons (pe_cal c_law_decoded T.g__law_decoded hr (pa_cons (pv 0) (pa_cons (pv 1) (pa_cons (pv 2) (pa_cons (pv 5) pa_nil))))) (pa_cons (pv 7) pa_nil)))))))))), en4 (n := 5) rfl fun B e t r n Q hp rt => ?_⟩
  obtain ⟨rfl, h0, h1, hv⟩ := hp
  have g := hv.g
  have g1 := g.lo
  have g2 := g.hi
  have g3 := g.me
  have hlen := hv.len
  have hwt := hv.wt
  have hml := hv.ml
  have hr36 : e.length * (n.toNat + mem e) ≤ 4 * 9 := Nat.mul_le_mul g2 (by omega)
  have hfl : (fnd e n.toNat r).length ≤ 16 := Nat.le_trans (List.length_filter_le _ _) (by rw [msgA_length]; exact Nat.pow_le_pow_right (by decide) (show n.toNat ≤ 4 by omega))
  have hfm : ∀ m, m ∈ fnd e n.toNat r → m.length = n.toNat ∧ Bits m := fun m hm => ⟨(fnd_mem.mp hm).1, (fnd_mem.mp hm).2.1⟩
  have hhd : ((fnd e n.toNat r).headD []).length ≤ 100000 := by
    cases q : fnd e n.toNat r with
    | nil => exact Nat.zero_le _
    | cons a l => have := (hfm a (by rw [q]; exact List.mem_cons_self)).1; show a.length ≤ _; omega
  refine q_tgt tg_pair (cd3 (by wtm_at "E") (by wtm_at "E") (by wtm_at "E") ⟨h0, h1, hv⟩) ?_
  dsimp only
  refine q_cut (Δ := [sf (rEncoder K) e, sf rRows e, sf rRec0 r, sf rInt n, sf rInt (lst e n.toNat r), sf rRows (fnd e n.toNat r), .any, .any, .any]) (b := decide ((r.length : Int) > 0)) (by wtm_at "E") (fun hb N hN => ?_) (fun _ N hN => s_next (Wn.sub (by wtm_at "sub") hN)) ?_
  · have hb : 0 < r.length := by
      have : (r.length : Int) > 0 := by simpa using hb
      omega
    refine q_asg (x := sortL ((fnd e n.toNat r).map (word e))) (EvL.ev (el_sortLL (EvL.ev (el_lc (R := rLst rInt) (xs := fnd e n.toNat r) (f := word e) (by wtm_at "E") tg_name (by wtm_at "side") (by omega) (fun m hm => cd2 (by wtm_at "E") (by wtm_at "E") ⟨g, (hfm m hm).2, by have := (hfm m hm).1; omega⟩))))) ?_
    have hlin : EvP B ([sf (rEncoder K) e, sf rRows e, sf rRec0 r, sf rInt n, sf rInt (lst e n.toNat r), sf rRows (fnd e n.toNat r), sf rRows (sortL ((fnd e n.toNat r).map (word e))), .any, .any] : List Sl) (tMeth (aEncoder K) "linear" (sp_Encoder_linear K) [] E (tVar 0) (tCons (tVar 3) tNil)) (rLinearCode K) (LinP (e.length * (n.toNat + mem e), urows e n.toNat)) := (md2 (ev_var rfl) (ev_var rfl) (nl_Encoder_linear K e) ⟨g, h0, by omega, by omega⟩).exP
    refine s_no (et_not (et_test (ev_same (R := rPair rInt rRows) (x := (lst e n.toNat r, sortL ((fnd e n.toNat r).map (word e)))) (cpE2 hlin (EvL.ev (el_listL (ev_var rfl))) (fun a ha => ⟨?_, hv.ob, e.length * (n.toNat + mem e), ha.len, by omega, ha.mat, hlen⟩) (fun a y ha hy => ?_)) (by wtm_at "E") rfl (fun F v h => cv_near ?_ ?_ h)))) rfl (Wn.sub (by wtm_at "sub") hN)
    · have := ha.le
      rw [List.length_map, List.length_range] at this; omega
    · obtain ⟨y1, y2⟩ := hy
      have hw : a.len.toNat = e.length * (n.toNat + mem e) := by rw [ha.len, Int.toNat_natCast]
      have hle := ha.le
      rw [List.length_map, List.length_range] at hle
      rw [hw, ha.len] at y1
      rw [hw] at y2
      obtain ⟨k1, k2⟩ := hv.code rfl ha.mat hle ha.span y1
      obtain ⟨b, ws⟩ := y
      dsimp only at y2 k1 k2 ⊢
      rw [y2, k2, k1]
    · dsimp only
      rw [List.length_mergeSort, List.length_map]; omega
    · intro z hz
      obtain ⟨m, hm, rfl⟩ := List.mem_map.mp (sortL_mem hz)
      rw [word_length, (hfm m hm).1]; omega
  · refine q_asg (x := (lst e n.toNat r, (fnd e n.toNat r).headD [], ((fnd e n.toNat r).length : Int))) (ev_tri (by wtm_at "E") (ev_ixL (by wtm_at "E") (by wtm_at "E") (fnd_pos hv)) (by wtm_at "E")) ?_
    refine q_no (et_not (et_test (ev_same (R := rTri rInt (rLst rInt) rInt) (cd2 (by wtm_at "E") (EvL.ev (el_listL (ev_var rfl))) hwt) (by wtm_at "E") ?_ (fun F v h => cv_due hhd h)))) rfl ?_
    · rw [hml, hv.gr, hv.cnt]
    refine q_no (et_not (et_test (ev_same (R := rRows) (EvL.ev (el_listG2 (by wtm_at "E") (EvL.ev (el_listL (ev_var rfl))) ⟨hwt, by rw [hml, hv.bst]; omega⟩)) (by wtm_at "E") (by rw [hml, hv.bst]) (fun F v h => cv_rows (by omega) (fun x hx => by have := (hfm x hx).1; omega) h)))) rfl ?_
    refine s_ret (ev_same (R := rTri rInt (rLst rInt) rInt) (cd4 (by wtm_at "E") (by wtm_at "E") (by wtm_at "E") (by wtm_at "E") ⟨rfl, by rw [hml]; exact hv, by rw [hml]⟩) (by wtm_at "E") (by rw [hml]) (fun F v h => cv_due hhd h)) rt rfl
abbrev sp__law_pattern (K : PySem.W.Frag) : Sp := spP4 (rLst rInt) rInt (rLst rInt) rInt (fun w f l a => Bits w ∧ w.length ≤ 10000 ∧ 1 ≤ f ∧ Nums 80 l ∧ a = 57) (rPair rRec0 rInt) (fun w f _ _ y => ∃ er es : Nat, (∃ pool, Pat w er (er + es) pool y.1) ∧ y.2 = (es : Int) ∧ (2 * es + er + 1 : Int) ≤ f)
abbrev Pr__law_pattern (P : Program) (w : World) (K : PySem.W.Frag) (mg : Str → Option Value) (base : Heap) : Prop := Pr P w K mg base (He.ga K "_law_pattern") 1 ["_law_word_here", "_law_free_here", "_law_numbers_here", "_law_at"] (sp__law_pattern K) []
def nm__law_pattern : List Str := ["_law_word_here", "_law_free_here", "_law_numbers_here", "_law_at", "_law_erased", "_law_errors", "_law_pool", "_law_received_here", "_law_k", "_law_spot", "_law_place"]
theorem sc__law_pattern : FnScope nm__law_pattern ["_law_word_here", "_law_free_here", "_law_numbers_here", "_law_at"] (defScope s__law_pattern) := ⟨rfl, rfl, rfl, by decide +kernel, rfl, by decide +kernel, by decide +kernel⟩
theorem ok__law_pattern {P : Program} {w : World} {K : PySem.W.Frag} {mg : Str → Option Value} {base : Heap} (T : Tx K mg)  : Pr__law_pattern P w K mg base := by
  refine pr_of (N := nm__law_pattern) (k := 0) T.d__law_pattern sc__law_pattern (fun _ _ _ _ _ _ us hl => match us, hl with | [_, _, _, _], _ => rfl) len4 fun cdv A outer s H E hr => ⟨_, (pss_cons (ps_set (i := 4) sc__law_pattern.nd rfl (Or.inl rfl) (pe_callB (cl_min2 rfl) (by rfl) T.f_min bb_min (pa_cons (pe_op op_mod (pe_callTy cl_int (by rfl) T.f_int bb_int (pa_cons (pe_ix (kIxL K rfl) (pv 2) (pv 3) (fun _ _ => rfl)) pa_nil)) (pv 1)) (pa_cons (pe_callB (kLen K rfl) (by rfl) T.f_len boot_len (pa_cons (pv 0) pa_nil)) pa_nil))))
      (pss_cons (ps_set (i := 5) sc__law_pattern.nd rfl (Or.inl rfl) (pe_op op_fdiv (pe_op op_sub (pe_op op_sub (pv 1) pe_int) (pv 4)) pe_int))
      (pss_cons (ps_if (pt_cmpR op_eq (pe_op op_mod (pe_callTy cl_int (by rfl) T.f_int bb_int (pa_cons (pe_ix (kIxL K rfl) (pv 2) (pe_op op_add (pv 3) pe_int) (fun _ _ => rfl)) pa_nil)) pe_int) pe_int (nomark _)) (pss_one (ps_set (i := 5) sc__law_pattern.nd rfl (Or.inl rfl) (pe_op op_mod (pe_callTy cl_int (by rfl) T.f_int bb_int (pa_cons (pe_ix (kIxL K rfl) (pv 2) (pe_op op_add (pv 3) pe_int) (fun _ _ => rfl)) pa_nil)) (pe_op op_add (pv 5) pe_int)))) pss_nil)
      (pss_cons (ps_set (i := 5) sc__law_pattern.nd rfl (Or.inl rfl) (pe_callB (cl_min2 rfl) (by rfl) T.f_min bb_min (pa_cons (pv 5) (pa_cons (pe_op op_sub (pe_callB (kLen K rfl) (by rfl) T.f_len boot_len (pa_cons (pv 0) pa_nil)) (pv 4)) pa_nil))))
      (pss_cons (ps_set (i := 6) sc__law_pattern.nd rfl (Or.inl rfl) (pe_listRg rfl (by rfl) T.f_list (prg_1 (by rfl) T.f_range (pe_callB (kLen K rfl) (by rfl) T.f_len boot_len (pa_cons (pv 0) pa_nil)))))
      (pss_cons (ps_set (i := 7) sc__law_pattern.nd rfl (Or.inl rfl) (pe_callTy (kList K rfl) (by rfl) T.f_list boot_list (pa_cons (pv 0) pa_nil)))
      (pss_cons (ps_for PassesOwn.never rfl (pi_range1 rfl T.f_range (pa_cons (pe_op op_add (pv 4) (pv 5)) pa_nil)) (pg_name (i := 8) sc__law_pattern.nd rfl (Or.inl rfl)) (pss_cons (ps_set (i := 9) sc__law_pattern.nd rfl (Or.inl rfl) (pe_op op_mod (pe_callTy cl_int (by rfl) T.f_int bb_int (pa_cons (pe_op op_add (pe_ix (kIxL K rfl) (pv 2) (pe_op op_add (pe_op op_add (pv 3) pe_int) (pe_op op_mod (pe_callTy cl_int (by rfl) T.f_int bb_int (pa_cons (pv 8) pa_nil)) pe_int)) (fun _ _ => rfl)) (pe_op op_mul pe_int (pv 8))) pa_nil)) (pe_callB (kLen K rfl) (by rfl) T.f_len boot_len (pa_cons (pv 6) pa_nil))))
      (pss_cons (ps_if (pt_cmpR op_eq (pe_op op_mod (pe_callTy cl_int (by rfl) T.f_int bb_int (pa_cons (pe_ix (kIxL K rfl) (pv 2) (pe_op op_add (pv 3) pe_int) (fun _ _ => rfl)) pa_nil)) pe_int) pe_int (nomark _)) (pss_one (ps_set (i := 9) sc__law_pattern.nd rfl (Or.inl rfl) (pe_op op_mod (pe_op op_mod (pe_callTy cl_int (by rfl) T.f_int bb_int (pa_cons (pe_ix (kIxL K rfl) (pv 2) (pe_op op_add (pv 3) pe_int) (fun _ _ => rfl)) pa_nil)) (pe_callB (kLen K rfl) (by rfl) T.f_len boot_len (pa_cons (pv 0) pa_nil))) (pe_callB (kLen K rfl) (by rfl) T.f_len boot_len (pa_cons (pv 6) pa_nil))))) pss_nil)
      (pss_cons (ps_set (i := 10) sc__law_pattern.nd rfl (Or.inl rfl) (pe_bm PySem.F.plainAttrs_list PySem.F.slot_list_pop PySem.F.type_list_pop mt_popAt (pv 6) (pa_cons (pv 9) pa_nil)))
      (pss_one (ps_if (pt_cmpR op_lt (pv 8) (pv 4) (nomark _)) (pss_one (ps_asg pe_non (pg_sub (pv 7) (pv 10) set_list))) (pss_one (ps_asg (pe_op op_sub pe_int (pe_ix (kIxL K rfl) (pv 0) (pv 10) (fun _ _ => rfl))) (pg_sub (pv 7) (pv 10) set_list)))))))))
      (pss_one (ps_ret (pe_tup (pa_cons (pv 7) (pa_cons (pv 5) pa_nil)))))))))))), en4 (n := 7) rfl fun B w f l a Q hp rt => ?_⟩
  obtain ⟨hw, hwl, hf, hl, rfl⟩ := hp
  have i0 := nums_at hl (i := 57) (by omega) (by omega)
  have i1 := nums_at hl (i := 57 + 1) (by omega) (by omega)
  have i2 := nums_at hl (i := 57 + 2) (by omega) (by omega)
  have i3 := nums_at hl (i := 57 + 3) (by omega) (by omega)
  have i4 := nums_at hl (i := 57 + 4) (by omega) (by omega)
  have m0 : 0 ≤ l.getD (57 : Int).toNat 0 % f ∧ l.getD (57 : Int).toNat 0 % f < f := ⟨Int.emod_nonneg _ (by omega), Int.emod_lt_of_pos _ (by omega)⟩
  obtain ⟨er, her⟩ : ∃ er : Nat, (er : Int) = min (l.getD (57 : Int).toNat 0 % f) (w.length : Int) := ⟨(min (l.getD (57 : Int).toNat 0 % f) (w.length : Int)).toNat, by omega⟩
  refine q_asg (x := (er : Int)) (Ev.to (by wtm_at "E") her.symm) ?_
  have her2 : (er : Int) + 1 ≤ f ∧ er ≤ w.length := by omega
  clear her m0 i0
  obtain ⟨e0, he0⟩ : ∃ e0 : Nat, (e0 : Int) = (f - 1 - (er : Int)) / 2 := ⟨((f - 1 - (er : Int)) / 2).toNat, by omega⟩
  refine q_asg (x := (e0 : Int)) (Ev.to (by wtm_at "E") he0.symm) ?_
  have he1 : (2 * e0 + er + 1 : Int) ≤ f := by omega
  clear he0
  refine q_meet (I := Nat) (fun e => (2 * e + er + 1 : Int) ≤ f) (fun e => [sf (rLst rInt) w, sf rInt f, sf (rLst rInt) l, sf rInt 57, sf rInt (er : Int), sf rInt (e : Int), .any, .any, .any, .any, .any]) (by wtm_at "E") (fun _ E k => ?_) (fun _ E k => s_next (Wn.sub (by wtm_at "sub") (k e0 he1))) (fun e1 he1 => ?_)
  · have m2 : 0 ≤ l.getD (57 + 2 : Int).toNat 0 % ((e0 : Int) + 1) ∧ l.getD (57 + 2 : Int).toNat 0 % ((e0 : Int) + 1) < (e0 : Int) + 1 := ⟨Int.emod_nonneg _ (by omega), Int.emod_lt_of_pos _ (by omega)⟩
    refine s_asg (x := ((l.getD (57 + 2 : Int).toNat 0 % ((e0 : Int) + 1)).toNat : Int)) (Ev.to (by wtm_at "E") (by omega)) (Wn.sub (by wtm_at "sub") (k (l.getD (57 + 2 : Int).toNat 0 % ((e0 : Int) + 1)).toNat (by omega)))
  · obtain ⟨es, hes⟩ : ∃ es : Nat, (es : Int) = min (e1 : Int) ((w.length : Int) - (er : Int)) := ⟨(min (e1 : Int) ((w.length : Int) - (er : Int))).toNat, by omega⟩
    refine q_asg (x := (es : Int)) (Ev.to (by wtm_at "E") hes.symm) ?_
    have hes2 : (2 * es + er + 1 : Int) ≤ f ∧ er + es ≤ w.length := by omega
    clear hes he1
    refine q_asgL (R := rInt) (el_listRg (by wtm_at "E") (by omega) (by omega)) ?_
    refine q_asgL (R := rOpt rInt) (xs := w.map some) (el_opts (el_listL (ev_var rfl))) ?_
    refine q_forR1 (I := List Int × Rc) (fun i x => Pat w er i x.1 x.2) (fun i x => [sf (rLst rInt) w, .any, sf (rLst rInt) l, sf rInt 57, sf rInt (er : Int), sf rInt (es : Int), G.sm rInt x.1, G.sm (rOpt rInt) x.2, .any, .any, .any]) (n := ((er + es : Nat) : Int)) (Ev.to (by wtm_at "E") (by omega)) (by omega) ⟨((List.range w.length).map fun i : Nat => (i : Int), w.map some), Pat.start hw er, by wtm_at "sub"⟩ (fun i x hi hx => ?_) (fun x hx => ?_)
    · obtain ⟨pool, r⟩ := x
      dsimp only at hx ⊢
      have hpl := hx.pl
      have hrl := hx.len
      have i5 := nums_at hl (i := 57 + 4 + (i : Int) % 8) (by omega) (by omega)
      have hp0 : (0 : Int) < (pool.length : Int) := by omega
      have hw0 : (0 : Int) < (w.length : Int) := by omega
      refine q_asg (x := (l.getD (57 + 4 + (i : Int) % 8).toNat 0 + 17 * (i : Int)) % (pool.length : Int)) (by wtm_at "E") ?_
      refine q_meet (I := Int) (fun s => 0 ≤ s ∧ s < (pool.length : Int)) (fun s => [sf (rLst rInt) w, .any, sf (rLst rInt) l, sf rInt 57, sf rInt (er : Int), sf rInt (es : Int), G.sm rInt pool, G.sm (rOpt rInt) r, sf rInt (i : Int), sf rInt s, .any]) (by wtm_at "E")
        (fun _ E k => s_asg (by wtm_at "E") (Wn.sub (by wtm_at "sub") (k _ ⟨Int.emod_nonneg _ (by omega), Int.emod_lt_of_pos _ hp0⟩))) (fun _ E k => s_next (Wn.sub (by wtm_at "sub") (k _ ⟨Int.emod_nonneg _ (by omega), Int.emod_lt_of_pos _ hp0⟩))) (fun s hs => ?_)
      obtain ⟨s, rfl⟩ := Int.eq_ofNat_of_zero_le hs.1
      have hsl : s < pool.length := by omega
      have hsx : pool[s]? = some pool[s] := List.getElem?_eq_getElem hsl
      have st := hx.step hw hsx
      obtain ⟨x0, x1, x2⟩ := hx.at_ _ (List.getElem_mem hsl)
      refine q_popAt (n := s) (x := pool[s]) rfl (by wtm_at "E") rfl hsx (by omega) ?_
      have hix : ixN r.length pool[s] = some pool[s].toNat := ixN_D x0 (by omega)
      by_cases hk : i < er
      · rw [if_pos hk] at st
        refine s_if (b := decide ((i : Int) < (er : Int))) (by wtm_at "E") (fun _ => ?_) (fun h => absurd hk (by simpa using h))
        exact s_set (n := pool[s].toNat) (x := (none : Option Int)) rfl ev_none (by wtm_at "E") hix (wn_lp (pool.eraseIdx s, r.set pool[s].toNat none) st (by wtm_at "sub"))
      · rw [if_neg hk] at st
        refine s_if (b := decide ((i : Int) < (er : Int))) (by wtm_at "E") (fun h => absurd (show i < er by simpa using h) hk) (fun _ => ?_)
        have hwx : atI w pool[s] = some (w.getD pool[s].toNat 0) := atI_D 0 x0 x1
        exact s_set (n := pool[s].toNat) (x := some (1 - w.getD pool[s].toNat 0)) rfl (Ev.some (by wtm_at "E")) (by wtm_at "E") hix (wn_lp (pool.eraseIdx s, r.set pool[s].toNat (some (1 - w.getD pool[s].toNat 0))) st (by wtm_at "sub"))
    · obtain ⟨pool, r⟩ := x
      rw [Int.toNat_natCast] at hx
      refine wn_fz (i := 7) rfl ?_
      exact s_ret (y := (r, (es : Int))) (ev_pair (by wtm_at "E") (by wtm_at "E")) rt ⟨er, es, ⟨pool, hx⟩, rfl, hes2.1⟩
end NW
set_option maxHeartbeats 4000000
namespace NW
open PySem PySem.Spec PyProof.Rows L2 G MX
local macro_rules | `(tactic| wtm_at "nl") => `(tactic| first
  | with_reducible exact nl_Field_digits _ _
  | with_reducible exact nl_Field_element _ _
  | with_reducible exact nl_Field_plus _ _
  | with_reducible exact nl_Field_negative _ _
  | with_reducible exact nl_Field_minus _ _
  | with_reducible exact nl_Field_times _ _
  | with_reducible exact nl_Field_inverse _ _
  | with_reducible exact nl_LinearCode_words _ _
  | with_reducible exact nl_Encoder_advance _ _
  | with_reducible exact nl_Encoder__fed _ _
  | with_reducible exact nl_Encoder_word_for _ _
  | with_reducible exact nl_Encoder_linear _ _
  | with_reducible exact nl_Trellis_moves_from _ _
  | with_reducible exact nl_Trellis_costs_table _ _
  | with_reducible exact nl_Trellis_best_moves _ _
  | with_reducible exact nl_Summary_grown _ _
  | with_reducible exact nl_PathDecoder_restart _ _
  | with_reducible exact nl_PathDecoder_take _ _
  | with_reducible exact nl_PathDecoder_answer _ _)
local macro_rules | `(tactic| wtm_at "side") => `(tactic| first
  | assumption
  | exact rfl
  | exact atI_0 (by omega)
  | exact atI_L (by omega)
  | omega
  | exact trivial
  | exact fun _ h => h
  | exact List.mem_singleton.mpr rfl
  | wtm_at "nl"
  | exact Or.inr ⟨by omega, by omega⟩
  | exact Or.inl ⟨by omega, by omega⟩
  | (show (0 : Int) < _; omega)
  | exact ⟨by omega, by omega⟩
  | exact ⟨rfl, rfl⟩
  | exact MX.Bits.getD (by assumption) _
  | exact ⟨by assumption, by assumption⟩
  | exact ⟨by assumption, by assumption, by assumption⟩
  | exact ⟨by assumption, MX.Bits.getD (by assumption) _⟩
  | decide
  | (show (_ : Nat) ≤ 10000000; (simp only [List.length_cons, List.length_nil, List.length_append]; omega))
  | (show (_ : Nat) < 10000000; (simp only [List.length_cons, List.length_nil, List.length_append]; omega)))
local macro_rules | `(tactic| wtm_at "evop") => `(tactic| first
  | ((with_reducible refine' ev_opI0 _ _) <;> wtm_at "ev2")
  | ((with_reducible refine' ev_opB0 _ _) <;> wtm_at "ev2")
  | ((with_reducible refine' ev_opI _ _ _) <;> wtm_at "ev2")
  | ((with_reducible refine' ev_ixL (m := _) _ _ _) <;> wtm_at "ev2")
  | ((with_reducible show Ev _ _ (tOp (rIxL _) (tVar _) _) _ _); (refine' ev_ixM rfl _ _) <;> wtm_at "ev2")
  | ((with_reducible refine' ev_eqI _ _) <;> wtm_at "ev2")
  | ((with_reducible refine' ev_neI _ _) <;> wtm_at "ev2")
  | ((with_reducible refine' ev_isN (n := _) _) <;> wtm_at "ev2")
  | ((with_reducible refine' ev_notN (n := _) _) <;> wtm_at "ev2")
  | ((with_reducible refine' ev_fst (m := _) (n := _) _) <;> wtm_at "ev2")
  | ((with_reducible refine' ev_snd (m := _) (n := _) _) <;> wtm_at "ev2")
  | ((with_reducible refine' ev_tri1 _) <;> wtm_at "ev2")
  | ((with_reducible refine' ev_tri2 _) <;> wtm_at "ev2")
  | ((with_reducible refine' ev_ixT (m := _) _ _ _) <;> wtm_at "ev2")
  | ((with_reducible refine' ev_ixS (m := _) _ _ _) <;> wtm_at "ev2")
  | ((with_reducible refine' EvL.ev (m := _) _) <;> wtm_at "ev2"))
local macro_rules | `(tactic| wtm_at "evfld") => `(tactic| first
  | ((with_reducible refine' ev_Field_prime _) <;> wtm_at "ev2")
  | ((with_reducible refine' ev_Field_modulus _) <;> wtm_at "ev2")
  | ((with_reducible refine' ev_Field_degree _) <;> wtm_at "ev2")
  | ((with_reducible refine' ev_Field_order _) <;> wtm_at "ev2")
  | ((with_reducible refine' ev_LinearCode_field _) <;> wtm_at "ev2")
  | ((with_reducible refine' ev_LinearCode_length _) <;> wtm_at "ev2")
  | ((with_reducible refine' ev_LinearCode_dimension _) <;> wtm_at "ev2")
  | ((with_reducible refine' ev_LinearCode_rows _) <;> wtm_at "ev2")
  | ((with_reducible refine' ev_LinearCode_pivots _) <;> wtm_at "ev2")
  | ((with_reducible refine' ev_LinearCode_checks _) <;> wtm_at "ev2")
  | ((with_reducible refine' ev_LinearCode_size _) <;> wtm_at "ev2")
  | ((with_reducible refine' ev_Encoder_taps _) <;> wtm_at "ev2")
  | ((with_reducible refine' ev_Encoder_memory _) <;> wtm_at "ev2")
  | ((with_reducible refine' ev_Encoder_outputs _) <;> wtm_at "ev2")
  | ((with_reducible refine' ev_Encoder_state_count _) <;> wtm_at "ev2")
  | ((with_reducible refine' ev_Trellis_steps _) <;> wtm_at "ev2")
  | ((with_reducible refine' ev_Trellis_message_length _) <;> wtm_at "ev2")
  | ((with_reducible refine' ev_Trellis_table _) <;> wtm_at "ev2")
  | ((with_reducible refine' ev_Summary_cost _) <;> wtm_at "ev2")
  | ((with_reducible refine' ev_Summary_count_of _) <;> wtm_at "ev2")
  | ((with_reducible refine' ev_Summary_first _) <;> wtm_at "ev2")
  | ((with_reducible refine' ev_Summary_start_of _) <;> wtm_at "ev2")
  | ((with_reducible refine' ev_PathDecoder_encoder _) <;> wtm_at "ev2")
  | ((with_reducible refine' ev_PathDecoder_table _) <;> wtm_at "ev2")
  | ((with_reducible refine' ev_PathDecoder_steps _) <;> wtm_at "ev2")
  | ((with_reducible refine' ev_PathDecoder_summaries _) <;> wtm_at "ev2"))
local macro_rules | `(tactic| wtm_at "evcb") => `(tactic| first
  | ((with_reducible show Ev _ _ (tCB (rLen _) (tCons (tVar _) tNil)) _ _); exact ev_lenM rfl)
  | ((with_reducible refine' ev_lenL _) <;> wtm_at "ev2")
  | ((with_reducible refine' ev_lenT _) <;> wtm_at "ev2")
  | ((with_reducible refine' ev_lenS _) <;> wtm_at "ev2")
  | ((with_reducible refine' ev_int1 _) <;> wtm_at "ev2")
  | ((with_reducible refine' ev_intB _) <;> wtm_at "ev2")
  | ((with_reducible refine' ev_abs _) <;> wtm_at "ev2")
  | ((with_reducible refine' ev_min2 _ _) <;> wtm_at "ev2")
  | ((with_reducible refine' ev_max2 _ _) <;> wtm_at "ev2")
  | ((with_reducible refine' ev_minLL _ _) <;> wtm_at "ev2")
  | ((with_reducible refine' ev_sum _) <;> wtm_at "ev2")
  | ((with_reducible refine' ev_tupL (m := _) _) <;> wtm_at "ev2")
  | ((with_reducible refine' EvL.ev (m := _) _) <;> wtm_at "ev2"))
local macro_rules | `(tactic| wtm_at "evcall") => `(tactic| first
  | ((with_reducible refine' cd1 _ _) <;> wtm_at "ev2")
  | ((with_reducible refine' cd2 _ _ _) <;> wtm_at "ev2")
  | ((with_reducible refine' cd3 _ _ _ _) <;> wtm_at "ev2")
  | ((with_reducible refine' cd4 _ _ _ _ _) <;> wtm_at "ev2")
  | ((with_reducible refine' cd5 _ _ _ _ _ _) <;> wtm_at "ev2"))
local macro_rules | `(tactic| wtm_at "evmeth") => `(tactic| first
  | ((with_reducible refine' md1 _ _ _) <;> wtm_at "ev2")
  | ((with_reducible refine' md2 _ _ _ _) <;> wtm_at "ev2")
  | ((with_reducible refine' md3 _ _ _ _ _) <;> wtm_at "ev2")
  | ((with_reducible refine' md4 _ _ _ _ _ _) <;> wtm_at "ev2"))
local macro_rules | `(tactic| wtm_at "evx") => `(tactic| first
  | ((with_reducible show Ev _ _ (tVar _) _ _); exact ev_var rfl)
  | ((with_reducible show Ev _ _ (tC _) _ _); first | exact ev_int | exact ev_bl | exact ev_none | exact ev_non)
  | ((with_reducible show Ev _ _ (tOp _ _ _) _ _); wtm_at "evop")
  | ((with_reducible show Ev _ _ (tF _ _ _) _ _); wtm_at "evfld")
  | ((with_reducible show Ev _ _ (tCB _ _) _ _); wtm_at "evcb")
  | ((with_reducible show Ev _ _ (tCall _ _ _ _) _ _); wtm_at "evcall")
  | ((with_reducible show Ev _ _ (tMeth _ _ _ _ _ _ _) _ _); wtm_at "evmeth")
  | ((with_reducible show Ev _ _ (tTup _) _ _); first | ((with_reducible refine' ev_pair (m := _) (n := _) _ _) <;> wtm_at "ev2") | ((with_reducible refine' ev_tri (m := _) (n := _) (k := _) _ _ _) <;> wtm_at "ev2"))
  | ((with_reducible refine' ev_neg _) <;> wtm_at "ev2")
  | ((with_reducible refine' ev_notV _) <;> wtm_at "ev2")
  | ((with_reducible show Ev _ _ (tLc _ _ _ _ _) _ _); (with_reducible refine' EvL.ev (m := _) _) <;> wtm_at "ev2")
  | ((with_reducible refine' EvL.ev (m := _) _) <;> wtm_at "ev2"))
local macro_rules | `(tactic| wtm_at "evt") => `(tactic| first
  | ((with_reducible refine' et_test _) <;> wtm_at "ev2")
  | ((with_reducible refine' et_B _) <;> wtm_at "ev2")
  | ((with_reducible refine' et_not _) <;> wtm_at "ev2"))
local macro_rules | `(tactic| wtm_at "evl") => `(tactic| first
  | exact el_nil
  | ((with_reducible refine' el_rep (m := _) _ _ _ _) <;> wtm_at "ev2")
  | ((with_reducible refine' el_cat (m := _) _ _ _) <;> wtm_at "ev2")
  | ((with_reducible refine' el_slice (m := _) _ _ _) <;> wtm_at "ev2")
  | ((with_reducible show EvL _ _ (tSl _ (tVar _) _ _) _ _); (refine' el_sliceM rfl _ _) <;> wtm_at "ev2")
  | ((with_reducible refine' el_listL (m := _) _) <;> wtm_at "ev2")
  | ((with_reducible refine' el_disp (m := _) _ _) <;> wtm_at "ev2")
  | ((with_reducible refine' el_sortLL _) <;> wtm_at "ev2")
  | ((with_reducible refine' el_lc (m := _) (n := _) _ (tg_name (m := _)) _ _ _) <;> wtm_at "ev2")
  | ((with_reducible refine' el_lcR (n := _) _ _ _ _ _) <;> wtm_at "ev2")
  | ((with_reducible refine' el_lc (m := _) (n := _) _ (tg_pair (m := _) (n := _)) _ _ _) <;> wtm_at "ev2")
  | ((with_reducible refine' el_lc (m := _) (n := _) _ (tg_tri (m := _) (n := _) (o := _)) _ _ _) <;> wtm_at "ev2"))
local macro_rules | `(tactic| wtm_at "ev") => `(tactic| first
  | ((with_reducible show Ev _ _ _ _ _); first | ((with_reducible refine' et_chain _ _ _) <;> wtm_at "ev2") | wtm_at "evx")
  | ((with_reducible show EvT _ _ _ _); wtm_at "evt")
  | ((with_reducible show EvL _ _ _ _ _); wtm_at "evl")
  | exact ea_nil
  | exact eh_nil
  | exact eo_none
  | ((with_reducible refine' ea_cons (m := _) _ _) <;> wtm_at "ev2")
  | ((with_reducible refine' eh_cons (m := _) _ _) <;> wtm_at "ev2")
  | ((with_reducible refine' eo_some _) <;> wtm_at "ev2"))
local macro_rules | `(tactic| wtm_at "no") => `(tactic| ((fail_if_success (with_reducible show Ev _ _ _ _ _)); (fail_if_success (with_reducible show EvL _ _ _ _ _)); (fail_if_success (with_reducible show EvT _ _ _ _)); (fail_if_success (with_reducible show EvA _ _ _ _)); (fail_if_success (with_reducible show EvH _ _ _ _ _)); (fail_if_success (with_reducible show EvO _ _ _ _))))
local macro_rules | `(tactic| wtm_at "ev2") => `(tactic| first | wtm_at "ev" | (wtm_at "no"; first | infer_instance | (intro x hx; wtm_at "ev") | skip))
local macro_rules | `(tactic| wtm_at "E") => `(tactic| ((wtm_at "ev") <;> (try infer_instance)) <;> (try (refine Iff.mp Iff.rfl ?_; wtm_at "side")))
local macro_rules | `(tactic| wtm_at "sub") => `(tactic| repeat' first | exact Sub.nil | apply Sub.any | apply Sub.same | (apply Sub.fz) | (apply Sub.ml))
section
variable {B : Wd} {Γ : List Sl} {ta tb : TE}
theorem ev_notB {a b : Bool} (ha : Ev B Γ ta rBl a) (hb : Ev B Γ tb rBl b) : Ev B Γ (tOp rNotB ta tb) rBl (!decide (a = b)) :=
  ev_op ha hb fun F H v u Q s r1 r2 q => ⟨a, b, r1, r2, q F H _ (Ex.refl s) rfl⟩
end
theorem ctb_00 {t : Tp} {n : Nat} {r : Rc} (h : Rv t n r) : atI (ctb t r) 0 = some (crow t (stp t r) n 0) ∧ atI (crow t (stp t r) n 0) 0 = some (lst t n r) := by
  have hp := Nat.two_pow_pos (mem t)
  refine ⟨(atI_L (k := 0) (by show 0 < (ctab t (stp t r) (ml t r)).length; rw [ctab_length]; omega)).trans ?_, (atI_0 (k := 0) (by rw [crow_length]; exact hp)).trans ?_⟩
  · show some ((ctab t (stp t r) (ml t r)).getD 0 []) = _
    rw [ctab_at (Nat.zero_le _), h.ml]
  · rw [crow_at hp, Nat.sub_zero, List.drop_zero]
theorem flip_ok {m : List Int} (hb : Bits m) (h : m ≠ []) : atI m 0 = some (m.getD 0 0) ∧ Bits ([1 - m.getD 0 0] ++ m.drop 1) ∧ ([1 - m.getD 0 0] ++ m.drop 1).length = m.length ∧ [1 - m.getD 0 0] ++ m.drop 1 ≠ m := by
  cases m with
  | nil => exact absurd rfl h
  | cons x m =>
    have hx := hb x List.mem_cons_self
    refine ⟨atI_0 (k := 0) (Nat.zero_lt_succ _), Bits.cons (not_bit hx) fun y hy => hb y (List.mem_cons_of_mem _ hy), rfl, fun e => ?_⟩
    have e : 1 - x = x := (List.cons.inj e).1
    omega
abbrev sp_law (K : PySem.W.Frag) : Sp := spP1 (rLstS K rInt) (fun l => l.length ≤ 63) rBl (fun _ y => y = true)
section
variable {P : Program} {w : World} {K : PySem.W.Frag} {mg : Str → Option Value} {base : Heap} {f : Addr} {fd : FuncData} {x q : Str} {st : Stmt} {N ps : List Str} {k : Nat} {sp : Sp}
/-- a def's rule from its body, the function object told -/
theorem fk_of (F : FunD K x q (defArgs st) (defBody st) (defScope st) [] [] f fd) (S : FnScope N ps (defScope st)) (len : ∀ vs H Q E, sp vs H Q E → vs.length = ps.length)
    (body : ∀ (cdv : Value) (A : Around) (outer : List Env) (s : Shared) (H : Hp) (E : XK), Room k (A.deeper (envOfC q (defScope st) s.heap.objs.size f cdv)) →
      ∃ t, PSs (bx P w K mg base N q (defScope st) f cdv A outer s H E) (defBody st) t ∧ ∀ vs Q, sp vs H Q E → t (Dq Q) (L2.start N vs) H) : FnOk P w K mg base CX0 (k + 1) f fd ps sp :=
  F.ok S len fun cdv A outer s H vs Q E hr h => by
    obtain ⟨t, h1, h2⟩ := body cdv A outer s H E hr
    exact ⟨t, h1.nox, h2 vs Q h⟩
end
def nm_law : List Str := ["_law_script", "_law_numbers_here", "_law_taps_here", "_law_size", "_law_encoder", "_law_received_here", "_law_free_here", "_law_most", "_law_message", "_law_many", "_law_bit", "_law_word_here", "_law_errors", "_law_passed", "_law_costs", "_law_tap", "_law_k"]
theorem sc_law : FnScope nm_law ["_law_script"] (defScope s_law) := ⟨rfl, rfl, rfl, by decide +kernel, rfl, by decide +kernel, by decide +kernel⟩
theorem ok_law {P : Program} {w : World} {K : PySem.W.Frag} {mg : Str → Option Value} {base : Heap} {fd : FuncData} (hF : FunD K "law" "law" (defArgs s_law) (defBody s_law) (defScope s_law) [] [] (He.ga K "law") fd) (T : Tx K mg) (c_law_numbers : Pr__law_numbers P w K mg base) (c_law_taps : Pr__law_taps P w K mg base) (c_law_received : Pr__law_received P w K mg base) (c_law_small : Pr__law_small P w K mg base) (c_law_free : Pr__law_free P w K mg base) (cfree_distance : Pr_free_distance P w K mg base) (c_law_same : Pr__law_same P w K mg base) (c_law_word : Pr__law_word P w K mg base) (cbest_path : Pr_best_path P w K mg base) (c_law_pattern : Pr__law_pattern P w K mg base) (cnearest_messages : Pr_nearest_messages P w K mg base) (ccosts_to_go : Pr_costs_to_go P w K mg base) (ccheck_path : Pr_check_path P w K mg base) (c_law_decoded : Pr__law_decoded P w K mg base) (cEncoder___init__ : Pr_Encoder___init__ P w K mg base) : FnOk P w K mg base CX0 12 (He.ga K "law") fd ["_law_script"] (sp_law K) := by
  refine fk_of (N := nm_law) (k := 11) hF sc_law len1 fun cdv A outer s H E hr => ⟨_, (pss_cons (ps_set (i := 1) sc_law.nd rfl (Or.inr rfl) (pe_cal c_law_numbers T.g__law_numbers hr (pa_cons (pv 0) (pa_cons pe_int pa_nil))))
      (pss_cons (ps_set (i := 2) sc_law.nd rfl (Or.inl rfl) (pe_cal c_law_taps T.g__law_taps hr (pa_cons (pv 1) (pa_cons pe_int (pa_cons (pe_op op_add pe_int (pe_op op_mul pe_int (pe_callTy cl_int (by rfl) T.f_int bb_int (pa_cons (pe_cmpR op_eq (pe_op op_mod (pe_callTy cl_int (by rfl) T.f_int bb_int (pa_cons (pe_ix (kIxL K rfl) (pv 1) pe_int (fun _ _ => rfl)) pa_nil)) pe_int) pe_int (nomark _)) pa_nil)))) pa_nil)))))
      (pss_cons (ps_set (i := 3) sc_law.nd rfl (Or.inl rfl) (pe_callB (cl_min2 rfl) (by rfl) T.f_min bb_min (pa_cons (pe_op op_mod (pe_callTy cl_int (by rfl) T.f_int bb_int (pa_cons (pe_ix (kIxL K rfl) (pv 1) pe_int (fun _ _ => rfl)) pa_nil)) pe_int) (pa_cons (pe_op op_sub pe_int (pe_callB (kLen K rfl) (by rfl) T.f_len boot_len (pa_cons (pe_ix (kIxL K rfl) (pv 2) pe_int (fun _ _ => rfl)) pa_nil))) pa_nil))))
      (pss_cons (ps_set (i := 4) sc_law.nd rfl (Or.inl rfl) (pe_make T.mk_Encoder cEncoder___init__.F (hr.mono (by decide)) rfl T.gc_Encoder cEncoder___init__.b cEncoder___init__.v pass0 (pa_cons (pe_lc (own := [("_law_tap", 15)]) rfl sc_law.nd (kPiL K rfl (pv 2)) (blkOk_by (own := [("_law_tap", 15)]) (N := nm_law) (sc := (defScope s_law)) (by decide +kernel)) (fun _ _ _ _ _ => (pg_name (i := 15) sc_law.nd rfl (Or.inl rfl))) (fun _ _ _ _ _ => pts_nil) (fun _ _ _ _ _ => (pe_callTy (kList K rfl) (by rfl) T.f_list boot_list (pa_cons (pv 15) pa_nil)))) pa_nil)))
      (pss_cons (ps_set (i := 5) sc_law.nd rfl (Or.inl rfl) (pe_cal c_law_received T.g__law_received hr (pa_cons (pv 2) (pa_cons (pv 1) (pa_cons pe_int (pa_cons (pv 3) pa_nil))))))
      (pss_cons (ps_if (pt_not (pt_val (pe_cal c_law_small T.g__law_small hr (pa_cons (pv 4) (pa_cons (pv 2) (pa_cons (pv 5) (pa_cons (pv 3) pa_nil))))))) (pss_one (ps_ret pe_bl)) pss_nil)
      (pss_cons (ps_set (i := 6) sc_law.nd rfl (Or.inl rfl) (pe_cal c_law_free T.g__law_free hr (pa_cons (pv 2) pa_nil)))
      (pss_cons (ps_if (pt_not (pt_val (pe_cal c_law_same T.g__law_same hr (pa_cons (pe_cal cfree_distance T.g_free_distance hr (pa_cons (pv 4) pa_nil)) (pa_cons (pv 6) pa_nil))))) (pss_one (ps_ret pe_bl)) pss_nil)
      (pss_cons (ps_set (i := 7) sc_law.nd rfl (Or.inl rfl) (pe_ix (kIxL K rfl) (pe_lst (pa_cons pe_int (pa_cons pe_int (pa_cons pe_int (pa_cons pe_int (pa_cons pe_int (pa_cons pe_int pa_nil))))))) (pe_op op_sub (pe_callB (kLen K rfl) (by rfl) T.f_len boot_len (pa_cons (pe_ix (kIxL K rfl) (pv 2) pe_int (fun _ _ => rfl)) pa_nil)) pe_int) (fun _ _ => rfl)))
      (pss_cons (ps_if (PW.pt (pw_and (pt_cmpR op_lt (pe_callB (kLen K rfl) (by rfl) T.f_len boot_len (pa_cons (pe_ix (kIxL K rfl) (pv 2) pe_int (fun _ _ => rfl)) pa_nil)) pe_int (nomark _)) (pw_and1 (pt_cmpR op_eq (pe_op op_mod (pe_callTy cl_int (by rfl) T.f_int bb_int (pa_cons (pe_ix (kIxL K rfl) (pv 1) pe_int (fun _ _ => rfl)) pa_nil)) pe_int) pe_int (nomark _))))) (pss_one (ps_set (i := 7) sc_law.nd rfl (Or.inl rfl) pe_int)) pss_nil)
      (pss_cons (ps_setLc (i := 8) (own := [("_law_k", 16)]) rfl sc_law.nd rfl rfl (sw_true rfl rfl rfl (by decide +kernel)) (pi_range1 rfl T.f_range (pa_cons (pe_op op_mod (pe_callTy cl_int (by rfl) T.f_int bb_int (pa_cons (pe_ix (kIxL K rfl) (pv 1) pe_int (fun _ _ => rfl)) pa_nil)) (pv 7)) pa_nil)) (blkOk_by (own := [("_law_k", 16)]) (N := nm_law) (sc := (defScope s_law)) (by decide +kernel)) (fun _ _ _ _ _ => (pg_name (i := 16) sc_law.nd rfl (Or.inl rfl))) (fun _ _ _ _ _ => pts_nil) (fun _ _ _ _ _ => (pe_op op_mod (pe_callTy cl_int (by rfl) T.f_int bb_int (pa_cons (pe_op op_fdiv (pe_ix (kIxL K rfl) (pv 1) (pe_op op_add pe_int (pe_op op_mod (pe_callTy cl_int (by rfl) T.f_int bb_int (pa_cons (pv 16) pa_nil)) pe_int)) (fun _ _ => rfl)) (pe_op op_add pe_int (pe_op op_fdiv (pv 16) pe_int))) pa_nil)) pe_int)))
      (pss_cons (ps_set (i := 9) sc_law.nd rfl (Or.inl rfl) pe_int)
      (pss_cons (ps_for PassesOwn.never rfl (kPiL K rfl (pv 8)) (pg_name (i := 10) sc_law.nd rfl (Or.inl rfl)) (pss_one (ps_set (i := 9) sc_law.nd rfl (Or.inl rfl) (pe_op op_mul (pv 9) pe_int))))
      (pss_cons (ps_set (i := 11) sc_law.nd rfl (Or.inl rfl) (pe_cal c_law_word T.g__law_word hr (pa_cons (pv 2) (pa_cons (pv 8) pa_nil))))
      (pss_cons (ps_if (pt_not (pt_val (pe_cal c_law_same T.g__law_same hr (pa_cons (pe_cal cbest_path T.g_best_path hr (pa_cons (pv 4) (pa_cons (pe_op op_rep (pe_lst (pa_cons pe_non pa_nil)) (pe_callB (kLen K rfl) (by rfl) T.f_len boot_len (pa_cons (pv 11) pa_nil))) pa_nil))) (pa_cons (pe_tup (pa_cons pe_int (pa_cons (pe_op op_rep (pe_lst (pa_cons pe_int pa_nil)) (pe_callB (kLen K rfl) (by rfl) T.f_len boot_len (pa_cons (pv 8) pa_nil))) (pa_cons (pv 9) pa_nil)))) pa_nil))))) (pss_one (ps_ret pe_bl)) pss_nil)
      (pss_cons (ps_asg (pe_cal c_law_pattern T.g__law_pattern hr (pa_cons (pv 11) (pa_cons (pv 6) (pa_cons (pv 1) (pa_cons pe_int pa_nil))))) (kPgT (n := 2) K rfl rfl (pgs_cons (pg_name (i := 5) sc_law.nd rfl (Or.inl rfl)) (pgs_cons (pg_name (i := 12) sc_law.nd rfl (Or.inl rfl)) pgs_nil))))
      (pss_cons (ps_set (i := 13) sc_law.nd rfl (Or.inl rfl) (pe_callTy (kList K rfl) (by rfl) T.f_list boot_list (pa_cons (pv 5) pa_nil)))
      (pss_cons (ps_if (PW.pt (pw_or (pt_not (pt_val (pe_cal c_law_same T.g__law_same hr (pa_cons (pe_cal cbest_path T.g_best_path hr (pa_cons (pv 4) (pa_cons (pv 13) pa_nil))) (pa_cons (pe_tup (pa_cons (pv 12) (pa_cons (pv 8) (pa_cons pe_int pa_nil)))) pa_nil))))) (pw_or1 (pt_not (pt_val (pe_cal c_law_same T.g__law_same hr (pa_cons (pv 13) (pa_cons (pv 5) pa_nil)))))))) (pss_one (ps_ret pe_bl)) pss_nil)
      (pss_cons (ps_if (pt_not (pt_val (pe_cal c_law_same T.g__law_same hr (pa_cons (pe_listN cnearest_messages T.g_nearest_messages T.f_list boot_list hr (pa_cons (pv 4) (pa_cons (pv 13) pa_nil))) (pa_cons (pe_lst (pa_cons (pv 8) pa_nil)) pa_nil))))) (pss_one (ps_ret pe_bl)) pss_nil)
      (pss_cons (ps_set (i := 14) sc_law.nd rfl (Or.inl rfl) (pe_cal ccosts_to_go T.g_costs_to_go hr (pa_cons (pv 4) (pa_cons (pv 13) pa_nil))))
      (pss_cons (ps_if (PW.pt (pw_or (pt_cmpR op_notBl (pe_cal ccheck_path T.g_check_path hr (pa_cons (pv 4) (pa_cons (pv 13) (pa_cons (pv 12) (pa_cons (pv 8) (pa_cons (pv 14) pa_nil)))))) pe_bl (nomark _)) (pw_or1 (pt_not (pt_val (pe_cal c_law_same T.g__law_same hr (pa_cons (pe_ix (kIxL K rfl) (pe_ix (kIxL K rfl) (pv 14) pe_int (fun _ _ => rfl)) pe_int (fun _ _ => rfl)) (pa_cons (pv 12) pa_nil)))))))) (pss_one (ps_ret pe_bl)) pss_nil)
      (pss_cons (ps_if (pt_cmpR op_notBl (pe_cal ccheck_path T.g_check_path hr (pa_cons (pv 4) (pa_cons (pv 13) (pa_cons (pe_op op_add (pv 12) pe_int) (pa_cons (pv 8) (pa_cons (pv 14) pa_nil)))))) pe_bl (nomark _)) (pss_one (ps_ret pe_bl)) pss_nil)
      (pss_cons (ps_if (PW.pt (pw_and (pt_cmpR (kNeD K rfl hr.units) (pv 8) (pe_lst pa_nil) (nomark _)) (pw_and1 (pt_cmpR op_notBl (pe_cal ccheck_path T.g_check_path hr (pa_cons (pv 4) (pa_cons (pv 13) (pa_cons (pv 12) (pa_cons (pe_op op_cat (pe_lst (pa_cons (pe_op op_sub pe_int (pe_ix (kIxL K rfl) (pv 8) pe_int (fun _ _ => rfl))) pa_nil)) (pe_slice (kSl K rfl) (pv 8) (po_some pe_int) po_none)) (pa_cons (pv 14) pa_nil)))))) pe_bl (nomark _))))) (pss_one (ps_ret pe_bl)) pss_nil)
      (pss_one (ps_ret (pe_cal c_law_same T.g__law_same hr (pa_cons (pe_cal c_law_decoded T.g__law_decoded hr (pa_cons (pv 4) (pa_cons (pv 2) (pa_cons (pv 5) (pa_cons (pe_lst (pa_cons (pv 8) pa_nil)) pa_nil))))) (pa_cons (pe_tup (pa_cons (pv 12) (pa_cons (pv 8) (pa_cons pe_int pa_nil)))) pa_nil)))))))))))))))))))))))))))), en1 (n := 16) rfl fun B l0 Q hp rt => ?_⟩
  refine q_asgP (cp2 (by wtm_at "E") (by wtm_at "E") ⟨hp, rfl⟩) (fun l hl => ?_)
  have hl : Nums 80 l := hl
  have i70 := nums_at hl (i := 70) (by omega) (by omega)
  have i71 := nums_at hl (i := 71) (by omega) (by omega)
  have i7 := nums_at hl (i := 7) (by omega) (by omega)
  have i56 := nums_at hl (i := 56) (by omega) (by omega)
  refine q_asgP (cp3 (by wtm_at "E") (by wtm_at "E") (by wtm_at "E") ⟨hl, rfl, by split <;> omega, by split <;> omega⟩) (fun t g => ?_)
  have g : GT t := g
  obtain ⟨h0, h1⟩ := gt_0 g
  have g1 := g.lo
  have g2 := g.hi
  have g3 := g.me
  obtain ⟨n, hn, hn4⟩ : ∃ n : Nat, (n : Int) = min (l.getD (7 : Int).toNat 0 % 5) (7 - ((t.getD 0 []).length : Int)) ∧ n ≤ 4 := ⟨(min (l.getD (7 : Int).toNat 0 % 5) (7 - ((t.getD 0 []).length : Int))).toNat, by omega, by omega⟩
  refine q_asg (x := (n : Int)) (Ev.to (by wtm_at "E") hn.symm) ?_
  refine q_asg (R := rEncoder K) (x := t) (ev_make t (ea_cons (EvL.ev (EvL.to (el_lc (R := rLst rInt) (xs := t) (f := fun p => p) (by wtm_at "E") tg_name (by wtm_at "side") (by omega) (fun p hp => EvL.ev (el_listL (ev_var rfl)))) (List.map_id' t))) ea_nil) g) ?_
  refine q_asgP (cp4 (by wtm_at "E") (by wtm_at "E") (by wtm_at "E") (by wtm_at "E") ⟨g, hl, rfl, by omega, by omega⟩) (fun r hr => ?_)
  have hr36 : t.length * (n + mem t) ≤ 4 * 9 := Nat.mul_le_mul g2 (by omega)
  have hv : Rv t n r := by
    obtain ⟨hr1, hr2⟩ := hr
    rw [Int.toNat_natCast] at hr1
    exact ⟨g, hr1, hr2, by omega⟩
  refine q_no (et_not (et_test (cd4 (by wtm_at "E") (by wtm_at "E") (by wtm_at "E") (by wtm_at "E") ⟨rfl, by omega, by omega, by rw [Int.toNat_natCast]; exact hv⟩))) rfl ?_
  refine q_asg (x := frd t) (cd1 (by wtm_at "E") g) ?_
  refine q_no (et_not (et_test (ev_same (R := rInt) (cd1 (by wtm_at "E") ⟨g, rk_ok t⟩) (by wtm_at "E") rfl (fun F v h => cv_int h)))) rfl ?_
  refine q_asg (x := ([25, 25, 15, 8, 4, 3] : List Int).getD (mem t) 0) (ev_ixL (R := rInt) (xs := [25, 25, 15, 8, 4, 3]) (i := (mem t : Int)) (by wtm_at "E") (Ev.to (ev_opI0 (f := fun i j => i - j) (ev_lenL (ev_ixL (by wtm_at "E") (by wtm_at "E") h1)) ev_int) (by rw [h0]; omega)) (atI_0 (show mem t < 6 by omega))) ?_
  have hmo : 1 ≤ ([25, 25, 15, 8, 4, 3] : List Int).getD (mem t) 0 ∧ ([25, 25, 15, 8, 4, 3] : List Int).getD (mem t) 0 ≤ 120 := by
    have : mem t = 0 ∨ mem t = 1 ∨ mem t = 2 ∨ mem t = 3 ∨ mem t = 4 ∨ mem t = 5 := by omega
    rcases this with q | q | q | q | q | q <;> rw [q] <;> decide
  generalize ([25, 25, 15, 8, 4, 3] : List Int).getD (mem t) 0 = mo at hmo
  refine q_meet (I := Int) (fun mo => 1 ≤ mo ∧ mo ≤ 120) (fun mo => [.any, sf (rLst rInt) l, sf rRows t, .any, sf (rEncoder K) t, .any, sf rInt (frd t), sf rInt mo, .any, .any, .any, .any, .any, .any, .any, .any, .any]) (et_and (by wtm_at "E") (fun _ => by wtm_at "E")) (fun _ E k => s_asg (by wtm_at "E") (Wn.sub (by wtm_at "sub") (k 120 ⟨by decide, by decide⟩))) (fun _ E k => s_next (Wn.sub (by wtm_at "sub") (k mo hmo))) (fun mo hmo => ?_)
  have hcm : 0 ≤ l.getD (56 : Int).toNat 0 % mo ∧ l.getD (56 : Int).toNat 0 % mo < mo := ⟨Int.emod_nonneg _ (by omega), Int.emod_lt_of_pos _ (by omega)⟩
  obtain ⟨c, hc, hc2⟩ : ∃ c : Nat, (c : Int) = l.getD (56 : Int).toNat 0 % mo ∧ c < 120 := ⟨(l.getD (56 : Int).toNat 0 % mo).toNat, by omega, by omega⟩
  have hmo0 : (0 : Int) < mo := by omega
  obtain ⟨m, hm, hmb, hml⟩ : ∃ m : List Int, m = (List.range c).map (fun k : Nat => (l.getD (48 + (k : Int) % 8).toNat 0) / (1 + (k : Int) / 8) % 2) ∧ Bits m ∧ m.length = c := ⟨_, rfl, fun x hx => by
    obtain ⟨k, _, rfl⟩ := List.mem_map.mp hx
    exact bit_mod _, by rw [List.length_map, List.length_range]⟩
  refine q_asg (x := m) (EvL.ev (EvL.to (el_lcR (S := rInt) (k := (c : Int)) (f := fun k : Nat => (l.getD (48 + (k : Int) % 8).toNat 0) / (1 + (k : Int) / 8) % 2) (Ev.to (by wtm_at "E") hc.symm) (by wtm_at "side") (by omega) (by omega) (fun k hk => ?_)) (by rw [Int.toNat_natCast]; exact hm.symm))) ?_
  · have i8 := nums_at hl (i := 48 + (k : Int) % 8) (by omega) (by omega)
    wtm_at "E"
  clear hm hc hcm
  refine q_asg (x := (2 : Int) ^ 0) (Ev.to (by wtm_at "E") (by rfl)) ?_
  refine q_forL (I := Unit) (fun i _ => True) (fun i _ => [.any, sf (rLst rInt) l, sf rRows t, .any, sf (rEncoder K) t, .any, sf rInt (frd t), .any, sf (rLst rInt) m, sf rInt ((2 : Int) ^ i), .any, .any, .any, .any, .any, .any, .any]) tg_name (by wtm_at "E") ⟨(), trivial, by wtm_at "sub"⟩ (fun B1 up i _ y hy _ => s_asg (x := (2 : Int) ^ (i + 1)) (Ev.to (ev_opI (f := fun i j => i * j) (ev_var rfl) ev_int (Or.inr ⟨by decide, by decide⟩)) (Int.pow_succ 2 i).symm) (wn_lp () trivial (by wtm_at "sub"))) (fun _ _ => ?_)
  refine q_asg (x := word t m) (cd2 (by wtm_at "E") (by wtm_at "E") ⟨g, hmb, by omega⟩) ?_
  have hwl := word_length t m
  have hw4 : t.length * (m.length + mem t) ≤ 4 * 125 := Nat.mul_le_mul g2 (by omega)
  have hw : t.length * (m.length + mem t) ≤ 10000 := by omega
  have hnr := none_rv (n := m.length) g hw
  have hna := none_all (n := m.length) g hw
  refine q_no (et_not (et_test (ev_same (R := rTri rInt (rLst rInt) rInt) (y := (0, zs m.length, (2 : Int) ^ m.length)) (cd2 (by wtm_at "E") (EvL.ev (EvL.to (el_rep (R := rOpt rInt) (x := none) ev_none (by wtm_at "E") (by omega) (by omega)) (by rw [Int.toNat_natCast, hwl]))) hnr.wt) (ev_tri ev_int (EvL.ev (EvL.to (el_rep (R := rInt) (x := 0) ev_int (by wtm_at "E") (by omega) (by omega)) (by rw [Int.toNat_natCast]; rfl))) (by wtm_at "E")) ?_ (fun F v h => cv_due ?_ h)))) rfl ?_
  · rw [hnr.ml, hna.2.1, hna.2.2]
    exact congrArg (·, zs m.length, (2 : Int) ^ m.length) hna.1
  · show (zs m.length).length ≤ _
    unfold zs
    rw [List.length_replicate]; omega
  refine q_tgtP tg_pair (cp4 (by wtm_at "E") (by wtm_at "E") (by wtm_at "E") (by wtm_at "E") ⟨word_bits t m, by omega, frd_pos g, hl, rfl⟩) (fun y hy => ?_)
  obtain ⟨r2, e⟩ := y
  obtain ⟨er, es, ⟨pool, hpat⟩, he, hf⟩ := hy
  have he : e = (es : Int) := he
  subst he
  have hP : PatP t m r2 (es : Int) := hpat.fin hf
  have hv2 := hP.rv g hw
  obtain ⟨o1, o2⟩ := hP.only g hw hmb
  have hml2 := hv2.ml
  have hwt2 := hv2.wt
  have hd2 := hP.err
  have hrl : r2.length ≤ 100000 := by have := hv2.le; omega
  have hml3 : m.length ≤ 100000 := by omega
  dsimp only
  have hbp : (ctg t (ml t r2) (stp t r2) 0, gr t (ml t r2) (stp t r2) 0, cnt t (ml t r2) (stp t r2) 0) = ((es : Int), m, (1 : Int)) := by
    rw [hml2, hv2.gr, hv2.cnt, o2]
    exact congrArg (·, m, (1 : Int)) o1
  have hlst : ctg t (ml t r2) (stp t r2) 0 = (es : Int) := congrArg Prod.fst hbp
  clear hpat hna hnr
  refine q_asg (x := r2) (EvL.ev (el_listL (ev_var rfl))) ?_
  refine q_no (et_or (et_not (et_test (ev_same (R := rTri rInt (rLst rInt) rInt) (y := ((es : Int), m, (1 : Int))) (cd2 (by wtm_at "E") (by wtm_at "E") hwt2) (by wtm_at "E") hbp (fun F v h => cv_due hml3 h)))) (fun _ => et_not (et_test (ev_same (R := rRec0) (by wtm_at "E") (by wtm_at "E") rfl (fun F v h => cv_rec hrl h))))) rfl ?_
  refine q_no (et_not (et_test (ev_same (R := rRows) (y := [m]) (EvL.ev (el_listG2 (by wtm_at "E") (by wtm_at "E") ⟨hwt2, by rw [hml2, hv2.bst, o2]; exact (by decide : 1 ≤ 100000)⟩)) (EvL.ev (el_disp (eh_cons (by wtm_at "E") eh_nil) (by show 1 ≤ 10000000; decide))) (by rw [hml2, hv2.bst, o2]) (fun F v h => cv_rows (show [m].length ≤ 100000 from (by decide : 1 ≤ 100000)) (fun x hx => by rw [List.mem_singleton.mp hx]; exact hml3) h)))) rfl ?_
  refine q_asg (x := ctb t r2) (cd2 (by wtm_at "E") (by wtm_at "E") hwt2) ?_
  obtain ⟨c1, c2⟩ := ctb_00 hv2
  rw [o1] at c2
  refine q_no (et_or (et_test (ev_notB (Ev.to (cd5 (by wtm_at "E") (by wtm_at "E") (by wtm_at "E") (by wtm_at "E") (by wtm_at "E") ⟨hwt2, hmb, hml2.symm, rfl⟩) (by rw [hlst, hd2]; simp : _ = true)) ev_bl)) (fun _ => et_not (et_test (ev_same (R := rInt) (ev_ixL (ev_ixL (by wtm_at "E") ev_int c1) ev_int c2) (by wtm_at "E") rfl (fun F v h => cv_int h))))) rfl ?_
  refine q_no (et_test (ev_notB (Ev.to (cd5 (x3 := (es : Int) + 1) (by wtm_at "E") (by wtm_at "E") (by wtm_at "E") (by wtm_at "E") (by wtm_at "E") ⟨hwt2, hmb, hml2.symm, rfl⟩) (by rw [hd2, decide_eq_false (show ¬ (es : Int) = (es : Int) + 1 by omega)]; rfl : _ = false)) ev_bl)) rfl ?_
  refine q_no (b := !decide (m = []) && false) (et_and (et_test (ev_neL (by wtm_at "E") (EvL.ev el_nil))) (fun hne => ?_)) (by simp) ?_
  · have hne : m ≠ [] := by simpa using hne
    obtain ⟨f1, f2, f3, f4⟩ := flip_ok hmb hne
    have f5 := hP.other g hmb f2 f3 f4
    refine et_test (ev_notB (a := false) (Ev.to (cd5 (x4 := [1 - m.getD 0 0] ++ m.drop 1) (by wtm_at "E") (by wtm_at "E") (by wtm_at "E") (EvL.ev (el_cat (EvL.ev (el_disp (eh_cons (ev_opI0 (f := fun i j => i - j) ev_int (ev_ixL (by wtm_at "E") ev_int f1)) eh_nil) (by show 1 ≤ 10000000; decide))) (EvL.ev (EvL.to (el_slice (by wtm_at "E") (eo_some ev_int) eo_none) (cutA_drop (by decide)))) ?_)) (by wtm_at "E") ⟨hwt2, f2, by rw [hml2]; exact f3, rfl⟩) ?_) ev_bl)
    · rw [List.length_drop]; show 1 + _ ≤ _; omega
    · rw [decide_eq_false f5]; rfl
  · refine s_ret (ev_same (R := rTri rInt (rLst rInt) rInt) (y := ((es : Int), m, (1 : Int))) (cd4 (by wtm_at "E") (by wtm_at "E") (by wtm_at "E") (EvL.ev (el_disp (eh_cons (by wtm_at "E") eh_nil) (by show 1 ≤ 10000000; decide))) ⟨rfl, by rw [hml2]; exact hv2, by rw [hml2, o2]⟩) (by wtm_at "E") ?_ (fun F v h => cv_due hml3 h)) rt rfl
    exact congrArg (·, m, (1 : Int)) hlst
end NW
set_option maxHeartbeats 4000000
namespace NW
open PySem PySem.Spec PyProof.Rows L2 G MX NH
/-! ### what the top has made -/
theorem says1 {K : PySem.W.Frag} (c : SaysM K) : He.SaysD fa fn K := congrArg (fun z : AlM => z.1) c
theorem says2 {K : PySem.W.Frag} (c : SaysM K) : getW K = getV := congrArg (fun z : AlM => z.2.1) c
theorem says3 {K : PySem.W.Frag} (c : SaysM K) : (propB K && tupB K) = true := congrArg (fun z : AlM => z.2.2) c
theorem tF_of {K : PySem.W.Frag} (h : tupB K = true) (H : Hp) : SqT K H (dflT K) [.int 0, .int 1] := by
  unfold tupB at h
  cases q : K.lookup (dflT K) with
  | none => rw [q] at h; cases h
  | some o =>
    obtain ⟨oc, od, dt, osl⟩ := o
    rw [q] at h
    cases oc with
    | type c =>
      cases dt with
      | seq its n =>
        obtain ⟨h1, h2⟩ := He.ba (show (decide (c = "tuple") && (decide (its.size ≤ sizeLine) && He.relAll [.int 0, .int 1] its.toList)) = true from h)
        obtain ⟨h3, h4⟩ := He.ba h2
        exact .inr ⟨_, its, n, q, congrArg Value.type (of_decide_eq_true h1), rfl, of_decide_eq_true h3, He.relAll_ok h4⟩
      | _ => cases h
    | _ => cases dt <;> cases h
theorem pS_of {K : PySem.W.Frag} (e : getW K = getV) (h : propB K = true) : ∃ p g, PropOf K (aPathDecoder K) "settled" p g ∧ FunN K "settled" "PathDecoder.settled" s_PathDecoder_settled g := by
  unfold propB at h
  obtain ⟨a1, h⟩ := He.ba h
  obtain ⟨a2, h⟩ := He.ba h
  obtain ⟨a3, h⟩ := He.ba h
  obtain ⟨a4, h⟩ := He.ba h
  obtain ⟨kp, c2⟩ := He.ba h
  refine ⟨propP K, propG K, ⟨He.eqO_ok a1, He.eqO_ok a2, of_decide_eq_true a3, ?_⟩, ?_⟩
  · unfold propG
    cases q : PySem.W.recIn K (propP K) "property" with
    | none => rw [q] at a4; cases a4
    | some l =>
      rw [q] at a4
      cases l with
      | nil => cases a4
      | cons u r => cases u with
        | ref g => exact ⟨r, rfl⟩
        | _ => cases a4
  · unfold getW at e
    cases q : K.lookup (propG K) with
    | none => rw [q] at c2; cases c2
    | some ob =>
      obtain ⟨oc, od, dt, osl⟩ := ob
      rw [q] at c2 e
      cases dt with
      | func fd =>
        obtain ⟨n1, n2, n3, n4, n5, n6, n7, n8, n9, n10, n11, n12, n13, n14, n15⟩ := fd
        have e2 : (some (n1, n2, n3, n4, n5, n6, n7, n15) : He.FnW) = getV := e
        simp only [getV, Option.some.injEq, Prod.mk.injEq] at e2
        obtain ⟨h1, h2, h3, h4, h5, h6, h7, h8⟩ := e2
        subst h1 h2 h3 h4 h5 h6 h7 h8
        obtain ⟨k1, k2⟩ := He.ba (show (PySem.W.codeIn K n13 "PathDecoder.settled" && He.dflB K n8 []) = true from c2)
        exact ⟨_, ⟨oc, od, n8, n9, n10, n11, n12, n13, n14, osl, rfl, q, k1, He.dflB_ok k2, .inl rfl⟩, kp⟩
      | _ => cases c2
theorem tx_of {K : PySem.W.Frag} {h : Heap} {mg : Str → Option Value} (X : K.In h) (G : h.Ns mainGlobals mg) (c : SaysM K) : Tx K mg where
  f_range := He.free_ok X G ((says1 c).fact 118 (f := .free "range") rfl)
  f_len := He.free_ok X G ((says1 c).fact 119 (f := .free "len") rfl)
  f_list := He.free_ok X G ((says1 c).fact 120 (f := .free "list") rfl)
  f_tuple := He.free_ok X G ((says1 c).fact 121 (f := .free "tuple") rfl)
  f_int := He.free_ok X G ((says1 c).fact 122 (f := .free "int") rfl)
  f_bool := He.free_ok X G ((says1 c).fact 123 (f := .free "bool") rfl)
  f_abs := He.free_ok X G ((says1 c).fact 124 (f := .free "abs") rfl)
  f_min := He.free_ok X G ((says1 c).fact 125 (f := .free "min") rfl)
  f_max := He.free_ok X G ((says1 c).fact 126 (f := .free "max") rfl)
  f_sum := He.free_ok X G ((says1 c).fact 127 (f := .free "sum") rfl)
  f_sorted := He.free_ok X G ((says1 c).fact 128 (f := .free "sorted") rfl)
  f_reversed := He.free_ok X G ((says1 c).fact 129 (f := .free "reversed") rfl)
  f_zip := He.free_ok X G ((says1 c).fact 130 (f := .free "zip") rfl)
  f_isinstance := He.free_ok X G ((says1 c).fact 131 (f := .free "isinstance") rfl)
  i_LARGEST_PRIME := He.int_ok X G ((says1 c).fact 132 (f := .int "LARGEST_PRIME" 31) rfl)
  i_LARGEST_ORDER := He.int_ok X G ((says1 c).fact 133 (f := .int "LARGEST_ORDER" 256) rfl)
  i_MOST_ITEMS := He.int_ok X G ((says1 c).fact 134 (f := .int "MOST_ITEMS" 255) rfl)
  i_MOST_WORDS := He.int_ok X G ((says1 c).fact 135 (f := .int "MOST_WORDS" 4096) rfl)
  g_int_power := He.glo_ok X G ((says1 c).fact 0 (f := .glo "int_power") rfl)
  g_is_prime := He.glo_ok X G ((says1 c).fact 1 (f := .glo "is_prime") rfl)
  g_base_digits := He.glo_ok X G ((says1 c).fact 2 (f := .glo "base_digits") rfl)
  g_is_irreducible := He.glo_ok X G ((says1 c).fact 3 (f := .glo "is_irreducible") rfl)
  g_is_modulus := He.glo_ok X G ((says1 c).fact 4 (f := .glo "is_modulus") rfl)
  g_check_width := He.glo_ok X G ((says1 c).fact 5 (f := .glo "check_width") rfl)
  g_row_with_pivot := He.glo_ok X G ((says1 c).fact 6 (f := .glo "row_with_pivot") rfl)
  g_without_multiple := He.glo_ok X G ((says1 c).fact 7 (f := .glo "without_multiple") rfl)
  g_reduce_rows := He.glo_ok X G ((says1 c).fact 8 (f := .glo "reduce_rows") rfl)
  g_kernel := He.glo_ok X G ((says1 c).fact 9 (f := .glo "kernel") rfl)
  g_check_lengths := He.glo_ok X G ((says1 c).fact 10 (f := .glo "check_lengths") rfl)
  g_erased_positions := He.glo_ok X G ((says1 c).fact 11 (f := .glo "erased_positions") rfl)
  g_errors_beside := He.glo_ok X G ((says1 c).fact 12 (f := .glo "errors_beside") rfl)
  g_is_word := He.glo_ok X G ((says1 c).fact 13 (f := .glo "is_word") rfl)
  g_is_received := He.glo_ok X G ((says1 c).fact 14 (f := .glo "is_received") rfl)
  g_zero_word := He.glo_ok X G ((says1 c).fact 15 (f := .glo "zero_word") rfl)
  g_check_words := He.glo_ok X G ((says1 c).fact 16 (f := .glo "check_words") rfl)
  g_add_words := He.glo_ok X G ((says1 c).fact 17 (f := .glo "add_words") rfl)
  g_scale_word := He.glo_ok X G ((says1 c).fact 18 (f := .glo "scale_word") rfl)
  g_check_rows := He.glo_ok X G ((says1 c).fact 19 (f := .glo "check_rows") rfl)
  g_is_bit := He.glo_ok X G ((says1 c).fact 20 (f := .glo "is_bit") rfl)
  g_has_bits_only := He.glo_ok X G ((says1 c).fact 21 (f := .glo "has_bits_only") rfl)
  g_checked_taps := He.glo_ok X G ((says1 c).fact 22 (f := .glo "checked_taps") rfl)
  g_message_size := He.glo_ok X G ((says1 c).fact 23 (f := .glo "message_size") rfl)
  g_step_table := He.glo_ok X G ((says1 c).fact 24 (f := .glo "step_table") rfl)
  g_received_steps := He.glo_ok X G ((says1 c).fact 25 (f := .glo "received_steps") rfl)
  g_costs_to_go := He.glo_ok X G ((says1 c).fact 26 (f := .glo "costs_to_go") rfl)
  g_best_path := He.glo_ok X G ((says1 c).fact 27 (f := .glo "best_path") rfl)
  g_nearest_messages := He.glo_ok X G ((says1 c).fact 28 (f := .glo "nearest_messages") rfl)
  g_is_bound := He.glo_ok X G ((says1 c).fact 29 (f := .glo "is_bound") rfl)
  g_check_path := He.glo_ok X G ((says1 c).fact 30 (f := .glo "check_path") rfl)
  g_weighted_steps := He.glo_ok X G ((says1 c).fact 31 (f := .glo "weighted_steps") rfl)
  g_ranks_to_zero := He.glo_ok X G ((says1 c).fact 32 (f := .glo "ranks_to_zero") rfl)
  g_weights_to_zero := He.glo_ok X G ((says1 c).fact 33 (f := .glo "weights_to_zero") rfl)
  g_free_distance := He.glo_ok X G ((says1 c).fact 34 (f := .glo "free_distance") rfl)
  g_check_received := He.glo_ok X G ((says1 c).fact 35 (f := .glo "check_received") rfl)
  g_nearest := He.glo_ok X G ((says1 c).fact 36 (f := .glo "nearest") rfl)
  g_common_start := He.glo_ok X G ((says1 c).fact 37 (f := .glo "common_start") rfl)
  g_merged := He.glo_ok X G ((says1 c).fact 38 (f := .glo "merged") rfl)
  g__law_row := He.glo_ok X G ((says1 c).fact 39 (f := .glo "_law_row") rfl)
  g__law_numbers := He.glo_ok X G ((says1 c).fact 40 (f := .glo "_law_numbers") rfl)
  g__law_same := He.glo_ok X G ((says1 c).fact 41 (f := .glo "_law_same") rfl)
  g__law_taps := He.glo_ok X G ((says1 c).fact 42 (f := .glo "_law_taps") rfl)
  g__law_count := He.glo_ok X G ((says1 c).fact 43 (f := .glo "_law_count") rfl)
  g__law_step := He.glo_ok X G ((says1 c).fact 44 (f := .glo "_law_step") rfl)
  g__law_word := He.glo_ok X G ((says1 c).fact 45 (f := .glo "_law_word") rfl)
  g__law_messages := He.glo_ok X G ((says1 c).fact 46 (f := .glo "_law_messages") rfl)
  g__law_differ := He.glo_ok X G ((says1 c).fact 47 (f := .glo "_law_differ") rfl)
  g__law_received := He.glo_ok X G ((says1 c).fact 48 (f := .glo "_law_received") rfl)
  g__law_nearest := He.glo_ok X G ((says1 c).fact 49 (f := .glo "_law_nearest") rfl)
  g__law_free := He.glo_ok X G ((says1 c).fact 50 (f := .glo "_law_free") rfl)
  g__law_decoded := He.glo_ok X G ((says1 c).fact 51 (f := .glo "_law_decoded") rfl)
  g__law_small := He.glo_ok X G ((says1 c).fact 52 (f := .glo "_law_small") rfl)
  g__law_pattern := He.glo_ok X G ((says1 c).fact 53 (f := .glo "_law_pattern") rfl)
  g_law := He.glo_ok X G ((says1 c).fact 54 (f := .glo "law") rfl)
  gc_Field := He.glo_ok X G ((says1 c).fact 55 (f := .glo "Field") rfl)
  c_Field := He.cls_ok ((says1 c).fact 56 (f := .cls "Field") rfl)
  mk_Field := He.mkr_ok ((says1 c).fact 57 (f := .mkr "Field") rfl)
  n_Field_prime := He.noat_ok ((says1 c).fact 58 (f := .noat "Field" "prime") rfl)
  n_Field_modulus := He.noat_ok ((says1 c).fact 59 (f := .noat "Field" "modulus") rfl)
  n_Field_degree := He.noat_ok ((says1 c).fact 60 (f := .noat "Field" "degree") rfl)
  n_Field_order := He.noat_ok ((says1 c).fact 61 (f := .noat "Field" "order") rfl)
  m_Field_digits := He.meth_ok ((says1 c).fact 62 (f := .meth "Field" "digits") rfl)
  m_Field_element := He.meth_ok ((says1 c).fact 63 (f := .meth "Field" "element") rfl)
  m_Field_plus := He.meth_ok ((says1 c).fact 64 (f := .meth "Field" "plus") rfl)
  m_Field_negative := He.meth_ok ((says1 c).fact 65 (f := .meth "Field" "negative") rfl)
  m_Field_minus := He.meth_ok ((says1 c).fact 66 (f := .meth "Field" "minus") rfl)
  m_Field_times := He.meth_ok ((says1 c).fact 67 (f := .meth "Field" "times") rfl)
  m_Field_inverse := He.meth_ok ((says1 c).fact 68 (f := .meth "Field" "inverse") rfl)
  gc_LinearCode := He.glo_ok X G ((says1 c).fact 69 (f := .glo "LinearCode") rfl)
  c_LinearCode := He.cls_ok ((says1 c).fact 70 (f := .cls "LinearCode") rfl)
  mk_LinearCode := He.mkr_ok ((says1 c).fact 71 (f := .mkr "LinearCode") rfl)
  n_LinearCode_field := He.noat_ok ((says1 c).fact 72 (f := .noat "LinearCode" "field") rfl)
  n_LinearCode_length := He.noat_ok ((says1 c).fact 73 (f := .noat "LinearCode" "length") rfl)
  n_LinearCode_dimension := He.noat_ok ((says1 c).fact 74 (f := .noat "LinearCode" "dimension") rfl)
  n_LinearCode_rows := He.noat_ok ((says1 c).fact 75 (f := .noat "LinearCode" "_rows") rfl)
  n_LinearCode_pivots := He.noat_ok ((says1 c).fact 76 (f := .noat "LinearCode" "_pivots") rfl)
  n_LinearCode_checks := He.noat_ok ((says1 c).fact 77 (f := .noat "LinearCode" "_checks") rfl)
  n_LinearCode_size := He.noat_ok ((says1 c).fact 78 (f := .noat "LinearCode" "_size") rfl)
  m_LinearCode_words := He.meth_ok ((says1 c).fact 79 (f := .meth "LinearCode" "words") rfl)
  gc_Encoder := He.glo_ok X G ((says1 c).fact 80 (f := .glo "Encoder") rfl)
  c_Encoder := He.cls_ok ((says1 c).fact 81 (f := .cls "Encoder") rfl)
  mk_Encoder := He.mkr_ok ((says1 c).fact 82 (f := .mkr "Encoder") rfl)
  n_Encoder_taps := He.noat_ok ((says1 c).fact 83 (f := .noat "Encoder" "taps") rfl)
  n_Encoder_memory := He.noat_ok ((says1 c).fact 84 (f := .noat "Encoder" "memory") rfl)
  n_Encoder_outputs := He.noat_ok ((says1 c).fact 85 (f := .noat "Encoder" "outputs") rfl)
  n_Encoder_state_count := He.noat_ok ((says1 c).fact 86 (f := .noat "Encoder" "state_count") rfl)
  m_Encoder_advance := He.meth_ok ((says1 c).fact 87 (f := .meth "Encoder" "advance") rfl)
  m_Encoder__fed := He.meth_ok ((says1 c).fact 88 (f := .meth "Encoder" "_fed") rfl)
  m_Encoder_word_for := He.meth_ok ((says1 c).fact 89 (f := .meth "Encoder" "word_for") rfl)
  m_Encoder_linear := He.meth_ok ((says1 c).fact 90 (f := .meth "Encoder" "linear") rfl)
  gc_Trellis := He.glo_ok X G ((says1 c).fact 91 (f := .glo "Trellis") rfl)
  c_Trellis := He.cls_ok ((says1 c).fact 92 (f := .cls "Trellis") rfl)
  mk_Trellis := He.mkr_ok ((says1 c).fact 93 (f := .mkr "Trellis") rfl)
  n_Trellis_steps := He.noat_ok ((says1 c).fact 94 (f := .noat "Trellis" "steps") rfl)
  n_Trellis_message_length := He.noat_ok ((says1 c).fact 95 (f := .noat "Trellis" "message_length") rfl)
  n_Trellis_table := He.noat_ok ((says1 c).fact 96 (f := .noat "Trellis" "table") rfl)
  m_Trellis_moves_from := He.meth_ok ((says1 c).fact 97 (f := .meth "Trellis" "moves_from") rfl)
  m_Trellis_costs_table := He.meth_ok ((says1 c).fact 98 (f := .meth "Trellis" "costs_table") rfl)
  m_Trellis_best_moves := He.meth_ok ((says1 c).fact 99 (f := .meth "Trellis" "best_moves") rfl)
  gc_Summary := He.glo_ok X G ((says1 c).fact 100 (f := .glo "Summary") rfl)
  c_Summary := He.cls_ok ((says1 c).fact 101 (f := .cls "Summary") rfl)
  mk_Summary := He.mkr_ok ((says1 c).fact 102 (f := .mkr "Summary") rfl)
  n_Summary_cost := He.noat_ok ((says1 c).fact 103 (f := .noat "Summary" "cost") rfl)
  n_Summary_count_of := He.noat_ok ((says1 c).fact 104 (f := .noat "Summary" "count_of") rfl)
  n_Summary_first := He.noat_ok ((says1 c).fact 105 (f := .noat "Summary" "first") rfl)
  n_Summary_start_of := He.noat_ok ((says1 c).fact 106 (f := .noat "Summary" "start_of") rfl)
  m_Summary_grown := He.meth_ok ((says1 c).fact 107 (f := .meth "Summary" "grown") rfl)
  gc_PathDecoder := He.glo_ok X G ((says1 c).fact 108 (f := .glo "PathDecoder") rfl)
  c_PathDecoder := He.cls_ok ((says1 c).fact 109 (f := .cls "PathDecoder") rfl)
  mk_PathDecoder := He.mkr_ok ((says1 c).fact 110 (f := .mkr "PathDecoder") rfl)
  n_PathDecoder_encoder := He.noat_ok ((says1 c).fact 111 (f := .noat "PathDecoder" "encoder") rfl)
  n_PathDecoder_table := He.noat_ok ((says1 c).fact 112 (f := .noat "PathDecoder" "_table") rfl)
  n_PathDecoder_steps := He.noat_ok ((says1 c).fact 113 (f := .noat "PathDecoder" "steps") rfl)
  n_PathDecoder_summaries := He.noat_ok ((says1 c).fact 114 (f := .noat "PathDecoder" "_summaries") rfl)
  m_PathDecoder_restart := He.meth_ok ((says1 c).fact 115 (f := .meth "PathDecoder" "restart") rfl)
  m_PathDecoder_take := He.meth_ok ((says1 c).fact 116 (f := .meth "PathDecoder" "take") rfl)
  m_PathDecoder_answer := He.meth_ok ((says1 c).fact 117 (f := .meth "PathDecoder" "answer") rfl)
  d_int_power := (says1 c).def_ 0 (d := d_int_power) rfl
  d_is_prime := (says1 c).def_ 1 (d := d_is_prime) rfl
  d_base_digits := (says1 c).def_ 2 (d := d_base_digits) rfl
  d_is_irreducible := (says1 c).def_ 3 (d := d_is_irreducible) rfl
  d_is_modulus := (says1 c).def_ 4 (d := d_is_modulus) rfl
  d_Field_digits := (says1 c).def_ 6 (d := d_Field_digits) rfl
  d_Field_element := (says1 c).def_ 7 (d := d_Field_element) rfl
  d_Field_plus := (says1 c).def_ 8 (d := d_Field_plus) rfl
  d_Field_negative := (says1 c).def_ 9 (d := d_Field_negative) rfl
  d_Field_minus := (says1 c).def_ 10 (d := d_Field_minus) rfl
  d_Field_times := (says1 c).def_ 11 (d := d_Field_times) rfl
  d_Field_inverse := (says1 c).def_ 12 (d := d_Field_inverse) rfl
  d_check_width := (says1 c).def_ 13 (d := d_check_width) rfl
  d_row_with_pivot := (says1 c).def_ 14 (d := d_row_with_pivot) rfl
  d_without_multiple := (says1 c).def_ 15 (d := d_without_multiple) rfl
  d_reduce_rows := (says1 c).def_ 16 (d := d_reduce_rows) rfl
  d_kernel := (says1 c).def_ 17 (d := d_kernel) rfl
  d_check_lengths := (says1 c).def_ 18 (d := d_check_lengths) rfl
  d_erased_positions := (says1 c).def_ 19 (d := d_erased_positions) rfl
  d_errors_beside := (says1 c).def_ 20 (d := d_errors_beside) rfl
  d_is_word := (says1 c).def_ 21 (d := d_is_word) rfl
  d_is_received := (says1 c).def_ 22 (d := d_is_received) rfl
  d_zero_word := (says1 c).def_ 23 (d := d_zero_word) rfl
  d_check_words := (says1 c).def_ 24 (d := d_check_words) rfl
  d_add_words := (says1 c).def_ 25 (d := d_add_words) rfl
  d_scale_word := (says1 c).def_ 26 (d := d_scale_word) rfl
  d_check_rows := (says1 c).def_ 27 (d := d_check_rows) rfl
  d_LinearCode___init__ := (says1 c).def_ 28 (d := d_LinearCode___init__) rfl
  d_LinearCode_words := (says1 c).def_ 29 (d := d_LinearCode_words) rfl
  d_is_bit := (says1 c).def_ 30 (d := d_is_bit) rfl
  d_has_bits_only := (says1 c).def_ 31 (d := d_has_bits_only) rfl
  d_checked_taps := (says1 c).def_ 32 (d := d_checked_taps) rfl
  d_message_size := (says1 c).def_ 33 (d := d_message_size) rfl
  d_step_table := (says1 c).def_ 34 (d := d_step_table) rfl
  d_Encoder___init__ := (says1 c).def_ 35 (d := d_Encoder___init__) rfl
  d_Encoder_advance := (says1 c).def_ 36 (d := d_Encoder_advance) rfl
  d_Encoder__fed := (says1 c).def_ 37 (d := d_Encoder__fed) rfl
  d_Encoder_word_for := (says1 c).def_ 38 (d := d_Encoder_word_for) rfl
  d_Encoder_linear := (says1 c).def_ 39 (d := d_Encoder_linear) rfl
  d_received_steps := (says1 c).def_ 40 (d := d_received_steps) rfl
  d_Trellis___init__ := (says1 c).def_ 41 (d := d_Trellis___init__) rfl
  d_Trellis_moves_from := (says1 c).def_ 42 (d := d_Trellis_moves_from) rfl
  d_Trellis_costs_table := (says1 c).def_ 43 (d := d_Trellis_costs_table) rfl
  d_Trellis_best_moves := (says1 c).def_ 44 (d := d_Trellis_best_moves) rfl
  d_costs_to_go := (says1 c).def_ 45 (d := d_costs_to_go) rfl
  d_best_path := (says1 c).def_ 46 (d := d_best_path) rfl
  d_nearest_messages := (says1 c).def_ 47 (d := d_nearest_messages) rfl
  d_is_bound := (says1 c).def_ 48 (d := d_is_bound) rfl
  d_check_path := (says1 c).def_ 49 (d := d_check_path) rfl
  d_weighted_steps := (says1 c).def_ 50 (d := d_weighted_steps) rfl
  d_ranks_to_zero := (says1 c).def_ 51 (d := d_ranks_to_zero) rfl
  d_weights_to_zero := (says1 c).def_ 52 (d := d_weights_to_zero) rfl
  d_free_distance := (says1 c).def_ 53 (d := d_free_distance) rfl
  d_check_received := (says1 c).def_ 54 (d := d_check_received) rfl
  d_nearest := (says1 c).def_ 55 (d := d_nearest) rfl
  d_common_start := (says1 c).def_ 56 (d := d_common_start) rfl
  d_Summary___init__ := (says1 c).def_ 57 (d := d_Summary___init__) rfl
  d_Summary_grown := (says1 c).def_ 58 (d := d_Summary_grown) rfl
  d_merged := (says1 c).def_ 59 (d := d_merged) rfl
  d_PathDecoder___init__ := (says1 c).def_ 60 (d := d_PathDecoder___init__) rfl
  d_PathDecoder_restart := (says1 c).def_ 61 (d := d_PathDecoder_restart) rfl
  d_PathDecoder_take := (says1 c).def_ 62 (d := d_PathDecoder_take) rfl
  d_PathDecoder_answer := (says1 c).def_ 63 (d := d_PathDecoder_answer) rfl
  d__law_row := (says1 c).def_ 64 (d := d__law_row) rfl
  d__law_numbers := (says1 c).def_ 65 (d := d__law_numbers) rfl
  d__law_same := (says1 c).def_ 66 (d := d__law_same) rfl
  d__law_taps := (says1 c).def_ 67 (d := d__law_taps) rfl
  d__law_count := (says1 c).def_ 68 (d := d__law_count) rfl
  d__law_step := (says1 c).def_ 69 (d := d__law_step) rfl
  d__law_word := (says1 c).def_ 70 (d := d__law_word) rfl
  d__law_messages := (says1 c).def_ 71 (d := d__law_messages) rfl
  d__law_differ := (says1 c).def_ 72 (d := d__law_differ) rfl
  d__law_received := (says1 c).def_ 73 (d := d__law_received) rfl
  d__law_nearest := (says1 c).def_ 74 (d := d__law_nearest) rfl
  d__law_free := (says1 c).def_ 75 (d := d__law_free) rfl
  d__law_decoded := (says1 c).def_ 76 (d := d__law_decoded) rfl
  d__law_small := (says1 c).def_ 77 (d := d__law_small) rfl
  d__law_pattern := (says1 c).def_ 78 (d := d__law_pattern) rfl
  d_law := (says1 c).def_ 79 (d := d_law) rfl
  dF := (says1 c).def_ 5 (d := d_Field___init__) rfl
  tF := tF_of (He.ba (says3 c)).2
  pS := pS_of (says2 c) (He.ba (says3 c)).1
/-! ### the law, all in all -/
theorem law_all {P : Program} {w : World} {K : PySem.W.Frag} {mg : Str → Option Value} {base : Heap} {fd : FuncData} (hF : FunD K "law" "law" (defArgs s_law) (defBody s_law) (defScope s_law) [] [] (He.ga K "law") fd) (T : Tx K mg) : FnOk P w K mg base CX0 12 (He.ga K "law") fd ["_law_script"] (sp_law K) := by
  obtain ⟨pS, gS, hPS, hFS⟩ := T.pS
  have cint_power : Pr_int_power P w K mg base := ok_int_power T
  have cis_prime : Pr_is_prime P w K mg base := ok_is_prime T
  have cbase_digits : Pr_base_digits P w K mg base := ok_base_digits T
  have cis_irreducible : Pr_is_irreducible P w K mg base := ok_is_irreducible T
  have cis_modulus : Pr_is_modulus P w K mg base := ok_is_modulus T cint_power cis_irreducible
  have cField___init__ : Pr_Field___init__ P w K mg base := ok_Field___init__ T cis_prime cis_modulus cint_power
  have cField_digits : Pr_Field_digits P w K mg base := ok_Field_digits T cbase_digits
  have cField_element : Pr_Field_element P w K mg base := ok_Field_element T
  have cField_plus : Pr_Field_plus P w K mg base := ok_Field_plus T
  have cField_negative : Pr_Field_negative P w K mg base := ok_Field_negative T cField_element cField_digits
  have cField_minus : Pr_Field_minus P w K mg base := ok_Field_minus T cField_plus cField_negative
  have cField_times : Pr_Field_times P w K mg base := ok_Field_times T
  have cField_inverse : Pr_Field_inverse P w K mg base := ok_Field_inverse T cField_times
  have ccheck_width : Pr_check_width P w K mg base := ok_check_width T
  have crow_with_pivot : Pr_row_with_pivot P w K mg base := ok_row_with_pivot T
  have cwithout_multiple : Pr_without_multiple P w K mg base := ok_without_multiple T cField_minus cField_times
  have creduce_rows : Pr_reduce_rows P w K mg base := ok_reduce_rows T ccheck_width crow_with_pivot cField_inverse cField_times cwithout_multiple
  have ckernel : Pr_kernel P w K mg base := ok_kernel T ccheck_width creduce_rows cField_negative
  have ccheck_lengths : Pr_check_lengths P w K mg base := ok_check_lengths T
  have cerased_positions : Pr_erased_positions P w K mg base := ok_erased_positions T
  have cerrors_beside : Pr_errors_beside P w K mg base := ok_errors_beside T ccheck_lengths
  have cis_received : Pr_is_received P w K mg base := ok_is_received T
  have cis_word : Pr_is_word P w K mg base := ok_is_word T cis_received cerased_positions
  have czero_word : Pr_zero_word P w K mg base := ok_zero_word T
  have ccheck_words : Pr_check_words P w K mg base := ok_check_words T ccheck_lengths cis_word
  have cadd_words : Pr_add_words P w K mg base := ok_add_words T ccheck_words cField_plus
  have cscale_word : Pr_scale_word P w K mg base := ok_scale_word T cis_word cField_times
  have ccheck_rows : Pr_check_rows P w K mg base := ok_check_rows T cis_word
  have cis_bit : Pr_is_bit P w K mg base := ok_is_bit T
  have chas_bits_only : Pr_has_bits_only P w K mg base := ok_has_bits_only T cis_bit
  have cchecked_taps : Pr_checked_taps P w K mg base := ok_checked_taps T chas_bits_only
  have cmessage_size : Pr_message_size P w K mg base := ok_message_size T
  have cEncoder_advance : Pr_Encoder_advance P w K mg base := ok_Encoder_advance T cis_bit
  have cstep_table : Pr_step_table P w K mg base := ok_step_table T cEncoder_advance
  have cEncoder___init__ : Pr_Encoder___init__ P w K mg base := ok_Encoder___init__ T cchecked_taps cint_power
  have cEncoder__fed : Pr_Encoder__fed P w K mg base := ok_Encoder__fed T chas_bits_only
  have cEncoder_word_for : Pr_Encoder_word_for P w K mg base := ok_Encoder_word_for T cEncoder__fed cEncoder_advance
  have cLinearCode___init__ : Pr_LinearCode___init__ P w K mg base := ok_LinearCode___init__ T ccheck_rows creduce_rows ckernel cint_power
  have cLinearCode_words : Pr_LinearCode_words P w K mg base := ok_LinearCode_words T czero_word cscale_word cadd_words
  have cEncoder_linear : Pr_Encoder_linear P w K mg base := ok_Encoder_linear T cEncoder_word_for cField___init__ cLinearCode___init__
  have ccheck_received : Pr_check_received P w K mg base := ok_check_received T cis_received
  have cnearest : Pr_nearest P w K mg base := ok_nearest T ccheck_received cLinearCode_words cerrors_beside
  have creceived_steps : Pr_received_steps P w K mg base := ok_received_steps T cmessage_size cis_bit
  have cTrellis___init__ : Pr_Trellis___init__ P w K mg base := ok_Trellis___init__ T creceived_steps cstep_table
  have cTrellis_moves_from : Pr_Trellis_moves_from P w K mg base := ok_Trellis_moves_from T cerrors_beside
  have cTrellis_costs_table : Pr_Trellis_costs_table P w K mg base := ok_Trellis_costs_table T cTrellis_moves_from
  have cTrellis_best_moves : Pr_Trellis_best_moves P w K mg base := ok_Trellis_best_moves T cTrellis_moves_from
  have ccosts_to_go : Pr_costs_to_go P w K mg base := ok_costs_to_go T cTrellis_costs_table cTrellis___init__
  have cbest_path : Pr_best_path P w K mg base := ok_best_path T cTrellis_costs_table cTrellis_best_moves cTrellis___init__
  have cis_bound : Pr_is_bound P w K mg base := ok_is_bound T cTrellis_moves_from
  have ccheck_path : Pr_check_path P w K mg base := ok_check_path T chas_bits_only cEncoder_word_for cerrors_beside cis_bound cTrellis___init__
  have cweighted_steps : Pr_weighted_steps P w K mg base := ok_weighted_steps T cstep_table
  have cranks_to_zero : Pr_ranks_to_zero P w K mg base := ok_ranks_to_zero T
  have cweights_to_zero : Pr_weights_to_zero P w K mg base := ok_weights_to_zero T cweighted_steps cranks_to_zero
  have cfree_distance : Pr_free_distance P w K mg base := ok_free_distance T cweighted_steps cweights_to_zero
  have ccommon_start : Pr_common_start P w K mg base := ok_common_start T
  have cSummary___init__ : Pr_Summary___init__ P w K mg base := ok_Summary___init__ T
  have cSummary_grown : Pr_Summary_grown P w K mg base := ok_Summary_grown T cSummary___init__
  have cmerged : Pr_merged P w K mg base := ok_merged T ccommon_start cSummary___init__
  have cPathDecoder_restart : Pr_PathDecoder_restart P w K mg base := ok_PathDecoder_restart T cSummary___init__
  have cPathDecoder___init__ : Pr_PathDecoder___init__ P w K mg base := ok_PathDecoder___init__ T cstep_table cPathDecoder_restart
  have cPathDecoder_settled : Pr_PathDecoder_settled P w K mg base gS := ok_PathDecoder_settled hFS T ccommon_start
  have cPathDecoder_take : Pr_PathDecoder_take P w K mg base := ok_PathDecoder_take T cis_bit cSummary_grown cerrors_beside cmerged hPS cPathDecoder_settled
  have cPathDecoder_answer : Pr_PathDecoder_answer P w K mg base := ok_PathDecoder_answer T
  have cnearest_messages : Pr_nearest_messages P w K mg base := ok_nearest_messages T cTrellis_costs_table cTrellis_best_moves cTrellis___init__
  have c_law_row : Pr__law_row P w K mg base := ok__law_row T
  have c_law_numbers : Pr__law_numbers P w K mg base := ok__law_numbers T c_law_row
  have c_law_count : Pr__law_count P w K mg base := ok__law_count T
  have c_law_step : Pr__law_step P w K mg base := ok__law_step T c_law_count
  have c_law_word : Pr__law_word P w K mg base := ok__law_word T
  have c_law_messages : Pr__law_messages P w K mg base := ok__law_messages T
  have c_law_differ : Pr__law_differ P w K mg base := ok__law_differ T
  have c_law_received : Pr__law_received P w K mg base := ok__law_received T c_law_word
  have c_law_nearest : Pr__law_nearest P w K mg base := ok__law_nearest T c_law_messages c_law_word c_law_differ
  have c_law_free : Pr__law_free P w K mg base := ok__law_free T c_law_count c_law_step
  have c_law_taps : Pr__law_taps P w K mg base := ok__law_taps T
  have c_law_same : Pr__law_same P w K mg base := ok__law_same T
  have c_law_decoded : Pr__law_decoded P w K mg base := ok__law_decoded T cPathDecoder_take cPathDecoder_answer cPathDecoder___init__ hPS cPathDecoder_settled
  have c_law_small : Pr__law_small P w K mg base := ok__law_small T c_law_nearest c_law_word cEncoder_linear cnearest c_law_same cbest_path cnearest_messages c_law_decoded
  have c_law_pattern : Pr__law_pattern P w K mg base := ok__law_pattern T
  exact ok_law hF T c_law_numbers c_law_taps c_law_received c_law_small c_law_free cfree_distance c_law_same c_law_word cbest_path c_law_pattern cnearest_messages ccosts_to_go ccheck_path c_law_decoded cEncoder___init__
/-- the law's function object and its promise -/
theorem facts {P : Program} {w : World} {K : PySem.W.Frag} {h : Heap} {mg : Str → Option Value} {f : Addr} (X : K.In h) (G : h.Ns mainGlobals mg) (hfa : mg ("law" : Str) = some (.ref f)) (c : SaysM K) :
    ∃ fd : FuncData, (∀ (s : Shared) (v : Value), BindsTo s fd ⟨[v], []⟩ [("_law_script", v)]) ∧ ∀ base : Heap, K.In base → base.Ns mainGlobals mg → FnOk P w K mg base CX0 12 f fd ["_law_script"] (sp_law K) := by
  obtain ⟨fd, F⟩ := (says1 c).def_ 79 (d := d_law) rfl
  have T := tx_of X G c
  have e := hfa.symm.trans T.g_law
  cases e
  have b := FunD.bindsA (ps := ["_law_script"]) F fun _ _ _ _ _ _ us hl => match us, hl with | [_], _ => rfl
  exact ⟨fd, fun s v => b s [v] rfl, fun base _ _ => law_all F T⟩
end NW
open PySem PySem.W PySem.Calls PyProof.Rows
theorem PySem.Challenge.cw_nearestword_k93_whole_paths_holds : PySem.Challenge.rw_nearestword_k93_whole_paths.Holds := by
  w_on; o_law
  refine HandSHeadRun.head_any (r := OpenLaw.row PySem.Challenge.rw_nearestword_k93_whole_paths) (q := view (OpenLaw.row PySem.Challenge.rw_nearestword_k93_whole_paths).prog [85]) (H := NH.hk) (ob := NH.ob) (M := 12000) (loose := NH.names) (d := HandSHeadRun.topDef (OpenLaw.row PySem.Challenge.rw_nearestword_k93_whole_paths).prog 85) (kwd := []) NH.ob_eq
    (by kernel_rfl) (fun s => by kernel_rfl) NH.run (by kernel_rfl) (by kernel_rfl) (by kernel_rfl) (by rfl) (by first | assumption | decide +kernel) (by decide +kernel) ⟨rfl, rfl, rfl, rfl, rfl, by decide +kernel⟩ ?hw ?hc
  case hw => w_witness2
  case hc =>
    refine L2.walk_ofE (l := PySem.Challenge.rw_nearestword_k93_whole_paths) (n := 63) (k := 12) (x := "_law_script") (CX := L2.CX0) rfl (by decide) (by kernel_rfl) ⟨rfl, by decide, by decide⟩ ?F (fun _ _ _ _ z => z)
    intro w mg fa h Y G hmg0
    obtain ⟨K, KX, c⟩ := Y
    have hmg : mg ("law" : PySem.Str) = some (.ref fa) := by
      have e : (HandSHeadRun.topDef (OpenLaw.row PySem.Challenge.rw_nearestword_k93_whole_paths).prog 85).name = ("law" : PySem.Str) := by kernel_rfl
      rw [← e]
      exact hmg0
    obtain ⟨fd, hb, hF⟩ := NW.facts (P := (PySem.Challenge.rw_nearestword_k93_whole_paths).prog) (w := w) KX G hmg c
    exact ⟨K, fd, NW.sp_law K, KX, hb, fun H a ns hl _ hS => ⟨H, .ref a, ns, rfl, L2.Same.refl H, ⟨a, _, rfl, hS, _root_.G.ints_ok ns⟩, hl, fun F' H' v y _ r hy => by rw [show v = .bl y from r, hy]⟩, hF⟩
